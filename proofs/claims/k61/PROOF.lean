import PyProof.Rows.All
import Wide.All
import OpenK.AllK
import Wide.FinOn
import HandS.ForMost
import HandS.Wide
import HandS.Walk
import HandS.Deep
import HandS.SortInts
import HandS.Flow
import HandS.IsInst
import PyProof.P3In
import HandS.TupSets
import HandS.Dict
import HandS.Conv
import HandS.SortRule
import KE.KIsAll
import HandS.Base
import HandS.Call
import HandS.Exc
import HandS.ExcOwn
import HandS.ExcIs
import HandS.ExcValue
import HandS.TryOnly
import HandS.WordsExc
import HandS.TupAny
import HandS.DictTup
import KE.KDictWalk
import HandS.Iter
import HandS.SortKw
import HandS.Codes
import KE.SortKeyHeap
import PyProof.DictMoreH
import HandS.SetKeys
import KE.IntBitsLaws
import PyProof.AutoSeq1
import HandS.TupLen
import HandS.Sort
import HandS.SortOrd
import HandS.SetFor
import HandS.Strs
import HandS.More
import PySem.Challenge.RW_farhail_k61_whole_hunts_and_shelters_pla
set_option Elab.async false
set_option linter.all false
set_option maxRecDepth 100000
set_option maxHeartbeats 4000000
/-! Z0: results with refusals, data as it stands in a heap, the heap in a frozen part and cells of one's own -/
namespace Z
open PySem L2
abbrev Fg := PySem.W.Frag
/-! ### results -/
structure Exn where
  cls : Str
  arg : Int
  deriving DecidableEq
inductive R (α : Type) where
  | ok (a : α)
  | exc (e : Exn)
  | bad
def R.bind {α β : Type} (m : R α) (f : α → R β) : R β :=
  match m with
  | .ok a => f a
  | .exc e => .exc e
  | .bad => .bad
instance : Monad R where
  pure := R.ok
  bind := R.bind
section
variable {α β γ : Type}
theorem ok_bind (a : α) (f : α → R β) : (R.ok a >>= f) = f a := rfl
theorem bind_bind (m : R α) (f : α → R β) (g : β → R γ) : ((m >>= f) >>= g) = (m >>= fun a => f a >>= g) := by
  cases m <;> rfl
theorem bind_ok_iff {m : R α} {f : α → R β} {b : β} : (m >>= f) = R.ok b ↔ ∃ a, m = R.ok a ∧ f a = R.ok b := by
  cases m with
  | ok a => exact ⟨fun h => ⟨a, rfl, h⟩, fun ⟨_, h1, h2⟩ => by cases h1; exact h2⟩
  | exc e => exact ⟨fun h => (nomatch (show R.exc e = R.ok b from h)), fun ⟨_, h1, _⟩ => nomatch h1⟩
  | bad => exact ⟨fun h => (nomatch (show R.bad = R.ok b from h)), fun ⟨_, h1, _⟩ => nomatch h1⟩
def grd (b : Bool) : R Unit := if b = true then .ok () else .bad
theorem grd_t {b : Bool} (h : b = true) : grd b = R.ok () := by rw [h]; rfl
def ofO (o : Option α) : R α :=
  match o with
  | some a => .ok a
  | none => .bad
/-- the item at an index of any sign -/
def getI (xs : List α) (i : Int) : R α := ofO (atI xs i)
/-- the list with another item at an index -/
def setI (xs : List α) (i : Int) (x : α) : R (List α) :=
  match ixN xs.length i with
  | some j => .ok (xs.set j x)
  | none => .bad
/-- a list of at most a thousand items grows by one -/
def app (xs : List α) (x : α) : R (List α) := if xs.length < 100000 then .ok (xs ++ [x]) else .bad
def extend (xs ys : List α) : R (List α) := if xs.length + ys.length < 100000 then .ok (xs ++ ys) else .bad
@[irreducible] def mulI (i j : Int) : R Int := if (-(2 ^ 64) < i ∧ i < 2 ^ 64) ∨ (-(2 ^ 64) < j ∧ j < 2 ^ 64) then .ok (i * j) else .bad
@[irreducible] def modI (i j : Int) : R Int := if 0 < j then .ok (i % j) else .bad
@[irreducible] def divI (i j : Int) : R Int := if 0 < j ∧ j.natAbs.log2 < 9000 then .ok (i / j) else .bad
/-- the ints from i on below j -/
def rng (i j : Int) : List Int := (List.range (j - i).toNat).map fun (k : Nat) => i + (k : Int)
@[irreducible] def rngI (i j : Int) : R (List Int) := if -(2 ^ 62) ≤ i ∧ i < 2 ^ 62 ∧ -(2 ^ 62) ≤ j ∧ j < 2 ^ 62 then .ok (rng i j) else .bad
/-- items for items -/
def mapR (f : α → R β) : List α → R (List β)
  | [] => .ok []
  | x :: xs => do
    let y ← f x
    let ys ← mapR f xs
    pure (y :: ys)
/-- a fold whose turn may leave -/
def foldR (f : β → α → R β) : β → List α → R β
  | s, [] => .ok s
  | s, x :: xs => f s x >>= fun s' => foldR f s' xs
/-- a fold whose turn may end the whole with a value (inl), or the loop alone (inr inl) -/
def foldX {ρ : Type} (f : β → α → R (Sum ρ (Bool × β))) : β → List α → R (Sum ρ β)
  | s, [] => .ok (.inr s)
  | s, x :: xs => f s x >>= fun r =>
    match r with
    | .inl z => .ok (.inl z)
    | .inr (true, s') => foldX f s' xs
    | .inr (false, s') => .ok (.inr s')
/-- what holds of a result -/
def Post (m : R α) (P : α → Prop) (E : Exn → Prop) : Prop :=
  match m with
  | .ok a => P a
  | .exc e => E e
  | .bad => False
variable {P P' : α → Prop} {Q : β → Prop} {E E' : Exn → Prop}
theorem Post.mono {m : R α} (h : Post m P E) (hP : ∀ a, P a → P' a) (hE : ∀ e, E e → E' e) : Post m P' E' := by
  cases m with
  | ok a => exact hP a h
  | exc e => exact hE e h
  | bad => exact h
theorem post_bind {m : R α} {f : α → R β} (h : Post (m >>= f) Q E) : Post m (fun a => Post (f a) Q E) E := by
  cases m <;> exact h
theorem post_ok {a : α} (h : Post (R.ok a) P E) : P a := h
theorem pb_assoc {m : R α} {f : α → R β} {g : β → R γ} {Q : γ → Prop} (h : Post ((m >>= f) >>= g) Q E) : Post (m >>= fun a => f a >>= g) Q E := by
  rw [bind_bind] at h
  exact h
theorem pb_grd {b : Bool} {f : Unit → R β} (h : Post (grd b >>= f) Q E) : b = true ∧ Post (f ()) Q E := by
  cases b with
  | true => exact ⟨rfl, h⟩
  | false => exact (show False from h).elim
theorem pb_ofO {o : Option α} {f : α → R β} (h : Post (ofO o >>= f) Q E) : ∃ a, o = some a ∧ Post (f a) Q E := by
  cases o with
  | some a => exact ⟨a, rfl, h⟩
  | none => exact (show False from h).elim
theorem pb_get {xs : List α} {i : Int} {f : α → R β} (h : Post (getI xs i >>= f) Q E) : ∃ a, atI xs i = some a ∧ Post (f a) Q E := pb_ofO h
theorem pb_set {xs : List α} {i : Int} {x : α} {f : List α → R β} (h : Post (setI xs i x >>= f) Q E) : ∃ j, ixN xs.length i = some j ∧ Post (f (xs.set j x)) Q E := by
  unfold setI at h
  cases e : ixN xs.length i with
  | some j => rw [e] at h; exact ⟨j, rfl, h⟩
  | none => rw [e] at h; exact (show False from h).elim
theorem pb_if {c : Prop} [Decidable c] {a : α} {f : α → R β} (h : Post ((if c then R.ok a else R.bad) >>= f) Q E) : c ∧ Post (f a) Q E := by
  by_cases hc : c
  · rw [if_pos hc] at h
    exact ⟨hc, h⟩
  · rw [if_neg hc] at h
    exact (show False from h).elim
theorem line5 : 100000 ≤ sizeLine := by decide
theorem pb_app {xs : List α} {x : α} {f : List α → R β} (h : Post (app xs x >>= f) Q E) : xs.length < sizeLine ∧ Post (f (xs ++ [x])) Q E :=
  let ⟨a, b⟩ := pb_if h
  ⟨Nat.lt_of_lt_of_le a line5, b⟩
theorem pb_extend {xs ys : List α} {f : List α → R β} (h : Post (extend xs ys >>= f) Q E) : xs.length + ys.length ≤ sizeLine ∧ Post (f (xs ++ ys)) Q E :=
  let ⟨a, b⟩ := pb_if h
  ⟨Nat.le_of_lt (Nat.lt_of_lt_of_le a line5), b⟩
theorem pb_mul {i j : Int} {f : Int → R β} (h : Post (mulI i j >>= f) Q E) : CMul i j ∧ Post (f (i * j)) Q E := by
  unfold mulI at h
  exact let ⟨a, b⟩ := pb_if (c := (-(2 ^ 64) < i ∧ i < 2 ^ 64) ∨ (-(2 ^ 64) < j ∧ j < 2 ^ 64)) h
  ⟨a, b⟩
theorem pb_mod {i j : Int} {f : Int → R β} (h : Post (modI i j >>= f) Q E) : 0 < j ∧ Post (f (i % j)) Q E := by
  unfold modI at h
  exact pb_if h
theorem pb_div {i j : Int} {f : Int → R β} (h : Post (divI i j >>= f) Q E) : CDivW i j ∧ Post (f (i / j)) Q E := by
  unfold divI at h
  exact let ⟨a, b⟩ := pb_if (c := 0 < j ∧ j.natAbs.log2 < 9000) h
  ⟨a, b⟩
theorem pb_rng {i j : Int} {f : List Int → R β} (h : Post (rngI i j >>= f) Q E) : (-(2 ^ 62) ≤ i ∧ i < 2 ^ 62 ∧ -(2 ^ 62) ≤ j ∧ j < 2 ^ 62) ∧ Post (f (rng i j)) Q E := by
  unfold rngI at h
  exact pb_if h
theorem post_ite {c : Bool} {m n : R α} {A B : Prop} (h : Post (if c = true then m else n) P E) (ht : c = true → Post m P E → A) (hf : c = false → Post n P E → B) : if c = true then A else B := by
  cases c with
  | true => exact ht rfl h
  | false => exact hf rfl h
theorem pb_foldR {f : γ → α → R γ} {s : γ} {x : α} {xs : List α} {g : γ → R β} (h : Post (foldR f s (x :: xs) >>= g) Q E) : Post (f s x >>= fun s' => foldR f s' xs >>= g) Q E := by
  have h' : Post ((f s x >>= fun s' => foldR f s' xs) >>= g) Q E := h
  rw [bind_bind] at h'
  exact h'
end
/-! ### lists of values and what they stand for -/
inductive A2 {α : Type} (r : V → α → Prop) : List V → List α → Prop
  | nil : A2 r [] []
  | cons {v : V} {x : α} {vs : List V} {xs : List α} : r v x → A2 r vs xs → A2 r (v :: vs) (x :: xs)
section
variable {α : Type} {r r' : V → α → Prop} {vs us : List V} {xs ys : List α} {v : V} {x : α}
theorem A2.length : ∀ {vs : List V} {xs : List α}, A2 r vs xs → vs.length = xs.length
  | _, _, .nil => rfl
  | _, _, .cons _ t => by rw [List.length_cons, List.length_cons, A2.length t]
theorem A2.imp (f : ∀ v x, r v x → r' v x) : ∀ {vs : List V} {xs : List α}, A2 r vs xs → A2 r' vs xs
  | _, _, .nil => .nil
  | _, _, .cons h t => .cons (f _ _ h) (A2.imp f t)
theorem A2.append : ∀ {vs us : List V} {xs ys : List α}, A2 r vs xs → A2 r us ys → A2 r (vs ++ us) (xs ++ ys)
  | _, _, _, _, .nil, h => h
  | _, _, _, _, .cons a t, h => .cons a (A2.append t h)
theorem A2.snoc (h : A2 r vs xs) (a : r v x) : A2 r (vs ++ [v]) (xs ++ [x]) := h.append (.cons a .nil)
theorem A2.get : ∀ {vs : List V} {xs : List α} {i : Nat} {x : α}, A2 r vs xs → xs[i]? = some x → ∃ v, vs[i]? = some v ∧ r v x
  | _, _, _, _, .nil, e => by simp at e
  | _, _, 0, _, .cons a _, e => by simp at e; subst e; exact ⟨_, rfl, a⟩
  | _, _, i + 1, x, .cons _ t, e => by
    obtain ⟨v, h1, h2⟩ := A2.get (i := i) (x := x) t (by simpa using e)
    exact ⟨v, by simpa using h1, h2⟩
theorem A2.getV : ∀ {vs : List V} {xs : List α} {i : Nat} {v : V}, A2 r vs xs → vs[i]? = some v → ∃ x, xs[i]? = some x ∧ r v x
  | _, _, _, _, .nil, e => by simp at e
  | _, _, 0, _, .cons a _, e => by simp at e; subst e; exact ⟨_, rfl, a⟩
  | _, _, i + 1, x, .cons _ t, e => by
    obtain ⟨v, h1, h2⟩ := A2.getV (i := i) (v := x) t (by simpa using e)
    exact ⟨v, by simpa using h1, h2⟩
theorem A2.at {i : Int} (h : A2 r vs xs) (e : atI xs i = some x) : ∃ v, atI vs i = some v ∧ r v x := by
  unfold atI at e ⊢
  rw [h.length]
  cases q : ixN xs.length i with
  | none => rw [q] at e; cases e
  | some j =>
    rw [q] at e
    exact h.get e
theorem A2.set (a : r v x) : ∀ {vs : List V} {xs : List α} (i : Nat), A2 r vs xs → A2 r (vs.set i v) (xs.set i x)
  | _, _, _, .nil => .nil
  | _, _, 0, .cons _ t => .cons a t
  | _, _, i + 1, .cons q t => .cons q (A2.set a i t)
theorem A2.take : ∀ {vs : List V} {xs : List α} (n : Nat), A2 r vs xs → A2 r (vs.take n) (xs.take n)
  | _, _, 0, _ => .nil
  | _, _, _ + 1, .nil => .nil
  | _, _, n + 1, .cons a t => .cons a (A2.take n t)
theorem A2.drop : ∀ {vs : List V} {xs : List α} (n : Nat), A2 r vs xs → A2 r (vs.drop n) (xs.drop n)
  | _, _, 0, h => h
  | _, _, _ + 1, .nil => .nil
  | _, _, n + 1, .cons _ t => A2.drop n t
theorem A2.reverse : ∀ {vs : List V} {xs : List α}, A2 r vs xs → A2 r vs.reverse xs.reverse
  | _, _, .nil => .nil
  | _, _, .cons a t => by
    rw [List.reverse_cons, List.reverse_cons]
    exact (A2.reverse t).snoc a
theorem A2.dropLast : ∀ {vs : List V} {xs : List α}, A2 r vs xs → A2 r vs.dropLast xs.dropLast
  | _, _, .nil => .nil
  | _, _, .cons _ .nil => .nil
  | _, _, .cons a (.cons b t) => .cons a (A2.dropLast (.cons b t))
end
/-! ### data in a heap -/
class Rep (α : Type) where
  rep : Fg → Hp → V → α → Prop
  mono : ∀ {K : Fg} {H H' : Hp} {v : V} {x : α}, Same H H' → rep K H v x → rep K H' v x
open Rep (rep)
section
variable {α β : Type} [Rep α] [Rep β] {K : Fg} {H H' : Hp} {v : V}
theorem A2.mono {vs : List V} {xs : List α} (s : Same H H') (h : A2 (rep K H) vs xs) : A2 (rep K H') vs xs := h.imp fun _ _ => Rep.mono s
instance : Rep Int := ⟨fun _ _ v x => v = .int x, fun _ h => h⟩
instance : Rep Bool := ⟨fun _ _ v x => v = .bl x, fun _ h => h⟩
instance : Rep Unit := ⟨fun _ _ v _ => v = .non, fun _ h => h⟩
instance : Rep Str := ⟨fun _ _ v x => v = .str x, fun _ h => h⟩
instance repOpt : Rep (Option α) := ⟨fun K H v x => match x with
  | none => v = .non
  | some y => rep K H v y, fun {_ _ _ _ x} s h => by
    cases x with
    | none => exact h
    | some y => exact Rep.mono (α := α) s h⟩
instance repPair : Rep (α × β) := ⟨fun K H v x => ∃ a u w, v = .ref a ∧ H a = some (.tup [u, w]) ∧ rep K H u x.1 ∧ rep K H w x.2,
  fun s ⟨a, u, w, e, q, h1, h2⟩ => ⟨a, u, w, e, s _ _ q, Rep.mono s h1, Rep.mono s h2⟩⟩
instance repList : Rep (List α) := ⟨fun K H v xs => ∃ a vs, v = .ref a ∧ H a = some (.lst vs) ∧ A2 (rep K H) vs xs,
  fun s ⟨a, vs, e, q, h⟩ => ⟨a, vs, e, s _ _ q, h.mono s⟩⟩
/-- the script -/
structure Scr where
  l : List Int
  deriving DecidableEq
instance repScr : Rep Scr := ⟨fun K H v xs => ∃ a, v = .ref a ∧ SqL K H a (xs.l.map V.int), fun s ⟨a, e, q⟩ => ⟨a, e, s.seq q⟩⟩
/-- a tuple of any number of like things -/
structure Tup (α : Type) where
  l : List α
  deriving DecidableEq
instance repTup : Rep (Tup α) := ⟨fun K H v xs => ∃ a vs, v = .ref a ∧ H a = some (.tup vs) ∧ A2 (rep K H) vs xs.l,
  fun s ⟨a, vs, e, q, h⟩ => ⟨a, vs, e, s _ _ q, h.mono s⟩⟩
/-- a place, or a pair -/
inductive Thing where
  | pl (i : Int)
  | ti (a b : Int)
  deriving DecidableEq
instance repThing : Rep Thing := ⟨fun K H v x => match x with
  | .pl i => v = .int i
  | .ti a b => rep K H v (a, b), fun {_ _ _ _ x} s h => by
    cases x with
    | pl i => exact h
    | ti a b => exact Rep.mono (α := Int × Int) s h⟩
theorem A2.ints {vs : List V} {xs : List Int} (h : A2 (rep K H) vs xs) : vs = xs.map V.int := by
  induction h with
  | nil => rfl
  | cons a _ ih =>
    have a' : _ = V.int _ := a
    rw [a', ih]
    rfl
theorem A2.of_ints {xs : List Int} : A2 (rep K H) (xs.map V.int) xs := by
  induction xs with
  | nil => exact .nil
  | cons x xs ih => exact .cons rfl ih
theorem A2.bools {vs : List V} {xs : List Bool} (h : A2 (rep K H) vs xs) : vs = xs.map V.bl := by
  induction h with
  | nil => rfl
  | cons a _ ih =>
    have a' : _ = V.bl _ := a
    rw [a', ih]
    rfl
end
/-! ### the heap: F, frozen, is read alone; the cells os are one's own, not in F -/
structure W (F H : Hp) (os : List (Addr × HO)) : Prop where
  same : Same F H
  own : ∀ p ∈ os, H p.1 = some p.2 ∧ F p.1 = none
  nd : os.Pairwise fun p q => p.1 ≠ q.1
  nt : ∀ p ∈ os, ∀ vs, p.2 ≠ .tup vs
theorem same_new {H : Hp} {p : Addr} {o : HO} (h : H p = none) : Same H (upd H p o) := fun a u e => by
  rw [upd_ne (ne_of_none e h)]
  exact e
section
variable {F H : Hp} {os pre post : List (Addr × HO)} {a p : Addr} {o o' : HO}
theorem W.free (w : W F H os) (n : H p = none) : F p = none := w.same.free n
theorem W.get (w : W F H (pre ++ (a, o) :: post)) : H a = some o := (w.own (a, o) (List.mem_append_right _ List.mem_cons_self)).1
theorem W.no (w : W F H (pre ++ (a, o) :: post)) : F a = none := (w.own (a, o) (List.mem_append_right _ List.mem_cons_self)).2
theorem W.ne (w : W F H os) (n : H p = none) : ∀ q ∈ os, q.1 ≠ p := fun q hq e => by
  have h := (w.own q hq).1
  rw [e, n] at h
  cases h
/-- a new thing, never to be written -/
theorem W.frz (w : W F H os) (n : H p = none) : W (upd F p o) (upd H p o) os where
  same := fun b u e => by
    by_cases hb : b = p
    · subst hb
      rw [upd_same] at e ⊢
      exact e
    · rw [upd_ne hb] at e ⊢
      exact w.same b u e
  own := fun q hq => by
    have hne := w.ne n q hq
    rw [upd_ne hne, upd_ne hne]
    exact w.own q hq
  nd := w.nd
  nt := w.nt
theorem W.frzS (w : W F H os) (n : H p = none) : Same F (upd F p o) := same_new (w.free n)
/-- a new cell of one's own -/
theorem W.new (w : W F H os) (n : H p = none) (ho : ∀ vs, o ≠ .tup vs := by exact fun _ h => nomatch h) : W F (upd H p o) ((p, o) :: os) where
  same := w.same.trans (same_new n)
  own := fun q hq => by
    rcases List.mem_cons.mp hq with rfl | hq
    · exact ⟨upd_same, w.free n⟩
    · rw [upd_ne (w.ne n q hq)]
      exact w.own q hq
  nd := List.pairwise_cons.mpr ⟨fun q hq => fun e => w.ne n q hq e.symm, w.nd⟩
  nt := fun q hq => by
    rcases List.mem_cons.mp hq with rfl | hq
    · exact ho
    · exact w.nt q hq
/-- a cell of one's own is written -/
theorem W.set (w : W F H (pre ++ (a, o) :: post)) (ho : ∀ vs, o' ≠ .tup vs := by exact fun _ h => nomatch h) : W F (upd H a o') (pre ++ (a, o') :: post) where
  same := fun b u e => by
    have hn := w.no
    rw [upd_ne (ne_of_none e hn)]
    exact w.same b u e
  own := fun q hq => by
    have nd := w.nd
    rw [List.pairwise_append] at nd
    obtain ⟨_, n2, n3⟩ := nd
    rw [List.pairwise_cons] at n2
    rcases List.mem_append.mp hq with hq | hq
    · have hne : q.1 ≠ a := n3 q hq (a, o) List.mem_cons_self
      rw [upd_ne hne]
      exact w.own q (List.mem_append_left _ hq)
    · rcases List.mem_cons.mp hq with rfl | hq
      · exact ⟨upd_same, w.no⟩
      · have hne : q.1 ≠ a := fun e => n2.1 q hq e.symm
        rw [upd_ne hne]
        exact w.own q (List.mem_append_right _ (List.mem_cons_of_mem _ hq))
  nd := by
    have nd := w.nd
    rw [List.pairwise_append] at nd ⊢
    obtain ⟨n1, n2, n3⟩ := nd
    rw [List.pairwise_cons] at n2 ⊢
    refine ⟨n1, ⟨n2.1, n2.2⟩, fun x hx y hy => ?_⟩
    rcases List.mem_cons.mp hy with rfl | hy
    · exact n3 x hx (a, o) List.mem_cons_self
    · exact n3 x hx y (List.mem_cons_of_mem _ hy)
  nt := fun q hq => by
    rcases List.mem_append.mp hq with hq | hq
    · exact w.nt q (List.mem_append_left _ hq)
    · rcases List.mem_cons.mp hq with rfl | hq
      · exact ho
      · exact w.nt q (List.mem_append_right _ (List.mem_cons_of_mem _ hq))
/-- a cell is forgotten -/
theorem W.drop (w : W F H (pre ++ (a, o) :: post)) : W F H (pre ++ post) where
  same := w.same
  own := fun q hq => w.own q (by
    rcases List.mem_append.mp hq with h | h
    · exact List.mem_append_left _ h
    · exact List.mem_append_right _ (List.mem_cons_of_mem _ h))
  nd := by
    have nd := w.nd
    rw [List.pairwise_append] at nd ⊢
    obtain ⟨n1, n2, n3⟩ := nd
    rw [List.pairwise_cons] at n2
    exact ⟨n1, n2.2, fun x hx y hy => n3 x hx y (List.mem_cons_of_mem _ hy)⟩
  nt := fun q hq => w.nt q (by
    rcases List.mem_append.mp hq with h | h
    · exact List.mem_append_left _ h
    · exact List.mem_append_right _ (List.mem_cons_of_mem _ h))
/-- a cell of one's own is never written again -/
theorem W.freeze (w : W F H (pre ++ (a, o) :: post)) : W (upd F a o) H (pre ++ post) where
  same := fun b u e => by
    by_cases hb : b = a
    · subst hb
      rw [upd_same] at e
      rw [← e]
      exact w.get
    · rw [upd_ne hb] at e
      exact w.same b u e
  own := fun q hq => by
    have nd := w.nd
    rw [List.pairwise_append] at nd
    obtain ⟨n1, n2, n3⟩ := nd
    rw [List.pairwise_cons] at n2
    have hne : q.1 ≠ a := by
      rcases List.mem_append.mp hq with h | h
      · exact n3 q h (a, o) List.mem_cons_self
      · exact fun e => n2.1 q h e.symm
    have h := w.drop.own q hq
    rw [upd_ne hne]
    exact h
  nd := w.drop.nd
  nt := w.drop.nt
theorem W.freezeS (w : W F H (pre ++ (a, o) :: post)) : Same F (upd F a o) := same_new w.no
/-- a cell is told first -/
theorem W.front (w : W F H (pre ++ (a, o) :: post)) : W F H ((a, o) :: (pre ++ post)) where
  same := w.same
  own := fun x hx => w.own x (by
    rcases List.mem_cons.mp hx with rfl | h
    · exact List.mem_append_right _ List.mem_cons_self
    · rcases List.mem_append.mp h with h | h
      · exact List.mem_append_left _ h
      · exact List.mem_append_right _ (List.mem_cons_of_mem _ h))
  nd := by
    have nd := w.nd
    have nd' := w.drop.nd
    rw [List.pairwise_append] at nd
    obtain ⟨n1, n2, n3⟩ := nd
    rw [List.pairwise_cons] at n2
    refine List.pairwise_cons.mpr ⟨fun x hx => ?_, nd'⟩
    rcases List.mem_append.mp hx with h | h
    · exact fun e => n3 x h (a, o) List.mem_cons_self e.symm
    · exact n2.1 x h
  nt := fun x hx => w.nt x (by
    rcases List.mem_cons.mp hx with rfl | h
    · exact List.mem_append_right _ List.mem_cons_self
    · rcases List.mem_append.mp h with h | h
      · exact List.mem_append_left _ h
      · exact List.mem_append_right _ (List.mem_cons_of_mem _ h))
end
/-! ### what a call hands back -/
section
variable {α β : Type} [Rep α] [Rep β]
/-- a value of the frozen part -/
def Ret (K : Fg) (F : Hp) (os : List (Addr × HO)) (Q : VK) (y : α) : Prop := ∀ v F' H', W F' H' os → Same F F' → rep K F' v y → Q v H'
/-- a new list, the caller's own -/
def RetL (K : Fg) (F : Hp) (os : List (Addr × HO)) (Q : VK) (ys : List α) : Prop := ∀ p vs F' H', W F' H' ((p, .lst vs) :: os) → Same F F' → A2 (rep K F') vs ys → Q (.ref p) H'
/-- a value, and what the list at a holds now -/
def RetM (K : Fg) (F : Hp) (a : Addr) (os : List (Addr × HO)) (Q : VK) (y : α × List β) : Prop :=
  ∀ v vs F' H', W F' H' ((a, .lst vs) :: os) → Same F F' → rep K F' v y.1 → A2 (rep K F') vs y.2 → Q v H'
def noX : Exn → Prop := fun _ => False
end
end Z
/-! Z1: loops, comprehensions and joins against their mirrors; calls by typed data -/
namespace Z
open PySem L2
open Rep (rep)
/-! ### ways that join -/
section
variable {γ δ : Type} {m : R γ} {k : γ → R δ} {P : δ → Prop} {X : Exn → Prop}
theorem joinS {t u : TS} {D : Ends} {σ : St} {H : Hp} (hm : Post (m >>= k) P X) (J : γ → St → Hp → Prop)
    (h : ∀ (N : St → Hp → Prop) (P' : γ → Prop), (∀ g, P' g → ∀ σ' H', J g σ' H' → N σ' H') → Post m P' X → t { D with nx := N } σ H)
    (h2 : ∀ g σ' H', J g σ' H' → Post (k g) P X → u D σ' H') : tSeq t u D σ H :=
  h _ _ (fun g p σ' H' j => h2 g σ' H' j p) (post_bind hm)
theorem joinT {t : TT} {σ : St} {H : Hp} {Q : Bool → Hp → Prop} (hm : Post (m >>= k) P X) (J : γ → Bool → Hp → Prop)
    (h : ∀ (Q' : Bool → Hp → Prop) (P' : γ → Prop), (∀ g, P' g → ∀ c H', J g c H' → Q' c H') → Post m P' X → t σ H Q')
    (h2 : ∀ g c H', J g c H' → Post (k g) P X → Q c H') : t σ H Q :=
  h _ _ (fun g p c H' j => h2 g c H' j p) (post_bind hm)
/-- a test of a value that is told -/
theorem cutT {t : TT} {σ : St} {H : Hp} {Q : Bool → Hp → Prop} (J : Bool → Hp → Prop) (h : ∀ Q' : Bool → Hp → Prop, (∀ c H', J c H' → Q' c H') → t σ H Q') (h2 : ∀ c H', J c H' → Q c H') : t σ H Q := h _ h2
theorem ifB {c : Bool} {A B : Prop} (h1 : c = true → A) (h2 : c = false → B) : if c = true then A else B := by
  cases c with
  | true => exact h1 rfl
  | false => exact h2 rfl
end
/-! ### what is walked, typed -/
structure TW (J : It) {β : Type} (items : List β) (G : Hp → Prop) (Y : β → Hp → V → Hp → Prop) : Prop where
  walk : Walk J items.length G (fun i H x H' => ∃ b, items[i]? = some b ∧ Y b H x H')
section
variable {K : Fg} {F : Hp} {a : Addr} {α β : Type} [Rep α] [Rep β] {vs us : List V} {xs : List α} {ys : List β}
theorem tw_list (h : A2 (rep K F) vs xs) : TW (Itl K a) xs (fun H => SqL K H a vs) (fun b H x H' => H' = H ∧ rep K F x b) := ⟨by
  rw [← h.length]
  exact walk_list.mono (fun _ g => g) fun i H x H' _ _ y => by
    obtain ⟨y1, y2⟩ := y
    obtain ⟨b, h1, h2⟩ := h.getV y2
    exact ⟨b, h1, y1, h2⟩⟩
theorem tw_tup (h : A2 (rep K F) vs xs) : TW (Itt K a) xs (fun H => SqT K H a vs) (fun b H x H' => H' = H ∧ rep K F x b) := ⟨by
  rw [← h.length]
  exact walk_tup.mono (fun _ g => g) fun i H x H' _ _ y => by
    obtain ⟨y1, y2⟩ := y
    obtain ⟨b, h1, h2⟩ := h.getV y2
    exact ⟨b, h1, y1, h2⟩⟩
theorem rng_length (i j : Int) : (rng i j).length = (j - i).toNat := by
  unfold rng
  rw [List.length_map, List.length_range]
theorem rng_get {i j : Int} {n : Nat} (h : n < (j - i).toNat) : (rng i j)[n]? = some (i + (n : Int)) := by
  unfold rng
  rw [List.getElem?_map, List.getElem?_range h]
  rfl
theorem tw_rng {i j : Int} : TW (Itr i (j - i).toNat) (rng i j) (fun _ => True) (fun b H x H' => H' = H ∧ x = .int b) := ⟨by
  rw [rng_length]
  exact walk_range.mono (fun _ g => g) fun n H x H' hn _ y => ⟨_, rng_get hn, y.1, y.2⟩⟩
theorem tw_rng0 {j : Int} : TW (Itr 0 j.toNat) (rng 0 j) (fun _ => True) (fun b H x H' => H' = H ∧ x = .int b) := by
  have h := tw_rng (i := 0) (j := j)
  rw [Int.sub_zero] at h
  exact h
/-- pairs of a place and the item there -/
def enum (xs : List α) : List (Int × α) := (rng 0 xs.length).zip xs
theorem enum_length (xs : List α) : (enum xs).length = xs.length := by
  unfold enum
  rw [List.length_zip, rng_length]
  omega
theorem enum_get {xs : List α} {i : Nat} {x : α} (h : xs[i]? = some x) : (enum xs)[i]? = some ((i : Int), x) := by
  have hl := (List.getElem?_eq_some_iff.mp h).1
  unfold enum
  rw [List.getElem?_zip_eq_some]
  refine ⟨?_, h⟩
  rw [rng_get (by omega)]
  simp
theorem tw_enum (h : A2 (rep K F) vs xs) : TW (Ite K a) (enum xs) (fun H => SqL K H a vs) (fun b H v H' => ∃ T x, v = .ref T ∧ H T = none ∧ H' = upd H T (.tup [.int b.1, x]) ∧ rep K F x b.2) := ⟨by
  rw [enum_length, ← h.length]
  exact walk_enum.mono (fun _ g => g) fun i H x H' _ _ y => by
    obtain ⟨T, u, w, e1, e2, e3, e4, e5⟩ := y
    obtain ⟨b, h1, h2⟩ := h.getV e5
    cases e4
    exact ⟨((i : Int), b), enum_get h1, T, w, e1, e2, e3, h2⟩⟩
end
/-! ### for -/
section
variable {J : It} {β γ δ ρ : Type} {items : List β} {G : Hp → Prop} {Y : β → Hp → V → Hp → Prop} {g : TG} {tb : TS} {D : Ends} {σ : St} {H : Hp} {P : δ → Prop} {X : Exn → Prop}
theorem drop_cons {l : List β} {i : Nat} {b : β} (h : l[i]? = some b) : l.drop i = b :: l.drop (i + 1) := by
  obtain ⟨hl, e⟩ := List.getElem?_eq_some_iff.mp h
  rw [List.drop_eq_getElem_cons hl, e]
theorem forS (tw : TW J items G Y) {body : γ → β → R γ} {s0 : γ} {k : γ → R δ} (hm : Post (foldR body s0 items >>= k) P X) (I : γ → St → Hp → Prop) (h0 : I s0 σ H) (hG : ∀ c σ H, I c σ H → G H)
    (hs : ∀ (b : β) (c : γ) (x : V) (σ : St) (H H' : Hp) (N : St → Hp → Prop) (P' : γ → Prop), I c σ H → Y b H x H' → (∀ c', P' c' → ∀ σ' H', I c' σ' H' → N σ' H') → Post (body c b) P' X → g x σ H' fun σ2 H2 => tb { D with nx := N, ct := N, bk := D.nx } σ2 H2)
    (hd : ∀ c σ H, I c σ H → Post (k c) P X → D.nx σ H) :
    ∃ W : Nat → Nat → St → Hp → Prop, (∃ m, W 0 m σ H) ∧ ∀ i m σ H, W i m σ H →
      (J.stop i H ∧ D.nx σ H) ∨ (J.go i H ∧ ∃ N : St → Hp → Prop, (∀ σ' H', N σ' H' → ∃ m', m' < m ∧ W (i + 1) m' σ' H') ∧ ∀ x H', J.yld i H x H' → g x σ H' fun σ2 H2 => tb { D with nx := N, ct := N, bk := D.nx } σ2 H2) := by
  refine for_it tw.walk (fun i σ H => ∃ c, I c σ H ∧ Post (foldR body c (items.drop i) >>= k) P X) ⟨s0, h0, hm⟩ (fun i σ H _ ⟨c, h, _⟩ => hG c σ H h) ?_ ?_
  · rintro i x σ H H' hi ⟨c, h, hm⟩ ⟨b, hb, y⟩
    rw [drop_cons hb] at hm
    exact hs b c x σ H H' _ _ h y (fun c' p' σ' H' h' => ⟨c', h', p'⟩) (post_bind (pb_foldR hm))
  · rintro σ H ⟨c, h, hm⟩
    rw [List.drop_length] at hm
    exact hd c σ H h hm
/-- a for that may end the whole, or itself -/
theorem forX (tw : TW J items G Y) {body : γ → β → R (Sum ρ (Bool × γ))} {s0 : γ} {k : Sum ρ γ → R δ} (hm : Post (foldX body s0 items >>= k) P X) (I : γ → St → Hp → Prop) (h0 : I s0 σ H) (hG : ∀ c σ H, I c σ H → G H)
    (hs : ∀ (b : β) (c : γ) (x : V) (σ : St) (H H' : Hp) (N B : St → Hp → Prop) (P' : Sum ρ (Bool × γ) → Prop), I c σ H → Y b H x H' → (∀ c', P' (.inr (true, c')) → ∀ σ' H', I c' σ' H' → N σ' H') → (∀ c', P' (.inr (false, c')) → ∀ σ' H', I c' σ' H' → B σ' H') →
      (∀ z, P' (.inl z) → Post (k (.inl z)) P X) → Post (body c b) P' X → g x σ H' fun σ2 H2 => tb { D with nx := N, ct := N, bk := B } σ2 H2)
    (hd : ∀ c σ H, I c σ H → Post (k (.inr c)) P X → D.nx σ H) :
    ∃ W : Nat → Nat → St → Hp → Prop, (∃ m, W 0 m σ H) ∧ ∀ i m σ H, W i m σ H →
      (J.stop i H ∧ D.nx σ H) ∨ (J.go i H ∧ ∃ N : St → Hp → Prop, (∀ σ' H', N σ' H' → ∃ m', m' < m ∧ W (i + 1) m' σ' H') ∧ ∀ x H', J.yld i H x H' → g x σ H' fun σ2 H2 => tb { D with nx := N, ct := N, bk := D.nx } σ2 H2) := by
  refine for_it tw.walk (fun i σ H => ∃ c, I c σ H ∧ Post (foldX body c (items.drop i) >>= k) P X) ⟨s0, h0, hm⟩ (fun i σ H _ ⟨c, h, _⟩ => hG c σ H h) ?_ ?_
  · rintro i x σ H H' hi ⟨c, h, hm⟩ ⟨b, hb, y⟩
    rw [drop_cons hb] at hm
    have hm' : Post ((body c b >>= fun r => match r with
      | .inl z => (R.ok (.inl z) : R (Sum ρ γ))
      | .inr (true, s') => foldX body s' (items.drop (i + 1))
      | .inr (false, s') => R.ok (.inr s')) >>= k) P X := hm
    rw [bind_bind] at hm'
    exact hs b c x σ H H' _ _ _ h y (fun c' p' σ' H' h' => ⟨c', h', p'⟩) (fun c' p' σ' H' h' => hd c' σ' H' h' p') (fun z p' => p') (post_bind hm')
  · rintro σ H ⟨c, h, hm⟩
    rw [List.drop_length] at hm
    exact hd c σ H h hm
end
/-! ### comprehensions -/
/-- items for items, of a list that is not too long -/
def mapG {α β : Type} (f : α → R β) (xs : List α) : R (List β) := grd (decide (xs.length < 100000)) >>= fun _ => mapR f xs
/-- items for some items -/
def filR {α β : Type} (f : α → R (Option β)) : List α → R (List β)
  | [] => .ok []
  | x :: xs => f x >>= fun o => filR f xs >>= fun ys => match o with
    | some y => .ok (y :: ys)
    | none => .ok ys
def filG {α β : Type} (f : α → R (Option β)) (xs : List α) : R (List β) := grd (decide (xs.length < 100000)) >>= fun _ => filR f xs
/-- items for items, by a state that turns -/
def mapSt {α β γ : Type} (f : γ → α → R (β × γ)) : γ → List α → R (List β × γ)
  | s, [] => .ok ([], s)
  | s, x :: xs => f s x >>= fun p => mapSt f p.2 xs >>= fun q => .ok (p.1 :: q.1, q.2)
def mapStG {α β γ : Type} (f : γ → α → R (β × γ)) (s : γ) (xs : List α) : R (List β × γ) := grd (decide (xs.length < 100000)) >>= fun _ => mapSt f s xs
/-- items for some items, by a state that turns -/
def filSt {α β γ : Type} (f : γ → α → R (Option β × γ)) : γ → List α → R (List β × γ)
  | s, [] => .ok ([], s)
  | s, x :: xs => f s x >>= fun p => filSt f p.2 xs >>= fun q => match p.1 with
    | some y => .ok (y :: q.1, q.2)
    | none => .ok q
def filStG {α β γ : Type} (f : γ → α → R (Option β × γ)) (s : γ) (xs : List α) : R (List β × γ) := grd (decide (xs.length < 100000)) >>= fun _ => filSt f s xs
section
variable {J : It} {β γ δ ε : Type} {items : List β} {G : Hp → Prop} {Y : β → Hp → V → Hp → Prop} {g : TG} {tt : TT} {te : TE} {P : ε → Prop} {X : Exn → Prop} {K : Fg} {vs : List Nat} {σ : St} {F H1 : Hp} {os : List (Addr × HO)} {D : Addr} {Qd : Hp → Prop}
/-- what is asked of a comprehension's list D behind its walk J: by the readings' own words -/
abbrev LcAsk (J : It) (g : TG) (tt : TT) (te : TE) (vs : List Nat) (σ : St) (H1 : Hp) (D : Addr) (Qd : Hp → Prop) : Prop :=
  ∃ W : Nat → Nat → Hp → Prop, (∃ m, W 0 m (upd H1 D (.lst []))) ∧ ∀ i m H, W i m H →
      (J.stop i H ∧ Qd H) ∨ (J.go i H ∧ ∃ Nx : Hp → Prop, (∀ H', Nx H' → ∃ m', m' < m ∧ W (i + 1) m' H') ∧ ∀ x H', J.yld i H x H' → g x (wipe σ vs) H' fun σ2 H2 => wipe σ2 vs = wipe σ vs ∧ tt σ2 H2 fun b H3 =>
        if b = true then te σ2 H3 fun y H4 => ∃ acc, H4 D = some (.lst acc) ∧ acc.length < sizeLine ∧ Nx (upd H4 D (.lst (acc ++ [y]))) else Nx H3)
/-- the state and the items told of a comprehension: os by the state -/
theorem lcFil [Rep δ] (tw : TW J items G Y) {f : γ → β → R (Option δ × γ)} {s0 : γ} {k : List δ × γ → R ε} (hm : Post (filStG f s0 items >>= k) P X) (O : γ → Hp → List (Addr × HO) → Prop) (w : W F H1 os) (o0 : O s0 F os) (nD : H1 D = none)
    (hG : ∀ c F' H' os' acc, Same F F' → W F' H' ((D, .lst acc) :: os') → O c F' os' → G H')
    (hs : ∀ (b : β) (c : γ) (x : V) (F' H' H'' : Hp) (os' : List (Addr × HO)) (acc : List V) (N : V → Hp → Prop) (N0 : Hp → Prop) (P' : Option δ × γ → Prop), Same F F' → W F' H' ((D, .lst acc) :: os') → O c F' os' → Y b H' x H'' →
      (∀ d c', P' (some d, c') → ∀ y F'' H'' os'', W F'' H'' ((D, .lst acc) :: os'') → Same F' F'' → O c' F'' os'' → rep K F'' y d → N y H'') →
      (∀ c', P' (none, c') → ∀ F'' H'' os'', W F'' H'' ((D, .lst acc) :: os'') → Same F' F'' → O c' F'' os'' → N0 H'') → Post (f c b) P' X →
      g x (wipe σ vs) H'' fun σ2 H2 => wipe σ2 vs = wipe σ vs ∧ tt σ2 H2 fun b H3 => if b = true then te σ2 H3 N else N0 H3)
    (hd : ∀ c us F' H' os' ys, Same F F' → W F' H' ((D, .lst us) :: os') → O c F' os' → A2 (rep K F') us ys → Post (k (ys, c)) P X → Qd H') : LcAsk J g tt te vs σ H1 D Qd := by
  obtain ⟨hlen, hm⟩ := pb_grd (pb_assoc hm)
  have hlen : items.length < sizeLine := Nat.lt_of_lt_of_le (of_decide_eq_true hlen) line5
  refine lc_it tw.walk (fun i H => ∃ c F' os' us ys, i ≤ items.length ∧ Same F F' ∧ W F' H ((D, .lst us) :: os') ∧ O c F' os' ∧ A2 (rep K F') us ys ∧ ys.length ≤ i ∧ Post (filSt f c (items.drop i) >>= fun q => k (ys ++ q.1, q.2)) P X) ?_ ?_ ?_ ?_
  · exact ⟨s0, F, os, [], [], Nat.zero_le _, Same.refl _, w.new nD, o0, .nil, Nat.le_refl _, hm⟩
  · rintro i H _ ⟨c, F', os', us, ys, _, s, w', o, _⟩
    exact hG c F' H os' us s w' o
  · rintro i x H H' hi ⟨c, F', os', us, ys, _, s, w', o, h, hl, hm⟩ ⟨b, hb, y⟩
    rw [drop_cons hb] at hm
    have hm' : Post ((f c b >>= fun p => filSt f p.2 (items.drop (i + 1)) >>= fun q => match p.1 with
      | some y => (R.ok (y :: q.1, q.2) : R (List δ × γ))
      | none => R.ok q) >>= fun q => k (ys ++ q.1, q.2)) P X := hm
    rw [bind_bind] at hm'
    have hm2 := post_bind hm'
    have hul : us.length = ys.length := h.length
    refine hs b c x F' H H' os' us (fun y H4 => ∃ acc, H4 D = some (.lst acc) ∧ acc.length < sizeLine ∧ _) _ _ s w' o y ?_ ?_ hm2
    · intro d c' p2 y F'' H'' os'' w2 s2 o2 r2
      refine ⟨us, w2.get (pre := []), by omega, c', F'', os'', us ++ [y], ys ++ [d], hi, s.trans s2, w2.set (pre := []), o2, (h.mono s2).snoc r2, by rw [List.length_append, List.length_singleton]; omega, ?_⟩
      have p3 : Post ((filSt f c' (items.drop (i + 1)) >>= fun q => (R.ok (d :: q.1, q.2) : R (List δ × γ))) >>= fun q => k (ys ++ q.1, q.2)) P X := p2
      rw [bind_bind] at p3
      have e : (fun q : List δ × γ => (R.ok (d :: q.1, q.2) : R (List δ × γ)) >>= fun q => k (ys ++ q.1, q.2)) = fun q => k (ys ++ [d] ++ q.1, q.2) := by
        funext q
        show k (ys ++ (d :: q.1), q.2) = k (ys ++ [d] ++ q.1, q.2)
        rw [List.append_assoc]
        rfl
      rw [e] at p3
      exact p3
    · intro c' p2 F'' H'' os'' w2 s2 o2
      refine ⟨c', F'', os'', us, ys, hi, s.trans s2, w2, o2, h.mono s2, by omega, ?_⟩
      have p3 : Post ((filSt f c' (items.drop (i + 1)) >>= fun q => (R.ok q : R (List δ × γ))) >>= fun q => k (ys ++ q.1, q.2)) P X := p2
      rw [bind_bind] at p3
      exact p3
  · rintro H ⟨c, F', os', us, ys, _, s, w', o, h, _, hm⟩
    rw [List.drop_length] at hm
    have hm' : Post (k (ys ++ [], c)) P X := hm
    rw [List.append_nil] at hm'
    exact hd c us F' H os' ys s w' o h hm'
/-- without a test -/
theorem lcMap [Rep δ] (tw : TW J items G Y) {f : γ → β → R (δ × γ)} {s0 : γ} {k : List δ × γ → R ε} (hm : Post (mapStG f s0 items >>= k) P X) (O : γ → Hp → List (Addr × HO) → Prop) (w : W F H1 os) (o0 : O s0 F os) (nD : H1 D = none)
    (hG : ∀ c F' H' os' acc, Same F F' → W F' H' ((D, .lst acc) :: os') → O c F' os' → G H')
    (hs : ∀ (b : β) (c : γ) (x : V) (F' H' H'' : Hp) (os' : List (Addr × HO)) (acc : List V) (N : V → Hp → Prop) (P' : δ × γ → Prop), Same F F' → W F' H' ((D, .lst acc) :: os') → O c F' os' → Y b H' x H'' →
      (∀ d c', P' (d, c') → ∀ y F'' H'' os'', W F'' H'' ((D, .lst acc) :: os'') → Same F' F'' → O c' F'' os'' → rep K F'' y d → N y H'') → Post (f c b) P' X →
      g x (wipe σ vs) H'' fun σ2 H2 => wipe σ2 vs = wipe σ vs ∧ te σ2 H2 N)
    (hd : ∀ c us F' H' os' ys, Same F F' → W F' H' ((D, .lst us) :: os') → O c F' os' → A2 (rep K F') us ys → Post (k (ys, c)) P X → Qd H') : LcAsk J g tYes te vs σ H1 D Qd := by
  have e : ∀ (s : γ) (l : List β), filSt (fun c b => f c b >>= fun p => R.ok (some p.1, p.2)) s l = mapSt f s l := by
    intro s l
    induction l generalizing s with
    | nil => rfl
    | cons b l ih =>
      show ((f s b >>= fun p => R.ok (some p.1, p.2)) >>= fun p => filSt (fun c b => f c b >>= fun p => R.ok (some p.1, p.2)) p.2 l >>= fun q => match p.1 with
        | some y => (R.ok (y :: q.1, q.2) : R (List δ × γ))
        | none => R.ok q) = (f s b >>= fun p => mapSt f p.2 l >>= fun q => .ok (p.1 :: q.1, q.2))
      rw [bind_bind]
      refine congrArg (f s b >>= ·) ?_
      funext p
      show (filSt (fun c b => f c b >>= fun p => R.ok (some p.1, p.2)) p.2 l >>= fun q => (R.ok (p.1 :: q.1, q.2) : R (List δ × γ))) = _
      rw [ih]
  have hm' : Post (filStG (fun c b => f c b >>= fun p => R.ok (some p.1, p.2)) s0 items >>= k) P X := by
    unfold filStG
    simp only [e]
    exact hm
  refine lcFil tw hm' O w o0 nD hG (fun b c x F' H' H'' os' acc N N0 P' s w' o y hN hN0 hp => ?_) hd
  exact hs b c x F' H' H'' os' acc N _ s w' o y (fun d c' p2 y F'' H'' os'' w2 s2 o2 r2 => hN d c' p2 y F'' H'' os'' w2 s2 o2 r2) (post_bind hp)
/-- without a state -/
theorem lcM [Rep δ] (tw : TW J items G Y) {f : β → R δ} {k : List δ → R ε} (hm : Post (mapG f items >>= k) P X) (w : W F H1 os) (nD : H1 D = none)
    (hG : ∀ F' H' acc, Same F F' → W F' H' ((D, .lst acc) :: os) → G H')
    (hs : ∀ (b : β) (x : V) (F' H' H'' : Hp) (acc : List V) (N : V → Hp → Prop) (P' : δ → Prop), Same F F' → W F' H' ((D, .lst acc) :: os) → Y b H' x H'' →
      (∀ d, P' d → ∀ y F'' H'', W F'' H'' ((D, .lst acc) :: os) → Same F' F'' → rep K F'' y d → N y H'') → Post (f b) P' X →
      g x (wipe σ vs) H'' fun σ2 H2 => wipe σ2 vs = wipe σ vs ∧ te σ2 H2 N)
    (hd : ∀ us F' H' ys, Same F F' → W F' H' ((D, .lst us) :: os) → A2 (rep K F') us ys → Post (k ys) P X → Qd H') : LcAsk J g tYes te vs σ H1 D Qd := by
  have e : ∀ (l : List β), (mapSt (fun (_ : Unit) b => f b >>= fun d => R.ok (d, ())) () l >>= fun q => R.ok q.1) = mapR f l := by
    intro l
    induction l with
    | nil => rfl
    | cons b l ih =>
      show (((f b >>= fun d => R.ok (d, ())) >>= fun p => mapSt (fun (_ : Unit) b => f b >>= fun d => R.ok (d, ())) p.2 l >>= fun q => (R.ok (p.1 :: q.1, q.2) : R (List δ × Unit))) >>= fun q => R.ok q.1) = (f b >>= fun y => mapR f l >>= fun ys => R.ok (y :: ys))
      rw [bind_bind, bind_bind]
      refine congrArg (f b >>= ·) ?_
      funext d
      show ((mapSt (fun (_ : Unit) b => f b >>= fun d => R.ok (d, ())) () l >>= fun q => (R.ok (d :: q.1, q.2) : R (List δ × Unit))) >>= fun q => R.ok q.1) = _
      rw [bind_bind, ← ih, bind_bind]
      rfl
  have hm' : Post (mapStG (fun (_ : Unit) b => f b >>= fun d => R.ok (d, ())) () items >>= fun q => k q.1) P X := by
    have e2 : (mapStG (fun (_ : Unit) b => f b >>= fun d => R.ok (d, ())) () items >>= fun q => R.ok q.1) = mapG f items := by
      unfold mapStG mapG
      rw [bind_bind]
      simp only [e]
    have h2 : Post ((mapStG (fun (_ : Unit) b => f b >>= fun d => R.ok (d, ())) () items >>= fun q => R.ok q.1) >>= k) P X := by
      rw [e2]
      exact hm
    rw [bind_bind] at h2
    exact h2
  refine lcMap tw hm' (fun _ _ os' => os = os') w rfl nD (fun c F' H' os' acc s w' o => by subst o; exact hG F' H' acc s w') (fun b c x F' H' H'' os' acc N P' s w' o y hN hp => ?_) (fun c us F' H' os' ys s w' o h hm => by subst o; exact hd us F' H' ys s w' h hm)
  subst o
  exact hs b x F' H' H'' acc N _ s w' y (fun d p2 y F'' H'' w2 s2 r2 => hN d () p2 y F'' H'' _ w2 s2 rfl r2) (post_bind hp)
/-- .. with a test -/
theorem lcF [Rep δ] (tw : TW J items G Y) {f : β → R (Option δ)} {k : List δ → R ε} (hm : Post (filG f items >>= k) P X) (w : W F H1 os) (nD : H1 D = none)
    (hG : ∀ F' H' acc, Same F F' → W F' H' ((D, .lst acc) :: os) → G H')
    (hs : ∀ (b : β) (x : V) (F' H' H'' : Hp) (acc : List V) (N : V → Hp → Prop) (N0 : Hp → Prop) (P' : Option δ → Prop), Same F F' → W F' H' ((D, .lst acc) :: os) → Y b H' x H'' →
      (∀ d, P' (some d) → ∀ y F'' H'', W F'' H'' ((D, .lst acc) :: os) → Same F' F'' → rep K F'' y d → N y H'') →
      (P' none → ∀ F'' H'', W F'' H'' ((D, .lst acc) :: os) → Same F' F'' → N0 H'') → Post (f b) P' X →
      g x (wipe σ vs) H'' fun σ2 H2 => wipe σ2 vs = wipe σ vs ∧ tt σ2 H2 fun b H3 => if b = true then te σ2 H3 N else N0 H3)
    (hd : ∀ us F' H' ys, Same F F' → W F' H' ((D, .lst us) :: os) → A2 (rep K F') us ys → Post (k ys) P X → Qd H') : LcAsk J g tt te vs σ H1 D Qd := by
  have e : ∀ (l : List β), (filSt (fun (_ : Unit) b => f b >>= fun d => R.ok (d, ())) () l >>= fun q => R.ok q.1) = filR f l := by
    intro l
    induction l with
    | nil => rfl
    | cons b l ih =>
      show (((f b >>= fun d => R.ok (d, ())) >>= fun p => filSt (fun (_ : Unit) b => f b >>= fun d => R.ok (d, ())) p.2 l >>= fun q => match p.1 with
        | some y => (R.ok (y :: q.1, q.2) : R (List δ × Unit))
        | none => R.ok q) >>= fun q => R.ok q.1) = (f b >>= fun o => filR f l >>= fun ys => match o with
        | some y => .ok (y :: ys)
        | none => .ok ys)
      rw [bind_bind, bind_bind]
      refine congrArg (f b >>= ·) ?_
      funext d
      show ((filSt (fun (_ : Unit) b => f b >>= fun d => R.ok (d, ())) () l >>= fun q => match d with
        | some y => (R.ok (y :: q.1, q.2) : R (List δ × Unit))
        | none => R.ok q) >>= fun q => R.ok q.1) = _
      rw [bind_bind, ← ih, bind_bind]
      cases d <;> rfl
  have hm' : Post (filStG (fun (_ : Unit) b => f b >>= fun d => R.ok (d, ())) () items >>= fun q => k q.1) P X := by
    have e2 : (filStG (fun (_ : Unit) b => f b >>= fun d => R.ok (d, ())) () items >>= fun q => R.ok q.1) = filG f items := by
      unfold filStG filG
      rw [bind_bind]
      simp only [e]
    have h2 : Post ((filStG (fun (_ : Unit) b => f b >>= fun d => R.ok (d, ())) () items >>= fun q => R.ok q.1) >>= k) P X := by
      rw [e2]
      exact hm
    rw [bind_bind] at h2
    exact h2
  refine lcFil tw hm' (fun _ _ os' => os = os') w rfl nD (fun c F' H' os' acc s w' o => by subst o; exact hG F' H' acc s w') (fun b c x F' H' H'' os' acc N N0 P' s w' o y hN hN0 hp => ?_) (fun c us F' H' os' ys s w' o h hm => by subst o; exact hd us F' H' ys s w' h hm)
  subst o
  exact hs b x F' H' H'' acc N N0 _ s w' y (fun d p2 y F'' H'' w2 s2 r2 => hN d () p2 y F'' H'' _ w2 s2 rfl r2) (fun p2 F'' H'' w2 s2 => hN0 () p2 F'' H'' _ w2 s2 rfl) (post_bind hp)
end
end Z
namespace Z
open PySem L2
open Rep (rep)
/-! ### short words for a walk -/
section
variable {F F1 F2 H H1 : Hp} {os os' pre post : List (Addr × HO)} {a p : Addr} {o o' : HO} {K : Fg}
theorem W.frzE (w : W F H os) (n : H p = none) : ∃ F', Same F F' ∧ W F' (upd H p o) os ∧ F' p = some o := ⟨_, w.frzS n, w.frz n, upd_same⟩
theorem W.freezeE (w : W F H (pre ++ (a, o) :: post)) : ∃ F', Same F F' ∧ W F' H (pre ++ post) ∧ F' a = some o := ⟨_, w.freezeS, w.freeze, upd_same⟩
theorem rep_own {α : Type} [Rep α] {vs : List V} {xs : List α} (w : W F H (pre ++ (a, .lst vs) :: post)) (h : A2 (rep K F) vs xs) : rep K H (.ref a) xs := ⟨a, vs, rfl, w.get, h.mono w.same⟩
theorem rep_lst {α : Type} [Rep α] {vs : List V} {xs : List α} (q : F a = some (.lst vs)) (h : A2 (rep K F) vs xs) : rep K F (.ref a) xs := ⟨a, vs, rfl, q, h⟩
theorem rep_tup {α : Type} [Rep α] {vs : List V} {xs : List α} (q : F a = some (.tup vs)) (h : A2 (rep K F) vs xs) : rep K F (.ref a) (Tup.mk xs) := ⟨a, vs, rfl, q, h⟩
theorem rep_pair {α β : Type} [Rep α] [Rep β] {u v : V} {x : α} {y : β} (q : F a = some (.tup [u, v])) (h1 : rep K F u x) (h2 : rep K F v y) : rep K F (.ref a) (x, y) := ⟨a, u, v, rfl, q, h1, h2⟩
theorem ints_q {vs : List V} {xs : List Int} (q : SqL K H a vs) (h : A2 (rep K F) vs xs) : SqL K H a (xs.map V.int) := h.ints ▸ q
theorem Room.units65 {k : Nat} {A : Around} (r : Room k A) : A.units + 65 < cLine := by
  have := r.un
  omega
theorem sl_cut {α : Type} {r : V → α → Prop} {vs : List V} {xs : List α} (h : A2 r vs xs) (lo hi : Option Int) : A2 r (cutV vs lo hi) (((xs.drop (HT.sIx xs.length 0 lo)).take (HT.sIx xs.length xs.length hi - HT.sIx xs.length 0 lo))) := by
  unfold cutV
  rw [h.length]
  exact (h.drop _).take _
/-- xs[lo:hi] -/
def cutL {α : Type} (xs : List α) (lo hi : Option Int) : List α := (xs.drop (HT.sIx xs.length 0 lo)).take (HT.sIx xs.length xs.length hi - HT.sIx xs.length 0 lo)
end
end Z
namespace Z
open PySem L2
open Rep (rep)
/-- a while by its fuel -/
def whileR {γ : Type} (c : γ → R Bool) (b : γ → R γ) : Nat → γ → R γ
  | 0, _ => .bad
  | n + 1, s => c s >>= fun t => if t = true then b s >>= fun s' => whileR c b n s' else .ok s
section
variable {γ δ : Type} {P : δ → Prop} {X : Exn → Prop} {tc : TT} {tb : TS} {D : Ends} {σ : St} {H : Hp}
theorem whileS {c : γ → R Bool} {b : γ → R γ} {n : Nat} {s0 : γ} {k : γ → R δ} (hm : Post (whileR c b n s0 >>= k) P X) (I : γ → St → Hp → Prop) (h0 : I s0 σ H)
    (hc : ∀ (g : γ) (σ : St) (H : Hp) (Q' : Bool → Hp → Prop) (P' : Bool → Prop), I g σ H → (∀ t, P' t → ∀ H', I g σ H' → Q' t H') → Post (c g) P' X → tc σ H Q')
    (hs : ∀ (g : γ) (σ : St) (H : Hp) (N : St → Hp → Prop) (P' : γ → Prop), I g σ H → (∀ g', P' g' → ∀ σ' H', I g' σ' H' → N σ' H') → Post (b g) P' X → tb { D with nx := N, ct := N, bk := D.nx } σ H)
    (hd : ∀ g σ H, I g σ H → Post (k g) P X → D.nx σ H) : tWhile tc tb D σ H := by
  refine ⟨fun m σ H => ∃ g, I g σ H ∧ Post (whileR c b m g >>= k) P X, ⟨n, s0, h0, hm⟩, ?_⟩
  rintro m σ H ⟨g, h, hm⟩
  cases m with
  | zero => exact (show False from hm).elim
  | succ m =>
    have hm' : Post ((c g >>= fun t => if t = true then b g >>= fun s' => whileR c b m s' else .ok g) >>= k) P X := hm
    rw [bind_bind] at hm'
    refine hc g σ H _ _ h (fun t p H' h' => ?_) (post_bind hm')
    cases t with
    | false => exact iteF (hd g σ H' h' p)
    | true =>
      refine iteT ?_
      have p' : Post ((b g >>= fun s' => whileR c b m s') >>= k) P X := p
      rw [bind_bind] at p'
      exact ⟨fun σ' H' => ∃ g', I g' σ' H' ∧ Post (whileR c b m g' >>= k) P X, fun σ' H' ⟨g', h1, h2⟩ => ⟨m, Nat.lt_succ_self m, g', h1, h2⟩, hs g σ H' _ _ h' (fun g' p2 σ' H' h2 => ⟨g', h2, p2⟩) (post_bind p')⟩
end
section
variable {α β : Type} {Q : β → Prop} {E : Exn → Prop}
theorem pn_set {xs : List α} {i : Int} {x : α} {f : List α → R β} (h : Post (setI xs i x >>= f) Q E) : ∃ j ys, ixN xs.length i = some j ∧ ys = xs.set j x ∧ Post (f ys) Q E :=
  let ⟨j, a, b⟩ := pb_set h
  ⟨j, _, a, rfl, b⟩
theorem pn_app {xs : List α} {x : α} {f : List α → R β} (h : Post (app xs x >>= f) Q E) : ∃ ys, xs.length < sizeLine ∧ ys = xs ++ [x] ∧ Post (f ys) Q E :=
  let ⟨a, b⟩ := pb_app h
  ⟨_, a, rfl, b⟩
theorem pn_extend {xs ys : List α} {f : List α → R β} (h : Post (extend xs ys >>= f) Q E) : ∃ zs, xs.length + ys.length ≤ sizeLine ∧ zs = xs ++ ys ∧ Post (f zs) Q E :=
  let ⟨a, b⟩ := pb_extend h
  ⟨_, a, rfl, b⟩
theorem A2.lt {r : V → α → Prop} {vs : List V} {xs : List α} {n : Nat} (h : A2 r vs xs) (z : xs.length < n) : vs.length < n := by rw [h.length]; exact z
theorem A2.ix {r : V → α → Prop} {vs : List V} {xs : List α} {i : Int} {j : Nat} (h : A2 r vs xs) (z : ixN xs.length i = some j) : ixN vs.length i = some j := by rw [h.length]; exact z
theorem A2.le2 {γ : Type} {r : V → α → Prop} {r' : V → γ → Prop} {vs us : List V} {xs : List α} {ys : List γ} {n : Nat} (h : A2 r vs xs) (h' : A2 r' us ys) (z : xs.length + ys.length ≤ n) : vs.length + us.length ≤ n := by rw [h.length, h'.length]; exact z
/-- the last item, and the rest -/
def popI (xs : List α) : R (α × List α) := match xs.getLast? with
  | some x => .ok (x, xs.dropLast)
  | none => .bad
end
section
variable {K : Fg} {F : Hp}
theorem rep_i {i : Int} : rep K F (.int i) i := rfl
theorem rep_b {i : Bool} : rep K F (.bl i) i := rfl
theorem rep_n : rep K F .non () := rfl
end
end Z
namespace Z
open PySem L2
section
variable {X : Cx} {D : Ends} {σ : L2.St} {H : Hp}
def tC1 (v : V) : TE := fun _ H Q => True ∧ Q v H
theorem pe_int1 {i j pos} : PE X (.Constant (.int i) j pos) (tC1 (.int i)) := ⟨fun pins s σ H Q I h => pe_int.run pins s σ H Q I h.2⟩
theorem stepN {i : Nat} {v : V} {Q : L2.St → Hp → Prop} (h : Q (σ.set i (some v)) H) : gName i v σ H Q := h
theorem stepX (h : D.nx σ H) : tNext D σ H := h
theorem stepSeq {t u : TS} (h : t { D with nx := u D } σ H) : tSeq t u D σ H := h
end
end Z
namespace Z
open PySem L2
open Rep (rep)
section
variable {α : Type} [Rep α] {K : Fg} {F : Hp} {v : V} {x : α}
theorem rep_none : rep K F .non (none : Option α) := rfl
theorem rep_some (h : rep K F v x) : rep K F v (some x) := h
theorem rep_pl {i : Int} : rep K F (.int i) (Thing.pl i) := rfl
end
end Z
/-! Z2: rules by typed data -/
namespace Z
open PySem L2 PySem.Spec PyProof.Rows
open Rep (rep)
/-! ### data that is compared -/
class Dat (α : Type) extends Rep α where
  toD : α → PyData
  dmax : Nat
  dp : ∀ {K : Fg} {H : Hp} {v : V} {x : α}, rep K H v x → Dp K H v (toD x)
  lay : ∀ x : α, (toD x).canLay0 = true
  dep : ∀ x : α, (toD x).depth ≤ dmax
  eqv : ∀ x y : α, PyData.eqv (toD x) (toD y) = true ↔ x = y
section
variable {α β : Type} {K : Fg} {H : Hp}
instance : Dat Int where
  toD := .int
  dmax := 0
  dp := fun h => by
    have h' : _ = V.int _ := h
    subst h'
    exact .int _
  lay := fun x => by simp only [PyData.canLay0]
  dep := fun x => by simp only [PyData.depth, Nat.le_refl]
  eqv := fun x y => by simp [PyData.eqv]
instance : Dat Bool where
  toD := .bool
  dmax := 0
  dp := fun h => by
    have h' : _ = V.bl _ := h
    subst h'
    exact .bl _
  lay := fun x => by simp only [PyData.canLay0]
  dep := fun x => by simp only [PyData.depth, Nat.le_refl]
  eqv := fun x y => by simp [PyData.eqv]
instance datOptInt : Dat (Option Int) where
  toD := fun x => match x with
    | none => .none
    | some i => .int i
  dmax := 0
  dp := fun {K H v x} h => by
    cases x with
    | none =>
      have h' : v = V.non := h
      subst h'
      exact .non
    | some i =>
      have h' : v = V.int i := h
      subst h'
      exact .int _
  lay := fun x => by cases x <;> simp only [PyData.canLay0]
  dep := fun x => by cases x <;> simp only [PyData.depth, Nat.le_refl]
  eqv := fun x y => by cases x <;> cases y <;> simp [PyData.eqv]
instance datPair [Dat α] [Dat β] : Dat (α × β) where
  toD := fun x => .tuple [Dat.toD x.1, Dat.toD x.2]
  dmax := max (Dat.dmax α) (Dat.dmax β) + 1
  dp := fun {K H v x} h => by
    obtain ⟨a, u, w, rfl, q, h1, h2⟩ := h
    exact .tup (SqT.of q) (.cons (Dat.dp h1) (.cons (Dat.dp h2) .nil))
  lay := fun x => by simp only [PyData.canLay0, PyData.canLayAll0, Dat.lay, Bool.and_true]
  dep := fun x => by
    have h1 := Dat.dep x.1
    have h2 := Dat.dep x.2
    simp only [PyData.depth, PyData.depthAll]
    omega
  eqv := fun x y => by
    obtain ⟨x1, x2⟩ := x
    obtain ⟨y1, y2⟩ := y
    simp only [PyData.eqv, PyData.eqvAll, Bool.and_true, Bool.and_eq_true, Dat.eqv, Prod.mk.injEq]
theorem dp_all [Dat α] : ∀ {vs : List V} {xs : List α}, A2 (rep K H) vs xs → DpAll K H vs (xs.map Dat.toD)
  | _, _, .nil => .nil
  | _, _, .cons h t => .cons (Dat.dp h) (dp_all t)
theorem lay_all [Dat α] : ∀ xs : List α, PyData.canLayAll0 (xs.map Dat.toD) = true
  | [] => by simp only [List.map_nil, PyData.canLayAll0]
  | x :: xs => by simp only [List.map_cons, PyData.canLayAll0, Dat.lay, lay_all xs, Bool.and_true]
theorem dep_all [Dat α] : ∀ xs : List α, PyData.depthAll (xs.map Dat.toD) ≤ Dat.dmax α
  | [] => by simp only [List.map_nil, PyData.depthAll, Nat.zero_le]
  | x :: xs => by
    have h1 := dep_all xs
    have h2 := Dat.dep x
    simp only [List.map_cons, PyData.depthAll]
    omega
theorem eqv_all [Dat α] : ∀ xs ys : List α, PyData.eqvAll (xs.map Dat.toD) (ys.map Dat.toD) = true ↔ xs = ys
  | [], [] => by simp [PyData.eqvAll]
  | x :: xs, [] => by simp [PyData.eqvAll]
  | [], y :: ys => by simp [PyData.eqvAll]
  | x :: xs, y :: ys => by simp only [List.map_cons, PyData.eqvAll, Bool.and_eq_true, Dat.eqv, eqv_all xs ys, List.cons.injEq]
instance datList [Dat α] : Dat (List α) where
  toD := fun xs => .list (xs.map Dat.toD)
  dmax := Dat.dmax α + 1
  dp := fun {K H v x} h => by
    obtain ⟨a, vs, rfl, q, h⟩ := h
    exact .lst (SqL.of q) (dp_all h)
  lay := fun x => by
    simp only [PyData.canLay0]
    exact lay_all x
  dep := fun x => by
    have h := dep_all x
    simp only [PyData.depth]
    omega
  eqv := fun x y => by
    simp only [PyData.eqv]
    exact eqv_all x y
instance datTup [Dat α] : Dat (Tup α) where
  toD := fun xs => .tuple (xs.l.map Dat.toD)
  dmax := Dat.dmax α + 1
  dp := fun {K H v x} h => by
    obtain ⟨a, vs, rfl, q, h⟩ := h
    exact .tup (SqT.of q) (dp_all h)
  lay := fun x => by
    simp only [PyData.canLay0]
    exact lay_all x.l
  dep := fun x => by
    have h := dep_all x.l
    simp only [PyData.depth]
    omega
  eqv := fun x y => by
    obtain ⟨x⟩ := x
    obtain ⟨y⟩ := y
    simp only [PyData.eqv, Tup.mk.injEq]
    exact eqv_all x y
instance datThing : Dat Thing where
  toD := fun x => match x with
    | .pl i => .int i
    | .ti a b => .tuple [.int a, .int b]
  dmax := 1
  dp := fun {K H v x} h => by
    cases x with
    | pl i =>
      have h' : v = V.int i := h
      subst h'
      exact .int _
    | ti a b =>
      obtain ⟨p, u, w, rfl, q, h1, h2⟩ := (show rep K H v (a, b) from h)
      have h1' : u = V.int a := h1
      have h2' : w = V.int b := h2
      subst h1' h2'
      exact .tup (SqT.of q) (.cons (.int _) (.cons (.int _) .nil))
  lay := fun x => by cases x <;> simp [PyData.canLay0, PyData.canLayAll0]
  dep := fun x => by cases x <;> simp [PyData.depth, PyData.depthAll]
  eqv := fun x y => by cases x <;> cases y <;> simp [PyData.eqv, PyData.eqvAll]
instance datScr : Dat Scr where
  toD := fun xs => .list (xs.l.map PyData.int)
  dmax := 1
  dp := fun {K H v x} h => by
    obtain ⟨a, rfl, q⟩ := h
    have e : ∀ l : List Int, DpAll K H (l.map V.int) (l.map PyData.int) := fun l => by
      induction l with
      | nil => exact .nil
      | cons x l ih => exact .cons (.int _) ih
    exact .lst q (e x.l)
  lay := fun x => by
    simp only [PyData.canLay0]
    exact lay_all (α := Int) x.l
  dep := fun x => by
    have h := dep_all (α := Int) x.l
    have h' : PyData.depthAll (x.l.map PyData.int) ≤ 0 := h
    simp only [PyData.depth]
    omega
  eqv := fun x y => by
    obtain ⟨x⟩ := x
    obtain ⟨y⟩ := y
    simp only [PyData.eqv, Scr.mk.injEq]
    exact eqv_all (α := Int) x y
theorem shapedD [Dat α] (hd : Dat.dmax α ≤ 60) (x : α) : SeqAt.shaped (Dat.toD x) = true := by
  have h := Dat.dep x
  show ((Dat.toD x).canLay0 && decide ((Dat.toD x).depth ≤ 64)) = true
  rw [Bool.and_eq_true]
  exact ⟨Dat.lay x, decide_eq_true (by omega)⟩
theorem eqvD [Dat α] [DecidableEq α] (x y : α) : PyData.eqv (Dat.toD x) (Dat.toD y) = decide (x = y) := by
  by_cases h : x = y
  · rw [decide_eq_true h]
    exact (Dat.eqv x y).mpr h
  · rw [decide_eq_false h]
    exact Bool.eq_false_iff.mpr fun e => h ((Dat.eqv x y).mp e)
theorem anyD [Dat α] [DecidableEq α] (x : α) : ∀ ys : List α, ((ys.map Dat.toD).any fun z => PyData.eqv z (Dat.toD x)) = decide (x ∈ ys)
  | [] => by simp
  | y :: ys => by
    rw [List.map_cons, List.any_cons, anyD x ys, eqvD]
    by_cases h : y = x
    · subst h; simp
    · have h' : ¬ x = y := fun e => h e.symm
      simp [h, h']
end
section
variable {X : Cx} {α β : Type} {K : Fg}
/-- ==, != of data -/
theorem op_eqDt (hK : X.K = K) (α : Type) [Dat α] [DecidableEq α] (hd : Dat.dmax α ≤ 60) (hu : X.A.units + 64 < cLine) : OpR X (compareOp .Eq) (fun x y H Q => ∃ a b : α, rep K H x a ∧ rep K H y b ∧ Q (.bl (decide (a = b))) H) := by
  subst hK
  intro pins s σ H x y v u Q I rx ry ⟨a, b, h1, h2, q⟩
  exact op_eqD hu pins s σ H x y v u Q I rx ry ⟨Dat.toD a, Dat.toD b, Dat.dp h1, Dat.dp h2, shapedD hd a, shapedD hd b, by rw [eqvD]; exact q⟩
theorem op_neDt (hK : X.K = K) (α : Type) [Dat α] [DecidableEq α] (hd : Dat.dmax α ≤ 60) (hu : X.A.units + 64 < cLine) : OpR X (compareOp .NotEq) (fun x y H Q => ∃ a b : α, rep K H x a ∧ rep K H y b ∧ Q (.bl (!decide (a = b))) H) := by
  subst hK
  intro pins s σ H x y v u Q I rx ry ⟨a, b, h1, h2, q⟩
  exact op_neD hu pins s σ H x y v u Q I rx ry ⟨Dat.toD a, Dat.toD b, Dat.dp h1, Dat.dp h2, shapedD hd a, shapedD hd b, by rw [eqvD]; exact q⟩
/-- in, not in a list, a tuple of data -/
theorem op_inL (hK : X.K = K) (α : Type) [Dat α] [DecidableEq α] (hd : Dat.dmax α ≤ 50) (hu : X.A.units + 65 < cLine) : OpR X (compareOp .In) (fun x y H Q => ∃ (a : α) (b : List α), rep K H x a ∧ rep K H y b ∧ Q (.bl (decide (a ∈ b))) H) := by
  subst hK
  intro pins s σ H x y v u Q I rx ry ⟨a, b, h1, h2, q⟩
  exact op_inD hu pins s σ H x y v u Q I rx ry ⟨Dat.toD a, b.map Dat.toD, Dat.dp h1, Dat.dp h2, shapedD (by omega) a, shapedD (α := List α) (by show Dat.dmax α + 1 ≤ 60; omega) b, by rw [anyD]; exact q⟩
theorem op_notInL (hK : X.K = K) (α : Type) [Dat α] [DecidableEq α] (hd : Dat.dmax α ≤ 50) (hu : X.A.units + 65 < cLine) : OpR X (compareOp .NotIn) (fun x y H Q => ∃ (a : α) (b : List α), rep K H x a ∧ rep K H y b ∧ Q (.bl (!decide (a ∈ b))) H) := by
  subst hK
  intro pins s σ H x y v u Q I rx ry ⟨a, b, h1, h2, q⟩
  exact op_notInD hu pins s σ H x y v u Q I rx ry ⟨Dat.toD a, b.map Dat.toD, Dat.dp h1, Dat.dp h2, shapedD (by omega) a, shapedD (α := List α) (by show Dat.dmax α + 1 ≤ 60; omega) b, by rw [anyD]; exact q⟩
theorem op_notInT (hK : X.K = K) (α : Type) [Dat α] [DecidableEq α] (hd : Dat.dmax α ≤ 50) (hu : X.A.units + 65 < cLine) : OpR X (compareOp .NotIn) (fun x y H Q => ∃ (a : α) (b : Tup α), rep K H x a ∧ rep K H y b ∧ Q (.bl (!decide (a ∈ b.l))) H) := by
  subst hK
  intro pins s σ H x y v u Q I rx ry ⟨a, b, h1, h2, q⟩
  have sd := shapedD (by omega : Dat.dmax α ≤ 60) a
  have se : SeqAt.shaped (.tuple (b.l.map Dat.toD)) = true := shapedD (α := Tup α) (by show Dat.dmax α + 1 ≤ 60; omega) b
  obtain ⟨as, r1⟩ := Dp.reads I (Dat.toD a) x v (Dat.dp h1) rx
  obtain ⟨bs, r2⟩ := Dp.reads I (.tuple (b.l.map Dat.toD)) y u (Dat.dp h2) ry
  refine SeqAt.notIn_tuple_reads r2 r1 (SeqAt.canLay_of_shaped se) (SeqAt.canLay_of_shaped sd) (room_in_shaped sd hu) ?_
  rw [anyD]
  exact ⟨.bl _, H, I, rfl, q⟩
/-- == of texts -/
theorem decS (x y : Str) : decide (V.str x = V.str y) = decide (x = y) := by
  by_cases h : x = y
  · subst h; simp
  · rw [decide_eq_false h, decide_eq_false (fun e => h (V.str.inj e))]
theorem op_eqS : OpR X (compareOp .Eq) (fun x y H Q => ∃ a b : Str, x = .str a ∧ y = .str b ∧ Q (.bl (decide (a = b))) H) := by
  intro pins s σ H x y v u Q I rx ry ⟨a, b, h1, h2, q⟩
  subst h1 h2
  exact op_eq pins s σ H _ _ v u Q I rx ry ⟨rfl, by rw [decS]; exact q⟩
/-! ### built-ins -/
theorem call_lenN (hK : X.K = K) : CallR X (.builtin "len") (fun xs H Q => ∃ (p : Addr) (ys : List V) (n : Nat), xs = [.ref p] ∧ (SqL K H p ys ∨ SqT K H p ys) ∧ ys.length = n ∧ Q (.int (n : Int)) H) := by
  subst hK
  intro pins s σ H xs us Q I r ⟨p, ys, n, e, h, hn, q⟩
  subst hn
  exact call_len_seq pins s σ H xs us Q I r ⟨p, ys, e, h, q⟩
def max2 (i j : Int) : Int := if j > i then j else i
def min2 (i j : Int) : Int := if j < i then j else i
def minL (xs : List Int) : R Int := ofO xs.min?
theorem pb_min {δ : Type} {xs : List Int} {f : Int → R δ} {P : δ → Prop} {E : Exn → Prop} (h : Post (minL xs >>= f) P E) : ∃ m, xs.min? = some m ∧ Post (f m) P E := pb_ofO h
theorem cr_minI (hK : X.K = K) (hc : X.calm = true) : CallR X (.builtin "min") (fun vs H Q => ∃ (a : Addr) (ns : List Int) (m : Int), vs = [V.ref a] ∧ SqL K H a (ns.map V.int) ∧ ns.min? = some m ∧ Q (.int m) H) := by
  subst hK
  intro pins s σ H xs us Q I r ⟨a, ns, m, e, h, hm, q⟩
  obtain ⟨h1, h2⟩ := List.min?_eq_some_iff.mp hm
  refine cr_min hc pins s σ H xs us Q I r ⟨a, ns, e, h, ?_, fun k h3 h4 => ?_⟩
  · exact List.length_pos_of_mem h1
  · have e1 : k = m := Int.le_antisymm (h4 m h1) (h2 k h3)
    subst e1
    exact q
/-- the ints in order -/
def sortI (xs : List Int) : List Int := xs.mergeSort fun a b => decide (a ≤ b)
theorem sortI_perm (xs : List Int) : (sortI xs).Perm xs := List.mergeSort_perm xs _
theorem sortI_sorted (xs : List Int) : (sortI xs).Pairwise (· ≤ ·) := by
  have h := List.pairwise_mergeSort (le := fun a b : Int => decide (a ≤ b)) (fun a b c h1 h2 => by simp only [decide_eq_true_eq] at *; omega) (fun a b => by simp only [Bool.or_eq_true, decide_eq_true_eq]; omega) xs
  exact h.imp fun h => by simpa using h
theorem sort_uniq {xs ys : List Int} (h : xs.Perm ys) (hx : xs.Pairwise (· ≤ ·)) (hy : ys.Pairwise (· ≤ ·)) : xs = ys := by
  induction xs generalizing ys with
  | nil => exact (List.nil_perm.mp h).symm
  | cons x xs ih =>
    cases ys with
    | nil => exact absurd h.symm (by simp)
    | cons y ys =>
      rw [List.pairwise_cons] at hx hy
      have e : x = y := by
        have h1 : x ∈ y :: ys := h.mem_iff.mp List.mem_cons_self
        have h2 : y ∈ x :: xs := h.mem_iff.mpr List.mem_cons_self
        rcases List.mem_cons.mp h1 with h1 | h1
        · exact h1
        · rcases List.mem_cons.mp h2 with h2 | h2
          · exact h2.symm
          · have := hx.1 y h2
            have := hy.1 x h1
            omega
      subst e
      rw [ih (List.perm_cons x |>.mp h) hx.2 hy.2]
theorem sortI_eq {xs ys : List Int} (h : ys.Perm xs) (hy : ys.Pairwise (· ≤ ·)) : ys = sortI xs := sort_uniq (h.trans (sortI_perm xs).symm) hy (sortI_sorted xs)
theorem cr_sortI (hK : X.K = K) : CallR X (.builtin "sorted") (fun vs H Q => ∃ (a : Addr) (ns : List Int), vs = [V.ref a] ∧ SqL K H a (ns.map V.int) ∧ ∀ p, H p = none → Q (.ref p) (upd H p (.lst ((sortI ns).map V.int)))) := by
  subst hK
  intro pins s σ H xs us Q I r ⟨a, ns, e, h, q⟩
  refine cr_sortedI pins s σ H xs us Q I r ⟨a, ns, e, h, fun ns' p h1 h2 hp => ?_⟩
  rw [sortI_eq h1 h2]
  exact q p hp
theorem ix_listK (hK : X.K = K) : IxR X (rIxL K) := hK ▸ ix_list
theorem ix_tupK (hK : X.K = K) : IxR X (rIxT K) := hK ▸ ix_tup
theorem sl_listK (hK : X.K = K) : SlR X (rSlL K) := hK ▸ sl_list
theorem call_list_ofK (hK : X.K = K) : CallR X (.type "list") (fun xs H Q => ∃ p ys, xs = [.ref p] ∧ (SqL K H p ys ∨ SqT K H p ys) ∧ ∀ l, H l = none → Q (.ref l) (upd H l (.lst ys))) := hK ▸ call_list_of
theorem call_tuple_ofK (hK : X.K = K) : CallR X (.type "tuple") (fun xs H Q => ∃ p ys, xs = [.ref p] ∧ ((SqL K H p ys ∧ ∀ l, H l = none → Q (.ref l) (upd H l (.tup ys))) ∨ (SqT K H p ys ∧ Q (.ref p) H))) := hK ▸ call_tuple_of
theorem pi_listK {tg l : Expr} {tl : TE} (hK : X.K = K) (hl : PE X l tl) : PI X tg l (iList K tl) := hK ▸ pi_list hl
theorem pi_tupK {tg l : Expr} {tl : TE} (hK : X.K = K) (hl : PE X l tl) : PI X tg l (iTup K tl) := hK ▸ pi_tup hl
theorem pi_k {tg l : Expr} {wi : Fg → TI} (hK : X.K = K) (h : PI X tg l (wi X.K)) : PI X tg l (wi K) := hK ▸ h
theorem pe_k {e : Expr} {t : Fg → TE} (hK : X.K = K) (h : PE X e (t X.K)) : PE X e (t K) := hK ▸ h
theorem pg_k {tg : Expr} {t : Fg → TG} (hK : X.K = K) (h : PG X tg (t X.K)) : PG X tg (t K) := hK ▸ h
end
end Z
/-! Z3: sets of tuples by their number, isinstance -/
namespace Z
open PySem L2 PySem.Spec PyProof.Rows
open Rep (rep)
section
variable {α : Type} [DecidableEq α]
theorem nodup_le : ∀ {xs ys : List α}, xs.Nodup → (∀ y ∈ xs, y ∈ ys) → xs.length ≤ ys.length
  | [], _, _, _ => Nat.zero_le _
  | x :: xs, ys, h, hs => by
    obtain ⟨h1, h2⟩ := List.nodup_cons.mp h
    have hx : x ∈ ys := hs x List.mem_cons_self
    have := nodup_le (xs := xs) (ys := ys.erase x) h2 fun y hy => (List.mem_erase_of_ne (show y ≠ x from fun e => by subst e; exact h1 hy)).mpr (hs y (List.mem_cons_of_mem _ hy))
    rw [List.length_erase_of_mem hx] at this
    have := List.length_pos_of_mem hx
    rw [List.length_cons]
    omega
theorem nodup_len {xs ys : List α} (h1 : xs.Nodup) (h2 : ys.Nodup) (h : ∀ y, y ∈ xs ↔ y ∈ ys) : xs.length = ys.length := by
  refine Nat.le_antisymm ?_ ?_
  · exact nodup_le h1 fun y hy => (h y).mp hy
  · exact nodup_le h2 fun y hy => (h y).mpr hy
end
section
variable {X : Cx} {K : Fg} {P : Program} {w : World} {F H : Hp}
/-- isinstance of a plain value and a built-in class -/
theorem call_isB (hK : X.K = K) : CallR X (.builtin "isinstance") (fun xs H Q => ∃ (x : V) (a b : String) (r : Bool), xs = [x, .ty b] ∧ TyOf K H x (.type a) ∧ kitB a b = some r ∧ Q (.bl r) H) := by
  subst hK
  intro pins s σ H xs us Q I r ⟨x, a, b, c, e, h1, h2, q⟩
  exact call_isi pins s σ H xs us Q I r ⟨x, .ty b, .type a, .type b, c, e, .ty b, .base h1, kit_ty h2, q⟩
end
end Z
namespace Z
open PySem L2 PySem.Spec PyProof.Rows
open Rep (rep)
section
variable {X : Cx} {K : Fg} {F H : Hp}
theorem bools_q {a : Addr} {vs : List V} {xs : List Bool} (q : SqL K H a vs) (h : A2 (rep K F) vs xs) : SqL K H a (xs.map V.bl) := h.bools ▸ q
theorem cr_allK (hK : X.K = K) (hc : X.calm = true) : CallR X (.builtin "all") (rAll K) := hK ▸ cr_all hc
theorem cr_anyK (hK : X.K = K) (hc : X.calm = true) : CallR X (.builtin "any") (rAny K) := hK ▸ cr_any hc
end
end Z
namespace Z
open PySem L2 PySem.Spec PyProof.Rows
open Rep (rep)
section
variable {X : Cx} {K : Fg} {F H : Hp}
/-- xs * k -/
def repL {α : Type} (xs : List α) (k : Int) : List α := (List.replicate k.toNat xs).flatten
@[irreducible] def repR {α : Type} (xs : List α) (k : Int) : R (List α) := if -(2 ^ 62) ≤ k ∧ k < 2 ^ 62 ∧ xs.length * k.toNat < 100000 then .ok (repL xs k) else .bad
theorem pb_rep {α δ : Type} {xs : List α} {k : Int} {f : List α → R δ} {P : δ → Prop} {E : Exn → Prop} (h : Post (repR xs k >>= f) P E) : ∃ ys, (-(2 ^ 63) ≤ k ∧ k < 2 ^ 63 ∧ xs.length * k.toNat ≤ sizeLine) ∧ ys = repL xs k ∧ Post (f ys) P E := by
  unfold repR at h
  obtain ⟨⟨a, b, c⟩, d⟩ := pb_if h
  exact ⟨_, ⟨by omega, by omega, Nat.le_of_lt (Nat.lt_of_lt_of_le c line5)⟩, rfl, d⟩
theorem A2.flat {α : Type} {r : V → α → Prop} {vs : List V} {xs : List α} (h : A2 r vs xs) (n : Nat) : A2 r (List.replicate n vs).flatten (List.replicate n xs).flatten := by
  induction n with
  | zero => exact .nil
  | succ n ih =>
    rw [List.replicate_succ, List.replicate_succ, List.flatten_cons, List.flatten_cons]
    exact h.append ih
/-! ### None -/
class NonN (α : Type) extends Rep α where
  no : ∀ {K : Fg} {H : Hp} {v : V} {x : α}, rep K H v x → v ≠ .non
instance : NonN Int := ⟨fun h e => by have h' : _ = V.int _ := h; rw [h'] at e; cases e⟩
instance : NonN Bool := ⟨fun h e => by have h' : _ = V.bl _ := h; rw [h'] at e; cases e⟩
instance {α β : Type} [Rep α] [Rep β] : NonN (α × β) := ⟨fun {K H v x} h q => by
  obtain ⟨a, u, w, e, _⟩ := h
  rw [e] at q
  cases q⟩
instance {α : Type} [Rep α] : NonN (List α) := ⟨fun {K H v x} h q => by
  obtain ⟨a, u, e, _⟩ := h
  rw [e] at q
  cases q⟩
instance {α : Type} [Rep α] : NonN (Tup α) := ⟨fun {K H v x} h q => by
  obtain ⟨a, u, e, _⟩ := h
  rw [e] at q
  cases q⟩
theorem isN_eq {α : Type} [NonN α] {v : V} {o : Option α} (h : rep K F v o) : decide (v = .non) = o.isNone := by
  cases o with
  | none =>
    have h' : v = V.non := h
    rw [h']
    rfl
  | some x => exact decide_eq_false (NonN.no (α := α) h)
theorem op_isN2 : OpR X (compareOp .Is) (fun x y H Q => y = V.non ∧ ∃ b, decide (x = .non) = b ∧ Q (.bl b) H) := by
  intro pins s σ H x y v u Q I rx ry ⟨e, b, hb, q⟩
  exact op_isN pins s σ H x y v u Q I rx ry ⟨e, by rw [hb]; exact q⟩
theorem op_notN2 : OpR X (compareOp .IsNot) (fun x y H Q => y = V.non ∧ ∃ b, decide (x = .non) = b ∧ Q (.bl (!b)) H) := by
  intro pins s σ H x y v u Q I rx ry ⟨e, b, hb, q⟩
  exact op_notN pins s σ H x y v u Q I rx ry ⟨e, by rw [hb]; exact q⟩
instance datOptBool : Dat (Option Bool) where
  toD := fun x => match x with
    | none => .none
    | some i => .bool i
  dmax := 0
  dp := fun {K H v x} h => by
    cases x with
    | none =>
      have h' : v = V.non := h
      subst h'
      exact .non
    | some i =>
      have h' : v = V.bl i := h
      subst h'
      exact .bl _
  lay := fun x => by cases x <;> simp only [PyData.canLay0]
  dep := fun x => by cases x <;> simp only [PyData.depth, Nat.le_refl]
  eqv := fun x y => by cases x <;> cases y <;> simp [PyData.eqv]
end
end Z
/-! Z4: statements never reached, tuples into the frozen part, pairs sorted, dicts of scalars, list(range), pop -/
namespace Z
open PySem L2
open Rep (rep)
section
variable {X : Cx}
theorem ps_absurd {st : Stmt} : PS X st (fun _ _ _ => False) := ⟨fun _ _ _ _ _ _ h => h.elim⟩
theorem stepOr {t u : TT} {σ : L2.St} {H : Hp} {Q : Bool → Hp → Prop} (h : t σ H fun c H1 => if c = true then Q true H1 else u σ H1 Q) : tOr t u σ H Q := h
theorem stepNot {t : TT} {σ : L2.St} {H : Hp} {Q : Bool → Hp → Prop} (h : t σ H fun c H1 => Q (!c) H1) : tNot t σ H Q := h
/-- every tuple there is may be read -/
def tupF (F H : Hp) : Hp := fun b => match F b with
  | some u => some u
  | none => match H b with
    | some (.tup vs) => some (.tup vs)
    | _ => none
theorem tupF_some {F H : Hp} {b : Addr} {u : HO} (e : F b = some u) : tupF F H b = some u := by
  unfold tupF
  rw [e]
theorem tupF_none {F H : Hp} {b : Addr} {u : HO} (e : F b = none) (h : tupF F H b = some u) : H b = some u ∧ ∃ vs, u = .tup vs := by
  unfold tupF at h
  rw [e] at h
  dsimp only at h
  split at h
  · rename_i vs e'
    cases h
    exact ⟨e', _, rfl⟩
  · cases h
theorem tupF_tup {F H : Hp} {b : Addr} {vs : List V} (e : F b = none) (h : H b = some (.tup vs)) : tupF F H b = some (.tup vs) := by
  unfold tupF
  rw [e, h]
theorem W.tups {F H : Hp} {os : List (Addr × HO)} (w : W F H os) : ∃ F', Same F F' ∧ W F' H os ∧ ∀ b vs, H b = some (.tup vs) → F' b = some (.tup vs) := by
  refine ⟨tupF F H, fun b u e => tupF_some e, ⟨fun b u e => ?_, fun p hp => ?_, w.nd, w.nt⟩, fun b vs e => ?_⟩
  · cases q : F b with
    | some u' =>
      rw [tupF_some q] at e
      cases e
      exact w.same b _ q
    | none => exact (tupF_none q e).1
  · obtain ⟨h1, h2⟩ := w.own p hp
    refine ⟨h1, ?_⟩
    cases q : tupF F H p.1 with
    | none => rfl
    | some u =>
      obtain ⟨k, vs, rfl⟩ := tupF_none h2 q
      rw [h1] at k
      exact absurd (Option.some.inj k) (w.nt p hp vs)
  · cases q : F b with
    | some u' =>
      have := w.same b _ q
      rw [e] at this
      cases this
      exact tupF_some q
    | none => exact tupF_tup q e
/-! ### sorted, of pairs -/
def leP (p q : Int × Int) : Bool := decide (p.1 < q.1 ∨ (p.1 = q.1 ∧ p.2 ≤ q.2))
def sortP (xs : List (Int × Int)) : List (Int × Int) := xs.mergeSort leP
theorem sortP_perm (xs : List (Int × Int)) : (sortP xs).Perm xs := List.mergeSort_perm xs _
theorem sortP_sorted (xs : List (Int × Int)) : (sortP xs).Pairwise fun p q => leP p q = true := by
  refine List.pairwise_mergeSort (le := leP) (fun a b c h1 h2 => ?_) (fun a b => ?_) xs
  · unfold leP at *
    simp only [decide_eq_true_eq] at *
    omega
  · unfold leP
    simp only [Bool.or_eq_true, decide_eq_true_eq]
    omega
theorem sortP_uniq {xs ys : List (Int × Int)} (h : xs.Perm ys) (hx : xs.Pairwise fun p q => leP p q = true) (hy : ys.Pairwise fun p q => leP p q = true) : xs = ys := by
  induction xs generalizing ys with
  | nil => exact (List.nil_perm.mp h).symm
  | cons x xs ih =>
    cases ys with
    | nil => exact absurd h.length_eq (by simp)
    | cons y ys =>
      rw [List.pairwise_cons] at hx hy
      have e : x = y := by
        have h1 : y ∈ x :: xs := h.mem_iff.mpr List.mem_cons_self
        have h2 : x ∈ y :: ys := h.mem_iff.mp List.mem_cons_self
        rcases List.mem_cons.mp h1 with e | h1
        · exact e.symm
        · rcases List.mem_cons.mp h2 with e | h2
          · exact e
          · have a := hx.1 y h1
            have b := hy.1 x h2
            unfold leP at a b
            simp only [decide_eq_true_eq] at a b
            exact Prod.ext (by omega) (by omega)
      subst e
      rw [ih h.cons_inv hx.2 hy.2]
theorem sortP_eq {xs ys : List (Int × Int)} (h : ys.Perm xs) (hy : ys.Pairwise fun p q => leP p q = true) : ys = sortP xs := sortP_uniq (h.trans (sortP_perm xs).symm) hy (sortP_sorted xs)
/-- which pair stands at a reference -/
def keyP (H : Hp) (v : V) : Int × Int := match v with
  | .ref t => match H t with
    | some (.tup [.int i, .int j]) => (i, j)
    | _ => (0, 0)
  | _ => (0, 0)
theorem keyP_of {K : Fg} {F H : Hp} {v : V} {x : Int × Int} (s : Same F H) (r : rep K F v x) : ∃ t, v = .ref t ∧ F t = some (.tup [.int x.1, .int x.2]) ∧ keyP H v = x := by
  obtain ⟨t, u, z, rfl, q, r1, r2⟩ := r
  obtain rfl : u = V.int x.1 := r1
  obtain rfl : z = V.int x.2 := r2
  refine ⟨t, rfl, q, ?_⟩
  have h := s _ _ q
  unfold keyP
  dsimp only
  rw [h]
theorem keyP_all {K : Fg} {F H : Hp} {vs : List V} {xs : List (Int × Int)} (s : Same F H) (h : A2 (rep K F) vs xs) : xs = vs.map (keyP H) ∧ ∀ v ∈ vs, ∃ t, v = .ref t ∧ F t = some (.tup [.int (keyP H v).1, .int (keyP H v).2]) := by
  induction h with
  | nil => exact ⟨rfl, fun _ z => nomatch z⟩
  | cons a b ih =>
    obtain ⟨t, e, q, k⟩ := keyP_of s a
    refine ⟨by rw [List.map_cons, k, ← ih.1], fun v hv => ?_⟩
    rcases List.mem_cons.mp hv with rfl | hv
    · exact ⟨t, e, by rw [k]; exact q⟩
    · exact ih.2 v hv
theorem rep_keys {K : Fg} {F H : Hp} : ∀ {ys : List V}, (∀ v ∈ ys, ∃ t, v = V.ref t ∧ F t = some (.tup [.int (keyP H v).1, .int (keyP H v).2])) → A2 (rep K F) ys (ys.map (keyP H))
  | [], _ => .nil
  | v :: ys, h => by
    obtain ⟨t, e, q⟩ := h v List.mem_cons_self
    refine .cons ?_ (rep_keys fun y hy => h y (List.mem_cons_of_mem _ hy))
    subst e
    exact ⟨t, _, _, rfl, q, rfl, rfl⟩
theorem cr_sortP {K : Fg} (hK : X.K = K) : CallR X (.builtin "sorted") (fun vs H Q => ∃ (a : Addr) (us : List V) (F : Hp) (xs : List (Int × Int)), vs = [V.ref a] ∧ SqL K H a us ∧ Same F H ∧ A2 (rep K F) us xs ∧
    ∀ p ys, H p = none → A2 (rep K F) ys (sortP xs) → Q (.ref p) (upd H p (.lst ys))) := by
  subst hK
  intro pins s σ H vs us Q I r h
  obtain ⟨a, us', F, xs, rfl, hs, sF, hA, q⟩ := h
  obtain ⟨e1, e2⟩ := keyP_all sF hA
  refine cr_sortedPO pins s σ H _ us Q I r ⟨a, us', keyP H, rfl, hs, fun x hx => ?_, fun ys p h1 h2 hp => q p ys hp ?_⟩
  · obtain ⟨t, e, k⟩ := e2 x hx
    exact ⟨t, e, sF _ _ k⟩
  · have e : ys.map (keyP H) = sortP xs := by
      refine sortP_eq ?_ ?_
      · rw [e1]
        exact h2.perm.map _
      · rw [List.pairwise_map]
        refine h1.imp fun {x y} h => ?_
        have h := SrtO.lexB_no.mp h
        unfold leP
        rw [decide_eq_true_eq]
        omega
    rw [← e]
    exact rep_keys fun v hv => e2 v (h2.perm.mem_iff.mp hv)
end
/-! ### dicts of scalars -/
section
variable {κ β γ δ : Type} [DecidableEq κ]
def mput (m : List (κ × β)) (k : κ) (v : β) : List (κ × β) := if (m.any fun p => decide (p.1 = k)) = true then m.map (fun p => if p.1 = k then (p.1, v) else p) else m ++ [(k, v)]
def mhas (m : List (κ × β)) (k : κ) : Bool := m.any fun p => decide (p.1 = k)
def mget (m : List (κ × β)) (k : κ) : Option β := (m.find? fun p => decide (p.1 = k)).map (·.2)
def mputR (m : List (κ × β)) (k : κ) (v : β) : R (List (κ × β)) := if m.length < 100000 then .ok (mput m k v) else .bad
def mgetR (m : List (κ × β)) (k : κ) : R β := ofO (mget m k)
/-- as the dict stands -/
def encM (e : κ → γ) (ev : β → V) (m : List (κ × β)) : List (γ × V) := m.map fun p => (e p.1, ev p.2)
variable [DecidableEq γ] {e : κ → γ} {ev : β → V}
end
abbrev kI : Int → Key := .inl
theorem pn_mput {κ β δ : Type} [DecidableEq κ] {m : List (κ × β)} {k : κ} {v : β} {f : List (κ × β) → R δ} {P : δ → Prop} {E : Exn → Prop} (h : Post (mputR m k v >>= f) P E) : ∃ m', m.length < sizeLine ∧ m' = mput m k v ∧ Post (f m') P E := by
  unfold mputR at h
  by_cases hl : m.length < 100000
  · rw [if_pos hl] at h
    exact ⟨_, Nat.lt_of_lt_of_le hl line5, rfl, h⟩
  · rw [if_neg hl] at h
    exact (show False from h).elim
/-! ### list(range(n)) -/
@[irreducible] def listRng (i j : Int) : R (List Int) := if -(2 ^ 62) ≤ i ∧ i < 2 ^ 62 ∧ -(2 ^ 62) ≤ j ∧ j < 2 ^ 62 ∧ (j - i).toNat ≤ 100000 then .ok (rng i j) else .bad
theorem rgV_eq (i j : Int) : rgV i j = (rng i j).map V.int := by
  unfold rgV rng
  rw [List.map_map]
  rfl
theorem pb_lrng {δ : Type} {i j : Int} {f : List Int → R δ} {P : δ → Prop} {E : Exn → Prop} (h : Post (listRng i j >>= f) P E) : ∃ l, RgOk i j ∧ l = rng i j ∧ Post (f l) P E := by
  unfold listRng at h
  by_cases hl : -(2 ^ 62) ≤ i ∧ i < 2 ^ 62 ∧ -(2 ^ 62) ≤ j ∧ j < 2 ^ 62 ∧ (j - i).toNat ≤ 100000
  · rw [if_pos hl] at h
    obtain ⟨a, b, c, d, e⟩ := hl
    exact ⟨_, ⟨a, b, c, d, by omega⟩, rfl, h⟩
  · rw [if_neg hl] at h
    exact (show False from h).elim
/-! ### a list of perhaps nothing, where nothing is nothing -/
def allS {α : Type} : List (Option α) → R (List α)
  | [] => .ok []
  | none :: _ => .bad
  | some x :: xs => allS xs >>= fun ys => .ok (x :: ys)
theorem allS_iff {α : Type} : ∀ {xs : List (Option α)} {ys : List α}, allS xs = R.ok ys ↔ xs = ys.map some
  | [], ys => by
    constructor
    · intro h; cases h; rfl
    · intro h
      cases ys with
      | nil => rfl
      | cons => cases h
  | none :: xs, ys => by
    constructor
    · intro h; cases h
    · intro h
      cases ys <;> cases h
  | some x :: xs, ys => by
    constructor
    · intro h
      obtain ⟨zs, e, h⟩ := bind_ok_iff.mp h
      cases h
      rw [allS_iff.mp e]
      rfl
    · intro h
      cases ys with
      | nil => cases h
      | cons y ys =>
        rw [List.map_cons] at h
        injection h with h1 h2
        cases h1
        show (allS xs >>= fun ys => R.ok (x :: ys)) = _
        rw [allS_iff.mpr h2]
        rfl
theorem pb_allS {α δ : Type} {xs : List (Option α)} {f : List α → R δ} {P : δ → Prop} {E : Exn → Prop} (h : Post (allS xs >>= f) P E) : ∃ ys, xs = ys.map some ∧ Post (f ys) P E := by
  cases e : allS xs with
  | ok ys =>
    rw [e] at h
    exact ⟨ys, allS_iff.mp e, h⟩
  | exc x =>
    rw [e] at h
    exfalso
    clear h
    induction xs with
    | nil => cases e
    | cons x xs ih =>
      cases x with
      | none => cases e
      | some x =>
        have e' : (allS xs >>= fun ys => R.ok (x :: ys)) = R.exc _ := e
        cases e2 : allS xs with
        | ok y => rw [e2] at e'; cases e'
        | exc y => rw [e2] at e'; cases e'; exact ih e2
        | bad => rw [e2] at e'; cases e'
  | bad =>
    rw [e] at h
    exact (show False from h).elim
theorem A2.unsome {α : Type} [Rep α] {K : Fg} {F : Hp} : ∀ {vs : List V} {ys : List α}, A2 (rep K F) vs (ys.map some) → A2 (rep K F) vs ys
  | [], [], _ => .nil
  | _ :: _, [], h => nomatch h
  | [], _ :: _, h => nomatch h
  | _ :: _, _ :: _, .cons a b => .cons a (A2.unsome b)
/-! ### pop -/
theorem pn_popI {α β : Type} {xs : List α} {f : α × List α → R β} {Q : β → Prop} {E : Exn → Prop} (h : Post (popI xs >>= f) Q E) : ∃ x ys, xs[xs.length - 1]? = some x ∧ ys = xs.dropLast ∧ Post (f (x, ys)) Q E := by
  unfold popI at h
  rw [List.getLast?_eq_getElem?] at h
  cases e : xs[xs.length - 1]? with
  | none =>
    rw [e] at h
    exact (show False from h).elim
  | some x =>
    rw [e] at h
    exact ⟨x, _, rfl, rfl, h⟩
theorem A2.lastV {α : Type} {r : V → α → Prop} {vs : List V} {xs : List α} {x : α} (h : A2 r vs xs) (e : xs[xs.length - 1]? = some x) : ∃ u, vs[vs.length - 1]? = some u ∧ r u x := by
  rw [h.length]
  exact h.get e
/-! ### in, of a dict of scalars -/
def tDInH (ty td : TE) : TE := fun σ H Q => ty σ H fun y H1 => td σ H1 fun x H2 => ∃ a o b, x = .ref a ∧ DGet H2 a y o ∧ o.isSome = b ∧ Q (.bl b) H2
def tDNotInH (ty td : TE) : TE := fun σ H Q => ty σ H fun y H1 => td σ H1 fun x H2 => ∃ a o b, x = .ref a ∧ DGet H2 a y o ∧ o.isSome = b ∧ Q (.bl (!b)) H2
section
variable {X : Cx} {o i : Expr} {td ty : TE}
theorem pc_dinH (hu : X.A.units + 1 < cLine) (hi : PE X i ty) (ho : PE X o td) : PC X .In i o (tDInH ty td) := by
  refine ⟨fun pins s σ H Q I h => ?_⟩
  refine thn (hi.run pins s σ H _ I h) fun iv s1 ⟨y, H1, I1, ry, q1⟩ => thn (ho.run pins s1 σ H1 _ I1 q1) fun u s2 ⟨x, H2, I2, rx, a, ov, b, ex, g, eb, q2⟩ => ?_
  subst ex
  subst eb
  obtain rfl : u = Value.ref a := rx
  exact d_in hu I2 g ry fun s3 I3 => ⟨.bl ov.isSome, H2, I3, rfl, q2⟩
theorem pc_dnotinH (hu : X.A.units + 1 < cLine) (hi : PE X i ty) (ho : PE X o td) : PC X .NotIn i o (tDNotInH ty td) := by
  refine ⟨fun pins s σ H Q I h => ?_⟩
  refine thn (hi.run pins s σ H _ I h) fun iv s1 ⟨y, H1, I1, ry, q1⟩ => thn (ho.run pins s1 σ H1 _ I1 q1) fun u s2 ⟨x, H2, I2, rx, a, ov, b, ex, g, eb, q2⟩ => ?_
  subst ex
  subst eb
  obtain rfl : u = Value.ref a := rx
  exact d_notIn hu I2 g ry fun s3 I3 => ⟨.bl (!ov.isSome), H2, I3, rfl, q2⟩
end
theorem Room.units1 {k : Nat} {A : Around} (r : Room k A) : A.units + 1 < cLine := by
  have := r.un
  omega
end Z
/-! ZX: an exception caught by its class, held behind the suite as a thing of its own -/
namespace L2
open PySem PySem.Spec PyProof.Rows
/-- a caught exception of the class cls at a -/
def ExH (cls : Value) (a : Addr) : HO := .ext fun h => ∃ (oe : Obj), h.get? a = some oe ∧ Zc cls none oe ∧ ∃ vs, oe.data = .fields vs
end L2
namespace Z
open PySem L2
open Rep (rep)
/-- the class that a name of the text names -/
def Nm (K : Fg) (x : Str) (C : Addr) : Prop := PySem.W.nsIn K mainGlobals x = some (some (.ref C))
theorem Nm.uniq {K : Fg} {x : Str} {C D : Addr} (a : Nm K x C) (b : Nm K x D) : C = D := by
  have h := a.symm.trans b
  injection h with h
  injection h with h
  injection h
instance repExn : Rep Exn := ⟨fun K F v e => ∃ a C, v = .ref a ∧ Nm K e.cls C ∧ F a = some (ExH (.ref C) a), fun s ⟨a, C, h, n, q⟩ => ⟨a, C, h, n, s _ _ q⟩⟩
/-- a call that lets no error out -/
def nx {α : Type} (m : R α) : R α := match m with
  | .ok a => .ok a
  | .exc _ => .bad
  | .bad => .bad
theorem kit_ty {K : Fg} {x : Addr} {T : String} {b : Bool} (h1 : PySem.W.kitMeta T = true) (h3 : PySem.W.subIn K (.ref x) (.type T) = some b) : PySem.W.kitOne K (.ref x) (.type T) = some b := by
  have e : PySem.W.kitCls K (.ref x) (.type T) = some b := by
    show (if PySem.W.kitMeta T = true then PySem.W.subIn K (.ref x) (.type T) else none) = some b
    rw [if_pos h1]
    exact h3
  unfold PySem.W.kitOne
  have h4 : (Value.ref x == Value.type T) = false := rfl
  rw [h4, if_neg (by decide)]
  exact e
/-- what is known of an own error class -/
structure XC (K : Fg) (mg : Str → Option Value) (x : Str) (C : Addr) : Prop where
  ns : Nm K x C
  gm : mg x = some (.ref C)
  xc : PySem.W.excIn K C [.type "ValueError", .type "Exception", .type "BaseException", .type "object"] "ValueError.__new__" = true
  kp : PySem.W.keepIn K (.ref C) = true
  b : PySem.W.subIn K (.ref C) (.type "BaseException") = some true
  t : PySem.W.typeIn K (.ref C) = some (.type "type")
  ex : ExcC K C
end Z
/-! Z5: regions: lists of one's own by their number in a store -/
namespace Z
open PySem L2
open Rep (rep)
/-! ### two lists, item by item -/
inductive F2 {α β : Type} (r : α → β → Prop) : List α → List β → Prop
  | nil : F2 r [] []
  | cons {a : α} {b : β} {as : List α} {bs : List β} : r a b → F2 r as bs → F2 r (a :: as) (b :: bs)
section
variable {α β : Type} {r r' : α → β → Prop} {as : List α} {bs : List β}
theorem F2.length : ∀ {as : List α} {bs : List β}, F2 r as bs → as.length = bs.length
  | _, _, .nil => rfl
  | _, _, .cons _ t => by rw [List.length_cons, List.length_cons, F2.length t]
theorem F2.imp (f : ∀ a b, r a b → r' a b) : ∀ {as : List α} {bs : List β}, F2 r as bs → F2 r' as bs
  | _, _, .nil => .nil
  | _, _, .cons h t => .cons (f _ _ h) (F2.imp f t)
theorem F2.get : ∀ {as : List α} {bs : List β} {i : Nat} {b : β}, F2 r as bs → bs[i]? = some b → ∃ a, as[i]? = some a ∧ r a b
  | _, _, _, _, .nil, e => by simp at e
  | _, _, 0, _, .cons h _, e => by simp at e; subst e; exact ⟨_, rfl, h⟩
  | _, _, i + 1, b, .cons _ t, e => by
    obtain ⟨v, h1, h2⟩ := F2.get (i := i) (b := b) t (by simpa using e)
    exact ⟨v, by simpa using h1, h2⟩
theorem F2.set {a : α} {b : β} (h : r a b) : ∀ {as : List α} {bs : List β} (i : Nat), F2 r as bs → F2 r (as.set i a) (bs.set i b)
  | _, _, _, .nil => .nil
  | _, _, 0, .cons _ t => .cons h t
  | _, _, i + 1, .cons q t => .cons q (F2.set h i t)
theorem F2.append : ∀ {as as' : List α} {bs bs' : List β}, F2 r as bs → F2 r as' bs' → F2 r (as ++ as') (bs ++ bs')
  | _, _, _, _, .nil, h => h
  | _, _, _, _, .cons a t, h => .cons a (F2.append t h)
theorem F2.snoc {a : α} {b : β} (h : F2 r as bs) (q : r a b) : F2 r (as ++ [a]) (bs ++ [b]) := h.append (.cons q .nil)
end
/-! ### a store's lists: cells -/
def nz : List Addr → List (List V) → List (Addr × HO)
  | a :: as, vs :: vss => (a, .lst vs) :: nz as vss
  | _, _ => []
theorem nz_split : ∀ {as : List Addr} {vss : List (List V)} {j : Nat} {a : Addr} {vs : List V}, as[j]? = some a → vss[j]? = some vs →
    ∃ x y, nz as vss = x ++ (a, .lst vs) :: y ∧ ∀ us, nz as (vss.set j us) = x ++ (a, .lst us) :: y
  | [], _, j, _, _, h, _ => by simp at h
  | _ :: _, [], j, _, _, _, h => by simp at h
  | b :: as, ws :: vss, 0, a, vs, h1, h2 => by
    simp at h1 h2
    subst h1 h2
    exact ⟨[], nz as vss, rfl, fun _ => rfl⟩
  | b :: as, ws :: vss, j + 1, a, vs, h1, h2 => by
    obtain ⟨x, y, e1, e2⟩ := nz_split (as := as) (vss := vss) (j := j) (a := a) (vs := vs) (by simpa using h1) (by simpa using h2)
    exact ⟨(b, .lst ws) :: x, y, by show (b, HO.lst ws) :: nz as vss = _; rw [e1]; rfl, fun us => by show (b, HO.lst ws) :: nz as (vss.set j us) = _; rw [e2]; rfl⟩
theorem nz_snoc : ∀ {as : List Addr} {vss : List (List V)} {a : Addr} {vs : List V}, as.length = vss.length → nz (as ++ [a]) (vss ++ [vs]) = nz as vss ++ [(a, .lst vs)]
  | [], [], _, _, _ => rfl
  | [], _ :: _, _, _, h => by simp at h
  | _ :: _, [], _, _, h => by simp at h
  | b :: as, ws :: vss, a, vs, h => by
    show (b, HO.lst ws) :: nz (as ++ [a]) (vss ++ [vs]) = (b, HO.lst ws) :: (nz as vss ++ [(a, .lst vs)])
    rw [nz_snoc (by simpa using h)]
section
variable {F H : Hp} {os os' pre post : List (Addr × HO)} {a p : Addr} {o : HO} {as : List Addr} {vss : List (List V)} {j : Nat} {vs : List V}
theorem W.perm (h : os.Perm os') (w : W F H os) : W F H os' where
  same := w.same
  own := fun q hq => w.own q (h.mem_iff.mpr hq)
  nd := h.pairwise_iff (fun e q => e q.symm) |>.mp w.nd
  nt := fun q hq => w.nt q (h.mem_iff.mpr hq)
/-- the j-th list of a store -/
theorem W.nget (w : W F H (pre ++ (nz as vss ++ post))) (h1 : as[j]? = some a) (h2 : vss[j]? = some vs) : H a = some (.lst vs) := by
  obtain ⟨x, y, e, _⟩ := nz_split h1 h2
  rw [e] at w
  exact (w.own (a, .lst vs) (by simp)).1
theorem W.nset (w : W F H (pre ++ (nz as vss ++ post))) (us : List V) (h1 : as[j]? = some a) (h2 : vss[j]? = some vs) : W F (upd H a (.lst us)) (pre ++ (nz as (vss.set j us) ++ post)) := by
  obtain ⟨x, y, e, e2⟩ := nz_split h1 h2
  rw [e] at w
  rw [e2]
  have w' : W F H ((pre ++ x) ++ (a, .lst vs) :: (y ++ post)) := by
    have e3 : pre ++ (x ++ (a, HO.lst vs) :: y ++ post) = (pre ++ x) ++ (a, HO.lst vs) :: (y ++ post) := by simp
    rw [← e3]
    exact w
  have w2 := w'.set (o' := .lst us)
  have e3 : pre ++ (x ++ (a, HO.lst us) :: y ++ post) = (pre ++ x) ++ (a, HO.lst us) :: (y ++ post) := by simp
  rw [e3]
  exact w2
/-- a cell goes into a store -/
theorem W.nadd (w : W F H ((p, .lst vs) :: (pre ++ (nz as vss ++ post)))) (hl : as.length = vss.length) : W F H (pre ++ (nz (as ++ [p]) (vss ++ [vs]) ++ post)) := by
  rw [nz_snoc hl]
  refine w.perm ?_
  have e : pre ++ (nz as vss ++ [(p, HO.lst vs)] ++ post) = (pre ++ nz as vss) ++ (p, HO.lst vs) :: post := by simp
  have e2 : (p, HO.lst vs) :: (pre ++ (nz as vss ++ post)) = (p, HO.lst vs) :: ((pre ++ nz as vss) ++ post) := by simp
  rw [e, e2]
  exact List.perm_middle.symm
theorem W.dropL (w : W F H (pre ++ (os ++ post))) : W F H (pre ++ post) where
  same := w.same
  own := fun q hq => w.own q (by
    rcases List.mem_append.mp hq with h | h
    · exact List.mem_append_left _ h
    · exact List.mem_append_right _ (List.mem_append_right _ h))
  nd := by
    have nd := w.nd
    rw [List.pairwise_append] at nd ⊢
    obtain ⟨n1, n2, n3⟩ := nd
    rw [List.pairwise_append] at n2
    exact ⟨n1, n2.2.1, fun x hx y hy => n3 x hx y (List.mem_append_right _ hy)⟩
  nt := fun q hq => w.nt q (by
    rcases List.mem_append.mp hq with h | h
    · exact List.mem_append_left _ h
    · exact List.mem_append_right _ (List.mem_append_right _ h))
/-- a whole store is never written again -/
theorem W.nfreeze : ∀ {as : List Addr} {vss : List (List V)} {F : Hp}, W F H (pre ++ (nz as vss ++ post)) → ∃ F', Same F F' ∧ W F' H (pre ++ post) ∧ ∀ (j : Nat) (a : Addr) (vs : List V), as[j]? = some a → vss[j]? = some vs → F' a = some (.lst vs)
  | [], _, F, w => ⟨F, Same.refl _, w, fun j a vs h => by simp at h⟩
  | _ :: _, [], F, w => ⟨F, Same.refl _, w, fun j a vs _ h => by simp at h⟩
  | b :: as, ws :: vss, F, w => by
    have w' : W F H (pre ++ (b, .lst ws) :: (nz as vss ++ post)) := w
    obtain ⟨F1, s1, w1, q1⟩ := w'.freezeE
    obtain ⟨F2, s2, w2, q2⟩ := W.nfreeze (as := as) (vss := vss) w1
    refine ⟨F2, s1.trans s2, w2, fun j a vs h1 h2 => ?_⟩
    cases j with
    | zero =>
      simp at h1 h2
      subst h1 h2
      exact s2 _ _ q1
    | succ j => exact q2 j a vs (by simpa using h1) (by simpa using h2)
end
/-! ### what stands in a store -/
section
variable {α β δ : Type} [Rep α] [Rep β] {K : Fg} {F F' H : Hp} {as as' : List Addr} {vss : List (List V)} {st : List (List α)}
structure Sto (K : Fg) (F : Hp) (as : List Addr) (vss : List (List V)) (st : List (List α)) : Prop where
  len : as.length = vss.length
  all : F2 (A2 (rep K F)) vss st
theorem Sto.nil : Sto K F [] [] ([] : List (List α)) := ⟨rfl, .nil⟩
theorem Sto.mono (s : Same F F') (h : Sto K F as vss st) : Sto K F' as vss st := ⟨h.len, h.all.imp fun _ _ q => q.mono s⟩
theorem Sto.len2 (h : Sto K F as vss st) : as.length = st.length := h.len.trans h.all.length
theorem Sto.get {j : Nat} {xs : List α} (h : Sto K F as vss st) (e : st[j]? = some xs) : ∃ a vs, as[j]? = some a ∧ vss[j]? = some vs ∧ A2 (rep K F) vs xs := by
  obtain ⟨vs, h1, h2⟩ := h.all.get e
  have hj := (List.getElem?_eq_some_iff.mp e).1
  rw [← h.len2] at hj
  exact ⟨as[j], vs, List.getElem?_eq_getElem hj, h1, h2⟩
theorem Sto.set {j : Nat} {vs : List V} {xs : List α} (h : Sto K F as vss st) (q : A2 (rep K F) vs xs) : Sto K F as (vss.set j vs) (st.set j xs) := ⟨by rw [List.length_set]; exact h.len, h.all.set q j⟩
theorem Sto.snoc {p : Addr} {vs : List V} {xs : List α} (h : Sto K F as vss st) (q : A2 (rep K F) vs xs) : Sto K F (as ++ [p]) (vss ++ [vs]) (st ++ [xs]) := ⟨by simp [h.len], h.all.snoc q⟩
/-- a number in a store -/
abbrev Ix := Nat
def RX (as : List Addr) (v : V) (j : Ix) : Prop := ∃ a, v = .ref a ∧ as[j]? = some a
theorem RX.mono (h : as <+: as') {v : V} {j : Ix} (q : RX as v j) : RX as' v j := by
  obtain ⟨a, e, q⟩ := q
  obtain ⟨t, rfl⟩ := h
  refine ⟨a, e, ?_⟩
  rw [List.getElem?_append_left (List.getElem?_eq_some_iff.mp q).1]
  exact q
theorem RX.new (h : as.length = n) {p : Addr} : RX (as ++ [p]) (.ref p) n := ⟨p, rfl, by rw [List.getElem?_append_right (by omega), ← h]; simp⟩
theorem IQ.mono (h : as <+: as') {a : Addr} {j : Nat} (q : as[j]? = some a) : as'[j]? = some a := by
  obtain ⟨t, rfl⟩ := h
  rw [List.getElem?_append_left (List.getElem?_eq_some_iff.mp q).1]
  exact q
theorem IQ.new {n : Nat} (h : as.length = n) {p : Addr} : (as ++ [p])[n]? = some p := by
  rw [List.getElem?_append_right (by omega), ← h]
  simp
theorem pfx_trans {as2 : List Addr} (h : as <+: as') (h' : as' <+: as2) : as <+: as2 := h.trans h'
theorem Sto.getq {j : Nat} {xs : List α} {a : Addr} (h : Sto K F as vss st) (e : st[j]? = some xs) (q : as[j]? = some a) : ∃ vs, vss[j]? = some vs ∧ A2 (rep K F) vs xs := h.all.get e
theorem pfx_refl : as <+: as := List.prefix_refl _
theorem pfx_snoc {p : Addr} : as <+: as ++ [p] := List.prefix_append _ _
/-- the list of a number -/
def getS (st : List (List α)) (j : Ix) : R (List α) := ofO st[j]?
theorem pb_getS {st : List (List α)} {j : Ix} {f : List α → R δ} {P : δ → Prop} {E : Exn → Prop} (h : Post (getS st j >>= f) P E) : ∃ xs, st[j]? = some xs ∧ Post (f xs) P E := pb_ofO h
/-- .. another list in its place -/
def setS (st : List (List α)) (j : Ix) (ys : List α) : R (List (List α)) := .ok (st.set j ys)
theorem pn_setS {st : List (List α)} {j : Ix} {ys : List α} {f : List (List α) → R δ} {P : δ → Prop} {E : Exn → Prop} (h : Post (setS st j ys >>= f) P E) : ∃ st', st' = st.set j ys ∧ Post (f st') P E := ⟨_, rfl, h⟩
/-- .. a new one -/
def newS (st : List (List α)) (ys : List α) : R (Ix × List (List α)) := .ok (st.length, st ++ [ys])
theorem pn_newS {st : List (List α)} {ys : List α} {f : Ix × List (List α) → R δ} {P : δ → Prop} {E : Exn → Prop} (h : Post (newS st ys >>= f) P E) : ∃ j st', j = st.length ∧ st' = st ++ [ys] ∧ Post (f (j, st')) P E := ⟨_, _, rfl, rfl, h⟩
/-- lists by their numbers -/
def deref (st : List (List α)) (js : List Ix) : R (List (List α)) := mapR (getS st) js
theorem deref_rep {vs : List V} {js : List Ix} {xss : List (List α)} (h : Sto K F as vss st) (hf : ∀ (j : Nat) (a : Addr) (vs : List V), as[j]? = some a → vss[j]? = some vs → F' a = some (.lst vs)) (s : Same F F')
    (hv : A2 (RX as) vs js) (e : deref st js = R.ok xss) : A2 (rep K F') vs xss := by
  induction hv generalizing xss with
  | nil =>
    cases e
    exact .nil
  | cons a b ih =>
    obtain ⟨ad, rfl, h1⟩ := a
    obtain ⟨ys, e1, e⟩ := bind_ok_iff.mp e
    obtain ⟨yss, e2, e⟩ := bind_ok_iff.mp e
    cases e
    rename_i j js' _ _
    unfold getS at e1
    cases q : st[j]? with
    | none => rw [q] at e1; cases e1
    | some zs =>
      rw [q] at e1
      cases e1
      obtain ⟨a', ws, h2, h3, h4⟩ := h.get q
      rw [h1] at h2
      cases h2
      exact .cons ⟨ad, ws, rfl, hf _ _ _ h1 h3, h4.mono s⟩ (ih e2)
end
section
variable {K : Fg} {F : Hp} {a : Addr} {β : Type} {vs : List V} {xs : List β} {r : V → β → Prop}
theorem tw_listR (h : A2 r vs xs) : TW (Itl K a) xs (fun H => SqL K H a vs) (fun b H x H' => H' = H ∧ r x b) := ⟨by
  rw [← h.length]
  exact walk_list.mono (fun _ g => g) fun i H x H' _ _ y => by
    obtain ⟨y1, y2⟩ := y
    obtain ⟨b, h1, h2⟩ := h.getV y2
    exact ⟨b, h1, y1, h2⟩⟩
end
/-! ### comprehensions, what is made told by the state -/
section
variable {J : It} {β γ δ ε : Type} {items : List β} {G : Hp → Prop} {Y : β → Hp → V → Hp → Prop} {g : TG} {tt : TT} {te : TE} {P : ε → Prop} {X : Exn → Prop} {K : Fg} {vs : List Nat} {σ : St} {F H1 : Hp} {os : List (Addr × HO)} {D : Addr} {Qd : Hp → Prop}
theorem lcG (tw : TW J items G Y) {f : γ → β → R (Option δ × γ)} {s0 : γ} {k : List δ × γ → R ε} (hm : Post (filStG f s0 items >>= k) P X) (O : γ → Hp → List (Addr × HO) → List V → List δ → Prop) (w : W F H1 os) (o0 : O s0 F os [] []) (nD : H1 D = none)
    (hl : ∀ c F' os' us ys, O c F' os' us ys → us.length = ys.length)
    (hG : ∀ c F' H' os' acc ys, Same F F' → W F' H' ((D, .lst acc) :: os') → O c F' os' acc ys → G H')
    (hs : ∀ (b : β) (c : γ) (x : V) (F' H' H'' : Hp) (os' : List (Addr × HO)) (acc : List V) (ys : List δ) (N : V → Hp → Prop) (N0 : Hp → Prop) (P' : Option δ × γ → Prop), Same F F' → W F' H' ((D, .lst acc) :: os') → O c F' os' acc ys → Y b H' x H'' →
      (∀ d c', P' (some d, c') → ∀ y F'' H'' os'', W F'' H'' ((D, .lst acc) :: os'') → Same F' F'' → O c' F'' os'' (acc ++ [y]) (ys ++ [d]) → N y H'') →
      (∀ c', P' (none, c') → ∀ F'' H'' os'', W F'' H'' ((D, .lst acc) :: os'') → Same F' F'' → O c' F'' os'' acc ys → N0 H'') → Post (f c b) P' X →
      g x (wipe σ vs) H'' fun σ2 H2 => wipe σ2 vs = wipe σ vs ∧ tt σ2 H2 fun b H3 => if b = true then te σ2 H3 N else N0 H3)
    (hd : ∀ c us F' H' os' ys, Same F F' → W F' H' ((D, .lst us) :: os') → O c F' os' us ys → Post (k (ys, c)) P X → Qd H') : LcAsk J g tt te vs σ H1 D Qd := by
  obtain ⟨hlen, hm⟩ := pb_grd (pb_assoc hm)
  have hlen : items.length < sizeLine := Nat.lt_of_lt_of_le (of_decide_eq_true hlen) line5
  refine lc_it tw.walk (fun i H => ∃ c F' os' us ys, i ≤ items.length ∧ Same F F' ∧ W F' H ((D, .lst us) :: os') ∧ O c F' os' us ys ∧ ys.length ≤ i ∧ Post (filSt f c (items.drop i) >>= fun q => k (ys ++ q.1, q.2)) P X) ?_ ?_ ?_ ?_
  · exact ⟨s0, F, os, [], [], Nat.zero_le _, Same.refl _, w.new nD, o0, Nat.le_refl _, hm⟩
  · rintro i H _ ⟨c, F', os', us, ys, _, s, w', o, _⟩
    exact hG c F' H os' us ys s w' o
  · rintro i x H H' hi ⟨c, F', os', us, ys, _, s, w', o, hl2, hm⟩ ⟨b, hb, y⟩
    rw [drop_cons hb] at hm
    have hm' : Post ((f c b >>= fun p => filSt f p.2 (items.drop (i + 1)) >>= fun q => match p.1 with
      | some y => (R.ok (y :: q.1, q.2) : R (List δ × γ))
      | none => R.ok q) >>= fun q => k (ys ++ q.1, q.2)) P X := hm
    rw [bind_bind] at hm'
    have hm2 := post_bind hm'
    have hul : us.length = ys.length := hl _ _ _ _ _ o
    refine hs b c x F' H H' os' us ys (fun y H4 => ∃ acc, H4 D = some (.lst acc) ∧ acc.length < sizeLine ∧ _) _ _ s w' o y ?_ ?_ hm2
    · intro d c' p2 y F'' H'' os'' w2 s2 o2
      refine ⟨us, w2.get (pre := []), by omega, c', F'', os'', us ++ [y], ys ++ [d], hi, s.trans s2, w2.set (pre := []), o2, by rw [List.length_append, List.length_singleton]; omega, ?_⟩
      have p3 : Post ((filSt f c' (items.drop (i + 1)) >>= fun q => (R.ok (d :: q.1, q.2) : R (List δ × γ))) >>= fun q => k (ys ++ q.1, q.2)) P X := p2
      rw [bind_bind] at p3
      have e : (fun q : List δ × γ => (R.ok (d :: q.1, q.2) : R (List δ × γ)) >>= fun q => k (ys ++ q.1, q.2)) = fun q => k (ys ++ [d] ++ q.1, q.2) := by
        funext q
        show k (ys ++ (d :: q.1), q.2) = k (ys ++ [d] ++ q.1, q.2)
        rw [List.append_assoc]
        rfl
      rw [e] at p3
      exact p3
    · intro c' p2 F'' H'' os'' w2 s2 o2
      refine ⟨c', F'', os'', us, ys, hi, s.trans s2, w2, o2, by omega, ?_⟩
      have p3 : Post ((filSt f c' (items.drop (i + 1)) >>= fun q => (R.ok q : R (List δ × γ))) >>= fun q => k (ys ++ q.1, q.2)) P X := p2
      rw [bind_bind] at p3
      exact p3
  · rintro H ⟨c, F', os', us, ys, _, s, w', o, _, hm⟩
    rw [List.drop_length] at hm
    have hm' : Post (k (ys ++ [], c)) P X := hm
    rw [List.append_nil] at hm'
    exact hd c us F' H os' ys s w' o hm'
theorem lcGM (tw : TW J items G Y) {f : γ → β → R (δ × γ)} {s0 : γ} {k : List δ × γ → R ε} (hm : Post (mapStG f s0 items >>= k) P X) (O : γ → Hp → List (Addr × HO) → List V → List δ → Prop) (w : W F H1 os) (o0 : O s0 F os [] []) (nD : H1 D = none)
    (hl : ∀ c F' os' us ys, O c F' os' us ys → us.length = ys.length)
    (hG : ∀ c F' H' os' acc ys, Same F F' → W F' H' ((D, .lst acc) :: os') → O c F' os' acc ys → G H')
    (hs : ∀ (b : β) (c : γ) (x : V) (F' H' H'' : Hp) (os' : List (Addr × HO)) (acc : List V) (ys : List δ) (N : V → Hp → Prop) (P' : δ × γ → Prop), Same F F' → W F' H' ((D, .lst acc) :: os') → O c F' os' acc ys → Y b H' x H'' →
      (∀ d c', P' (d, c') → ∀ y F'' H'' os'', W F'' H'' ((D, .lst acc) :: os'') → Same F' F'' → O c' F'' os'' (acc ++ [y]) (ys ++ [d]) → N y H'') → Post (f c b) P' X →
      g x (wipe σ vs) H'' fun σ2 H2 => wipe σ2 vs = wipe σ vs ∧ te σ2 H2 N)
    (hd : ∀ c us F' H' os' ys, Same F F' → W F' H' ((D, .lst us) :: os') → O c F' os' us ys → Post (k (ys, c)) P X → Qd H') : LcAsk J g tYes te vs σ H1 D Qd := by
  have e : ∀ (s : γ) (l : List β), filSt (fun c b => f c b >>= fun p => R.ok (some p.1, p.2)) s l = mapSt f s l := by
    intro s l
    induction l generalizing s with
    | nil => rfl
    | cons b l ih =>
      show ((f s b >>= fun p => R.ok (some p.1, p.2)) >>= fun p => filSt (fun c b => f c b >>= fun p => R.ok (some p.1, p.2)) p.2 l >>= fun q => match p.1 with
        | some y => (R.ok (y :: q.1, q.2) : R (List δ × γ))
        | none => R.ok q) = (f s b >>= fun p => mapSt f p.2 l >>= fun q => .ok (p.1 :: q.1, q.2))
      rw [bind_bind]
      refine congrArg (f s b >>= ·) ?_
      funext p
      show (filSt (fun c b => f c b >>= fun p => R.ok (some p.1, p.2)) p.2 l >>= fun q => (R.ok (p.1 :: q.1, q.2) : R (List δ × γ))) = _
      rw [ih]
  have hm' : Post (filStG (fun c b => f c b >>= fun p => R.ok (some p.1, p.2)) s0 items >>= k) P X := by
    unfold filStG
    simp only [e]
    exact hm
  refine lcG tw hm' O w o0 nD hl hG (fun b c x F' H' H'' os' acc ys N N0 P' s w' o y hN hN0 hp => ?_) hd
  exact hs b c x F' H' H'' os' acc ys N _ s w' o y (fun d c' p2 y F'' H'' os'' w2 s2 o2 => hN d c' p2 y F'' H'' os'' w2 s2 o2) (post_bind hp)
end
end Z
/-! Z6: constants of the module, things, dicts as written and asked -/
namespace Z
open PySem L2
open Rep (rep)
section
variable {X : Cx}
theorem pe_globI {x : Str} {n : Int} {pos : Pos} (hg : Gl X x) (h : ∃ t, X.mg x = some (.int n t)) (hd : (x == ("__debug__" : Str)) = false := by decide) : PE X (.Name x pos) (tC (.int n)) := by
  obtain ⟨t, e⟩ := h
  exact pe_glob hg e ⟨_, rfl⟩ hd
end
/-- a while's fuel, not to be reckoned with -/
@[irreducible] def fu (n : Nat) : Nat := n
theorem fu_eq (n : Nat) : fu n = n := by
  unfold fu
  rfl
/-- x in l -/
abbrev inB {α : Type} [DecidableEq α] (x : α) (l : List α) : Bool := decide (x ∈ l)
theorem inB_t {α : Type} [DecidableEq α] {x : α} {l : List α} : inB x l = true ↔ x ∈ l := decide_eq_true_iff
theorem inB_f {α : Type} [DecidableEq α] {x : α} {l : List α} : inB x l = false ↔ x ∉ l := decide_eq_false_iff_not
/-! ### things -/
def Thing.isPl : Thing → Bool
  | .pl _ => true
  | .ti _ _ => false
def asPl : Thing → R Int
  | .pl i => .ok i
  | .ti _ _ => .bad
def asTi : Thing → R (Int × Int)
  | .pl _ => .bad
  | .ti a b => .ok (a, b)
def mkpl (xs : List Int) : List Thing := xs.map Thing.pl
def mkti (xs : List (Int × Int)) : List Thing := xs.map fun p => Thing.ti p.1 p.2
section
variable {δ : Type} {P : δ → Prop} {E : Exn → Prop} {K : Fg} {F H : Hp}
theorem pb_asPl {t : Thing} {f : Int → R δ} (h : Post (asPl t >>= f) P E) : ∃ i, t = .pl i ∧ Post (f i) P E := by
  cases t with
  | pl i => exact ⟨i, rfl, h⟩
  | ti a b => exact (show False from h).elim
theorem pb_asTi {t : Thing} {f : Int × Int → R δ} (h : Post (asTi t >>= f) P E) : ∃ q : Int × Int, t = .ti q.1 q.2 ∧ Post (f q) P E := by
  cases t with
  | pl i => exact (show False from h).elim
  | ti a b => exact ⟨(a, b), rfl, h⟩
theorem A2.pl : ∀ {vs : List V} {xs : List Int}, A2 (rep K F) vs xs → A2 (rep K F) vs (mkpl xs)
  | _, _, .nil => .nil
  | _, _, .cons h t => .cons h (A2.pl t)
theorem A2.ti : ∀ {vs : List V} {xs : List (Int × Int)}, A2 (rep K F) vs xs → A2 (rep K F) vs (mkti xs)
  | _, _, .nil => .nil
  | _, _, .cons h t => .cons h (A2.ti t)
theorem th_ty (s : Same F H) {v : V} {t : Thing} (r : rep K F v t) : ∃ a, TyOf K H v (.type a) ∧ (a = "int" ∧ t.isPl = true ∨ a = "tuple" ∧ t.isPl = false) := by
  cases t with
  | pl i =>
    have r' : v = V.int i := r
    subst r'
    exact ⟨_, .int i, .inl ⟨rfl, rfl⟩⟩
  | ti a b =>
    obtain ⟨c, u, w, rfl, q, _⟩ := (show rep K F v (a, b) from r)
    exact ⟨_, .tup (s _ _ q), .inr ⟨rfl, rfl⟩⟩
theorem th_int (s : Same F H) {v : V} {t : Thing} (r : rep K F v t) : ∃ a, TyOf K H v (.type a) ∧ kitB a "int" = some t.isPl := by
  obtain ⟨a, h, z⟩ := th_ty s r
  rcases z with ⟨rfl, e⟩ | ⟨rfl, e⟩
  · exact ⟨_, h, by rw [e]; decide +kernel⟩
  · exact ⟨_, h, by rw [e]; decide +kernel⟩
end
/-! ### dicts of scalars: as written, asked -/
section
variable {β δ : Type} {ev : β → V} {H : Hp} {a b : Addr} {P : δ → Prop} {E : Exn → Prop}
theorem pb_mget {κ : Type} [DecidableEq κ] {m : List (κ × β)} {k : κ} {f : β → R δ} (h : Post (mgetR m k >>= f) P E) : ∃ t, mget m k = some t ∧ Post (f t) P E := pb_ofO h
theorem isD_t {kvs : List (List Key × V)} (e : H a = some (.dT kvs)) : IsD H a := .inr ⟨kvs, .inl e⟩
end
def tDGet2R (td ty tx : TE) : TE := fun σ H Q => td σ H fun x H1 => ∃ a, x = .ref a ∧ IsD H1 a ∧ ty σ H1 fun y H2 => tx σ H2 fun z H3 => ∃ o r, DGet H3 a y o ∧ o.getD z = r ∧ Q r H3
section
variable {X : Cx} {o e f : Expr} {apos cpos : Pos} {td ty tx : TE}
theorem pe_dget2R (hu : X.A.units + 1 < cLine) (ho : PE X o td) (he : PE X e ty) (hf : PE X f tx) (m : M2 X o "get" apos e f cpos) : PE X (.Call (.Attribute o "get" apos) [e, f] [] cpos) (tDGet2R td ty tx) := by
  refine ⟨fun pins s σ H Q I h => ?_⟩
  refine wpAny_Call_method m.base m.few m.line PySem.F.plainAttrs_dict PySem.F.slot_dict_get PySem.F.type_dict_get (thn (ho.run pins s σ H _ I h) fun u s1 ⟨x, H1, I1, rx, a, ex, d, q1⟩ => ?_)
  subst ex
  obtain rfl : u = Value.ref a := rx
  obtain ⟨t1, t2, _⟩ := isD_at I1 d
  refine ⟨t1, t2, ?_⟩
  rw [m.trees]
  refine Calls.callWith_builtin rfl (Calls.evalArgs_plain (Calls.spliced_cons (thn (he.run pins s1 σ H1 _ I1 q1) fun iv s2 ⟨y, H2, I2, ry, q2⟩ =>
    Calls.spliced_cons (thn (hf.run pins s2 σ H2 _ I2 q2) fun fv s3 ⟨z, H3, I3, rz, ov, r, g, er, q3⟩ => Calls.spliced_nil ?_))))
  subst er
  exact d_get2 hu I3 g ry rz fun w' s4 I4 rw' => ⟨_, H3, I4, rw', q3⟩
end
/-! ### tuples cut and joined -/
section
variable {X : Cx} {K : Fg}
theorem op_catU (hK : X.K = K) : OpR X (binaryOp .Add) (fun x y H Q => ∃ (a b : Addr) (xs ys : List V) (F : Hp) (os : List (Addr × HO)), x = .ref a ∧ y = .ref b ∧ W F H os ∧ F a = some (.tup xs) ∧ F b = some (.tup ys) ∧ xs.length + ys.length ≤ sizeLine ∧
    ∀ p F' H', Same F F' → W F' H' os → F' p = some (.tup (xs ++ ys)) → Q (.ref p) H') := by
  subst hK
  intro pins s σ H x y v u Q I rx ry ⟨a, b, xs, ys, F, os, e1, e2, w, qa, qb, hl, h⟩
  refine op_catA pins s σ H x y v u Q I rx ry ⟨a, b, xs, ys, e1, e2, SqT.of (w.same _ _ qa), SqT.of (w.same _ _ qb), hl, fun c => ?_, fun c d => ?_, fun _ _ p hp => ?_⟩
  · subst c
    exact h b F H (Same.refl _) w qb
  · subst d
    exact h a F H (Same.refl _) w (by rw [List.append_nil]; exact qa)
  · obtain ⟨F', s', w', q'⟩ := w.frzE (o := .tup (xs ++ ys)) hp
    exact h p F' _ s' w' q'
end
end Z
/-! Z7: dicts of tuple keys whose values are lists of a store; their values walked -/
namespace L2
open PySem PySem.Spec PyProof.Rows
/-- the values of the locked dict at d, of tuple keys -/
def ItdT (d : Addr) (o : Obj) (kvs : List (List Key × V)) : It :=
  ⟨fun i H => H d = some (.frz o (.dT kvs)) ∧ i < kvs.length, fun i H x H' => H' = H ∧ ∃ k, kvs[i]? = some (k, x), fun i H => H d = some (.frz o (.dT kvs)) ∧ kvs.length ≤ i⟩
section
variable {X : Cx} {pins : List (Addr × Obj)} {σ : St} {H : Hp} {s : Shared} {d : Addr} {o : Obj}
theorem Inv.frzTV {kvs : List (List Key × V)} (I : Inv X pins σ H s) (h : H d = some (.frz o (.dT kvs))) :
    (d == sysModules) = false ∧ s.heap.get? d = some o ∧ o.ExactDict ∧ ∃ (es : Array DictEntry) (ep : Nat), o.data = .dict es ep ∧ es.size = kvs.length ∧
      ∀ (i : Nat) (k : List Key) (v : V), kvs[i]? = some (k, v) → ∃ en : DictEntry, es[i]? = some en ∧ RelV v en.val := by
  obtain ⟨hd, z, hs, xs, pr, o', es, ep, ho, hx, hdt, he, _⟩ := I.hok d _ h
  rw [hd] at ho
  cases ho
  refine ⟨hs, hd, hx, es, ep, hdt, ?_, fun i k v e => ?_⟩
  · have l1 : es.size = xs.length := size_of_entries he
    have l2 : kvs.length = xs.length := Paired.length pr
    omega
  · obtain ⟨b, hb, e1, e2, e3⟩ := paired_get pr e
    have q := entry_at he i
    rw [hb] at q
    exact ⟨_, q, e3⟩
end
section
variable {P : Program} {w : World} {K : PySem.W.Frag} {tg : Expr} {d : Addr} {o : Obj} {es : Array DictEntry} {ep : Nat}
theorem turn_valsT {kvs : List (List Key × V)} (it : Addr) (hod : o.data = .dict es ep) : Turn P w K tg (ItdT d o kvs) [it] it (fun i h => h.IsValIter it d i kvs.length ep) where
  mem := by simp
  obj := fun i h st b hb => by
    have e : b = it := by simpa using hb
    subst e
    obtain ⟨oi, e, c, dd⟩ := st
    exact ⟨oi, e, fun v z => by rw [dd] at z; cases z⟩
  keep := fun i h h' st k => st.at fun oi e => k it (by simp) oi e
  item := by
    intro X hP hw hK hc i pins s σ H E I hf st hg
    subst hP hw hK
    obtain ⟨hd, hi⟩ := hg
    obtain ⟨f0, f1, f2, f3, f4, f5⟩ := hf it (by simp)
    obtain ⟨hs, hgd, hx, es', ep', hdt, hsz, ent⟩ := I.frzTV hd
    obtain ⟨rfl, rfl⟩ := dict_ep hod hdt
    obtain ⟨⟨k, v⟩, hkv⟩ : ∃ p, kvs[i]? = some p := ⟨kvs[i], List.getElem?_eq_getElem hi⟩
    obtain ⟨en, hen, ru⟩ := ent i k v hkv
    have hil : i < es'.size := by omega
    have een : es'[i] = en := by
      rw [Array.getElem?_eq_getElem hil] at hen
      exact Option.some.inj hen
    rw [← hsz] at st
    refine wpAny_pyNext_values_item_raw st ⟨o, hgd, hx, hdt⟩ hil fun h' st' sb => ?_
    have I1 : Inv X pins σ H { s with heap := h' } := I.turned (t' := s.toks) (fun b ob hb e => (sb.2 b hb).trans e) f0 f1 f3 f4 f5
    obtain ⟨oi, e, c, dd⟩ := id st'
    refine ⟨_, rfl, go_of (s := { s with heap := h' }) e c dd (by decide) ⟨v, H, I1, by rw [een]; exact ru, ⟨rfl, k, hkv⟩, ?_, fun b hb => (hf b hb).1⟩⟩
    show h'.IsValIter it d (i + 1) kvs.length _
    rw [← hsz]
    exact st'
  done := by
    intro X hP hw hK hc i pins s σ H E I hf st hg
    subst hP hw hK
    obtain ⟨hd, hi⟩ := hg
    obtain ⟨f0, f1, f2, f3, f4, f5⟩ := hf it (by simp)
    obtain ⟨hs, hgd, hx, es', ep', hdt, hsz, ent⟩ := I.frzTV hd
    obtain ⟨rfl, rfl⟩ := dict_ep hod hdt
    rw [← hsz] at st
    exact wpAny_pyNext_values_end_raw (I.ok.hd hc) st ⟨o, hgd, hx, hdt⟩ (by omega) fun h' eb => ⟨rfl, I.turned (t' := s.toks) (fun b ob hb e => eb b ob hb e) f0 f1 f3 f4 f5⟩
  self := fun A i s Q E st h => wpAny_pyIter_valiter st h
end
/-- d.values() of a dict that is locked from there on -/
def iValsT (td : TE) : TI := fun σ H R => td σ H fun x H1 => ∃ d kvs, x = .ref d ∧ H1 d = some (.dT kvs) ∧ ∀ od, R (ItdT d od kvs) (upd H1 d (.frz od (.dT kvs)))
section
variable {X : Cx} {tg e : Expr} {td : TE} {apos cpos : Pos}
theorem pi_valuesT (he : PE X e td) (hbase : attributeBase e "values" X.env (eval e X.env) = eval e X.env := by rfl) (hline : (apos.endLine == cpos.line) = true := by rfl) : PI X tg (.Call (.Attribute e "values" apos) [] [] cpos) (iValsT td) := by
  refine ⟨fun pins s σ H R I h => ?_⟩
  refine wpAny_Call_method (T := "dict") (id := "dict.values") hbase rfl hline F.plainAttrs_dict F.slot_dict_values F.type_dict_values (thn (he.run pins s σ H _ I h) fun u s1 ⟨x, H0, I0, rx, d, kvs, ex, hd0, q0⟩ => ?_)
  subst ex
  obtain rfl : u = Value.ref d := rx
  obtain ⟨od, I1⟩ := I0.lock hd0 (by exact True.intro)
  have q := q0 od
  have hd : upd H0 d (.frz od (.dT kvs)) d = some (.frz od (.dT kvs)) := upd_same
  obtain ⟨hs, hgd, hx, es, ep, hdt, hsz, ent⟩ := I1.frzTV hd
  have hm : s1.heap.DictRaw d es ep := ⟨od, hgd, hx, hdt⟩
  refine ⟨hm.typeIs, fun b hb => ?_, ?_⟩
  · cases hb
    exact ⟨od, hgd, hx.2.1⟩
  have I2 : Inv X pins σ (upd H0 d (.frz od (.dT kvs))) { s1 with heap := s1.heap.push { cls := .type "dict_values", data := .fields #[.ref d] } } := I1.kept (t' := s1.toks) fun b ob q => Heap.get?_push_of_some _ q
  have fin : wpAny (model X.prog X.w) X.A (pyIter (.ref s1.heap.objs.size)) (PIE X pins σ tg R) X.xe { s1 with heap := s1.heap.push { cls := .type "dict_values", data := .fields #[.ref d] } } := by
    refine wpAny_pyIter_values_raw (d := d) (es := es) (ep := ep) ⟨_, Heap.get?_push_size _ rfl, rfl, rfl⟩ (hm.at fun o q => Heap.get?_push_of_some _ q) (pi_one (tk := s1.toks) I2 _ (turn_valsT _ hdt) ⟨_, Heap.get?_push_size _ rfl, rfl, ?_⟩ q)
    rw [hsz] <;> rfl
  show wpAny _ _ (callWith cpos (.builtin "dict.values") [.ref d] [] []) _ X.xe s1
  exact method_meetsIn F.slot_dict_values F.entry_dict_values rfl (PySem.evalArgs_none ⟨rfl, hm.typeIs, F.args_dict_values_1 _, _, meets_dict_values_raw d hs, ⟨es, ep, hm⟩, fin⟩)
end
end L2
namespace Z
open PySem L2
open Rep (rep)
/-! ### dicts by what their values stand for -/
section
variable {κ β γ : Type} [DecidableEq κ] [DecidableEq γ] {e : κ → γ} {r r' : V → β → Prop}
inductive AD (e : κ → γ) (r : V → β → Prop) : List (γ × V) → List (κ × β) → Prop
  | nil : AD e r [] []
  | cons {k : κ} {v : V} {x : β} {kvs : List (γ × V)} {m : List (κ × β)} : r v x → AD e r kvs m → AD e r ((e k, v) :: kvs) ((k, x) :: m)
theorem AD.length : ∀ {kvs : List (γ × V)} {m : List (κ × β)}, AD e r kvs m → kvs.length = m.length
  | _, _, .nil => rfl
  | _, _, .cons _ t => by rw [List.length_cons, List.length_cons, AD.length t]
theorem AD.imp (f : ∀ v x, r v x → r' v x) : ∀ {kvs : List (γ × V)} {m : List (κ × β)}, AD e r kvs m → AD e r' kvs m
  | _, _, .nil => .nil
  | _, _, .cons h t => .cons (f _ _ h) (AD.imp f t)
theorem AD.no (he : ∀ a b, e a = e b → a = b) {k : κ} : ∀ {kvs : List (γ × V)} {m : List (κ × β)}, AD e r kvs m → (valV kvs (e k)).isSome = mhas m k
  | _, _, .nil => rfl
  | _, _, .cons (k := j) (v := v) (x := x) (kvs := kvs) (m := m) h t => by
    show _ = (decide (j = k) || mhas m k)
    by_cases q : j = k
    · rw [valV_pos (congrArg e q), decide_eq_true q]; rfl
    · rw [valV_neg (fun z => q (he _ _ z)), decide_eq_false q, AD.no he t]; rfl
theorem AD.get (he : ∀ a b, e a = e b → a = b) {k : κ} {y : β} : ∀ {kvs : List (γ × V)} {m : List (κ × β)}, AD e r kvs m → mget m k = some y → ∃ v, valV kvs (e k) = some v ∧ r v y
  | _, _, .nil, h => by cases h
  | _, _, .cons (k := j) (v := v) (x := x) (kvs := kvs) (m := m) h t, g => by
    unfold mget at g
    by_cases q : j = k
    · rw [List.find?_cons_of_pos (by simpa using q)] at g
      cases g
      exact ⟨v, valV_pos (congrArg e q), h⟩
    · rw [List.find?_cons_of_neg (by simpa using q)] at g
      obtain ⟨u, h1, h2⟩ := AD.get he (k := k) t g
      exact ⟨u, by rw [valV_neg (fun z => q (he _ _ z))]; exact h1, h2⟩
theorem AD.snoc {k : κ} {v : V} {x : β} (h : r v x) : ∀ {kvs : List (γ × V)} {m : List (κ × β)}, AD e r kvs m → AD e r (kvs ++ [(e k, v)]) (m ++ [(k, x)])
  | _, _, .nil => .cons h .nil
  | _, _, .cons a t => .cons a (AD.snoc h t)
theorem AD.upd (he : ∀ a b, e a = e b → a = b) {k : κ} {v : V} {x : β} (h : r v x) : ∀ {kvs : List (γ × V)} {m : List (κ × β)}, AD e r kvs m → AD e r (kvs.map fun p => if p.1 = e k then (p.1, v) else p) (m.map fun p => if p.1 = k then (p.1, x) else p)
  | _, _, .nil => .nil
  | _, _, .cons (k := j) (v := u) (x := y) (kvs := kvs) (m := m) a t => by
    rw [List.map_cons, List.map_cons]
    by_cases q : j = k
    · subst q
      rw [if_pos rfl, if_pos rfl]
      exact .cons h (AD.upd he h t)
    · rw [if_neg q, if_neg (fun z => q (he _ _ z))]
      exact .cons a (AD.upd he h t)
theorem AD.any (he : ∀ a b, e a = e b → a = b) {k : κ} : ∀ {kvs : List (γ × V)} {m : List (κ × β)}, AD e r kvs m → (kvs.any fun p => decide (p.1 = e k)) = m.any fun p => decide (p.1 = k)
  | _, _, .nil => rfl
  | _, _, .cons (k := j) (kvs := kvs) (m := m) a t => by
    rw [List.any_cons, List.any_cons, AD.any he t]
    congr 1
    by_cases q : j = k
    · rw [q]; simp
    · rw [decide_eq_false q, decide_eq_false (fun z => q (he _ _ z))]
theorem AD.put (he : ∀ a b, e a = e b → a = b) {k : κ} {v : V} {x : β} {kvs : List (γ × V)} {m : List (κ × β)} (t : AD e r kvs m) (h : r v x) : AD e r (putK kvs (e k) v) (mput m k x) := by
  unfold putK mput
  rw [t.any he]
  by_cases q : (m.any fun p => decide (p.1 = k)) = true
  · rw [if_pos q, if_pos q]
    exact t.upd he h
  · rw [if_neg q, if_neg q]
    exact t.snoc h
theorem AD.vals : ∀ {kvs : List (γ × V)} {m : List (κ × β)}, AD e r kvs m → ∀ {i : Nat} {k : γ} {v : V}, kvs[i]? = some (k, v) → ∃ x, (m.map (·.2))[i]? = some x ∧ r v x
  | _, _, .nil, i, k, v, h => by simp at h
  | _, _, .cons (k := j) (v := u) (x := x) a t, 0, k, v, h => by
    simp at h
    obtain ⟨_, rfl⟩ := h
    exact ⟨x, rfl, a⟩
  | _, _, .cons a t, i + 1, k, v, h => by
    obtain ⟨x, h1, h2⟩ := AD.vals t (i := i) (k := k) (v := v) (by simpa using h)
    exact ⟨x, by simpa using h1, h2⟩
end
/-- a tuple of ints as a key -/
def kT (t : Tup Int) : List Key := t.l.map Sum.inl
theorem kT_inj : ∀ a b, kT a = kT b → a = b := fun a b h => by
  have g : ∀ xs ys : List Int, (xs.map Sum.inl : List Key) = ys.map Sum.inl → xs = ys := by
    intro xs
    induction xs with
    | nil => intro ys e; cases ys <;> first | rfl | cases e
    | cons x xs ih =>
      intro ys e
      cases ys with
      | nil => cases e
      | cons y ys =>
        rw [List.map_cons, List.map_cons] at e
        injection e with e1 e2
        rw [Sum.inl.inj e1, ih ys e2]
  have : a.l = b.l := g _ _ h
  cases a
  cases b
  simp at this
  rw [this]
section
variable {K : Fg} {F H : Hp} {a b : Addr} {kvs : List (List Key × V)} {vs : List V} {t : Tup Int} {β : Type} {r : V → β → Prop} {m : List (Tup Int × β)}
theorem key_tup (s : Same F H) (q : F b = some (.tup vs)) (h : A2 (rep K F) vs t.l) : H b = some (.tup ((kT t).map kV)) := by
  have e : vs = (kT t).map kV := by
    rw [h.ints]
    unfold kT
    rw [List.map_map]
    rfl
  rw [← e]
  exact s _ _ q
theorem dgetA (e : H a = some (.dT kvs)) (eb : H b = some (.tup ((kT t).map kV))) : DGet H a (.ref b) (valV kvs (kT t)) := DGet.t e eb
theorem dgetsA {v : V} (e : H a = some (.dT kvs)) (eb : H b = some (.tup ((kT t).map kV))) (q : valV kvs (kT t) = some v) : DGet H a (.ref b) (some v) := by
  have h := dgetA (t := t) e eb
  rw [q] at h
  exact h
theorem dputA {v : V} (e : H a = some (.dT kvs)) (eb : H b = some (.tup ((kT t).map kV))) (h : AD kT r kvs m) (hl : m.length < sizeLine) : DPut H a (.ref b) v (upd H a (.dT (putK kvs (kT t) v))) := DPut.t e eb (by rw [h.length]; exact hl)
theorem tw_valsT {d : Addr} {o : Obj} (h : AD kT r kvs m) : TW (ItdT d o kvs) (m.map (·.2)) (fun H => H d = some (.frz o (.dT kvs))) (fun b H x H' => H' = H ∧ r x b) := ⟨by
  rw [List.length_map, ← h.length]
  refine ⟨fun _ _ hi q => ⟨q, hi⟩, fun _ q => ⟨q, Nat.le_refl _⟩, fun i H x H' _ _ y => ?_⟩
  obtain ⟨e, k, hk⟩ := y
  obtain ⟨b, h1, h2⟩ := h.vals hk
  exact ⟨b, h1, e, h2⟩⟩
end
end Z
/-! YK: sorted(xs, key=a def), the def known by its promise alone; its keys whole numbers -/
namespace L2
open PySem PySem.Spec PyProof.Rows PySem.W
section
variable {X : Cx} {pins : List (Addr × Obj)} {σ : St} {H : Hp} {s : Shared} {h' : Heap}
/-- where sorted's call of list.sort calls -/
def XK2 (X : Cx) : Cx := { X with A := X.A.in1.in1, xe := fun _ _ => False }
theorem Inv.to2 (I : Inv X pins σ H s) : Inv (XK2 X) pins σ H s :=
  ⟨⟨I.ok.mod, I.ok.kind, I.ok.glob, I.ok.blt, I.ok.above, I.ok.inj, I.ok.has, I.ok.cab, I.ok.hd, I.ok.frames, I.ok.stk, I.ok.exf, I.ok.bs, I.ok.bsz, I.ok.noex, I.ok.exfs, I.ok.funs, I.ok.frf⟩, I.os, I.bare, I.base, I.loc, I.cell, I.free, I.freeC, I.pin, I.hok, I.len⟩
theorem Inv.of2 (I : Inv (XK2 X) pins σ H s) : Inv X pins σ H s :=
  ⟨⟨I.ok.mod, I.ok.kind, I.ok.glob, I.ok.blt, I.ok.above, I.ok.inj, I.ok.has, I.ok.cab, I.ok.hd, I.ok.frames, I.ok.stk, I.ok.exf, I.ok.bs, I.ok.bsz, I.ok.noex, I.ok.exfs, I.ok.funs, I.ok.frf⟩, I.os, I.bare, I.base, I.loc, I.cell, I.free, I.freeC, I.pin, I.hok, I.len⟩
theorem Room.in2 {k : Nat} {A : Around} (r : Room (k + 1) A) : Room k A.in1.in1 :=
  ⟨r.hd, by have := r.dp; show A.depth + 3 * k + 5 < _; omega, by have := r.un; show A.units + 1 + 1 + 16 * k + 200 < _; omega⟩
/-- records of ours have turned, and one of them is tracked from here on -/
theorem Inv.turnedTrack {t' : Nat} {ch : List Addr} {T : Addr} {ob : HO} (I : Inv X pins σ H s) (k : ∀ b o, b ∉ ch → s.heap.get? b = some o → h'.get? b = some o) (hf : ∀ b ∈ ch, FpOk X pins H b) (hT : T ∈ ch)
    (new : ObjOk X.prog X.w (upd H T ob) h' T ob) : Inv X pins σ (upd H T ob) { s with heap := h', toks := t' } := by
  have hn : H T = none := (hf T hT).1
  have nit : ∀ b u, H b = some u → b ∉ ch := fun b u e z => by
    have q := (hf b z).1
    rw [q] at e; cases e
  refine I.step (g' := s.gens) (d' := s.drawn) (ch := ch) (fun b hb => ⟨(hf b hb).2.2.2.1, (hf b hb).2.1, (hf b hb).2.2.2.2.1, (hf b hb).2.2.2.2.2⟩) (fun b o _ _ hc e _ => k b o hc e) (fun b o _ _ hc e _ => ⟨o.slots, k b o hc e⟩)
    (fun b o hc e n => ?_) (fun b o hc e => ⟨o, k b o hc e⟩) (fun b xs e => ?_) (fun b o u e => ?_) (fun b ps e => ⟨#[], ?_⟩) (fun m hm => ?_) (fun b u e => ?_) I.bare
  · rw [upd_ne (fun z => hc (by rw [z]; exact hT))]; exact n
  · rw [upd_ne (ne_of_none e hn)]; exact e
  · rw [upd_ne (ne_of_none e hn)]; exact e
  · rw [upd_ne (ne_of_none e hn), e]; simp
  · obtain ⟨o, es, ep, ho, r⟩ := hm
    exact ⟨o, es, ep, k _ o (fun z => (hf _ z).2.1 rfl) ho, r⟩
  · by_cases hb : b = T
    · subst hb
      rw [upd_same] at e
      cases e
      exact new
    · rw [upd_ne hb] at e
      refine (I.hok b u e).stay (fun c v hc q => k c v ?_ q) (fun c q => by rw [upd_ne (ne_of_none q hn)]; exact q) fun c xs q => by rw [upd_ne (ne_of_none q hn)]; exact q
      rcases hc with z | z
      · rw [z]; exact nit b u e
      · exact nit c _ z
end
/-! ### values and what they stand for -/
theorem each_vals {β : Type} {R : V → β → Prop} : ∀ {xs : List V} {its : List Value} {bs : List β}, Vals xs its → Z.A2 R xs bs → EachIs (fun u b => ∃ x, RelV x u ∧ R x b) its bs
  | _, _, _, .nil, .nil => .nil
  | _, _, _, .cons r t, .cons h t' => .cons ⟨_, r, h⟩ (each_vals t t')
theorem each_back {β : Type} {R : V → β → Prop} : ∀ {its : List Value} {bs : List β}, EachIs (fun u b => ∃ x, RelV x u ∧ R x b) its bs → ∃ ys, Vals ys its ∧ Z.A2 R ys bs
  | _, _, .nil => ⟨[], .nil, .nil⟩
  | _, _, .cons h t => by
    obtain ⟨x, r, q⟩ := h
    obtain ⟨ys, r', q'⟩ := each_back t
    exact ⟨x :: ys, .cons r r', .cons q q'⟩
theorem each_at {α β : Type} {R : α → β → Prop} : ∀ {as : List α} {bs : List β}, EachIs R as bs → ∀ (j : Nat) (a : α), as[j]? = some a → ∃ b, bs[j]? = some b ∧ R a b
  | _, _, .nil, j, a, h => by simp at h
  | _, _, .cons h t, 0, a, e => ⟨_, rfl, by simp at e; rw [← e]; exact h⟩
  | _, _, .cons h t, j + 1, a, e => by
    obtain ⟨b, e1, e2⟩ := each_at t j a (by simpa using e)
    exact ⟨b, by simpa using e1, e2⟩
theorem le_ints {β : Type} (key : β → Int) : dataLe false (fun b => PyData.int (key b)) = fun x y => decide (key x ≤ key y) := by
  funext x y
  show (!(dataLt (PyData.int (key y)) (PyData.int (key x)))) = _
  rw [dataLt_int]
  by_cases h : key y < key x
  · rw [decide_eq_true h, decide_eq_false (by omega)]
    rfl
  · rw [decide_eq_false h, decide_eq_true (by omega)]
    rfl
section
variable {X : Cx} {pins : List (Addr × Obj)} {σ : St} {H : Hp} {s : Shared}
theorem sorted_key_run {β : Type} {k : Nat} {f : Addr} {fd : FuncData} {p0 : Str} {sp : Sp} {R : V → β → Prop} {key : β → Int} {J : Hp → Prop} {a : Addr} {xs : List V} {bs : List β} {Q : VK} {E0 : XK}
    (F : FnOk X.prog X.w X.K X.mg X.base CX0 k f fd [p0] sp) (hr : Room (k + 1) X.A) (hb : Binds X.K fd [p0] []) (I : Inv X pins σ H s) (hs : SqL X.K H a xs) (e : Z.A2 R xs bs) (hJ : J H)
    (turn : ∀ x b, b ∈ bs → R x b → ∀ H', J H' → sp [x] H' (fun v H2 => v = .int (key b) ∧ J H2) E0)
    (q : ∀ p ys H', J H' → H' p = none → Z.A2 R ys (bs.mergeSort fun x y => decide (key x ≤ key y)) → Q (.ref p) (upd H' p (.lst ys))) :
    wpAny (model X.prog X.w) X.A (call (.builtin "sorted") [.ref a] [(Str.ofString "key", .ref f)]) (EP X pins σ Q) X.xe s := by
  obtain ⟨its, rv, hl, hz⟩ := I.list hs
  have hzi : its.length ≤ sizeLine := by rw [← rv.length]; exact hz
  have el : EachIs (fun u b => ∃ x, RelV x u ∧ R x b) its bs := each_vals rv e
  have hlen : its.length = bs.length := el.length
  refine sorted_of_sort hl.isList hzi (ksk_s1 _ _) (fun _ => ksk_l1 _ _) fun E' => ?_
  rw [ksk_t1]
  obtain ⟨h0, eh0⟩ : ∃ h0, h0 = copyHeap s.heap its := ⟨_, rfl⟩
  obtain ⟨a', ea'⟩ : ∃ a', a' = s.heap.objs.size + 1 := ⟨_, rfl⟩
  have ho : h0.get? a' = some (seqObj "list" its.toArray 0) := by rw [eh0, ea']; exact copyHeap_at s.heap its
  have hold : ∀ b o, s.heap.get? b = some o → h0.get? b = some o := fun b o q => by rw [eh0]; exact copyHeap_old q
  rw [← eh0, ← ea']
  obtain ⟨e1, ho1⟩ : ∃ e1, (h0.update a' (Obj.mapSeq fun _ => (#[] : Array Value))).get? a' = some (seqObj "list" #[] e1) := ⟨_, get?_update_seq ho fun _ => #[]⟩
  have hkS : ((h0.update a' (Obj.mapSeq fun _ => (#[] : Array Value))).push (seqObj "tuple" its.toArray 0)).objs.size = h0.objs.size + 1 := by rw [size_push', Heap.size_update]
  have ha0 : a' < h0.objs.size := Heap.lt_size ho
  have hs0 : s.heap.objs.size ≤ a' := by rw [ea']; exact Nat.le_succ _
  obtain ⟨kS, ekS⟩ : ∃ kS, kS = ((h0.update a' (Obj.mapSeq fun _ => (#[] : Array Value))).push (seqObj "tuple" its.toArray 0)).objs.size := ⟨_, rfl⟩
  have hka : kS ≠ a' := by rw [ekS, hkS]; exact Nat.ne_of_gt (Nat.lt_succ_of_lt ha0)
  have hsk : s.heap.objs.size ≤ kS := by rw [ekS, hkS]; omega
  unfold ksk_tree
  refine wpAny_bind (listItems_at ho rfl ?_)
  refine wpAny_bind (listUpdate_at ho rfl ?_ (by rw [List.size_toArray]; exact hzi) (Nat.zero_le _))
  refine wpAny_bind (seqEpoch_at ho1 rfl ?_)
  refine wpAny_bind (wpAny_newTuple ?_ (by show its.length ≤ _; exact hzi))
  refine wpAny_bind (wpAny_newList ?_ (Nat.zero_le _))
  refine wpAny_holding ?_
  have hold2 : ∀ b o, s.heap.get? b = some o → (((h0.update a' (Obj.mapSeq fun _ => (#[] : Array Value))).push (seqObj "tuple" its.toArray 0)).push (seqObj "list" #[] 0)).get? b = some o := fun b o q =>
    Heap.get?_push_of_some _ (Heap.get?_push_of_some _ ((Heap.get?_update_ne _ _ _ _ (Nat.ne_of_lt (Nat.lt_of_lt_of_le (Heap.lt_size q) hs0))).trans (hold b o q)))
  have I1 : Inv (XK2 X) pins σ H { s with heap := ((h0.update a' (Obj.mapSeq fun _ => (#[] : Array Value))).push (seqObj "tuple" its.toArray 0)).push (seqObj "list" #[] 0) } := (I.kept (t' := s.toks) hold2).to2
  have na : ∀ {H' : Hp}, H' a' = none → FpOk (XK2 X) pins H' a' := fun hn => I.to2.fpOk hs0 hn
  have nk : ∀ {H' : Hp}, H' kS = none → FpOk (XK2 X) pins H' kS := fun hn => I.to2.fpOk hsk hn
  have hHa : H a' = none := I.hok.fresh hs0
  have hHk : H kS = none := I.hok.fresh hsk
  have gk : (((h0.update a' (Obj.mapSeq fun _ => (#[] : Array Value))).push (seqObj "tuple" its.toArray 0)).push (seqObj "list" #[] 0)).get? kS = some (seqObj "list" #[] 0) := by rw [ekS]; exact Heap.get?_push_size _ rfl
  have ga : (((h0.update a' (Obj.mapSeq fun _ => (#[] : Array Value))).push (seqObj "tuple" its.toArray 0)).push (seqObj "list" #[] 0)).get? a' = some (seqObj "list" #[] e1) := Heap.get?_push_of_some _ (Heap.get?_push_of_some _ ho1)
  rw [← ekS]
  unfold ksk_rest
  refine wpAny_bind (wpAny_rule ?_)
  first
    | rw [List.forIn_toArray]
    | (rw [← Array.forIn_toList]; simp only [List.toList_toArray])
    | rw [← Array.forIn_toList]
  refine wpAny_bind (ksk_fold (fun i s' => ∃ H' kA ek, Inv (XK2 X) (pins ++ [(a', seqObj "list" #[] e1), (kS, seqObj "list" kA ek)]) σ H' s' ∧ J H' ∧ EachIs (fun (v : Value) (n : PyData) => ∃ m t, v = Value.int m t ∧ n = PyData.int m) kA.toList ((bs.map fun b => PyData.int (key b)).take i)) its 0 _
    ⟨H, #[], 0, I1.pins_of fun p hp => ?start, hJ, by rw [List.take_zero]; exact EachIs.nil⟩ ?step ?done)
  case start =>
    rcases List.mem_append.mp hp with hp | hp
    · exact I1.pin p (List.mem_append_right _ hp)
    · rcases List.mem_cons.mp hp with rfl | hp
      · exact ⟨ga, hHa, (na hHa).2.1, (na hHa).2.2.1, fun v h => by cases h⟩
      · rcases List.mem_cons.mp hp with rfl | hp
        · exact ⟨gk, hHk, (nk hHk).2.1, (nk hHk).2.2.1, fun v h => by cases h⟩
        · cases hp
  case step =>
    rintro j v s' hx ⟨H', kA, ek, I', j', hk⟩
    simp only [Nat.zero_add] at hk ⊢
    obtain ⟨b, ej, x, rx, rb⟩ := each_at el j v hx
    have hj : j < its.length := (List.getElem?_eq_some_iff.mp hx).1
    have hzk : kA.size ≤ its.length := by
      have h1 := hk.length
      rw [Array.length_toList, List.length_take, List.length_map] at h1
      omega
    have ht := turn x b (List.mem_of_getElem? ej) rb H' j'
    refine wpAny_bind (wpAny_attempt (wpAny_mono (run_fn (X := XK2 X) (dvs := []) (ds := []) (us := [v]) (vs := [x]) (E := E0) F hr.in2 hb .nil pass0 I' (.cons rx .nil) ht) (fun u s'' he => ?_) fun _ _ hF => hF.elim))
    obtain ⟨y, H2, I2, ry, ey, j2⟩ := he
    subst ey
    obtain ⟨t, rfl⟩ := ry
    try dsimp only
    have pk2 := I2.pin (kS, seqObj "list" kA ek) (List.mem_append_right _ (List.mem_append_right _ (.tail _ (.head _))))
    have pa2 := I2.pin (a', seqObj "list" #[] e1) (List.mem_append_right _ (List.mem_append_right _ (.head _)))
    obtain ⟨c2, hc2⟩ : ∃ c2, (s''.heap.update kS (Obj.mapSeq (·.push (Value.int (key b) t)))).get? kS = some (seqObj "list" (kA.push (Value.int (key b) t)) c2) := ⟨_, get?_update_seq pk2.1 (·.push _)⟩
    have ekk : (bs.map fun b => PyData.int (key b)).take (j + 1) = (bs.map fun b => PyData.int (key b)).take j ++ [PyData.int (key b)] := by
      rw [List.take_add_one, List.getElem?_map, ej]
      rfl
    have ea : (kA.push (Value.int (key b) t)).toList = kA.toList ++ [Value.int (key b) t] := by simp
    refine wpAny_bind (listUpdate_at pk2.1 rfl ?_ (Nat.le_trans hzk hzi) (Nat.le_trans (Nat.le_of_eq (Array.size_push ..)) (Nat.succ_le_succ (Nat.le_trans hzk hzi))))
    have I3 : Inv (XK2 X) (pins ++ [(a', seqObj "list" #[] e1)]) σ H2 s'' := I2.pins_of fun p hp => I2.pin p (List.mem_append_right _ (by
      rcases List.mem_append.mp hp with hp | hp
      · exact List.mem_append_left _ hp
      · rcases List.mem_cons.mp hp with rfl | hp
        · exact List.mem_append_right _ (.head _)
        · cases hp))
    obtain ⟨f0, f1, f2, f3, f4, f5⟩ := nk pk2.2.1
    have I4 := I3.turned (it := kS) (h' := s''.heap.update kS (Obj.mapSeq (·.push (Value.int (key b) t)))) (t' := s''.toks) (fun b o hb q => (Heap.get?_update_ne _ _ _ _ hb).trans q) f0 f1 f3 f4 (fun p hp => by
      rcases List.mem_append.mp hp with hp | hp
      · exact f5 p (List.mem_append_left _ hp)
      · rcases List.mem_append.mp hp with hp | hp
        · exact f5 p (List.mem_append_right _ hp)
        · rcases List.mem_cons.mp hp with rfl | hp
          · exact hka.symm
          · cases hp)
    refine wpAny_pure ⟨rfl, H2, kA.push (Value.int (key b) t), c2, I4.pins_of fun p hp => ?_, j2, ?_⟩
    · rcases List.mem_append.mp hp with hp | hp
      · exact I4.pin p (List.mem_append_right _ (List.mem_append_left _ hp))
      · rcases List.mem_cons.mp hp with rfl | hp
        · exact I4.pin _ (List.mem_append_right _ (List.mem_append_right _ (.head _)))
        · rcases List.mem_cons.mp hp with rfl | hp
          · exact ⟨hc2, f0, f1, f2, fun v h => by cases h⟩
          · cases hp
    · rw [ea, ekk]
      exact each_snoc ⟨key b, t, rfl, rfl⟩ hk
  case done =>
    rintro s' ⟨H', kA, ek, I', j', hk⟩
    have e3 : (bs.map fun b => PyData.int (key b)).take (0 + its.length) = bs.map fun b => PyData.int (key b) := List.take_of_length_le (by rw [List.length_map]; omega)
    rw [e3] at hk
    have hk' : EachIs (fun v d => ∃ as, Reads s'.heap v d as) kA.toList (bs.map fun b => PyData.int (key b)) := hk.mono fun v d ⟨m, t, e1, e2⟩ => by
      subst e1 e2
      exact ⟨[], .int m t⟩
    have hsz : kA.size = its.length := by
      have h1 := hk'.length
      rw [Array.length_toList, List.length_map] at h1
      omega
    have pk2 := I'.pin (kS, seqObj "list" kA ek) (List.mem_append_right _ (List.mem_append_right _ (.tail _ (.head _))))
    have pa2 := I'.pin (a', seqObj "list" #[] e1) (List.mem_append_right _ (List.mem_append_right _ (.head _)))
    have hal : AllAlike (bs.map fun b => PyData.int (key b)) := AllAlike.of fun _ _ => by simp only [alike]
    have hso : Sortable (bs.map fun b => PyData.int (key b)) := .inr fun d hd => by
      obtain ⟨b, _, rfl⟩ := List.mem_map.mp hd
      exact ⟨fun z => (by cases z), fun _ z => (by cases z)⟩
    have hu : ∀ d, d ∈ (bs.map fun b => PyData.int (key b)) → X.A.in1.in1.units + d.depth < cLine := fun d hd => by
      obtain ⟨b, _, rfl⟩ := List.mem_map.mp hd
      have := hr.un
      simp only [PyData.depth]
      show X.A.units + 1 + 1 + _ < _
      omega
    obtain ⟨G, g1, g2⟩ := restrict s'.heap fun b => decide (b ≠ kS)
    have gk : ∀ b o, G.get? b = some o → s'.heap.get? b = some o := fun b o q => by
      by_cases hb : b = kS
      · rw [hb, g2 kS (decide_eq_false fun z => z rfl)] at q
        cases q
      · rw [← g1 b (decide_eq_true hb)]
        exact q
    try dsimp only
    refine wpAny_bind (listItems_at pk2.1 rfl ?_)
    refine keyH_end (κ := dataKind s'.heap (bs.map fun b => PyData.int (key b))) (h₁ := G) (fun b o _ q => gk b o q) (g2 kS (decide_eq_false fun z => z rfl)) pk2.1 pa2.1 hka (SortsAt.data hk' hal hso hu) hsz hzi fun h3 tk3 c kb hn => ⟨rfl, ?_⟩
    have el2 := keyedOut_each (rev := false) (fun b => PyData.int (key b)) (⟨s'.heap, kA.toList, hal, rfl, hk'⟩ : KeyedOut false (bs.map fun b => PyData.int (key b)) its _) el
    rw [le_ints] at el2
    obtain ⟨ys, ry, ay⟩ := each_back el2
    have hyl : ys.length ≤ sizeLine := by
      rw [ry.length, el2.length, List.length_mergeSort, ← hlen]
      exact hzi
    have I5 : Inv X pins σ H' s' := I'.of2.unpinned
    refine ⟨.ref a', upd H' a' (.lst ys), I5.turnedTrack (ch := [a', kS]) (t' := tk3) (fun b o hb q => ?_) (fun b hb => ?_) (.head _) ⟨hyl, _, c, ry, hn⟩, rfl, q a' ys H' j' pa2.2.1 ay⟩
    · refine kb b o (fun z => hb (by simp [z])) ?_
      rw [g1 b (decide_eq_true fun z => hb (by simp [z]))]
      exact q
    · rcases List.mem_cons.mp hb with rfl | hb
      · exact na pa2.2.1
      · rcases List.mem_cons.mp hb with rfl | hb
        · exact nk pk2.2.1
        · cases hb
/-- sorted(xs, key=f) of a def f: what is wanted -/
def rSortedX (sp : Sp) (K : PySem.W.Frag) (vs : List V) (H : Hp) (Q : VK) : Prop := ∃ (β : Type) (R : V → β → Prop) (key : β → Int) (J : Hp → Prop) (a : Addr) (xs : List V) (bs : List β), vs = [V.ref a] ∧ SqL K H a xs ∧ Z.A2 R xs bs ∧ J H ∧
  (∀ x b, b ∈ bs → R x b → ∀ H', J H' → sp [x] H' (fun v H2 => v = .int (key b) ∧ J H2) (fun _ _ _ => False)) ∧
  ∀ p ys H', J H' → H' p = none → Z.A2 R ys (bs.mergeSort fun x y => decide (key x ≤ key y)) → Q (.ref p) (upd H' p (.lst ys))
def rSortedF (f : Addr) (sp : Sp) (K : PySem.W.Frag) : List V → List V → Hp → VK → Prop := fun vs zs H Q => zs = [V.ref f] ∧ rSortedX sp K vs H Q
theorem cr_sortedF {k : Nat} {f : Addr} {fd : FuncData} {p0 : Str} {sp : Sp} (F : FnOk X.prog X.w X.K X.mg X.base CX0 k f fd [p0] sp) (hr : Room (k + 1) X.A) (hb : Binds X.K fd [p0] []) :
    CallRK X (.builtin "sorted") [Str.ofString "key"] (rSortedF f sp X.K) := by
  intro pins s σ H vs zs us ws Q I r rz h
  obtain ⟨rfl, β, R, key, J, a, xs, bs, rfl, hs, e, hJ, turn, q⟩ := h
  obtain rfl := Vals.ref1 r
  obtain ⟨w1, rfl, e1⟩ := vals1 rz
  obtain rfl : w1 = Value.ref f := e1
  exact sorted_key_run F hr hb I hs e hJ turn q
theorem cr_sortedFK {K : PySem.W.Frag} (hK : X.K = K) {k : Nat} {f : Addr} {fd : FuncData} {p0 : Str} {sp : Sp} (F : FnOk X.prog X.w X.K X.mg X.base CX0 k f fd [p0] sp) (hr : Room (k + 1) X.A) (hb : Binds X.K fd [p0] []) :
    CallRK X (.builtin "sorted") [Str.ofString "key"] (rSortedF f sp K) := by
  subst hK
  exact cr_sortedF F hr hb
end
end L2
namespace Z
open PySem PySem.Spec PyProof.Rows L2
open Rep (rep)
section
variable {α β : Type}
def okI (r : R Int) : Int := match r with
  | .ok n => n
  | _ => 0
def isOk (r : R β) : Bool := match r with
  | .ok _ => true
  | _ => false
/-- sorted(xs, key=f) -/
def sortBy (f : α → R Int) (xs : List α) : List α := xs.mergeSort fun x y => decide (okI (f x) ≤ okI (f y))
def sortByR (f : α → R Int) (xs : List α) : R (List α) := if (xs.all fun x => isOk (f x)) = true then .ok (sortBy f xs) else .bad
theorem pb_sortBy {f : α → R Int} {xs : List α} {k : List α → R β} {Q : β → Prop} {E : Exn → Prop} (h : Post (sortByR f xs >>= k) Q E) : (∀ b ∈ xs, f b = .ok (okI (f b))) ∧ Post (k (sortBy f xs)) Q E := by
  unfold sortByR at h
  by_cases c : (xs.all fun x => isOk (f x)) = true
  · rw [if_pos c] at h
    refine ⟨fun b hb => ?_, h⟩
    have q := List.all_eq_true.mp c b hb
    cases e : f b with
    | ok n => rfl
    | exc z => rw [e] at q; cases q
    | bad => rw [e] at q; cases q
  · rw [if_neg c] at h
    exact (show False from h).elim
theorem sortByR_ok {f : α → R Int} {xs : List α} {g : α → Int} (h : ∀ b ∈ xs, f b = .ok (g b)) : sortByR f xs = .ok (xs.mergeSort fun x y => decide (okI (f x) ≤ okI (f y))) := by
  unfold sortByR
  rw [if_pos (List.all_eq_true.mpr fun b hb => by rw [h b hb]; rfl)]
  rfl
theorem sortBy_mem {f : α → R Int} {xs : List α} {x : α} : x ∈ sortBy f xs ↔ x ∈ xs := (List.mergeSort_perm _ _).mem_iff
theorem key_ok {α : Type} [Rep α] {K : Fg} {sp : Sp} {F H : Hp} {os : List (Addr × HO)} {a : Addr} {us : List V} {xs : List α} {f : α → R Int} {Q : VK}
    (w : W F H os) (hs : SqL K H a us) (hA : A2 (rep K F) us xs) (hf : ∀ b ∈ xs, f b = .ok (okI (f b)))
    (hsp : ∀ (x : V) (b : α) (F' H' : Hp) (Q' : VK), W F' H' os → rep K F' x b → Post (f b) (Ret K F' os Q') noX → sp [x] H' Q' (fun _ _ _ => False))
    (q : ∀ p ys F' H', W F' H' os → Same F F' → H' p = none → A2 (rep K F') ys (sortBy f xs) → Q (.ref p) (upd H' p (.lst ys))) :
    rSortedX sp K [V.ref a] H Q := by
  refine ⟨α, rep K F, fun b => okI (f b), fun H' => ∃ F', W F' H' os ∧ Same F F', a, us, xs, rfl, hs, hA, ⟨F, w, Same.refl _⟩, ?_, ?_⟩
  · rintro x b hb r H' ⟨F', w', s'⟩
    refine hsp x b F' H' _ w' (Rep.mono s' r) ?_
    rw [hf b hb]
    show Ret K F' os _ _
    intro v F2 H2 w2 s2 r2
    exact ⟨r2, F2, w2, s'.trans s2⟩
  · rintro p ys H' ⟨F', w', s'⟩ n h
    exact q p ys F' H' w' s' n (A2.imp (fun _ _ r => Rep.mono s' r) h)
end
end Z
namespace Z
open PySem L2
open Rep (rep)
/-- a while by its fuel, whose turn may end the whole with a value (inl), or the loop alone (inr (false, ..)) -/
def whileXR {γ ρ : Type} (c : γ → R Bool) (b : γ → R (Sum ρ (Bool × γ))) : Nat → γ → R (Sum ρ γ)
  | 0, _ => .bad
  | n + 1, s => c s >>= fun t => if t = true then b s >>= fun r =>
    match r with
    | .inl z => .ok (.inl z)
    | .inr (true, s') => whileXR c b n s'
    | .inr (false, s') => .ok (.inr s')
    else .ok (.inr s)
section
variable {γ δ ρ : Type} {P : δ → Prop} {X : Exn → Prop} {tc : TT} {tb : TS} {D : Ends} {σ : St} {H : Hp}
theorem whileX {c : γ → R Bool} {b : γ → R (Sum ρ (Bool × γ))} {n : Nat} {s0 : γ} {k : Sum ρ γ → R δ} (hm : Post (whileXR c b n s0 >>= k) P X) (I : γ → St → Hp → Prop) (h0 : I s0 σ H)
    (hc : ∀ (g : γ) (σ : St) (H : Hp) (Q' : Bool → Hp → Prop) (P' : Bool → Prop), I g σ H → (∀ t, P' t → ∀ H', I g σ H' → Q' t H') → Post (c g) P' X → tc σ H Q')
    (hs : ∀ (g : γ) (σ : St) (H : Hp) (N B : St → Hp → Prop) (P' : Sum ρ (Bool × γ) → Prop), I g σ H → (∀ g', P' (.inr (true, g')) → ∀ σ' H', I g' σ' H' → N σ' H') → (∀ g', P' (.inr (false, g')) → ∀ σ' H', I g' σ' H' → B σ' H') →
      (∀ z, P' (.inl z) → Post (k (.inl z)) P X) → Post (b g) P' X → tb { D with nx := N, ct := N, bk := B } σ H)
    (hd : ∀ g σ H, I g σ H → Post (k (.inr g)) P X → D.nx σ H) : tWhile tc tb D σ H := by
  refine ⟨fun m σ H => ∃ g, I g σ H ∧ Post (whileXR c b m g >>= k) P X, ⟨n, s0, h0, hm⟩, ?_⟩
  rintro m σ H ⟨g, h, hm⟩
  cases m with
  | zero => exact (show False from hm).elim
  | succ m =>
    have hm' : Post ((c g >>= fun t => if t = true then b g >>= fun r => (match r with
      | .inl z => (R.ok (.inl z) : R (Sum ρ γ))
      | .inr (true, s') => whileXR c b m s'
      | .inr (false, s') => R.ok (.inr s')) else R.ok (.inr g)) >>= k) P X := hm
    rw [bind_bind] at hm'
    refine hc g σ H _ _ h (fun t p H' h' => ?_) (post_bind hm')
    cases t with
    | false => exact iteF (hd g σ H' h' p)
    | true =>
      refine iteT ?_
      have p' : Post ((b g >>= fun r => (match r with
        | .inl z => (R.ok (.inl z) : R (Sum ρ γ))
        | .inr (true, s') => whileXR c b m s'
        | .inr (false, s') => R.ok (.inr s'))) >>= k) P X := p
      rw [bind_bind] at p'
      exact ⟨fun σ' H' => ∃ g', I g' σ' H' ∧ Post (whileXR c b m g' >>= k) P X, fun σ' H' ⟨g', h1, h2⟩ => ⟨m, Nat.lt_succ_self m, g', h1, h2⟩, hs g σ H' _ _ _ h' (fun g' p2 σ' H' h2 => ⟨g', h2, p2⟩) (fun g' p2 σ' H' h2 => hd g' σ' H' h2 p2) (fun z p2 => p2) (post_bind p')⟩
/-- a while that never leaves: an invariant, a measure -/
theorem po_whileX {X : Exn → Prop} {c : γ → R Bool} {b : γ → R (Sum ρ (Bool × γ))} {T : γ → Prop} (I : γ → Prop) (μ : γ → Nat)
    (hs : ∀ s, I s → Post (c s) (fun t => (t = true → Post (b s) (fun r => ∃ s', r = .inr (true, s') ∧ I s' ∧ μ s' < μ s) X) ∧ (t = false → T s)) X) : ∀ {n : Nat} {s : γ}, I s → μ s < n → Post (whileXR c b n s) (fun r => ∃ s', r = .inr s' ∧ T s') X
  | 0, s, _, h => absurd h (Nat.not_lt_zero _)
  | n + 1, s, hi, h => by
    show Post (c s >>= fun t => if t = true then b s >>= fun r => (match r with
      | .inl z => (R.ok (.inl z) : R (Sum ρ γ))
      | .inr (true, s') => whileXR c b n s'
      | .inr (false, s') => R.ok (.inr s')) else R.ok (.inr s)) _ X
    have h0 := hs s hi
    cases e : c s with
    | bad => rw [e] at h0; exact h0.elim
    | exc z => rw [e] at h0; exact h0
    | ok t =>
      rw [e] at h0
      obtain ⟨h1, h2⟩ := h0
      cases t with
      | false => exact ⟨s, rfl, h2 rfl⟩
      | true =>
        show Post (b s >>= fun r => (match r with
          | .inl z => (R.ok (.inl z) : R (Sum ρ γ))
          | .inr (true, s') => whileXR c b n s'
          | .inr (false, s') => R.ok (.inr s'))) _ X
        have h3 := h1 rfl
        cases e2 : b s with
        | bad => rw [e2] at h3; exact h3.elim
        | exc z => rw [e2] at h3; exact h3
        | ok r =>
          rw [e2] at h3
          obtain ⟨s', rfl, a, d⟩ := h3
          exact po_whileX I μ hs a (by omega)
end
end Z
/-! YC: what stands behind a statement, by a name -/
namespace Z
open PySem L2
theorem seqN {t u : TS} {D : Ends} {σ : L2.St} {H : Hp} (h : ∀ N : L2.St → Hp → Prop, (∀ σ' H', u D σ' H' → N σ' H') → t { D with nx := N } σ H) : tSeq t u D σ H := h (u D) fun _ _ z => z
theorem ifSeqN {c : TT} {a b u : TS} {D : Ends} {σ : L2.St} {H : Hp} (h : ∀ A B : Hp → Prop, (∀ H1, a { D with nx := u D } σ H1 → A H1) → (∀ H1, b { D with nx := u D } σ H1 → B H1) → c σ H fun t H1 => if t = true then A H1 else B H1) : tSeq (tIfS c a b) u D σ H := h _ _ (fun _ z => z) fun _ z => z
theorem ifOneN {c : TT} {a b : TS} {D : Ends} {σ : L2.St} {H : Hp} (h : ∀ A B : Hp → Prop, (∀ H1, a D σ H1 → A H1) → (∀ H1, b D σ H1 → B H1) → c σ H fun t H1 => if t = true then A H1 else B H1) : tIfS c a b D σ H := h _ _ (fun _ z => z) fun _ z => z
end Z
/-! ZF: dicts of tuple keys: setdefault, what is walked of them (keys, pairs), values of any kind -/
namespace L2
open PySem PySem.Spec PyProof.Rows
section
variable {X : Cx} {pins : List (Addr × Obj)} {σ : St} {H : Hp} {s : Shared} {a b : Addr} {A : Around} {E : Value → Shared → Prop}
/-- setdefault, the key a tuple -/
theorem dT_setd {kvs : List (List Key × V)} {k : List Key} {y : V} {r : Value} {Q : Value → Shared → Prop} (room : A.units + 1 < cLine) (I : Inv X pins σ H s) (at_ : H a = some (.dT kvs)) (key : H b = some (.tup (k.map kV))) (val : RelV y r) (few : kvs.length < sizeLine)
    (there : ∀ x, valV kvs k = some x → ∀ (u : Value) (s' : Shared), Inv X pins σ H s' → RelV x u → Q u s') (made : valV kvs k = none → ∀ (u : Value) (s' : Shared), Inv X pins σ (upd H a (.dT (putK kvs k y))) s' → RelV y u → Q u s') :
    wpAny (model X.prog X.w) A (call (.builtin "dict.setdefault") [.ref a, .ref b, r]) Q E s := by
  obtain ⟨z, hs, rows, rel, dd⟩ := dt_of I.hok at_
  have rowsFew : rows.length ≤ sizeLine := by
    have := Paired.length rel
    omega
  have newFew : (putK kvs k y).length ≤ sizeLine := by
    have := length_putK kvs k y
    omega
  have q := rel.val k
  refine call_setdefault_heap (hsz := rowsFew) (tupleKind_room_in1 room) (key_of I.hok key) hs dd (fun p hp => ?_) fun hn h2 dd2 same => ?_
  · rw [hp] at q
    cases e : valV kvs k with
    | some x =>
      rw [e] at q
      exact there x e _ _ (I.tok _) q
    | none =>
      rw [e] at q
      exact (show False from q).elim
  · rw [hn] at q
    cases e : valV kvs k with
    | some x =>
      rw [e] at q
      exact (show False from q).elim
    | none =>
      obtain ⟨ob, es, ep, g1, g2, g3, g4, _, g5⟩ := dd2
      have kept : KT (upd H a (.dT (putK kvs k y))) (putK kvs k y) (storedH rows k b r) := (rel.put k key val).keeps fun c ys ec => by
        rw [upd_ne (ne_of ec at_ (fun z => nomatch z))]
        exact ec
      exact made e _ _ (d_write (ob := .dT (putK kvs k y)) I (by rw [at_]; exact True.intro) same ⟨ob, g1⟩ ⟨newFew, hs, _, kept, ob, es, ep, g1, g2, g3, g4, g5⟩) val
end
/-- what setdefault leaves -/
def setdK (kvs : List (List Key × V)) (k : List Key) (v : V) : List (List Key × V) := if (valV kvs k).isSome = true then kvs else putK kvs k v
theorem upd_id {H : Hp} {a : Addr} {o : HO} (h : H a = some o) : upd H a o = H := by
  funext b
  by_cases e : b = a
  · rw [e, upd_same, h]
  · rw [upd_ne e]
/-! ### the pairs of a locked dict -/
end L2
namespace Z
open PySem L2
open Rep (rep)
section
variable {K : Fg} {d : Addr} {o : Obj} {β : Type} {r : V → β → Prop} {kvs : List (List Key × V)} {m : List (Tup Int × β)}
theorem AD.both {κ γ : Type} {e : κ → γ} : ∀ {kvs : List (γ × V)} {m : List (κ × β)}, AD e r kvs m → ∀ {i : Nat} {k : γ} {v : V}, kvs[i]? = some (k, v) → ∃ p, m[i]? = some p ∧ k = e p.1 ∧ r v p.2
  | _, _, .nil, i, k, v, h => by simp at h
  | _, _, .cons (k := j) (v := u) (x := x) a t, 0, k, v, h => by
    simp at h
    obtain ⟨rfl, rfl⟩ := h
    exact ⟨(j, x), rfl, rfl, a⟩
  | _, _, .cons a t, i + 1, k, v, h => by
    obtain ⟨p, h1, h2⟩ := AD.both t (i := i) (k := k) (v := v) (by simpa using h)
    exact ⟨p, by simpa using h1, h2⟩
theorem kT_ints (t : Tup Int) : (kT t).map kV = t.l.map V.int := by
  unfold kT
  rw [List.map_map]
  rfl
theorem tw_keysT (h : AD kT r kvs m) : TW (Itkt d o kvs) (m.map (·.1)) (fun H => H d = some (.frz o (.dT kvs))) (fun b H x H' => H' = H ∧ ∃ q, x = .ref q ∧ H q = some (.tup (b.l.map V.int))) := ⟨by
  rw [List.length_map, ← h.length]
  refine ⟨fun _ _ hi q => ⟨q, hi⟩, fun _ q => ⟨q, Nat.le_refl _⟩, fun i H x H' _ _ y => ?_⟩
  obtain ⟨e, k, v, q, hk, e1, hq⟩ := y
  obtain ⟨p, h1, h2, h3⟩ := h.both hk
  rw [h2, kT_ints] at hq
  exact ⟨p.1, by rw [List.getElem?_map, h1]; rfl, e, q, e1, hq⟩⟩
end
section
variable {κ β : Type} [DecidableEq κ]
def msetd (m : List (κ × β)) (k : κ) (v : β) : List (κ × β) := if mhas m k = true then m else mput m k v
def msetdR (m : List (κ × β)) (k : κ) (v : β) : R (List (κ × β)) := if m.length < 100000 then .ok (msetd m k v) else .bad
theorem pn_msetd {δ : Type} {m : List (κ × β)} {k : κ} {v : β} {f : List (κ × β) → R δ} {P : δ → Prop} {E : Exn → Prop} (h : Post (msetdR m k v >>= f) P E) : ∃ m', m.length < sizeLine ∧ m' = msetd m k v ∧ Post (f m') P E := by
  unfold msetdR at h
  by_cases hl : m.length < 100000
  · rw [if_pos hl] at h
    exact ⟨_, by rw [sizeLine_eq]; omega, rfl, h⟩
  · rw [if_neg hl] at h
    exact (show False from h).elim
theorem po_msetd {δ : Type} {m : List (κ × β)} {k : κ} {v : β} {f : List (κ × β) → R δ} {S : δ → Prop} {X : Exn → Prop} (h : m.length < 100000) (hk : Post (f (msetd m k v)) S X) : Post (msetdR m k v >>= f) S X := by
  unfold msetdR
  rw [if_pos h]
  exact hk
end
theorem AD.setd {β : Type} {r : V → β → Prop} {kvs : List (List Key × V)} {m : List (Tup Int × β)} {k : Tup Int} {v : V} {x : β} (h : AD kT r kvs m) (hv : r v x) : AD kT r (setdK kvs (kT k) v) (msetd m k x) := by
  unfold setdK msetd
  rw [h.no kT_inj]
  split
  · exact h
  · exact h.put kT_inj hv
end Z
/-! YF: d.setdefault(k, x), the key a tuple, its answer kept -/
namespace L2
open PySem PySem.Spec PyProof.Rows
theorem valV_putK {kvs : List (List Key × V)} {k : List Key} {v : V} : valV (putK kvs k v) k = some v := by
  unfold putK
  split
  · rename_i h
    unfold valV
    induction kvs with
    | nil => simp at h
    | cons p r ih =>
      by_cases e : p.1 = k
      · simp [e]
      · have h' : (r.any fun p => decide (p.1 = k)) = true := by
          simpa [e] using h
        have := ih h'
        simpa [e] using this
  · rename_i h
    unfold valV
    rw [List.find?_append]
    have : kvs.find? (fun kv => decide (kv.1 = k)) = none := by
      rw [List.find?_eq_none]
      intro x hx hk
      exact h (List.any_eq_true.mpr ⟨x, hx, hk⟩)
    rw [this]
    simp
def tDSetdV (to tk tx : TE) : TE := fun σ H Q => to σ H fun o H1 => ∃ a, o = .ref a ∧ IsD H1 a ∧ tk σ H1 fun y H2 => tx σ H2 fun z H3 => ∃ (kvs : List (List Key × V)) (k : List Key) (b : Addr) (u : V), H3 a = some (.dT kvs) ∧ y = .ref b ∧ H3 b = some (.tup (k.map kV)) ∧ kvs.length < sizeLine ∧
  valV (setdK kvs k z) k = some u ∧ Q u (upd H3 a (.dT (setdK kvs k z)))
section
variable {X : Cx} {o e f : Expr} {to tk tx : TE} {apos cpos : Pos}
theorem pe_dsetdV (room : X.A.units + 1 < cLine) (ho : PE X o to) (he : PE X e tk) (hf : PE X f tx) (m : M2 X o "setdefault" apos e f cpos) : PE X (.Call (.Attribute o "setdefault" apos) [e, f] [] cpos) (tDSetdV to tk tx) := ⟨fun pins s σ H Q I h => by
  refine wpAny_Call_method m.base m.few m.line PySem.F.plainAttrs_dict F.slot_dict_setdefault F.type_dict_setdefault (thn (ho.run pins s σ H _ I h) fun u1 s1 hu1 => ?_)
  obtain ⟨v1, H1, I1, r1, a, rfl, d, q1⟩ := hu1
  obtain rfl : u1 = Value.ref a := r1
  refine ⟨(isD_at I1 d).1, (isD_at I1 d).2.1, ?_⟩
  rw [m.trees]
  refine Calls.callWith_builtin rfl (Calls.evalArgs_plain (Calls.spliced_cons (thn (he.run pins s1 σ H1 _ I1 q1) fun u2 s2 hu2 => ?_)))
  obtain ⟨v2, H2, I2, r2, q2⟩ := hu2
  refine Calls.spliced_cons (thn (hf.run pins s2 σ H2 _ I2 q2) fun u3 s3 hu3 => Calls.spliced_nil ?_)
  obtain ⟨v3, H3, I3, r3, kvs, k, b, u, at_, rfl, key, few, q3, q4⟩ := hu3
  obtain rfl : u2 = Value.ref b := r2
  refine dT_setd room I3 at_ key r3 few (fun x hx w4 s4 I4 r4 => ⟨x, H3, I4, r4, ?_⟩) fun hx w4 s4 I4 r4 => ⟨v3, _, I4, r4, ?_⟩
  · unfold setdK at q3 q4
    rw [hx, if_pos (show (some x).isSome = true from rfl)] at q3 q4
    rw [hx] at q3
    cases q3
    rw [upd_id at_] at q4
    exact q4
  · unfold setdK at q3 q4
    rw [hx, if_neg (by simp)] at q3 q4
    rw [valV_putK] at q3
    cases q3
    exact q4⟩
end
end L2
namespace Z
open PySem L2 PySem.Spec PyProof.Rows
open Rep (rep)
section
variable {α δ : Type} [Rep α] {K : Fg} {F F' : Hp} {as : List Addr} {vss : List (List V)} {st : List (List α)}
def derefT {α : Type} (st : List (List α)) (m : List (Tup Int × Ix)) : R (List (Tup Int × List α)) := mapR (fun p => getS st p.2 >>= fun x => .ok (p.1, x)) m
theorem pb_derefT {α δ : Type} {st : List (List α)} {m : List (Tup Int × Ix)} {f : List (Tup Int × List α) → R δ} {P : δ → Prop} {E : Exn → Prop} (h : Post (derefT st m >>= f) P E) : ∃ l, derefT st m = R.ok l ∧ Post (f l) P E := by
  have key : ∀ m : List (Tup Int × Ix), (∃ l, derefT st m = R.ok l) ∨ derefT st m = R.bad := fun m => by
    induction m with
    | nil => exact .inl ⟨[], rfl⟩
    | cons p m ih =>
      unfold derefT mapR getS
      cases e : st[p.2]? with
      | none => exact .inr rfl
      | some x =>
        rcases ih with ⟨l, hl⟩ | hl
        · refine .inl ⟨(p.1, x) :: l, ?_⟩
          have hl' : mapR (fun p => getS st p.2 >>= fun x => R.ok (p.1, x)) m = R.ok l := hl
          show (R.ok (p.1, x) >>= fun y => mapR (fun p => getS st p.2 >>= fun x => R.ok (p.1, x)) m >>= fun ys => R.ok (y :: ys)) = _
          rw [hl']
          rfl
        · refine .inr ?_
          have hl' : mapR (fun p => getS st p.2 >>= fun x => R.ok (p.1, x)) m = R.bad := hl
          show (R.ok (p.1, x) >>= fun y => mapR (fun p => getS st p.2 >>= fun x => R.ok (p.1, x)) m >>= fun ys => R.ok (y :: ys)) = _
          rw [hl']
          rfl
  rcases key m with ⟨l, e⟩ | e
  · rw [e] at h
    exact ⟨l, e, h⟩
  · rw [e] at h
    exact (show False from h).elim
theorem derefT_rep {kvs : List (List Key × V)} {m : List (Tup Int × Ix)} {xss : List (Tup Int × List α)} (h : Sto K F as vss st) (hf : ∀ (j : Nat) (a : Addr) (vs : List V), as[j]? = some a → vss[j]? = some vs → F' a = some (.lst vs)) (s : Same F F')
    (hv : AD kT (RX as) kvs m) (e : derefT st m = R.ok xss) : AD kT (rep K F') kvs xss := by
  induction hv generalizing xss with
  | nil =>
    cases e
    exact .nil
  | @cons k v x kvs m r t ih =>
    have e' : (getS st x >>= fun y => R.ok (k, y)) >>= (fun y => mapR (fun p : Tup Int × Ix => getS st p.2 >>= fun x => R.ok (p.1, x)) m >>= fun ys => R.ok (y :: ys)) = R.ok xss := e
    unfold getS at e'
    cases e1 : st[x]? with
    | none => rw [e1] at e'; cases e'
    | some y =>
      rw [e1] at e'
      cases e2 : mapR (fun p : Tup Int × Ix => getS st p.2 >>= fun x => R.ok (p.1, x)) m with
      | ok ys =>
        have e3 : ((R.ok (k, y) : R (Tup Int × List α)) >>= fun y => mapR (fun p : Tup Int × Ix => getS st p.2 >>= fun x => R.ok (p.1, x)) m >>= fun ys => R.ok (y :: ys)) = R.ok xss := e'
        rw [e2] at e3
        have e4 : (k, y) :: ys = xss := R.ok.inj e3
        rw [← e4]
        have one : A2 (rep K F') [v] [y] := deref_rep h hf s (.cons r .nil) (js := [x]) (by
          show (getS st x >>= fun y => mapR (getS st) [] >>= fun ys => R.ok (y :: ys)) = _
          unfold getS
          rw [e1]
          rfl)
        cases one with
        | cons r1 _ => exact .cons r1 (ih e2)
      | exc z =>
        have e3 : ((R.ok (k, y) : R (Tup Int × List α)) >>= fun y => mapR (fun p : Tup Int × Ix => getS st p.2 >>= fun x => R.ok (p.1, x)) m >>= fun ys => R.ok (y :: ys)) = R.ok xss := e'
        rw [e2] at e3
        cases e3
      | bad =>
        have e3 : ((R.ok (k, y) : R (Tup Int × List α)) >>= fun y => mapR (fun p : Tup Int × Ix => getS st p.2 >>= fun x => R.ok (p.1, x)) m >>= fun ys => R.ok (y :: ys)) = R.ok xss := e'
        rw [e2] at e3
        cases e3
end
end Z
/-! ZE: tuples item by item (Nt), objects of an own class (Oj), trees of tuples (Tr) -/
namespace Z
open PySem L2 PySem.Spec PyProof.Rows
open Rep (rep)
class RepL (α : Type) where
  repTs : Fg → Hp → List V → α → Prop
  mono : ∀ {K : Fg} {H H' : Hp} {vs : List V} {x : α}, Same H H' → repTs K H vs x → repTs K H' vs x
open RepL (repTs)
instance repLU : RepL Unit := ⟨fun _ _ vs _ => vs = [], fun _ h => h⟩
instance repLP {α β : Type} [Rep α] [RepL β] : RepL (α × β) := ⟨fun K H vs x => ∃ v us, vs = v :: us ∧ rep K H v x.1 ∧ repTs K H us x.2, fun s ⟨v, us, e, h1, h2⟩ => ⟨v, us, e, Rep.mono s h1, RepL.mono s h2⟩⟩
/-- a tuple, item by item -/
structure Nt (α : Type) where
  v : α
  deriving DecidableEq
instance decNtL {α : Type} [DecidableEq α] : DecidableEq (List (Nt α)) := inferInstance
instance repNt {α : Type} [RepL α] : Rep (Nt α) := ⟨fun K H v x => ∃ a vs, v = .ref a ∧ H a = some (.tup vs) ∧ repTs K H vs x.v, fun s ⟨a, vs, e, q, h⟩ => ⟨a, vs, e, s _ _ q, RepL.mono s h⟩⟩
section
variable {α β γ δ : Type} [Rep α] [Rep β] [Rep γ] [Rep δ] {K : Fg} {H H' : Hp} {v u1 u2 u3 u4 : V} {a : Addr}
theorem nt3 {x : Nt (α × β × γ × Unit)} (h : rep K H v x) : ∃ a u1 u2 u3, v = .ref a ∧ H a = some (.tup [u1, u2, u3]) ∧ rep K H u1 x.v.1 ∧ rep K H u2 x.v.2.1 ∧ rep K H u3 x.v.2.2.1 := by
  obtain ⟨a, vs, e, q, u1, _, rfl, h1, u2, _, rfl, h2, u3, _, rfl, h3, rfl⟩ := h
  exact ⟨a, u1, u2, u3, e, q, h1, h2, h3⟩
theorem rep_nt3 {x1 : α} {x2 : β} {x3 : γ} (q : H a = some (.tup [u1, u2, u3])) (h1 : rep K H u1 x1) (h2 : rep K H u2 x2) (h3 : rep K H u3 x3) : rep K H (.ref a) (⟨(x1, x2, x3, ())⟩ : Nt (α × β × γ × Unit)) := ⟨a, _, rfl, q, u1, _, rfl, h1, u2, _, rfl, h2, u3, _, rfl, h3, rfl⟩
end
/-! ### as data -/
class DatL (α : Type) extends RepL α where
  toDs : α → List PyData
  dmaxL : Nat
  dpL : ∀ {K : Fg} {H : Hp} {vs : List V} {x : α}, repTs K H vs x → DpAll K H vs (toDs x)
  layL : ∀ x : α, PyData.canLayAll0 (toDs x) = true
  depL : ∀ x : α, PyData.depthAll (toDs x) ≤ dmaxL
  eqvL : ∀ x y : α, PyData.eqvAll (toDs x) (toDs y) = true ↔ x = y
instance datLU : DatL Unit where
  toDs := fun _ => []
  dmaxL := 0
  dpL := fun h => by
    have h' : _ = [] := h
    subst h'
    exact .nil
  layL := fun _ => by simp only [PyData.canLayAll0]
  depL := fun _ => by simp only [PyData.depthAll, Nat.le_refl]
  eqvL := fun _ _ => by simp [PyData.eqvAll]
instance datLP {α β : Type} [Dat α] [DatL β] : DatL (α × β) where
  toDs := fun x => Dat.toD x.1 :: DatL.toDs x.2
  dmaxL := max (Dat.dmax α) (DatL.dmaxL β)
  dpL := fun {K H vs x} h => by
    obtain ⟨v, us, rfl, h1, h2⟩ := h
    exact .cons (Dat.dp h1) (DatL.dpL h2)
  layL := fun x => by simp only [PyData.canLayAll0, Dat.lay, DatL.layL, Bool.and_true]
  depL := fun x => by
    have h1 := Dat.dep x.1
    have h2 := DatL.depL x.2
    simp only [PyData.depthAll]
    omega
  eqvL := fun x y => by
    obtain ⟨x1, x2⟩ := x
    obtain ⟨y1, y2⟩ := y
    simp only [PyData.eqvAll, Bool.and_eq_true, Dat.eqv, DatL.eqvL, Prod.mk.injEq]
instance datNt {α : Type} [DatL α] : Dat (Nt α) where
  toD := fun x => .tuple (DatL.toDs x.v)
  dmax := DatL.dmaxL α + 1
  dp := fun {K H v x} h => by
    obtain ⟨a, vs, rfl, q, h⟩ := h
    exact .tup (SqT.of q) (DatL.dpL h)
  lay := fun x => by
    simp only [PyData.canLay0]
    exact DatL.layL x.v
  dep := fun x => by
    have h := DatL.depL x.v
    simp only [PyData.depth]
    omega
  eqv := fun x y => by
    obtain ⟨x⟩ := x
    obtain ⟨y⟩ := y
    simp only [PyData.eqv, Nt.mk.injEq]
    exact DatL.eqvL x y
/-! ### objects of an own class -/
def mkfs (fs : List Str) (us : List V) : List (Str × V) := (fs.zip us).foldl (fun l p => putF p.1 p.2 l) []
structure Oj (nm : Str) (fs : List Str) (α : Type) where
  v : α
instance repOj {nm : Str} {fs : List Str} {α : Type} [RepL α] : Rep (Oj nm fs α) := ⟨fun K H v x => ∃ a C dx us, v = .ref a ∧ Nm K nm C ∧ H a = some (.ins C dx (mkfs fs us)) ∧ repTs K H us x.v, fun s ⟨a, C, dx, us, e, n, q, h⟩ => ⟨a, C, dx, us, e, n, s _ _ q, RepL.mono s h⟩⟩
/-! ### trees: (a thing, a thing, a tuple of trees) -/
inductive Tr where
  | n (a b : Thing) (ts : List Tr)
def Tr.a : Tr → Thing
  | .n a _ _ => a
def Tr.b : Tr → Thing
  | .n _ b _ => b
def Tr.ts : Tr → List Tr
  | .n _ _ ts => ts
mutual
def trRep (K : Fg) (H : Hp) : Tr → V → Prop
  | .n a b ts, v => ∃ p u w q vs, v = .ref p ∧ H p = some (.tup [u, w, .ref q]) ∧ rep K H u a ∧ rep K H w b ∧ H q = some (.tup vs) ∧ trsRep K H ts vs
def trsRep (K : Fg) (H : Hp) : List Tr → List V → Prop
  | [], vs => vs = []
  | t :: ts, vs => ∃ v us, vs = v :: us ∧ trRep K H t v ∧ trsRep K H ts us
end
mutual
theorem trRep_mono {K : Fg} {H H' : Hp} (s : Same H H') : ∀ (t : Tr) (v : V), trRep K H t v → trRep K H' t v
  | .n a b ts, v, h => by
    rw [trRep] at h ⊢
    obtain ⟨p, u, w, q, vs, e, h1, h2, h3, h4, h5⟩ := h
    exact ⟨p, u, w, q, vs, e, s _ _ h1, Rep.mono s h2, Rep.mono s h3, s _ _ h4, trsRep_mono s ts vs h5⟩
theorem trsRep_mono {K : Fg} {H H' : Hp} (s : Same H H') : ∀ (ts : List Tr) (vs : List V), trsRep K H ts vs → trsRep K H' ts vs
  | [], vs, h => by
    rw [trsRep] at h ⊢
    exact h
  | t :: ts, vs, h => by
    rw [trsRep] at h ⊢
    obtain ⟨v, us, e, h1, h2⟩ := h
    exact ⟨v, us, e, trRep_mono s t v h1, trsRep_mono s ts us h2⟩
end
instance repTr : Rep Tr := ⟨fun K H v t => trRep K H t v, fun {_ _ _ v t} s h => trRep_mono s t v h⟩
abbrev TrN := Nt (Thing × Thing × Tup Tr × Unit)
def Tr.nt (t : Tr) : TrN := ⟨(t.a, t.b, ⟨t.ts⟩, ())⟩
def Tr.of (x : TrN) : Tr := .n x.v.1 x.v.2.1 x.v.2.2.1.l
/-! ### a tuple and the empty one -/
/-! ### great powers and products -/
/-! ### min, max of a tuple of two ints -/
/-! ### a list grows by a tuple's items -/
end Z
/-! ZC: texts as data; what is an int or a text -/
namespace Z
open PySem L2 PySem.Spec PyProof.Rows
open Rep (rep)
instance : NonN Exn := ⟨fun {K H v x} h q => by
  obtain ⟨a, C, e, _⟩ := h
  rw [e] at q
  cases q⟩
structure Txt where
  t : Str
  ok : PyData.strOk t = true
  deriving DecidableEq
inductive IoS where
  | i (n : Int)
  | s (t : Txt)
  deriving DecidableEq
instance repIoS : Rep IoS := ⟨fun K H v x => match x with
  | .i n => v = .int n
  | .s t => v = .str t.t, fun {_ _ _ _ x} s h => by
    cases x with
    | i n => exact h
    | s t => exact h⟩
instance datIoS : Dat IoS where
  toD := fun x => match x with
    | .i n => .int n
    | .s t => .str t.t
  dmax := 0
  dp := fun {K H v x} h => by
    cases x with
    | i n =>
      have h' : v = V.int n := h
      subst h'
      exact .int _
    | s t =>
      have h' : v = V.str t.t := h
      subst h'
      exact .str _
  lay := fun x => by
    cases x with
    | i n => simp only [PyData.canLay0]
    | s t =>
      simp only [PyData.canLay0]
      exact t.ok
  dep := fun x => by cases x <;> simp only [PyData.depth, Nat.le_refl]
  eqv := fun x y => by
    cases x with
    | i n => cases y <;> simp [PyData.eqv]
    | s t =>
      cases y with
      | i n => simp [PyData.eqv]
      | s u =>
        obtain ⟨t, ht⟩ := t
        obtain ⟨u, hu⟩ := u
        simp [PyData.eqv]
end Z
/-! YH: anything: what is in a list that is only counted; d.get(k, x) of a dict with tuples of ints for keys and any frozen values -/
namespace Z
open PySem L2 PySem.Spec PyProof.Rows
open Rep (rep)
inductive An where
  | a
  deriving DecidableEq
instance repAn : Rep An := ⟨fun _ _ _ _ => True, fun _ _ => trivial⟩
theorem rep_an {K : Fg} {H : Hp} {v : V} : rep K H v An.a := trivial
theorem A2.an {α : Type} [Rep α] {K : Fg} {H : Hp} {vs : List V} {xs : List α} (h : A2 (rep K H) vs xs) : A2 (rep K H) vs (xs.map fun _ => An.a) := by
  induction h with
  | nil => exact .nil
  | cons _ _ ih => exact .cons rep_an ih
section
variable {κ β γ : Type} [DecidableEq κ] [DecidableEq γ] {e : κ → γ} {r : V → β → Prop}
theorem AD.getD (he : ∀ a b, e a = e b → a = b) {k : κ} {v : V} {x : β} (h : r v x) : ∀ {kvs : List (γ × V)} {m : List (κ × β)}, AD e r kvs m → ∃ u, (valV kvs (e k)).getD v = u ∧ r u ((mget m k).getD x)
  | _, _, .nil => ⟨v, rfl, h⟩
  | _, _, .cons (k := j) (v := w) (x := y) (kvs := kvs) (m := m) a t => by
    unfold mget
    by_cases q : j = k
    · rw [List.find?_cons_of_pos (by simpa using q), valV_pos (congrArg e q)]
      exact ⟨w, rfl, a⟩
    · rw [List.find?_cons_of_neg (by simpa using q), valV_neg (fun z => q (he _ _ z))]
      exact AD.getD he h t
end
end Z
/-! YI: dicts of tuple keys that stay from some statement on (locked, FzT); len of them; tuples turned about; what a hunt tells (Hs) -/
namespace L2
open PySem PySem.Spec PyProof.Rows
/-- the dict at d is locked ahead of the statement -/
def tLockT (t : TS) : TS := fun D σ H => ∃ (d : Addr) (kvs : List (List Key × V)), H d = some (.dT kvs) ∧ ∀ od, t D σ (upd H d (.frz od (.dT kvs)))
theorem ps_lockT {X : Cx} {st : Stmt} {t : TS} (h : PS X st t) : PS X st (tLockT t) := ⟨fun pins s σ H D I ⟨d, kvs, e, q⟩ => by
  obtain ⟨od, I1⟩ := I.lock e (by exact True.intro)
  exact h.run pins s σ _ D I1 (q od)⟩
end L2
namespace Z
open PySem L2 PySem.Spec PyProof.Rows
open Rep (rep)
/-- a dict of tuple keys that stays -/
structure FzT (α : Type) where
  m : List (Tup Int × α)
instance repFT {α : Type} [Rep α] : Rep (FzT α) := ⟨fun K F v x => ∃ (a : Addr) (o : Obj) (kvs : List (List L2.Key × V)), v = .ref a ∧ F a = some (.frz o (.dT kvs)) ∧ AD kT (rep K F) kvs x.m, fun s ⟨a, o, kvs, e, q, h⟩ => ⟨a, o, kvs, e, s _ _ q, AD.imp (fun _ _ => Rep.mono s) h⟩⟩
section
variable {H : Hp} {a b : Addr} {o : Obj} {kvs : List (List L2.Key × V)} {t : Tup Int} {v : V}
theorem dgetsF (e : H a = some (.frz o (.dT kvs))) (eb : H b = some (.tup ((kT t).map kV))) (q : valV kvs (kT t) = some v) : DGet H a (.ref b) (some v) := .inr ⟨_, _, _, .inr ⟨_, e⟩, rfl, eb, q.symm⟩
end
/-- what hunt_or_shelter tells -/
abbrev HRow : Type := Nt (Tup Int × Tup Int × Int × Unit)
inductive Hs where
  | hunt (l : List HRow)
  | shelter (l : List (Tup Int))
  deriving DecidableEq
def Hs.w : Hs → Str
  | .hunt _ => "hunt"
  | .shelter _ => "shelter"
structure Hb where
  h : Hs
instance repHb : Rep Hb := ⟨fun K F v x => match x.h with | .hunt l => rep K F v l | .shelter l => rep K F v l, fun {K H H' v x} s h => by
  obtain ⟨x⟩ := x
  cases x with
  | hunt l => exact Rep.mono (α := List HRow) s h
  | shelter l => exact Rep.mono (α := List (Tup Int)) s h⟩
instance repHs : Rep Hs := ⟨fun K F v x => ∃ a u, v = .ref a ∧ F a = some (.tup [.str x.w, u]) ∧ rep K F u (Hb.mk x), fun s ⟨a, u, e, q, h⟩ => ⟨a, u, e, s _ _ q, Rep.mono s h⟩⟩
def asHunt : Hs → R (List HRow)
  | .hunt l => .ok l
  | _ => .bad
def asShelter : Hs → R (List (Tup Int))
  | .shelter l => .ok l
  | _ => .bad
theorem pb_asHunt {δ : Type} {x : Hs} {f : List HRow → R δ} {P : δ → Prop} {E : Exn → Prop} (h : Post (asHunt x >>= f) P E) : ∃ l, x = .hunt l ∧ Post (f l) P E := by
  cases x with
  | hunt l => exact ⟨l, rfl, h⟩
  | shelter l => exact (show False from h).elim
theorem pb_asShelter {δ : Type} {x : Hs} {f : List (Tup Int) → R δ} {P : δ → Prop} {E : Exn → Prop} (h : Post (asShelter x >>= f) P E) : ∃ l, x = .shelter l ∧ Post (f l) P E := by
  cases x with
  | hunt l => exact (show False from h).elim
  | shelter l => exact ⟨l, rfl, h⟩
end Z
/-! ZA: sorted of a tuple of pairs (the list's rules turned to tuples) -/
namespace L2
open PySem PySem.Spec PyProof.Rows
end L2
namespace Z
open PySem PySem.Spec PyProof.Rows L2
open Rep (rep)
instance datOptTup {α : Type} [Dat α] : Dat (Option (Tup α)) where
  toD := fun x => match x with
    | none => .none
    | some i => Dat.toD i
  dmax := Dat.dmax α + 1
  dp := fun {K H v x} h => by
    cases x with
    | none =>
      have h' : v = V.non := h
      subst h'
      exact .non
    | some i => exact Dat.dp (show rep K H v i from h)
  lay := fun x => by
    cases x with
    | none => simp only [PyData.canLay0]
    | some i => exact Dat.lay i
  dep := fun x => by
    cases x with
    | none => simp only [PyData.depth]; omega
    | some i => exact Dat.dep i
  eqv := fun x y => by
    cases x with
    | none =>
      cases y with
      | none => simp [PyData.eqv]
      | some j => simp [PyData.eqv, Dat.toD]
    | some i =>
      cases y with
      | none => simp [PyData.eqv, Dat.toD]
      | some j =>
        have := Dat.eqv i j
        show PyData.eqv (Dat.toD i) (Dat.toD j) = true ↔ _
        rw [this, Option.some.injEq]
end Z
/-! Z8: set(list of ints), sorted of it; list.count of data; list.insert -/
namespace L2
open PySem PySem.Spec PyProof.Rows
end L2
namespace Z
open PySem L2
open Rep (rep)
/-- xs.insert(i, y), i not below nought -/
def insR {α : Type} (xs : List α) (i : Int) (y : α) : R (List α) := if xs.length < 100000 ∧ 0 ≤ i ∧ i < 9223372036854775808 then .ok (xs.take i.toNat ++ [y] ++ xs.drop i.toNat) else .bad
theorem pn_ins {α δ : Type} {xs : List α} {i : Int} {y : α} {f : List α → R δ} {P : δ → Prop} {E : Exn → Prop} (h : Post (insR xs i y >>= f) P E) : ∃ l, (xs.length < 100000 ∧ 0 ≤ i ∧ i < 9223372036854775808) ∧ l = xs.take i.toNat ++ [y] ++ xs.drop i.toNat ∧ Post (f l) P E := by
  unfold insR at h
  by_cases q : xs.length < 100000 ∧ 0 ≤ i ∧ i < 9223372036854775808
  · rw [if_pos q] at h
    exact ⟨_, q, rfl, h⟩
  · rw [if_neg q] at h
    exact (show False from h).elim
theorem A2.ins {α : Type} {r : V → α → Prop} {v : V} {y : α} (n : Nat) {vs : List V} {xs : List α} (h : A2 r vs xs) (g : r v y) : A2 r (vs.take n ++ [v] ++ vs.drop n) (xs.take n ++ [y] ++ xs.drop n) := A2.append (A2.append (A2.take n h) (.cons g .nil)) (A2.drop n h)
theorem line_ins {α : Type} {r : V → α → Prop} {vs : List V} {xs : List α} (h : A2 r vs xs) (g : xs.length < 100000) : vs.length < sizeLine := by
  rw [h.length]
  exact Nat.lt_of_lt_of_le g line5
end Z
namespace Z
open PySem L2
open Rep (rep)
/-- a dict that stays as it is -/
structure FzD (κ β : Type) where
  m : List (κ × β)
  deriving DecidableEq
instance repFD : Rep (FzD Int Int) := ⟨fun K H v d => ∃ a, v = .ref a ∧ H a = some (.dK (encM kI V.int d.m)), fun s ⟨a, e, q⟩ => ⟨a, e, s _ _ q⟩⟩
end Z
namespace Z
open PySem L2
open Rep (rep)
/-- a text as a key -/
def kS (s : Str) : Key := Sum.inr s
end Z
namespace Z
open PySem L2
open Rep (rep)
section
variable {X : Cx} {K : Fg} {F H : Hp}
theorem A2.some {α : Type} [Rep α] {vs : List V} {xs : List α} (h : A2 (rep K F) vs xs) : A2 (rep K F) vs (xs.map Option.some) := by
  induction h with
  | nil => exact .nil
  | cons a _ ih => exact .cons (rep_some a) ih
end
end Z
/-! ZM: lemmas about mirrors -/
namespace Z
open PySem L2
section
variable {α β γ : Type}
theorem mapR_ok {f : α → R β} {g : α → β} : ∀ {xs : List α}, (∀ x ∈ xs, f x = R.ok (g x)) → mapR f xs = R.ok (xs.map g)
  | [], _ => rfl
  | x :: xs, h => by
    show (f x >>= fun y => mapR f xs >>= fun ys => R.ok (y :: ys)) = _
    rw [h x List.mem_cons_self, mapR_ok fun y hy => h y (List.mem_cons_of_mem _ hy)]
    rfl
theorem mapG_ok {f : α → R β} {g : α → β} {xs : List α} (hl : xs.length < 100000) (h : ∀ x ∈ xs, f x = R.ok (g x)) : mapG f xs = R.ok (xs.map g) := by
  unfold mapG
  rw [grd_t (decide_eq_true hl)]
  exact mapR_ok h
theorem filR_ok {f : α → R (Option β)} {g : α → Option β} : ∀ {xs : List α}, (∀ x ∈ xs, f x = R.ok (g x)) → filR f xs = R.ok (xs.filterMap g)
  | [], _ => rfl
  | x :: xs, h => by
    show (f x >>= fun o => filR f xs >>= fun ys => match o with
      | some y => R.ok (y :: ys)
      | none => R.ok ys) = _
    rw [h x List.mem_cons_self, filR_ok fun y hy => h y (List.mem_cons_of_mem _ hy)]
    show (match g x with
      | some y => R.ok (y :: xs.filterMap g)
      | none => R.ok (xs.filterMap g)) = R.ok ((x :: xs).filterMap g)
    rw [List.filterMap_cons]
    cases g x <;> rfl
theorem filG_ok {f : α → R (Option β)} {g : α → Option β} {xs : List α} (hl : xs.length < 100000) (h : ∀ x ∈ xs, f x = R.ok (g x)) : filG f xs = R.ok (xs.filterMap g) := by
  unfold filG
  rw [grd_t (decide_eq_true hl)]
  exact filR_ok h
theorem getI_nat {xs : List α} {i : Int} (h0 : 0 ≤ i) (h1 : i < xs.length) : ∃ x, getI xs i = R.ok x ∧ x ∈ xs ∧ xs[i.toNat]? = some x := by
  have hj : i.toNat < xs.length := by omega
  refine ⟨xs[i.toNat], ?_, List.getElem_mem hj, List.getElem?_eq_getElem hj⟩
  unfold getI
  have e : atI xs i = some xs[i.toNat] := by
    have := atI_nat (xs := xs) (j := i.toNat) (v := xs[i.toNat]) (List.getElem?_eq_getElem hj)
    rw [Int.toNat_of_nonneg h0] at this
    exact this
  rw [e]
  rfl
theorem getI_eq {xs : List α} {i : Int} {x : α} (h0 : 0 ≤ i) (h : xs[i.toNat]? = some x) : getI xs i = R.ok x := by
  have h1 := (List.getElem?_eq_some_iff.mp h).1
  obtain ⟨y, e, _, e2⟩ := getI_nat (xs := xs) (i := i) h0 (by omega)
  rw [h] at e2
  cases e2
  exact e
theorem setI_nat {xs : List α} {i : Int} {x : α} (h0 : 0 ≤ i) (h1 : i < xs.length) : setI xs i x = R.ok (xs.set i.toNat x) := by
  have e : ixN xs.length i = some i.toNat := by
    unfold ixN
    rw [if_pos h0, if_pos h1]
  unfold setI
  rw [e]
theorem app_ok {xs : List α} {x : α} (h : xs.length < 100000) : app xs x = R.ok (xs ++ [x]) := by
  unfold app
  rw [if_pos h]
theorem extend_ok {xs ys : List α} (h : xs.length + ys.length < 100000) : extend xs ys = R.ok (xs ++ ys) := by
  unfold extend
  rw [if_pos h]
theorem modI_ok {i j : Int} (h : 0 < j) : modI i j = R.ok (i % j) := by
  unfold modI
  rw [if_pos h]
theorem divI_okW {i j : Int} (h : 0 < j) (h2 : j.natAbs.log2 < 9000) : divI i j = R.ok (i / j) := by
  unfold divI
  rw [if_pos ⟨h, h2⟩]
theorem divI_ok {i j : Int} (h : 0 < j) (h2 : j < 1073741824) : divI i j = R.ok (i / j) := by
  refine divI_okW h (Nat.lt_of_lt_of_le ((Nat.log2_lt (by omega)).mpr (show j.natAbs < 2 ^ 30 by omega)) (by decide))
theorem mulI_ok {i j : Int} (h : (-(2 ^ 64) < i ∧ i < 2 ^ 64) ∨ (-(2 ^ 64) < j ∧ j < 2 ^ 64)) : mulI i j = R.ok (i * j) := by
  unfold mulI
  rw [if_pos h]
theorem rngI_ok {i j : Int} (h1 : -(2 ^ 62) ≤ i) (h2 : i < 2 ^ 62) (h3 : -(2 ^ 62) ≤ j) (h4 : j < 2 ^ 62) : rngI i j = R.ok (rng i j) := by
  unfold rngI
  rw [if_pos ⟨h1, h2, h3, h4⟩]
theorem rng_mem {i j k : Int} : k ∈ rng i j ↔ i ≤ k ∧ k < j := by
  unfold rng
  rw [List.mem_map]
  constructor
  · rintro ⟨n, hn, rfl⟩
    have := List.mem_range.mp hn
    omega
  · intro h
    exact ⟨(k - i).toNat, List.mem_range.mpr (by omega), by omega⟩
/-! ### what holds of a result, step by step -/
section
variable {P Q : α → Prop} {S : β → Prop} {X : Exn → Prop}
theorem po_bind {m : R α} {k : α → R β} (h : Post m Q X) (hk : ∀ a, Q a → Post (k a) S X) : Post (m >>= k) S X := by
  cases m with
  | ok a => exact hk a h
  | exc e => exact h
  | bad => exact h
theorem po_ok {a : α} (h : P a) : Post (R.ok a) P X := h
theorem po_eq {m : R α} {a : α} (h : m = R.ok a) (hp : P a) : Post m P X := by
  rw [h]
  exact hp
theorem po_if {c : Prop} [Decidable c] {m n : R α} (h1 : c → Post m P X) (h2 : ¬ c → Post n P X) : Post (if c then m else n) P X := by
  by_cases h : c
  · rw [if_pos h]
    exact h1 h
  · rw [if_neg h]
    exact h2 h
theorem po_ex {m : R α} (h : Post m P noX) : ∃ a, m = R.ok a ∧ P a := by
  cases m with
  | ok a => exact ⟨a, rfl, h⟩
  | exc e => exact (show False from h).elim
  | bad => exact (show False from h).elim
theorem po_iff {m : R α} {a : α} (h : Post m (· = a) noX) : m = R.ok a := by
  obtain ⟨b, e, rfl⟩ := po_ex h
  exact e
theorem po_get {xs : List α} {i : Int} {k : α → R β} (h0 : 0 ≤ i) (h1 : i < xs.length) (hk : ∀ x, x ∈ xs → xs[i.toNat]? = some x → Post (k x) S X) : Post (getI xs i >>= k) S X := by
  obtain ⟨x, e, h2, h3⟩ := getI_nat h0 h1
  rw [e]
  exact hk x h2 h3
theorem po_getE {xs : List α} {i : Int} {x : α} {k : α → R β} (h : getI xs i = R.ok x) (hk : Post (k x) S X) : Post (getI xs i >>= k) S X := by
  rw [h]
  exact hk
theorem po_set {xs : List α} {i : Int} {x : α} {k : List α → R β} (h0 : 0 ≤ i) (h1 : i < xs.length) (hk : Post (k (xs.set i.toNat x)) S X) : Post (setI xs i x >>= k) S X := by
  rw [setI_nat h0 h1]
  exact hk
theorem po_app {xs : List α} {x : α} {k : List α → R β} (h : xs.length < 100000) (hk : Post (k (xs ++ [x])) S X) : Post (app xs x >>= k) S X := by
  rw [app_ok h]
  exact hk
theorem po_extend {xs ys : List α} {k : List α → R β} (h : xs.length + ys.length < 100000) (hk : Post (k (xs ++ ys)) S X) : Post (extend xs ys >>= k) S X := by
  rw [extend_ok h]
  exact hk
theorem po_mod {i j : Int} {k : Int → R β} (h : 0 < j) (hk : 0 ≤ i % j → i % j < j → Post (k (i % j)) S X) : Post (modI i j >>= k) S X := by
  rw [modI_ok h]
  exact hk (Int.emod_nonneg _ (by omega)) (Int.emod_lt_of_pos _ h)
theorem po_div {i j : Int} {k : Int → R β} (h : 0 < j) (h2 : j < 1073741824) (hk : Post (k (i / j)) S X) : Post (divI i j >>= k) S X := by
  rw [divI_ok h h2]
  exact hk
theorem po_mul {i j : Int} {k : Int → R β} (h : (-(2 ^ 64) < i ∧ i < 2 ^ 64) ∨ (-(2 ^ 64) < j ∧ j < 2 ^ 64)) (hk : Post (k (i * j)) S X) : Post (mulI i j >>= k) S X := by
  rw [mulI_ok h]
  exact hk
theorem po_rng {i j : Int} {k : List Int → R β} (h1 : -(2 ^ 62) ≤ i) (h2 : i < 2 ^ 62) (h3 : -(2 ^ 62) ≤ j) (h4 : j < 2 ^ 62) (hk : Post (k (rng i j)) S X) : Post (rngI i j >>= k) S X := by
  rw [rngI_ok h1 h2 h3 h4]
  exact hk
theorem po_fold {f : β → α → R β} {s : β} {xs : List α} (I : β → Prop) (h0 : I s) (hf : ∀ s x, I s → x ∈ xs → Post (f s x) I X) : Post (foldR f s xs) I X := by
  induction xs generalizing s with
  | nil => exact h0
  | cons x xs ih =>
    show Post (f s x >>= fun s' => foldR f s' xs) I X
    exact po_bind (hf s x h0 List.mem_cons_self) fun s' h' => ih h' fun s y hs hy => hf s y hs (List.mem_cons_of_mem _ hy)
theorem po_foldX {ρ : Type} {f : β → α → R (Sum ρ (Bool × β))} {s : β} {xs : List α} (I : β → Prop) (h0 : I s) (hf : ∀ s x, I s → x ∈ xs → Post (f s x) (fun r => ∃ s', r = .inr (true, s') ∧ I s') X) : Post (foldX f s xs) (fun r => ∃ s', r = .inr s' ∧ I s') X := by
  induction xs generalizing s with
  | nil => exact ⟨s, rfl, h0⟩
  | cons x xs ih =>
    refine po_bind (S := fun r => ∃ s', r = Sum.inr s' ∧ I s') (k := fun r => match r with
      | .inl z => (R.ok (.inl z) : R (Sum ρ β))
      | .inr (true, s') => foldX f s' xs
      | .inr (false, s') => R.ok (.inr s')) (hf s x h0 List.mem_cons_self) fun r hr => ?_
    obtain ⟨s', rfl, h'⟩ := hr
    exact ih h' fun s y hs hy => hf s y hs (List.mem_cons_of_mem _ hy)
theorem po_mapG {f : α → R β} {xs : List α} (p : β → Prop) (hl : xs.length < 100000) (hf : ∀ x ∈ xs, Post (f x) p X) : Post (mapG f xs) (fun ys => ys.length = xs.length ∧ ∀ y ∈ ys, p y) X := by
  unfold mapG
  rw [grd_t (decide_eq_true hl)]
  show Post (mapR f xs) _ X
  clear hl
  induction xs with
  | nil => exact ⟨rfl, fun _ h => nomatch h⟩
  | cons x xs ih =>
    show Post (f x >>= fun y => mapR f xs >>= fun ys => R.ok (y :: ys)) _ X
    refine po_bind (hf x List.mem_cons_self) fun y hy => po_bind (ih fun z hz => hf z (List.mem_cons_of_mem _ hz)) fun ys ⟨h1, h2⟩ => ?_
    refine ⟨by rw [List.length_cons, List.length_cons, h1], fun z hz => ?_⟩
    rcases List.mem_cons.mp hz with rfl | hz
    · exact hy
    · exact h2 z hz
end
end
/-! ### dicts -/
section
variable {κ β : Type} [DecidableEq κ]
theorem mhas_iff {m : List (κ × β)} {k : κ} : mhas m k = true ↔ ∃ p ∈ m, p.1 = k := by
  unfold mhas
  rw [List.any_eq_true]
  constructor
  · rintro ⟨p, h, e⟩
    exact ⟨p, h, of_decide_eq_true e⟩
  · rintro ⟨p, h, e⟩
    exact ⟨p, h, decide_eq_true e⟩
theorem mput_new {m : List (κ × β)} {k : κ} {v : β} (h : mhas m k = false) : mput m k v = m ++ [(k, v)] := by
  unfold mput
  have h' : (m.any fun p => decide (p.1 = k)) = false := h
  rw [h', if_neg (by decide)]
theorem mput_old {m : List (κ × β)} {k : κ} {v : β} (h : mhas m k = true) : mput m k v = m.map (fun p => if p.1 = k then (p.1, v) else p) := by
  unfold mput
  have h' : (m.any fun p => decide (p.1 = k)) = true := h
  rw [h', if_pos rfl]
theorem mput_length {m : List (κ × β)} {k : κ} {v : β} : (mput m k v).length = m.length + if mhas m k = true then 0 else 1 := by
  cases h : mhas m k with
  | false =>
    rw [mput_new h, List.length_append]
    rfl
  | true =>
    rw [mput_old h, List.length_map]
    rfl
theorem po_mput {δ : Type} {m : List (κ × β)} {k : κ} {v : β} {f : List (κ × β) → R δ} {S : δ → Prop} {X : Exn → Prop} (h : m.length < 100000) (hk : Post (f (mput m k v)) S X) : Post (mputR m k v >>= f) S X := by
  unfold mputR
  rw [if_pos h]
  exact hk
end
end Z
/-! ZG: webs: joined, how far; no program in sight -/
namespace Z
open PySem L2
/-! ### more steps -/
section
variable {α β γ δ : Type} {P Q : α → Prop} {S : β → Prop} {X : Exn → Prop}
/-- a fold, by what is gone through -/
theorem po_foldP {f : β → α → R β} {s : β} {xs : List α} (I : List α → β → Prop) (h0 : I [] s) (hf : ∀ pre s x post, xs = pre ++ x :: post → I pre s → Post (f s x) (I (pre ++ [x])) X) : Post (foldR f s xs) (I xs) X := by
  have key : ∀ (l pre : List α) (s : β), xs = pre ++ l → I pre s → Post (foldR f s l) (I xs) X := by
    intro l
    induction l with
    | nil =>
      intro pre s e h
      rw [List.append_nil] at e
      rw [e]
      exact h
    | cons x l ih =>
      intro pre s e h
      show Post (f s x >>= fun s' => foldR f s' l) _ X
      exact po_bind (hf pre s x l e h) fun s' h' => ih (pre ++ [x]) s' (by rw [e, List.append_assoc]; rfl) h'
  exact key xs [] s rfl h0
/-- items for items with a state, by what is made -/
theorem po_mapStA {f : γ → α → R (β × γ)} {s : γ} {xs : List α} (I : List α → List β → γ → Prop) (hl : xs.length < 100000) (h0 : I [] [] s)
    (hf : ∀ pre acc s x post, xs = pre ++ x :: post → I pre acc s → Post (f s x) (fun r => I (pre ++ [x]) (acc ++ [r.1]) r.2) X) : Post (mapStG f s xs) (fun r => I xs r.1 r.2) X := by
  unfold mapStG
  rw [grd_t (decide_eq_true hl), ok_bind]
  have key : ∀ (l pre : List α) (acc : List β) (s : γ), xs = pre ++ l → I pre acc s → Post (mapSt f s l) (fun r => I xs (acc ++ r.1) r.2) X := by
    intro l
    induction l with
    | nil =>
      intro pre acc s e h
      rw [List.append_nil] at e
      show I xs (acc ++ []) s
      rw [List.append_nil, e]
      exact h
    | cons x l ih =>
      intro pre acc s e h
      refine po_bind (hf pre acc s x l e h) fun r hr => po_bind (ih (pre ++ [x]) (acc ++ [r.1]) r.2 (by rw [e, List.append_assoc]; rfl) hr) fun q hq => ?_
      show I xs (acc ++ (r.1 :: q.1)) q.2
      rw [List.append_assoc] at hq
      exact hq
  exact key xs [] [] s rfl h0
theorem po_mapGE {f : α → R β} {g : α → β} {xs : List α} {k : List β → R γ} {T : γ → Prop} (hl : xs.length < 100000) (h : ∀ x ∈ xs, f x = R.ok (g x)) (hk : Post (k (xs.map g)) T X) : Post (mapG f xs >>= k) T X := by
  rw [mapG_ok hl h]
  exact hk
theorem po_filGE {f : α → R (Option β)} {g : α → Option β} {xs : List α} {k : List β → R γ} {T : γ → Prop} (hl : xs.length < 100000) (h : ∀ x ∈ xs, f x = R.ok (g x)) (hk : Post (k (xs.filterMap g)) T X) : Post (filG f xs >>= k) T X := by
  rw [filG_ok hl h]
  exact hk
/-- a while: an invariant, a measure -/
theorem po_while {c : γ → R Bool} {b : γ → R γ} {T : γ → Prop} (I : γ → Prop) (μ : γ → Nat)
    (hs : ∀ s, I s → Post (c s) (fun t => (t = true → Post (b s) (fun s' => I s' ∧ μ s' < μ s) X) ∧ (t = false → T s)) X) : ∀ {n : Nat} {s : γ}, I s → μ s < n → Post (whileR c b n s) T X
  | 0, s, _, h => absurd h (Nat.not_lt_zero _)
  | n + 1, s, hi, h => by
    refine po_bind (hs s hi) fun t ⟨h1, h2⟩ => ?_
    cases t with
    | false => exact h2 rfl
    | true => exact po_bind (h1 rfl) fun s' ⟨a, d⟩ => po_while I μ hs a (by omega)
theorem po_getS {st : List (List α)} {j : Nat} {xs : List α} {k : List α → R γ} {T : γ → Prop} (h : st[j]? = some xs) (hk : Post (k xs) T X) : Post (getS st j >>= k) T X := by
  unfold getS
  rw [h]
  exact hk
theorem po_setS {st : List (List α)} {j : Nat} {xs : List α} {k : List (List α) → R γ} {T : γ → Prop} (hk : Post (k (st.set j xs)) T X) : Post (setS st j xs >>= k) T X := hk
theorem po_newS {st : List (List α)} {xs : List α} {k : Nat × List (List α) → R γ} {T : γ → Prop} (hk : Post (k (st.length, st ++ [xs])) T X) : Post (newS st xs >>= k) T X := hk
theorem po_listRng {i j : Int} {k : List Int → R γ} {T : γ → Prop} (h1 : -(2 ^ 62) ≤ i) (h2 : i < 2 ^ 62) (h3 : -(2 ^ 62) ≤ j) (h4 : j < 2 ^ 62) (h5 : (j - i).toNat ≤ 100000) (hk : Post (k (rng i j)) T X) : Post (listRng i j >>= k) T X := by
  unfold listRng
  rw [if_pos ⟨h1, h2, h3, h4, h5⟩]
  exact hk
theorem po_rep {xs : List α} {i : Int} {k : List α → R γ} {T : γ → Prop} (h1 : 0 ≤ i) (h2 : i < 1000) (h3 : xs.length < 100) (hk : Post (k (repL xs i)) T X) : Post (repR xs i >>= k) T X := by
  unfold repR
  have h4 : xs.length * i.toNat ≤ 100 * 1000 := Nat.mul_le_mul (by omega) (by omega)
  have h5 : xs.length * i.toNat < 100000 := by
    have h6 : xs.length * i.toNat ≤ 99 * 999 := Nat.mul_le_mul (by omega) (by omega)
    omega
  rw [if_pos ⟨by omega, by omega, h5⟩]
  exact hk
theorem po_ofO {o : Option α} {x : α} {k : α → R γ} {T : γ → Prop} (h : o = some x) (hk : Post (k x) T X) : Post (ofO o >>= k) T X := by
  rw [h]
  exact hk
theorem po_mgetE {κ : Type} [DecidableEq κ] {m : List (κ × α)} {j : κ} {x : α} {k : α → R γ} {T : γ → Prop} (h : mget m j = some x) (hk : Post (k x) T X) : Post (mgetR m j >>= k) T X := po_ofO h hk
end
theorem rng_len {n : Int} (h : 0 ≤ n) : ((rng 0 n).length : Int) = n := by
  rw [rng_length]
  omega
theorem rng_atE {i j : Int} {k : Nat} (h : k < (j - i).toNat) : (rng i j)[k]? = some (i + k) := rng_get h
theorem rng_nodup (i j : Int) : (rng i j).Nodup := by
  unfold rng
  refine List.Pairwise.map _ (fun a b h => ?_) List.nodup_range
  intro e
  exact h (by omega)
theorem rng_pre {i j x : Int} {pre post : List Int} (h : rng i j = pre ++ x :: post) : x = i + pre.length := by
  have h1 : (rng i j)[pre.length]? = some x := by rw [h]; simp
  have hl : pre.length < (rng i j).length := by rw [h]; simp
  rw [rng_length] at hl
  rw [rng_atE hl] at h1
  cases h1
  rfl
theorem rng_split {i j x : Int} {pre post : List Int} (h : rng i j = pre ++ x :: post) : pre = rng i x ∧ i ≤ x ∧ x < j := by
  have e := rng_pre h
  have hl : (rng i j).length = pre.length + (post.length + 1) := by rw [h]; simp
  rw [rng_length] at hl
  refine ⟨?_, by omega, by omega⟩
  apply List.ext_getElem?
  intro k
  by_cases hk : k < pre.length
  · have h1 : (rng i j)[k]? = pre[k]? := by rw [h, List.getElem?_append_left hk]
    rw [← h1, rng_atE (by omega), rng_atE (by omega)]
  · rw [List.getElem?_eq_none (by omega), List.getElem?_eq_none (by rw [rng_length]; omega)]
/-! ### joined -/
def Adj (ts : List (Int × Int)) (a b : Int) : Prop := (a, b) ∈ ts ∨ (b, a) ∈ ts
theorem Adj.symm {ts : List (Int × Int)} {a b : Int} (h : Adj ts a b) : Adj ts b a := h.elim .inr .inl
/-- what holds of a place and goes along all ties holds of all places -/
def Conn (n : Int) (ts : List (Int × Int)) : Prop := ∀ S : Int → Prop, S 0 → (∀ p ∈ ts, S p.1 ↔ S p.2) → ∀ k, 0 ≤ k → k < n → S k
theorem Conn.any {n : Int} {ts : List (Int × Int)} (h : Conn n ts) {S : Int → Prop} {r : Int} (r0 : 0 ≤ r) (r1 : r < n) (hr : S r) (hc : ∀ p ∈ ts, S p.1 ↔ S p.2) : ∀ k, 0 ≤ k → k < n → S k := by
  by_cases h0 : S 0
  · exact h S h0 hc
  · exact absurd hr (h (fun k => ¬ S k) h0 (fun p hp => not_congr (hc p hp)) r r0 r1)
theorem Conn.mono {n : Int} {ts us : List (Int × Int)} (h : Conn n ts) (hs : ∀ p ∈ ts, p ∈ us) : Conn n us := fun S h0 hc => h S h0 fun p hp => hc p (hs p hp)
theorem conn_tree {n : Int} {ts : List (Int × Int)} (h : ∀ k, 1 ≤ k → k < n → ∃ j, 0 ≤ j ∧ j < k ∧ Adj ts j k) : Conn n ts := by
  intro S h0 hc
  have key : ∀ (m : Nat) (k : Int), k.toNat ≤ m → 0 ≤ k → k < n → S k := by
    intro m
    induction m with
    | zero =>
      intro k hk k0 _
      rw [show k = 0 by omega]
      exact h0
    | succ m ih =>
      intro k hk k0 k1
      by_cases hz : k = 0
      · rw [hz]; exact h0
      · obtain ⟨j, j0, jk, hj⟩ := h k (by omega) k1
        have hj' := ih j (by omega) j0 (by omega)
        rcases hj with hj | hj
        · exact (hc _ hj).mp hj'
        · exact (hc _ hj).mpr hj'
  exact fun k k0 k1 => key k.toNat k (Nat.le_refl _) k0 k1
/-! ### how far -/
structure IsDist (n : Int) (ts : List (Int × Int)) (p : Int) (f : Int → Int) : Prop where
  zero : f p = 0
  nn : ∀ v, 0 ≤ v → v < n → 0 ≤ f v
  lip : ∀ a b, Adj ts a b → f b ≤ f a + 1
  desc : ∀ v, 0 ≤ v → v < n → v ≠ p → ∃ w, 0 ≤ w ∧ w < n ∧ Adj ts w v ∧ f w + 1 = f v
theorem IsDist.le {n : Int} {ts : List (Int × Int)} {p : Int} {f g : Int → Int} (hf : IsDist n ts p f) (hg : IsDist n ts p g) : ∀ v, 0 ≤ v → v < n → f v ≤ g v := by
  have key : ∀ (m : Nat) (v : Int), (g v).toNat ≤ m → 0 ≤ v → v < n → f v ≤ g v := by
    intro m
    induction m with
    | zero =>
      intro v hm v0 v1
      by_cases hv : v = p
      · rw [hv, hf.zero, hg.zero]; exact Int.le_refl _
      · obtain ⟨w, w0, w1, _, e⟩ := hg.desc v v0 v1 hv
        have := hg.nn w w0 w1
        omega
    | succ m ih =>
      intro v hm v0 v1
      by_cases hv : v = p
      · rw [hv, hf.zero, hg.zero]; exact Int.le_refl _
      · obtain ⟨w, w0, w1, ha, e⟩ := hg.desc v v0 v1 hv
        have h1 := hg.nn w w0 w1
        have h2 := ih w (by omega) w0 w1
        have h3 := hf.lip w v ha
        omega
  exact fun v v0 v1 => key _ v (Nat.le_refl _) v0 v1
theorem IsDist.uniq {n : Int} {ts : List (Int × Int)} {p : Int} {f g : Int → Int} (hf : IsDist n ts p f) (hg : IsDist n ts p g) (v : Int) (v0 : 0 ≤ v) (v1 : v < n) : f v = g v :=
  Int.le_antisymm (hf.le hg v v0 v1) (hg.le hf v v0 v1)
theorem IsDist.level {n : Int} {ts : List (Int × Int)} {p : Int} {f : Int → Int} (hf : IsDist n ts p f) : ∀ (m : Nat) (v : Int), 0 ≤ v → v < n → (f v).toNat = m → ∀ k : Nat, k ≤ m → ∃ w, 0 ≤ w ∧ w < n ∧ f w = k := by
  intro m
  induction m with
  | zero =>
    intro v v0 v1 e k hk
    have := hf.nn v v0 v1
    exact ⟨v, v0, v1, by omega⟩
  | succ m ih =>
    intro v v0 v1 e k hk
    have hv := hf.nn v v0 v1
    by_cases hk2 : k = m + 1
    · exact ⟨v, v0, v1, by omega⟩
    · have hne : v ≠ p := by
        intro e2
        rw [e2, hf.zero] at e
        simp at e
      obtain ⟨w, w0, w1, _, e2⟩ := hf.desc v v0 v1 hne
      exact ih w w0 w1 (by omega) k (by omega)
/-- no place is as far as there are places -/
theorem IsDist.lt {n : Int} {ts : List (Int × Int)} {p : Int} {f : Int → Int} (hf : IsDist n ts p f) (v : Int) (v0 : 0 ≤ v) (v1 : v < n) : f v < n := by
  have hv := hf.nn v v0 v1
  have hl := hf.level _ v v0 v1 rfl
  have key : ∀ m : Nat, m ≤ (f v).toNat + 1 → ∃ ws : List Int, ws.length = m ∧ ws.Nodup ∧ (∀ w ∈ ws, w ∈ rng 0 n ∧ f w < m) := by
    intro m
    induction m with
    | zero => exact fun _ => ⟨[], rfl, List.nodup_nil, fun _ h => nomatch h⟩
    | succ m ih =>
      intro hm
      obtain ⟨ws, h1, h2, h3⟩ := ih (by omega)
      obtain ⟨w, w0, w1, e⟩ := hl m (by omega)
      refine ⟨w :: ws, by rw [List.length_cons, h1], List.nodup_cons.mpr ⟨fun h => ?_, h2⟩, fun u hu => ?_⟩
      · have := (h3 w h).2
        omega
      · rcases List.mem_cons.mp hu with rfl | hu
        · exact ⟨rng_mem.mpr ⟨w0, w1⟩, by omega⟩
        · have := h3 u hu
          exact ⟨this.1, by omega⟩
  obtain ⟨ws, h1, h2, h3⟩ := key _ (Nat.le_refl _)
  have := nodup_le h2 fun w hw => (h3 w hw).1
  rw [h1, rng_length] at this
  omega
/-- how far places are from one, in a web that hangs together -/
noncomputable def dst (n : Int) (ts : List (Int × Int)) (p : Int) : Int → Int := by
  classical
  exact if h : ∃ f, IsDist n ts p f then Classical.choose h else fun _ => 0
theorem dst_is {n : Int} {ts : List (Int × Int)} {p : Int} {f : Int → Int} (h : IsDist n ts p f) : IsDist n ts p (dst n ts p) := by
  have e : ∃ f, IsDist n ts p f := ⟨f, h⟩
  unfold dst
  rw [dif_pos e]
  exact Classical.choose_spec e
theorem dst_eq {n : Int} {ts : List (Int × Int)} {p : Int} {f : Int → Int} (h : IsDist n ts p f) (v : Int) (v0 : 0 ≤ v) (v1 : v < n) : f v = dst n ts p v := h.uniq (dst_is h) v v0 v1
/-! ### there is a distance -/
inductive Rch (ts : List (Int × Int)) (p : Int) : Nat → Int → Prop
  | here : Rch ts p 0 p
  | step {k : Nat} {a b : Int} : Rch ts p k a → Adj ts a b → Rch ts p (k + 1) b
theorem least {P : Nat → Prop} (h : ∃ k, P k) : ∃ k, P k ∧ ∀ j, j < k → ¬ P j := by
  obtain ⟨k, hk⟩ := h
  induction k using Nat.strongRecOn with
  | _ k ih =>
    by_cases q : ∃ j, j < k ∧ P j
    · obtain ⟨j, h1, h2⟩ := q
      exact ih j h1 h2
    · exact ⟨k, hk, fun j hj hp => q ⟨j, hj, hp⟩⟩
theorem conn_ex {n : Int} {ts : List (Int × Int)} {p : Int} (hr : ∀ q ∈ ts, 0 ≤ q.1 ∧ q.1 < n ∧ 0 ≤ q.2 ∧ q.2 < n) (hc : Conn n ts) (p0 : 0 ≤ p) (p1 : p < n) : IsDist n ts p (dst n ts p) := by
  classical
  have all : ∀ v, 0 ≤ v → v < n → ∃ k, Rch ts p k v := hc.any (S := fun v => ∃ k, Rch ts p k v) p0 p1 ⟨0, .here⟩ fun q hq => ⟨fun ⟨k, h⟩ => ⟨k + 1, h.step (.inl hq)⟩, fun ⟨k, h⟩ => ⟨k + 1, h.step (.inr hq)⟩⟩
  have adj : ∀ a b, Adj ts a b → (0 ≤ a ∧ a < n) ∧ (0 ≤ b ∧ b < n) := fun a b h => by
    rcases h with h | h
    · have := hr _ h
      exact ⟨⟨this.1, this.2.1⟩, ⟨this.2.2.1, this.2.2.2⟩⟩
    · have := hr _ h
      exact ⟨⟨this.2.2.1, this.2.2.2⟩, ⟨this.1, this.2.1⟩⟩
  have key : ∀ v, ∃ d : Int, 0 ≤ d ∧ (0 ≤ v → v < n → ∃ k : Nat, d = k ∧ Rch ts p k v ∧ ∀ j, j < k → ¬ Rch ts p j v) := fun v => by
    by_cases hv : 0 ≤ v ∧ v < n
    · obtain ⟨k, h1, h2⟩ := least (all v hv.1 hv.2)
      exact ⟨k, by omega, fun _ _ => ⟨k, rfl, h1, h2⟩⟩
    · exact ⟨0, Int.le_refl 0, fun a b => absurd ⟨a, b⟩ hv⟩
  have hf : ∃ f : Int → Int, ∀ v, 0 ≤ f v ∧ (0 ≤ v → v < n → ∃ k : Nat, f v = k ∧ Rch ts p k v ∧ ∀ j, j < k → ¬ Rch ts p j v) := ⟨fun v => Classical.choose (key v), fun v => Classical.choose_spec (key v)⟩
  obtain ⟨f, hf⟩ := hf
  have lip : ∀ a b, Adj ts a b → f b ≤ f a + 1 := fun a b h => by
    obtain ⟨⟨a0, a1⟩, ⟨b0, b1⟩⟩ := adj a b h
    obtain ⟨k, e1, h1, _⟩ := (hf a).2 a0 a1
    obtain ⟨j, e2, _, h2⟩ := (hf b).2 b0 b1
    have : ¬ k + 1 < j := fun q => h2 (k + 1) q (h1.step h)
    omega
  refine dst_is (f := f) ⟨?_, fun v _ _ => (hf v).1, lip, fun v v0 v1 hne => ?_⟩
  · obtain ⟨k, e, _, h2⟩ := (hf p).2 p0 p1
    have : ¬ 0 < k := fun q => h2 0 q .here
    omega
  · obtain ⟨k, e, h1, h2⟩ := (hf v).2 v0 v1
    cases h1 with
    | here => exact absurd rfl hne
    | step h3 h4 =>
      rename_i j w
      obtain ⟨⟨w0, w1⟩, _⟩ := adj _ _ h4
      refine ⟨w, w0, w1, h4, ?_⟩
      obtain ⟨i, e2, _, h5⟩ := (hf w).2 w0 w1
      have h6 : ¬ j < i := fun q => h5 j q h3
      have := lip w v h4
      omega
end Z
/-! ZN: dicts as lists of pairs -/
namespace Z
open PySem L2
section
variable {κ β γ : Type} [DecidableEq κ]
def mkeys (m : List (κ × β)) : List κ := m.map (·.1)
theorem mget_nil (j : κ) : mget ([] : List (κ × β)) j = none := rfl
theorem mget_cons (p : κ × β) (m : List (κ × β)) (j : κ) : mget (p :: m) j = if p.1 = j then some p.2 else mget m j := by
  unfold mget
  by_cases h : p.1 = j
  · rw [List.find?_cons_of_pos (by simpa using h), if_pos h]
    rfl
  · rw [List.find?_cons_of_neg (by simpa using h), if_neg h]
theorem mget_append (m m' : List (κ × β)) (j : κ) : mget (m ++ m') j = (mget m j).or (mget m' j) := by
  induction m with
  | nil => rfl
  | cons p m ih =>
    rw [List.cons_append, mget_cons, mget_cons, ih]
    by_cases h : p.1 = j
    · rw [if_pos h, if_pos h]; rfl
    · rw [if_neg h, if_neg h]
theorem mhas_mget (m : List (κ × β)) (j : κ) : mhas m j = (mget m j).isSome := by
  unfold mhas mget
  rw [Option.isSome_map, List.isSome_find?]
theorem mhas_keys {m : List (κ × β)} {j : κ} : mhas m j = true ↔ j ∈ mkeys m := by
  rw [mhas_iff]
  unfold mkeys
  rw [List.mem_map]
theorem mget_mput (m : List (κ × β)) (k : κ) (v : β) (j : κ) : mget (mput m k v) j = if j = k then some v else mget m j := by
  cases h : mhas m k with
  | false =>
    rw [mput_new h, mget_append, mget_cons, mget_nil]
    by_cases e : j = k
    · subst e
      rw [if_pos rfl, if_pos rfl]
      rw [mhas_mget] at h
      cases q : mget m j with
      | none => rfl
      | some x => rw [q] at h; cases h
    · rw [if_neg (fun q => e q.symm), if_neg e]
      cases mget m j <;> rfl
  | true =>
    rw [mput_old h]
    by_cases e : j = k
    · subst e
      rw [if_pos rfl]
      induction m with
      | nil => cases h
      | cons p m ih =>
        rw [List.map_cons, mget_cons]
        by_cases q : p.1 = j
        · rw [if_pos q, if_pos q]
        · rw [if_neg q, if_neg q]
          refine ih ?_
          rw [mhas_mget, mget_cons, if_neg q, ← mhas_mget] at h
          exact h
    · rw [if_neg e]
      clear h
      induction m with
      | nil => rfl
      | cons p m ih =>
        rw [List.map_cons, mget_cons, mget_cons, ih]
        by_cases q : p.1 = k
        · rw [if_pos q, if_neg (by rw [q]; exact fun z => e z.symm), if_neg (by rw [q]; exact fun z => e z.symm)]
        · rw [if_neg q]
theorem mkeys_mput (m : List (κ × β)) (k : κ) (v : β) : mkeys (mput m k v) = if k ∈ mkeys m then mkeys m else mkeys m ++ [k] := by
  cases h : mhas m k with
  | false =>
    rw [mput_new h, if_neg (fun q => by rw [mhas_keys.mpr q] at h; cases h)]
    unfold mkeys
    rw [List.map_append]
    rfl
  | true =>
    rw [mput_old h, if_pos (mhas_keys.mp h)]
    unfold mkeys
    rw [List.map_map]
    refine List.map_congr_left fun p _ => ?_
    show (if p.1 = k then (p.1, v) else p).1 = p.1
    split <;> rfl
theorem mkeys_nodup {m : List (κ × β)} {k : κ} {v : β} (h : (mkeys m).Nodup) : (mkeys (mput m k v)).Nodup := by
  rw [mkeys_mput]
  split
  · exact h
  · rename_i q
    rw [List.nodup_append]
    refine ⟨h, by simp, fun a ha c hc e => ?_⟩
    rw [List.mem_singleton] at hc
    rw [e, hc] at ha
    exact q ha
theorem mkeys_length (m : List (κ × β)) : (mkeys m).length = m.length := List.length_map _
end
end Z
namespace G
open PySem L2 Z
open Rep (rep)
open RepL (repTs)
def top (i : Nat) : Stmt := PySem.Challenge.pw_farhail_k61_whole_hunts_and_shelters_pla.main.body.getD i (.Pass ⟨0, 0, 0, 0⟩)
abbrev s_near_lists : Stmt := top 10
abbrev s_fars_by : Stmt := top 11
abbrev s_sorted_ties : Stmt := top 12
abbrev s_made_web : Stmt := top 13
abbrev s_place_asked : Stmt := top 14
abbrev s_neighbours_of : Stmt := top 15
abbrev s_fars_from : Stmt := top 16
abbrev s_few_places : Stmt := top 20
abbrev s_table_by : Stmt := top 21
abbrev s_looks_of : Stmt := top 22
abbrev s_gone_on : Stmt := top 23
abbrev s_next_standings : Stmt := top 24
abbrev s_all_standings : Stmt := top 25
abbrev s_hunt_or_shelter : Stmt := top 27
abbrev s_table_of : Stmt := top 29
abbrev s_looks_asked : Stmt := top 30
abbrev s_thing_asked : Stmt := top 31
abbrev s_far_by : Stmt := top 32
abbrev s_code_of : Stmt := top 33
abbrev s_law_cell_at : Stmt := top 35
abbrev s_law_folded : Stmt := top 36
abbrev s_law_state : Stmt := top 37
abbrev s_law_next : Stmt := top 38
abbrev s_law_web : Stmt := top 39
abbrev s_law_moved : Stmt := top 40
abbrev s_law_parts : Stmt := top 41
abbrev s_law_row : Stmt := top 42
abbrev s_law_by_turns : Stmt := top 43
abbrev s_law_hunted : Stmt := top 44
abbrev s_law_hidden : Stmt := top 45
abbrev s_law : Stmt := top 46
abbrev s_Hunting_init : Stmt := inClass (top 26) 0
abbrev s_Hunting_found_by : Stmt := inClass (top 26) 1
abbrev s_Hunting_fill : Stmt := inClass (top 26) 2
abbrev s_Hunting_hunt : Stmt := inClass (top 26) 3
abbrev HuntingF : Type := (List (List Int)) × (FzT (List ((Tup Int) × (List (Tup Int))))) × (List ((Tup Int) × Int)) × (List ((Tup Int) × (Tup Int))) × Unit
theorem fl_Hunting_fars (u0 u1 u2 u3 : V) : (mkfs [("fars" : Str), ("ways" : Str), ("turns" : Str), ("looks" : Str)] [u0, u1, u2, u3]).lookup ("fars" : Str) = some u0 := by kernel_rfl
theorem fl_Hunting_ways (u0 u1 u2 u3 : V) : (mkfs [("fars" : Str), ("ways" : Str), ("turns" : Str), ("looks" : Str)] [u0, u1, u2, u3]).lookup ("ways" : Str) = some u1 := by kernel_rfl
theorem fl_Hunting_turns (u0 u1 u2 u3 : V) : (mkfs [("fars" : Str), ("ways" : Str), ("turns" : Str), ("looks" : Str)] [u0, u1, u2, u3]).lookup ("turns" : Str) = some u2 := by kernel_rfl
theorem fl_Hunting_looks (u0 u1 u2 u3 : V) : (mkfs [("fars" : Str), ("ways" : Str), ("turns" : Str), ("looks" : Str)] [u0, u1, u2, u3]).lookup ("looks" : Str) = some u3 := by kernel_rfl
theorem fm0_Hunting_found_by (u0 u1 u2 u3 : V) : (mkfs [("fars" : Str), ("ways" : Str), ("turns" : Str), ("looks" : Str)] [u0, u1, u2, u3]).lookup ("found_by" : Str) = none := by kernel_rfl
theorem fm0_Hunting_fill (u0 u1 u2 u3 : V) : (mkfs [("fars" : Str), ("ways" : Str), ("turns" : Str), ("looks" : Str)] [u0, u1, u2, u3]).lookup ("fill" : Str) = none := by kernel_rfl
theorem fm0_Hunting_hunt (u0 u1 u2 u3 : V) : (mkfs [("fars" : Str), ("ways" : Str), ("turns" : Str), ("looks" : Str)] [u0, u1, u2, u3]).lookup ("hunt" : Str) = none := by kernel_rfl
abbrev names : List Str := ["TooMany"]
/-! ### the mirrors -/
/-! near_lists -/
def near_lists (x_web : (Int × (Tup (Int × Int)))) : R (List (List Int)) := do
  let l5 ← rngI 0 x_web.1
  let l6 ← mapStG (fun (g6 : (List (List Int))) (b6 : Int) => do
      let r10 ← newS g6 ([] : (List Int))
      R.ok (r10.1, r10.2)) ([] : List (List Int)) l5
  let g12 ← foldR (fun (g12 : (List (List Int))) (b12 : (Int × Int)) => do
      let t16 ← getI l6.1 b12.1
      let x18 ← getS g12 t16
      let l19 ← app x18 b12.2
      let r19 ← setS g12 t16 l19
      let t20 ← getI l6.1 b12.2
      let x22 ← getS r19 t20
      let l23 ← app x22 b12.1
      let r23 ← setS r19 t20 l23
      R.ok r23) l6.2 x_web.2.l
  let l24 ← mapG (fun (b24 : Ix) => do
      let x28 ← getS g12 b24
      R.ok (sortI x28)) l6.1
  R.ok l24
/-! fars_by -/
def fars_by (x_near : (List (List Int))) (x_place : Int) : R (List (Option Int)) := do
  let l5 ← repR ([none] : (List (Option Int))) (x_near.length : Int)
  let l9 ← setI l5 x_place (some (0 : Int))
  let g15 ← whileR (fun (g15 : Int × (List Int) × (List (Option Int))) => do
      R.ok (decide (g15.1 < (g15.2.1.length : Int)))) (fun (g15 : Int × (List Int) × (List (Option Int))) => do
      let t17 ← getI g15.2.1 g15.1
      let t18 ← getI x_near t17
      let g16 ← foldR (fun (g16 : (List Int) × (List (Option Int))) (b16 : Int) => do
          let t22 ← getI g16.2 b16
          if t22.isNone = true then do
            let t26 ← getI g16.1 g15.1
            let t27 ← getI g16.2 t26
            let t29 ← ofO t27
            let l30 ← setI g16.2 b16 (some (t29 + (1 : Int)))
            let l32 ← app g16.1 b16
            R.ok (l32, l30)
          else do
            R.ok (g16.1, g16.2)) (g15.2.1, g15.2.2) t18
      R.ok ((g15.1 + (1 : Int)), g16.1, g16.2)) (fu 1000) ((0 : Int), ([x_place] : (List Int)), l9)
  R.ok g15.2.2
/-! sorted_ties -/
def sorted_ties (x_many : Int) (x_ties : (List (Int × Int))) : R (Tup (Int × Int)) := do
  let g5 ← foldR (fun (g5 : (List (Int × Int))) (b5 : (Int × Int)) => do
      if ((decide ((min2 b5.1 b5.2) < (0 : Int))) || ((decide (x_many ≤ (max2 b5.1 b5.2))) || ((decide (b5.1 = b5.2)) || (inB ((min2 b5.1 b5.2), (max2 b5.1 b5.2)) g5)))) = true then do
        R.bad
      else do
        let l20 ← app g5 ((min2 b5.1 b5.2), (max2 b5.1 b5.2))
        R.ok l20) ([] : (List (Int × Int))) x_ties
  R.ok (Tup.mk (sortP g5))
/-! made_web -/
def made_web (x_many : Int) (x_ties : (List (Int × Int))) : R (Int × (Tup (Int × Int))) := do
  if (!((decide ((1 : Int) ≤ x_many)) && (decide (x_many ≤ (60 : Int))))) = true then do
    R.bad
  else do
    let y9 ← sorted_ties x_many x_ties
    let y13 ← near_lists (x_many, y9)
    let y15 ← fars_by y13 (0 : Int)
    let l19 ← rngI 0 x_many
    let g18 ← foldR (fun (g18 : Unit) (b18 : Int) => do
        let t21 ← getI y15 b18
        if t21.isNone = true then do
          R.bad
        else do
          R.ok ()) () l19
    R.ok (x_many, y9)
/-! place_asked -/
def place_asked (x_web : (Int × (Tup (Int × Int)))) (x_place : Int) : R Unit := do
  if (!((decide ((0 : Int) ≤ x_place)) && (decide (x_place < x_web.1)))) = true then do
    R.bad
  else do
    R.ok ()
/-! neighbours_of -/
def neighbours_of (x_web : (Int × (Tup (Int × Int)))) (x_place : Int) : R (List Int) := do
  let y4 ← place_asked x_web x_place
  let y5 ← near_lists x_web
  let t7 ← getI y5 x_place
  R.ok t7
/-! fars_from -/
def fars_from (x_web : (Int × (Tup (Int × Int)))) (x_place : Int) : R (List Int) := do
  let y4 ← place_asked x_web x_place
  let y5 ← near_lists x_web
  let y7 ← fars_by y5 x_place
  let l9 ← allS y7
  R.ok l9
/-! few_places -/
def few_places (x_web : (Int × (Tup (Int × Int)))) : R Unit := do
  if (!((decide ((2 : Int) ≤ x_web.1)) && (decide (x_web.1 ≤ (7 : Int))))) = true then do
    R.bad
  else do
    R.ok ()
/-! table_by -/
def table_by (x_web : (Int × (Tup (Int × Int)))) : R (List (List Int)) := do
  let l3 ← rngI 0 x_web.1
  let l4 ← mapG (fun (b4 : Int) => do
      let y6 ← fars_from x_web b4
      R.ok y6) l3
  R.ok l4
/-! looks_of -/
def looks_of (x_places : Int) (x_many : Int) : R (List (Tup Int)) := do
  let l8 ← rngI 0 x_places
  let g7 ← foldR (fun (g7 : (List (Tup Int))) (b7 : Int) => do
      let l10 ← filG (fun (b10 : (Tup Int)) => do
          if (decide ((b10.l.length : Int) < x_many)) = true then do
            let l17 ← extend b10.l (Tup.mk [b7] : (Tup Int)).l
            R.ok (some (Tup.mk l17 : (Tup Int)))
          else
            R.ok none) g7
      let l19 ← extend g7 l10
      R.ok l19) ([(Tup.mk [] : (Tup Int))] : (List (Tup Int))) l8
  let l24 ← filG (fun (b24 : (Tup Int)) => do
      if (decide ((b24.l.length : Int) = (min2 x_many x_places))) = true then do
        R.ok (some b24)
      else
        R.ok none) g7
  R.ok l24
/-! gone_on -/
def gone_on (x_fars : (List (List Int))) (x_part : (List Int)) : R (Tup Int) := do
  let l3 ← rngI 0 (x_fars.length : Int)
  let l4 ← filG (fun (b4 : Int) => do
      let l6 ← mapG (fun (b6 : Int) => do
          let t9 ← getI x_fars b4
          let t11 ← getI t9 b6
          R.ok (decide (t11 < (2 : Int)))) x_part
      if (l6.any id) = true then do
        R.ok (some b4)
      else
        R.ok none) l3
  R.ok (Tup.mk l4)
/-! next_standings -/
def next_standings (x_fars : (List (List Int))) (x_standing : (Tup Int)) (x_looks : (Tup Int)) : R (List (Tup Int)) := do
  let g7 ← foldR (fun (g7 : (List ((Tup Int) × Ix)) × (List (List Int))) (b7 : Int) => do
      let l9 ← mapG (fun (b9 : Int) => do
          let t12 ← getI x_fars b9
          let t14 ← getI t12 b7
          R.ok t14) x_looks.l
      let r20 ← newS g7.2 ([] : (List Int))
      let l21 ← msetdR g7.1 (Tup.mk l9) r20.1
      let t21 ← mgetR l21 (Tup.mk l9)
      let x24 ← getS r20.2 t21
      let l25 ← app x24 b7
      let r25 ← setS r20.2 t21 l25
      R.ok (l21, r25)) (([] : (List ((Tup Int) × Ix))), ([] : List (List Int))) x_standing.l
  let l27 ← derefT g7.2 g7.1
  let l29 ← filG (fun (b29 : (List Int)) => do
      if (decide ((1 : Int) < (b29.length : Int))) = true then do
        let y34 ← gone_on x_fars b29
        R.ok (some y34)
      else
        R.ok none) (l27.map (·.2))
  R.ok l29
/-! all_standings -/
def all_standings (x_places : Int) : R (List (Tup Int)) := do
  let l8 ← rngI 0 x_places
  let g7 ← foldR (fun (g7 : (List (Tup Int))) (b7 : Int) => do
      let l10 ← mapG (fun (b10 : (Tup Int)) => do
          let l16 ← extend b10.l (Tup.mk [b7] : (Tup Int)).l
          R.ok (Tup.mk l16 : (Tup Int))) g7
      let l18 ← extend g7 l10
      R.ok l18) ([(Tup.mk [] : (Tup Int))] : (List (Tup Int))) l8
  let l23 ← filG (fun (b23 : (Tup Int)) => do
      if (decide ((1 : Int) < (b23.l.length : Int))) = true then do
        R.ok (some b23)
      else
        R.ok none) g7
  R.ok l23
/-! Hunting.found_by -/
def Hunting_found_by (x_self : HuntingF) (x_standing : (Tup Int)) : R (Option (Tup Int)) := do
  let t9 ← mgetR x_self.2.1.m x_standing
  let r8 ← foldX (fun (g8 : Unit) (b8 : ((Tup Int) × (List (Tup Int)))) => do
      let l16 ← mapG (fun (b16 : (Tup Int)) => do
          R.ok (mhas x_self.2.2.1 b16)) b8.2
      if (l16.all id) = true then do
        R.ok (.inl (some b8.1))
      else do
        R.ok (.inr (true, ()))) () t9
  match r8 with
  | .inl z => R.ok z
  | .inr g8 => do
    R.ok none
/-! Hunting.fill -/
def Hunting_fill (x_self : HuntingF) : R (Unit × (List ((Tup Int) × Int)) × (List ((Tup Int) × (Tup Int)))) := do
  let g12 ← whileR (fun (g12 : Int × (List An) × (List ((Tup Int) × Int)) × (List ((Tup Int) × (Tup Int)))) => do
      R.ok (decide ((0 : Int) < (g12.2.1.length : Int)))) (fun (g12 : Int × (List An) × (List ((Tup Int) × Int)) × (List ((Tup Int) × (Tup Int)))) => do
      let g20 ← foldR (fun (g20 : (List ((Tup Int) × (Tup Int)))) (b20 : (Tup Int)) => do
          if (!mhas g12.2.2.1 b20) = true then do
            let y30 ← Hunting_found_by (x_self.1, x_self.2.1, g12.2.2.1, g12.2.2.2, ()) b20
            if (!y30.isNone) = true then do
              let t34 ← ofO y30
              let l37 ← app g20 (b20, t34)
              R.ok l37
            else do
              R.ok g20
          else do
            R.ok g20) ([] : (List ((Tup Int) × (Tup Int)))) (x_self.2.1.m.map (·.1))
      let g49 ← foldR (fun (g49 : (List ((Tup Int) × Int)) × (List ((Tup Int) × (Tup Int)))) (b49 : ((Tup Int) × (Tup Int))) => do
          let l55 ← mputR g49.1 b49.1 (g12.1 + (1 : Int))
          let l57 ← mputR g49.2 b49.1 b49.2
          R.ok (l55, l57)) (g12.2.2.1, g12.2.2.2) g20
      R.ok ((g12.1 + (1 : Int)), (g20.map fun _ => An.a), g49.1, g49.2)) (fu 1000) ((0 : Int), ([An.a] : (List An)), x_self.2.2.1, x_self.2.2.2.1)
  R.ok ((), g12.2.2.1, g12.2.2.2)
/-! Hunting.__init__ -/
def Hunting_init (x_web : (Int × (Tup (Int × Int)))) (x_many : Int) : R HuntingF := do
  let y6 ← table_by x_web
  let y13 ← all_standings x_web.1
  let g12 ← foldR (fun (g12 : (List ((Tup Int) × (List ((Tup Int) × (List (Tup Int))))))) (b12 : (Tup Int)) => do
      let y17 ← looks_of x_web.1 x_many
      let l19 ← mapG (fun (b19 : (Tup Int)) => do
          let y23 ← next_standings y6 b12 b19
          R.ok (b19, y23)) y17
      let l28 ← mputR g12 b12 l19
      R.ok l28) ([] : (List ((Tup Int) × (List ((Tup Int) × (List (Tup Int))))))) y13
  let y40 ← Hunting_fill (y6, (FzT.mk g12 : (FzT (List ((Tup Int) × (List (Tup Int)))))), ([] : (List ((Tup Int) × Int))), ([] : (List ((Tup Int) × (Tup Int)))), ())
  R.ok (y6, (FzT.mk g12 : (FzT (List ((Tup Int) × (List (Tup Int)))))), y40.2.1, y40.2.2, ())
/-! Hunting.hunt -/
def Hunting_hunt (x_self : HuntingF) (x_start : (Tup Int)) : R (List (Nt ((Tup Int) × (Tup Int) × Int × Unit))) := do
  let g14 ← whileR (fun (g14 : (List (Tup Int)) × (List (Nt ((Tup Int) × (Tup Int) × Int × Unit)))) => do
      R.ok (decide ((0 : Int) < (g14.1.length : Int)))) (fun (g14 : (List (Tup Int)) × (List (Nt ((Tup Int) × (Tup Int) × Int × Unit)))) => do
      let l16 ← popI g14.1
      let t20 ← mgetR x_self.2.2.2.1 l16.1
      let t23 ← mgetR x_self.2.2.1 l16.1
      if (!inB (Nt.mk (l16.1, t20, t23, ()) : (Nt ((Tup Int) × (Tup Int) × Int × Unit))) g14.2) = true then do
        let t27 ← mgetR x_self.2.2.1 l16.1
        let l29 ← app g14.2 (Nt.mk (l16.1, t20, t27, ()) : (Nt ((Tup Int) × (Tup Int) × Int × Unit)))
        let y31 ← next_standings x_self.1 l16.1 t20
        let l33 ← extend l16.2 y31
        R.ok (l33, l29)
      else do
        R.ok (l16.2, g14.2)) (fu 100000) (([x_start] : (List (Tup Int))), ([] : (List (Nt ((Tup Int) × (Tup Int) × Int × Unit)))))
  R.ok g14.2
/-! hunt_or_shelter -/
def hunt_or_shelter (x_web : (Int × (Tup (Int × Int)))) (x_many : Int) : R Hs := do
  let y4 ← few_places x_web
  let y6 ← Hunting_init x_web x_many
  let l16 ← listRng 0 x_web.1
  if (mhas y6.2.2.1 (Tup.mk l16 : Tup Int)) = true then do
    let y24 ← Hunting_hunt (y6.1, y6.2.1, y6.2.2.1, y6.2.2.2.1, ()) (Tup.mk l16 : Tup Int)
    R.ok (Hs.hunt y24)
  else do
    let l31 ← filG (fun (b31 : (Tup Int)) => do
        if (!mhas y6.2.2.1 b31) = true then do
          R.ok (some b31)
        else
          R.ok none) (y6.2.1.m.map (·.1))
    R.ok (Hs.shelter l31)
/-! table_of -/
def table_of (x_web : (Int × (Tup (Int × Int)))) : R (List (List Int)) := do
  let l3 ← rngI 0 x_web.1
  let l4 ← mapG (fun (b4 : Int) => do
      let y6 ← fars_from x_web b4
      R.ok y6) l3
  R.ok l4
/-! looks_asked -/
def looks_asked (x_web : (Int × (Tup (Int × Int)))) (x_looks : (List Int)) : R Unit := do
  let g4 ← foldR (fun (g4 : Unit) (b4 : (Int × Int)) => do
      let j7 ← (do
        if (!((decide ((0 : Int) ≤ b4.2)) && (decide (b4.2 < x_web.1)))) = true then do
          R.ok true
        else do
          let j14 ← (do
            if (decide ((0 : Int) < b4.1)) = true then do
              let t16 ← getI x_looks (b4.1 - (1 : Int))
              R.ok (decide (b4.2 ≤ t16))
            else do
              R.ok false : R (Bool))
          R.ok j14 : R (Bool))
      if j7 = true then do
        R.bad
      else do
        R.ok ()) () (enum x_looks)
  R.ok ()
/-! thing_asked -/
def thing_asked (x_web : (Int × (Tup (Int × Int)))) (x_thing : Thing) : R Unit := do
  if x_thing.isPl = true then do
    let t7 ← asPl x_thing
    if (!((decide ((0 : Int) ≤ t7)) && (decide (t7 < x_web.1)))) = true then do
      R.bad
    else do
      R.ok ()
  else do
    let t14 ← asTi x_thing
    if (!inB t14 x_web.2.l) = true then do
      R.bad
    else do
      R.ok ()
/-! far_by -/
def far_by (x_table : (List (List Int))) (x_look : Int) (x_thing : Thing) : R Int := do
  if x_thing.isPl = true then do
    let t6 ← asPl x_thing
    let t7 ← getI x_table x_look
    let t9 ← getI t7 t6
    R.ok t9
  else do
    let t10 ← asTi x_thing
    let t12 ← getI x_table x_look
    let t14 ← getI t12 t10.1
    let t15 ← getI x_table x_look
    let t17 ← getI t15 t10.2
    R.ok (min2 t14 t17)
/-! code_of -/
def code_of (x_web : (Int × (Tup (Int × Int)))) (x_looks : (List Int)) (x_thing : Thing) : R (List Int) := do
  let y6 ← looks_asked x_web x_looks
  let y8 ← thing_asked x_web x_thing
  let y10 ← table_of x_web
  let l12 ← mapG (fun (b12 : Int) => do
      let y15 ← far_by y10 b12 x_thing
      R.ok y15) x_looks
  R.ok l12
/-! _law_cell_at -/
def law_cell_at (x_script : Scr) (x_k : Int) : R Int := do
  if (decide (x_k < (x_script.l.length : Int))) = true then do
    let t4 ← getI x_script.l x_k
    R.ok t4
  else do
    let g6 ← (do
      if (!decide (x_script = (⟨([] : (List Int))⟩ : Scr))) = true then do
        let t12 ← modI x_k (x_script.l.length : Int)
        let t13 ← getI x_script.l t12
        R.ok (t13 % (1000003 : Int))
      else do
        R.ok (0 : Int) : R (Int))
    R.ok ((g6 + ((104729 : Int) * x_k)) + (13 : Int))
/-! _law_folded -/
def law_folded (x_script : Scr) (x_many : Int) : R (List Int) := do
  let l3 ← rngI 0 x_many
  let l4 ← mapG (fun (b4 : Int) => do
      let y6 ← law_cell_at x_script b4
      R.ok y6) l3
  let l9 ← rngI x_many (x_script.l.length : Int)
  let g8 ← foldR (fun (g8 : (List Int)) (b8 : Int) => do
      let t11 ← modI b8 x_many
      let t12 ← getI g8 t11
      let t16 ← getI x_script.l b8
      let l19 ← setI g8 t11 ((((t12 % ((10 : Int) ^ ((60 : Int) : Int).toNat)) * (48271 : Int)) + t16) % (((10 : Int) ^ ((60 : Int) : Int).toNat) + (7 : Int)))
      R.ok l19) l4 l9
  R.ok g8
/-! _law_state -/
def law_state (x_cell : Int) : R (List Int) := do
  let g2 ← (do
    if (decide (((10 : Int) ^ ((18 : Int) : Int).toNat) ≤ x_cell)) = true then do
      R.ok x_cell
    else do
      R.ok (0 : Int) : R (Int))
  R.ok ([g2, ((((x_cell % (2147483629 : Int)) + (11 : Int)) * (48271 : Int)) % (2147483647 : Int))] : (List Int))
/-! _law_next -/
def law_next (x_state : (List Int)) (x_many : Int) : R (Int × (List Int)) := do
  let t3 ← getI x_state (0 : Int)
  if (decide ((0 : Int) < t3)) = true then do
    let t6 ← getI x_state (0 : Int)
    let t7 ← modI t6 x_many
    let t9 ← getI x_state (0 : Int)
    let t10 ← divI t9 x_many
    let l11 ← setI x_state (0 : Int) t10
    R.ok (t7, l11)
  else do
    let t14 ← getI x_state (1 : Int)
    let l17 ← setI x_state (1 : Int) (((t14 * (69621 : Int)) + (40692 : Int)) % (2147483647 : Int))
    let t19 ← getI l17 (1 : Int)
    let t20 ← getI l17 (1 : Int)
    let t21 ← mulI t19 t20
    let t24 ← modI ((t21 % (2147483629 : Int)) / (8 : Int)) x_many
    R.ok (t24, l17)
/-! _law_web -/
def law_web (x_state : (List Int)) (x_least : Int) (x_most : Int) : R ((Int × (Tup (Int × Int))) × (List Int)) := do
  let y3 ← law_next x_state ((x_most + (1 : Int)) - x_least)
  let y5 ← law_next y3.2 (9 : Int)
  let l7 ← rngI 0 ((x_least + y3.1) - (1 : Int))
  let l8 ← mapG (fun (b8 : Int) => do
      R.ok (b8, (b8 + (1 : Int)))) l7
  let g12 ← (do
    if ((decide (y5.1 = (1 : Int))) && (decide ((2 : Int) < (x_least + y3.1)))) = true then do
      let l20 ← app l8 ((0 : Int), ((x_least + y3.1) - (1 : Int)))
      R.ok l20
    else do
      R.ok l8 : R ((List (Int × Int))))
  let g22 ← (do
    if (decide (y5.1 = (2 : Int))) = true then do
      let l25 ← rngI (1 : Int) (x_least + y3.1)
      let l26 ← mapG (fun (b26 : Int) => do
          R.ok ((0 : Int), b26)) l25
      R.ok l26
    else do
      R.ok g12 : R ((List (Int × Int))))
  let g32 ← (do
    if (decide (y5.1 = (3 : Int))) = true then do
      let l37 ← rngI (1 : Int) (x_least + y3.1)
      let l38 ← mapG (fun (b38 : Int) => do
          R.ok ((0 : Int), b38)) l37
      let l42 ← extend (cutL g22 (some (1 : Int)) none) l38
      R.ok l42
    else do
      R.ok g22 : R ((List (Int × Int))))
  let g48 ← (do
    if (decide (y5.1 = (4 : Int))) = true then do
      let l56 ← rngI 0 (x_least + y3.1)
      let g55 ← foldR (fun (g55 : (List (Int × Int))) (b55 : Int) => do
          let l57 ← rngI 0 b55
          let l58 ← mapG (fun (b58 : Int) => do
              R.ok (b58, b55)) l57
          let l62 ← extend g55 l58
          R.ok l62) ([] : (List (Int × Int))) l56
      R.ok g55
    else do
      R.ok g32 : R ((List (Int × Int))))
  let g66 ← (do
    if (decide ((4 : Int) < y5.1)) = true then do
      let l70 ← rngI (1 : Int) (x_least + y3.1)
      let l71 ← mapStG (fun (g71 : (List Int)) (b71 : Int) => do
          let y74 ← law_next g71 b71
          R.ok ((y74.1, b71), y74.2)) y5.2 l70
      let y82 ← law_next l71.2 (7 : Int)
      let l83 ← rngI 0 y82.1
      let g80 ← foldR (fun (g80 : (List Int) × (List (Int × Int))) (b80 : Int) => do
          let y85 ← law_next g80.1 (x_least + y3.1)
          let y86 ← law_next y85.2 (x_least + y3.1)
          if ((decide (y85.1 < y86.1)) && (!inB (y85.1, y86.1) g80.2)) = true then do
            let l95 ← app g80.2 (y85.1, y86.1)
            R.ok (y86.2, l95)
          else do
            R.ok (y86.2, g80.2)) (y82.2, l71.1) l83
      R.ok (g80.2, g80.1)
    else do
      R.ok (g48, y5.2) : R ((List (Int × Int)) × (List Int)))
  let l103 ← rngI 0 (x_least + y3.1)
  let g102 ← foldR (fun (g102 : (List Int) × (List Int)) (b102 : Int) => do
      let y105 ← law_next g102.2 (b102 + (1 : Int))
      let l106 ← insR g102.1 y105.1 b102
      R.ok (l106, y105.2)) (([] : (List Int)), g66.2) l103
  let l110 ← mapG (fun (b110 : (Int × Int)) => do
      let t114 ← getI g102.1 b110.1
      let t115 ← getI g102.1 b110.2
      R.ok (t114, t115)) g66.1
  let y118 ← made_web (x_least + y3.1) l110
  R.ok (y118, g102.2)
/-! _law_moved -/
def law_moved (x_web : (Int × (Tup (Int × Int)))) (x_part : (Tup Int)) : R (Tup Int) := do
  let g7 ← foldR (fun (g7 : (List Int)) (b7 : Int) => do
      let y9 ← neighbours_of x_web b7
      let l11 ← filG (fun (b11 : Int) => do
          if (!inB b11 g7) = true then do
            R.ok (some b11)
          else
            R.ok none) y9
      let l16 ← extend g7 l11
      R.ok l16) x_part.l x_part.l
  R.ok (Tup.mk (sortI g7))
/-! _law_parts -/
def law_parts (x_web : (Int × (Tup (Int × Int)))) (x_standing : (Tup Int)) (x_looks : (Tup Int)) : R (List (Tup Int)) := do
  let g7 ← foldR (fun (g7 : (List ((Tup Int) × (Tup Int)))) (b7 : Int) => do
      let y13 ← code_of x_web x_looks.l (Thing.pl b7)
      let l24 ← extend ((mget g7 (Tup.mk y13)).getD (Tup.mk [] : (Tup Int))).l (Tup.mk [b7] : (Tup Int)).l
      let l25 ← mputR g7 (Tup.mk y13) (Tup.mk l24 : (Tup Int))
      R.ok l25) ([] : (List ((Tup Int) × (Tup Int)))) x_standing.l
  let l28 ← filG (fun (b28 : (Tup Int)) => do
      if (decide ((1 : Int) < (b28.l.length : Int))) = true then do
        R.ok (some b28)
      else
        R.ok none) (g7.map (·.2))
  R.ok l28
/-! _law_parts -/
def law_partsL (x_web : (Int × (Tup (Int × Int)))) (x_standing : (Tup Int)) (x_looks : (List Int)) : R (List (Tup Int)) := do
  let g7 ← foldR (fun (g7 : (List ((Tup Int) × (Tup Int)))) (b7 : Int) => do
      let y13 ← code_of x_web x_looks (Thing.pl b7)
      let l24 ← extend ((mget g7 (Tup.mk y13)).getD (Tup.mk [] : (Tup Int))).l (Tup.mk [b7] : (Tup Int)).l
      let l25 ← mputR g7 (Tup.mk y13) (Tup.mk l24 : (Tup Int))
      R.ok l25) ([] : (List ((Tup Int) × (Tup Int)))) x_standing.l
  let l28 ← filG (fun (b28 : (Tup Int)) => do
      if (decide ((1 : Int) < (b28.l.length : Int))) = true then do
        R.ok (some b28)
      else
        R.ok none) (g7.map (·.2))
  R.ok l28
/-! _law_by_turns -/
def law_by_turns (x_row : (Nt ((Tup Int) × (Tup Int) × Int × Unit))) : R Int := do
  R.ok x_row.v.2.2.1
/-! _law_row -/
def law_row (x_hunt : (List (Nt ((Tup Int) × (Tup Int) × Int × Unit)))) (x_standing : (Tup Int)) : R (List (Nt ((Tup Int) × (Tup Int) × Int × Unit))) := do
  let g6 ← foldR (fun (g6 : (List (Nt ((Tup Int) × (Tup Int) × Int × Unit)))) (b6 : (Nt ((Tup Int) × (Tup Int) × Int × Unit))) => do
      let l12 ← filG (fun (b12 : Int) => do
          if (!inB b12 b6.v.1.l) = true then do
            R.ok (some b12)
          else
            R.ok none) x_standing.l
      if (decide (l12 = ([] : (List Int)))) = true then do
        let l22 ← app g6 b6
        R.ok l22
      else do
        R.ok g6) ([] : (List (Nt ((Tup Int) × (Tup Int) × Int × Unit)))) x_hunt
  let l24 ← sortByR law_by_turns g6
  R.ok (cutL l24 none (some (1 : Int)))
/-! _law_hunted -/
def law_hunted (x_web : (Int × (Tup (Int × Int)))) (x_hunt : (List (Nt ((Tup Int) × (Tup Int) × Int × Unit)))) : R Int := do
  let l5 ← listRng 0 x_web.1
  let r11 ← whileXR (fun (g11 : Int × (List ((Tup Int) × Int))) => do
      R.ok (!decide (g11.2 = ([] : (List ((Tup Int) × Int)))))) (fun (g11 : Int × (List ((Tup Int) × Int))) => do
      let l16 ← popI g11.2
      let y21 ← law_row x_hunt l16.1.1
      if ((decide (y21 = ([] : (List (Nt ((Tup Int) × (Tup Int) × Int × Unit)))))) || (decide ((60 : Int) < l16.1.2))) = true then do
        R.ok (.inl (99 : Int))
      else do
        let t36 ← getI y21 (0 : Int)
        let y40 ← law_parts x_web l16.1.1 t36.v.2.1
        let g35 ← foldR (fun (g35 : (List ((Tup Int) × Int))) (b35 : (Tup Int)) => do
            let y44 ← law_moved x_web b35
            let l47 ← app g35 (y44, (l16.1.2 + (1 : Int)))
            R.ok l47) l16.2 y40
        R.ok (.inr (true, ((max2 g11.1 l16.1.2), g35)))) (fu 24893071176241544900787221684958608586849291716964049) ((0 : Int), ([((Tup.mk l5 : Tup Int), (1 : Int))] : (List ((Tup Int) × Int))))
  match r11 with
  | .inl z => R.ok z
  | .inr g11 => do
    R.ok g11.1
/-! _law_hidden -/
def law_hidden (x_web : (Int × (Tup (Int × Int)))) (x_shelter : (List (Tup Int))) (x_state : (List Int)) (x_few : Int) : R (Bool × (List Int)) := do
  let l6 ← listRng 0 x_web.1
  let r8 ← foldX (fun (g8 : (Tup Int) × (List Int)) (b8 : Int) => do
      let l14 ← rngI 0 x_few
      let g13 ← foldR (fun (g13 : (List Int) × (List Int)) (b13 : Int) => do
          let y17 ← law_next g13.2 x_web.1
          if (!inB y17.1 g13.1) = true then do
            let l20 ← app g13.1 y17.1
            R.ok (l20, y17.2)
          else do
            R.ok (g13.1, y17.2)) (([] : (List Int)), g8.2) l14
      let y31 ← law_partsL x_web g8.1 (sortI g13.1)
      let g27 ← foldR (fun (g27 : (List (Tup Int))) (b27 : (Tup Int)) => do
          let y36 ← law_moved x_web b27
          let l39 ← filG (fun (b39 : (Tup Int)) => do
              let l43 ← filG (fun (b43 : Int) => do
                  if (!inB b43 y36.l) = true then do
                    R.ok (some b43)
                  else
                    R.ok none) b39.l
              if (decide (l43 = ([] : (List Int)))) = true then do
                R.ok (some b39)
              else
                R.ok none) x_shelter
          if (!decide (l39 = ([] : (List (Tup Int))))) = true then do
            let l61 ← app g27 y36
            R.ok l61
          else do
            R.ok g27) ([] : (List (Tup Int))) y31
      if (decide (g27 = ([] : (List (Tup Int))))) = true then do
        R.ok (.inl (false, g13.2))
      else do
        let y71 ← law_next g13.2 (g27.length : Int)
        let t72 ← getI g27 y71.1
        R.ok (.inr (true, (t72, y71.2)))) ((Tup.mk l6 : Tup Int), x_state) (rng 0 (8 : Int))
  match r8 with
  | .inl z => R.ok z
  | .inr g8 => do
    R.ok (true, g8.2)
/-! law -/
def law (x_script : Scr) : R Bool := do
  let y3 ← law_folded x_script (3 : Int)
  let r2 ← foldX (fun (g2 : Unit) (b2 : Int) => do
      let y8 ← law_state b2
      let y11 ← law_web y8 (2 : Int) (6 : Int)
      let y15 ← law_next y11.2 (2 : Int)
      let y17 ← hunt_or_shelter y11.1 ((1 : Int) + y15.1)
      if (decide (y17.w = ("hunt" : Str))) = true then do
        let t21 ← asHunt (Hb.mk y17).h
        let l24 ← filG (fun (b24 : (Nt ((Tup Int) × (Tup Int) × Int × Unit))) => do
            if (decide ((b24.v.1.l.length : Int) = y11.1.1)) = true then do
              R.ok (some b24.v.2.2.1)
            else
              R.ok none) t21
        let y34 ← law_hunted y11.1 t21
        let t35 ← minL l24
        if (!decide (y34 = t35)) = true then do
          R.ok (.inl false)
        else do
          R.ok (.inr (true, ()))
      else do
        let t39 ← asShelter (Hb.mk y17).h
        let y42 ← law_hidden y11.1 t39 y15.2 ((1 : Int) + y15.1)
        if (!y42.1) = true then do
          R.ok (.inl false)
        else do
          R.ok (.inr (true, ()))) () y3
  match r2 with
  | .inl z => R.ok z
  | .inr g2 => do
    R.ok true
/-! ### what the top has written -/
structure Dn (K : Fg) (mg : Str → Option Value) (x y : Str) (st : Stmt) (ps : List Str) (f : Addr) (fd : FuncData) : Prop where
  fn : Fun K y y st f fd
  mg : mg x = some (.ref f)
  b : Binds K fd ps []
structure Dm (K : Fg) (C : Addr) (x y : Str) (st : Stmt) (ps : List Str) (f : Addr) (fd : FuncData) : Prop where
  fn : Fun K x y st f fd
  mt : Meth K C x f
  b : Binds K fd ps []
structure Tx (K : Fg) (mg : Str → Option Value) (A : Nat → Addr) (FD : Nat → FuncData) : Prop where
  d10 : Dn K mg "near_lists" "near_lists" s_near_lists ["web"] (A 10) (FD 10)
  d11 : Dn K mg "fars_by" "fars_by" s_fars_by ["near", "place"] (A 11) (FD 11)
  d12 : Dn K mg "sorted_ties" "sorted_ties" s_sorted_ties ["many", "ties"] (A 12) (FD 12)
  d13 : Dn K mg "made_web" "made_web" s_made_web ["many", "ties"] (A 13) (FD 13)
  d14 : Dn K mg "place_asked" "place_asked" s_place_asked ["web", "place"] (A 14) (FD 14)
  d15 : Dn K mg "neighbours_of" "neighbours_of" s_neighbours_of ["web", "place"] (A 15) (FD 15)
  d16 : Dn K mg "fars_from" "fars_from" s_fars_from ["web", "place"] (A 16) (FD 16)
  d20 : Dn K mg "few_places" "few_places" s_few_places ["web"] (A 20) (FD 20)
  d21 : Dn K mg "table_by" "table_by" s_table_by ["web"] (A 21) (FD 21)
  d22 : Dn K mg "looks_of" "looks_of" s_looks_of ["places", "many"] (A 22) (FD 22)
  d23 : Dn K mg "gone_on" "gone_on" s_gone_on ["fars", "part"] (A 23) (FD 23)
  d24 : Dn K mg "next_standings" "next_standings" s_next_standings ["fars", "standing", "looks"] (A 24) (FD 24)
  d25 : Dn K mg "all_standings" "all_standings" s_all_standings ["places"] (A 25) (FD 25)
  d27 : Dn K mg "hunt_or_shelter" "hunt_or_shelter" s_hunt_or_shelter ["web", "many"] (A 27) (FD 27)
  d29 : Dn K mg "table_of" "table_of" s_table_of ["web"] (A 29) (FD 29)
  d30 : Dn K mg "looks_asked" "looks_asked" s_looks_asked ["web", "looks"] (A 30) (FD 30)
  d31 : Dn K mg "thing_asked" "thing_asked" s_thing_asked ["web", "thing"] (A 31) (FD 31)
  d32 : Dn K mg "far_by" "far_by" s_far_by ["table", "look", "thing"] (A 32) (FD 32)
  d33 : Dn K mg "code_of" "code_of" s_code_of ["web", "looks", "thing"] (A 33) (FD 33)
  d35 : Dn K mg "_law_cell_at" "_law_cell_at" s_law_cell_at ["script", "k"] (A 35) (FD 35)
  d36 : Dn K mg "_law_folded" "_law_folded" s_law_folded ["script", "many"] (A 36) (FD 36)
  d37 : Dn K mg "_law_state" "_law_state" s_law_state ["cell"] (A 37) (FD 37)
  d38 : Dn K mg "_law_next" "_law_next" s_law_next ["state", "many"] (A 38) (FD 38)
  d39 : Dn K mg "_law_web" "_law_web" s_law_web ["state", "least", "most"] (A 39) (FD 39)
  d40 : Dn K mg "_law_moved" "_law_moved" s_law_moved ["web", "part"] (A 40) (FD 40)
  d41 : Dn K mg "_law_parts" "_law_parts" s_law_parts ["web", "standing", "looks"] (A 41) (FD 41)
  d42 : Dn K mg "_law_row" "_law_row" s_law_row ["hunt", "standing"] (A 42) (FD 42)
  d43 : Dn K mg "_law_by_turns" "_law_by_turns" s_law_by_turns ["row"] (A 43) (FD 43)
  d44 : Dn K mg "_law_hunted" "_law_hunted" s_law_hunted ["web", "hunt"] (A 44) (FD 44)
  d45 : Dn K mg "_law_hidden" "_law_hidden" s_law_hidden ["web", "shelter", "state", "few"] (A 45) (FD 45)
  d46 : Dn K mg "law" "law" s_law ["script"] (A 46) (FD 46)
  d27000 : Dm K (A 26) "__init__" "Hunting.__init__" s_Hunting_init ["self", "web", "many"] (A 27000) (FD 27000)
  d27001 : Dm K (A 26) "found_by" "Hunting.found_by" s_Hunting_found_by ["self", "standing"] (A 27001) (FD 27001)
  d27002 : Dm K (A 26) "fill" "Hunting.fill" s_Hunting_fill ["self"] (A 27002) (FD 27002)
  d27003 : Dm K (A 26) "hunt" "Hunting.hunt" s_Hunting_hunt ["self", "start"] (A 27003) (FD 27003)
  n_all : mg "all" = none
  n_any : mg "any" = none
  n_enumerate : mg "enumerate" = none
  n_int : mg "int" = none
  n_isinstance : mg "isinstance" = none
  n_len : mg "len" = none
  n_list : mg "list" = none
  n_max : mg "max" = none
  n_min : mg "min" = none
  n_range : mg "range" = none
  n_sorted : mg "sorted" = none
  n_tuple : mg "tuple" = none
  c_LEAST_PLACES : ∃ t, mg "LEAST_PLACES" = some (.int 2 t)
  c_MOST_PLACES_hunts : ∃ t, mg "MOST_PLACES_hunts" = some (.int 7 t)
  c_MOST_PLACES_webs : ∃ t, mg "MOST_PLACES_webs" = some (.int 60 t)
  cl_Hunting : Cls K (A 26)
  nm_Hunting : Nm K "Hunting" (A 26)
  mg_Hunting : mg "Hunting" = some (.ref (A 26))
  mk_Hunting : Mk K (A 26) (A 27000)
  na_Hunting_fars : NoAttr K (A 26) "fars"
  na_Hunting_ways : NoAttr K (A 26) "ways"
  na_Hunting_turns : NoAttr K (A 26) "turns"
  na_Hunting_looks : NoAttr K (A 26) "looks"
  x_TooMany : XC K mg "TooMany" (A 6)
theorem Tx.exc {K : Fg} {mg : Str → Option Value} {A : Nat → Addr} {FD : Nat → FuncData} (T : Tx K mg A FD) {x : Str} {C : Addr} (h : x ∈ names) (n : Nm K x C) : ExcC K C := by
  simp only [names, List.mem_cons, List.mem_nil_iff, or_false] at h
  rcases h with rfl
  · obtain rfl := n.uniq T.x_TooMany.ns; exact T.x_TooMany.ex
section
variable {P : Program} {w : World} {K : PySem.W.Frag} {mg : Str → Option Value} {base : Heap} {A : Nat → Addr} {FD : Nat → FuncData}
def sp_near_lists (K : Fg) : Sp := fun vs H Q E => ∃ (F : Hp) (os : List (Addr × HO)) (v_web : V) (x_web : (Int × (Tup (Int × Int)))), vs = [v_web] ∧ W F H (os) ∧ rep K F v_web x_web ∧ Post (near_lists x_web) (Ret K F os Q) noX
theorem sc_near_lists : FnScope ["web", "found", "one", "other", "place", "row"] ["web"] (defScope s_near_lists) := ⟨rfl, rfl, rfl, by decide +kernel, rfl, by decide +kernel, by decide +kernel⟩
theorem ok_near_lists (T : Tx K mg A FD) : FnOk P w K mg base CX0 1 (A 10) (FD 10) ["web"] (sp_near_lists K) := by
  refine T.d10.fn.ok sc_near_lists (fun vs H Q E h => ?_) (fun cdv Ar outer s H vs Q E hr h => ?_)
  · obtain ⟨F, os, v_web, x_web, rfl, _⟩ := h
    rfl
  · obtain ⟨F0, os, v_web, x_web, rfl, w0, r_web, hm⟩ := h
    have sF : Same F0 F0 := Same.refl _
    obtain ⟨a1, u1, z1, rfl, q1, r1a, r1b⟩ := r_web
    obtain rfl : u1 = V.int x_web.1 := r1a
    obtain ⟨a2, vs2, rfl, q2, h2⟩ := r1b
    have hr_g : Sto K F0 [] [] ([] : List (List Int)) := Sto.nil
    replace w0 : W F0 _ ((nz [] [] ++ os)) := w0
    refine ⟨_, (pss_cons (ps_setLc (i := 1) (own := [("place", 4)]) (g := gName 4) (by rfl) sc_near_lists.nd rfl rfl (sw_true rfl rfl rfl (by decide +kernel)) (pi_range1 (by rfl) T.n_range (pa_cons (pe_ix (ix_tupK (K := K) rfl) (pv 0) pe_int (fun _ _ => rfl)) pa_nil)) (blkOk_by (own := [("place", 4)]) (N := ["web", "found", "one", "other", "place", "row"]) (sc := defScope s_near_lists) (by decide +kernel)) (fun _ _ _ _ _ => (pg_name (i := 4) sc_near_lists.nd rfl (Or.inl rfl))) (fun _ _ _ _ _ => pts_nil) (fun _ _ _ _ _ => (pe_lst pa_nil))) (pss_cons (ps_for PassesOwn.never rfl (pi_tupK (K := K) rfl (pe_ix (ix_tupK (K := K) rfl) (pv 0) pe_int (fun _ _ => rfl))) (pg_k (K := K) (t := fun K => gTup K 2 _) rfl (pg_tup (n := 2) rfl (pgs_cons (pg_name (i := 2) sc_near_lists.nd rfl (Or.inl rfl)) (pgs_cons (pg_name (i := 3) sc_near_lists.nd rfl (Or.inl rfl)) pgs_nil)))) (pss_cons (ps_expr (pe_bm PySem.F.plainAttrs_list PySem.F.slot_list_append PySem.F.type_list_append mt_append (pe_ix (ix_listK (K := K) rfl) (pv 1) (pv 2) (fun _ _ => rfl)) (pa_cons (pv 3) pa_nil))) (pss_one (ps_expr (pe_bm PySem.F.plainAttrs_list PySem.F.slot_list_append PySem.F.type_list_append mt_append (pe_ix (ix_listK (K := K) rfl) (pv 1) (pv 3) (fun _ _ => rfl)) (pa_cons (pv 2) pa_nil)))))) (pss_one (ps_ret (pe_lc (own := [("row", 5)]) (g := gName 5) (by rfl) sc_near_lists.nd (pi_listK (K := K) rfl (pv 1)) (blkOk_by (own := [("row", 5)]) (N := ["web", "found", "one", "other", "place", "row"]) (sc := defScope s_near_lists) (by decide +kernel)) (fun _ _ _ _ _ => (pg_name (i := 5) sc_near_lists.nd rfl (Or.inl rfl))) (fun _ _ _ _ _ => pts_nil) (fun _ _ _ _ _ => (pe_callB (cr_sortI (K := K) rfl) (by rfl) T.n_sorted (by decide +kernel) (pa_cons (pv 5) pa_nil)))))))), ?_⟩
    try dsimp only
    refine seqN fun N4 hN4 => ?_
    obtain ⟨c5, hm⟩ := pb_rng hm
    refine ⟨_, rfl, _, _, _, _, rfl, rfl, SqT.of (w0.same _ _ q1), rfl, _, rfl, c5.2.2.1, c5.2.2.2, fun D6 nD6 => ?_⟩
    refine lcGM (tw_rng0 (j := x_web.1)) hm (fun (g6 : (List (List Int))) F' os' us ys => ∃ (as6_0 : List Addr) (vs6_0 : List (List V)), os' = (nz as6_0 vs6_0 ++ os) ∧ [] <+: as6_0 ∧ Sto K F' as6_0 vs6_0 g6 ∧ A2 (RX as6_0) us ys) w0 ⟨_, _, rfl, pfx_refl, hr_g, .nil⟩ nD6 (fun _ _ _ _ _ o => by obtain ⟨_, _, rfl, _, _, h⟩ := o; exact h.length) (fun g F' H' os' acc ys s w o => by obtain ⟨_, _, rfl, _, _, _⟩ := o; exact trivial) ?_ ?_
    · -- one turn
      intro b6 g6 x6 F6 H6 H6' os6 acc6 ya6 N6 P6 s6 w6 o6 y6 hN6 hm
      obtain ⟨as6_0, vs6_0, rfl, p6_0, h6_0, ha6⟩ := o6
      obtain ⟨rfl, rfl⟩ := y6
      have h8 : A2 (rep K F6) [] ([] : (List Int)) := .nil
      refine ⟨rfl, (by show 0 ≤ sizeLine; decide), fun p9 n9 => ?_⟩
      have w9 : W F6 _ ((p9, .lst []) :: (D6, .lst acc6) :: (nz as6_0 vs6_0 ++ os)) := w6.new n9
      obtain ⟨j10, st10, ej10, es10, hm⟩ := pn_newS hm
      have w10 : W F6 _ ((D6, .lst acc6) :: (nz (as6_0 ++ [p9]) (vs6_0 ++ [[]]) ++ os)) := w9.nadd (pre := [_]) h6_0.len
      have q10 : (as6_0 ++ [p9])[j10]? = some p9 := IQ.new (h6_0.len2.trans ej10.symm)
      have h10 : Sto K F6 (as6_0 ++ [p9]) (vs6_0 ++ [[]]) st10 := es10 ▸ Sto.snoc (p := p9) h6_0 h8
      replace ha6 := A2.imp (fun _ _ => RX.mono (pfx_snoc (p := p9))) ha6
      exact hN6 _ _ (post_ok hm) _ _ _ _ w10 (Same.refl _) ⟨_, _, rfl, (pfx_trans p6_0 (pfx_snoc (p := p9))), h10, A2.snoc ha6 ⟨_, rfl, q10⟩⟩
    intro g6 us6 F6 H6 os6 ys6 s6 w6 o6 hm
    obtain ⟨as6_0, vs6_0, rfl, p6_0, h6_0, gg6⟩ := o6
    replace q1 := s6 _ _ q1
    replace q2 := s6 _ _ q2
    replace h2 := A2.mono s6 h2
    refine stepN ?_
    try dsimp only
    refine hN4 _ _ ?_
    refine ⟨_, rfl, _, _, _, _, rfl, rfl, SqT.of (w6.same _ _ q1), rfl, _, rfl, ⟨_, SqT.of (w6.same _ _ q2)⟩, ?_⟩
    refine forS (tw_tup (a := a2) h2) hm (fun (g12 : (List (List Int))) σ H' => ∃ (F' : Hp) (as12_0 : List Addr) (vs12_0 : List (List V)) (o12_2 : Option V) (o12_3 : Option V), σ = [some (.ref a1), some (.ref D6), o12_2, o12_3, none, none] ∧ Same F6 F' ∧ W F' H' ((D6, .lst us6) :: (nz as12_0 vs12_0 ++ os)) ∧ as6_0 <+: as12_0 ∧ Sto K F' as12_0 vs12_0 g12) ⟨_, _, _, _, _, rfl, Same.refl _, w6, pfx_refl, h6_0⟩ (fun g σ H' hI => by obtain ⟨F', _, _, _, _, _, s, w, _⟩ := hI; exact SqT.of (w.same _ _ (s _ _ q2))) ?_ ?_
    · -- a turn
      intro b12 g12 x12 σ12 H12 H12' N12 P12 hI hy hN12 hm
      obtain ⟨F12, as12_0, vs12_0, o12_2, o12_3, rfl, s12, w12, p12_0, h12_0⟩ := hI
      replace gg6 := A2.imp (fun _ _ => RX.mono p12_0) gg6
      obtain ⟨rfl, r13⟩ := hy
      replace r13 := Rep.mono s12 r13
      obtain ⟨a14, u14, z14, rfl, q14, r14a, r14b⟩ := r13
      obtain rfl : u14 = V.int b12.1 := r14a
      obtain rfl : z14 = V.int b12.2 := r14b
      refine ⟨_, _, rfl, SqT.of (w12.same _ _ q14), rfl, _, _, rfl, _, _, rfl, rfl, ?_⟩
      try dsimp only
      refine seqN fun N15 hN15 => ?_
      obtain ⟨t16, e16, hm⟩ := pb_get hm
      obtain ⟨u16, f16, r16⟩ := A2.at gg6 e16
      obtain ⟨a17, rfl, q17⟩ := r16
      obtain ⟨x18, e18, hm⟩ := pb_getS hm
      obtain ⟨vs18, i18, h18⟩ := Sto.getq h12_0 e18 q17
      obtain ⟨l19, z19, e19, hm⟩ := pn_app hm
      obtain ⟨st19, es19, hm⟩ := pn_setS hm
      refine ⟨_, rfl, _, rfl, _, _, _, _, rfl, rfl, SqL.of (w12.get (pre := [])), f16, .inl ⟨rfl, _, SqL.of (W.nget (pre := [_]) w12 q17 i18)⟩, _, rfl, _, _, _, rfl, rfl, (W.nget (pre := [_]) w12 q17 i18), (A2.lt h18 z19), ?_⟩
      have h19 : Sto K F12 as12_0 (vs12_0.set t16 (vs18 ++ [(V.int b12.2)])) st19 := es19 ▸ Sto.set h12_0 (e19 ▸ A2.snoc h18 rep_i)
      have w19 : W F12 _ ((D6, .lst us6) :: (nz as12_0 (vs12_0.set t16 (vs18 ++ [(V.int b12.2)])) ++ os)) := w12.nset (pre := [_]) (vs18 ++ [(V.int b12.2)]) q17 i18
      try dsimp only
      refine hN15 _ _ ?_
      obtain ⟨t20, e20, hm⟩ := pb_get hm
      obtain ⟨u20, f20, r20⟩ := A2.at gg6 e20
      obtain ⟨a21, rfl, q21⟩ := r20
      obtain ⟨x22, e22, hm⟩ := pb_getS hm
      obtain ⟨vs22, i22, h22⟩ := Sto.getq h19 e22 q21
      obtain ⟨l23, z23, e23, hm⟩ := pn_app hm
      obtain ⟨st23, es23, hm⟩ := pn_setS hm
      refine ⟨_, rfl, _, rfl, _, _, _, _, rfl, rfl, SqL.of (w19.get (pre := [])), f20, .inl ⟨rfl, _, SqL.of (W.nget (pre := [_]) w19 q21 i22)⟩, _, rfl, _, _, _, rfl, rfl, (W.nget (pre := [_]) w19 q21 i22), (A2.lt h22 z23), ?_⟩
      have h23 : Sto K F12 as12_0 ((vs12_0.set t16 (vs18 ++ [(V.int b12.2)])).set t20 (vs22 ++ [(V.int b12.1)])) st23 := es23 ▸ Sto.set h19 (e23 ▸ A2.snoc h22 rep_i)
      have w23 : W F12 _ ((D6, .lst us6) :: (nz as12_0 ((vs12_0.set t16 (vs18 ++ [(V.int b12.2)])).set t20 (vs22 ++ [(V.int b12.1)])) ++ os)) := w19.nset (pre := [_]) (vs22 ++ [(V.int b12.1)]) q21 i22
      exact hN12 _ (post_ok hm) _ _ ⟨_, _, _, _, _, rfl, s12, w23, p12_0, h23⟩
    intro g12 σ12 H12 hI hm
    obtain ⟨F12, as12_0, vs12_0, o12_2, o12_3, rfl, s12, w12, p12_0, h12_0⟩ := hI
    replace gg6 := A2.imp (fun _ _ => RX.mono p12_0) gg6
    refine ⟨_, rfl, _, rfl, ⟨_, SqL.of (w12.get (pre := []))⟩, fun D24 nD24 => ?_⟩
    refine lcM (K := K) (tw_listR (a := D6) gg6) hm w12 nD24 (fun F' H' acc s w => SqL.of (w.get (pre := [_]))) ?_ ?_
    · -- one turn
      intro b24 x24 F24 H24 H24' acc24 N24 P24 s24 w24 y24 hN24 hm
      replace h12_0 := Sto.mono s24 h12_0
      obtain ⟨rfl, r26⟩ := y24
      obtain ⟨a27, rfl, q27⟩ := r26
      obtain ⟨x28, e28, hm⟩ := pb_getS hm
      obtain ⟨vs28, i28, h28⟩ := Sto.getq h12_0 e28 q27
      have h29 : A2 (rep K F24) ((sortI x28).map V.int) (sortI x28) := A2.of_ints
      refine ⟨rfl, _, rfl, _, _, rfl, ints_q (SqL.of (W.nget (pre := [_, _]) w24 q27 i28)) h28, fun p30 n30 => ?_⟩
      have w30 : W F24 _ ((p30, .lst ((sortI x28).map V.int)) :: (D24, .lst acc24) :: (D6, .lst us6) :: (nz as12_0 vs12_0 ++ os)) := w24.new n30
      obtain ⟨F31, s31, w31, q31⟩ : ∃ F', Same F24 F' ∧ W F' _ ((D24, .lst acc24) :: (D6, .lst us6) :: (nz as12_0 vs12_0 ++ os)) ∧ F' p30 = some (.lst ((sortI x28).map V.int)) := w30.freezeE (pre := [])
      replace h29 := A2.mono s31 h29
      exact hN24 _ (post_ok hm) _ _ _ w31 s31 (rep_lst q31 h29)
    intro us24 F24 H24 ys24 s24 w24 gg24 hm
    obtain ⟨F33, s33, w33, q33⟩ : ∃ F', Same F24 F' ∧ W F' _ ((D6, .lst us6) :: (nz as12_0 vs12_0 ++ os)) ∧ F' D24 = some (.lst us24) := w24.freezeE (pre := [])
    replace gg24 := A2.mono s33 gg24
    replace sF := sF.trans (s6.trans (s12.trans (s24.trans s33)))
    have w34 : W F33 _ ((nz as12_0 vs12_0 ++ os)) := w33.drop (pre := [])
    have w35 : W F33 _ (os) := w34.dropL (pre := [])
    exact (post_ok hm) _ _ _ w35 sF (rep_lst q33 gg24)
def sp_fars_by (K : Fg) : Sp := fun vs H Q E => ∃ (F : Hp) (os : List (Addr × HO)) (v_near : V) (x_near : (List (List Int))) (x_place : Int), vs = [v_near, .int x_place] ∧ W F H (os) ∧ rep K F v_near x_near ∧ Post (fars_by x_near x_place) (RetL K F os Q) noX
theorem sc_fars_by : FnScope ["near", "place", "found", "line", "at", "other"] ["near", "place"] (defScope s_fars_by) := ⟨rfl, rfl, rfl, by decide +kernel, rfl, by decide +kernel, by decide +kernel⟩
theorem ok_fars_by (T : Tx K mg A FD) : FnOk P w K mg base CX0 1 (A 11) (FD 11) ["near", "place"] (sp_fars_by K) := by
  refine T.d11.fn.ok sc_fars_by (fun vs H Q E h => ?_) (fun cdv Ar outer s H vs Q E hr h => ?_)
  · obtain ⟨F, os, v_near, x_near, x_place, rfl, _⟩ := h
    rfl
  · obtain ⟨F0, os, v_near, x_near, x_place, rfl, w0, r_near, hm⟩ := h
    have sF : Same F0 F0 := Same.refl _
    obtain ⟨a1, vs1, rfl, q1, h1⟩ := r_near
    refine ⟨_, (pss_cons (ps_set (i := 2) sc_fars_by.nd rfl (Or.inl rfl) (pe_op op_rep (pe_lst (pa_cons pe_non pa_nil)) (pe_callB (call_lenN (K := K) rfl) (by rfl) T.n_len (by decide +kernel) (pa_cons (pv 0) pa_nil)))) (pss_cons (ps_asg pe_int (pg_sub (pv 2) (pv 1) set_list)) (pss_cons (ps_set (i := 3) sc_fars_by.nd rfl (Or.inl rfl) (pe_lst (pa_cons (pv 1) pa_nil))) (pss_cons (ps_set (i := 4) sc_fars_by.nd rfl (Or.inl rfl) pe_int1) (pss_cons (ps_while PassesOwn.never (pt_cmp (pc_lt (pv 4) (pe_callB (call_lenN (K := K) rfl) (by rfl) T.n_len (by decide +kernel) (pa_cons (pv 3) pa_nil)))) (pss_cons (ps_for PassesOwn.never rfl (pi_listK (K := K) rfl (pe_ix (ix_listK (K := K) rfl) (pv 0) (pe_ix (ix_listK (K := K) rfl) (pv 3) (pv 4) (fun _ _ => rfl)) (fun _ _ => rfl))) (pg_name (i := 5) sc_fars_by.nd rfl (Or.inl rfl)) (pss_one (ps_if (pt_cmpR op_isN2 (pe_ix (ix_listK (K := K) rfl) (pv 2) (pv 5) (fun _ _ => rfl)) pe_non (nomark _)) (pss_cons (ps_asg (pe_op op_add (pe_ix (ix_listK (K := K) rfl) (pv 2) (pe_ix (ix_listK (K := K) rfl) (pv 3) (pv 4) (fun _ _ => rfl)) (fun _ _ => rfl)) pe_int) (pg_sub (pv 2) (pv 5) set_list)) (pss_one (ps_expr (pe_bm PySem.F.plainAttrs_list PySem.F.slot_list_append PySem.F.type_list_append mt_append (pv 3) (pa_cons (pv 5) pa_nil))))) pss_nil))) (pss_one (ps_set (i := 4) sc_fars_by.nd rfl (Or.inl rfl) (pe_op op_add (pv 4) pe_int))))) (pss_one (ps_ret (pv 2)))))))), ?_⟩
    try dsimp only
    refine seqN fun N2 hN2 => ?_
    have h3 : A2 (rep K F0) [.non] ([none] : (List (Option Int))) := .cons rep_none (.nil)
    refine ⟨(by show 1 ≤ sizeLine; decide), fun p4 n4 => ?_⟩
    have w4 : W F0 _ ((p4, .lst [.non]) :: os) := w0.new n4
    obtain ⟨l5, z5, e5, hm⟩ := pb_rep hm
    have h5 : A2 (rep K F0) (List.replicate (x_near.length : Int).toNat [.non]).flatten l5 := e5 ▸ A2.flat h3 _
    refine ⟨_, rfl, _, _, _, rfl, .inl (SqL.of (w4.same _ _ q1)), h1.length, _, _, _, rfl, rfl, (w4.get (pre := [])), z5.1, z5.2.1, (by rw [h3.length]; exact z5.2.2), fun p6 n6 => ?_⟩
    have w6 : W F0 _ ((p6, .lst (List.replicate (x_near.length : Int).toNat [.non]).flatten) :: (p4, .lst [.non]) :: os) := w4.new n6
    have w7 : W F0 _ ((p6, .lst (List.replicate (x_near.length : Int).toNat [.non]).flatten) :: os) := w6.drop (pre := [_])
    refine stepN ?_
    try dsimp only
    refine hN2 _ _ ?_
    try dsimp only
    refine seqN fun N8 hN8 => ?_
    obtain ⟨j9, l9, z9, e9, hm⟩ := pn_set hm
    refine ⟨_, rfl, _, rfl, _, _, _, _, rfl, rfl, (w7.get (pre := [])), (A2.ix h5 z9), ?_⟩
    have h9 : A2 (rep K F0) ((List.replicate (x_near.length : Int).toNat [.non]).flatten.set j9 (V.int 0)) l9 := e9 ▸ A2.set (rep_some rep_i) j9 h5
    have w10 : W F0 _ ((p6, .lst ((List.replicate (x_near.length : Int).toNat [.non]).flatten.set j9 (V.int 0))) :: os) := w7.set (pre := [])
    try dsimp only
    refine hN8 _ _ ?_
    try dsimp only
    refine seqN fun N11 hN11 => ?_
    have h12 : A2 (rep K F0) [(.int x_place)] ([x_place] : (List Int)) := .cons rep_i (.nil)
    refine ⟨_, rfl, (by show 1 ≤ sizeLine; decide), fun p13 n13 => ?_⟩
    have w13 : W F0 _ ((p13, .lst [(.int x_place)]) :: (p6, .lst ((List.replicate (x_near.length : Int).toNat [.non]).flatten.set j9 (V.int 0))) :: os) := w10.new n13
    refine stepN ?_
    try dsimp only
    refine hN11 _ _ ?_
    try dsimp only
    refine seqN fun N14 hN14 => ?_
    refine ⟨trivial, ?_⟩
    refine stepN ?_
    try dsimp only
    refine hN14 _ _ ?_
    try dsimp only
    refine stepSeq (whileS hm (fun (g15 : Int × (List Int) × (List (Option Int))) σ H' => ∃ (F' : Hp) (vs15_0 : List V) (vs15_1 : List V) (o15_5 : Option V), σ = [some (.ref a1), some (.int x_place), some (.ref p6), some (.ref p13), some (.int g15.1), o15_5] ∧ Same F0 F' ∧ W F' H' ((p13, .lst vs15_0) :: (p6, .lst vs15_1) :: os) ∧ A2 (rep K F') vs15_0 g15.2.1 ∧ A2 (rep K F') vs15_1 g15.2.2) ⟨_, _, _, _, rfl, Same.refl _, w13, h12, h9⟩ ?_ ?_ ?_)
    · intro g15 σ15 H15 N15 P15 hI hN15 hm
      obtain ⟨F15, vs15_0, vs15_1, o15_5, rfl, s15, w15, h15_0, h15_1⟩ := hI
      exact ⟨_, rfl, _, rfl, _, _, _, rfl, .inl (SqL.of (w15.get (pre := []))), h15_0.length, _, _, rfl, rfl, _, rfl, hN15 _ (post_ok hm) _ ⟨_, _, _, _, rfl, s15, w15, h15_0, h15_1⟩⟩
    · intro g15 σ15 H15 N15 P15 hI hN15 hm
      obtain ⟨F15, vs15_0, vs15_1, o15_5, rfl, s15, w15, h15_0, h15_1⟩ := hI
      replace h1 := A2.mono s15 h1
      replace q1 := s15 _ _ q1
      obtain ⟨t17, e17, hm⟩ := pb_get hm
      obtain ⟨u17, f17, r17⟩ := A2.at h15_0 e17
      obtain rfl : u17 = V.int t17 := r17
      obtain ⟨t18, e18, hm⟩ := pb_get hm
      obtain ⟨u18, f18, r18⟩ := A2.at h1 e18
      obtain ⟨a19, vs19, rfl, q19, h19⟩ := r18
      refine ⟨_, rfl, _, rfl, _, rfl, _, _, _, _, rfl, rfl, SqL.of (w15.get (pre := [])), f17, _, _, _, _, rfl, rfl, SqL.of (w15.same _ _ q1), f18, _, rfl, ⟨_, SqL.of (w15.same _ _ q19)⟩, ?_⟩
      refine forS (tw_list (a := a19) h19) hm (fun (g16 : (List Int) × (List (Option Int))) σ H' => ∃ (F' : Hp) (vs16_0 : List V) (vs16_1 : List V) (o16_5 : Option V), σ = [some (.ref a1), some (.int x_place), some (.ref p6), some (.ref p13), some (.int g15.1), o16_5] ∧ Same F15 F' ∧ W F' H' ((p13, .lst vs16_0) :: (p6, .lst vs16_1) :: os) ∧ A2 (rep K F') vs16_0 g16.1 ∧ A2 (rep K F') vs16_1 g16.2) ⟨_, _, _, _, rfl, Same.refl _, w15, h15_0, h15_1⟩ (fun g σ H' hI => by obtain ⟨F', _, _, _, _, s, w, _⟩ := hI; exact SqL.of (w.same _ _ (s _ _ q19))) ?_ ?_
      · -- a turn
        intro b16 g16 x16 σ16 H16 H16' N16 P16 hI hy hN16 hm
        obtain ⟨F16, vs16_0, vs16_1, o16_5, rfl, s16, w16, h16_0, h16_1⟩ := hI
        obtain ⟨rfl, r20⟩ := hy
        obtain rfl : x16 = V.int b16 := r20
        refine stepN ?_
        try dsimp only
        refine ifOneN fun IA21 IB21 hIA21 hIB21 => ?_
        obtain ⟨t22, e22, hm⟩ := pb_get hm
        obtain ⟨u22, f22, r22⟩ := A2.at h16_1 e22
        refine ⟨_, rfl, _, rfl, _, _, _, _, rfl, rfl, SqL.of (w16.get (pre := [_])), f22, rfl, _, isN_eq r22, _, rfl, ?_⟩
        refine post_ite hm (fun k24 hm => ?_) (fun k24 hm => ?_)
        · skip
          refine hIA21 _ ?_
          try dsimp only
          refine seqN fun N25 hN25 => ?_
          obtain ⟨t26, e26, hm⟩ := pb_get hm
          obtain ⟨u26, f26, r26⟩ := A2.at h16_0 e26
          obtain rfl : u26 = V.int t26 := r26
          obtain ⟨t27, e27, hm⟩ := pb_get hm
          obtain ⟨u27, f27, r27⟩ := A2.at h16_1 e27
          obtain ⟨t29, e29, hm⟩ := pb_ofO hm
          have r29 : rep K F16 u27 (some t29) := e29 ▸ r27
          replace r29 : u27 = V.int t29 := r29
          subst r29
          obtain ⟨j30, l30, z30, e30, hm⟩ := pn_set hm
          refine ⟨_, rfl, _, rfl, _, rfl, _, _, _, _, rfl, rfl, SqL.of (w16.get (pre := [])), f26, _, _, _, _, rfl, rfl, SqL.of (w16.get (pre := [_])), f27, _, _, rfl, rfl, _, rfl, _, rfl, _, _, _, _, rfl, rfl, (w16.get (pre := [_])), (A2.ix h16_1 z30), ?_⟩
          have h30 : A2 (rep K F16) (vs16_1.set j30 (V.int (t29 + (1 : Int)))) l30 := e30 ▸ A2.set (rep_some rep_i) j30 h16_1
          have w31 : W F16 _ ((p13, .lst vs16_0) :: (p6, .lst (vs16_1.set j30 (V.int (t29 + (1 : Int))))) :: os) := w16.set (pre := [_])
          try dsimp only
          refine hN25 _ _ ?_
          obtain ⟨l32, z32, e32, hm⟩ := pn_app hm
          refine ⟨_, rfl, .inl ⟨rfl, _, SqL.of (w31.get (pre := []))⟩, _, rfl, _, _, _, rfl, rfl, (w31.get (pre := [])), (A2.lt h16_0 z32), ?_⟩
          have h32 : A2 (rep K F16) (vs16_0 ++ [(V.int b16)]) l32 := e32 ▸ A2.snoc h16_0 rep_i
          have w33 : W F16 _ ((p13, .lst (vs16_0 ++ [(V.int b16)])) :: (p6, .lst (vs16_1.set j30 (V.int (t29 + (1 : Int))))) :: os) := w31.set (pre := [])
          exact hN16 _ (post_ok hm) _ _ ⟨_, _, _, _, rfl, s16, w33, h32, h30⟩
        · skip
          refine hIB21 _ ?_
          exact hN16 _ (post_ok hm) _ _ ⟨_, _, _, _, rfl, s16, w16, h16_0, h16_1⟩
      intro g16 σ16 H16 hI hm
      obtain ⟨F16, vs16_0, vs16_1, o16_5, rfl, s16, w16, h16_0, h16_1⟩ := hI
      exact ⟨_, rfl, _, _, rfl, rfl, hN15 _ (post_ok hm) _ _ ⟨_, _, _, _, rfl, (s15.trans s16), w16, h16_0, h16_1⟩⟩
    intro g15 σ15 H15 hI hm
    obtain ⟨F15, vs15_0, vs15_1, o15_5, rfl, s15, w15, h15_0, h15_1⟩ := hI
    replace sF := sF.trans s15
    have w34 : W F15 _ ((p6, .lst vs15_1) :: os) := w15.drop (pre := [])
    exact ⟨_, rfl, (post_ok hm) _ _ _ _ w34 sF h15_1⟩
def sp_sorted_ties (K : Fg) : Sp := fun vs H Q E => ∃ (F : Hp) (os : List (Addr × HO)) (x_many : Int) (a_ties : Addr) (vs_ties : List V) (x_ties : (List (Int × Int))), vs = [.int x_many, .ref a_ties] ∧ W F H ((a_ties, .lst vs_ties) :: os) ∧ A2 (rep K F) vs_ties x_ties ∧ Post (sorted_ties x_many x_ties) (fun (y : (Tup (Int × Int))) => ∀ (v : V) (F' H' : Hp), W F' H' ((a_ties, .lst vs_ties) :: os) → Same F F' → rep K F' v (y : (Tup (Int × Int))) → Q v H') noX
theorem sc_sorted_ties : FnScope ["many", "ties", "found", "one", "other", "tie"] ["many", "ties"] (defScope s_sorted_ties) := ⟨rfl, rfl, rfl, by decide +kernel, rfl, by decide +kernel, by decide +kernel⟩
theorem ok_sorted_ties (T : Tx K mg A FD) : FnOk P w K mg base CX0 1 (A 12) (FD 12) ["many", "ties"] (sp_sorted_ties K) := by
  refine T.d12.fn.ok sc_sorted_ties (fun vs H Q E h => ?_) (fun cdv Ar outer s H vs Q E hr h => ?_)
  · obtain ⟨F, os, x_many, a_ties, vs_ties, x_ties, rfl, _⟩ := h
    rfl
  · obtain ⟨F0, os, x_many, a_ties, vs_ties, x_ties, rfl, w0, h_ties, hm⟩ := h
    have sF : Same F0 F0 := Same.refl _
    refine ⟨_, (pss_cons (ps_set (i := 2) sc_sorted_ties.nd rfl (Or.inl rfl) (pe_lst pa_nil)) (pss_cons (ps_for PassesOwn.never rfl (pi_listK (K := K) rfl (pv 1)) (pg_k (K := K) (t := fun K => gTup K 2 _) rfl (pg_tup (n := 2) rfl (pgs_cons (pg_name (i := 3) sc_sorted_ties.nd rfl (Or.inl rfl)) (pgs_cons (pg_name (i := 4) sc_sorted_ties.nd rfl (Or.inl rfl)) pgs_nil)))) (pss_cons (ps_set (i := 5) sc_sorted_ties.nd rfl (Or.inl rfl) (pe_tup (pa_cons (pe_callB (call_min2 rfl) (by rfl) T.n_min (by decide +kernel) (pa_cons (pv 3) (pa_cons (pv 4) pa_nil))) (pa_cons (pe_callB (call_max2 rfl) (by rfl) T.n_max (by decide +kernel) (pa_cons (pv 3) (pa_cons (pv 4) pa_nil))) pa_nil)))) (pss_cons (ps_if (PW.pt (pw_or (pt_cmp (pc_lt (pe_ix (ix_tupK (K := K) rfl) (pv 5) pe_int (fun _ _ => rfl)) pe_int)) (pw_or (pt_cmp (pc_ge (pe_ix (ix_tupK (K := K) rfl) (pv 5) pe_int (fun _ _ => rfl)) (pv 0))) (pw_or (pt_cmp (pc_eqI (pv 3) (pv 4))) (pw_or1 (pt_cmpR (op_inL (K := K) rfl (Int × Int) (by decide) (Room.units65 hr)) (pv 5) (pv 2) (by rfl))))))) (pss_one ps_absurd) pss_nil) (pss_one (ps_expr (pe_bm PySem.F.plainAttrs_list PySem.F.slot_list_append PySem.F.type_list_append mt_append (pv 2) (pa_cons (pv 5) pa_nil))))))) (pss_one (ps_ret (pe_callTy (call_tuple_ofK (K := K) rfl) (by rfl) T.n_tuple (by decide +kernel) (pa_cons (pe_callB (cr_sortP (K := K) rfl) (by rfl) T.n_sorted (by decide +kernel) (pa_cons (pv 2) pa_nil)) pa_nil)))))), ?_⟩
    try dsimp only
    refine seqN fun N2 hN2 => ?_
    have h3 : A2 (rep K F0) [] ([] : (List (Int × Int))) := .nil
    refine ⟨(by show 0 ≤ sizeLine; decide), fun p4 n4 => ?_⟩
    have w4 : W F0 _ ((p4, .lst []) :: (a_ties, .lst vs_ties) :: os) := w0.new n4
    refine stepN ?_
    try dsimp only
    refine hN2 _ _ ?_
    refine ⟨_, rfl, _, rfl, ⟨_, SqL.of (w4.get (pre := [_]))⟩, ?_⟩
    refine forS (tw_list (a := a_ties) h_ties) hm (fun (g5 : (List (Int × Int))) σ H' => ∃ (F' : Hp) (vs5_0 : List V) (o5_5 : Option V) (o5_3 : Option V) (o5_4 : Option V), σ = [some (.int x_many), some (.ref a_ties), some (.ref p4), o5_3, o5_4, o5_5] ∧ Same F0 F' ∧ W F' H' ((p4, .lst vs5_0) :: (a_ties, .lst vs_ties) :: os) ∧ A2 (rep K F') vs5_0 g5) ⟨_, _, _, _, _, rfl, Same.refl _, w4, h3⟩ (fun g σ H' hI => by obtain ⟨F', _, _, _, _, _, s, w, _⟩ := hI; exact SqL.of (w.get (pre := [_]))) ?_ ?_
    · -- a turn
      intro b5 g5 x5 σ5 H5 H5' N5 P5 hI hy hN5 hm
      obtain ⟨F5, vs5_0, o5_5, o5_3, o5_4, rfl, s5, w5, h5_0⟩ := hI
      obtain ⟨rfl, r6⟩ := hy
      replace r6 := Rep.mono s5 r6
      obtain ⟨a7, u7, z7, rfl, q7, r7a, r7b⟩ := r6
      obtain rfl : u7 = V.int b5.1 := r7a
      obtain rfl : z7 = V.int b5.2 := r7b
      refine ⟨_, _, rfl, SqT.of (w5.same _ _ q7), rfl, _, _, rfl, _, _, rfl, rfl, ?_⟩
      try dsimp only
      refine seqN fun N8 hN8 => ?_
      refine ⟨_, rfl, _, rfl, _, _, rfl, _, rfl, _, rfl, _, _, rfl, (by show 2 ≤ sizeLine; decide), fun p9 n9 => ?_⟩
      obtain ⟨F9, s9, w9, q9⟩ := w5.frzE (o := .tup [(.int (min2 b5.1 b5.2)), (.int (max2 b5.1 b5.2))]) n9
      replace h5_0 := A2.mono s9 h5_0
      refine stepN ?_
      try dsimp only
      refine hN8 _ _ ?_
      try dsimp only
      refine ifSeqN fun IA10 IB10 hIA10 hIB10 => ?_
      refine cutT (fun c H' => c = (((decide ((min2 b5.1 b5.2) < (0 : Int))) || ((decide (x_many ≤ (max2 b5.1 b5.2))) || ((decide (b5.1 = b5.2)) || (inB ((min2 b5.1 b5.2), (max2 b5.1 b5.2)) g5))))) ∧ ∃ F', Same F9 F' ∧ W F' H' ((p4, .lst vs5_0) :: (a_ties, .lst vs_ties) :: os)) (fun Q11 q11 => ?_) (fun c11 H11 hc11 => ?_)
      · -- the ways
        refine ⟨_, rfl, _, _, _, _, rfl, rfl, SqT.of (w9.same _ _ q9), rfl, _, _, rfl, rfl, _, rfl, ?_⟩
        refine ifB (fun k12 => ?_) (fun k12 => ?_)
        · skip
          exact q11 _ _ ⟨(by first | rfl | exact absurd k12 (by decide) | (simp [k12]; done) | ((try simp only [Bool.not_eq_true] at k12); simp only [k12, Bool.true_or, Bool.false_or, Bool.or_false, Bool.or_true, Bool.true_and, Bool.false_and, Bool.and_true, Bool.and_false])), _, Same.refl _, w9⟩
        · skip
          refine ⟨_, rfl, _, _, _, _, rfl, rfl, SqT.of (w9.same _ _ q9), rfl, _, rfl, _, _, rfl, rfl, _, rfl, ?_⟩
          refine ifB (fun k14 => ?_) (fun k14 => ?_)
          · skip
            exact q11 _ _ ⟨(by first | rfl | exact absurd k12 (by decide) | exact absurd k14 (by decide) | (simp [k12, k14]; done) | ((try simp only [Bool.not_eq_true] at k12); (try simp only [Bool.not_eq_true] at k14); simp only [k12, k14, Bool.true_or, Bool.false_or, Bool.or_false, Bool.or_true, Bool.true_and, Bool.false_and, Bool.and_true, Bool.and_false])), _, Same.refl _, w9⟩
          · skip
            refine ⟨_, rfl, _, rfl, _, _, rfl, rfl, _, rfl, ?_⟩
            refine ifB (fun k16 => ?_) (fun k16 => ?_)
            · skip
              exact q11 _ _ ⟨(by first | rfl | exact absurd k12 (by decide) | exact absurd k14 (by decide) | exact absurd k16 (by decide) | (simp [k12, k14, k16]; done) | ((try simp only [Bool.not_eq_true] at k12); (try simp only [Bool.not_eq_true] at k14); (try simp only [Bool.not_eq_true] at k16); simp only [k12, k14, k16, Bool.true_or, Bool.false_or, Bool.or_false, Bool.or_true, Bool.true_and, Bool.false_and, Bool.and_true, Bool.and_false])), _, Same.refl _, w9⟩
            · skip
              exact ⟨_, rfl, _, rfl, (((min2 b5.1 b5.2), (max2 b5.1 b5.2)) : (Int × Int)), _, (Rep.mono w9.same (rep_pair q9 rep_i rep_i)), (rep_own (pre := []) w9 h5_0), _, rfl, q11 _ _ ⟨(by first | rfl | exact absurd k12 (by decide) | exact absurd k14 (by decide) | exact absurd k16 (by decide) | (simp [k12, k14, k16]; done) | ((try simp only [Bool.not_eq_true] at k12); (try simp only [Bool.not_eq_true] at k14); (try simp only [Bool.not_eq_true] at k16); simp only [k12, k14, k16, Bool.true_or, Bool.false_or, Bool.or_false, Bool.or_true, Bool.true_and, Bool.false_and, Bool.and_true, Bool.and_false])), _, Same.refl _, w9⟩⟩
      obtain ⟨rfl, F11, s11, w11⟩ := hc11
      replace q9 := s11 _ _ q9
      replace h5_0 := A2.mono s11 h5_0
      refine post_ite hm (fun k19 hm => ?_) (fun k19 hm => ?_)
      · skip
        refine hIA10 _ ?_
        try dsimp only
        exact hm
      · skip
        refine hIB10 _ ?_
        obtain ⟨l20, z20, e20, hm⟩ := pn_app hm
        refine ⟨_, rfl, .inl ⟨rfl, _, SqL.of (w11.get (pre := []))⟩, _, rfl, _, _, _, rfl, rfl, (w11.get (pre := [])), (A2.lt h5_0 z20), ?_⟩
        have h20 : A2 (rep K F11) (vs5_0 ++ [(V.ref p9)]) l20 := e20 ▸ A2.snoc h5_0 (rep_pair q9 rep_i rep_i)
        have w21 : W F11 _ ((p4, .lst (vs5_0 ++ [(V.ref p9)])) :: (a_ties, .lst vs_ties) :: os) := w11.set (pre := [])
        exact hN5 _ (post_ok hm) _ _ ⟨_, _, _, _, _, rfl, (s5.trans (s9.trans s11)), w21, h20⟩
    intro g5 σ5 H5 hI hm
    obtain ⟨F5, vs5_0, o5_5, o5_3, o5_4, rfl, s5, w5, h5_0⟩ := hI
    refine ⟨_, rfl, _, _, F5, g5, rfl, SqL.of (w5.get (pre := [])), w5.same, h5_0, fun p22 us22 n22 h22 => ?_⟩
    have w22 : W F5 _ ((p22, .lst us22) :: (p4, .lst vs5_0) :: (a_ties, .lst vs_ties) :: os) := w5.new n22
    have h24 : A2 (rep K F5) us22 (sortP g5) := h22
    refine ⟨_, _, rfl, .inl ⟨SqL.of (w22.get (pre := [])), fun p25 n25 => ?_⟩⟩
    obtain ⟨F25, s25, w25, q25⟩ := w22.frzE (o := .tup us22) n25
    replace h24 := A2.mono s25 h24
    replace sF := sF.trans (s5.trans s25)
    have w26 : W F25 _ ((p4, .lst vs5_0) :: (a_ties, .lst vs_ties) :: os) := w25.drop (pre := [])
    have w27 : W F25 _ ((a_ties, .lst vs_ties) :: os) := w26.drop (pre := [])
    exact (post_ok hm) _ _ _ w27 sF (rep_tup q25 h24)
def sp_made_web (K : Fg) : Sp := fun vs H Q E => ∃ (F : Hp) (os : List (Addr × HO)) (x_many : Int) (a_ties : Addr) (vs_ties : List V) (x_ties : (List (Int × Int))), vs = [.int x_many, .ref a_ties] ∧ W F H ((a_ties, .lst vs_ties) :: os) ∧ A2 (rep K F) vs_ties x_ties ∧ Post (made_web x_many x_ties) (fun (y : (Int × (Tup (Int × Int)))) => ∀ (v : V) (F' H' : Hp), W F' H' ((a_ties, .lst vs_ties) :: os) → Same F F' → rep K F' v (y : (Int × (Tup (Int × Int)))) → Q v H') noX
theorem sc_made_web : FnScope ["many", "ties", "web", "fars", "place"] ["many", "ties"] (defScope s_made_web) := ⟨rfl, rfl, rfl, by decide +kernel, rfl, by decide +kernel, by decide +kernel⟩
theorem ok_made_web (T : Tx K mg A FD) : FnOk P w K mg base CX0 2 (A 13) (FD 13) ["many", "ties"] (sp_made_web K) := by
  refine T.d13.fn.ok sc_made_web (fun vs H Q E h => ?_) (fun cdv Ar outer s H vs Q E hr h => ?_)
  · obtain ⟨F, os, x_many, a_ties, vs_ties, x_ties, rfl, _⟩ := h
    rfl
  · obtain ⟨F0, os, x_many, a_ties, vs_ties, x_ties, rfl, w0, h_ties, hm⟩ := h
    have sF : Same F0 F0 := Same.refl _
    refine ⟨_, (pss_cons (ps_if (pt_not (pt_chain op_le op_le pe_int (pv 0) (pe_globI (by rfl) T.c_MOST_PLACES_webs))) (pss_one ps_absurd) pss_nil) (pss_cons (ps_set (i := 2) sc_made_web.nd rfl (Or.inl rfl) (pe_tup (pa_cons (pv 0) (pa_cons (pe_call (ok_sorted_ties T) (hr.mono (by decide)) (by rfl) T.d12.mg T.d12.fn.kp T.d12.b .nil pass0 (pa_cons (pv 0) (pa_cons (pv 1) pa_nil))) pa_nil)))) (pss_cons (ps_set (i := 3) sc_made_web.nd rfl (Or.inl rfl) (pe_call (ok_fars_by T) (hr.mono (by decide)) (by rfl) T.d11.mg T.d11.fn.kp T.d11.b .nil pass0 (pa_cons (pe_call (ok_near_lists T) (hr.mono (by decide)) (by rfl) T.d10.mg T.d10.fn.kp T.d10.b .nil pass0 (pa_cons (pv 2) pa_nil)) (pa_cons pe_int pa_nil)))) (pss_cons (ps_for PassesOwn.never rfl (pi_range1 (by rfl) T.n_range (pa_cons (pv 0) pa_nil)) (pg_name (i := 4) sc_made_web.nd rfl (Or.inl rfl)) (pss_one (ps_if (pt_cmpR op_isN2 (pe_ix (ix_listK (K := K) rfl) (pv 3) (pv 4) (fun _ _ => rfl)) pe_non (nomark _)) (pss_one ps_absurd) pss_nil))) (pss_one (ps_ret (pv 2))))))), ?_⟩
    try dsimp only
    refine ifSeqN fun IA2 IB2 hIA2 hIB2 => ?_
    refine stepNot ?_
    refine cutT (fun c H' => c = ((decide ((1 : Int) ≤ x_many)) && (decide (x_many ≤ (60 : Int)))) ∧ ∃ F', Same F0 F' ∧ W F' H' ((a_ties, .lst vs_ties) :: os)) (fun Q3 q3 => ?_) (fun c3 H3 hc3 => ?_)
    · -- the ways
      refine ⟨_, rfl, _, _, rfl, rfl, _, rfl, ?_⟩
      refine ifB (fun k4 => ?_) (fun k4 => ?_)
      · skip
        exact ⟨_, _, rfl, rfl, _, rfl, q3 _ _ ⟨(by first | rfl | exact absurd k4 (by decide) | (simp [k4]; done) | ((try simp only [Bool.not_eq_true] at k4); simp only [k4, Bool.true_or, Bool.false_or, Bool.or_false, Bool.or_true, Bool.true_and, Bool.false_and, Bool.and_true, Bool.and_false])), _, Same.refl _, w0⟩⟩
      · skip
        exact ⟨_, rfl, q3 _ _ ⟨(by first | rfl | exact absurd k4 (by decide) | (simp [k4]; done) | ((try simp only [Bool.not_eq_true] at k4); simp only [k4, Bool.true_or, Bool.false_or, Bool.or_false, Bool.or_true, Bool.true_and, Bool.false_and, Bool.and_true, Bool.and_false])), _, Same.refl _, w0⟩⟩
    obtain ⟨rfl, F3, s3, w3⟩ := hc3
    replace h_ties := A2.mono s3 h_ties
    replace sF := sF.trans s3
    refine post_ite hm (fun k7 hm => ?_) (fun k7 hm => ?_)
    · skip
      refine hIA2 _ ?_
      try dsimp only
      exact hm
    · skip
      refine hIB2 _ ?_
      refine stepX ?_
      try dsimp only
      refine seqN fun N8 hN8 => ?_
      refine ⟨_, rfl, _, rfl, _, rfl, _, _, _, _, _, _, rfl, w3, h_ties, ?_⟩
      refine (post_bind hm).mono (fun y9 hm v9 F9 H9 w9 s9 r9 => ?_) (fun _ z => z)
      obtain ⟨a10, vs10, rfl, q10, h10⟩ := r9
      refine ⟨(by show 2 ≤ sizeLine; decide), fun p11 n11 => ?_⟩
      obtain ⟨F11, s11, w11, q11⟩ := w9.frzE (o := .tup [(.int x_many), (.ref a10)]) n11
      replace q10 := s11 _ _ q10
      replace h10 := A2.mono s11 h10
      refine stepN ?_
      try dsimp only
      refine hN8 _ _ ?_
      try dsimp only
      refine seqN fun N12 hN12 => ?_
      refine ⟨_, rfl, _, _, _, ((x_many, y9) : (Int × (Tup (Int × Int)))), rfl, w11, (rep_pair q11 rep_i (rep_tup q10 h10)), ?_⟩
      refine (post_bind hm).mono (fun y13 hm v13 F13 H13 w13 s13 r13 => ?_) (fun _ z => z)
      obtain ⟨a14, vs14, rfl, q14, h14⟩ := r13
      refine ⟨_, _, _, (y13 : (List (List Int))), _, rfl, w13, (rep_lst q14 h14), ?_⟩
      refine (post_bind hm).mono (fun y15 hm p15 us15 F15 H15 w15 s15 g15 => ?_) (fun _ z => z)
      obtain ⟨F17, s17, w17, q17⟩ : ∃ F', Same F15 F' ∧ W F' _ ((a_ties, .lst vs_ties) :: os) ∧ F' p15 = some (.lst us15) := w15.freezeE (pre := [])
      replace g15 := A2.mono s17 g15
      refine stepN ?_
      try dsimp only
      refine hN12 _ _ ?_
      obtain ⟨c19, hm⟩ := pb_rng hm
      refine ⟨_, rfl, _, rfl, c19.2.2.1, c19.2.2.2, ?_⟩
      refine forS (tw_rng0 (j := x_many)) hm (fun (g18 : Unit) σ H' => ∃ (F' : Hp) (o18_4 : Option V), σ = [some (.int x_many), some (.ref a_ties), some (.ref p11), some (.ref p15), o18_4] ∧ Same F17 F' ∧ W F' H' ((a_ties, .lst vs_ties) :: os)) ⟨_, _, rfl, Same.refl _, w17⟩ (fun _ _ _ _ => trivial) ?_ ?_
      · -- a turn
        intro b18 g18 x18 σ18 H18 H18' N18 P18 hI hy hN18 hm
        obtain ⟨F18, o18_4, rfl, s18, w18⟩ := hI
        replace g15 := A2.mono s18 g15
        replace q17 := s18 _ _ q17
        obtain ⟨rfl, rfl⟩ := hy
        refine stepN ?_
        try dsimp only
        refine ifOneN fun IA20 IB20 hIA20 hIB20 => ?_
        obtain ⟨t21, e21, hm⟩ := pb_get hm
        obtain ⟨u21, f21, r21⟩ := A2.at g15 e21
        refine ⟨_, rfl, _, rfl, _, _, _, _, rfl, rfl, SqL.of (w18.same _ _ q17), f21, rfl, _, isN_eq r21, _, rfl, ?_⟩
        refine post_ite hm (fun k23 hm => ?_) (fun k23 hm => ?_)
        · skip
          refine hIA20 _ ?_
          try dsimp only
          exact hm
        · skip
          refine hIB20 _ ?_
          exact hN18 _ (post_ok hm) _ _ ⟨_, _, rfl, s18, w18⟩
      intro g18 σ18 H18 hI hm
      obtain ⟨F18, o18_4, rfl, s18, w18⟩ := hI
      replace q11 := (s13.trans (s15.trans (s17.trans s18))) _ _ q11
      replace h10 := A2.mono (s13.trans (s15.trans (s17.trans s18))) h10
      replace q10 := (s13.trans (s15.trans (s17.trans s18))) _ _ q10
      replace sF := sF.trans (s9.trans (s11.trans (s13.trans (s15.trans (s17.trans s18)))))
      exact ⟨_, rfl, (post_ok hm) _ _ _ w18 sF (rep_pair q11 rep_i (rep_tup q10 h10))⟩
def sp_place_asked (K : Fg) : Sp := fun vs H Q E => ∃ (F : Hp) (os : List (Addr × HO)) (v_web : V) (x_web : (Int × (Tup (Int × Int)))) (x_place : Int), vs = [v_web, .int x_place] ∧ W F H (os) ∧ rep K F v_web x_web ∧ Post (place_asked x_web x_place) (Ret K F os Q) noX
theorem sc_place_asked : FnScope ["web", "place"] ["web", "place"] (defScope s_place_asked) := ⟨rfl, rfl, rfl, by decide +kernel, rfl, by decide +kernel, by decide +kernel⟩
theorem ok_place_asked (T : Tx K mg A FD) : FnOk P w K mg base CX0 1 (A 14) (FD 14) ["web", "place"] (sp_place_asked K) := by
  refine T.d14.fn.ok sc_place_asked (fun vs H Q E h => ?_) (fun cdv Ar outer s H vs Q E hr h => ?_)
  · obtain ⟨F, os, v_web, x_web, x_place, rfl, _⟩ := h
    rfl
  · obtain ⟨F0, os, v_web, x_web, x_place, rfl, w0, r_web, hm⟩ := h
    have sF : Same F0 F0 := Same.refl _
    obtain ⟨a1, u1, z1, rfl, q1, r1a, r1b⟩ := r_web
    obtain rfl : u1 = V.int x_web.1 := r1a
    obtain ⟨a2, vs2, rfl, q2, h2⟩ := r1b
    refine ⟨_, (pss_one (ps_if (pt_not (pt_chain op_le op_lt pe_int (pv 1) (pe_ix (ix_tupK (K := K) rfl) (pv 0) pe_int (fun _ _ => rfl)))) (pss_one ps_absurd) pss_nil)), ?_⟩
    try dsimp only
    refine ifOneN fun IA3 IB3 hIA3 hIB3 => ?_
    refine stepNot ?_
    refine cutT (fun c H' => c = ((decide ((0 : Int) ≤ x_place)) && (decide (x_place < x_web.1))) ∧ ∃ F', Same F0 F' ∧ W F' H' (os)) (fun Q4 q4 => ?_) (fun c4 H4 hc4 => ?_)
    · -- the ways
      refine ⟨_, rfl, _, _, rfl, rfl, _, rfl, ?_⟩
      refine ifB (fun k5 => ?_) (fun k5 => ?_)
      · skip
        exact ⟨_, rfl, _, _, _, _, rfl, rfl, SqT.of (w0.same _ _ q1), rfl, _, _, rfl, rfl, _, rfl, q4 _ _ ⟨(by first | rfl | exact absurd k5 (by decide) | (simp [k5]; done) | ((try simp only [Bool.not_eq_true] at k5); simp only [k5, Bool.true_or, Bool.false_or, Bool.or_false, Bool.or_true, Bool.true_and, Bool.false_and, Bool.and_true, Bool.and_false])), _, Same.refl _, w0⟩⟩
      · skip
        exact ⟨_, rfl, q4 _ _ ⟨(by first | rfl | exact absurd k5 (by decide) | (simp [k5]; done) | ((try simp only [Bool.not_eq_true] at k5); simp only [k5, Bool.true_or, Bool.false_or, Bool.or_false, Bool.or_true, Bool.true_and, Bool.false_and, Bool.and_true, Bool.and_false])), _, Same.refl _, w0⟩⟩
    obtain ⟨rfl, F4, s4, w4⟩ := hc4
    replace sF := sF.trans s4
    refine post_ite hm (fun k8 hm => ?_) (fun k8 hm => ?_)
    · skip
      refine hIA3 _ ?_
      try dsimp only
      exact hm
    · skip
      refine hIB3 _ ?_
      exact (post_ok hm) _ _ _ w4 sF rep_n
def sp_neighbours_of (K : Fg) : Sp := fun vs H Q E => ∃ (F : Hp) (os : List (Addr × HO)) (v_web : V) (x_web : (Int × (Tup (Int × Int)))) (x_place : Int), vs = [v_web, .int x_place] ∧ W F H (os) ∧ rep K F v_web x_web ∧ Post (neighbours_of x_web x_place) (Ret K F os Q) noX
theorem sc_neighbours_of : FnScope ["web", "place"] ["web", "place"] (defScope s_neighbours_of) := ⟨rfl, rfl, rfl, by decide +kernel, rfl, by decide +kernel, by decide +kernel⟩
theorem ok_neighbours_of (T : Tx K mg A FD) : FnOk P w K mg base CX0 2 (A 15) (FD 15) ["web", "place"] (sp_neighbours_of K) := by
  refine T.d15.fn.ok sc_neighbours_of (fun vs H Q E h => ?_) (fun cdv Ar outer s H vs Q E hr h => ?_)
  · obtain ⟨F, os, v_web, x_web, x_place, rfl, _⟩ := h
    rfl
  · obtain ⟨F0, os, v_web, x_web, x_place, rfl, w0, r_web, hm⟩ := h
    have sF : Same F0 F0 := Same.refl _
    obtain ⟨a1, u1, z1, rfl, q1, r1a, r1b⟩ := r_web
    obtain rfl : u1 = V.int x_web.1 := r1a
    obtain ⟨a2, vs2, rfl, q2, h2⟩ := r1b
    refine ⟨_, (pss_cons (ps_expr (pe_call (ok_place_asked T) (hr.mono (by decide)) (by rfl) T.d14.mg T.d14.fn.kp T.d14.b .nil pass0 (pa_cons (pv 0) (pa_cons (pv 1) pa_nil)))) (pss_one (ps_ret (pe_ix (ix_listK (K := K) rfl) (pe_call (ok_near_lists T) (hr.mono (by decide)) (by rfl) T.d10.mg T.d10.fn.kp T.d10.b .nil pass0 (pa_cons (pv 0) pa_nil)) (pv 1) (fun _ _ => rfl))))), ?_⟩
    try dsimp only
    refine seqN fun N3 hN3 => ?_
    refine ⟨_, rfl, _, rfl, _, _, _, (x_web : (Int × (Tup (Int × Int)))), _, rfl, w0, (rep_pair q1 rep_i (rep_tup q2 h2)), ?_⟩
    refine (post_bind hm).mono (fun y4 hm v4 F4 H4 w4 s4 r4 => ?_) (fun _ z => z)
    replace q1 := s4 _ _ q1
    replace q2 := s4 _ _ q2
    replace h2 := A2.mono s4 h2
    obtain rfl : v4 = V.non := r4
    try dsimp only
    refine hN3 _ _ ?_
    refine ⟨_, rfl, _, _, _, (x_web : (Int × (Tup (Int × Int)))), rfl, w4, (rep_pair q1 rep_i (rep_tup q2 h2)), ?_⟩
    refine (post_bind hm).mono (fun y5 hm v5 F5 H5 w5 s5 r5 => ?_) (fun _ z => z)
    replace sF := sF.trans (s4.trans s5)
    obtain ⟨a6, vs6, rfl, q6, h6⟩ := r5
    obtain ⟨t7, e7, hm⟩ := pb_get hm
    obtain ⟨u7, f7, r7⟩ := A2.at h6 e7
    obtain ⟨a8, vs8, rfl, q8, h8⟩ := r7
    exact ⟨_, rfl, _, _, _, _, rfl, rfl, SqL.of (w5.same _ _ q6), f7, (post_ok hm) _ _ _ w5 sF (rep_lst q8 h8)⟩
def sp_fars_from (K : Fg) : Sp := fun vs H Q E => ∃ (F : Hp) (os : List (Addr × HO)) (v_web : V) (x_web : (Int × (Tup (Int × Int)))) (x_place : Int), vs = [v_web, .int x_place] ∧ W F H (os) ∧ rep K F v_web x_web ∧ Post (fars_from x_web x_place) (RetL K F os Q) noX
theorem sc_fars_from : FnScope ["web", "place"] ["web", "place"] (defScope s_fars_from) := ⟨rfl, rfl, rfl, by decide +kernel, rfl, by decide +kernel, by decide +kernel⟩
theorem ok_fars_from (T : Tx K mg A FD) : FnOk P w K mg base CX0 2 (A 16) (FD 16) ["web", "place"] (sp_fars_from K) := by
  refine T.d16.fn.ok sc_fars_from (fun vs H Q E h => ?_) (fun cdv Ar outer s H vs Q E hr h => ?_)
  · obtain ⟨F, os, v_web, x_web, x_place, rfl, _⟩ := h
    rfl
  · obtain ⟨F0, os, v_web, x_web, x_place, rfl, w0, r_web, hm⟩ := h
    have sF : Same F0 F0 := Same.refl _
    obtain ⟨a1, u1, z1, rfl, q1, r1a, r1b⟩ := r_web
    obtain rfl : u1 = V.int x_web.1 := r1a
    obtain ⟨a2, vs2, rfl, q2, h2⟩ := r1b
    refine ⟨_, (pss_cons (ps_expr (pe_call (ok_place_asked T) (hr.mono (by decide)) (by rfl) T.d14.mg T.d14.fn.kp T.d14.b .nil pass0 (pa_cons (pv 0) (pa_cons (pv 1) pa_nil)))) (pss_one (ps_ret (pe_call (ok_fars_by T) (hr.mono (by decide)) (by rfl) T.d11.mg T.d11.fn.kp T.d11.b .nil pass0 (pa_cons (pe_call (ok_near_lists T) (hr.mono (by decide)) (by rfl) T.d10.mg T.d10.fn.kp T.d10.b .nil pass0 (pa_cons (pv 0) pa_nil)) (pa_cons (pv 1) pa_nil)))))), ?_⟩
    try dsimp only
    refine seqN fun N3 hN3 => ?_
    refine ⟨_, rfl, _, rfl, _, _, _, (x_web : (Int × (Tup (Int × Int)))), _, rfl, w0, (rep_pair q1 rep_i (rep_tup q2 h2)), ?_⟩
    refine (post_bind hm).mono (fun y4 hm v4 F4 H4 w4 s4 r4 => ?_) (fun _ z => z)
    replace q1 := s4 _ _ q1
    replace q2 := s4 _ _ q2
    replace h2 := A2.mono s4 h2
    obtain rfl : v4 = V.non := r4
    try dsimp only
    refine hN3 _ _ ?_
    refine ⟨_, rfl, _, _, _, (x_web : (Int × (Tup (Int × Int)))), rfl, w4, (rep_pair q1 rep_i (rep_tup q2 h2)), ?_⟩
    refine (post_bind hm).mono (fun y5 hm v5 F5 H5 w5 s5 r5 => ?_) (fun _ z => z)
    obtain ⟨a6, vs6, rfl, q6, h6⟩ := r5
    refine ⟨_, rfl, _, _, _, (y5 : (List (List Int))), _, rfl, w5, (rep_lst q6 h6), ?_⟩
    refine (post_bind hm).mono (fun y7 hm p7 us7 F7 H7 w7 s7 g7 => ?_) (fun _ z => z)
    replace sF := sF.trans (s4.trans (s5.trans s7))
    obtain ⟨l9, e9, hm⟩ := pb_allS hm
    have h9 : A2 (rep K F7) us7 l9 := A2.unsome (e9 ▸ g7)
    exact (post_ok hm) _ _ _ _ w7 sF h9
def sp_few_places (K : Fg) : Sp := fun vs H Q E => ∃ (F : Hp) (os : List (Addr × HO)) (v_web : V) (x_web : (Int × (Tup (Int × Int)))), vs = [v_web] ∧ W F H (os) ∧ rep K F v_web x_web ∧ Post (few_places x_web) (Ret K F os Q) noX
theorem sc_few_places : FnScope ["web"] ["web"] (defScope s_few_places) := ⟨rfl, rfl, rfl, by decide +kernel, rfl, by decide +kernel, by decide +kernel⟩
theorem ok_few_places (T : Tx K mg A FD) : FnOk P w K mg base CX0 1 (A 20) (FD 20) ["web"] (sp_few_places K) := by
  refine T.d20.fn.ok sc_few_places (fun vs H Q E h => ?_) (fun cdv Ar outer s H vs Q E hr h => ?_)
  · obtain ⟨F, os, v_web, x_web, rfl, _⟩ := h
    rfl
  · obtain ⟨F0, os, v_web, x_web, rfl, w0, r_web, hm⟩ := h
    have sF : Same F0 F0 := Same.refl _
    obtain ⟨a1, u1, z1, rfl, q1, r1a, r1b⟩ := r_web
    obtain rfl : u1 = V.int x_web.1 := r1a
    obtain ⟨a2, vs2, rfl, q2, h2⟩ := r1b
    refine ⟨_, (pss_one (ps_if (pt_not (pt_chain op_le op_le (pe_globI (by rfl) T.c_LEAST_PLACES) (pe_ix (ix_tupK (K := K) rfl) (pv 0) pe_int (fun _ _ => rfl)) (pe_globI (by rfl) T.c_MOST_PLACES_hunts))) (pss_one ps_absurd) pss_nil)), ?_⟩
    try dsimp only
    refine ifOneN fun IA3 IB3 hIA3 hIB3 => ?_
    refine stepNot ?_
    refine cutT (fun c H' => c = ((decide ((2 : Int) ≤ x_web.1)) && (decide (x_web.1 ≤ (7 : Int)))) ∧ ∃ F', Same F0 F' ∧ W F' H' (os)) (fun Q4 q4 => ?_) (fun c4 H4 hc4 => ?_)
    · -- the ways
      refine ⟨_, rfl, _, _, _, _, rfl, rfl, SqT.of (w0.same _ _ q1), rfl, _, _, rfl, rfl, _, rfl, ?_⟩
      refine ifB (fun k5 => ?_) (fun k5 => ?_)
      · skip
        exact ⟨_, _, rfl, rfl, _, rfl, q4 _ _ ⟨(by first | rfl | exact absurd k5 (by decide) | (simp [k5]; done) | ((try simp only [Bool.not_eq_true] at k5); simp only [k5, Bool.true_or, Bool.false_or, Bool.or_false, Bool.or_true, Bool.true_and, Bool.false_and, Bool.and_true, Bool.and_false])), _, Same.refl _, w0⟩⟩
      · skip
        exact ⟨_, rfl, q4 _ _ ⟨(by first | rfl | exact absurd k5 (by decide) | (simp [k5]; done) | ((try simp only [Bool.not_eq_true] at k5); simp only [k5, Bool.true_or, Bool.false_or, Bool.or_false, Bool.or_true, Bool.true_and, Bool.false_and, Bool.and_true, Bool.and_false])), _, Same.refl _, w0⟩⟩
    obtain ⟨rfl, F4, s4, w4⟩ := hc4
    replace sF := sF.trans s4
    refine post_ite hm (fun k8 hm => ?_) (fun k8 hm => ?_)
    · skip
      refine hIA3 _ ?_
      try dsimp only
      exact hm
    · skip
      refine hIB3 _ ?_
      exact (post_ok hm) _ _ _ w4 sF rep_n
def sp_table_by (K : Fg) : Sp := fun vs H Q E => ∃ (F : Hp) (os : List (Addr × HO)) (v_web : V) (x_web : (Int × (Tup (Int × Int)))), vs = [v_web] ∧ W F H (os) ∧ rep K F v_web x_web ∧ Post (table_by x_web) (Ret K F os Q) noX
theorem sc_table_by : FnScope ["web", "place"] ["web"] (defScope s_table_by) := ⟨rfl, rfl, rfl, by decide +kernel, rfl, by decide +kernel, by decide +kernel⟩
theorem ok_table_by (T : Tx K mg A FD) : FnOk P w K mg base CX0 3 (A 21) (FD 21) ["web"] (sp_table_by K) := by
  refine T.d21.fn.ok sc_table_by (fun vs H Q E h => ?_) (fun cdv Ar outer s H vs Q E hr h => ?_)
  · obtain ⟨F, os, v_web, x_web, rfl, _⟩ := h
    rfl
  · obtain ⟨F0, os, v_web, x_web, rfl, w0, r_web, hm⟩ := h
    have sF : Same F0 F0 := Same.refl _
    obtain ⟨a1, u1, z1, rfl, q1, r1a, r1b⟩ := r_web
    obtain rfl : u1 = V.int x_web.1 := r1a
    obtain ⟨a2, vs2, rfl, q2, h2⟩ := r1b
    refine ⟨_, (pss_one (ps_ret (pe_lc (own := [("place", 1)]) (g := gName 1) (by rfl) sc_table_by.nd (pi_range1 (by rfl) T.n_range (pa_cons (pe_ix (ix_tupK (K := K) rfl) (pv 0) pe_int (fun _ _ => rfl)) pa_nil)) (blkOk_by (own := [("place", 1)]) (N := ["web", "place"]) (sc := defScope s_table_by) (by decide +kernel)) (fun _ _ _ _ _ => (pg_name (i := 1) sc_table_by.nd rfl (Or.inl rfl))) (fun _ _ _ _ _ => pts_nil) (fun _ _ _ _ _ => (pe_call (ok_fars_from T) (hr.mono (by decide)) (by rfl) T.d16.mg T.d16.fn.kp T.d16.b .nil pass0 (pa_cons (pv 0) (pa_cons (pv 1) pa_nil))))))), ?_⟩
    obtain ⟨c3, hm⟩ := pb_rng hm
    refine ⟨_, rfl, _, _, _, _, rfl, rfl, SqT.of (w0.same _ _ q1), rfl, _, rfl, c3.2.2.1, c3.2.2.2, fun D4 nD4 => ?_⟩
    refine lcM (K := K) (tw_rng0 (j := x_web.1)) hm w0 nD4 (fun F' H' acc s w => trivial) ?_ ?_
    · -- one turn
      intro b4 x4 F4 H4 H4' acc4 N4 P4 s4 w4 y4 hN4 hm
      replace q1 := s4 _ _ q1
      replace q2 := s4 _ _ q2
      replace h2 := A2.mono s4 h2
      obtain ⟨rfl, rfl⟩ := y4
      refine ⟨rfl, _, rfl, _, rfl, _, _, _, (x_web : (Int × (Tup (Int × Int)))), _, rfl, w4, (rep_pair q1 rep_i (rep_tup q2 h2)), ?_⟩
      refine (post_bind hm).mono (fun y6 hm p6 us6 F6 H6 w6 s6 g6 => ?_) (fun _ z => z)
      obtain ⟨F8, s8, w8, q8⟩ : ∃ F', Same F6 F' ∧ W F' _ ((D4, .lst acc4) :: os) ∧ F' p6 = some (.lst us6) := w6.freezeE (pre := [])
      replace g6 := A2.mono s8 g6
      exact hN4 _ (post_ok hm) _ _ _ w8 (s6.trans s8) (rep_lst q8 g6)
    intro us4 F4 H4 ys4 s4 w4 gg4 hm
    obtain ⟨F10, s10, w10, q10⟩ : ∃ F', Same F4 F' ∧ W F' _ (os) ∧ F' D4 = some (.lst us4) := w4.freezeE (pre := [])
    replace gg4 := A2.mono s10 gg4
    replace sF := sF.trans (s4.trans s10)
    exact (post_ok hm) _ _ _ w10 sF (rep_lst q10 gg4)
def sp_looks_of (K : Fg) : Sp := fun vs H Q E => ∃ (F : Hp) (os : List (Addr × HO)) (x_places : Int) (x_many : Int), vs = [.int x_places, .int x_many] ∧ W F H (os) ∧ Post (looks_of x_places x_many) (Ret K F os Q) noX
theorem sc_looks_of : FnScope ["places", "many", "found", "place", "some"] ["places", "many"] (defScope s_looks_of) := ⟨rfl, rfl, rfl, by decide +kernel, rfl, by decide +kernel, by decide +kernel⟩
theorem ok_looks_of (T : Tx K mg A FD) : FnOk P w K mg base CX0 1 (A 22) (FD 22) ["places", "many"] (sp_looks_of K) := by
  refine T.d22.fn.ok sc_looks_of (fun vs H Q E h => ?_) (fun cdv Ar outer s H vs Q E hr h => ?_)
  · obtain ⟨F, os, x_places, x_many, rfl, _⟩ := h
    rfl
  · obtain ⟨F0, os, x_places, x_many, rfl, w0, hm⟩ := h
    have sF : Same F0 F0 := Same.refl _
    refine ⟨_, (pss_cons (ps_set (i := 2) sc_looks_of.nd rfl (Or.inl rfl) (pe_lst (pa_cons (pe_tup pa_nil) pa_nil))) (pss_cons (ps_for PassesOwn.never rfl (pi_range1 (by rfl) T.n_range (pa_cons (pv 0) pa_nil)) (pg_name (i := 3) sc_looks_of.nd rfl (Or.inr rfl)) (pss_one (ps_set (i := 2) sc_looks_of.nd rfl (Or.inl rfl) (pe_op op_cat (pv 2) (pe_lc (own := [("some", 4)]) (g := gName 4) (by rfl) sc_looks_of.nd (pi_listK (K := K) rfl (pv 2)) (blkOk_by (own := [("some", 4)]) (N := ["places", "many", "found", "place", "some"]) (sc := defScope s_looks_of) (by decide +kernel)) (fun _ _ _ _ _ => (pg_name (i := 4) sc_looks_of.nd rfl (Or.inl rfl))) (fun _ _ _ _ _ => (pts_one (pt_cmp (pc_lt (pe_callB (call_lenN (K := K) rfl) (by rfl) T.n_len (by decide +kernel) (pa_cons (pv 4) pa_nil)) (pv 1))))) (fun _ _ _ _ _ => (pe_op (op_catU (K := K) rfl) (pv 4) (pe_tup (pa_cons (pv 3) pa_nil))))))))) (pss_one (ps_ret (pe_lc (own := [("some", 4)]) (g := gName 4) (by rfl) sc_looks_of.nd (pi_listK (K := K) rfl (pv 2)) (blkOk_by (own := [("some", 4)]) (N := ["places", "many", "found", "place", "some"]) (sc := defScope s_looks_of) (by decide +kernel)) (fun _ _ _ _ _ => (pg_name (i := 4) sc_looks_of.nd rfl (Or.inl rfl))) (fun _ _ _ _ _ => (pts_one (pt_cmp (pc_eqI (pe_callB (call_lenN (K := K) rfl) (by rfl) T.n_len (by decide +kernel) (pa_cons (pv 4) pa_nil)) (pe_callB (call_min2 rfl) (by rfl) T.n_min (by decide +kernel) (pa_cons (pv 1) (pa_cons (pv 0) pa_nil))))))) (fun _ _ _ _ _ => (pv 4))))))), ?_⟩
    try dsimp only
    refine seqN fun N1 hN1 => ?_
    have h2 : A2 (rep K F0) [] (Tup.mk [] : (Tup Int)).l := .nil
    refine ⟨(by show 0 ≤ sizeLine; decide), fun p3 n3 => ?_⟩
    obtain ⟨F3, s3, w3, q3⟩ := w0.frzE (o := .tup []) n3
    replace h2 := A2.mono s3 h2
    have h4 : A2 (rep K F3) [(.ref p3)] ([(Tup.mk [] : (Tup Int))] : (List (Tup Int))) := .cons (rep_tup q3 h2) (.nil)
    refine ⟨(by show 1 ≤ sizeLine; decide), fun p5 n5 => ?_⟩
    have w5 : W F3 _ ((p5, .lst [(.ref p3)]) :: os) := w3.new n5
    obtain ⟨F6, s6, w6, q6⟩ : ∃ F', Same F3 F' ∧ W F' _ (os) ∧ F' p5 = some (.lst [(.ref p3)]) := w5.freezeE (pre := [])
    replace h4 := A2.mono s6 h4
    refine stepN ?_
    try dsimp only
    refine hN1 _ _ ?_
    obtain ⟨c8, hm⟩ := pb_rng hm
    refine ⟨_, rfl, _, rfl, c8.2.2.1, c8.2.2.2, ?_⟩
    refine forS (tw_rng0 (j := x_places)) hm (fun (g7 : (List (Tup Int))) σ H' => ∃ (F' : Hp) (v7_2 : V) (o7_3 : Option V), σ = [some (.int x_places), some (.int x_many), some v7_2, o7_3, none] ∧ Same F6 F' ∧ W F' H' (os) ∧ rep K F' v7_2 (g7 : (List (Tup Int)))) ⟨_, _, _, rfl, Same.refl _, w6, (rep_lst q6 h4)⟩ (fun _ _ _ _ => trivial) ?_ ?_
    · -- a turn
      intro b7 g7 x7 σ7 H7 H7' N7 P7 hI hy hN7 hm
      obtain ⟨F7, v7_2, o7_3, rfl, s7, w7, r7_2⟩ := hI
      obtain ⟨a9, vs9, rfl, q9, h9⟩ := r7_2
      obtain ⟨rfl, rfl⟩ := hy
      refine ⟨_, rfl, _, rfl, _, rfl, ⟨_, SqL.of (w7.same _ _ q9)⟩, fun D10 nD10 => ?_⟩
      refine lcF (K := K) (tw_list (a := a9) h9) hm w7 nD10 (fun F' H' acc s w => SqL.of (w.same _ _ (s _ _ q9))) ?_ ?_
      · -- one turn
        intro b10 x10 F10 H10 H10' acc10 N10 M10 P10 s10 w10 y10 hN10 hM10 hm
        obtain ⟨rfl, r12⟩ := y10
        replace r12 := Rep.mono s10 r12
        obtain ⟨a13, vs13, rfl, q13, h13⟩ := r12
        refine ⟨rfl, _, rfl, _, _, _, rfl, .inr (SqT.of (w10.same _ _ q13)), h13.length, _, rfl, _, _, rfl, rfl, _, rfl, ?_⟩
        refine post_ite hm (fun k14 hm => ?_) (fun k14 hm => ?_)
        · skip
          have h15 : A2 (rep K F10) [(.int b7)] (Tup.mk [b7] : (Tup Int)).l := .cons rep_i (.nil)
          refine ⟨_, rfl, _, rfl, (by show 1 ≤ sizeLine; decide), fun p16 n16 => ?_⟩
          obtain ⟨F16, s16, w16, q16⟩ := w10.frzE (o := .tup [(.int b7)]) n16
          replace q13 := s16 _ _ q13
          replace h13 := A2.mono s16 h13
          replace h15 := A2.mono s16 h15
          obtain ⟨l17, z17, e17, hm⟩ := pn_extend hm
          have h17 : A2 (rep K F16) (vs13 ++ [(.int b7)]) l17 := e17 ▸ A2.append h13 h15
          refine ⟨_, _, _, _, _, _, rfl, rfl, w16, q13, q16, (A2.le2 h13 h15 z17), fun p17 F17 H17 s17 w17 q17 => ?_⟩
          replace h17 := A2.mono s17 h17
          exact hN10 _ (post_ok hm) _ _ _ w17 (s16.trans s17) (rep_tup q17 h17)
        · skip
          exact hM10 (post_ok hm) _ _ w10 (Same.refl _)
      intro us10 F10 H10 ys10 s10 w10 gg10 hm
      replace h9 := A2.mono s10 h9
      replace q9 := s10 _ _ q9
      obtain ⟨l19, z19, e19, hm⟩ := pn_extend hm
      have h19 : A2 (rep K F10) (vs9 ++ us10) l19 := e19 ▸ A2.append h9 gg10
      refine ⟨_, _, _, _, rfl, rfl, (w10.same _ _ q9), (w10.get (pre := [])), (A2.le2 h9 gg10 z19), fun p20 n20 => ?_⟩
      have w20 : W F10 _ ((p20, .lst (vs9 ++ us10)) :: (D10, .lst us10) :: os) := w10.new n20
      obtain ⟨F21, s21, w21, q21⟩ : ∃ F', Same F10 F' ∧ W F' _ ((D10, .lst us10) :: os) ∧ F' p20 = some (.lst (vs9 ++ us10)) := w20.freezeE (pre := [])
      replace h19 := A2.mono s21 h19
      have w22 : W F21 _ (os) := w21.drop (pre := [])
      exact hN7 _ (post_ok hm) _ _ ⟨_, _, _, rfl, (s7.trans (s10.trans s21)), w22, (rep_lst q21 h19)⟩
    intro g7 σ7 H7 hI hm
    obtain ⟨F7, v7_2, o7_3, rfl, s7, w7, r7_2⟩ := hI
    obtain ⟨a23, vs23, rfl, q23, h23⟩ := r7_2
    refine ⟨_, rfl, _, rfl, ⟨_, SqL.of (w7.same _ _ q23)⟩, fun D24 nD24 => ?_⟩
    refine lcF (K := K) (tw_list (a := a23) h23) hm w7 nD24 (fun F' H' acc s w => SqL.of (w.same _ _ (s _ _ q23))) ?_ ?_
    · -- one turn
      intro b24 x24 F24 H24 H24' acc24 N24 M24 P24 s24 w24 y24 hN24 hM24 hm
      obtain ⟨rfl, r26⟩ := y24
      replace r26 := Rep.mono s24 r26
      obtain ⟨a27, vs27, rfl, q27, h27⟩ := r26
      refine ⟨rfl, _, rfl, _, _, _, rfl, .inr (SqT.of (w24.same _ _ q27)), h27.length, _, rfl, _, rfl, _, _, rfl, _, _, rfl, rfl, _, rfl, ?_⟩
      refine post_ite hm (fun k28 hm => ?_) (fun k28 hm => ?_)
      · skip
        exact ⟨_, rfl, hN24 _ (post_ok hm) _ _ _ w24 (Same.refl _) (rep_tup q27 h27)⟩
      · skip
        exact hM24 (post_ok hm) _ _ w24 (Same.refl _)
    intro us24 F24 H24 ys24 s24 w24 gg24 hm
    obtain ⟨F30, s30, w30, q30⟩ : ∃ F', Same F24 F' ∧ W F' _ (os) ∧ F' D24 = some (.lst us24) := w24.freezeE (pre := [])
    replace gg24 := A2.mono s30 gg24
    replace sF := sF.trans (s3.trans (s6.trans (s7.trans (s24.trans s30))))
    exact (post_ok hm) _ _ _ w30 sF (rep_lst q30 gg24)
def sp_gone_on (K : Fg) : Sp := fun vs H Q E => ∃ (F : Hp) (os : List (Addr × HO)) (v_fars : V) (x_fars : (List (List Int))) (v_part : V) (x_part : (List Int)), vs = [v_fars, v_part] ∧ W F H (os) ∧ rep K F v_fars x_fars ∧ rep K F v_part x_part ∧ Post (gone_on x_fars x_part) (Ret K F os Q) noX
theorem sc_gone_on : FnScope ["fars", "part", "place", "one"] ["fars", "part"] (defScope s_gone_on) := ⟨rfl, rfl, rfl, by decide +kernel, rfl, by decide +kernel, by decide +kernel⟩
theorem ok_gone_on (T : Tx K mg A FD) : FnOk P w K mg base CX0 1 (A 23) (FD 23) ["fars", "part"] (sp_gone_on K) := by
  refine T.d23.fn.ok sc_gone_on (fun vs H Q E h => ?_) (fun cdv Ar outer s H vs Q E hr h => ?_)
  · obtain ⟨F, os, v_fars, x_fars, v_part, x_part, rfl, _⟩ := h
    rfl
  · obtain ⟨F0, os, v_fars, x_fars, v_part, x_part, rfl, w0, r_fars, r_part, hm⟩ := h
    have sF : Same F0 F0 := Same.refl _
    obtain ⟨a1, vs1, rfl, q1, h1⟩ := r_fars
    obtain ⟨a2, vs2, rfl, q2, h2⟩ := r_part
    refine ⟨_, (pss_one (ps_ret (pe_callTy (call_tuple_ofK (K := K) rfl) (by rfl) T.n_tuple (by decide +kernel) (pa_cons (pe_lc (own := [("place", 2)]) (g := gName 2) (by rfl) sc_gone_on.nd (pi_range1 (by rfl) T.n_range (pa_cons (pe_callB (call_lenN (K := K) rfl) (by rfl) T.n_len (by decide +kernel) (pa_cons (pv 0) pa_nil)) pa_nil)) (blkOk_by (own := [("place", 2)]) (N := ["fars", "part", "place", "one"]) (sc := defScope s_gone_on) (by decide +kernel)) (fun _ _ _ _ _ => (pg_name (i := 2) sc_gone_on.nd rfl (Or.inr rfl))) (fun _ _ _ _ _ => (pts_one (pt_val (pe_callB (cr_anyK (K := K) rfl rfl) (by rfl) T.n_any (by decide +kernel) (pa_cons (pe_lc (own := [("one", 3)]) (g := gName 3) (by rfl) sc_gone_on.nd (pi_listK (K := K) rfl (pv 1)) (blkOk_by (own := [("one", 3)]) (N := ["fars", "part", "place", "one"]) (sc := _) (by kernel_rfl)) (fun _ _ _ _ _ => (pg_name (i := 3) sc_gone_on.nd rfl (Or.inl rfl))) (fun _ _ _ _ _ => pts_nil) (fun _ _ _ _ _ => (pe_cmp (pc_lt (pe_ix (ix_listK (K := K) rfl) (pe_ix (ix_listK (K := K) rfl) (pv 0) (pv 2) (fun _ _ => rfl)) (pv 3) (fun _ _ => rfl)) pe_int)))) pa_nil))))) (fun _ _ _ _ _ => (pv 2))) pa_nil)))), ?_⟩
    obtain ⟨c3, hm⟩ := pb_rng hm
    refine ⟨_, rfl, _, _, _, rfl, .inl (SqL.of (w0.same _ _ q1)), h1.length, _, rfl, c3.2.2.1, c3.2.2.2, fun D4 nD4 => ?_⟩
    refine lcF (K := K) (tw_rng0 (j := (x_fars.length : Int))) hm w0 nD4 (fun F' H' acc s w => trivial) ?_ ?_
    · -- one turn
      intro b4 x4 F4 H4 H4' acc4 N4 M4 P4 s4 w4 y4 hN4 hM4 hm
      replace q1 := s4 _ _ q1
      replace h1 := A2.mono s4 h1
      replace q2 := s4 _ _ q2
      replace h2 := A2.mono s4 h2
      obtain ⟨rfl, rfl⟩ := y4
      refine ⟨rfl, _, rfl, _, rfl, ⟨_, SqL.of (w4.same _ _ q2)⟩, fun D6 nD6 => ?_⟩
      refine lcM (K := K) (tw_list (a := a2) h2) hm w4 nD6 (fun F' H' acc s w => SqL.of (w.same _ _ (s _ _ q2))) ?_ ?_
      · -- one turn
        intro b6 x6 F6 H6 H6' acc6 N6 P6 s6 w6 y6 hN6 hm
        replace q1 := s6 _ _ q1
        replace h1 := A2.mono s6 h1
        obtain ⟨rfl, r8⟩ := y6
        obtain rfl : x6 = V.int b6 := r8
        obtain ⟨t9, e9, hm⟩ := pb_get hm
        obtain ⟨u9, f9, r9⟩ := A2.at h1 e9
        obtain ⟨a10, vs10, rfl, q10, h10⟩ := r9
        obtain ⟨t11, e11, hm⟩ := pb_get hm
        obtain ⟨u11, f11, r11⟩ := A2.at h10 e11
        obtain rfl : u11 = V.int t11 := r11
        exact ⟨rfl, _, rfl, _, rfl, _, _, _, _, rfl, rfl, SqL.of (w6.same _ _ q1), f9, _, rfl, _, _, _, _, rfl, rfl, SqL.of (w6.same _ _ q10), f11, _, _, rfl, rfl, hN6 _ (post_ok hm) _ _ _ w6 (Same.refl _) rep_b⟩
      intro us6 F6 H6 ys6 s6 w6 gg6 hm
      refine ⟨_, _, rfl, bools_q (SqL.of (w6.get (pre := []))) gg6, _, rfl, ?_⟩
      refine post_ite hm (fun k13 hm => ?_) (fun k13 hm => ?_)
      · skip
        have w14 : W F6 _ ((D4, .lst acc4) :: os) := w6.drop (pre := [])
        exact ⟨_, rfl, hN4 _ (post_ok hm) _ _ _ w14 s6 rep_i⟩
      · skip
        have w15 : W F6 _ ((D4, .lst acc4) :: os) := w6.drop (pre := [])
        exact hM4 (post_ok hm) _ _ w15 s6
    intro us4 F4 H4 ys4 s4 w4 gg4 hm
    have h17 : A2 (rep K F4) us4 ys4 := gg4
    refine ⟨_, _, rfl, .inl ⟨SqL.of (w4.get (pre := [])), fun p18 n18 => ?_⟩⟩
    obtain ⟨F18, s18, w18, q18⟩ := w4.frzE (o := .tup us4) n18
    replace h17 := A2.mono s18 h17
    replace sF := sF.trans (s4.trans s18)
    have w19 : W F18 _ (os) := w18.drop (pre := [])
    exact (post_ok hm) _ _ _ w19 sF (rep_tup q18 h17)
def sp_next_standings (K : Fg) : Sp := fun vs H Q E => ∃ (F : Hp) (os : List (Addr × HO)) (v_fars : V) (x_fars : (List (List Int))) (v_standing : V) (x_standing : (Tup Int)) (v_looks : V) (x_looks : (Tup Int)), vs = [v_fars, v_standing, v_looks] ∧ W F H (os) ∧ rep K F v_fars x_fars ∧ rep K F v_standing x_standing ∧ rep K F v_looks x_looks ∧ Post (next_standings x_fars x_standing x_looks) (Ret K F os Q) noX
theorem sc_next_standings : FnScope ["fars", "standing", "looks", "parts", "place", "look", "part"] ["fars", "standing", "looks"] (defScope s_next_standings) := ⟨rfl, rfl, rfl, by decide +kernel, rfl, by decide +kernel, by decide +kernel⟩
theorem ok_next_standings (T : Tx K mg A FD) : FnOk P w K mg base CX0 2 (A 24) (FD 24) ["fars", "standing", "looks"] (sp_next_standings K) := by
  refine T.d24.fn.ok sc_next_standings (fun vs H Q E h => ?_) (fun cdv Ar outer s H vs Q E hr h => ?_)
  · obtain ⟨F, os, v_fars, x_fars, v_standing, x_standing, v_looks, x_looks, rfl, _⟩ := h
    rfl
  · obtain ⟨F0, os, v_fars, x_fars, v_standing, x_standing, v_looks, x_looks, rfl, w0, r_fars, r_standing, r_looks, hm⟩ := h
    have sF : Same F0 F0 := Same.refl _
    obtain ⟨a1, vs1, rfl, q1, h1⟩ := r_fars
    obtain ⟨a2, vs2, rfl, q2, h2⟩ := r_standing
    obtain ⟨a3, vs3, rfl, q3, h3⟩ := r_looks
    have hr_g : Sto K F0 [] [] ([] : List (List Int)) := Sto.nil
    replace w0 : W F0 _ ((nz [] [] ++ os)) := w0
    refine ⟨_, (pss_cons (ps_set (i := 3) sc_next_standings.nd rfl (Or.inl rfl) pe_dnewT) (pss_cons (ps_for PassesOwn.never rfl (pi_tupK (K := K) rfl (pv 1)) (pg_name (i := 4) sc_next_standings.nd rfl (Or.inr rfl)) (pss_one (ps_expr (pe_bm PySem.F.plainAttrs_list PySem.F.slot_list_append PySem.F.type_list_append mt_append (pe_dsetdV (Room.units1 hr) (pv 3) (pe_callTy (call_tuple_ofK (K := K) rfl) (by rfl) T.n_tuple (by decide +kernel) (pa_cons (pe_lc (own := [("look", 5)]) (g := gName 5) (by rfl) sc_next_standings.nd (pi_tupK (K := K) rfl (pv 2)) (blkOk_by (own := [("look", 5)]) (N := ["fars", "standing", "looks", "parts", "place", "look", "part"]) (sc := defScope s_next_standings) (by decide +kernel)) (fun _ _ _ _ _ => (pg_name (i := 5) sc_next_standings.nd rfl (Or.inl rfl))) (fun _ _ _ _ _ => pts_nil) (fun _ _ _ _ _ => (pe_ix (ix_listK (K := K) rfl) (pe_ix (ix_listK (K := K) rfl) (pv 0) (pv 5) (fun _ _ => rfl)) (pv 4) (fun _ _ => rfl)))) pa_nil)) (pe_lst pa_nil) ⟨rfl, rfl, rfl, rfl⟩) (pa_cons (pv 4) pa_nil))))) (pss_one (ps_ret (pe_lc (own := [("part", 6)]) (g := gName 6) (by rfl) sc_next_standings.nd (pi_valuesT (pv 3)) (blkOk_by (own := [("part", 6)]) (N := ["fars", "standing", "looks", "parts", "place", "look", "part"]) (sc := defScope s_next_standings) (by decide +kernel)) (fun _ _ _ _ _ => (pg_name (i := 6) sc_next_standings.nd rfl (Or.inl rfl))) (fun _ _ _ _ _ => (pts_one (pt_cmp (pc_gt (pe_callB (call_lenN (K := K) rfl) (by rfl) T.n_len (by decide +kernel) (pa_cons (pv 6) pa_nil)) pe_int)))) (fun _ _ _ _ _ => (pe_call (ok_gone_on T) (hr.mono (by decide)) (by rfl) T.d23.mg T.d23.fn.kp T.d23.b .nil pass0 (pa_cons (pv 0) (pa_cons (pv 6) pa_nil))))))))), ?_⟩
    try dsimp only
    refine seqN fun N5 hN5 => ?_
    refine fun p6 n6 => ?_
    have w6 : W F0 _ ((p6, .dT []) :: (nz [] [] ++ os)) := w0.new n6
    have h6 : AD kT (RX []) [] ([] : (List ((Tup Int) × Ix))) := .nil
    refine stepN ?_
    try dsimp only
    refine hN5 _ _ ?_
    refine ⟨_, rfl, _, rfl, ⟨_, SqT.of (w6.same _ _ q2)⟩, ?_⟩
    refine forS (tw_tup (a := a2) h2) hm (fun (g7 : (List ((Tup Int) × Ix)) × (List (List Int))) σ H' => ∃ (F' : Hp) (vs7_0 : List (List Key × V)) (as7_1 : List Addr) (vs7_1 : List (List V)) (o7_4 : Option V), σ = [some (.ref a1), some (.ref a2), some (.ref a3), some (.ref p6), o7_4, none, none] ∧ Same F0 F' ∧ W F' H' ((p6, .dT vs7_0) :: (nz as7_1 vs7_1 ++ os)) ∧ AD kT (RX as7_1) vs7_0 g7.1 ∧ [] <+: as7_1 ∧ Sto K F' as7_1 vs7_1 g7.2) ⟨_, _, _, _, _, rfl, Same.refl _, w6, h6, pfx_refl, hr_g⟩ (fun g σ H' hI => by obtain ⟨F', _, _, _, _, _, s, w, _⟩ := hI; exact SqT.of (w.same _ _ (s _ _ q2))) ?_ ?_
    · -- a turn
      intro b7 g7 x7 σ7 H7 H7' N7 P7 hI hy hN7 hm
      obtain ⟨F7, vs7_0, as7_1, vs7_1, o7_4, rfl, s7, w7, h7_0, p7_1, h7_1⟩ := hI
      replace h1 := A2.mono s7 h1
      replace q1 := s7 _ _ q1
      replace h3 := A2.mono s7 h3
      replace q3 := s7 _ _ q3
      obtain ⟨rfl, r8⟩ := hy
      obtain rfl : x7 = V.int b7 := r8
      refine ⟨_, rfl, _, rfl, isD_t (w7.get (pre := [])), _, rfl, _, rfl, ⟨_, SqT.of (w7.same _ _ q3)⟩, fun D9 nD9 => ?_⟩
      refine lcM (K := K) (tw_tup (a := a3) h3) hm w7 nD9 (fun F' H' acc s w => SqT.of (w.same _ _ (s _ _ q3))) ?_ ?_
      · -- one turn
        intro b9 x9 F9 H9 H9' acc9 N9 P9 s9 w9 y9 hN9 hm
        replace h1 := A2.mono s9 h1
        replace q1 := s9 _ _ q1
        obtain ⟨rfl, r11⟩ := y9
        obtain rfl : x9 = V.int b9 := r11
        obtain ⟨t12, e12, hm⟩ := pb_get hm
        obtain ⟨u12, f12, r12⟩ := A2.at h1 e12
        obtain ⟨a13, vs13, rfl, q13, h13⟩ := r12
        obtain ⟨t14, e14, hm⟩ := pb_get hm
        obtain ⟨u14, f14, r14⟩ := A2.at h13 e14
        obtain rfl : u14 = V.int t14 := r14
        exact ⟨rfl, _, rfl, _, rfl, _, _, _, _, rfl, rfl, SqL.of (w9.same _ _ q1), f12, _, rfl, _, _, _, _, rfl, rfl, SqL.of (w9.same _ _ q13), f14, hN9 _ (post_ok hm) _ _ _ w9 (Same.refl _) rep_i⟩
      intro us9 F9 H9 ys9 s9 w9 gg9 hm
      have h16 : A2 (rep K F9) us9 ys9 := gg9
      refine ⟨_, _, rfl, .inl ⟨SqL.of (w9.get (pre := [])), fun p17 n17 => ?_⟩⟩
      obtain ⟨F17, s17, w17, q17⟩ := w9.frzE (o := .tup us9) n17
      replace h7_1 := Sto.mono (s9.trans s17) h7_1
      replace h16 := A2.mono s17 h16
      have h18 : A2 (rep K F17) [] ([] : (List Int)) := .nil
      refine ⟨(by show 0 ≤ sizeLine; decide), fun p19 n19 => ?_⟩
      have w19 : W F17 _ ((p19, .lst []) :: (D9, .lst us9) :: (p6, .dT vs7_0) :: (nz as7_1 vs7_1 ++ os)) := w17.new n19
      obtain ⟨j20, st20, ej20, es20, hm⟩ := pn_newS hm
      have w20 : W F17 _ ((D9, .lst us9) :: (p6, .dT vs7_0) :: (nz (as7_1 ++ [p19]) (vs7_1 ++ [[]]) ++ os)) := w19.nadd (pre := [_, _]) h7_1.len
      have q20 : (as7_1 ++ [p19])[j20]? = some p19 := IQ.new (h7_1.len2.trans ej20.symm)
      have h20 : Sto K F17 (as7_1 ++ [p19]) (vs7_1 ++ [[]]) st20 := es20 ▸ Sto.snoc (p := p19) h7_1 h18
      replace h7_0 := AD.imp (fun _ _ => RX.mono (pfx_snoc (p := p19))) h7_0
      obtain ⟨l21, z21, e21, hm⟩ := pn_msetd hm
      obtain ⟨t21, i21, hm⟩ := pb_mget hm
      have h21 : AD kT (RX (as7_1 ++ [p19])) (setdK vs7_0 (kT (Tup.mk ys9)) (.ref p19)) l21 := e21 ▸ AD.setd h7_0 ⟨_, rfl, q20⟩
      obtain ⟨u21, f21, r21⟩ := AD.get kT_inj h21 i21
      refine ⟨_, _, _, _, (w20.get (pre := [_])), rfl, key_tup (t := (Tup.mk ys9)) w20.same q17 h16, (by rw [AD.length h7_0]; exact z21), f21, ?_⟩
      have w22 : W F17 _ ((D9, .lst us9) :: (p6, .dT (setdK vs7_0 (kT (Tup.mk ys9)) (.ref p19))) :: (nz (as7_1 ++ [p19]) (vs7_1 ++ [[]]) ++ os)) := w20.set (pre := [_])
      obtain ⟨a23, rfl, q23⟩ := r21
      obtain ⟨x24, e24, hm⟩ := pb_getS hm
      obtain ⟨vs24, i24, h24⟩ := Sto.getq h20 e24 q23
      obtain ⟨l25, z25, e25, hm⟩ := pn_app hm
      obtain ⟨st25, es25, hm⟩ := pn_setS hm
      refine ⟨.inl ⟨rfl, _, SqL.of (W.nget (pre := [_, _]) w22 q23 i24)⟩, _, rfl, _, _, _, rfl, rfl, (W.nget (pre := [_, _]) w22 q23 i24), (A2.lt h24 z25), ?_⟩
      have h25 : Sto K F17 (as7_1 ++ [p19]) ((vs7_1 ++ [[]]).set t21 (vs24 ++ [(V.int b7)])) st25 := es25 ▸ Sto.set h20 (e25 ▸ A2.snoc h24 rep_i)
      have w25 : W F17 _ ((D9, .lst us9) :: (p6, .dT (setdK vs7_0 (kT (Tup.mk ys9)) (.ref p19))) :: (nz (as7_1 ++ [p19]) ((vs7_1 ++ [[]]).set t21 (vs24 ++ [(V.int b7)])) ++ os)) := w22.nset (pre := [_, _]) (vs24 ++ [(V.int b7)]) q23 i24
      have w26 : W F17 _ ((p6, .dT (setdK vs7_0 (kT (Tup.mk ys9)) (.ref p19))) :: (nz (as7_1 ++ [p19]) ((vs7_1 ++ [[]]).set t21 (vs24 ++ [(V.int b7)])) ++ os)) := w25.drop (pre := [])
      exact hN7 _ (post_ok hm) _ _ ⟨_, _, _, _, _, rfl, (s7.trans (s9.trans s17)), w26, h21, (pfx_trans p7_1 (pfx_snoc (p := p19))), h25⟩
    intro g7 σ7 H7 hI hm
    obtain ⟨F7, vs7_0, as7_1, vs7_1, o7_4, rfl, s7, w7, h7_0, p7_1, h7_1⟩ := hI
    refine ⟨_, rfl, ?_⟩
    obtain ⟨m27, e27, hm⟩ := pb_derefT hm
    obtain ⟨F27, s27, w27, f27⟩ : ∃ F', Same F7 F' ∧ W F' _ ((p6, .dT vs7_0) :: os) ∧ ∀ (j : Nat) (a : Addr) (vs : List V), as7_1[j]? = some a → vs7_1[j]? = some vs → F' a = some (.lst vs) := W.nfreeze (pre := [_]) w7
    have h27 : AD kT (rep K F27) vs7_0 m27 := derefT_rep h7_1 f27 s27 h7_0 e27
    replace h1 := A2.mono (s7.trans s27) h1
    replace q1 := (s7.trans s27) _ _ q1
    refine ⟨_, _, rfl, (w27.get (pre := [])), fun od28 => ?_⟩
    have w28 : W F27 _ ((p6, (.frz od28 (.dT vs7_0))) :: os) := w27.set (pre := [])
    refine fun D29 nD29 => ?_
    refine lcF (K := K) (tw_valsT (d := p6) (o := od28) h27) hm w28 nD29 (fun F' H' acc s w => w.get (pre := [_])) ?_ ?_
    · -- one turn
      intro b29 x29 F29 H29 H29' acc29 N29 M29 P29 s29 w29 y29 hN29 hM29 hm
      replace h1 := A2.mono s29 h1
      replace q1 := s29 _ _ q1
      obtain ⟨rfl, r31⟩ := y29
      replace r31 := Rep.mono s29 r31
      obtain ⟨a32, vs32, rfl, q32, h32⟩ := r31
      refine ⟨rfl, _, rfl, _, _, _, rfl, .inl (SqL.of (w29.same _ _ q32)), h32.length, _, _, rfl, rfl, _, rfl, ?_⟩
      refine post_ite hm (fun k33 hm => ?_) (fun k33 hm => ?_)
      · skip
        refine ⟨_, rfl, _, rfl, _, _, _, (x_fars : (List (List Int))), _, (b29 : (List Int)), rfl, w29, (rep_lst q1 h1), (rep_lst q32 h32), ?_⟩
        refine (post_bind hm).mono (fun y34 hm v34 F34 H34 w34 s34 r34 => ?_) (fun _ z => z)
        obtain ⟨a35, vs35, rfl, q35, h35⟩ := r34
        exact hN29 _ (post_ok hm) _ _ _ w34 s34 (rep_tup q35 h35)
      · skip
        exact hM29 (post_ok hm) _ _ w29 (Same.refl _)
    intro us29 F29 H29 ys29 s29 w29 gg29 hm
    obtain ⟨F37, s37, w37, q37⟩ : ∃ F', Same F29 F' ∧ W F' _ ((p6, (.frz od28 (.dT vs7_0))) :: os) ∧ F' D29 = some (.lst us29) := w29.freezeE (pre := [])
    replace gg29 := A2.mono s37 gg29
    replace sF := sF.trans (s7.trans (s27.trans (s29.trans s37)))
    have w38 : W F37 _ (os) := w37.drop (pre := [])
    exact (post_ok hm) _ _ _ w38 sF (rep_lst q37 gg29)
def sp_all_standings (K : Fg) : Sp := fun vs H Q E => ∃ (F : Hp) (os : List (Addr × HO)) (x_places : Int), vs = [.int x_places] ∧ W F H (os) ∧ Post (all_standings x_places) (Ret K F os Q) noX
theorem sc_all_standings : FnScope ["places", "found", "place", "some"] ["places"] (defScope s_all_standings) := ⟨rfl, rfl, rfl, by decide +kernel, rfl, by decide +kernel, by decide +kernel⟩
theorem ok_all_standings (T : Tx K mg A FD) : FnOk P w K mg base CX0 1 (A 25) (FD 25) ["places"] (sp_all_standings K) := by
  refine T.d25.fn.ok sc_all_standings (fun vs H Q E h => ?_) (fun cdv Ar outer s H vs Q E hr h => ?_)
  · obtain ⟨F, os, x_places, rfl, _⟩ := h
    rfl
  · obtain ⟨F0, os, x_places, rfl, w0, hm⟩ := h
    have sF : Same F0 F0 := Same.refl _
    refine ⟨_, (pss_cons (ps_set (i := 1) sc_all_standings.nd rfl (Or.inl rfl) (pe_lst (pa_cons (pe_tup pa_nil) pa_nil))) (pss_cons (ps_for PassesOwn.never rfl (pi_range1 (by rfl) T.n_range (pa_cons (pv 0) pa_nil)) (pg_name (i := 2) sc_all_standings.nd rfl (Or.inr rfl)) (pss_one (ps_set (i := 1) sc_all_standings.nd rfl (Or.inl rfl) (pe_op op_cat (pv 1) (pe_lc (own := [("some", 3)]) (g := gName 3) (by rfl) sc_all_standings.nd (pi_listK (K := K) rfl (pv 1)) (blkOk_by (own := [("some", 3)]) (N := ["places", "found", "place", "some"]) (sc := defScope s_all_standings) (by decide +kernel)) (fun _ _ _ _ _ => (pg_name (i := 3) sc_all_standings.nd rfl (Or.inl rfl))) (fun _ _ _ _ _ => pts_nil) (fun _ _ _ _ _ => (pe_op (op_catU (K := K) rfl) (pv 3) (pe_tup (pa_cons (pv 2) pa_nil))))))))) (pss_one (ps_ret (pe_lc (own := [("some", 3)]) (g := gName 3) (by rfl) sc_all_standings.nd (pi_listK (K := K) rfl (pv 1)) (blkOk_by (own := [("some", 3)]) (N := ["places", "found", "place", "some"]) (sc := defScope s_all_standings) (by decide +kernel)) (fun _ _ _ _ _ => (pg_name (i := 3) sc_all_standings.nd rfl (Or.inl rfl))) (fun _ _ _ _ _ => (pts_one (pt_cmp (pc_gt (pe_callB (call_lenN (K := K) rfl) (by rfl) T.n_len (by decide +kernel) (pa_cons (pv 3) pa_nil)) pe_int)))) (fun _ _ _ _ _ => (pv 3))))))), ?_⟩
    try dsimp only
    refine seqN fun N1 hN1 => ?_
    have h2 : A2 (rep K F0) [] (Tup.mk [] : (Tup Int)).l := .nil
    refine ⟨(by show 0 ≤ sizeLine; decide), fun p3 n3 => ?_⟩
    obtain ⟨F3, s3, w3, q3⟩ := w0.frzE (o := .tup []) n3
    replace h2 := A2.mono s3 h2
    have h4 : A2 (rep K F3) [(.ref p3)] ([(Tup.mk [] : (Tup Int))] : (List (Tup Int))) := .cons (rep_tup q3 h2) (.nil)
    refine ⟨(by show 1 ≤ sizeLine; decide), fun p5 n5 => ?_⟩
    have w5 : W F3 _ ((p5, .lst [(.ref p3)]) :: os) := w3.new n5
    obtain ⟨F6, s6, w6, q6⟩ : ∃ F', Same F3 F' ∧ W F' _ (os) ∧ F' p5 = some (.lst [(.ref p3)]) := w5.freezeE (pre := [])
    replace h4 := A2.mono s6 h4
    refine stepN ?_
    try dsimp only
    refine hN1 _ _ ?_
    obtain ⟨c8, hm⟩ := pb_rng hm
    refine ⟨_, rfl, _, rfl, c8.2.2.1, c8.2.2.2, ?_⟩
    refine forS (tw_rng0 (j := x_places)) hm (fun (g7 : (List (Tup Int))) σ H' => ∃ (F' : Hp) (v7_1 : V) (o7_2 : Option V), σ = [some (.int x_places), some v7_1, o7_2, none] ∧ Same F6 F' ∧ W F' H' (os) ∧ rep K F' v7_1 (g7 : (List (Tup Int)))) ⟨_, _, _, rfl, Same.refl _, w6, (rep_lst q6 h4)⟩ (fun _ _ _ _ => trivial) ?_ ?_
    · -- a turn
      intro b7 g7 x7 σ7 H7 H7' N7 P7 hI hy hN7 hm
      obtain ⟨F7, v7_1, o7_2, rfl, s7, w7, r7_1⟩ := hI
      obtain ⟨a9, vs9, rfl, q9, h9⟩ := r7_1
      obtain ⟨rfl, rfl⟩ := hy
      refine ⟨_, rfl, _, rfl, _, rfl, ⟨_, SqL.of (w7.same _ _ q9)⟩, fun D10 nD10 => ?_⟩
      refine lcM (K := K) (tw_list (a := a9) h9) hm w7 nD10 (fun F' H' acc s w => SqL.of (w.same _ _ (s _ _ q9))) ?_ ?_
      · -- one turn
        intro b10 x10 F10 H10 H10' acc10 N10 P10 s10 w10 y10 hN10 hm
        obtain ⟨rfl, r12⟩ := y10
        replace r12 := Rep.mono s10 r12
        obtain ⟨a13, vs13, rfl, q13, h13⟩ := r12
        have h14 : A2 (rep K F10) [(.int b7)] (Tup.mk [b7] : (Tup Int)).l := .cons rep_i (.nil)
        refine ⟨rfl, _, rfl, _, rfl, (by show 1 ≤ sizeLine; decide), fun p15 n15 => ?_⟩
        obtain ⟨F15, s15, w15, q15⟩ := w10.frzE (o := .tup [(.int b7)]) n15
        replace q13 := s15 _ _ q13
        replace h13 := A2.mono s15 h13
        replace h14 := A2.mono s15 h14
        obtain ⟨l16, z16, e16, hm⟩ := pn_extend hm
        have h16 : A2 (rep K F15) (vs13 ++ [(.int b7)]) l16 := e16 ▸ A2.append h13 h14
        refine ⟨_, _, _, _, _, _, rfl, rfl, w15, q13, q15, (A2.le2 h13 h14 z16), fun p16 F16 H16 s16 w16 q16 => ?_⟩
        replace h16 := A2.mono s16 h16
        exact hN10 _ (post_ok hm) _ _ _ w16 (s15.trans s16) (rep_tup q16 h16)
      intro us10 F10 H10 ys10 s10 w10 gg10 hm
      replace h9 := A2.mono s10 h9
      replace q9 := s10 _ _ q9
      obtain ⟨l18, z18, e18, hm⟩ := pn_extend hm
      have h18 : A2 (rep K F10) (vs9 ++ us10) l18 := e18 ▸ A2.append h9 gg10
      refine ⟨_, _, _, _, rfl, rfl, (w10.same _ _ q9), (w10.get (pre := [])), (A2.le2 h9 gg10 z18), fun p19 n19 => ?_⟩
      have w19 : W F10 _ ((p19, .lst (vs9 ++ us10)) :: (D10, .lst us10) :: os) := w10.new n19
      obtain ⟨F20, s20, w20, q20⟩ : ∃ F', Same F10 F' ∧ W F' _ ((D10, .lst us10) :: os) ∧ F' p19 = some (.lst (vs9 ++ us10)) := w19.freezeE (pre := [])
      replace h18 := A2.mono s20 h18
      have w21 : W F20 _ (os) := w20.drop (pre := [])
      exact hN7 _ (post_ok hm) _ _ ⟨_, _, _, rfl, (s7.trans (s10.trans s20)), w21, (rep_lst q20 h18)⟩
    intro g7 σ7 H7 hI hm
    obtain ⟨F7, v7_1, o7_2, rfl, s7, w7, r7_1⟩ := hI
    obtain ⟨a22, vs22, rfl, q22, h22⟩ := r7_1
    refine ⟨_, rfl, _, rfl, ⟨_, SqL.of (w7.same _ _ q22)⟩, fun D23 nD23 => ?_⟩
    refine lcF (K := K) (tw_list (a := a22) h22) hm w7 nD23 (fun F' H' acc s w => SqL.of (w.same _ _ (s _ _ q22))) ?_ ?_
    · -- one turn
      intro b23 x23 F23 H23 H23' acc23 N23 M23 P23 s23 w23 y23 hN23 hM23 hm
      obtain ⟨rfl, r25⟩ := y23
      replace r25 := Rep.mono s23 r25
      obtain ⟨a26, vs26, rfl, q26, h26⟩ := r25
      refine ⟨rfl, _, rfl, _, _, _, rfl, .inr (SqT.of (w23.same _ _ q26)), h26.length, _, _, rfl, rfl, _, rfl, ?_⟩
      refine post_ite hm (fun k27 hm => ?_) (fun k27 hm => ?_)
      · skip
        exact ⟨_, rfl, hN23 _ (post_ok hm) _ _ _ w23 (Same.refl _) (rep_tup q26 h26)⟩
      · skip
        exact hM23 (post_ok hm) _ _ w23 (Same.refl _)
    intro us23 F23 H23 ys23 s23 w23 gg23 hm
    obtain ⟨F29, s29, w29, q29⟩ : ∃ F', Same F23 F' ∧ W F' _ (os) ∧ F' D23 = some (.lst us23) := w23.freezeE (pre := [])
    replace gg23 := A2.mono s29 gg23
    replace sF := sF.trans (s3.trans (s6.trans (s7.trans (s23.trans s29))))
    exact (post_ok hm) _ _ _ w29 sF (rep_lst q29 gg23)
def sp_Hunting_found_by (K : Fg) : Sp := fun vs H Q E => ∃ (F : Hp) (os : List (Addr × HO)) (a_self : Addr) (dx_self : Addr) (C_self : Addr) (v_self_fars : V) (v_self_ways : V) (a_self_turns : Addr) (vs_self_turns : List (List Key × V)) (a_self_looks : Addr) (vs_self_looks : List (List Key × V)) (x_self : HuntingF) (v_standing : V) (x_standing : (Tup Int)), vs = [.ref a_self, v_standing] ∧ W F H ((a_self, .ins C_self dx_self (mkfs [("fars" : Str), ("ways" : Str), ("turns" : Str), ("looks" : Str)] [v_self_fars, v_self_ways, .ref a_self_turns, .ref a_self_looks])) :: (dx_self, .own a_self) :: (a_self_turns, .dT vs_self_turns) :: (a_self_looks, .dT vs_self_looks) :: os) ∧ Nm K "Hunting" C_self ∧ rep K F v_self_fars (x_self.1 : (List (List Int))) ∧ rep K F v_self_ways (x_self.2.1 : (FzT (List ((Tup Int) × (List (Tup Int)))))) ∧ AD kT (rep K F) vs_self_turns x_self.2.2.1 ∧ AD kT (rep K F) vs_self_looks x_self.2.2.2.1 ∧ rep K F v_standing x_standing ∧ Post (Hunting_found_by x_self x_standing) (fun (y : (Option (Tup Int))) => ∀ (v : V) (F' H' : Hp), W F' H' ((a_self, .ins C_self dx_self (mkfs [("fars" : Str), ("ways" : Str), ("turns" : Str), ("looks" : Str)] [v_self_fars, v_self_ways, .ref a_self_turns, .ref a_self_looks])) :: (dx_self, .own a_self) :: (a_self_turns, .dT vs_self_turns) :: (a_self_looks, .dT vs_self_looks) :: os) → Same F F' → rep K F' v (y : (Option (Tup Int))) → Q v H') noX
theorem sc_Hunting_found_by : FnScope ["self", "standing", "looks", "behind", "other"] ["self", "standing"] (defScope s_Hunting_found_by) := ⟨rfl, rfl, rfl, by decide +kernel, rfl, by decide +kernel, by decide +kernel⟩
theorem ok_Hunting_found_by (T : Tx K mg A FD) : FnOk P w K mg base CX0 1 (A 27001) (FD 27001) ["self", "standing"] (sp_Hunting_found_by K) := by
  refine T.d27001.fn.ok sc_Hunting_found_by (fun vs H Q E h => ?_) (fun cdv Ar outer s H vs Q E hr h => ?_)
  · obtain ⟨F, os, a_self, dx_self, C_self, v_self_fars, v_self_ways, a_self_turns, vs_self_turns, a_self_looks, vs_self_looks, x_self, v_standing, x_standing, rfl, _⟩ := h
    rfl
  · obtain ⟨F0, os, a_self, dx_self, C_self, v_self_fars, v_self_ways, a_self_turns, vs_self_turns, a_self_looks, vs_self_looks, x_self, v_standing, x_standing, rfl, w0, n_self, r_self_fars, r_self_ways, h_self_turns, h_self_looks, r_standing, hm⟩ := h
    have sF : Same F0 F0 := Same.refl _
    obtain rfl := n_self.uniq T.nm_Hunting
    obtain ⟨a5, vs5, rfl, q5, h5⟩ := r_standing
    obtain ⟨a6, vs6, rfl, q6, h6⟩ := r_self_fars
    obtain ⟨a7, od7, us7, rfl, q7, h7⟩ := r_self_ways
    refine ⟨_, (pss_cons (ps_for PassesOwn.never rfl (pi_listK (K := K) rfl (pe_dget (Room.units1 hr) (pe_fld (pv 0) (by rfl)) (pv 1) (fun _ _ => rfl))) (pg_k (K := K) (t := fun K => gTup K 2 _) rfl (pg_tup (n := 2) rfl (pgs_cons (pg_name (i := 2) sc_Hunting_found_by.nd rfl (Or.inl rfl)) (pgs_cons (pg_name (i := 3) sc_Hunting_found_by.nd rfl (Or.inl rfl)) pgs_nil)))) (pss_one (ps_if (pt_val (pe_callB (cr_allK (K := K) rfl rfl) (by rfl) T.n_all (by decide +kernel) (pa_cons (pe_lc (own := [("other", 4)]) (g := gName 4) (by rfl) sc_Hunting_found_by.nd (pi_listK (K := K) rfl (pv 3)) (blkOk_by (own := [("other", 4)]) (N := ["self", "standing", "looks", "behind", "other"]) (sc := defScope s_Hunting_found_by) (by decide +kernel)) (fun _ _ _ _ _ => (pg_name (i := 4) sc_Hunting_found_by.nd rfl (Or.inl rfl))) (fun _ _ _ _ _ => pts_nil) (fun _ _ _ _ _ => (pe_cmp (pc_dinH (Room.units1 hr) (pv 4) (pe_k (K := K) (t := fun K => tFld K _ _) rfl (pe_fld (pv 0) (by rfl))))))) pa_nil))) (pss_one (ps_ret (pv 2))) pss_nil))) (pss_one (ps_ret pe_non))), ?_⟩
    obtain ⟨t9, e9, hm⟩ := pb_mget hm
    obtain ⟨u9, f9, r9⟩ := AD.get kT_inj h7 e9
    obtain ⟨a10, vs10, rfl, q10, h10⟩ := r9
    refine ⟨_, rfl, _, _, _, _, _, rfl, (w0.get (pre := [])), T.cl_Hunting, T.na_Hunting_ways, (fl_Hunting_ways ((.ref a6) : V) ((.ref a7) : V) ((.ref a_self_turns) : V) ((.ref a_self_looks) : V)), _, rfl, _, _, rfl, dgetsF (w0.same _ _ q7) (key_tup (t := x_standing) w0.same q5 h5) f9, _, rfl, ⟨_, SqL.of (w0.same _ _ q10)⟩, ?_⟩
    refine forX (tw_list (a := a10) h10) hm (fun (g8 : Unit) σ H' => ∃ (F' : Hp) (o8_2 : Option V) (o8_3 : Option V), σ = [some (.ref a_self), some (.ref a5), o8_2, o8_3, none] ∧ Same F0 F' ∧ W F' H' ((a_self, (.ins (A 26) dx_self (mkfs [("fars" : Str), ("ways" : Str), ("turns" : Str), ("looks" : Str)] [(.ref a6), (.ref a7), (.ref a_self_turns), (.ref a_self_looks)]))) :: (dx_self, (.own a_self)) :: (a_self_turns, .dT vs_self_turns) :: (a_self_looks, .dT vs_self_looks) :: os)) ⟨_, _, _, rfl, Same.refl _, w0⟩ (fun g σ H' hI => by obtain ⟨F', _, _, _, s, w⟩ := hI; exact SqL.of (w.same _ _ (s _ _ q10))) ?_ ?_
    · -- a turn
      intro b8 g8 x8 σ8 H8 H8' N8 B8 P8 hI hy hN8 hB8 hZ8 hm
      obtain ⟨F8, o8_2, o8_3, rfl, s8, w8⟩ := hI
      replace h_self_turns := AD.imp (fun _ _ => Rep.mono s8) h_self_turns
      obtain ⟨rfl, r11⟩ := hy
      replace r11 := Rep.mono s8 r11
      obtain ⟨a12, u12, z12, rfl, q12, r12a, r12b⟩ := r11
      obtain ⟨a13, vs13, rfl, q13, h13⟩ := r12a
      obtain ⟨a14, vs14, rfl, q14, h14⟩ := r12b
      refine ⟨_, _, rfl, SqT.of (w8.same _ _ q12), rfl, _, _, rfl, _, _, rfl, rfl, ?_⟩
      try dsimp only
      refine ifOneN fun IA15 IB15 hIA15 hIB15 => ?_
      refine ⟨_, rfl, _, rfl, ⟨_, SqL.of (w8.same _ _ q14)⟩, fun D16 nD16 => ?_⟩
      refine lcM (K := K) (tw_list (a := a14) h14) hm w8 nD16 (fun F' H' acc s w => SqL.of (w.same _ _ (s _ _ q14))) ?_ ?_
      · -- one turn
        intro b16 x16 F16 H16 H16' acc16 N16 P16 s16 w16 y16 hN16 hm
        replace h_self_turns := AD.imp (fun _ _ => Rep.mono s16) h_self_turns
        obtain ⟨rfl, r18⟩ := y16
        replace r18 := Rep.mono s16 r18
        obtain ⟨a19, vs19, rfl, q19, h19⟩ := r18
        exact ⟨rfl, _, rfl, _, rfl, _, _, _, _, _, rfl, (w16.get (pre := [_])), T.cl_Hunting, T.na_Hunting_turns, (fl_Hunting_turns ((.ref a6) : V) ((.ref a7) : V) ((.ref a_self_turns) : V) ((.ref a_self_looks) : V)), _, _, _, rfl, dgetA (t := b16) (w16.get (pre := [_, _, _])) (key_tup w16.same q19 h19), AD.no kT_inj h_self_turns, hN16 _ (post_ok hm) _ _ _ w16 (Same.refl _) rep_b⟩
      intro us16 F16 H16 ys16 s16 w16 gg16 hm
      replace h13 := A2.mono s16 h13
      replace q13 := s16 _ _ q13
      replace sF := sF.trans (s8.trans s16)
      refine ⟨_, _, rfl, bools_q (SqL.of (w16.get (pre := []))) gg16, _, rfl, ?_⟩
      have w21 : W F16 _ ((a_self, (.ins (A 26) dx_self (mkfs [("fars" : Str), ("ways" : Str), ("turns" : Str), ("looks" : Str)] [(.ref a6), (.ref a7), (.ref a_self_turns), (.ref a_self_looks)]))) :: (dx_self, (.own a_self)) :: (a_self_turns, .dT vs_self_turns) :: (a_self_looks, .dT vs_self_looks) :: os) := w16.drop (pre := [])
      refine post_ite hm (fun k22 hm => ?_) (fun k22 hm => ?_)
      · skip
        refine hIA15 _ ?_
        have hm := hZ8 _ (post_ok hm)
        exact ⟨_, rfl, (post_ok hm) _ _ _ w21 sF (rep_some (rep_tup q13 h13))⟩
      · skip
        refine hIB15 _ ?_
        exact hN8 _ (post_ok hm) _ _ ⟨_, _, _, rfl, (s8.trans s16), w21⟩
    intro g8 σ8 H8 hI hm
    obtain ⟨F8, o8_2, o8_3, rfl, s8, w8⟩ := hI
    replace sF := sF.trans s8
    exact (post_ok hm) _ _ _ w8 sF rep_none
def sp_Hunting_fill (K : Fg) : Sp := fun vs H Q E => ∃ (F : Hp) (os : List (Addr × HO)) (a_self : Addr) (dx_self : Addr) (C_self : Addr) (v_self_fars : V) (v_self_ways : V) (a_self_turns : Addr) (vs_self_turns : List (List Key × V)) (a_self_looks : Addr) (vs_self_looks : List (List Key × V)) (x_self : HuntingF), vs = [.ref a_self] ∧ W F H ((a_self, .ins C_self dx_self (mkfs [("fars" : Str), ("ways" : Str), ("turns" : Str), ("looks" : Str)] [v_self_fars, v_self_ways, .ref a_self_turns, .ref a_self_looks])) :: (dx_self, .own a_self) :: (a_self_turns, .dT vs_self_turns) :: (a_self_looks, .dT vs_self_looks) :: os) ∧ Nm K "Hunting" C_self ∧ rep K F v_self_fars (x_self.1 : (List (List Int))) ∧ rep K F v_self_ways (x_self.2.1 : (FzT (List ((Tup Int) × (List (Tup Int)))))) ∧ AD kT (rep K F) vs_self_turns x_self.2.2.1 ∧ AD kT (rep K F) vs_self_looks x_self.2.2.2.1 ∧ Post (Hunting_fill x_self) (fun (y : (Unit × (List ((Tup Int) × Int)) × (List ((Tup Int) × (Tup Int))))) => ∀ (v : V) (zs_self_turns : List (List Key × V)) (zs_self_looks : List (List Key × V)) (F' H' : Hp), W F' H' ((a_self, .ins C_self dx_self (mkfs [("fars" : Str), ("ways" : Str), ("turns" : Str), ("looks" : Str)] [v_self_fars, v_self_ways, .ref a_self_turns, .ref a_self_looks])) :: (dx_self, .own a_self) :: (a_self_turns, .dT zs_self_turns) :: (a_self_looks, .dT zs_self_looks) :: os) → Same F F' → rep K F' v (y.1 : Unit) → AD kT (rep K F') zs_self_turns y.2.1 → AD kT (rep K F') zs_self_looks y.2.2 → Q v H') noX
theorem sc_Hunting_fill : FnScope ["self", "turn", "fresh", "standing", "looks"] ["self"] (defScope s_Hunting_fill) := ⟨rfl, rfl, rfl, by decide +kernel, rfl, by decide +kernel, by decide +kernel⟩
theorem ok_Hunting_fill (T : Tx K mg A FD) : FnOk P w K mg base CX0 2 (A 27002) (FD 27002) ["self"] (sp_Hunting_fill K) := by
  refine T.d27002.fn.ok sc_Hunting_fill (fun vs H Q E h => ?_) (fun cdv Ar outer s H vs Q E hr h => ?_)
  · obtain ⟨F, os, a_self, dx_self, C_self, v_self_fars, v_self_ways, a_self_turns, vs_self_turns, a_self_looks, vs_self_looks, x_self, rfl, _⟩ := h
    rfl
  · obtain ⟨F0, os, a_self, dx_self, C_self, v_self_fars, v_self_ways, a_self_turns, vs_self_turns, a_self_looks, vs_self_looks, x_self, rfl, w0, n_self, r_self_fars, r_self_ways, h_self_turns, h_self_looks, hm⟩ := h
    have sF : Same F0 F0 := Same.refl _
    obtain rfl := n_self.uniq T.nm_Hunting
    obtain ⟨a5, vs5, rfl, q5, h5⟩ := r_self_fars
    obtain ⟨a6, od6, us6, rfl, q6, h6⟩ := r_self_ways
    refine ⟨_, (pss_cons (ps_set (i := 1) sc_Hunting_fill.nd rfl (Or.inl rfl) pe_int1) (pss_cons (ps_set (i := 2) sc_Hunting_fill.nd rfl (Or.inl rfl) (pe_lst (pa_cons (pe_tup pa_nil) pa_nil))) (pss_one (ps_while PassesOwn.never (pt_cmp (pc_gt (pe_callB (call_lenN (K := K) rfl) (by rfl) T.n_len (by decide +kernel) (pa_cons (pv 2) pa_nil)) pe_int)) (pss_cons (ps_set (i := 1) sc_Hunting_fill.nd rfl (Or.inl rfl) (pe_op op_add (pv 1) pe_int)) (pss_cons (ps_set (i := 2) sc_Hunting_fill.nd rfl (Or.inl rfl) (pe_lst pa_nil)) (pss_cons (ps_for PassesOwn.never rfl (pi_keys (pe_fld (pv 0) (by rfl))) (pg_name (i := 3) sc_Hunting_fill.nd rfl (Or.inl rfl)) (pss_one (ps_if (pt_cmp (pc_dnotinH (Room.units1 hr) (pv 3) (pe_fld (pv 0) (by rfl)))) (pss_cons (ps_set (i := 4) sc_Hunting_fill.nd rfl (Or.inl rfl) (pe_meth (pl := _) (pv 0) T.cl_Hunting T.d27001.mt (ok_Hunting_found_by T) (hr.mono (by decide)) T.d27001.b .nil pass0 (pa_cons (pv 3) pa_nil))) (pss_one (ps_if (pt_cmpR op_notN2 (pv 4) pe_non (nomark _)) (pss_one (ps_expr (pe_bm PySem.F.plainAttrs_list PySem.F.slot_list_append PySem.F.type_list_append mt_append (pv 2) (pa_cons (pe_tup (pa_cons (pv 3) (pa_cons (pv 4) pa_nil))) pa_nil)))) pss_nil))) pss_nil))) (pss_one (ps_for PassesOwn.never rfl (pi_listK (K := K) rfl (pv 2)) (pg_k (K := K) (t := fun K => gTup K 2 _) rfl (pg_tup (n := 2) rfl (pgs_cons (pg_name (i := 3) sc_Hunting_fill.nd rfl (Or.inl rfl)) (pgs_cons (pg_name (i := 4) sc_Hunting_fill.nd rfl (Or.inl rfl)) pgs_nil)))) (pss_cons (ps_dput (Room.units1 hr) (pe_fld (pv 0) (by rfl)) (pv 3) (pv 1) (by rfl)) (pss_one (ps_dput (Room.units1 hr) (pe_fld (pv 0) (by rfl)) (pv 3) (pv 4) (by rfl))))))))))))), ?_⟩
    try dsimp only
    refine seqN fun N7 hN7 => ?_
    refine ⟨trivial, ?_⟩
    refine stepN ?_
    try dsimp only
    refine hN7 _ _ ?_
    try dsimp only
    refine seqN fun N8 hN8 => ?_
    refine ⟨(by show 0 ≤ sizeLine; decide), fun p9 n9 => ?_⟩
    obtain ⟨F9, s9, w9, q9⟩ := w0.frzE (o := .tup []) n9
    replace h5 := A2.mono s9 h5
    replace q5 := s9 _ _ q5
    replace h6 := AD.imp (fun _ _ => Rep.mono s9) h6
    replace q6 := s9 _ _ q6
    replace h_self_turns := AD.imp (fun _ _ => Rep.mono s9) h_self_turns
    replace h_self_looks := AD.imp (fun _ _ => Rep.mono s9) h_self_looks
    have h10 : A2 (rep K F9) [(.ref p9)] ([An.a] : (List An)) := .cons rep_an (.nil)
    refine ⟨(by show 1 ≤ sizeLine; decide), fun p11 n11 => ?_⟩
    have w11 : W F9 _ ((p11, .lst [(.ref p9)]) :: (a_self, (.ins (A 26) dx_self (mkfs [("fars" : Str), ("ways" : Str), ("turns" : Str), ("looks" : Str)] [(.ref a5), (.ref a6), (.ref a_self_turns), (.ref a_self_looks)]))) :: (dx_self, (.own a_self)) :: (a_self_turns, .dT vs_self_turns) :: (a_self_looks, .dT vs_self_looks) :: os) := w9.new n11
    refine stepN ?_
    try dsimp only
    refine hN8 _ _ ?_
    try dsimp only
    refine (whileS hm (fun (g12 : Int × (List An) × (List ((Tup Int) × Int)) × (List ((Tup Int) × (Tup Int)))) σ H' => ∃ (F' : Hp) (ao12_2 : Addr) (uo12_2 : List V) (vs12_0 : List (List Key × V)) (vs12_1 : List (List Key × V)) (o12_3 : Option V) (o12_4 : Option V), σ = [some (.ref a_self), some (.int g12.1), some (.ref ao12_2), o12_3, o12_4] ∧ Same F9 F' ∧ W F' H' ((ao12_2, .lst uo12_2) :: (a_self, (.ins (A 26) dx_self (mkfs [("fars" : Str), ("ways" : Str), ("turns" : Str), ("looks" : Str)] [(.ref a5), (.ref a6), (.ref a_self_turns), (.ref a_self_looks)]))) :: (dx_self, (.own a_self)) :: (a_self_turns, .dT vs12_0) :: (a_self_looks, .dT vs12_1) :: os) ∧ A2 (rep K F') uo12_2 g12.2.1 ∧ AD kT (rep K F') vs12_0 g12.2.2.1 ∧ AD kT (rep K F') vs12_1 g12.2.2.2) ⟨_, _, _, _, _, _, _, rfl, Same.refl _, w11, h10, h_self_turns, h_self_looks⟩ ?_ ?_ ?_)
    · intro g12 σ12 H12 N12 P12 hI hN12 hm
      obtain ⟨F12, ao12_2, uo12_2, vs12_0, vs12_1, o12_3, o12_4, rfl, s12, w12, ko12_2, h12_0, h12_1⟩ := hI
      exact ⟨_, rfl, _, _, _, rfl, .inl (SqL.of (w12.get (pre := []))), ko12_2.length, _, _, rfl, rfl, _, rfl, hN12 _ (post_ok hm) _ ⟨_, _, _, _, _, _, _, rfl, s12, w12, ko12_2, h12_0, h12_1⟩⟩
    · intro g12 σ12 H12 N12 P12 hI hN12 hm
      obtain ⟨F12, ao12_2, uo12_2, vs12_0, vs12_1, o12_3, o12_4, rfl, s12, w12, ko12_2, h12_0, h12_1⟩ := hI
      replace h5 := A2.mono s12 h5
      replace q5 := s12 _ _ q5
      replace h6 := AD.imp (fun _ _ => Rep.mono s12) h6
      replace q6 := s12 _ _ q6
      try dsimp only
      refine seqN fun N15 hN15 => ?_
      refine ⟨_, rfl, _, _, rfl, rfl, ?_⟩
      refine stepN ?_
      try dsimp only
      refine hN15 _ _ ?_
      try dsimp only
      refine seqN fun N16 hN16 => ?_
      have h17 : A2 (rep K F12) [] ([] : (List ((Tup Int) × (Tup Int)))) := .nil
      refine ⟨(by show 0 ≤ sizeLine; decide), fun p18 n18 => ?_⟩
      have w18 : W F12 _ ((p18, .lst []) :: (ao12_2, .lst uo12_2) :: (a_self, (.ins (A 26) dx_self (mkfs [("fars" : Str), ("ways" : Str), ("turns" : Str), ("looks" : Str)] [(.ref a5), (.ref a6), (.ref a_self_turns), (.ref a_self_looks)]))) :: (dx_self, (.own a_self)) :: (a_self_turns, .dT vs12_0) :: (a_self_looks, .dT vs12_1) :: os) := w12.new n18
      have w19 : W F12 _ ((p18, .lst []) :: (a_self, (.ins (A 26) dx_self (mkfs [("fars" : Str), ("ways" : Str), ("turns" : Str), ("looks" : Str)] [(.ref a5), (.ref a6), (.ref a_self_turns), (.ref a_self_looks)]))) :: (dx_self, (.own a_self)) :: (a_self_turns, .dT vs12_0) :: (a_self_looks, .dT vs12_1) :: os) := w18.drop (pre := [_])
      refine stepN ?_
      try dsimp only
      refine hN16 _ _ ?_
      refine ⟨_, rfl, _, _, _, _, _, rfl, (w19.get (pre := [_])), T.cl_Hunting, T.na_Hunting_ways, (fl_Hunting_ways ((.ref a5) : V) ((.ref a6) : V) ((.ref a_self_turns) : V) ((.ref a_self_looks) : V)), _, _, rfl, .inr ⟨_, (w19.same _ _ q6), ?_⟩⟩
      refine forS (tw_keysT (d := a6) (o := od6) h6) hm (fun (g20 : (List ((Tup Int) × (Tup Int)))) σ H' => ∃ (F' : Hp) (vs20_0 : List V) (o20_4 : Option V) (o20_3 : Option V), σ = [some (.ref a_self), some (.int (g12.1 + (1 : Int))), some (.ref p18), o20_3, o20_4] ∧ Same F12 F' ∧ W F' H' ((p18, .lst vs20_0) :: (a_self, (.ins (A 26) dx_self (mkfs [("fars" : Str), ("ways" : Str), ("turns" : Str), ("looks" : Str)] [(.ref a5), (.ref a6), (.ref a_self_turns), (.ref a_self_looks)]))) :: (dx_self, (.own a_self)) :: (a_self_turns, .dT vs12_0) :: (a_self_looks, .dT vs12_1) :: os) ∧ A2 (rep K F') vs20_0 g20) ⟨_, _, _, _, rfl, Same.refl _, w19, h17⟩ (fun g σ H' hI => by obtain ⟨F', _, _, _, _, s, w, _⟩ := hI; exact w.same _ _ (s _ _ q6)) ?_ ?_
      · -- a turn
        intro b20 g20 x20 σ20 H20 H20' N20 P20 hI hy hN20 hm
        obtain ⟨F20, vs20_0, o20_4, o20_3, rfl, s20, w20, h20_0⟩ := hI
        obtain ⟨rfl, k21, rfl, hk21⟩ := hy
        obtain ⟨F22, s22, w22, f22⟩ := w20.tups
        have q22 := f22 _ _ hk21
        replace h5 := A2.mono (s20.trans s22) h5
        replace q5 := (s20.trans s22) _ _ q5
        replace h6 := AD.imp (fun _ _ => Rep.mono (s20.trans s22)) h6
        replace q6 := (s20.trans s22) _ _ q6
        replace h12_0 := AD.imp (fun _ _ => Rep.mono (s20.trans s22)) h12_0
        replace h12_1 := AD.imp (fun _ _ => Rep.mono (s20.trans s22)) h12_1
        replace h20_0 := A2.mono s22 h20_0
        have h22 : A2 (rep K F22) (b20.l.map V.int) b20.l := A2.of_ints
        refine stepN ?_
        try dsimp only
        refine ifOneN fun IA23 IB23 hIA23 hIB23 => ?_
        refine ⟨_, rfl, _, rfl, _, _, _, _, _, rfl, (w22.get (pre := [_])), T.cl_Hunting, T.na_Hunting_turns, (fl_Hunting_turns ((.ref a5) : V) ((.ref a6) : V) ((.ref a_self_turns) : V) ((.ref a_self_looks) : V)), _, _, _, rfl, dgetA (t := b20) (w22.get (pre := [_, _, _])) (key_tup w22.same q22 h22), AD.no kT_inj h12_0, _, rfl, ?_⟩
        refine post_ite hm (fun k24 hm => ?_) (fun k24 hm => ?_)
        · skip
          refine hIA23 _ ?_
          try dsimp only
          refine seqN fun N25 hN25 => ?_
          have w26 : W F22 _ ((a_self_looks, .dT vs12_1) :: (p18, .lst vs20_0) :: (a_self, (.ins (A 26) dx_self (mkfs [("fars" : Str), ("ways" : Str), ("turns" : Str), ("looks" : Str)] [(.ref a5), (.ref a6), (.ref a_self_turns), (.ref a_self_looks)]))) :: (dx_self, (.own a_self)) :: (a_self_turns, .dT vs12_0) :: os) := w22.front (pre := [_, _, _, _])
          have w27 : W F22 _ ((a_self_turns, .dT vs12_0) :: (a_self_looks, .dT vs12_1) :: (p18, .lst vs20_0) :: (a_self, (.ins (A 26) dx_self (mkfs [("fars" : Str), ("ways" : Str), ("turns" : Str), ("looks" : Str)] [(.ref a5), (.ref a6), (.ref a_self_turns), (.ref a_self_looks)]))) :: (dx_self, (.own a_self)) :: os) := w26.front (pre := [_, _, _, _])
          have w28 : W F22 _ ((dx_self, (.own a_self)) :: (a_self_turns, .dT vs12_0) :: (a_self_looks, .dT vs12_1) :: (p18, .lst vs20_0) :: (a_self, (.ins (A 26) dx_self (mkfs [("fars" : Str), ("ways" : Str), ("turns" : Str), ("looks" : Str)] [(.ref a5), (.ref a6), (.ref a_self_turns), (.ref a_self_looks)]))) :: os) := w27.front (pre := [_, _, _, _])
          have w29 : W F22 _ ((a_self, (.ins (A 26) dx_self (mkfs [("fars" : Str), ("ways" : Str), ("turns" : Str), ("looks" : Str)] [(.ref a5), (.ref a6), (.ref a_self_turns), (.ref a_self_looks)]))) :: (dx_self, (.own a_self)) :: (a_self_turns, .dT vs12_0) :: (a_self_looks, .dT vs12_1) :: (p18, .lst vs20_0) :: os) := w28.front (pre := [_, _, _, _])
          refine ⟨_, rfl, _, _, _, rfl, (w22.get (pre := [_])), fm0_Hunting_found_by ((.ref a5) : V) ((.ref a6) : V) ((.ref a_self_turns) : V) ((.ref a_self_looks) : V), _, rfl, _, _, _, _, _, _, _, _, _, _, _, ((x_self.1, x_self.2.1, g12.2.2.1, g12.2.2.2, ()) : HuntingF), _, (b20 : (Tup Int)), rfl, w29, T.nm_Hunting, (rep_lst q5 h5), ⟨_, od6, _, rfl, q6, h6⟩, h12_0, h12_1, (rep_tup q22 h22), ?_⟩
          refine (post_bind hm).mono (fun y30 hm v30 F30 H30 w30 s30 r30 => ?_) (fun _ z => z)
          replace h22 := A2.mono s30 h22
          replace q22 := s30 _ _ q22
          replace h20_0 := A2.mono s30 h20_0
          refine stepN ?_
          try dsimp only
          refine hN25 _ _ ?_
          try dsimp only
          refine ifOneN fun IA32 IB32 hIA32 hIB32 => ?_
          refine ⟨_, rfl, rfl, _, isN_eq r30, _, rfl, ?_⟩
          refine post_ite hm (fun k33 hm => ?_) (fun k33 hm => ?_)
          · skip
            refine hIA32 _ ?_
            obtain ⟨t34, e34, hm⟩ := pb_ofO hm
            have r34 : rep K F30 v30 t34 := (show rep K F30 v30 (some t34) from e34 ▸ r30)
            obtain ⟨a35, vs35, rfl, q35, h35⟩ := r34
            refine ⟨_, rfl, .inl ⟨rfl, _, SqL.of (w30.get (pre := [_, _, _, _]))⟩, _, rfl, _, rfl, (by show 2 ≤ sizeLine; decide), fun p36 n36 => ?_⟩
            obtain ⟨F36, s36, w36, q36⟩ := w30.frzE (o := .tup [(.ref k21), (.ref a35)]) n36
            replace h22 := A2.mono s36 h22
            replace q22 := s36 _ _ q22
            replace h20_0 := A2.mono s36 h20_0
            replace q35 := s36 _ _ q35
            replace h35 := A2.mono s36 h35
            obtain ⟨l37, z37, e37, hm⟩ := pn_app hm
            refine ⟨_, _, _, rfl, rfl, (w36.get (pre := [_, _, _, _])), (A2.lt h20_0 z37), ?_⟩
            have h37 : A2 (rep K F36) (vs20_0 ++ [(V.ref p36)]) l37 := e37 ▸ A2.snoc h20_0 (rep_pair q36 (rep_tup q22 h22) (rep_tup q35 h35))
            have w38 : W F36 _ ((a_self, (.ins (A 26) dx_self (mkfs [("fars" : Str), ("ways" : Str), ("turns" : Str), ("looks" : Str)] [(.ref a5), (.ref a6), (.ref a_self_turns), (.ref a_self_looks)]))) :: (dx_self, (.own a_self)) :: (a_self_turns, .dT vs12_0) :: (a_self_looks, .dT vs12_1) :: (p18, .lst (vs20_0 ++ [(V.ref p36)])) :: os) := w36.set (pre := [_, _, _, _])
            have w39 : W F36 _ ((a_self_looks, .dT vs12_1) :: (a_self, (.ins (A 26) dx_self (mkfs [("fars" : Str), ("ways" : Str), ("turns" : Str), ("looks" : Str)] [(.ref a5), (.ref a6), (.ref a_self_turns), (.ref a_self_looks)]))) :: (dx_self, (.own a_self)) :: (a_self_turns, .dT vs12_0) :: (p18, .lst (vs20_0 ++ [(V.ref p36)])) :: os) := w38.front (pre := [_, _, _])
            have w40 : W F36 _ ((a_self_turns, .dT vs12_0) :: (a_self_looks, .dT vs12_1) :: (a_self, (.ins (A 26) dx_self (mkfs [("fars" : Str), ("ways" : Str), ("turns" : Str), ("looks" : Str)] [(.ref a5), (.ref a6), (.ref a_self_turns), (.ref a_self_looks)]))) :: (dx_self, (.own a_self)) :: (p18, .lst (vs20_0 ++ [(V.ref p36)])) :: os) := w39.front (pre := [_, _, _])
            have w41 : W F36 _ ((dx_self, (.own a_self)) :: (a_self_turns, .dT vs12_0) :: (a_self_looks, .dT vs12_1) :: (a_self, (.ins (A 26) dx_self (mkfs [("fars" : Str), ("ways" : Str), ("turns" : Str), ("looks" : Str)] [(.ref a5), (.ref a6), (.ref a_self_turns), (.ref a_self_looks)]))) :: (p18, .lst (vs20_0 ++ [(V.ref p36)])) :: os) := w40.front (pre := [_, _, _])
            have w42 : W F36 _ ((a_self, (.ins (A 26) dx_self (mkfs [("fars" : Str), ("ways" : Str), ("turns" : Str), ("looks" : Str)] [(.ref a5), (.ref a6), (.ref a_self_turns), (.ref a_self_looks)]))) :: (dx_self, (.own a_self)) :: (a_self_turns, .dT vs12_0) :: (a_self_looks, .dT vs12_1) :: (p18, .lst (vs20_0 ++ [(V.ref p36)])) :: os) := w41.front (pre := [_, _, _])
            have w43 : W F36 _ ((p18, .lst (vs20_0 ++ [(V.ref p36)])) :: (a_self, (.ins (A 26) dx_self (mkfs [("fars" : Str), ("ways" : Str), ("turns" : Str), ("looks" : Str)] [(.ref a5), (.ref a6), (.ref a_self_turns), (.ref a_self_looks)]))) :: (dx_self, (.own a_self)) :: (a_self_turns, .dT vs12_0) :: (a_self_looks, .dT vs12_1) :: os) := w42.front (pre := [_, _, _, _])
            exact hN20 _ (post_ok hm) _ _ ⟨_, _, _, _, rfl, (s20.trans (s22.trans (s30.trans s36))), w43, h37⟩
          · skip
            refine hIB32 _ ?_
            have w44 : W F30 _ ((a_self_looks, .dT vs12_1) :: (a_self, (.ins (A 26) dx_self (mkfs [("fars" : Str), ("ways" : Str), ("turns" : Str), ("looks" : Str)] [(.ref a5), (.ref a6), (.ref a_self_turns), (.ref a_self_looks)]))) :: (dx_self, (.own a_self)) :: (a_self_turns, .dT vs12_0) :: (p18, .lst vs20_0) :: os) := w30.front (pre := [_, _, _])
            have w45 : W F30 _ ((a_self_turns, .dT vs12_0) :: (a_self_looks, .dT vs12_1) :: (a_self, (.ins (A 26) dx_self (mkfs [("fars" : Str), ("ways" : Str), ("turns" : Str), ("looks" : Str)] [(.ref a5), (.ref a6), (.ref a_self_turns), (.ref a_self_looks)]))) :: (dx_self, (.own a_self)) :: (p18, .lst vs20_0) :: os) := w44.front (pre := [_, _, _])
            have w46 : W F30 _ ((dx_self, (.own a_self)) :: (a_self_turns, .dT vs12_0) :: (a_self_looks, .dT vs12_1) :: (a_self, (.ins (A 26) dx_self (mkfs [("fars" : Str), ("ways" : Str), ("turns" : Str), ("looks" : Str)] [(.ref a5), (.ref a6), (.ref a_self_turns), (.ref a_self_looks)]))) :: (p18, .lst vs20_0) :: os) := w45.front (pre := [_, _, _])
            have w47 : W F30 _ ((a_self, (.ins (A 26) dx_self (mkfs [("fars" : Str), ("ways" : Str), ("turns" : Str), ("looks" : Str)] [(.ref a5), (.ref a6), (.ref a_self_turns), (.ref a_self_looks)]))) :: (dx_self, (.own a_self)) :: (a_self_turns, .dT vs12_0) :: (a_self_looks, .dT vs12_1) :: (p18, .lst vs20_0) :: os) := w46.front (pre := [_, _, _])
            have w48 : W F30 _ ((p18, .lst vs20_0) :: (a_self, (.ins (A 26) dx_self (mkfs [("fars" : Str), ("ways" : Str), ("turns" : Str), ("looks" : Str)] [(.ref a5), (.ref a6), (.ref a_self_turns), (.ref a_self_looks)]))) :: (dx_self, (.own a_self)) :: (a_self_turns, .dT vs12_0) :: (a_self_looks, .dT vs12_1) :: os) := w47.front (pre := [_, _, _, _])
            exact hN20 _ (post_ok hm) _ _ ⟨_, _, _, _, rfl, (s20.trans (s22.trans s30)), w48, h20_0⟩
        · skip
          refine hIB23 _ ?_
          exact hN20 _ (post_ok hm) _ _ ⟨_, _, _, _, rfl, (s20.trans s22), w22, h20_0⟩
      intro g20 σ20 H20 hI hm
      obtain ⟨F20, vs20_0, o20_4, o20_3, rfl, s20, w20, h20_0⟩ := hI
      replace h12_0 := AD.imp (fun _ _ => Rep.mono s20) h12_0
      replace h12_1 := AD.imp (fun _ _ => Rep.mono s20) h12_1
      refine ⟨_, rfl, _, rfl, ⟨_, SqL.of (w20.get (pre := []))⟩, ?_⟩
      refine forS (tw_list (a := p18) h20_0) hm (fun (g49 : (List ((Tup Int) × Int)) × (List ((Tup Int) × (Tup Int)))) σ H' => ∃ (F' : Hp) (vs49_0 : List (List Key × V)) (vs49_1 : List (List Key × V)) (o49_3 : Option V) (o49_4 : Option V), σ = [some (.ref a_self), some (.int (g12.1 + (1 : Int))), some (.ref p18), o49_3, o49_4] ∧ Same F20 F' ∧ W F' H' ((p18, .lst vs20_0) :: (a_self, (.ins (A 26) dx_self (mkfs [("fars" : Str), ("ways" : Str), ("turns" : Str), ("looks" : Str)] [(.ref a5), (.ref a6), (.ref a_self_turns), (.ref a_self_looks)]))) :: (dx_self, (.own a_self)) :: (a_self_turns, .dT vs49_0) :: (a_self_looks, .dT vs49_1) :: os) ∧ AD kT (rep K F') vs49_0 g49.1 ∧ AD kT (rep K F') vs49_1 g49.2) ⟨_, _, _, _, _, rfl, Same.refl _, w20, h12_0, h12_1⟩ (fun g σ H' hI => by obtain ⟨F', _, _, _, _, _, s, w, _⟩ := hI; exact SqL.of (w.get (pre := []))) ?_ ?_
      · -- a turn
        intro b49 g49 x49 σ49 H49 H49' N49 P49 hI hy hN49 hm
        obtain ⟨F49, vs49_0, vs49_1, o49_3, o49_4, rfl, s49, w49, h49_0, h49_1⟩ := hI
        obtain ⟨rfl, r50⟩ := hy
        replace r50 := Rep.mono s49 r50
        obtain ⟨a51, u51, z51, rfl, q51, r51a, r51b⟩ := r50
        obtain ⟨a52, vs52, rfl, q52, h52⟩ := r51a
        obtain ⟨a53, vs53, rfl, q53, h53⟩ := r51b
        refine ⟨_, _, rfl, SqT.of (w49.same _ _ q51), rfl, _, _, rfl, _, _, rfl, rfl, ?_⟩
        try dsimp only
        refine seqN fun N54 hN54 => ?_
        obtain ⟨l55, z55, e55, hm⟩ := pn_mput hm
        refine ⟨_, rfl, _, rfl, _, _, _, _, _, rfl, (w49.get (pre := [_])), T.cl_Hunting, T.na_Hunting_turns, (fl_Hunting_turns ((.ref a5) : V) ((.ref a6) : V) ((.ref a_self_turns) : V) ((.ref a_self_looks) : V)), _, rfl, _, _, rfl, dputA (t := b49.1) (v := (.int (g12.1 + (1 : Int)))) (w49.get (pre := [_, _, _])) (key_tup w49.same q52 h52) h49_0 z55, ?_⟩
        have h55 : AD kT (rep K F49) (putK vs49_0 (kT b49.1) (.int (g12.1 + (1 : Int)))) l55 := e55 ▸ AD.put kT_inj h49_0 rep_i
        have w56 : W F49 _ ((p18, .lst vs20_0) :: (a_self, (.ins (A 26) dx_self (mkfs [("fars" : Str), ("ways" : Str), ("turns" : Str), ("looks" : Str)] [(.ref a5), (.ref a6), (.ref a_self_turns), (.ref a_self_looks)]))) :: (dx_self, (.own a_self)) :: (a_self_turns, .dT (putK vs49_0 (kT b49.1) (.int (g12.1 + (1 : Int))))) :: (a_self_looks, .dT vs49_1) :: os) := w49.set (pre := [_, _, _])
        try dsimp only
        refine hN54 _ _ ?_
        obtain ⟨l57, z57, e57, hm⟩ := pn_mput hm
        refine ⟨_, rfl, _, rfl, _, _, _, _, _, rfl, (w56.get (pre := [_])), T.cl_Hunting, T.na_Hunting_looks, (fl_Hunting_looks ((.ref a5) : V) ((.ref a6) : V) ((.ref a_self_turns) : V) ((.ref a_self_looks) : V)), _, rfl, _, _, rfl, dputA (t := b49.1) (v := (.ref a53)) (w56.get (pre := [_, _, _, _])) (key_tup w56.same q52 h52) h49_1 z57, ?_⟩
        have h57 : AD kT (rep K F49) (putK vs49_1 (kT b49.1) (.ref a53)) l57 := e57 ▸ AD.put kT_inj h49_1 (rep_tup q53 h53)
        have w58 : W F49 _ ((p18, .lst vs20_0) :: (a_self, (.ins (A 26) dx_self (mkfs [("fars" : Str), ("ways" : Str), ("turns" : Str), ("looks" : Str)] [(.ref a5), (.ref a6), (.ref a_self_turns), (.ref a_self_looks)]))) :: (dx_self, (.own a_self)) :: (a_self_turns, .dT (putK vs49_0 (kT b49.1) (.int (g12.1 + (1 : Int))))) :: (a_self_looks, .dT (putK vs49_1 (kT b49.1) (.ref a53))) :: os) := w56.set (pre := [_, _, _, _])
        exact hN49 _ (post_ok hm) _ _ ⟨_, _, _, _, _, rfl, s49, w58, h55, h57⟩
      intro g49 σ49 H49 hI hm
      obtain ⟨F49, vs49_0, vs49_1, o49_3, o49_4, rfl, s49, w49, h49_0, h49_1⟩ := hI
      replace h20_0 := A2.mono s49 h20_0
      have h59 : A2 (rep K F49) vs20_0 (g20.map fun _ => An.a) := A2.an h20_0
      exact hN12 _ (post_ok hm) _ _ ⟨_, _, _, _, _, _, _, rfl, (s12.trans (s20.trans s49)), w49, h59, h49_0, h49_1⟩
    intro g12 σ12 H12 hI hm
    obtain ⟨F12, ao12_2, uo12_2, vs12_0, vs12_1, o12_3, o12_4, rfl, s12, w12, ko12_2, h12_0, h12_1⟩ := hI
    replace sF := sF.trans (s9.trans s12)
    have w61 : W F12 _ ((a_self, (.ins (A 26) dx_self (mkfs [("fars" : Str), ("ways" : Str), ("turns" : Str), ("looks" : Str)] [(.ref a5), (.ref a6), (.ref a_self_turns), (.ref a_self_looks)]))) :: (dx_self, (.own a_self)) :: (a_self_turns, .dT vs12_0) :: (a_self_looks, .dT vs12_1) :: os) := w12.drop (pre := [])
    exact (post_ok hm) _ _ _ _ _ w61 sF rep_n h12_0 h12_1
def sp_Hunting_init (K : Fg) : Sp := fun vs H Q E => ∃ (F : Hp) (os : List (Addr × HO)) (a_self : Addr) (dx_self : Addr) (C_self : Addr) (v_web : V) (x_web : (Int × (Tup (Int × Int)))) (x_many : Int), vs = [.ref a_self, v_web, .int x_many] ∧ W F H ((a_self, .ins C_self dx_self []) :: (dx_self, .own a_self) :: os) ∧ Nm K "Hunting" C_self ∧ rep K F v_web x_web ∧ Post (Hunting_init x_web x_many) (fun (y : HuntingF) => ∀ (u_fars : V) (u_ways : V) (p_turns : Addr) (us_turns : List (List Key × V)) (p_looks : Addr) (us_looks : List (List Key × V)) (F' H' : Hp), W F' H' ((a_self, .ins C_self dx_self (mkfs [("fars" : Str), ("ways" : Str), ("turns" : Str), ("looks" : Str)] [u_fars, u_ways, .ref p_turns, .ref p_looks])) :: (dx_self, .own a_self) :: (p_turns, .dT us_turns) :: (p_looks, .dT us_looks) :: os) → Same F F' → rep K F' u_fars (y.1 : (List (List Int))) → rep K F' u_ways (y.2.1 : (FzT (List ((Tup Int) × (List (Tup Int)))))) → AD kT (rep K F') us_turns y.2.2.1 → AD kT (rep K F') us_looks y.2.2.2.1 → Q .non H') noX
theorem sc_Hunting_init : FnScope ["self", "web", "many", "standing", "looks"] ["self", "web", "many"] (defScope s_Hunting_init) := ⟨rfl, rfl, rfl, by decide +kernel, rfl, by decide +kernel, by decide +kernel⟩
theorem ok_Hunting_init (T : Tx K mg A FD) : FnOk P w K mg base CX0 4 (A 27000) (FD 27000) ["self", "web", "many"] (sp_Hunting_init K) := by
  refine T.d27000.fn.ok sc_Hunting_init (fun vs H Q E h => ?_) (fun cdv Ar outer s H vs Q E hr h => ?_)
  · obtain ⟨F, os, a_self, dx_self, C_self, v_web, x_web, x_many, rfl, _⟩ := h
    rfl
  · obtain ⟨F0, os, a_self, dx_self, C_self, v_web, x_web, x_many, rfl, w0, n_self, r_web, hm⟩ := h
    have sF : Same F0 F0 := Same.refl _
    obtain rfl := n_self.uniq T.nm_Hunting
    obtain ⟨a3, u3, z3, rfl, q3, r3a, r3b⟩ := r_web
    obtain rfl : u3 = V.int x_web.1 := r3a
    obtain ⟨a4, vs4, rfl, q4, h4⟩ := r3b
    refine ⟨_, (pss_cons (ps_fld (pv 0) (pe_call (ok_table_by T) (hr.mono (by decide)) (by rfl) T.d21.mg T.d21.fn.kp T.d21.b .nil pass0 (pa_cons (pv 1) pa_nil)) (by rfl)) (pss_cons (ps_fld (pv 0) pe_dnewT (by rfl)) (pss_cons (ps_for PassesOwn.never rfl (pi_listK (K := K) rfl (pe_call (ok_all_standings T) (hr.mono (by decide)) (by rfl) T.d25.mg T.d25.fn.kp T.d25.b .nil pass0 (pa_cons (pe_ix (ix_tupK (K := K) rfl) (pv 1) pe_int (fun _ _ => rfl)) pa_nil))) (pg_name (i := 3) sc_Hunting_init.nd rfl (Or.inr rfl)) (pss_one (ps_dput (Room.units1 hr) (pe_fld (pv 0) (by rfl)) (pv 3) (pe_lc (own := [("looks", 4)]) (g := gName 4) (by rfl) sc_Hunting_init.nd (pi_listK (K := K) rfl (pe_call (ok_looks_of T) (hr.mono (by decide)) (by rfl) T.d22.mg T.d22.fn.kp T.d22.b .nil pass0 (pa_cons (pe_ix (ix_tupK (K := K) rfl) (pv 1) pe_int (fun _ _ => rfl)) (pa_cons (pv 2) pa_nil)))) (blkOk_by (own := [("looks", 4)]) (N := ["self", "web", "many", "standing", "looks"]) (sc := defScope s_Hunting_init) (by decide +kernel)) (fun _ _ _ _ _ => (pg_name (i := 4) sc_Hunting_init.nd rfl (Or.inl rfl))) (fun _ _ _ _ _ => pts_nil) (fun _ _ _ _ _ => (pe_tup (pa_cons (pv 4) (pa_cons (pe_call (ok_next_standings T) (hr.mono (by decide)) (by rfl) T.d24.mg T.d24.fn.kp T.d24.b .nil pass0 (pa_cons (pe_k (K := K) (t := fun K => tFld K _ _) rfl (pe_fld (pv 0) (by rfl))) (pa_cons (pv 3) (pa_cons (pv 4) pa_nil)))) pa_nil))))) (by rfl)))) (pss_cons (ps_lockT (ps_fld (pv 0) pe_dnewT (by rfl))) (pss_cons (ps_fld (pv 0) pe_dnewT (by rfl)) (pss_one (ps_expr (pe_meth0 (pl := _) (pv 0) T.cl_Hunting T.d27002.mt (ok_Hunting_fill T) (hr.mono (by decide)) T.d27002.b .nil pass0)))))))), ?_⟩
    try dsimp only
    refine seqN fun N5 hN5 => ?_
    refine ⟨_, rfl, _, _, _, (x_web : (Int × (Tup (Int × Int)))), rfl, w0, (rep_pair q3 rep_i (rep_tup q4 h4)), ?_⟩
    refine (post_bind hm).mono (fun y6 hm v6 F6 H6 w6 s6 r6 => ?_) (fun _ z => z)
    replace q3 := s6 _ _ q3
    obtain ⟨a7, vs7, rfl, q7, h7⟩ := r6
    refine ⟨_, rfl, _, _, _, _, rfl, (w6.get (pre := [])), T.cl_Hunting, T.na_Hunting_fars, (Nat.lt_of_le_of_lt (Nat.le_refl _) (by decide : 0 < 1000)), ?_⟩
    have w8 : W F6 _ ((a_self, (.ins (A 26) dx_self (putF ("fars" : Str) (.ref a7) []))) :: (dx_self, (.own a_self)) :: os) := w6.set (pre := [])
    try dsimp only
    refine hN5 _ _ ?_
    try dsimp only
    refine seqN fun N9 hN9 => ?_
    refine fun p10 n10 => ?_
    have w10 : W F6 _ ((p10, .dT []) :: (a_self, (.ins (A 26) dx_self (putF ("fars" : Str) (.ref a7) []))) :: (dx_self, (.own a_self)) :: os) := w8.new n10
    have h10 : AD kT (rep K F6) [] ([] : (List ((Tup Int) × (List ((Tup Int) × (List (Tup Int))))))) := .nil
    refine ⟨_, rfl, _, _, _, _, rfl, (w10.get (pre := [_])), T.cl_Hunting, T.na_Hunting_ways, (Nat.lt_of_le_of_lt (Nat.le_trans (length_putF _ _ _) (Nat.succ_le_succ (Nat.le_refl _))) (by decide : 1 < 1000)), ?_⟩
    have w11 : W F6 _ ((p10, .dT []) :: (a_self, (.ins (A 26) dx_self (putF ("ways" : Str) (.ref p10) (putF ("fars" : Str) (.ref a7) [])))) :: (dx_self, (.own a_self)) :: os) := w10.set (pre := [_])
    try dsimp only
    refine hN9 _ _ ?_
    refine ⟨_, rfl, _, _, _, _, rfl, rfl, SqT.of (w11.same _ _ q3), rfl, _, _, _, rfl, w11, ?_⟩
    refine (post_bind hm).mono (fun y13 hm v13 F13 H13 w13 s13 r13 => ?_) (fun _ z => z)
    replace q3 := s13 _ _ q3
    replace h7 := A2.mono s13 h7
    replace q7 := s13 _ _ q7
    replace h10 := AD.imp (fun _ _ => Rep.mono s13) h10
    obtain ⟨a14, vs14, rfl, q14, h14⟩ := r13
    refine ⟨_, rfl, ⟨_, SqL.of (w13.same _ _ q14)⟩, ?_⟩
    refine forS (tw_list (a := a14) h14) hm (fun (g12 : (List ((Tup Int) × (List ((Tup Int) × (List (Tup Int))))))) σ H' => ∃ (F' : Hp) (vs12_0 : List (List Key × V)) (o12_3 : Option V), σ = [some (.ref a_self), some (.ref a3), some (.int x_many), o12_3, none] ∧ Same F13 F' ∧ W F' H' ((p10, .dT vs12_0) :: (a_self, (.ins (A 26) dx_self (putF ("ways" : Str) (.ref p10) (putF ("fars" : Str) (.ref a7) [])))) :: (dx_self, (.own a_self)) :: os) ∧ AD kT (rep K F') vs12_0 g12) ⟨_, _, _, rfl, Same.refl _, w13, h10⟩ (fun g σ H' hI => by obtain ⟨F', _, _, _, s, w, _⟩ := hI; exact SqL.of (w.same _ _ (s _ _ q14))) ?_ ?_
    · -- a turn
      intro b12 g12 x12 σ12 H12 H12' N12 P12 hI hy hN12 hm
      obtain ⟨F12, vs12_0, o12_3, rfl, s12, w12, h12_0⟩ := hI
      replace q3 := s12 _ _ q3
      obtain ⟨rfl, r15⟩ := hy
      replace r15 := Rep.mono s12 r15
      obtain ⟨a16, vs16, rfl, q16, h16⟩ := r15
      refine ⟨_, rfl, _, _, _, _, rfl, rfl, SqT.of (w12.same _ _ q3), rfl, _, rfl, _, _, _, _, rfl, w12, ?_⟩
      refine (post_bind hm).mono (fun y17 hm v17 F17 H17 w17 s17 r17 => ?_) (fun _ z => z)
      replace h7 := A2.mono (s12.trans s17) h7
      replace q7 := (s12.trans s17) _ _ q7
      replace h16 := A2.mono s17 h16
      replace q16 := s17 _ _ q16
      obtain ⟨a18, vs18, rfl, q18, h18⟩ := r17
      refine ⟨_, rfl, ⟨_, SqL.of (w17.same _ _ q18)⟩, fun D19 nD19 => ?_⟩
      refine lcM (K := K) (tw_list (a := a18) h18) hm w17 nD19 (fun F' H' acc s w => SqL.of (w.same _ _ (s _ _ q18))) ?_ ?_
      · -- one turn
        intro b19 x19 F19 H19 H19' acc19 N19 P19 s19 w19 y19 hN19 hm
        replace h7 := A2.mono s19 h7
        replace q7 := s19 _ _ q7
        replace h16 := A2.mono s19 h16
        replace q16 := s19 _ _ q16
        obtain ⟨rfl, r21⟩ := y19
        replace r21 := Rep.mono s19 r21
        obtain ⟨a22, vs22, rfl, q22, h22⟩ := r21
        refine ⟨rfl, _, rfl, _, rfl, _, _, _, _, _, rfl, (w19.get (pre := [_, _])), T.cl_Hunting, T.na_Hunting_fars, (by kernel_rfl), _, rfl, _, rfl, _, _, _, (y6 : (List (List Int))), _, (b12 : (Tup Int)), _, (b19 : (Tup Int)), rfl, w19, (rep_lst q7 h7), (rep_tup q16 h16), (rep_tup q22 h22), ?_⟩
        refine (post_bind hm).mono (fun y23 hm v23 F23 H23 w23 s23 r23 => ?_) (fun _ z => z)
        obtain ⟨a24, vs24, rfl, q24, h24⟩ := r23
        refine ⟨(by show 2 ≤ sizeLine; decide), fun p25 n25 => ?_⟩
        obtain ⟨F25, s25, w25, q25⟩ := w23.frzE (o := .tup [(.ref a22), (.ref a24)]) n25
        replace q22 := (s23.trans s25) _ _ q22
        replace h22 := A2.mono (s23.trans s25) h22
        replace q24 := s25 _ _ q24
        replace h24 := A2.mono s25 h24
        exact hN19 _ (post_ok hm) _ _ _ w25 (s23.trans s25) (rep_pair q25 (rep_tup q22 h22) (rep_lst q24 h24))
      intro us19 F19 H19 ys19 s19 w19 gg19 hm
      obtain ⟨F27, s27, w27, q27⟩ : ∃ F', Same F19 F' ∧ W F' _ ((p10, .dT vs12_0) :: (a_self, (.ins (A 26) dx_self (putF ("ways" : Str) (.ref p10) (putF ("fars" : Str) (.ref a7) [])))) :: (dx_self, (.own a_self)) :: os) ∧ F' D19 = some (.lst us19) := w19.freezeE (pre := [])
      replace h16 := A2.mono (s19.trans s27) h16
      replace q16 := (s19.trans s27) _ _ q16
      replace h12_0 := AD.imp (fun _ _ => Rep.mono (s17.trans (s19.trans s27))) h12_0
      replace gg19 := A2.mono s27 gg19
      obtain ⟨l28, z28, e28, hm⟩ := pn_mput hm
      refine ⟨_, rfl, _, _, _, _, _, rfl, (w27.get (pre := [_])), T.cl_Hunting, T.na_Hunting_ways, (by kernel_rfl), _, rfl, _, _, rfl, dputA (t := b12) (v := (.ref D19)) (w27.get (pre := [])) (key_tup w27.same q16 h16) h12_0 z28, ?_⟩
      have h28 : AD kT (rep K F27) (putK vs12_0 (kT b12) (.ref D19)) l28 := e28 ▸ AD.put kT_inj h12_0 (rep_lst q27 gg19)
      have w29 : W F27 _ ((p10, .dT (putK vs12_0 (kT b12) (.ref D19))) :: (a_self, (.ins (A 26) dx_self (putF ("ways" : Str) (.ref p10) (putF ("fars" : Str) (.ref a7) [])))) :: (dx_self, (.own a_self)) :: os) := w27.set (pre := [])
      exact hN12 _ (post_ok hm) _ _ ⟨_, _, _, rfl, (s12.trans (s17.trans (s19.trans s27))), w29, h28⟩
    intro g12 σ12 H12 hI hm
    obtain ⟨F12, vs12_0, o12_3, rfl, s12, w12, h12_0⟩ := hI
    try dsimp only
    refine seqN fun N30 hN30 => ?_
    try dsimp only
    refine ⟨_, _, (w12.get (pre := [])), fun od31 => ?_⟩
    have w31a : W F12 _ ((p10, (.frz od31 (.dT vs12_0))) :: (a_self, (.ins (A 26) dx_self (putF ("ways" : Str) (.ref p10) (putF ("fars" : Str) (.ref a7) [])))) :: (dx_self, (.own a_self)) :: os) := w12.set (pre := [])
    obtain ⟨F31, s31, w31, q31⟩ : ∃ F', Same F12 F' ∧ W F' _ ((a_self, (.ins (A 26) dx_self (putF ("ways" : Str) (.ref p10) (putF ("fars" : Str) (.ref a7) [])))) :: (dx_self, (.own a_self)) :: os) ∧ F' p10 = some (.frz od31 (.dT vs12_0)) := w31a.freezeE (pre := [])
    replace h7 := A2.mono (s12.trans s31) h7
    replace q7 := (s12.trans s31) _ _ q7
    replace h12_0 := AD.imp (fun _ _ => Rep.mono s31) h12_0
    refine fun p32 n32 => ?_
    have w32 : W F31 _ ((p32, .dT []) :: (a_self, (.ins (A 26) dx_self (putF ("ways" : Str) (.ref p10) (putF ("fars" : Str) (.ref a7) [])))) :: (dx_self, (.own a_self)) :: os) := w31.new n32
    have h32 : AD kT (rep K F31) [] ([] : (List ((Tup Int) × Int))) := .nil
    refine ⟨_, rfl, _, _, _, _, rfl, (w32.get (pre := [_])), T.cl_Hunting, T.na_Hunting_turns, (Nat.lt_of_le_of_lt (Nat.le_trans (length_putF _ _ _) (Nat.succ_le_succ (Nat.le_trans (length_putF _ _ _) (Nat.succ_le_succ (Nat.le_refl _))))) (by decide : 2 < 1000)), ?_⟩
    have w33 : W F31 _ ((p32, .dT []) :: (a_self, (.ins (A 26) dx_self (putF ("turns" : Str) (.ref p32) (putF ("ways" : Str) (.ref p10) (putF ("fars" : Str) (.ref a7) []))))) :: (dx_self, (.own a_self)) :: os) := w32.set (pre := [_])
    try dsimp only
    refine hN30 _ _ ?_
    try dsimp only
    refine seqN fun N34 hN34 => ?_
    refine fun p35 n35 => ?_
    have w35 : W F31 _ ((p35, .dT []) :: (p32, .dT []) :: (a_self, (.ins (A 26) dx_self (putF ("turns" : Str) (.ref p32) (putF ("ways" : Str) (.ref p10) (putF ("fars" : Str) (.ref a7) []))))) :: (dx_self, (.own a_self)) :: os) := w33.new n35
    have h35 : AD kT (rep K F31) [] ([] : (List ((Tup Int) × (Tup Int)))) := .nil
    refine ⟨_, rfl, _, _, _, _, rfl, (w35.get (pre := [_, _])), T.cl_Hunting, T.na_Hunting_looks, (Nat.lt_of_le_of_lt (Nat.le_trans (length_putF _ _ _) (Nat.succ_le_succ (Nat.le_trans (length_putF _ _ _) (Nat.succ_le_succ (Nat.le_trans (length_putF _ _ _) (Nat.succ_le_succ (Nat.le_refl _))))))) (by decide : 3 < 1000)), ?_⟩
    have w36 : W F31 _ ((p35, .dT []) :: (p32, .dT []) :: (a_self, (.ins (A 26) dx_self (putF ("looks" : Str) (.ref p35) (putF ("turns" : Str) (.ref p32) (putF ("ways" : Str) (.ref p10) (putF ("fars" : Str) (.ref a7) [])))))) :: (dx_self, (.own a_self)) :: os) := w35.set (pre := [_, _])
    replace w36 : W F31 _ ((p35, .dT []) :: (p32, .dT []) :: (a_self, (.ins (A 26) dx_self (mkfs [("fars" : Str), ("ways" : Str), ("turns" : Str), ("looks" : Str)] [(.ref a7), (.ref p10), (.ref p32), (.ref p35)]))) :: (dx_self, (.own a_self)) :: os) := w36
    try dsimp only
    refine hN34 _ _ ?_
    have w37 : W F31 _ ((p32, .dT []) :: (p35, .dT []) :: (a_self, (.ins (A 26) dx_self (mkfs [("fars" : Str), ("ways" : Str), ("turns" : Str), ("looks" : Str)] [(.ref a7), (.ref p10), (.ref p32), (.ref p35)]))) :: (dx_self, (.own a_self)) :: os) := w36.front (pre := [_])
    have w38 : W F31 _ ((dx_self, (.own a_self)) :: (p32, .dT []) :: (p35, .dT []) :: (a_self, (.ins (A 26) dx_self (mkfs [("fars" : Str), ("ways" : Str), ("turns" : Str), ("looks" : Str)] [(.ref a7), (.ref p10), (.ref p32), (.ref p35)]))) :: os) := w37.front (pre := [_, _, _])
    have w39 : W F31 _ ((a_self, (.ins (A 26) dx_self (mkfs [("fars" : Str), ("ways" : Str), ("turns" : Str), ("looks" : Str)] [(.ref a7), (.ref p10), (.ref p32), (.ref p35)]))) :: (dx_self, (.own a_self)) :: (p32, .dT []) :: (p35, .dT []) :: os) := w38.front (pre := [_, _, _])
    refine ⟨_, rfl, _, _, _, rfl, (w36.get (pre := [_, _])), fm0_Hunting_fill ((.ref a7) : V) ((.ref p10) : V) ((.ref p32) : V) ((.ref p35) : V), _, _, _, _, _, _, _, _, _, _, _, ((y6, (FzT.mk g12 : (FzT (List ((Tup Int) × (List (Tup Int)))))), ([] : (List ((Tup Int) × Int))), ([] : (List ((Tup Int) × (Tup Int)))), ()) : HuntingF), rfl, w39, T.nm_Hunting, (rep_lst q7 h7), ⟨_, od31, _, rfl, q31, h12_0⟩, h32, h35, ?_⟩
    refine (post_bind hm).mono (fun y40 hm v40 vs40 vs40_1 F40 H40 w40 s40 r40 h40 h40_1 => ?_) (fun _ z => z)
    replace h7 := A2.mono s40 h7
    replace q7 := s40 _ _ q7
    replace h12_0 := AD.imp (fun _ _ => Rep.mono s40) h12_0
    replace q31 := s40 _ _ q31
    replace sF := sF.trans (s6.trans (s13.trans (s12.trans (s31.trans s40))))
    obtain rfl : v40 = V.non := r40
    exact (post_ok hm) _ _ _ _ _ _ _ _ w40 sF (rep_lst q7 h7) ⟨_, od31, _, rfl, q31, h12_0⟩ h40 h40_1
def sp_Hunting_hunt (K : Fg) : Sp := fun vs H Q E => ∃ (F : Hp) (os : List (Addr × HO)) (a_self : Addr) (dx_self : Addr) (C_self : Addr) (v_self_fars : V) (v_self_ways : V) (a_self_turns : Addr) (vs_self_turns : List (List Key × V)) (a_self_looks : Addr) (vs_self_looks : List (List Key × V)) (x_self : HuntingF) (v_start : V) (x_start : (Tup Int)), vs = [.ref a_self, v_start] ∧ W F H ((a_self, .ins C_self dx_self (mkfs [("fars" : Str), ("ways" : Str), ("turns" : Str), ("looks" : Str)] [v_self_fars, v_self_ways, .ref a_self_turns, .ref a_self_looks])) :: (dx_self, .own a_self) :: (a_self_turns, .dT vs_self_turns) :: (a_self_looks, .dT vs_self_looks) :: os) ∧ Nm K "Hunting" C_self ∧ rep K F v_self_fars (x_self.1 : (List (List Int))) ∧ rep K F v_self_ways (x_self.2.1 : (FzT (List ((Tup Int) × (List (Tup Int)))))) ∧ AD kT (rep K F) vs_self_turns x_self.2.2.1 ∧ AD kT (rep K F) vs_self_looks x_self.2.2.2.1 ∧ rep K F v_start x_start ∧ Post (Hunting_hunt x_self x_start) (fun (y : (List (Nt ((Tup Int) × (Tup Int) × Int × Unit)))) => ∀ (v : V) (F' H' : Hp), W F' H' ((a_self, .ins C_self dx_self (mkfs [("fars" : Str), ("ways" : Str), ("turns" : Str), ("looks" : Str)] [v_self_fars, v_self_ways, .ref a_self_turns, .ref a_self_looks])) :: (dx_self, .own a_self) :: (a_self_turns, .dT vs_self_turns) :: (a_self_looks, .dT vs_self_looks) :: os) → Same F F' → rep K F' v (y : (List (Nt ((Tup Int) × (Tup Int) × Int × Unit)))) → Q v H') noX
theorem sc_Hunting_hunt : FnScope ["self", "start", "found", "waiting", "standing", "looks"] ["self", "start"] (defScope s_Hunting_hunt) := ⟨rfl, rfl, rfl, by decide +kernel, rfl, by decide +kernel, by decide +kernel⟩
theorem ok_Hunting_hunt (T : Tx K mg A FD) : FnOk P w K mg base CX0 3 (A 27003) (FD 27003) ["self", "start"] (sp_Hunting_hunt K) := by
  refine T.d27003.fn.ok sc_Hunting_hunt (fun vs H Q E h => ?_) (fun cdv Ar outer s H vs Q E hr h => ?_)
  · obtain ⟨F, os, a_self, dx_self, C_self, v_self_fars, v_self_ways, a_self_turns, vs_self_turns, a_self_looks, vs_self_looks, x_self, v_start, x_start, rfl, _⟩ := h
    rfl
  · obtain ⟨F0, os, a_self, dx_self, C_self, v_self_fars, v_self_ways, a_self_turns, vs_self_turns, a_self_looks, vs_self_looks, x_self, v_start, x_start, rfl, w0, n_self, r_self_fars, r_self_ways, h_self_turns, h_self_looks, r_start, hm⟩ := h
    have sF : Same F0 F0 := Same.refl _
    obtain rfl := n_self.uniq T.nm_Hunting
    obtain ⟨a5, vs5, rfl, q5, h5⟩ := r_start
    obtain ⟨a6, vs6, rfl, q6, h6⟩ := r_self_fars
    obtain ⟨a7, od7, us7, rfl, q7, h7⟩ := r_self_ways
    refine ⟨_, (pss_cons (ps_set (i := 2) sc_Hunting_hunt.nd rfl (Or.inl rfl) (pe_lst pa_nil)) (pss_cons (ps_set (i := 3) sc_Hunting_hunt.nd rfl (Or.inl rfl) (pe_lst (pa_cons (pv 1) pa_nil))) (pss_cons (ps_while PassesOwn.never (pt_cmp (pc_gt (pe_callB (call_lenN (K := K) rfl) (by rfl) T.n_len (by decide +kernel) (pa_cons (pv 3) pa_nil)) pe_int)) (pss_cons (ps_set (i := 4) sc_Hunting_hunt.nd rfl (Or.inl rfl) (pe_bm0 PySem.F.plainAttrs_list PySem.F.slot_list_pop PySem.F.type_list_pop mt_pop (pv 3))) (pss_cons (ps_set (i := 5) sc_Hunting_hunt.nd rfl (Or.inl rfl) (pe_dget (Room.units1 hr) (pe_fld (pv 0) (by rfl)) (pv 4) (fun _ _ => rfl))) (pss_one (ps_if (pt_cmpR (op_notInL (K := K) rfl (Nt ((Tup Int) × (Tup Int) × Int × Unit)) (by decide) (Room.units65 hr)) (pe_tup (pa_cons (pv 4) (pa_cons (pv 5) (pa_cons (pe_dget (Room.units1 hr) (pe_fld (pv 0) (by rfl)) (pv 4) (fun _ _ => rfl)) pa_nil)))) (pv 2) (by rfl)) (pss_cons (ps_expr (pe_bm PySem.F.plainAttrs_list PySem.F.slot_list_append PySem.F.type_list_append mt_append (pv 2) (pa_cons (pe_tup (pa_cons (pv 4) (pa_cons (pv 5) (pa_cons (pe_dget (Room.units1 hr) (pe_fld (pv 0) (by rfl)) (pv 4) (fun _ _ => rfl)) pa_nil)))) pa_nil))) (pss_one (ps_expr (pe_bm PySem.F.plainAttrs_list PySem.F.slot_list_extend PySem.F.type_list_extend mt_extend (pv 3) (pa_cons (pe_call (ok_next_standings T) (hr.mono (by decide)) (by rfl) T.d24.mg T.d24.fn.kp T.d24.b .nil pass0 (pa_cons (pe_fld (pv 0) (by rfl)) (pa_cons (pv 4) (pa_cons (pv 5) pa_nil)))) pa_nil))))) pss_nil))))) (pss_one (ps_ret (pv 2)))))), ?_⟩
    try dsimp only
    refine seqN fun N8 hN8 => ?_
    have h9 : A2 (rep K F0) [] ([] : (List (Nt ((Tup Int) × (Tup Int) × Int × Unit)))) := .nil
    refine ⟨(by show 0 ≤ sizeLine; decide), fun p10 n10 => ?_⟩
    have w10 : W F0 _ ((p10, .lst []) :: (a_self, (.ins (A 26) dx_self (mkfs [("fars" : Str), ("ways" : Str), ("turns" : Str), ("looks" : Str)] [(.ref a6), (.ref a7), (.ref a_self_turns), (.ref a_self_looks)]))) :: (dx_self, (.own a_self)) :: (a_self_turns, .dT vs_self_turns) :: (a_self_looks, .dT vs_self_looks) :: os) := w0.new n10
    refine stepN ?_
    try dsimp only
    refine hN8 _ _ ?_
    try dsimp only
    refine seqN fun N11 hN11 => ?_
    have h12 : A2 (rep K F0) [(.ref a5)] ([x_start] : (List (Tup Int))) := .cons (rep_tup q5 h5) (.nil)
    refine ⟨_, rfl, (by show 1 ≤ sizeLine; decide), fun p13 n13 => ?_⟩
    have w13 : W F0 _ ((p13, .lst [(.ref a5)]) :: (p10, .lst []) :: (a_self, (.ins (A 26) dx_self (mkfs [("fars" : Str), ("ways" : Str), ("turns" : Str), ("looks" : Str)] [(.ref a6), (.ref a7), (.ref a_self_turns), (.ref a_self_looks)]))) :: (dx_self, (.own a_self)) :: (a_self_turns, .dT vs_self_turns) :: (a_self_looks, .dT vs_self_looks) :: os) := w10.new n13
    refine stepN ?_
    try dsimp only
    refine hN11 _ _ ?_
    try dsimp only
    refine stepSeq (whileS hm (fun (g14 : (List (Tup Int)) × (List (Nt ((Tup Int) × (Tup Int) × Int × Unit)))) σ H' => ∃ (F' : Hp) (vs14_0 : List V) (vs14_1 : List V) (o14_4 : Option V) (o14_5 : Option V), σ = [some (.ref a_self), some (.ref a5), some (.ref p10), some (.ref p13), o14_4, o14_5] ∧ Same F0 F' ∧ W F' H' ((p13, .lst vs14_0) :: (p10, .lst vs14_1) :: (a_self, (.ins (A 26) dx_self (mkfs [("fars" : Str), ("ways" : Str), ("turns" : Str), ("looks" : Str)] [(.ref a6), (.ref a7), (.ref a_self_turns), (.ref a_self_looks)]))) :: (dx_self, (.own a_self)) :: (a_self_turns, .dT vs_self_turns) :: (a_self_looks, .dT vs_self_looks) :: os) ∧ A2 (rep K F') vs14_0 g14.1 ∧ A2 (rep K F') vs14_1 g14.2) ⟨_, _, _, _, _, rfl, Same.refl _, w13, h12, h9⟩ ?_ ?_ ?_)
    · intro g14 σ14 H14 N14 P14 hI hN14 hm
      obtain ⟨F14, vs14_0, vs14_1, o14_4, o14_5, rfl, s14, w14, h14_0, h14_1⟩ := hI
      exact ⟨_, rfl, _, _, _, rfl, .inl (SqL.of (w14.get (pre := []))), h14_0.length, _, _, rfl, rfl, _, rfl, hN14 _ (post_ok hm) _ ⟨_, _, _, _, _, rfl, s14, w14, h14_0, h14_1⟩⟩
    · intro g14 σ14 H14 N14 P14 hI hN14 hm
      obtain ⟨F14, vs14_0, vs14_1, o14_4, o14_5, rfl, s14, w14, h14_0, h14_1⟩ := hI
      replace h_self_turns := AD.imp (fun _ _ => Rep.mono s14) h_self_turns
      replace h_self_looks := AD.imp (fun _ _ => Rep.mono s14) h_self_looks
      try dsimp only
      refine seqN fun N15 hN15 => ?_
      obtain ⟨x16, l16, y16, e16, hm⟩ := pn_popI hm
      obtain ⟨u16, f16, r16⟩ := A2.lastV h14_0 y16
      refine ⟨_, rfl, .inl ⟨rfl, _, SqL.of (w14.get (pre := []))⟩, _, _, _, rfl, rfl, (w14.get (pre := [])), f16, ?_⟩
      have h16 : A2 (rep K F14) vs14_0.dropLast l16 := e16 ▸ A2.dropLast h14_0
      obtain ⟨a17, vs17, rfl, q17, h17⟩ := r16
      have w18 : W F14 _ ((p13, .lst vs14_0.dropLast) :: (p10, .lst vs14_1) :: (a_self, (.ins (A 26) dx_self (mkfs [("fars" : Str), ("ways" : Str), ("turns" : Str), ("looks" : Str)] [(.ref a6), (.ref a7), (.ref a_self_turns), (.ref a_self_looks)]))) :: (dx_self, (.own a_self)) :: (a_self_turns, .dT vs_self_turns) :: (a_self_looks, .dT vs_self_looks) :: os) := w14.set (pre := [])
      refine stepN ?_
      try dsimp only
      refine hN15 _ _ ?_
      try dsimp only
      refine seqN fun N19 hN19 => ?_
      obtain ⟨t20, e20, hm⟩ := pb_mget hm
      obtain ⟨u20, f20, r20⟩ := AD.get kT_inj h_self_looks e20
      obtain ⟨a21, vs21, rfl, q21, h21⟩ := r20
      refine ⟨_, rfl, _, _, _, _, _, rfl, (w18.get (pre := [_, _])), T.cl_Hunting, T.na_Hunting_looks, (fl_Hunting_looks ((.ref a6) : V) ((.ref a7) : V) ((.ref a_self_turns) : V) ((.ref a_self_looks) : V)), _, rfl, _, _, rfl, dgetsA (w18.get (pre := [_, _, _, _, _])) (key_tup (t := x16) w18.same q17 h17) f20, ?_⟩
      refine stepN ?_
      try dsimp only
      refine hN19 _ _ ?_
      try dsimp only
      refine ifOneN fun IA22 IB22 hIA22 hIB22 => ?_
      obtain ⟨t23, e23, hm⟩ := pb_mget hm
      obtain ⟨u23, f23, r23⟩ := AD.get kT_inj h_self_turns e23
      obtain rfl : u23 = V.int t23 := r23
      refine ⟨_, rfl, _, rfl, _, rfl, _, _, _, _, _, rfl, (w18.get (pre := [_, _])), T.cl_Hunting, T.na_Hunting_turns, (fl_Hunting_turns ((.ref a6) : V) ((.ref a7) : V) ((.ref a_self_turns) : V) ((.ref a_self_looks) : V)), _, rfl, _, _, rfl, dgetsA (w18.get (pre := [_, _, _, _])) (key_tup (t := x16) w18.same q17 h17) f23, (by show 3 ≤ sizeLine; decide), fun p24 n24 => ?_⟩
      obtain ⟨F24, s24, w24, q24⟩ := w18.frzE (o := .tup [(.ref a17), (.ref a21), (.int t23)]) n24
      replace h6 := A2.mono (s14.trans s24) h6
      replace q6 := (s14.trans s24) _ _ q6
      replace h17 := A2.mono s24 h17
      replace q17 := s24 _ _ q17
      replace h21 := A2.mono s24 h21
      replace q21 := s24 _ _ q21
      replace h16 := A2.mono s24 h16
      replace h14_1 := A2.mono s24 h14_1
      replace h_self_turns := AD.imp (fun _ _ => Rep.mono s24) h_self_turns
      refine ⟨_, rfl, ((Nt.mk (x16, t20, t23, ()) : (Nt ((Tup Int) × (Tup Int) × Int × Unit))) : (Nt ((Tup Int) × (Tup Int) × Int × Unit))), _, (Rep.mono w24.same (rep_nt3 q24 (rep_tup q17 h17) (rep_tup q21 h21) rep_i)), (rep_own (pre := [_]) w24 h14_1), _, rfl, ?_⟩
      refine post_ite hm (fun k25 hm => ?_) (fun k25 hm => ?_)
      · skip
        refine hIA22 _ ?_
        try dsimp only
        refine seqN fun N26 hN26 => ?_
        obtain ⟨t27, e27, hm⟩ := pb_mget hm
        obtain ⟨u27, f27, r27⟩ := AD.get kT_inj h_self_turns e27
        obtain rfl : u27 = V.int t27 := r27
        refine ⟨_, rfl, .inl ⟨rfl, _, SqL.of (w24.get (pre := [_]))⟩, _, rfl, _, rfl, _, rfl, _, _, _, _, _, rfl, (w24.get (pre := [_, _])), T.cl_Hunting, T.na_Hunting_turns, (fl_Hunting_turns ((.ref a6) : V) ((.ref a7) : V) ((.ref a_self_turns) : V) ((.ref a_self_looks) : V)), _, rfl, _, _, rfl, dgetsA (w24.get (pre := [_, _, _, _])) (key_tup (t := x16) w24.same q17 h17) f27, (by show 3 ≤ sizeLine; decide), fun p28 n28 => ?_⟩
        obtain ⟨F28, s28, w28, q28⟩ := w24.frzE (o := .tup [(.ref a17), (.ref a21), (.int t27)]) n28
        replace h6 := A2.mono s28 h6
        replace q6 := s28 _ _ q6
        replace h17 := A2.mono s28 h17
        replace q17 := s28 _ _ q17
        replace h21 := A2.mono s28 h21
        replace q21 := s28 _ _ q21
        replace h14_1 := A2.mono s28 h14_1
        obtain ⟨l29, z29, e29, hm⟩ := pn_app hm
        refine ⟨_, _, _, rfl, rfl, (w28.get (pre := [_])), (A2.lt h14_1 z29), ?_⟩
        have h29 : A2 (rep K F28) (vs14_1 ++ [(V.ref p28)]) l29 := e29 ▸ A2.snoc h14_1 (rep_nt3 q28 (rep_tup q17 h17) (rep_tup q21 h21) rep_i)
        have w30 : W F28 _ ((p13, .lst vs14_0.dropLast) :: (p10, .lst (vs14_1 ++ [(V.ref p28)])) :: (a_self, (.ins (A 26) dx_self (mkfs [("fars" : Str), ("ways" : Str), ("turns" : Str), ("looks" : Str)] [(.ref a6), (.ref a7), (.ref a_self_turns), (.ref a_self_looks)]))) :: (dx_self, (.own a_self)) :: (a_self_turns, .dT vs_self_turns) :: (a_self_looks, .dT vs_self_looks) :: os) := w28.set (pre := [_])
        try dsimp only
        refine hN26 _ _ ?_
        refine ⟨_, rfl, .inl ⟨rfl, _, SqL.of (w30.get (pre := []))⟩, _, rfl, _, _, _, _, _, rfl, (w30.get (pre := [_, _])), T.cl_Hunting, T.na_Hunting_fars, (fl_Hunting_fars ((.ref a6) : V) ((.ref a7) : V) ((.ref a_self_turns) : V) ((.ref a_self_looks) : V)), _, rfl, _, rfl, _, _, _, (x_self.1 : (List (List Int))), _, (x16 : (Tup Int)), _, (t20 : (Tup Int)), rfl, w30, (rep_lst q6 h6), (rep_tup q17 h17), (rep_tup q21 h21), ?_⟩
        refine (post_bind hm).mono (fun y31 hm v31 F31 H31 w31 s31 r31 => ?_) (fun _ z => z)
        replace h16 := A2.mono (s28.trans s31) h16
        replace h29 := A2.mono s31 h29
        obtain ⟨a32, vs32, rfl, q32, h32⟩ := r31
        obtain ⟨l33, z33, e33, hm⟩ := pn_extend hm
        refine ⟨_, _, _, _, rfl, rfl, (w31.get (pre := [])), (w31.same _ _ q32), (A2.le2 h16 h32 z33), ?_⟩
        have h33 : A2 (rep K F31) (vs14_0.dropLast ++ vs32) l33 := e33 ▸ A2.append h16 h32
        have w34 : W F31 _ ((p13, .lst (vs14_0.dropLast ++ vs32)) :: (p10, .lst (vs14_1 ++ [(V.ref p28)])) :: (a_self, (.ins (A 26) dx_self (mkfs [("fars" : Str), ("ways" : Str), ("turns" : Str), ("looks" : Str)] [(.ref a6), (.ref a7), (.ref a_self_turns), (.ref a_self_looks)]))) :: (dx_self, (.own a_self)) :: (a_self_turns, .dT vs_self_turns) :: (a_self_looks, .dT vs_self_looks) :: os) := w31.set (pre := [])
        exact hN14 _ (post_ok hm) _ _ ⟨_, _, _, _, _, rfl, (s14.trans (s24.trans (s28.trans s31))), w34, h33, h29⟩
      · skip
        refine hIB22 _ ?_
        exact hN14 _ (post_ok hm) _ _ ⟨_, _, _, _, _, rfl, (s14.trans s24), w24, h16, h14_1⟩
    intro g14 σ14 H14 hI hm
    obtain ⟨F14, vs14_0, vs14_1, o14_4, o14_5, rfl, s14, w14, h14_0, h14_1⟩ := hI
    obtain ⟨F35, s35, w35, q35⟩ : ∃ F', Same F14 F' ∧ W F' _ ((p13, .lst vs14_0) :: (a_self, (.ins (A 26) dx_self (mkfs [("fars" : Str), ("ways" : Str), ("turns" : Str), ("looks" : Str)] [(.ref a6), (.ref a7), (.ref a_self_turns), (.ref a_self_looks)]))) :: (dx_self, (.own a_self)) :: (a_self_turns, .dT vs_self_turns) :: (a_self_looks, .dT vs_self_looks) :: os) ∧ F' p10 = some (.lst vs14_1) := w14.freezeE (pre := [_])
    replace h14_1 := A2.mono s35 h14_1
    replace sF := sF.trans (s14.trans s35)
    have w36 : W F35 _ ((a_self, (.ins (A 26) dx_self (mkfs [("fars" : Str), ("ways" : Str), ("turns" : Str), ("looks" : Str)] [(.ref a6), (.ref a7), (.ref a_self_turns), (.ref a_self_looks)]))) :: (dx_self, (.own a_self)) :: (a_self_turns, .dT vs_self_turns) :: (a_self_looks, .dT vs_self_looks) :: os) := w35.drop (pre := [])
    exact ⟨_, rfl, (post_ok hm) _ _ _ w36 sF (rep_lst q35 h14_1)⟩
def sp_hunt_or_shelter (K : Fg) : Sp := fun vs H Q E => ∃ (F : Hp) (os : List (Addr × HO)) (v_web : V) (x_web : (Int × (Tup (Int × Int)))) (x_many : Int), vs = [v_web, .int x_many] ∧ W F H (os) ∧ rep K F v_web x_web ∧ Post (hunt_or_shelter x_web x_many) (Ret K F os Q) noX
theorem sc_hunt_or_shelter : FnScope ["web", "many", "hunting", "start", "standing"] ["web", "many"] (defScope s_hunt_or_shelter) := ⟨rfl, rfl, rfl, by decide +kernel, rfl, by decide +kernel, by decide +kernel⟩
theorem ok_hunt_or_shelter (T : Tx K mg A FD) : FnOk P w K mg base CX0 6 (A 27) (FD 27) ["web", "many"] (sp_hunt_or_shelter K) := by
  refine T.d27.fn.ok sc_hunt_or_shelter (fun vs H Q E h => ?_) (fun cdv Ar outer s H vs Q E hr h => ?_)
  · obtain ⟨F, os, v_web, x_web, x_many, rfl, _⟩ := h
    rfl
  · obtain ⟨F0, os, v_web, x_web, x_many, rfl, w0, r_web, hm⟩ := h
    have sF : Same F0 F0 := Same.refl _
    obtain ⟨a1, u1, z1, rfl, q1, r1a, r1b⟩ := r_web
    obtain rfl : u1 = V.int x_web.1 := r1a
    obtain ⟨a2, vs2, rfl, q2, h2⟩ := r1b
    refine ⟨_, (pss_cons (ps_expr (pe_call (ok_few_places T) (hr.mono (by decide)) (by rfl) T.d20.mg T.d20.fn.kp T.d20.b .nil pass0 (pa_cons (pv 0) pa_nil))) (pss_cons (ps_set (i := 2) sc_hunt_or_shelter.nd rfl (Or.inr rfl) (pe_make T.mk_Hunting (ok_Hunting_init T) (hr.mono (by first | decide | omega)) (by rfl) T.mg_Hunting T.d27000.b .nil pass0 (pa_cons (pv 0) (pa_cons (pv 1) pa_nil)))) (pss_cons (ps_set (i := 3) sc_hunt_or_shelter.nd rfl (Or.inl rfl) (pe_tupRg rfl (by rfl) T.n_tuple (prg_1 (by rfl) T.n_range (pe_ix (ix_tupK (K := K) rfl) (pv 0) pe_int (fun _ _ => rfl))))) (pss_cons (ps_if (pt_cmp (pc_dinH (Room.units1 hr) (pv 3) (pe_fld (pv 2) (by rfl)))) (pss_one (ps_ret (pe_tup (pa_cons pe_str (pa_cons (pe_meth (pl := _) (pv 2) T.cl_Hunting T.d27003.mt (ok_Hunting_hunt T) (hr.mono (by decide)) T.d27003.b .nil pass0 (pa_cons (pv 3) pa_nil)) pa_nil))))) pss_nil) (pss_one (ps_ret (pe_tup (pa_cons pe_str (pa_cons (pe_lc (own := [("standing", 4)]) (g := gName 4) (by rfl) sc_hunt_or_shelter.nd (pi_keys (pe_fld (pv 2) (by rfl))) (blkOk_by (own := [("standing", 4)]) (N := ["web", "many", "hunting", "start", "standing"]) (sc := defScope s_hunt_or_shelter) (by decide +kernel)) (fun _ _ _ _ _ => (pg_name (i := 4) sc_hunt_or_shelter.nd rfl (Or.inl rfl))) (fun _ _ _ _ _ => (pts_one (pt_cmp (pc_dnotinH (Room.units1 hr) (pv 4) (pe_k (K := K) (t := fun K => tFld K _ _) rfl (pe_fld (pv 2) (by rfl))))))) (fun _ _ _ _ _ => (pv 4))) pa_nil))))))))), ?_⟩
    try dsimp only
    refine seqN fun N3 hN3 => ?_
    refine ⟨_, rfl, _, _, _, (x_web : (Int × (Tup (Int × Int)))), rfl, w0, (rep_pair q1 rep_i (rep_tup q2 h2)), ?_⟩
    refine (post_bind hm).mono (fun y4 hm v4 F4 H4 w4 s4 r4 => ?_) (fun _ z => z)
    replace q1 := s4 _ _ q1
    replace q2 := s4 _ _ q2
    replace h2 := A2.mono s4 h2
    obtain rfl : v4 = V.non := r4
    try dsimp only
    refine hN3 _ _ ?_
    try dsimp only
    refine seqN fun N5 hN5 => ?_
    refine ⟨_, rfl, _, rfl, fun a6 dx6 na6 nd6 ne6 => ?_⟩
    have wd6 : W F4 _ ((dx6, (.own a6)) :: os) := w4.new (o := .own a6) nd6
    have w6 : W F4 _ ((a6, (.ins (A 26) dx6 [])) :: (dx6, (.own a6)) :: os) := wd6.new (o := .ins (A 26) dx6 []) (by rw [upd_ne ne6.symm]; exact na6)
    refine ⟨_, _, _, _, _, _, (x_web : (Int × (Tup (Int × Int)))), _, rfl, w6, T.nm_Hunting, (rep_pair q1 rep_i (rep_tup q2 h2)), ?_⟩
    refine (post_bind hm).mono (fun y6 hm u6_0 u6_1 p6_2 us6_2 p6_3 us6_3 F6 H6 w6i s6 h6_0 h6_1 h6_2 h6_3 => ⟨rfl, ?_⟩) (fun _ z => z)
    replace q1 := s6 _ _ q1
    obtain ⟨a13, vs13, rfl, q13, h13⟩ := h6_0
    obtain ⟨a14, od14, us14, rfl, q14, h14⟩ := h6_1
    refine stepN ?_
    try dsimp only
    refine hN5 _ _ ?_
    try dsimp only
    refine seqN fun N15 hN15 => ?_
    obtain ⟨l16, z16, e16, hm⟩ := pb_lrng hm
    have h16 : A2 (rep K F6) (rgV 0 x_web.1) l16 := by rw [e16, rgV_eq]; exact A2.of_ints
    refine ⟨_, rfl, _, _, _, _, rfl, rfl, SqT.of (w6i.same _ _ q1), rfl, _, rfl, z16, fun p17 n17 => ?_⟩
    obtain ⟨F17, s17, w17, q17⟩ := w6i.frzE (o := .tup (rgV 0 x_web.1)) n17
    replace h13 := A2.mono s17 h13
    replace q13 := s17 _ _ q13
    replace h14 := AD.imp (fun _ _ => Rep.mono s17) h14
    replace q14 := s17 _ _ q14
    replace h6_2 := AD.imp (fun _ _ => Rep.mono s17) h6_2
    replace h6_3 := AD.imp (fun _ _ => Rep.mono s17) h6_3
    replace h16 := A2.mono s17 h16
    replace sF := sF.trans (s4.trans (s6.trans s17))
    refine stepN ?_
    try dsimp only
    refine hN15 _ _ ?_
    try dsimp only
    refine ifSeqN fun IA18 IB18 hIA18 hIB18 => ?_
    refine ⟨_, rfl, _, rfl, _, _, _, _, _, rfl, (w17.get (pre := [])), T.cl_Hunting, T.na_Hunting_turns, (fl_Hunting_turns ((.ref a13) : V) ((.ref a14) : V) ((.ref p6_2) : V) ((.ref p6_3) : V)), _, _, _, rfl, dgetA (t := (Tup.mk l16 : Tup Int)) (w17.get (pre := [_, _])) (key_tup w17.same q17 h16), AD.no kT_inj h6_2, _, rfl, ?_⟩
    refine post_ite hm (fun k19 hm => ?_) (fun k19 hm => ?_)
    · skip
      refine hIA18 _ ?_
      have w20 : W F17 _ ((p6_3, .dT us6_3) :: (a6, (.ins (A 26) dx6 (mkfs [("fars" : Str), ("ways" : Str), ("turns" : Str), ("looks" : Str)] [(.ref a13), (.ref a14), (.ref p6_2), (.ref p6_3)]))) :: (dx6, (.own a6)) :: (p6_2, .dT us6_2) :: os) := w17.front (pre := [_, _, _])
      have w21 : W F17 _ ((p6_2, .dT us6_2) :: (p6_3, .dT us6_3) :: (a6, (.ins (A 26) dx6 (mkfs [("fars" : Str), ("ways" : Str), ("turns" : Str), ("looks" : Str)] [(.ref a13), (.ref a14), (.ref p6_2), (.ref p6_3)]))) :: (dx6, (.own a6)) :: os) := w20.front (pre := [_, _, _])
      have w22 : W F17 _ ((dx6, (.own a6)) :: (p6_2, .dT us6_2) :: (p6_3, .dT us6_3) :: (a6, (.ins (A 26) dx6 (mkfs [("fars" : Str), ("ways" : Str), ("turns" : Str), ("looks" : Str)] [(.ref a13), (.ref a14), (.ref p6_2), (.ref p6_3)]))) :: os) := w21.front (pre := [_, _, _])
      have w23 : W F17 _ ((a6, (.ins (A 26) dx6 (mkfs [("fars" : Str), ("ways" : Str), ("turns" : Str), ("looks" : Str)] [(.ref a13), (.ref a14), (.ref p6_2), (.ref p6_3)]))) :: (dx6, (.own a6)) :: (p6_2, .dT us6_2) :: (p6_3, .dT us6_3) :: os) := w22.front (pre := [_, _, _])
      refine ⟨_, rfl, _, _, _, rfl, (w17.get (pre := [])), fm0_Hunting_hunt ((.ref a13) : V) ((.ref a14) : V) ((.ref p6_2) : V) ((.ref p6_3) : V), _, rfl, _, _, _, _, _, _, _, _, _, _, _, ((y6.1, y6.2.1, y6.2.2.1, y6.2.2.2.1, ()) : HuntingF), _, ((Tup.mk l16 : Tup Int) : (Tup Int)), rfl, w23, T.nm_Hunting, (rep_lst q13 h13), ⟨_, od14, _, rfl, q14, h14⟩, h6_2, h6_3, (rep_tup q17 h16), ?_⟩
      refine (post_bind hm).mono (fun y24 hm v24 F24 H24 w24 s24 r24 => ?_) (fun _ z => z)
      obtain ⟨a25, vs25, rfl, q25, h25⟩ := r24
      refine ⟨(by show 2 ≤ sizeLine; decide), fun p26 n26 => ?_⟩
      obtain ⟨F26, s26, w26, q26⟩ := w24.frzE (o := .tup [(.str "hunt"), (.ref a25)]) n26
      replace q25 := s26 _ _ q25
      replace h25 := A2.mono s26 h25
      replace sF := sF.trans (s24.trans s26)
      have r26 : rep K F26 (.ref p26) ((Hs.hunt y24) : Hs) := ⟨_, _, rfl, q26, (show rep K F26 (V.ref a25) (y24 : (List (Nt ((Tup Int) × (Tup Int) × Int × Unit)))) from (rep_lst q25 h25))⟩
      have w27 : W F26 _ ((dx6, (.own a6)) :: (p6_2, .dT us6_2) :: (p6_3, .dT us6_3) :: os) := w26.drop (pre := [])
      have w28 : W F26 _ ((p6_2, .dT us6_2) :: (p6_3, .dT us6_3) :: os) := w27.drop (pre := [])
      have w29 : W F26 _ ((p6_3, .dT us6_3) :: os) := w28.drop (pre := [])
      have w30 : W F26 _ (os) := w29.drop (pre := [])
      exact (post_ok hm) _ _ _ w30 sF r26
    · skip
      refine hIB18 _ ?_
      refine ⟨_, rfl, _, _, _, _, _, rfl, (w17.get (pre := [])), T.cl_Hunting, T.na_Hunting_ways, (fl_Hunting_ways ((.ref a13) : V) ((.ref a14) : V) ((.ref p6_2) : V) ((.ref p6_3) : V)), _, _, rfl, .inr ⟨_, (w17.same _ _ q14), ?_⟩⟩
      refine fun D31 nD31 => ?_
      refine lcF (K := K) (tw_keysT (d := a14) (o := od14) h14) hm w17 nD31 (fun F' H' acc s w => w.same _ _ (s _ _ q14)) ?_ ?_
      · -- one turn
        intro b31 x31 F31 H31 H31' acc31 N31 M31 P31 s31 w31 y31 hN31 hM31 hm
        obtain ⟨rfl, k33, rfl, hk33⟩ := y31
        obtain ⟨F34, s34, w34, f34⟩ := w31.tups
        have q34 := f34 _ _ hk33
        replace h6_2 := AD.imp (fun _ _ => Rep.mono (s31.trans s34)) h6_2
        have h34 : A2 (rep K F34) (b31.l.map V.int) b31.l := A2.of_ints
        refine ⟨rfl, _, rfl, _, rfl, _, _, _, _, _, rfl, (w34.get (pre := [_])), T.cl_Hunting, T.na_Hunting_turns, (fl_Hunting_turns ((.ref a13) : V) ((.ref a14) : V) ((.ref p6_2) : V) ((.ref p6_3) : V)), _, _, _, rfl, dgetA (t := b31) (w34.get (pre := [_, _, _])) (key_tup w34.same q34 h34), AD.no kT_inj h6_2, _, rfl, ?_⟩
        refine post_ite hm (fun k35 hm => ?_) (fun k35 hm => ?_)
        · skip
          exact ⟨_, rfl, hN31 _ (post_ok hm) _ _ _ w34 s34 (rep_tup q34 h34)⟩
        · skip
          exact hM31 (post_ok hm) _ _ w34 s34
      intro us31 F31 H31 ys31 s31 w31 gg31 hm
      obtain ⟨F37, s37, w37, q37⟩ : ∃ F', Same F31 F' ∧ W F' _ ((a6, (.ins (A 26) dx6 (mkfs [("fars" : Str), ("ways" : Str), ("turns" : Str), ("looks" : Str)] [(.ref a13), (.ref a14), (.ref p6_2), (.ref p6_3)]))) :: (dx6, (.own a6)) :: (p6_2, .dT us6_2) :: (p6_3, .dT us6_3) :: os) ∧ F' D31 = some (.lst us31) := w31.freezeE (pre := [])
      refine ⟨(by show 2 ≤ sizeLine; decide), fun p38 n38 => ?_⟩
      obtain ⟨F38, s38, w38, q38⟩ := w37.frzE (o := .tup [(.str "shelter"), (.ref D31)]) n38
      replace gg31 := A2.mono (s37.trans s38) gg31
      replace q37 := s38 _ _ q37
      replace sF := sF.trans (s31.trans (s37.trans s38))
      have r38 : rep K F38 (.ref p38) ((Hs.shelter ys31) : Hs) := ⟨_, _, rfl, q38, (show rep K F38 (V.ref D31) (ys31 : (List (Tup Int))) from (rep_lst q37 gg31))⟩
      have w39 : W F38 _ ((dx6, (.own a6)) :: (p6_2, .dT us6_2) :: (p6_3, .dT us6_3) :: os) := w38.drop (pre := [])
      have w40 : W F38 _ ((p6_2, .dT us6_2) :: (p6_3, .dT us6_3) :: os) := w39.drop (pre := [])
      have w41 : W F38 _ ((p6_3, .dT us6_3) :: os) := w40.drop (pre := [])
      have w42 : W F38 _ (os) := w41.drop (pre := [])
      exact (post_ok hm) _ _ _ w42 sF r38
def sp_table_of (K : Fg) : Sp := fun vs H Q E => ∃ (F : Hp) (os : List (Addr × HO)) (v_web : V) (x_web : (Int × (Tup (Int × Int)))), vs = [v_web] ∧ W F H (os) ∧ rep K F v_web x_web ∧ Post (table_of x_web) (Ret K F os Q) noX
theorem sc_table_of : FnScope ["web", "place"] ["web"] (defScope s_table_of) := ⟨rfl, rfl, rfl, by decide +kernel, rfl, by decide +kernel, by decide +kernel⟩
theorem ok_table_of (T : Tx K mg A FD) : FnOk P w K mg base CX0 3 (A 29) (FD 29) ["web"] (sp_table_of K) := by
  refine T.d29.fn.ok sc_table_of (fun vs H Q E h => ?_) (fun cdv Ar outer s H vs Q E hr h => ?_)
  · obtain ⟨F, os, v_web, x_web, rfl, _⟩ := h
    rfl
  · obtain ⟨F0, os, v_web, x_web, rfl, w0, r_web, hm⟩ := h
    have sF : Same F0 F0 := Same.refl _
    obtain ⟨a1, u1, z1, rfl, q1, r1a, r1b⟩ := r_web
    obtain rfl : u1 = V.int x_web.1 := r1a
    obtain ⟨a2, vs2, rfl, q2, h2⟩ := r1b
    refine ⟨_, (pss_one (ps_ret (pe_lc (own := [("place", 1)]) (g := gName 1) (by rfl) sc_table_of.nd (pi_range1 (by rfl) T.n_range (pa_cons (pe_ix (ix_tupK (K := K) rfl) (pv 0) pe_int (fun _ _ => rfl)) pa_nil)) (blkOk_by (own := [("place", 1)]) (N := ["web", "place"]) (sc := defScope s_table_of) (by decide +kernel)) (fun _ _ _ _ _ => (pg_name (i := 1) sc_table_of.nd rfl (Or.inl rfl))) (fun _ _ _ _ _ => pts_nil) (fun _ _ _ _ _ => (pe_call (ok_fars_from T) (hr.mono (by decide)) (by rfl) T.d16.mg T.d16.fn.kp T.d16.b .nil pass0 (pa_cons (pv 0) (pa_cons (pv 1) pa_nil))))))), ?_⟩
    obtain ⟨c3, hm⟩ := pb_rng hm
    refine ⟨_, rfl, _, _, _, _, rfl, rfl, SqT.of (w0.same _ _ q1), rfl, _, rfl, c3.2.2.1, c3.2.2.2, fun D4 nD4 => ?_⟩
    refine lcM (K := K) (tw_rng0 (j := x_web.1)) hm w0 nD4 (fun F' H' acc s w => trivial) ?_ ?_
    · -- one turn
      intro b4 x4 F4 H4 H4' acc4 N4 P4 s4 w4 y4 hN4 hm
      replace q1 := s4 _ _ q1
      replace q2 := s4 _ _ q2
      replace h2 := A2.mono s4 h2
      obtain ⟨rfl, rfl⟩ := y4
      refine ⟨rfl, _, rfl, _, rfl, _, _, _, (x_web : (Int × (Tup (Int × Int)))), _, rfl, w4, (rep_pair q1 rep_i (rep_tup q2 h2)), ?_⟩
      refine (post_bind hm).mono (fun y6 hm p6 us6 F6 H6 w6 s6 g6 => ?_) (fun _ z => z)
      obtain ⟨F8, s8, w8, q8⟩ : ∃ F', Same F6 F' ∧ W F' _ ((D4, .lst acc4) :: os) ∧ F' p6 = some (.lst us6) := w6.freezeE (pre := [])
      replace g6 := A2.mono s8 g6
      exact hN4 _ (post_ok hm) _ _ _ w8 (s6.trans s8) (rep_lst q8 g6)
    intro us4 F4 H4 ys4 s4 w4 gg4 hm
    obtain ⟨F10, s10, w10, q10⟩ : ∃ F', Same F4 F' ∧ W F' _ (os) ∧ F' D4 = some (.lst us4) := w4.freezeE (pre := [])
    replace gg4 := A2.mono s10 gg4
    replace sF := sF.trans (s4.trans s10)
    exact (post_ok hm) _ _ _ w10 sF (rep_lst q10 gg4)
def sp_looks_asked (K : Fg) : Sp := fun vs H Q E => ∃ (F : Hp) (os : List (Addr × HO)) (v_web : V) (x_web : (Int × (Tup (Int × Int)))) (v_looks : V) (x_looks : (List Int)), vs = [v_web, v_looks] ∧ W F H (os) ∧ rep K F v_web x_web ∧ rep K F v_looks x_looks ∧ Post (looks_asked x_web x_looks) (Ret K F os Q) noX
theorem sc_looks_asked : FnScope ["web", "looks", "at", "look"] ["web", "looks"] (defScope s_looks_asked) := ⟨rfl, rfl, rfl, by decide +kernel, rfl, by decide +kernel, by decide +kernel⟩
theorem ok_looks_asked (T : Tx K mg A FD) : FnOk P w K mg base CX0 1 (A 30) (FD 30) ["web", "looks"] (sp_looks_asked K) := by
  refine T.d30.fn.ok sc_looks_asked (fun vs H Q E h => ?_) (fun cdv Ar outer s H vs Q E hr h => ?_)
  · obtain ⟨F, os, v_web, x_web, v_looks, x_looks, rfl, _⟩ := h
    rfl
  · obtain ⟨F0, os, v_web, x_web, v_looks, x_looks, rfl, w0, r_web, r_looks, hm⟩ := h
    have sF : Same F0 F0 := Same.refl _
    obtain ⟨a1, u1, z1, rfl, q1, r1a, r1b⟩ := r_web
    obtain rfl : u1 = V.int x_web.1 := r1a
    obtain ⟨a2, vs2, rfl, q2, h2⟩ := r1b
    obtain ⟨a3, vs3, rfl, q3, h3⟩ := r_looks
    refine ⟨_, (pss_one (ps_for PassesOwn.never rfl (pi_k (K := K) (wi := fun K => iEnum K _) rfl (pi_enum (by rfl) T.n_enumerate (pa_cons (pv 1) pa_nil))) (pg_k (K := K) (t := fun K => gTup K 2 _) rfl (pg_tup (n := 2) rfl (pgs_cons (pg_name (i := 2) sc_looks_asked.nd rfl (Or.inl rfl)) (pgs_cons (pg_name (i := 3) sc_looks_asked.nd rfl (Or.inl rfl)) pgs_nil)))) (pss_one (ps_if (PW.pt (pw_or (pt_not (pt_chain op_le op_lt pe_int (pv 3) (pe_ix (ix_tupK (K := K) rfl) (pv 0) pe_int (fun _ _ => rfl)))) (pw_or1 (PW.pt (pw_and (pt_cmp (pc_gt (pv 2) pe_int)) (pw_and1 (pt_cmp (pc_le (pv 3) (pe_ix (ix_listK (K := K) rfl) (pv 1) (pe_op op_sub (pv 2) pe_int) (fun _ _ => rfl)))))))))) (pss_one ps_absurd) pss_nil)))), ?_⟩
    refine ⟨_, rfl, _, _, rfl, SqL.of (w0.same _ _ q3), ?_⟩
    refine forS (tw_enum (a := a3) h3) hm (fun (g4 : Unit) σ H' => ∃ (F' : Hp) (o4_2 : Option V) (o4_3 : Option V), σ = [some (.ref a1), some (.ref a3), o4_2, o4_3] ∧ Same F0 F' ∧ W F' H' (os)) ⟨_, _, _, rfl, Same.refl _, w0⟩ (fun g σ H' hI => by obtain ⟨F', _, _, _, s, w⟩ := hI; exact SqL.of (w.same _ _ (s _ _ q3))) ?_ ?_
    · -- a turn
      intro b4 g4 x4 σ4 H4 H4' N4 P4 hI hy hN4 hm
      obtain ⟨F4, o4_2, o4_3, rfl, s4, w4⟩ := hI
      obtain ⟨T5, u5, rfl, n5, rfl, r5⟩ := hy
      obtain ⟨F5, s5, w5, q5⟩ := w4.frzE (o := .tup [.int b4.1, u5]) n5
      replace q1 := (s4.trans s5) _ _ q1
      replace q3 := (s4.trans s5) _ _ q3
      replace h3 := A2.mono (s4.trans s5) h3
      replace r5 := Rep.mono (s4.trans s5) r5
      obtain rfl : u5 = V.int b4.2 := r5
      refine ⟨_, _, rfl, SqT.of (w5.same _ _ q5), rfl, _, _, rfl, _, _, rfl, rfl, ?_⟩
      try dsimp only
      refine ifOneN fun IA6 IB6 hIA6 hIB6 => ?_
      refine joinT hm (fun (j7 : Bool) c H' => c = j7 ∧ ∃ (F' : Hp), Same F5 F' ∧ W F' H' (os)) ?_ ?_
      · intro Q7 P7 q7 hm
        refine stepOr ?_
        refine stepNot ?_
        refine cutT (fun c H' => c = ((decide ((0 : Int) ≤ b4.2)) && (decide (b4.2 < x_web.1))) ∧ ∃ F', Same F5 F' ∧ W F' H' (os)) (fun Q8 q8 => ?_) (fun c8 H8 hc8 => ?_)
        · -- the ways
          refine ⟨_, rfl, _, _, rfl, rfl, _, rfl, ?_⟩
          refine ifB (fun k9 => ?_) (fun k9 => ?_)
          · skip
            exact ⟨_, rfl, _, _, _, _, rfl, rfl, SqT.of (w5.same _ _ q1), rfl, _, _, rfl, rfl, _, rfl, q8 _ _ ⟨(by first | rfl | exact absurd k9 (by decide) | (simp [k9]; done) | ((try simp only [Bool.not_eq_true] at k9); simp only [k9, Bool.true_or, Bool.false_or, Bool.or_false, Bool.or_true, Bool.true_and, Bool.false_and, Bool.and_true, Bool.and_false])), _, Same.refl _, w5⟩⟩
          · skip
            exact ⟨_, rfl, q8 _ _ ⟨(by first | rfl | exact absurd k9 (by decide) | (simp [k9]; done) | ((try simp only [Bool.not_eq_true] at k9); simp only [k9, Bool.true_or, Bool.false_or, Bool.or_false, Bool.or_true, Bool.true_and, Bool.false_and, Bool.and_true, Bool.and_false])), _, Same.refl _, w5⟩⟩
        obtain ⟨rfl, F8, s8, w8⟩ := hc8
        replace h3 := A2.mono s8 h3
        replace q3 := s8 _ _ q3
        refine post_ite hm (fun k12 hm => ?_) (fun k12 hm => ?_)
        · skip
          exact q7 _ (post_ok hm) _ _ ⟨rfl, _, s8, w8⟩
        · skip
          refine joinT hm (fun (j14 : Bool) c H' => c = j14 ∧ ∃ (F' : Hp), Same F8 F' ∧ W F' H' (os)) ?_ ?_
          · intro Q14 P14 q14 hm
            refine ⟨_, rfl, _, _, rfl, rfl, _, rfl, ?_⟩
            refine post_ite hm (fun k15 hm => ?_) (fun k15 hm => ?_)
            · skip
              obtain ⟨t16, e16, hm⟩ := pb_get hm
              obtain ⟨u16, f16, r16⟩ := A2.at h3 e16
              obtain rfl : u16 = V.int t16 := r16
              exact ⟨_, rfl, _, rfl, _, rfl, _, _, rfl, rfl, _, _, _, _, rfl, rfl, SqL.of (w8.same _ _ q3), f16, _, _, rfl, rfl, _, rfl, q14 _ (post_ok hm) _ _ ⟨rfl, _, Same.refl _, w8⟩⟩
            · skip
              exact q14 _ (post_ok hm) _ _ ⟨rfl, _, Same.refl _, w8⟩
          intro j14 c14 H14 hc14 hm
          obtain ⟨rfl, F14, s14, w14⟩ := hc14
          exact q7 _ (post_ok hm) _ _ ⟨rfl, _, (s8.trans s14), w14⟩
      intro j7 c7 H7 hc7 hm
      obtain ⟨rfl, F7, s7, w7⟩ := hc7
      refine post_ite hm (fun k20 hm => ?_) (fun k20 hm => ?_)
      · skip
        refine hIA6 _ ?_
        try dsimp only
        exact hm
      · skip
        refine hIB6 _ ?_
        exact hN4 _ (post_ok hm) _ _ ⟨_, _, _, rfl, (s4.trans (s5.trans s7)), w7⟩
    intro g4 σ4 H4 hI hm
    obtain ⟨F4, o4_2, o4_3, rfl, s4, w4⟩ := hI
    replace sF := sF.trans s4
    exact (post_ok hm) _ _ _ w4 sF rep_n
def sp_thing_asked (K : Fg) : Sp := fun vs H Q E => ∃ (F : Hp) (os : List (Addr × HO)) (v_web : V) (x_web : (Int × (Tup (Int × Int)))) (v_thing : V) (x_thing : Thing), vs = [v_web, v_thing] ∧ W F H (os) ∧ rep K F v_web x_web ∧ rep K F v_thing x_thing ∧ Post (thing_asked x_web x_thing) (Ret K F os Q) noX
theorem sc_thing_asked : FnScope ["web", "thing"] ["web", "thing"] (defScope s_thing_asked) := ⟨rfl, rfl, rfl, by decide +kernel, rfl, by decide +kernel, by decide +kernel⟩
theorem ok_thing_asked (T : Tx K mg A FD) : FnOk P w K mg base CX0 1 (A 31) (FD 31) ["web", "thing"] (sp_thing_asked K) := by
  refine T.d31.fn.ok sc_thing_asked (fun vs H Q E h => ?_) (fun cdv Ar outer s H vs Q E hr h => ?_)
  · obtain ⟨F, os, v_web, x_web, v_thing, x_thing, rfl, _⟩ := h
    rfl
  · obtain ⟨F0, os, v_web, x_web, v_thing, x_thing, rfl, w0, r_web, r_thing, hm⟩ := h
    have sF : Same F0 F0 := Same.refl _
    obtain ⟨a1, u1, z1, rfl, q1, r1a, r1b⟩ := r_web
    obtain rfl : u1 = V.int x_web.1 := r1a
    obtain ⟨a2, vs2, rfl, q2, h2⟩ := r1b
    refine ⟨_, (pss_one (ps_if (pt_val (pe_callB (call_isB (K := K) rfl) (by rfl) T.n_isinstance (by decide +kernel) (pa_cons (pv 1) (pa_cons (pe_bltn (v := .ty "int") (by rfl) T.n_int (by decide +kernel) rfl) pa_nil)))) (pss_one (ps_if (pt_not (pt_chain op_le op_lt pe_int (pv 1) (pe_ix (ix_tupK (K := K) rfl) (pv 0) pe_int (fun _ _ => rfl)))) (pss_one ps_absurd) pss_nil)) (pss_one (ps_if (pt_cmpR (op_notInT (K := K) rfl (Int × Int) (by decide) (Room.units65 hr)) (pv 1) (pe_ix (ix_tupK (K := K) rfl) (pv 0) pe_int (fun _ _ => rfl)) (by rfl)) (pss_one ps_absurd) pss_nil)))), ?_⟩
    try dsimp only
    refine ifOneN fun IA4 IB4 hIA4 hIB4 => ?_
    obtain ⟨a5, y5, k5⟩ := th_int w0.same r_thing
    refine ⟨_, rfl, _, _, _, x_thing.isPl, rfl, y5, k5, _, rfl, ?_⟩
    refine post_ite hm (fun k6 hm => ?_) (fun k6 hm => ?_)
    · skip
      refine hIA4 _ ?_
      obtain ⟨t7, e7, hm⟩ := pb_asPl hm
      have r7 : v_thing = V.int t7 := (show rep K F0 v_thing (Thing.pl t7) from e7 ▸ r_thing)
      subst r7
      try dsimp only
      refine ifOneN fun IA8 IB8 hIA8 hIB8 => ?_
      refine stepNot ?_
      refine cutT (fun c H' => c = ((decide ((0 : Int) ≤ t7)) && (decide (t7 < x_web.1))) ∧ ∃ F', Same F0 F' ∧ W F' H' (os)) (fun Q9 q9 => ?_) (fun c9 H9 hc9 => ?_)
      · -- the ways
        refine ⟨_, rfl, _, _, rfl, rfl, _, rfl, ?_⟩
        refine ifB (fun k10 => ?_) (fun k10 => ?_)
        · skip
          exact ⟨_, rfl, _, _, _, _, rfl, rfl, SqT.of (w0.same _ _ q1), rfl, _, _, rfl, rfl, _, rfl, q9 _ _ ⟨(by first | rfl | exact absurd k10 (by decide) | (simp [k10]; done) | ((try simp only [Bool.not_eq_true] at k10); simp only [k10, Bool.true_or, Bool.false_or, Bool.or_false, Bool.or_true, Bool.true_and, Bool.false_and, Bool.and_true, Bool.and_false])), _, Same.refl _, w0⟩⟩
        · skip
          exact ⟨_, rfl, q9 _ _ ⟨(by first | rfl | exact absurd k10 (by decide) | (simp [k10]; done) | ((try simp only [Bool.not_eq_true] at k10); simp only [k10, Bool.true_or, Bool.false_or, Bool.or_false, Bool.or_true, Bool.true_and, Bool.false_and, Bool.and_true, Bool.and_false])), _, Same.refl _, w0⟩⟩
      obtain ⟨rfl, F9, s9, w9⟩ := hc9
      replace sF := sF.trans s9
      refine post_ite hm (fun k13 hm => ?_) (fun k13 hm => ?_)
      · skip
        refine hIA8 _ ?_
        try dsimp only
        exact hm
      · skip
        refine hIB8 _ ?_
        exact (post_ok hm) _ _ _ w9 sF rep_n
    · skip
      refine hIB4 _ ?_
      obtain ⟨t14, e14, hm⟩ := pb_asTi hm
      have r14 : rep K F0 v_thing (t14 : Int × Int) := (show rep K F0 v_thing (Thing.ti t14.1 t14.2) from e14 ▸ r_thing)
      obtain ⟨a15, u15, z15, rfl, q15, r15a, r15b⟩ := r14
      obtain rfl : u15 = V.int t14.1 := r15a
      obtain rfl : z15 = V.int t14.2 := r15b
      try dsimp only
      refine ifOneN fun IA16 IB16 hIA16 hIB16 => ?_
      refine ⟨_, rfl, _, rfl, _, _, _, _, rfl, rfl, SqT.of (w0.same _ _ q1), rfl, (t14 : (Int × Int)), _, (Rep.mono w0.same (rep_pair q15 rep_i rep_i)), (Rep.mono w0.same (rep_tup q2 h2)), _, rfl, ?_⟩
      refine post_ite hm (fun k17 hm => ?_) (fun k17 hm => ?_)
      · skip
        refine hIA16 _ ?_
        try dsimp only
        exact hm
      · skip
        refine hIB16 _ ?_
        exact (post_ok hm) _ _ _ w0 sF rep_n
def sp_far_by (K : Fg) : Sp := fun vs H Q E => ∃ (F : Hp) (os : List (Addr × HO)) (v_table : V) (x_table : (List (List Int))) (x_look : Int) (v_thing : V) (x_thing : Thing), vs = [v_table, .int x_look, v_thing] ∧ W F H (os) ∧ rep K F v_table x_table ∧ rep K F v_thing x_thing ∧ Post (far_by x_table x_look x_thing) (Ret K F os Q) noX
theorem sc_far_by : FnScope ["table", "look", "thing"] ["table", "look", "thing"] (defScope s_far_by) := ⟨rfl, rfl, rfl, by decide +kernel, rfl, by decide +kernel, by decide +kernel⟩
theorem ok_far_by (T : Tx K mg A FD) : FnOk P w K mg base CX0 1 (A 32) (FD 32) ["table", "look", "thing"] (sp_far_by K) := by
  refine T.d32.fn.ok sc_far_by (fun vs H Q E h => ?_) (fun cdv Ar outer s H vs Q E hr h => ?_)
  · obtain ⟨F, os, v_table, x_table, x_look, v_thing, x_thing, rfl, _⟩ := h
    rfl
  · obtain ⟨F0, os, v_table, x_table, x_look, v_thing, x_thing, rfl, w0, r_table, r_thing, hm⟩ := h
    have sF : Same F0 F0 := Same.refl _
    obtain ⟨a1, vs1, rfl, q1, h1⟩ := r_table
    refine ⟨_, (pss_cons (ps_if (pt_val (pe_callB (call_isB (K := K) rfl) (by rfl) T.n_isinstance (by decide +kernel) (pa_cons (pv 2) (pa_cons (pe_bltn (v := .ty "int") (by rfl) T.n_int (by decide +kernel) rfl) pa_nil)))) (pss_one (ps_ret (pe_ix (ix_listK (K := K) rfl) (pe_ix (ix_listK (K := K) rfl) (pv 0) (pv 1) (fun _ _ => rfl)) (pv 2) (fun _ _ => rfl)))) pss_nil) (pss_one (ps_ret (pe_callB (call_min2 rfl) (by rfl) T.n_min (by decide +kernel) (pa_cons (pe_ix (ix_listK (K := K) rfl) (pe_ix (ix_listK (K := K) rfl) (pv 0) (pv 1) (fun _ _ => rfl)) (pe_ix (ix_tupK (K := K) rfl) (pv 2) pe_int (fun _ _ => rfl)) (fun _ _ => rfl)) (pa_cons (pe_ix (ix_listK (K := K) rfl) (pe_ix (ix_listK (K := K) rfl) (pv 0) (pv 1) (fun _ _ => rfl)) (pe_ix (ix_tupK (K := K) rfl) (pv 2) pe_int (fun _ _ => rfl)) (fun _ _ => rfl)) pa_nil)))))), ?_⟩
    try dsimp only
    refine ifSeqN fun IA3 IB3 hIA3 hIB3 => ?_
    obtain ⟨a4, y4, k4⟩ := th_int w0.same r_thing
    refine ⟨_, rfl, _, _, _, x_thing.isPl, rfl, y4, k4, _, rfl, ?_⟩
    refine post_ite hm (fun k5 hm => ?_) (fun k5 hm => ?_)
    · skip
      refine hIA3 _ ?_
      obtain ⟨t6, e6, hm⟩ := pb_asPl hm
      have r6 : v_thing = V.int t6 := (show rep K F0 v_thing (Thing.pl t6) from e6 ▸ r_thing)
      subst r6
      obtain ⟨t7, e7, hm⟩ := pb_get hm
      obtain ⟨u7, f7, r7⟩ := A2.at h1 e7
      obtain ⟨a8, vs8, rfl, q8, h8⟩ := r7
      obtain ⟨t9, e9, hm⟩ := pb_get hm
      obtain ⟨u9, f9, r9⟩ := A2.at h8 e9
      obtain rfl : u9 = V.int t9 := r9
      exact ⟨_, rfl, _, rfl, _, _, _, _, rfl, rfl, SqL.of (w0.same _ _ q1), f7, _, rfl, _, _, _, _, rfl, rfl, SqL.of (w0.same _ _ q8), f9, (post_ok hm) _ _ _ w0 sF rep_i⟩
    · skip
      refine hIB3 _ ?_
      obtain ⟨t10, e10, hm⟩ := pb_asTi hm
      have r10 : rep K F0 v_thing (t10 : Int × Int) := (show rep K F0 v_thing (Thing.ti t10.1 t10.2) from e10 ▸ r_thing)
      obtain ⟨a11, u11, z11, rfl, q11, r11a, r11b⟩ := r10
      obtain rfl : u11 = V.int t10.1 := r11a
      obtain rfl : z11 = V.int t10.2 := r11b
      obtain ⟨t12, e12, hm⟩ := pb_get hm
      obtain ⟨u12, f12, r12⟩ := A2.at h1 e12
      obtain ⟨a13, vs13, rfl, q13, h13⟩ := r12
      obtain ⟨t14, e14, hm⟩ := pb_get hm
      obtain ⟨u14, f14, r14⟩ := A2.at h13 e14
      obtain rfl : u14 = V.int t14 := r14
      obtain ⟨t15, e15, hm⟩ := pb_get hm
      obtain ⟨u15, f15, r15⟩ := A2.at h1 e15
      obtain ⟨a16, vs16, rfl, q16, h16⟩ := r15
      obtain ⟨t17, e17, hm⟩ := pb_get hm
      obtain ⟨u17, f17, r17⟩ := A2.at h16 e17
      obtain rfl : u17 = V.int t17 := r17
      exact ⟨_, rfl, _, rfl, _, _, _, _, rfl, rfl, SqL.of (w0.same _ _ q1), f12, _, rfl, _, _, _, _, rfl, rfl, SqT.of (w0.same _ _ q11), rfl, _, _, _, _, rfl, rfl, SqL.of (w0.same _ _ q13), f14, _, rfl, _, rfl, _, _, _, _, rfl, rfl, SqL.of (w0.same _ _ q1), f15, _, rfl, _, _, _, _, rfl, rfl, SqT.of (w0.same _ _ q11), rfl, _, _, _, _, rfl, rfl, SqL.of (w0.same _ _ q16), f17, _, _, rfl, (post_ok hm) _ _ _ w0 sF rep_i⟩
def sp_code_of (K : Fg) : Sp := fun vs H Q E => ∃ (F : Hp) (os : List (Addr × HO)) (v_web : V) (x_web : (Int × (Tup (Int × Int)))) (v_looks : V) (x_looks : (List Int)) (v_thing : V) (x_thing : Thing), vs = [v_web, v_looks, v_thing] ∧ W F H (os) ∧ rep K F v_web x_web ∧ rep K F v_looks x_looks ∧ rep K F v_thing x_thing ∧ Post (code_of x_web x_looks x_thing) (RetL K F os Q) noX
theorem sc_code_of : FnScope ["web", "looks", "thing", "table", "look"] ["web", "looks", "thing"] (defScope s_code_of) := ⟨rfl, rfl, rfl, by decide +kernel, rfl, by decide +kernel, by decide +kernel⟩
theorem ok_code_of (T : Tx K mg A FD) : FnOk P w K mg base CX0 4 (A 33) (FD 33) ["web", "looks", "thing"] (sp_code_of K) := by
  refine T.d33.fn.ok sc_code_of (fun vs H Q E h => ?_) (fun cdv Ar outer s H vs Q E hr h => ?_)
  · obtain ⟨F, os, v_web, x_web, v_looks, x_looks, v_thing, x_thing, rfl, _⟩ := h
    rfl
  · obtain ⟨F0, os, v_web, x_web, v_looks, x_looks, v_thing, x_thing, rfl, w0, r_web, r_looks, r_thing, hm⟩ := h
    have sF : Same F0 F0 := Same.refl _
    obtain ⟨a1, u1, z1, rfl, q1, r1a, r1b⟩ := r_web
    obtain rfl : u1 = V.int x_web.1 := r1a
    obtain ⟨a2, vs2, rfl, q2, h2⟩ := r1b
    obtain ⟨a3, vs3, rfl, q3, h3⟩ := r_looks
    refine ⟨_, (pss_cons (ps_expr (pe_call (ok_looks_asked T) (hr.mono (by decide)) (by rfl) T.d30.mg T.d30.fn.kp T.d30.b .nil pass0 (pa_cons (pv 0) (pa_cons (pv 1) pa_nil)))) (pss_cons (ps_expr (pe_call (ok_thing_asked T) (hr.mono (by decide)) (by rfl) T.d31.mg T.d31.fn.kp T.d31.b .nil pass0 (pa_cons (pv 0) (pa_cons (pv 2) pa_nil)))) (pss_cons (ps_set (i := 3) sc_code_of.nd rfl (Or.inr rfl) (pe_call (ok_table_of T) (hr.mono (by decide)) (by rfl) T.d29.mg T.d29.fn.kp T.d29.b .nil pass0 (pa_cons (pv 0) pa_nil))) (pss_one (ps_ret (pe_lc (own := [("look", 4)]) (g := gName 4) (by rfl) sc_code_of.nd (pi_listK (K := K) rfl (pv 1)) (blkOk_by (own := [("look", 4)]) (N := ["web", "looks", "thing", "table", "look"]) (sc := defScope s_code_of) (by decide +kernel)) (fun _ _ _ _ _ => (pg_name (i := 4) sc_code_of.nd rfl (Or.inl rfl))) (fun _ _ _ _ _ => pts_nil) (fun _ _ _ _ _ => (pe_call (ok_far_by T) (hr.mono (by decide)) (by rfl) T.d32.mg T.d32.fn.kp T.d32.b .nil pass0 (pa_cons (pv 3) (pa_cons (pv 4) (pa_cons (pv 2) pa_nil))))))))))), ?_⟩
    try dsimp only
    refine seqN fun N5 hN5 => ?_
    refine ⟨_, rfl, _, rfl, _, _, _, (x_web : (Int × (Tup (Int × Int)))), _, (x_looks : (List Int)), rfl, w0, (rep_pair q1 rep_i (rep_tup q2 h2)), (rep_lst q3 h3), ?_⟩
    refine (post_bind hm).mono (fun y6 hm v6 F6 H6 w6 s6 r6 => ?_) (fun _ z => z)
    replace q1 := s6 _ _ q1
    replace q2 := s6 _ _ q2
    replace h2 := A2.mono s6 h2
    replace r_thing := Rep.mono s6 r_thing
    obtain rfl : v6 = V.non := r6
    try dsimp only
    refine hN5 _ _ ?_
    try dsimp only
    refine seqN fun N7 hN7 => ?_
    refine ⟨_, rfl, _, rfl, _, _, _, (x_web : (Int × (Tup (Int × Int)))), _, (x_thing : Thing), rfl, w6, (rep_pair q1 rep_i (rep_tup q2 h2)), r_thing, ?_⟩
    refine (post_bind hm).mono (fun y8 hm v8 F8 H8 w8 s8 r8 => ?_) (fun _ z => z)
    replace q1 := s8 _ _ q1
    replace h2 := A2.mono s8 h2
    replace q2 := s8 _ _ q2
    obtain rfl : v8 = V.non := r8
    try dsimp only
    refine hN7 _ _ ?_
    try dsimp only
    refine seqN fun N9 hN9 => ?_
    refine ⟨_, rfl, _, _, _, (x_web : (Int × (Tup (Int × Int)))), rfl, w8, (rep_pair q1 rep_i (rep_tup q2 h2)), ?_⟩
    refine (post_bind hm).mono (fun y10 hm v10 F10 H10 w10 s10 r10 => ?_) (fun _ z => z)
    replace h3 := A2.mono (s6.trans (s8.trans s10)) h3
    replace q3 := (s6.trans (s8.trans s10)) _ _ q3
    replace r_thing := Rep.mono (s8.trans s10) r_thing
    obtain ⟨a11, vs11, rfl, q11, h11⟩ := r10
    refine stepN ?_
    try dsimp only
    refine hN9 _ _ ?_
    refine ⟨_, rfl, _, rfl, ⟨_, SqL.of (w10.same _ _ q3)⟩, fun D12 nD12 => ?_⟩
    refine lcM (K := K) (tw_list (a := a3) h3) hm w10 nD12 (fun F' H' acc s w => SqL.of (w.same _ _ (s _ _ q3))) ?_ ?_
    · -- one turn
      intro b12 x12 F12 H12 H12' acc12 N12 P12 s12 w12 y12 hN12 hm
      replace r_thing := Rep.mono s12 r_thing
      replace h11 := A2.mono s12 h11
      replace q11 := s12 _ _ q11
      obtain ⟨rfl, r14⟩ := y12
      obtain rfl : x12 = V.int b12 := r14
      refine ⟨rfl, _, rfl, _, rfl, _, rfl, _, _, _, (y10 : (List (List Int))), _, _, (x_thing : Thing), rfl, w12, (rep_lst q11 h11), r_thing, ?_⟩
      refine (post_bind hm).mono (fun y15 hm v15 F15 H15 w15 s15 r15 => ?_) (fun _ z => z)
      obtain rfl : v15 = V.int y15 := r15
      exact hN12 _ (post_ok hm) _ _ _ w15 s15 rep_i
    intro us12 F12 H12 ys12 s12 w12 gg12 hm
    replace sF := sF.trans (s6.trans (s8.trans (s10.trans s12)))
    exact (post_ok hm) _ _ _ _ w12 sF gg12
def sp_law_cell_at (K : Fg) : Sp := fun vs H Q E => ∃ (F : Hp) (os : List (Addr × HO)) (v_script : V) (x_script : Scr) (x_k : Int), vs = [v_script, .int x_k] ∧ W F H (os) ∧ rep K F v_script x_script ∧ Post (law_cell_at x_script x_k) (Ret K F os Q) noX
theorem sc_law_cell_at : FnScope ["script", "k", "cell"] ["script", "k"] (defScope s_law_cell_at) := ⟨rfl, rfl, rfl, by decide +kernel, rfl, by decide +kernel, by decide +kernel⟩
theorem ok_law_cell_at (T : Tx K mg A FD) : FnOk P w K mg base CX0 1 (A 35) (FD 35) ["script", "k"] (sp_law_cell_at K) := by
  refine T.d35.fn.ok sc_law_cell_at (fun vs H Q E h => ?_) (fun cdv Ar outer s H vs Q E hr h => ?_)
  · obtain ⟨F, os, v_script, x_script, x_k, rfl, _⟩ := h
    rfl
  · obtain ⟨F0, os, v_script, x_script, x_k, rfl, w0, r_script, hm⟩ := h
    have sF : Same F0 F0 := Same.refl _
    obtain ⟨a1, rfl, q1⟩ := r_script
    have h1 : A2 (rep K F0) (x_script.l.map V.int) x_script.l := A2.of_ints
    refine ⟨_, (pss_cons (ps_if (pt_cmp (pc_lt (pv 1) (pe_callB (call_lenN (K := K) rfl) (by rfl) T.n_len (by decide +kernel) (pa_cons (pv 0) pa_nil)))) (pss_one (ps_ret (pe_ix (ix_listK (K := K) rfl) (pv 0) (pv 1) (fun _ _ => rfl)))) pss_nil) (pss_cons (ps_set (i := 2) sc_law_cell_at.nd rfl (Or.inl rfl) pe_int1) (pss_cons (ps_if (pt_cmpR (op_neDt (K := K) rfl Scr (by decide) hr.units) (pv 0) (pe_lst pa_nil) (nomark _)) (pss_one (ps_set (i := 2) sc_law_cell_at.nd rfl (Or.inl rfl) (pe_op op_mod (pe_ix (ix_listK (K := K) rfl) (pv 0) (pe_op op_mod (pv 1) (pe_callB (call_lenN (K := K) rfl) (by rfl) T.n_len (by decide +kernel) (pa_cons (pv 0) pa_nil))) (fun _ _ => rfl)) pe_int))) pss_nil) (pss_one (ps_ret (pe_op op_add (pe_op op_add (pv 2) (pe_op op_mul pe_int (pv 1))) pe_int)))))), ?_⟩
    try dsimp only
    refine ifSeqN fun IA2 IB2 hIA2 hIB2 => ?_
    refine ⟨_, rfl, _, rfl, _, _, _, rfl, .inl (w0.same.seq q1), h1.length, _, _, rfl, rfl, _, rfl, ?_⟩
    refine post_ite hm (fun k3 hm => ?_) (fun k3 hm => ?_)
    · skip
      refine hIA2 _ ?_
      obtain ⟨t4, e4, hm⟩ := pb_get hm
      obtain ⟨u4, f4, r4⟩ := A2.at h1 e4
      obtain rfl : u4 = V.int t4 := r4
      exact ⟨_, rfl, _, rfl, _, _, _, _, rfl, rfl, w0.same.seq q1, f4, (post_ok hm) _ _ _ w0 sF rep_i⟩
    · skip
      refine hIB2 _ ?_
      refine stepX ?_
      try dsimp only
      refine seqN fun N5 hN5 => ?_
      refine ⟨trivial, ?_⟩
      refine stepN ?_
      try dsimp only
      refine hN5 _ _ ?_
      try dsimp only
      refine joinS hm (fun (g6 : Int) σ H' => ∃ (F' : Hp), σ = [some (.ref a1), some (.int x_k), some (.int g6)] ∧ Same F0 F' ∧ W F' H' (os)) ?_ ?_
      · intro N6 P6 hN6 hm
        refine ifOneN fun IA7 IB7 hIA7 hIB7 => ?_
        have h8 : A2 (rep K F0) [] ([] : (List Int)) := .nil
        refine ⟨_, rfl, (by show 0 ≤ sizeLine; decide), fun p9 n9 => ?_⟩
        have w9 : W F0 _ ((p9, .lst []) :: os) := w0.new n9
        refine ⟨(x_script : Scr), (⟨([] : (List Int))⟩ : Scr), (Rep.mono w9.same ⟨_, rfl, q1⟩), ⟨_, rfl, SqL.of (w9.get (pre := []))⟩, _, rfl, ?_⟩
        have w10 : W F0 _ (os) := w9.drop (pre := [])
        refine post_ite hm (fun k11 hm => ?_) (fun k11 hm => ?_)
        · skip
          refine hIA7 _ ?_
          obtain ⟨c12, hm⟩ := pb_mod hm
          obtain ⟨t13, e13, hm⟩ := pb_get hm
          obtain ⟨u13, f13, r13⟩ := A2.at h1 e13
          obtain rfl : u13 = V.int t13 := r13
          exact ⟨_, rfl, _, rfl, _, rfl, _, _, _, rfl, .inl (w10.same.seq q1), h1.length, _, _, rfl, rfl, c12, _, _, _, _, rfl, rfl, w10.same.seq q1, f13, _, _, rfl, rfl, (by show (0 : Int) < (1000003 : Int); decide), hN6 _ (post_ok hm) _ _ ⟨_, rfl, Same.refl _, w10⟩⟩
        · skip
          refine hIB7 _ ?_
          exact hN6 _ (post_ok hm) _ _ ⟨_, rfl, Same.refl _, w10⟩
      intro g6 σ6 H6 hI hm
      obtain ⟨F6, rfl, s6, w6⟩ := hI
      replace sF := sF.trans s6
      exact ⟨_, rfl, _, rfl, _, _, rfl, rfl, (.inl (by constructor <;> decide)), _, _, rfl, rfl, _, _, rfl, rfl, (post_ok hm) _ _ _ w6 sF rep_i⟩
def sp_law_folded (K : Fg) : Sp := fun vs H Q E => ∃ (F : Hp) (os : List (Addr × HO)) (v_script : V) (x_script : Scr) (x_many : Int), vs = [v_script, .int x_many] ∧ W F H (os) ∧ rep K F v_script x_script ∧ Post (law_folded x_script x_many) (RetL K F os Q) noX
theorem sc_law_folded : FnScope ["script", "many", "cells", "k", "at"] ["script", "many"] (defScope s_law_folded) := ⟨rfl, rfl, rfl, by decide +kernel, rfl, by decide +kernel, by decide +kernel⟩
theorem ok_law_folded (T : Tx K mg A FD) : FnOk P w K mg base CX0 2 (A 36) (FD 36) ["script", "many"] (sp_law_folded K) := by
  refine T.d36.fn.ok sc_law_folded (fun vs H Q E h => ?_) (fun cdv Ar outer s H vs Q E hr h => ?_)
  · obtain ⟨F, os, v_script, x_script, x_many, rfl, _⟩ := h
    rfl
  · obtain ⟨F0, os, v_script, x_script, x_many, rfl, w0, r_script, hm⟩ := h
    have sF : Same F0 F0 := Same.refl _
    obtain ⟨a1, rfl, q1⟩ := r_script
    have h1 : A2 (rep K F0) (x_script.l.map V.int) x_script.l := A2.of_ints
    refine ⟨_, (pss_cons (ps_setLc (i := 2) (own := [("k", 3)]) (g := gName 3) (by rfl) sc_law_folded.nd rfl rfl (sw_true rfl rfl rfl (by decide +kernel)) (pi_range1 (by rfl) T.n_range (pa_cons (pv 1) pa_nil)) (blkOk_by (own := [("k", 3)]) (N := ["script", "many", "cells", "k", "at"]) (sc := defScope s_law_folded) (by decide +kernel)) (fun _ _ _ _ _ => (pg_name (i := 3) sc_law_folded.nd rfl (Or.inl rfl))) (fun _ _ _ _ _ => pts_nil) (fun _ _ _ _ _ => (pe_call (ok_law_cell_at T) (hr.mono (by decide)) (by rfl) T.d35.mg T.d35.fn.kp T.d35.b .nil pass0 (pa_cons (pv 0) (pa_cons (pv 3) pa_nil))))) (pss_cons (ps_for PassesOwn.never rfl (pi_range2 (by rfl) T.n_range (pa_cons (pv 1) (pa_cons (pe_callB (call_lenN (K := K) rfl) (by rfl) T.n_len (by decide +kernel) (pa_cons (pv 0) pa_nil)) pa_nil))) (pg_name (i := 3) sc_law_folded.nd rfl (Or.inl rfl)) (pss_cons (ps_set (i := 4) sc_law_folded.nd rfl (Or.inl rfl) (pe_op op_mod (pv 3) (pv 1))) (pss_one (ps_asg (pe_op op_mod (pe_op op_add (pe_op op_mul (pe_op op_mod (pe_ix (ix_listK (K := K) rfl) (pv 2) (pv 4) (fun _ _ => rfl)) (pe_op op_pow pe_int pe_int)) pe_int) (pe_ix (ix_listK (K := K) rfl) (pv 0) (pv 3) (fun _ _ => rfl))) (pe_op op_add (pe_op op_pow pe_int pe_int) pe_int)) (pg_sub (pv 2) (pv 4) set_list))))) (pss_one (ps_ret (pv 2))))), ?_⟩
    try dsimp only
    refine seqN fun N2 hN2 => ?_
    obtain ⟨c3, hm⟩ := pb_rng hm
    refine ⟨_, rfl, _, rfl, c3.2.2.1, c3.2.2.2, fun D4 nD4 => ?_⟩
    refine lcM (K := K) (tw_rng0 (j := x_many)) hm w0 nD4 (fun F' H' acc s w => trivial) ?_ ?_
    · -- one turn
      intro b4 x4 F4 H4 H4' acc4 N4 P4 s4 w4 y4 hN4 hm
      replace q1 := s4.seq q1
      obtain ⟨rfl, rfl⟩ := y4
      refine ⟨rfl, _, rfl, _, rfl, _, _, _, (x_script : Scr), _, rfl, w4, ⟨_, rfl, q1⟩, ?_⟩
      refine (post_bind hm).mono (fun y6 hm v6 F6 H6 w6 s6 r6 => ?_) (fun _ z => z)
      obtain rfl : v6 = V.int y6 := r6
      exact hN4 _ (post_ok hm) _ _ _ w6 s6 rep_i
    intro us4 F4 H4 ys4 s4 w4 gg4 hm
    replace q1 := s4.seq q1
    replace h1 := A2.mono s4 h1
    refine stepN ?_
    try dsimp only
    refine hN2 _ _ ?_
    obtain ⟨c9, hm⟩ := pb_rng hm
    refine ⟨_, rfl, _, rfl, _, _, _, rfl, .inl (w4.same.seq q1), h1.length, _, _, rfl, c9, ?_⟩
    refine forS (tw_rng (i := x_many) (j := (x_script.l.length : Int))) hm (fun (g8 : (List Int)) σ H' => ∃ (F' : Hp) (vs8_0 : List V) (o8_4 : Option V) (o8_3 : Option V), σ = [some (.ref a1), some (.int x_many), some (.ref D4), o8_3, o8_4] ∧ Same F4 F' ∧ W F' H' ((D4, .lst vs8_0) :: os) ∧ A2 (rep K F') vs8_0 g8) ⟨_, _, _, _, rfl, Same.refl _, w4, gg4⟩ (fun _ _ _ _ => trivial) ?_ ?_
    · -- a turn
      intro b8 g8 x8 σ8 H8 H8' N8 P8 hI hy hN8 hm
      obtain ⟨F8, vs8_0, o8_4, o8_3, rfl, s8, w8, h8_0⟩ := hI
      replace h1 := A2.mono s8 h1
      replace q1 := s8.seq q1
      obtain ⟨rfl, rfl⟩ := hy
      refine stepN ?_
      try dsimp only
      refine seqN fun N10 hN10 => ?_
      obtain ⟨c11, hm⟩ := pb_mod hm
      refine ⟨_, rfl, _, rfl, _, _, rfl, rfl, c11, ?_⟩
      refine stepN ?_
      try dsimp only
      refine hN10 _ _ ?_
      obtain ⟨t12, e12, hm⟩ := pb_get hm
      obtain ⟨u12, f12, r12⟩ := A2.at h8_0 e12
      obtain rfl : u12 = V.int t12 := r12
      obtain ⟨t16, e16, hm⟩ := pb_get hm
      obtain ⟨u16, f16, r16⟩ := A2.at h1 e16
      obtain rfl : u16 = V.int t16 := r16
      obtain ⟨j19, l19, z19, e19, hm⟩ := pn_set hm
      refine ⟨_, rfl, _, rfl, _, _, _, _, rfl, rfl, SqL.of (w8.get (pre := [])), f12, _, _, rfl, rfl, (by refine ⟨?_, ?_, ?_⟩ <;> decide), _, _, rfl, rfl, (by show (0 : Int) < ((10 : Int) ^ ((60 : Int) : Int).toNat); decide), _, _, rfl, rfl, (.inr (by constructor <;> decide)), _, rfl, _, rfl, _, _, _, _, rfl, rfl, w8.same.seq q1, f16, _, _, rfl, rfl, _, _, rfl, rfl, (by refine ⟨?_, ?_, ?_⟩ <;> decide), _, _, rfl, rfl, _, _, rfl, rfl, (by show (0 : Int) < (((10 : Int) ^ ((60 : Int) : Int).toNat) + (7 : Int)); decide), _, rfl, _, rfl, _, _, _, _, rfl, rfl, (w8.get (pre := [])), (A2.ix h8_0 z19), ?_⟩
      have h19 : A2 (rep K F8) (vs8_0.set j19 (V.int ((((t12 % ((10 : Int) ^ ((60 : Int) : Int).toNat)) * (48271 : Int)) + t16) % (((10 : Int) ^ ((60 : Int) : Int).toNat) + (7 : Int))))) l19 := e19 ▸ A2.set rep_i j19 h8_0
      have w20 : W F8 _ ((D4, .lst (vs8_0.set j19 (V.int ((((t12 % ((10 : Int) ^ ((60 : Int) : Int).toNat)) * (48271 : Int)) + t16) % (((10 : Int) ^ ((60 : Int) : Int).toNat) + (7 : Int)))))) :: os) := w8.set (pre := [])
      exact hN8 _ (post_ok hm) _ _ ⟨_, _, _, _, rfl, s8, w20, h19⟩
    intro g8 σ8 H8 hI hm
    obtain ⟨F8, vs8_0, o8_4, o8_3, rfl, s8, w8, h8_0⟩ := hI
    replace sF := sF.trans (s4.trans s8)
    exact ⟨_, rfl, (post_ok hm) _ _ _ _ w8 sF h8_0⟩
def sp_law_state (K : Fg) : Sp := fun vs H Q E => ∃ (F : Hp) (os : List (Addr × HO)) (x_cell : Int), vs = [.int x_cell] ∧ W F H (os) ∧ Post (law_state x_cell) (RetL K F os Q) noX
theorem sc_law_state : FnScope ["cell", "left"] ["cell"] (defScope s_law_state) := ⟨rfl, rfl, rfl, by decide +kernel, rfl, by decide +kernel, by decide +kernel⟩
theorem ok_law_state (T : Tx K mg A FD) : FnOk P w K mg base CX0 1 (A 37) (FD 37) ["cell"] (sp_law_state K) := by
  refine T.d37.fn.ok sc_law_state (fun vs H Q E h => ?_) (fun cdv Ar outer s H vs Q E hr h => ?_)
  · obtain ⟨F, os, x_cell, rfl, _⟩ := h
    rfl
  · obtain ⟨F0, os, x_cell, rfl, w0, hm⟩ := h
    have sF : Same F0 F0 := Same.refl _
    refine ⟨_, (pss_cons (ps_set (i := 1) sc_law_state.nd rfl (Or.inl rfl) pe_int1) (pss_cons (ps_if (pt_cmp (pc_ge (pv 0) (pe_op op_pow pe_int pe_int))) (pss_one (ps_set (i := 1) sc_law_state.nd rfl (Or.inl rfl) (pv 0))) pss_nil) (pss_one (ps_ret (pe_lst (pa_cons (pv 1) (pa_cons (pe_op op_mod (pe_op op_mul (pe_op op_add (pe_op op_mod (pv 0) pe_int) pe_int) pe_int) pe_int) pa_nil))))))), ?_⟩
    try dsimp only
    refine seqN fun N1 hN1 => ?_
    refine ⟨trivial, ?_⟩
    refine stepN ?_
    try dsimp only
    refine hN1 _ _ ?_
    try dsimp only
    refine joinS hm (fun (g2 : Int) σ H' => ∃ (F' : Hp), σ = [some (.int x_cell), some (.int g2)] ∧ Same F0 F' ∧ W F' H' (os)) ?_ ?_
    · intro N2 P2 hN2 hm
      refine ifOneN fun IA3 IB3 hIA3 hIB3 => ?_
      refine ⟨_, rfl, _, _, rfl, rfl, (by refine ⟨?_, ?_, ?_⟩ <;> decide), _, _, rfl, rfl, _, rfl, ?_⟩
      refine post_ite hm (fun k5 hm => ?_) (fun k5 hm => ?_)
      · skip
        refine hIA3 _ ?_
        exact ⟨_, rfl, hN2 _ (post_ok hm) _ _ ⟨_, rfl, Same.refl _, w0⟩⟩
      · skip
        refine hIB3 _ ?_
        exact hN2 _ (post_ok hm) _ _ ⟨_, rfl, Same.refl _, w0⟩
    intro g2 σ2 H2 hI hm
    obtain ⟨F2, rfl, s2, w2⟩ := hI
    replace sF := sF.trans s2
    have h9 : A2 (rep K F2) [(.int g2), (.int ((((x_cell % (2147483629 : Int)) + (11 : Int)) * (48271 : Int)) % (2147483647 : Int)))] ([g2, ((((x_cell % (2147483629 : Int)) + (11 : Int)) * (48271 : Int)) % (2147483647 : Int))] : (List Int)) := .cons rep_i (.cons rep_i (.nil))
    refine ⟨_, rfl, _, rfl, _, _, rfl, rfl, (by show (0 : Int) < (2147483629 : Int); decide), _, _, rfl, rfl, _, _, rfl, rfl, (.inr (by constructor <;> decide)), _, _, rfl, rfl, (by show (0 : Int) < (2147483647 : Int); decide), (by show 2 ≤ sizeLine; decide), fun p10 n10 => ?_⟩
    have w10 : W F2 _ ((p10, .lst [(.int g2), (.int ((((x_cell % (2147483629 : Int)) + (11 : Int)) * (48271 : Int)) % (2147483647 : Int)))]) :: os) := w2.new n10
    exact (post_ok hm) _ _ _ _ w10 sF h9
def sp_law_next (K : Fg) : Sp := fun vs H Q E => ∃ (F : Hp) (os : List (Addr × HO)) (a_state : Addr) (vs_state : List V) (x_state : (List Int)) (x_many : Int), vs = [.ref a_state, .int x_many] ∧ W F H ((a_state, .lst vs_state) :: os) ∧ A2 (rep K F) vs_state x_state ∧ Post (law_next x_state x_many) (RetM K F a_state os Q) noX
theorem sc_law_next : FnScope ["state", "many", "found"] ["state", "many"] (defScope s_law_next) := ⟨rfl, rfl, rfl, by decide +kernel, rfl, by decide +kernel, by decide +kernel⟩
theorem ok_law_next (T : Tx K mg A FD) : FnOk P w K mg base CX0 1 (A 38) (FD 38) ["state", "many"] (sp_law_next K) := by
  refine T.d38.fn.ok sc_law_next (fun vs H Q E h => ?_) (fun cdv Ar outer s H vs Q E hr h => ?_)
  · obtain ⟨F, os, a_state, vs_state, x_state, x_many, rfl, _⟩ := h
    rfl
  · obtain ⟨F0, os, a_state, vs_state, x_state, x_many, rfl, w0, h_state, hm⟩ := h
    have sF : Same F0 F0 := Same.refl _
    refine ⟨_, (pss_cons (ps_if (pt_cmp (pc_gt (pe_ix (ix_listK (K := K) rfl) (pv 0) pe_int (fun _ _ => rfl)) pe_int)) (pss_cons (ps_set (i := 2) sc_law_next.nd rfl (Or.inl rfl) (pe_op op_mod (pe_ix (ix_listK (K := K) rfl) (pv 0) pe_int (fun _ _ => rfl)) (pv 1))) (pss_cons (ps_asg (pe_op op_fdivW (pe_ix (ix_listK (K := K) rfl) (pv 0) pe_int (fun _ _ => rfl)) (pv 1)) (pg_sub (pv 0) pe_int set_list)) (pss_one (ps_ret (pv 2))))) pss_nil) (pss_cons (ps_asg (pe_op op_mod (pe_op op_add (pe_op op_mul (pe_ix (ix_listK (K := K) rfl) (pv 0) pe_int (fun _ _ => rfl)) pe_int) pe_int) pe_int) (pg_sub (pv 0) pe_int set_list)) (pss_one (ps_ret (pe_op op_mod (pe_op op_fdiv (pe_op op_mod (pe_op op_mul (pe_ix (ix_listK (K := K) rfl) (pv 0) pe_int (fun _ _ => rfl)) (pe_ix (ix_listK (K := K) rfl) (pv 0) pe_int (fun _ _ => rfl))) pe_int) pe_int) (pv 1)))))), ?_⟩
    try dsimp only
    refine ifSeqN fun IA2 IB2 hIA2 hIB2 => ?_
    obtain ⟨t3, e3, hm⟩ := pb_get hm
    obtain ⟨u3, f3, r3⟩ := A2.at h_state e3
    obtain rfl : u3 = V.int t3 := r3
    refine ⟨_, rfl, _, _, _, _, rfl, rfl, SqL.of (w0.get (pre := [])), f3, _, _, rfl, rfl, _, rfl, ?_⟩
    refine post_ite hm (fun k4 hm => ?_) (fun k4 hm => ?_)
    · skip
      refine hIA2 _ ?_
      try dsimp only
      refine seqN fun N5 hN5 => ?_
      obtain ⟨t6, e6, hm⟩ := pb_get hm
      obtain ⟨u6, f6, r6⟩ := A2.at h_state e6
      obtain rfl : u6 = V.int t6 := r6
      obtain ⟨c7, hm⟩ := pb_mod hm
      refine ⟨_, rfl, _, _, _, _, rfl, rfl, SqL.of (w0.get (pre := [])), f6, _, rfl, _, _, rfl, rfl, c7, ?_⟩
      refine stepN ?_
      try dsimp only
      refine hN5 _ _ ?_
      try dsimp only
      refine seqN fun N8 hN8 => ?_
      obtain ⟨t9, e9, hm⟩ := pb_get hm
      obtain ⟨u9, f9, r9⟩ := A2.at h_state e9
      obtain rfl : u9 = V.int t9 := r9
      obtain ⟨c10, hm⟩ := pb_div hm
      obtain ⟨j11, l11, z11, e11, hm⟩ := pn_set hm
      refine ⟨_, rfl, _, _, _, _, rfl, rfl, SqL.of (w0.get (pre := [])), f9, _, rfl, _, _, rfl, rfl, c10, _, rfl, _, _, _, _, rfl, rfl, (w0.get (pre := [])), (A2.ix h_state z11), ?_⟩
      have h11 : A2 (rep K F0) (vs_state.set j11 (V.int (t9 / x_many))) l11 := e11 ▸ A2.set rep_i j11 h_state
      have w12 : W F0 _ ((a_state, .lst (vs_state.set j11 (V.int (t9 / x_many)))) :: os) := w0.set (pre := [])
      try dsimp only
      refine hN8 _ _ ?_
      exact ⟨_, rfl, (post_ok hm) _ _ _ _ w12 sF rep_i h11⟩
    · skip
      refine hIB2 _ ?_
      refine stepX ?_
      try dsimp only
      refine seqN fun N13 hN13 => ?_
      obtain ⟨t14, e14, hm⟩ := pb_get hm
      obtain ⟨u14, f14, r14⟩ := A2.at h_state e14
      obtain rfl : u14 = V.int t14 := r14
      obtain ⟨j17, l17, z17, e17, hm⟩ := pn_set hm
      refine ⟨_, rfl, _, _, _, _, rfl, rfl, SqL.of (w0.get (pre := [])), f14, _, _, rfl, rfl, (.inr (by constructor <;> decide)), _, _, rfl, rfl, _, _, rfl, rfl, (by show (0 : Int) < (2147483647 : Int); decide), _, rfl, _, _, _, _, rfl, rfl, (w0.get (pre := [])), (A2.ix h_state z17), ?_⟩
      have h17 : A2 (rep K F0) (vs_state.set j17 (V.int (((t14 * (69621 : Int)) + (40692 : Int)) % (2147483647 : Int)))) l17 := e17 ▸ A2.set rep_i j17 h_state
      have w18 : W F0 _ ((a_state, .lst (vs_state.set j17 (V.int (((t14 * (69621 : Int)) + (40692 : Int)) % (2147483647 : Int))))) :: os) := w0.set (pre := [])
      try dsimp only
      refine hN13 _ _ ?_
      obtain ⟨t19, e19, hm⟩ := pb_get hm
      obtain ⟨u19, f19, r19⟩ := A2.at h17 e19
      obtain rfl : u19 = V.int t19 := r19
      obtain ⟨t20, e20, hm⟩ := pb_get hm
      obtain ⟨u20, f20, r20⟩ := A2.at h17 e20
      obtain rfl : u20 = V.int t20 := r20
      obtain ⟨c21, hm⟩ := pb_mul hm
      obtain ⟨c24, hm⟩ := pb_mod hm
      exact ⟨_, rfl, _, _, _, _, rfl, rfl, SqL.of (w18.get (pre := [])), f19, _, rfl, _, _, _, _, rfl, rfl, SqL.of (w18.get (pre := [])), f20, _, _, rfl, rfl, c21, _, _, rfl, rfl, (by show (0 : Int) < (2147483629 : Int); decide), _, _, rfl, rfl, (by constructor <;> decide), _, rfl, _, _, rfl, rfl, c24, (post_ok hm) _ _ _ _ w18 sF rep_i h17⟩
def sp_law_web (K : Fg) : Sp := fun vs H Q E => ∃ (F : Hp) (os : List (Addr × HO)) (a_state : Addr) (vs_state : List V) (x_state : (List Int)) (x_least : Int) (x_most : Int), vs = [.ref a_state, .int x_least, .int x_most] ∧ W F H ((a_state, .lst vs_state) :: os) ∧ A2 (rep K F) vs_state x_state ∧ Post (law_web x_state x_least x_most) (RetM K F a_state os Q) noX
theorem sc_law_web : FnScope ["state", "least", "most", "many", "way", "ties", "j", "turn", "one", "other", "names", "place", "k"] ["state", "least", "most"] (defScope s_law_web) := ⟨rfl, rfl, rfl, by decide +kernel, rfl, by decide +kernel, by decide +kernel⟩
set_option maxHeartbeats 40000000 in
theorem ok_law_web (T : Tx K mg A FD) : FnOk P w K mg base CX0 3 (A 39) (FD 39) ["state", "least", "most"] (sp_law_web K) := by
  refine T.d39.fn.ok sc_law_web (fun vs H Q E h => ?_) (fun cdv Ar outer s H vs Q E hr h => ?_)
  · obtain ⟨F, os, a_state, vs_state, x_state, x_least, x_most, rfl, _⟩ := h
    rfl
  · obtain ⟨F0, os, a_state, vs_state, x_state, x_least, x_most, rfl, w0, h_state, hm⟩ := h
    have sF : Same F0 F0 := Same.refl _
    refine ⟨_, (pss_cons (ps_set (i := 3) sc_law_web.nd rfl (Or.inl rfl) (pe_op op_add (pv 1) (pe_call (ok_law_next T) (hr.mono (by decide)) (by rfl) T.d38.mg T.d38.fn.kp T.d38.b .nil pass0 (pa_cons (pv 0) (pa_cons (pe_op op_sub (pe_op op_add (pv 2) pe_int) (pv 1)) pa_nil))))) (pss_cons (ps_set (i := 4) sc_law_web.nd rfl (Or.inl rfl) (pe_call (ok_law_next T) (hr.mono (by decide)) (by rfl) T.d38.mg T.d38.fn.kp T.d38.b .nil pass0 (pa_cons (pv 0) (pa_cons pe_int pa_nil)))) (pss_cons (ps_setLc (i := 5) (own := [("k", 12)]) (g := gName 12) (by rfl) sc_law_web.nd rfl rfl (sw_true rfl rfl rfl (by decide +kernel)) (pi_range1 (by rfl) T.n_range (pa_cons (pe_op op_sub (pv 3) pe_int) pa_nil)) (blkOk_by (own := [("k", 12)]) (N := ["state", "least", "most", "many", "way", "ties", "j", "turn", "one", "other", "names", "place", "k"]) (sc := defScope s_law_web) (by decide +kernel)) (fun _ _ _ _ _ => (pg_name (i := 12) sc_law_web.nd rfl (Or.inl rfl))) (fun _ _ _ _ _ => pts_nil) (fun _ _ _ _ _ => (pe_tup (pa_cons (pv 12) (pa_cons (pe_op op_add (pv 12) pe_int) pa_nil))))) (pss_cons (ps_if (PW.pt (pw_and (pt_cmp (pc_eqI (pv 4) pe_int)) (pw_and1 (pt_cmp (pc_gt (pv 3) pe_int))))) (pss_one (ps_expr (pe_bm PySem.F.plainAttrs_list PySem.F.slot_list_append PySem.F.type_list_append mt_append (pv 5) (pa_cons (pe_tup (pa_cons pe_int (pa_cons (pe_op op_sub (pv 3) pe_int) pa_nil))) pa_nil)))) pss_nil) (pss_cons (ps_if (pt_cmp (pc_eqI (pv 4) pe_int)) (pss_one (ps_setLc (i := 5) (own := [("k", 12)]) (g := gName 12) (by rfl) sc_law_web.nd rfl rfl (sw_true rfl rfl rfl (by decide +kernel)) (pi_range2 (by rfl) T.n_range (pa_cons pe_int (pa_cons (pv 3) pa_nil))) (blkOk_by (own := [("k", 12)]) (N := ["state", "least", "most", "many", "way", "ties", "j", "turn", "one", "other", "names", "place", "k"]) (sc := defScope s_law_web) (by decide +kernel)) (fun _ _ _ _ _ => (pg_name (i := 12) sc_law_web.nd rfl (Or.inl rfl))) (fun _ _ _ _ _ => pts_nil) (fun _ _ _ _ _ => (pe_tup (pa_cons pe_int (pa_cons (pv 12) pa_nil)))))) pss_nil) (pss_cons (ps_if (pt_cmp (pc_eqI (pv 4) pe_int)) (pss_one (ps_set (i := 5) sc_law_web.nd rfl (Or.inl rfl) (pe_op op_cat (pe_slice (sl_listK (K := K) rfl) (pv 5) (po_some pe_int) po_none) (pe_lc (own := [("k", 12)]) (g := gName 12) (by rfl) sc_law_web.nd (pi_range2 (by rfl) T.n_range (pa_cons pe_int (pa_cons (pv 3) pa_nil))) (blkOk_by (own := [("k", 12)]) (N := ["state", "least", "most", "many", "way", "ties", "j", "turn", "one", "other", "names", "place", "k"]) (sc := defScope s_law_web) (by decide +kernel)) (fun _ _ _ _ _ => (pg_name (i := 12) sc_law_web.nd rfl (Or.inl rfl))) (fun _ _ _ _ _ => pts_nil) (fun _ _ _ _ _ => (pe_tup (pa_cons pe_int (pa_cons (pv 12) pa_nil)))))))) pss_nil) (pss_cons (ps_if (pt_cmp (pc_eqI (pv 4) pe_int)) (pss_cons (ps_set (i := 5) sc_law_web.nd rfl (Or.inl rfl) (pe_lst pa_nil)) (pss_one (ps_for PassesOwn.never rfl (pi_range1 (by rfl) T.n_range (pa_cons (pv 3) pa_nil)) (pg_name (i := 6) sc_law_web.nd rfl (Or.inr rfl)) (pss_one (ps_expr (pe_bm PySem.F.plainAttrs_list PySem.F.slot_list_extend PySem.F.type_list_extend mt_extend (pv 5) (pa_cons (pe_lc (own := [("k", 12)]) (g := gName 12) (by rfl) sc_law_web.nd (pi_range1 (by rfl) T.n_range (pa_cons (pv 6) pa_nil)) (blkOk_by (own := [("k", 12)]) (N := ["state", "least", "most", "many", "way", "ties", "j", "turn", "one", "other", "names", "place", "k"]) (sc := defScope s_law_web) (by decide +kernel)) (fun _ _ _ _ _ => (pg_name (i := 12) sc_law_web.nd rfl (Or.inl rfl))) (fun _ _ _ _ _ => pts_nil) (fun _ _ _ _ _ => (pe_tup (pa_cons (pv 12) (pa_cons (pv 6) pa_nil))))) pa_nil))))))) pss_nil) (pss_cons (ps_if (pt_cmp (pc_gt (pv 4) pe_int)) (pss_cons (ps_setLc (i := 5) (own := [("k", 12)]) (g := gName 12) (by rfl) sc_law_web.nd rfl rfl (sw_true rfl rfl rfl (by decide +kernel)) (pi_range2 (by rfl) T.n_range (pa_cons pe_int (pa_cons (pv 3) pa_nil))) (blkOk_by (own := [("k", 12)]) (N := ["state", "least", "most", "many", "way", "ties", "j", "turn", "one", "other", "names", "place", "k"]) (sc := defScope s_law_web) (by decide +kernel)) (fun _ _ _ _ _ => (pg_name (i := 12) sc_law_web.nd rfl (Or.inl rfl))) (fun _ _ _ _ _ => pts_nil) (fun _ _ _ _ _ => (pe_tup (pa_cons (pe_call (ok_law_next T) (hr.mono (by decide)) (by rfl) T.d38.mg T.d38.fn.kp T.d38.b .nil pass0 (pa_cons (pv 0) (pa_cons (pv 12) pa_nil))) (pa_cons (pv 12) pa_nil))))) (pss_one (ps_for PassesOwn.never rfl (pi_range1 (by rfl) T.n_range (pa_cons (pe_call (ok_law_next T) (hr.mono (by decide)) (by rfl) T.d38.mg T.d38.fn.kp T.d38.b .nil pass0 (pa_cons (pv 0) (pa_cons pe_int pa_nil))) pa_nil)) (pg_name (i := 7) sc_law_web.nd rfl (Or.inl rfl)) (pss_cons (ps_par (i := 8) (j := 9) rfl sc_law_web.nd rfl rfl (by decide) rfl rfl (pa_cons (pe_call (ok_law_next T) (hr.mono (by decide)) (by rfl) T.d38.mg T.d38.fn.kp T.d38.b .nil pass0 (pa_cons (pv 0) (pa_cons (pv 3) pa_nil))) (pa_cons (pe_call (ok_law_next T) (hr.mono (by decide)) (by rfl) T.d38.mg T.d38.fn.kp T.d38.b .nil pass0 (pa_cons (pv 0) (pa_cons (pv 3) pa_nil))) pa_nil)) rfl) (pss_one (ps_if (PW.pt (pw_and (pt_cmp (pc_lt (pv 8) (pv 9))) (pw_and1 (pt_cmpR (op_notInL (K := K) rfl (Int × Int) (by decide) (Room.units65 hr)) (pe_tup (pa_cons (pv 8) (pa_cons (pv 9) pa_nil))) (pv 5) (by rfl))))) (pss_one (ps_expr (pe_bm PySem.F.plainAttrs_list PySem.F.slot_list_append PySem.F.type_list_append mt_append (pv 5) (pa_cons (pe_tup (pa_cons (pv 8) (pa_cons (pv 9) pa_nil))) pa_nil)))) pss_nil)))))) pss_nil) (pss_cons (ps_set (i := 10) sc_law_web.nd rfl (Or.inr rfl) (pe_lst pa_nil)) (pss_cons (ps_for PassesOwn.never rfl (pi_range1 (by rfl) T.n_range (pa_cons (pv 3) pa_nil)) (pg_name (i := 11) sc_law_web.nd rfl (Or.inl rfl)) (pss_one (ps_expr (pe_bm PySem.F.plainAttrs_list PySem.F.slot_list_insert PySem.F.type_list_insert mt_insert (pv 10) (pa_cons (pe_call (ok_law_next T) (hr.mono (by decide)) (by rfl) T.d38.mg T.d38.fn.kp T.d38.b .nil pass0 (pa_cons (pv 0) (pa_cons (pe_op op_add (pv 11) pe_int) pa_nil))) (pa_cons (pv 11) pa_nil)))))) (pss_one (ps_ret (pe_call (ok_made_web T) (hr.mono (by decide)) (by rfl) T.d13.mg T.d13.fn.kp T.d13.b .nil pass0 (pa_cons (pv 3) (pa_cons (pe_lc (own := [("one", 8), ("other", 9)]) (g := _) (by rfl) sc_law_web.nd (pi_listK (K := K) rfl (pv 5)) (blkOk_by (own := [("one", 8), ("other", 9)]) (N := ["state", "least", "most", "many", "way", "ties", "j", "turn", "one", "other", "names", "place", "k"]) (sc := defScope s_law_web) (by decide +kernel)) (fun _ _ _ _ _ => (pg_k (K := K) (t := fun K => gTup K 2 _) rfl (pg_tup (n := 2) rfl (pgs_cons (pg_name (i := 8) sc_law_web.nd rfl (Or.inl rfl)) (pgs_cons (pg_name (i := 9) sc_law_web.nd rfl (Or.inl rfl)) pgs_nil))))) (fun _ _ _ _ _ => pts_nil) (fun _ _ _ _ _ => (pe_tup (pa_cons (pe_ix (ix_listK (K := K) rfl) (pv 10) (pv 8) (fun _ _ => rfl)) (pa_cons (pe_ix (ix_listK (K := K) rfl) (pv 10) (pv 9) (fun _ _ => rfl)) pa_nil))))) pa_nil))))))))))))))), ?_⟩
    try dsimp only
    refine seqN fun N2 hN2 => ?_
    refine ⟨_, rfl, _, rfl, _, rfl, _, _, rfl, rfl, _, rfl, _, _, rfl, rfl, _, _, _, _, _, _, rfl, w0, h_state, ?_⟩
    refine (post_bind hm).mono (fun y3 hm v3 vs3 F3 H3 w3 s3 r3 h3 => ?_) (fun _ z => z)
    obtain rfl : v3 = V.int y3.1 := r3
    refine ⟨_, _, rfl, rfl, ?_⟩
    refine stepN ?_
    try dsimp only
    refine hN2 _ _ ?_
    try dsimp only
    refine seqN fun N4 hN4 => ?_
    refine ⟨_, rfl, _, _, _, _, _, _, rfl, w3, h3, ?_⟩
    refine (post_bind hm).mono (fun y5 hm v5 vs5 F5 H5 w5 s5 r5 h5 => ?_) (fun _ z => z)
    obtain rfl : v5 = V.int y5.1 := r5
    refine stepN ?_
    try dsimp only
    refine hN4 _ _ ?_
    try dsimp only
    refine seqN fun N6 hN6 => ?_
    obtain ⟨c7, hm⟩ := pb_rng hm
    refine ⟨_, rfl, _, _, rfl, rfl, _, rfl, c7.2.2.1, c7.2.2.2, fun D8 nD8 => ?_⟩
    refine lcM (K := K) (tw_rng0 (j := ((x_least + y3.1) - (1 : Int)))) hm w5 nD8 (fun F' H' acc s w => trivial) ?_ ?_
    · -- one turn
      intro b8 x8 F8 H8 H8' acc8 N8 P8 s8 w8 y8 hN8 hm
      obtain ⟨rfl, rfl⟩ := y8
      refine ⟨rfl, _, rfl, _, rfl, _, _, rfl, rfl, (by show 2 ≤ sizeLine; decide), fun p10 n10 => ?_⟩
      obtain ⟨F10, s10, w10, q10⟩ := w8.frzE (o := .tup [(.int b8), (.int (b8 + (1 : Int)))]) n10
      exact hN8 _ (post_ok hm) _ _ _ w10 s10 (rep_pair q10 rep_i rep_i)
    intro us8 F8 H8 ys8 s8 w8 gg8 hm
    refine stepN ?_
    try dsimp only
    refine hN6 _ _ ?_
    try dsimp only
    refine joinS hm (fun (g12 : (List (Int × Int))) σ H' => ∃ (F' : Hp) (vs12_0 : List V), σ = [some (.ref a_state), some (.int x_least), some (.int x_most), some (.int (x_least + y3.1)), some (.int y5.1), some (.ref D8), none, none, none, none, none, none, none] ∧ Same F8 F' ∧ W F' H' ((D8, .lst vs12_0) :: (a_state, .lst vs5) :: os) ∧ A2 (rep K F') vs12_0 g12) ?_ ?_
    · intro N12 P12 hN12 hm
      refine ifOneN fun IA13 IB13 hIA13 hIB13 => ?_
      refine cutT (fun c H' => c = (((decide (y5.1 = (1 : Int))) && (decide ((2 : Int) < (x_least + y3.1))))) ∧ ∃ F', Same F8 F' ∧ W F' H' ((D8, .lst us8) :: (a_state, .lst vs5) :: os)) (fun Q14 q14 => ?_) (fun c14 H14 hc14 => ?_)
      · -- the ways
        refine ⟨_, rfl, _, _, rfl, rfl, _, rfl, ?_⟩
        refine ifB (fun k15 => ?_) (fun k15 => ?_)
        · skip
          exact ⟨_, rfl, _, _, rfl, rfl, _, rfl, q14 _ _ ⟨(by first | rfl | exact absurd k15 (by decide) | (simp [k15]; done) | ((try simp only [Bool.not_eq_true] at k15); simp only [k15, Bool.true_or, Bool.false_or, Bool.or_false, Bool.or_true, Bool.true_and, Bool.false_and, Bool.and_true, Bool.and_false])), _, Same.refl _, w8⟩⟩
        · skip
          exact q14 _ _ ⟨(by first | rfl | exact absurd k15 (by decide) | (simp [k15]; done) | ((try simp only [Bool.not_eq_true] at k15); simp only [k15, Bool.true_or, Bool.false_or, Bool.or_false, Bool.or_true, Bool.true_and, Bool.false_and, Bool.and_true, Bool.and_false])), _, Same.refl _, w8⟩
      obtain ⟨rfl, F14, s14, w14⟩ := hc14
      replace gg8 := A2.mono s14 gg8
      refine post_ite hm (fun k18 hm => ?_) (fun k18 hm => ?_)
      · skip
        refine hIA13 _ ?_
        refine ⟨_, rfl, .inl ⟨rfl, _, SqL.of (w14.get (pre := []))⟩, _, rfl, _, _, rfl, rfl, (by show 2 ≤ sizeLine; decide), fun p19 n19 => ?_⟩
        obtain ⟨F19, s19, w19, q19⟩ := w14.frzE (o := .tup [(.int 0), (.int ((x_least + y3.1) - (1 : Int)))]) n19
        replace gg8 := A2.mono s19 gg8
        obtain ⟨l20, z20, e20, hm⟩ := pn_app hm
        refine ⟨_, _, _, rfl, rfl, (w19.get (pre := [])), (A2.lt gg8 z20), ?_⟩
        have h20 : A2 (rep K F19) (us8 ++ [(V.ref p19)]) l20 := e20 ▸ A2.snoc gg8 (rep_pair q19 rep_i rep_i)
        have w21 : W F19 _ ((D8, .lst (us8 ++ [(V.ref p19)])) :: (a_state, .lst vs5) :: os) := w19.set (pre := [])
        exact hN12 _ (post_ok hm) _ _ ⟨_, _, rfl, (s14.trans s19), w21, h20⟩
      · skip
        refine hIB13 _ ?_
        exact hN12 _ (post_ok hm) _ _ ⟨_, _, rfl, s14, w14, gg8⟩
    intro g12 σ12 H12 hI hm
    obtain ⟨F12, vs12_0, rfl, s12, w12, h12_0⟩ := hI
    try dsimp only
    refine joinS hm (fun (g22 : (List (Int × Int))) σ H' => ∃ (F' : Hp) (ao22_5 : Addr) (uo22_5 : List V), σ = [some (.ref a_state), some (.int x_least), some (.int x_most), some (.int (x_least + y3.1)), some (.int y5.1), some (.ref ao22_5), none, none, none, none, none, none, none] ∧ Same F12 F' ∧ W F' H' ((ao22_5, .lst uo22_5) :: (a_state, .lst vs5) :: os) ∧ A2 (rep K F') uo22_5 g22) ?_ ?_
    · intro N22 P22 hN22 hm
      refine ifOneN fun IA23 IB23 hIA23 hIB23 => ?_
      refine ⟨_, rfl, _, _, rfl, rfl, _, rfl, ?_⟩
      refine post_ite hm (fun k24 hm => ?_) (fun k24 hm => ?_)
      · skip
        refine hIA23 _ ?_
        obtain ⟨c25, hm⟩ := pb_rng hm
        refine ⟨_, rfl, _, _, rfl, c25, fun D26 nD26 => ?_⟩
        refine lcM (K := K) (tw_rng (i := (1 : Int)) (j := (x_least + y3.1))) hm w12 nD26 (fun F' H' acc s w => trivial) ?_ ?_
        · -- one turn
          intro b26 x26 F26 H26 H26' acc26 N26 P26 s26 w26 y26 hN26 hm
          obtain ⟨rfl, rfl⟩ := y26
          refine ⟨rfl, _, rfl, (by show 2 ≤ sizeLine; decide), fun p28 n28 => ?_⟩
          obtain ⟨F28, s28, w28, q28⟩ := w26.frzE (o := .tup [(.int 0), (.int b26)]) n28
          exact hN26 _ (post_ok hm) _ _ _ w28 s28 (rep_pair q28 rep_i rep_i)
        intro us26 F26 H26 ys26 s26 w26 gg26 hm
        have w30 : W F26 _ ((D26, .lst us26) :: (a_state, .lst vs5) :: os) := w26.drop (pre := [_])
        exact hN22 _ (post_ok hm) _ _ ⟨_, _, _, rfl, s26, w30, gg26⟩
      · skip
        refine hIB23 _ ?_
        exact hN22 _ (post_ok hm) _ _ ⟨_, _, _, rfl, Same.refl _, w12, h12_0⟩
    intro g22 σ22 H22 hI hm
    obtain ⟨F22, ao22_5, uo22_5, rfl, s22, w22, ko22_5⟩ := hI
    try dsimp only
    refine joinS hm (fun (g32 : (List (Int × Int))) σ H' => ∃ (F' : Hp) (ao32_5 : Addr) (uo32_5 : List V), σ = [some (.ref a_state), some (.int x_least), some (.int x_most), some (.int (x_least + y3.1)), some (.int y5.1), some (.ref ao32_5), none, none, none, none, none, none, none] ∧ Same F22 F' ∧ W F' H' ((ao32_5, .lst uo32_5) :: (a_state, .lst vs5) :: os) ∧ A2 (rep K F') uo32_5 g32) ?_ ?_
    · intro N32 P32 hN32 hm
      refine ifOneN fun IA33 IB33 hIA33 hIB33 => ?_
      refine ⟨_, rfl, _, _, rfl, rfl, _, rfl, ?_⟩
      refine post_ite hm (fun k34 hm => ?_) (fun k34 hm => ?_)
      · skip
        refine hIA33 _ ?_
        have h35 : A2 (rep K F22) (cutV uo22_5 (some (1 : Int)) none) (cutL g22 (some (1 : Int)) none) := sl_cut ko22_5 _ _
        refine ⟨_, rfl, _, rfl, _, _, rfl, SqL.of (w22.get (pre := [])), fun p36 n36 => ?_⟩
        have w36 : W F22 _ ((p36, .lst (cutV uo22_5 (some (1 : Int)) none)) :: (ao22_5, .lst uo22_5) :: (a_state, .lst vs5) :: os) := w22.new n36
        obtain ⟨c37, hm⟩ := pb_rng hm
        refine ⟨_, rfl, _, _, rfl, c37, fun D38 nD38 => ?_⟩
        refine lcM (K := K) (tw_rng (i := (1 : Int)) (j := (x_least + y3.1))) hm w36 nD38 (fun F' H' acc s w => trivial) ?_ ?_
        · -- one turn
          intro b38 x38 F38 H38 H38' acc38 N38 P38 s38 w38 y38 hN38 hm
          obtain ⟨rfl, rfl⟩ := y38
          refine ⟨rfl, _, rfl, (by show 2 ≤ sizeLine; decide), fun p40 n40 => ?_⟩
          obtain ⟨F40, s40, w40, q40⟩ := w38.frzE (o := .tup [(.int 0), (.int b38)]) n40
          exact hN38 _ (post_ok hm) _ _ _ w40 s40 (rep_pair q40 rep_i rep_i)
        intro us38 F38 H38 ys38 s38 w38 gg38 hm
        replace h35 := A2.mono s38 h35
        obtain ⟨l42, z42, e42, hm⟩ := pn_extend hm
        have h42 : A2 (rep K F38) ((cutV uo22_5 (some (1 : Int)) none) ++ us38) l42 := e42 ▸ A2.append h35 gg38
        refine ⟨_, _, _, _, rfl, rfl, (w38.get (pre := [_])), (w38.get (pre := [])), (A2.le2 h35 gg38 z42), fun p43 n43 => ?_⟩
        have w43 : W F38 _ ((p43, .lst ((cutV uo22_5 (some (1 : Int)) none) ++ us38)) :: (D38, .lst us38) :: (p36, .lst (cutV uo22_5 (some (1 : Int)) none)) :: (ao22_5, .lst uo22_5) :: (a_state, .lst vs5) :: os) := w38.new n43
        have w44 : W F38 _ ((p43, .lst ((cutV uo22_5 (some (1 : Int)) none) ++ us38)) :: (D38, .lst us38) :: (p36, .lst (cutV uo22_5 (some (1 : Int)) none)) :: (a_state, .lst vs5) :: os) := w43.drop (pre := [_, _, _])
        have w45 : W F38 _ ((p43, .lst ((cutV uo22_5 (some (1 : Int)) none) ++ us38)) :: (p36, .lst (cutV uo22_5 (some (1 : Int)) none)) :: (a_state, .lst vs5) :: os) := w44.drop (pre := [_])
        have w46 : W F38 _ ((p43, .lst ((cutV uo22_5 (some (1 : Int)) none) ++ us38)) :: (a_state, .lst vs5) :: os) := w45.drop (pre := [_])
        exact hN32 _ (post_ok hm) _ _ ⟨_, _, _, rfl, s38, w46, h42⟩
      · skip
        refine hIB33 _ ?_
        exact hN32 _ (post_ok hm) _ _ ⟨_, _, _, rfl, Same.refl _, w22, ko22_5⟩
    intro g32 σ32 H32 hI hm
    obtain ⟨F32, ao32_5, uo32_5, rfl, s32, w32, ko32_5⟩ := hI
    try dsimp only
    refine joinS hm (fun (g48 : (List (Int × Int))) σ H' => ∃ (F' : Hp) (ao48_5 : Addr) (uo48_5 : List V) (o48_6 : Option V), σ = [some (.ref a_state), some (.int x_least), some (.int x_most), some (.int (x_least + y3.1)), some (.int y5.1), some (.ref ao48_5), o48_6, none, none, none, none, none, none] ∧ Same F32 F' ∧ W F' H' ((ao48_5, .lst uo48_5) :: (a_state, .lst vs5) :: os) ∧ A2 (rep K F') uo48_5 g48) ?_ ?_
    · intro N48 P48 hN48 hm
      refine ifOneN fun IA49 IB49 hIA49 hIB49 => ?_
      refine ⟨_, rfl, _, _, rfl, rfl, _, rfl, ?_⟩
      refine post_ite hm (fun k50 hm => ?_) (fun k50 hm => ?_)
      · skip
        refine hIA49 _ ?_
        try dsimp only
        refine seqN fun N51 hN51 => ?_
        have h52 : A2 (rep K F32) [] ([] : (List (Int × Int))) := .nil
        refine ⟨(by show 0 ≤ sizeLine; decide), fun p53 n53 => ?_⟩
        have w53 : W F32 _ ((p53, .lst []) :: (ao32_5, .lst uo32_5) :: (a_state, .lst vs5) :: os) := w32.new n53
        have w54 : W F32 _ ((p53, .lst []) :: (a_state, .lst vs5) :: os) := w53.drop (pre := [_])
        refine stepN ?_
        try dsimp only
        refine hN51 _ _ ?_
        obtain ⟨c56, hm⟩ := pb_rng hm
        refine ⟨_, rfl, _, rfl, c56.2.2.1, c56.2.2.2, ?_⟩
        refine forS (tw_rng0 (j := (x_least + y3.1))) hm (fun (g55 : (List (Int × Int))) σ H' => ∃ (F' : Hp) (vs55_0 : List V) (o55_6 : Option V), σ = [some (.ref a_state), some (.int x_least), some (.int x_most), some (.int (x_least + y3.1)), some (.int y5.1), some (.ref p53), o55_6, none, none, none, none, none, none] ∧ Same F32 F' ∧ W F' H' ((p53, .lst vs55_0) :: (a_state, .lst vs5) :: os) ∧ A2 (rep K F') vs55_0 g55) ⟨_, _, _, rfl, Same.refl _, w54, h52⟩ (fun _ _ _ _ => trivial) ?_ ?_
        · -- a turn
          intro b55 g55 x55 σ55 H55 H55' N55 P55 hI hy hN55 hm
          obtain ⟨F55, vs55_0, o55_6, rfl, s55, w55, h55_0⟩ := hI
          obtain ⟨rfl, rfl⟩ := hy
          obtain ⟨c57, hm⟩ := pb_rng hm
          refine ⟨_, rfl, .inl ⟨rfl, _, SqL.of (w55.get (pre := []))⟩, _, rfl, _, rfl, c57.2.2.1, c57.2.2.2, fun D58 nD58 => ?_⟩
          refine lcM (K := K) (tw_rng0 (j := b55)) hm w55 nD58 (fun F' H' acc s w => trivial) ?_ ?_
          · -- one turn
            intro b58 x58 F58 H58 H58' acc58 N58 P58 s58 w58 y58 hN58 hm
            obtain ⟨rfl, rfl⟩ := y58
            refine ⟨rfl, _, rfl, _, rfl, (by show 2 ≤ sizeLine; decide), fun p60 n60 => ?_⟩
            obtain ⟨F60, s60, w60, q60⟩ := w58.frzE (o := .tup [(.int b58), (.int b55)]) n60
            exact hN58 _ (post_ok hm) _ _ _ w60 s60 (rep_pair q60 rep_i rep_i)
          intro us58 F58 H58 ys58 s58 w58 gg58 hm
          replace h55_0 := A2.mono s58 h55_0
          obtain ⟨l62, z62, e62, hm⟩ := pn_extend hm
          refine ⟨_, _, _, _, rfl, rfl, (w58.get (pre := [_])), (w58.get (pre := [])), (A2.le2 h55_0 gg58 z62), ?_⟩
          have h62 : A2 (rep K F58) (vs55_0 ++ us58) l62 := e62 ▸ A2.append h55_0 gg58
          have w63 : W F58 _ ((D58, .lst us58) :: (p53, .lst (vs55_0 ++ us58)) :: (a_state, .lst vs5) :: os) := w58.set (pre := [_])
          have w64 : W F58 _ ((p53, .lst (vs55_0 ++ us58)) :: (a_state, .lst vs5) :: os) := w63.drop (pre := [])
          exact hN55 _ (post_ok hm) _ _ ⟨_, _, _, rfl, (s55.trans s58), w64, h62⟩
        intro g55 σ55 H55 hI hm
        obtain ⟨F55, vs55_0, o55_6, rfl, s55, w55, h55_0⟩ := hI
        exact hN48 _ (post_ok hm) _ _ ⟨_, _, _, _, rfl, s55, w55, h55_0⟩
      · skip
        refine hIB49 _ ?_
        exact hN48 _ (post_ok hm) _ _ ⟨_, _, _, _, rfl, Same.refl _, w32, ko32_5⟩
    intro g48 σ48 H48 hI hm
    obtain ⟨F48, ao48_5, uo48_5, o48_6, rfl, s48, w48, ko48_5⟩ := hI
    replace h5 := A2.mono (s8.trans (s12.trans (s22.trans (s32.trans s48)))) h5
    try dsimp only
    refine joinS hm (fun (g66 : (List (Int × Int)) × (List Int)) σ H' => ∃ (F' : Hp) (ao66_5 : Addr) (uo66_5 : List V) (vs66_0 : List V) (o66_7 : Option V) (o66_8 : Option V) (o66_9 : Option V), σ = [some (.ref a_state), some (.int x_least), some (.int x_most), some (.int (x_least + y3.1)), some (.int y5.1), some (.ref ao66_5), o48_6, o66_7, o66_8, o66_9, none, none, none] ∧ Same F48 F' ∧ W F' H' ((ao66_5, .lst uo66_5) :: (a_state, .lst vs66_0) :: os) ∧ A2 (rep K F') uo66_5 g66.1 ∧ A2 (rep K F') vs66_0 g66.2) ?_ ?_
    · intro N66 P66 hN66 hm
      refine ifOneN fun IA67 IB67 hIA67 hIB67 => ?_
      refine ⟨_, rfl, _, _, rfl, rfl, _, rfl, ?_⟩
      refine post_ite hm (fun k68 hm => ?_) (fun k68 hm => ?_)
      · skip
        refine hIA67 _ ?_
        try dsimp only
        refine seqN fun N69 hN69 => ?_
        obtain ⟨c70, hm⟩ := pb_rng hm
        refine ⟨_, rfl, _, _, rfl, c70, fun D71 nD71 => ?_⟩
        refine lcMap (K := K) (tw_rng (i := (1 : Int)) (j := (x_least + y3.1))) hm (fun (g71 : (List Int)) F' os' => ∃ (vs71_0 : List V), os' = (ao48_5, .lst uo48_5) :: (a_state, .lst vs71_0) :: os ∧ A2 (rep K F') vs71_0 g71) w48 ⟨_, rfl, h5⟩ nD71 (fun g F' H' os' acc s w o => by obtain ⟨_, rfl, _⟩ := o; exact trivial) ?_ ?_
        · -- one turn
          intro b71 g71 x71 F71 H71 H71' os71 acc71 N71 P71 s71 w71 o71 y71 hN71 hm
          obtain ⟨vs71_0, rfl, h71_0⟩ := o71
          obtain ⟨rfl, rfl⟩ := y71
          have w73 : W F71 _ ((a_state, .lst vs71_0) :: (D71, .lst acc71) :: (ao48_5, .lst uo48_5) :: os) := w71.front (pre := [_, _])
          refine ⟨rfl, _, rfl, _, rfl, _, _, _, _, _, _, rfl, w73, h71_0, ?_⟩
          refine (post_bind hm).mono (fun y74 hm v74 vs74 F74 H74 w74 s74 r74 h74 => ?_) (fun _ z => z)
          obtain rfl : v74 = V.int y74.1 := r74
          refine ⟨_, rfl, (by show 2 ≤ sizeLine; decide), fun p75 n75 => ?_⟩
          obtain ⟨F75, s75, w75, q75⟩ := w74.frzE (o := .tup [(.int y74.1), (.int b71)]) n75
          replace h74 := A2.mono s75 h74
          have w76 : W F75 _ ((ao48_5, .lst uo48_5) :: (a_state, .lst vs74) :: (D71, .lst acc71) :: os) := w75.front (pre := [_, _])
          have w77 : W F75 _ ((D71, .lst acc71) :: (ao48_5, .lst uo48_5) :: (a_state, .lst vs74) :: os) := w76.front (pre := [_, _])
          exact hN71 _ _ (post_ok hm) _ _ _ _ w77 (s74.trans s75) ⟨_, rfl, h74⟩ (rep_pair q75 rep_i rep_i)
        intro g71 us71 F71 H71 os71 ys71 s71 w71 o71 gg71 hm
        obtain ⟨vs71_0, rfl, h71_0⟩ := o71
        have w79 : W F71 _ ((D71, .lst us71) :: (a_state, .lst vs71_0) :: os) := w71.drop (pre := [_])
        refine stepN ?_
        try dsimp only
        refine hN69 _ _ ?_
        have w81 : W F71 _ ((a_state, .lst vs71_0) :: (D71, .lst us71) :: os) := w79.front (pre := [_])
        refine ⟨_, rfl, _, _, _, _, _, _, rfl, w81, h71_0, ?_⟩
        refine (post_bind hm).mono (fun y82 hm v82 vs82 F82 H82 w82 s82 r82 h82 => ?_) (fun _ z => z)
        replace gg71 := A2.mono s82 gg71
        obtain rfl : v82 = V.int y82.1 := r82
        obtain ⟨c83, hm⟩ := pb_rng hm
        refine ⟨_, rfl, c83.2.2.1, c83.2.2.2, ?_⟩
        refine forS (tw_rng0 (j := y82.1)) hm (fun (g80 : (List Int) × (List (Int × Int))) σ H' => ∃ (F' : Hp) (vs80_0 : List V) (vs80_1 : List V) (o80_8 : Option V) (o80_9 : Option V) (o80_7 : Option V), σ = [some (.ref a_state), some (.int x_least), some (.int x_most), some (.int (x_least + y3.1)), some (.int y5.1), some (.ref D71), o48_6, o80_7, o80_8, o80_9, none, none, none] ∧ Same F82 F' ∧ W F' H' ((a_state, .lst vs80_0) :: (D71, .lst vs80_1) :: os) ∧ A2 (rep K F') vs80_0 g80.1 ∧ A2 (rep K F') vs80_1 g80.2) ⟨_, _, _, _, _, _, rfl, Same.refl _, w82, h82, gg71⟩ (fun _ _ _ _ => trivial) ?_ ?_
        · -- a turn
          intro b80 g80 x80 σ80 H80 H80' N80 P80 hI hy hN80 hm
          obtain ⟨F80, vs80_0, vs80_1, o80_8, o80_9, o80_7, rfl, s80, w80, h80_0, h80_1⟩ := hI
          obtain ⟨rfl, rfl⟩ := hy
          refine stepN ?_
          try dsimp only
          refine seqN fun N84 hN84 => ?_
          refine ⟨_, rfl, _, rfl, _, _, _, _, _, _, rfl, w80, h80_0, ?_⟩
          refine (post_bind hm).mono (fun y85 hm v85 vs85 F85 H85 w85 s85 r85 h85 => ?_) (fun _ z => z)
          obtain rfl : v85 = V.int y85.1 := r85
          refine ⟨_, rfl, _, rfl, _, _, _, _, _, _, rfl, w85, h85, ?_⟩
          refine (post_bind hm).mono (fun y86 hm v86 vs86 F86 H86 w86 s86 r86 h86 => ?_) (fun _ z => z)
          replace h80_1 := A2.mono (s85.trans s86) h80_1
          obtain rfl : v86 = V.int y86.1 := r86
          refine ⟨_, _, rfl, ?_⟩
          try dsimp only
          refine hN84 _ _ ?_
          try dsimp only
          refine ifOneN fun IA87 IB87 hIA87 hIB87 => ?_
          refine cutT (fun c H' => c = (((decide (y85.1 < y86.1)) && (!inB (y85.1, y86.1) g80.2))) ∧ ∃ F', Same F86 F' ∧ W F' H' ((a_state, .lst vs86) :: (D71, .lst vs80_1) :: os)) (fun Q88 q88 => ?_) (fun c88 H88 hc88 => ?_)
          · -- the ways
            refine ⟨_, rfl, _, rfl, _, _, rfl, rfl, _, rfl, ?_⟩
            refine ifB (fun k89 => ?_) (fun k89 => ?_)
            · skip
              refine ⟨_, rfl, _, rfl, (by show 2 ≤ sizeLine; decide), fun p90 n90 => ?_⟩
              obtain ⟨F90, s90, w90, q90⟩ := w86.frzE (o := .tup [(.int y85.1), (.int y86.1)]) n90
              replace h80_1 := A2.mono s90 h80_1
              exact ⟨_, rfl, ((y85.1, y86.1) : (Int × Int)), _, (Rep.mono w90.same (rep_pair q90 rep_i rep_i)), (rep_own (pre := [_]) w90 h80_1), _, rfl, q88 _ _ ⟨(by first | rfl | exact absurd k89 (by decide) | (simp [k89]; done) | ((try simp only [Bool.not_eq_true] at k89); simp only [k89, Bool.true_or, Bool.false_or, Bool.or_false, Bool.or_true, Bool.true_and, Bool.false_and, Bool.and_true, Bool.and_false])), _, s90, w90⟩⟩
            · skip
              exact q88 _ _ ⟨(by first | rfl | exact absurd k89 (by decide) | (simp [k89]; done) | ((try simp only [Bool.not_eq_true] at k89); simp only [k89, Bool.true_or, Bool.false_or, Bool.or_false, Bool.or_true, Bool.true_and, Bool.false_and, Bool.and_true, Bool.and_false])), _, Same.refl _, w86⟩
          obtain ⟨rfl, F88, s88, w88⟩ := hc88
          replace h86 := A2.mono s88 h86
          replace h80_1 := A2.mono s88 h80_1
          refine post_ite hm (fun k93 hm => ?_) (fun k93 hm => ?_)
          · skip
            refine hIA87 _ ?_
            refine ⟨_, rfl, .inl ⟨rfl, _, SqL.of (w88.get (pre := [_]))⟩, _, rfl, _, rfl, (by show 2 ≤ sizeLine; decide), fun p94 n94 => ?_⟩
            obtain ⟨F94, s94, w94, q94⟩ := w88.frzE (o := .tup [(.int y85.1), (.int y86.1)]) n94
            replace h86 := A2.mono s94 h86
            replace h80_1 := A2.mono s94 h80_1
            obtain ⟨l95, z95, e95, hm⟩ := pn_app hm
            refine ⟨_, _, _, rfl, rfl, (w94.get (pre := [_])), (A2.lt h80_1 z95), ?_⟩
            have h95 : A2 (rep K F94) (vs80_1 ++ [(V.ref p94)]) l95 := e95 ▸ A2.snoc h80_1 (rep_pair q94 rep_i rep_i)
            have w96 : W F94 _ ((a_state, .lst vs86) :: (D71, .lst (vs80_1 ++ [(V.ref p94)])) :: os) := w94.set (pre := [_])
            exact hN80 _ (post_ok hm) _ _ ⟨_, _, _, _, _, _, rfl, (s80.trans (s85.trans (s86.trans (s88.trans s94)))), w96, h86, h95⟩
          · skip
            refine hIB87 _ ?_
            exact hN80 _ (post_ok hm) _ _ ⟨_, _, _, _, _, _, rfl, (s80.trans (s85.trans (s86.trans s88))), w88, h86, h80_1⟩
        intro g80 σ80 H80 hI hm
        obtain ⟨F80, vs80_0, vs80_1, o80_8, o80_9, o80_7, rfl, s80, w80, h80_0, h80_1⟩ := hI
        have w97 : W F80 _ ((D71, .lst vs80_1) :: (a_state, .lst vs80_0) :: os) := w80.front (pre := [_])
        exact hN66 _ (post_ok hm) _ _ ⟨_, _, _, _, _, _, _, rfl, (s71.trans (s82.trans s80)), w97, h80_1, h80_0⟩
      · skip
        refine hIB67 _ ?_
        exact hN66 _ (post_ok hm) _ _ ⟨_, _, _, _, _, _, _, rfl, Same.refl _, w48, ko48_5, h5⟩
    intro g66 σ66 H66 hI hm
    obtain ⟨F66, ao66_5, uo66_5, vs66_0, o66_7, o66_8, o66_9, rfl, s66, w66, ko66_5, h66_0⟩ := hI
    try dsimp only
    refine seqN fun N99 hN99 => ?_
    have h100 : A2 (rep K F66) [] ([] : (List Int)) := .nil
    refine ⟨(by show 0 ≤ sizeLine; decide), fun p101 n101 => ?_⟩
    have w101 : W F66 _ ((p101, .lst []) :: (ao66_5, .lst uo66_5) :: (a_state, .lst vs66_0) :: os) := w66.new n101
    refine stepN ?_
    try dsimp only
    refine hN99 _ _ ?_
    obtain ⟨c103, hm⟩ := pb_rng hm
    refine ⟨_, rfl, _, rfl, c103.2.2.1, c103.2.2.2, ?_⟩
    refine forS (tw_rng0 (j := (x_least + y3.1))) hm (fun (g102 : (List Int) × (List Int)) σ H' => ∃ (F' : Hp) (vs102_0 : List V) (vs102_1 : List V) (o102_11 : Option V), σ = [some (.ref a_state), some (.int x_least), some (.int x_most), some (.int (x_least + y3.1)), some (.int y5.1), some (.ref ao66_5), o48_6, o66_7, o66_8, o66_9, some (.ref p101), o102_11, none] ∧ Same F66 F' ∧ W F' H' ((p101, .lst vs102_0) :: (ao66_5, .lst uo66_5) :: (a_state, .lst vs102_1) :: os) ∧ A2 (rep K F') vs102_0 g102.1 ∧ A2 (rep K F') vs102_1 g102.2) ⟨_, _, _, _, rfl, Same.refl _, w101, h100, h66_0⟩ (fun _ _ _ _ => trivial) ?_ ?_
    · -- a turn
      intro b102 g102 x102 σ102 H102 H102' N102 P102 hI hy hN102 hm
      obtain ⟨F102, vs102_0, vs102_1, o102_11, rfl, s102, w102, h102_0, h102_1⟩ := hI
      obtain ⟨rfl, rfl⟩ := hy
      have w104 : W F102 _ ((a_state, .lst vs102_1) :: (p101, .lst vs102_0) :: (ao66_5, .lst uo66_5) :: os) := w102.front (pre := [_, _])
      refine ⟨_, rfl, .inl ⟨rfl, _, SqL.of (w102.get (pre := []))⟩, _, rfl, _, rfl, _, _, rfl, rfl, _, _, _, _, _, _, rfl, w104, h102_1, ?_⟩
      refine (post_bind hm).mono (fun y105 hm v105 vs105 F105 H105 w105 s105 r105 h105 => ?_) (fun _ z => z)
      replace h102_0 := A2.mono s105 h102_0
      obtain rfl : v105 = V.int y105.1 := r105
      obtain ⟨l106, z106, e106, hm⟩ := pn_ins hm
      refine ⟨_, rfl, _, _, _, _, rfl, rfl, (w105.get (pre := [_])), (line_ins h102_0 z106.1), z106.2.1, (by have := z106.2.2; omega), ?_⟩
      have h106 : A2 (rep K F105) (vs102_0.take y105.1.toNat ++ [(.int b102)] ++ vs102_0.drop y105.1.toNat) l106 := e106 ▸ A2.ins _ h102_0 rep_i
      have w107 : W F105 _ ((a_state, .lst vs105) :: (p101, .lst (vs102_0.take y105.1.toNat ++ [(.int b102)] ++ vs102_0.drop y105.1.toNat)) :: (ao66_5, .lst uo66_5) :: os) := w105.set (pre := [_])
      have w108 : W F105 _ ((ao66_5, .lst uo66_5) :: (a_state, .lst vs105) :: (p101, .lst (vs102_0.take y105.1.toNat ++ [(.int b102)] ++ vs102_0.drop y105.1.toNat)) :: os) := w107.front (pre := [_, _])
      have w109 : W F105 _ ((p101, .lst (vs102_0.take y105.1.toNat ++ [(.int b102)] ++ vs102_0.drop y105.1.toNat)) :: (ao66_5, .lst uo66_5) :: (a_state, .lst vs105) :: os) := w108.front (pre := [_, _])
      exact hN102 _ (post_ok hm) _ _ ⟨_, _, _, _, rfl, (s102.trans s105), w109, h106, h105⟩
    intro g102 σ102 H102 hI hm
    obtain ⟨F102, vs102_0, vs102_1, o102_11, rfl, s102, w102, h102_0, h102_1⟩ := hI
    replace ko66_5 := A2.mono s102 ko66_5
    refine ⟨_, rfl, _, rfl, _, rfl, ⟨_, SqL.of (w102.get (pre := [_]))⟩, fun D110 nD110 => ?_⟩
    refine lcM (K := K) (tw_list (a := ao66_5) ko66_5) hm w102 nD110 (fun F' H' acc s w => SqL.of (w.get (pre := [_, _]))) ?_ ?_
    · -- one turn
      intro b110 x110 F110 H110 H110' acc110 N110 P110 s110 w110 y110 hN110 hm
      replace h102_0 := A2.mono s110 h102_0
      obtain ⟨rfl, r112⟩ := y110
      replace r112 := Rep.mono s110 r112
      obtain ⟨a113, u113, z113, rfl, q113, r113a, r113b⟩ := r112
      obtain rfl : u113 = V.int b110.1 := r113a
      obtain rfl : z113 = V.int b110.2 := r113b
      obtain ⟨t114, e114, hm⟩ := pb_get hm
      obtain ⟨u114, f114, r114⟩ := A2.at h102_0 e114
      obtain rfl : u114 = V.int t114 := r114
      obtain ⟨t115, e115, hm⟩ := pb_get hm
      obtain ⟨u115, f115, r115⟩ := A2.at h102_0 e115
      obtain rfl : u115 = V.int t115 := r115
      refine ⟨_, _, rfl, SqT.of (w110.same _ _ q113), rfl, _, _, rfl, _, _, rfl, rfl, rfl, _, rfl, _, rfl, _, _, _, _, rfl, rfl, SqL.of (w110.get (pre := [_])), f114, _, rfl, _, rfl, _, _, _, _, rfl, rfl, SqL.of (w110.get (pre := [_])), f115, (by show 2 ≤ sizeLine; decide), fun p116 n116 => ?_⟩
      obtain ⟨F116, s116, w116, q116⟩ := w110.frzE (o := .tup [(.int t114), (.int t115)]) n116
      exact hN110 _ (post_ok hm) _ _ _ w116 s116 (rep_pair q116 rep_i rep_i)
    intro us110 F110 H110 ys110 s110 w110 gg110 hm
    refine ⟨_, _, _, _, _, _, rfl, w110, gg110, ?_⟩
    refine (post_bind hm).mono (fun y118 hm v118 F118 H118 w118 s118 r118 => ?_) (fun _ z => z)
    replace h102_1 := A2.mono (s110.trans s118) h102_1
    replace sF := sF.trans (s3.trans (s5.trans (s8.trans (s12.trans (s22.trans (s32.trans (s48.trans (s66.trans (s102.trans (s110.trans s118))))))))))
    obtain ⟨a119, u119, z119, rfl, q119, r119a, r119b⟩ := r118
    obtain rfl : u119 = V.int y118.1 := r119a
    obtain ⟨a120, vs120, rfl, q120, h120⟩ := r119b
    have w121 : W F118 _ ((p101, .lst vs102_0) :: (ao66_5, .lst uo66_5) :: (a_state, .lst vs102_1) :: os) := w118.drop (pre := [])
    have w122 : W F118 _ ((ao66_5, .lst uo66_5) :: (a_state, .lst vs102_1) :: os) := w121.drop (pre := [])
    have w123 : W F118 _ ((a_state, .lst vs102_1) :: os) := w122.drop (pre := [])
    exact (post_ok hm) _ _ _ _ w123 sF (rep_pair q119 rep_i (rep_tup q120 h120)) h102_1
def sp_law_moved (K : Fg) : Sp := fun vs H Q E => ∃ (F : Hp) (os : List (Addr × HO)) (v_web : V) (x_web : (Int × (Tup (Int × Int)))) (v_part : V) (x_part : (Tup Int)), vs = [v_web, v_part] ∧ W F H (os) ∧ rep K F v_web x_web ∧ rep K F v_part x_part ∧ Post (law_moved x_web x_part) (Ret K F os Q) noX
theorem sc_law_moved : FnScope ["web", "part", "found", "place", "other"] ["web", "part"] (defScope s_law_moved) := ⟨rfl, rfl, rfl, by decide +kernel, rfl, by decide +kernel, by decide +kernel⟩
theorem ok_law_moved (T : Tx K mg A FD) : FnOk P w K mg base CX0 3 (A 40) (FD 40) ["web", "part"] (sp_law_moved K) := by
  refine T.d40.fn.ok sc_law_moved (fun vs H Q E h => ?_) (fun cdv Ar outer s H vs Q E hr h => ?_)
  · obtain ⟨F, os, v_web, x_web, v_part, x_part, rfl, _⟩ := h
    rfl
  · obtain ⟨F0, os, v_web, x_web, v_part, x_part, rfl, w0, r_web, r_part, hm⟩ := h
    have sF : Same F0 F0 := Same.refl _
    obtain ⟨a1, u1, z1, rfl, q1, r1a, r1b⟩ := r_web
    obtain rfl : u1 = V.int x_web.1 := r1a
    obtain ⟨a2, vs2, rfl, q2, h2⟩ := r1b
    obtain ⟨a3, vs3, rfl, q3, h3⟩ := r_part
    refine ⟨_, (pss_cons (ps_set (i := 2) sc_law_moved.nd rfl (Or.inr rfl) (pe_callTy (call_list_ofK (K := K) rfl) (by rfl) T.n_list (by decide +kernel) (pa_cons (pv 1) pa_nil))) (pss_cons (ps_for PassesOwn.never rfl (pi_tupK (K := K) rfl (pv 1)) (pg_name (i := 3) sc_law_moved.nd rfl (Or.inl rfl)) (pss_one (ps_expr (pe_bm PySem.F.plainAttrs_list PySem.F.slot_list_extend PySem.F.type_list_extend mt_extend (pv 2) (pa_cons (pe_lc (own := [("other", 4)]) (g := gName 4) (by rfl) sc_law_moved.nd (pi_listK (K := K) rfl (pe_call (ok_neighbours_of T) (hr.mono (by decide)) (by rfl) T.d15.mg T.d15.fn.kp T.d15.b .nil pass0 (pa_cons (pv 0) (pa_cons (pv 3) pa_nil)))) (blkOk_by (own := [("other", 4)]) (N := ["web", "part", "found", "place", "other"]) (sc := defScope s_law_moved) (by decide +kernel)) (fun _ _ _ _ _ => (pg_name (i := 4) sc_law_moved.nd rfl (Or.inl rfl))) (fun _ _ _ _ _ => (pts_one (pt_cmpR (op_notInL (K := K) rfl Int (by decide) (Room.units65 hr)) (pv 4) (pv 2) (by rfl)))) (fun _ _ _ _ _ => (pv 4))) pa_nil))))) (pss_one (ps_ret (pe_callTy (call_tuple_ofK (K := K) rfl) (by rfl) T.n_tuple (by decide +kernel) (pa_cons (pe_callB (cr_sortI (K := K) rfl) (by rfl) T.n_sorted (by decide +kernel) (pa_cons (pv 2) pa_nil)) pa_nil)))))), ?_⟩
    try dsimp only
    refine seqN fun N4 hN4 => ?_
    have h5 : A2 (rep K F0) vs3 x_part.l := h3
    refine ⟨_, rfl, _, _, rfl, .inr (SqT.of (w0.same _ _ q3)), fun p6 n6 => ?_⟩
    have w6 : W F0 _ ((p6, .lst vs3) :: os) := w0.new n6
    refine stepN ?_
    try dsimp only
    refine hN4 _ _ ?_
    refine ⟨_, rfl, _, rfl, ⟨_, SqT.of (w6.same _ _ q3)⟩, ?_⟩
    refine forS (tw_tup (a := a3) h3) hm (fun (g7 : (List Int)) σ H' => ∃ (F' : Hp) (vs7_0 : List V) (o7_3 : Option V), σ = [some (.ref a1), some (.ref a3), some (.ref p6), o7_3, none] ∧ Same F0 F' ∧ W F' H' ((p6, .lst vs7_0) :: os) ∧ A2 (rep K F') vs7_0 g7) ⟨_, _, _, rfl, Same.refl _, w6, h5⟩ (fun g σ H' hI => by obtain ⟨F', _, _, _, s, w, _⟩ := hI; exact SqT.of (w.same _ _ (s _ _ q3))) ?_ ?_
    · -- a turn
      intro b7 g7 x7 σ7 H7 H7' N7 P7 hI hy hN7 hm
      obtain ⟨F7, vs7_0, o7_3, rfl, s7, w7, h7_0⟩ := hI
      replace q1 := s7 _ _ q1
      replace h2 := A2.mono s7 h2
      replace q2 := s7 _ _ q2
      obtain ⟨rfl, r8⟩ := hy
      obtain rfl : x7 = V.int b7 := r8
      refine ⟨_, rfl, .inl ⟨rfl, _, SqL.of (w7.get (pre := []))⟩, _, rfl, _, rfl, _, _, _, (x_web : (Int × (Tup (Int × Int)))), _, rfl, w7, (rep_pair q1 rep_i (rep_tup q2 h2)), ?_⟩
      refine (post_bind hm).mono (fun y9 hm v9 F9 H9 w9 s9 r9 => ?_) (fun _ z => z)
      replace h7_0 := A2.mono s9 h7_0
      obtain ⟨a10, vs10, rfl, q10, h10⟩ := r9
      refine ⟨_, rfl, ⟨_, SqL.of (w9.same _ _ q10)⟩, fun D11 nD11 => ?_⟩
      refine lcF (K := K) (tw_list (a := a10) h10) hm w9 nD11 (fun F' H' acc s w => SqL.of (w.same _ _ (s _ _ q10))) ?_ ?_
      · -- one turn
        intro b11 x11 F11 H11 H11' acc11 N11 M11 P11 s11 w11 y11 hN11 hM11 hm
        replace h7_0 := A2.mono s11 h7_0
        obtain ⟨rfl, r13⟩ := y11
        obtain rfl : x11 = V.int b11 := r13
        refine ⟨rfl, _, rfl, _, rfl, (b11 : Int), _, rep_i, (rep_own (pre := [_]) w11 h7_0), _, rfl, ?_⟩
        refine post_ite hm (fun k14 hm => ?_) (fun k14 hm => ?_)
        · skip
          exact ⟨_, rfl, hN11 _ (post_ok hm) _ _ _ w11 (Same.refl _) rep_i⟩
        · skip
          exact hM11 (post_ok hm) _ _ w11 (Same.refl _)
      intro us11 F11 H11 ys11 s11 w11 gg11 hm
      replace h7_0 := A2.mono s11 h7_0
      obtain ⟨l16, z16, e16, hm⟩ := pn_extend hm
      refine ⟨_, _, _, _, rfl, rfl, (w11.get (pre := [_])), (w11.get (pre := [])), (A2.le2 h7_0 gg11 z16), ?_⟩
      have h16 : A2 (rep K F11) (vs7_0 ++ us11) l16 := e16 ▸ A2.append h7_0 gg11
      have w17 : W F11 _ ((D11, .lst us11) :: (p6, .lst (vs7_0 ++ us11)) :: os) := w11.set (pre := [_])
      have w18 : W F11 _ ((p6, .lst (vs7_0 ++ us11)) :: os) := w17.drop (pre := [])
      exact hN7 _ (post_ok hm) _ _ ⟨_, _, _, rfl, (s7.trans (s9.trans s11)), w18, h16⟩
    intro g7 σ7 H7 hI hm
    obtain ⟨F7, vs7_0, o7_3, rfl, s7, w7, h7_0⟩ := hI
    have h19 : A2 (rep K F7) ((sortI g7).map V.int) (sortI g7) := A2.of_ints
    refine ⟨_, rfl, _, _, rfl, ints_q (SqL.of (w7.get (pre := []))) h7_0, fun p20 n20 => ?_⟩
    have w20 : W F7 _ ((p20, .lst ((sortI g7).map V.int)) :: (p6, .lst vs7_0) :: os) := w7.new n20
    have h21 : A2 (rep K F7) ((sortI g7).map V.int) (sortI g7) := h19
    refine ⟨_, _, rfl, .inl ⟨SqL.of (w20.get (pre := [])), fun p22 n22 => ?_⟩⟩
    obtain ⟨F22, s22, w22, q22⟩ := w20.frzE (o := .tup ((sortI g7).map V.int)) n22
    replace h21 := A2.mono s22 h21
    replace sF := sF.trans (s7.trans s22)
    have w23 : W F22 _ ((p6, .lst vs7_0) :: os) := w22.drop (pre := [])
    have w24 : W F22 _ (os) := w23.drop (pre := [])
    exact (post_ok hm) _ _ _ w24 sF (rep_tup q22 h21)
def sp_law_parts (K : Fg) : Sp := fun vs H Q E => ∃ (F : Hp) (os : List (Addr × HO)) (v_web : V) (x_web : (Int × (Tup (Int × Int)))) (v_standing : V) (x_standing : (Tup Int)) (v_looks : V) (x_looks : (Tup Int)), vs = [v_web, v_standing, v_looks] ∧ W F H (os) ∧ rep K F v_web x_web ∧ rep K F v_standing x_standing ∧ rep K F v_looks x_looks ∧ Post (law_parts x_web x_standing x_looks) (Ret K F os Q) noX
theorem sc_law_parts : FnScope ["web", "standing", "looks", "found", "place", "code", "part"] ["web", "standing", "looks"] (defScope s_law_parts) := ⟨rfl, rfl, rfl, by decide +kernel, rfl, by decide +kernel, by decide +kernel⟩
theorem ok_law_parts (T : Tx K mg A FD) : FnOk P w K mg base CX0 5 (A 41) (FD 41) ["web", "standing", "looks"] (sp_law_parts K) := by
  refine T.d41.fn.ok sc_law_parts (fun vs H Q E h => ?_) (fun cdv Ar outer s H vs Q E hr h => ?_)
  · obtain ⟨F, os, v_web, x_web, v_standing, x_standing, v_looks, x_looks, rfl, _⟩ := h
    rfl
  · obtain ⟨F0, os, v_web, x_web, v_standing, x_standing, v_looks, x_looks, rfl, w0, r_web, r_standing, r_looks, hm⟩ := h
    have sF : Same F0 F0 := Same.refl _
    obtain ⟨a1, u1, z1, rfl, q1, r1a, r1b⟩ := r_web
    obtain rfl : u1 = V.int x_web.1 := r1a
    obtain ⟨a2, vs2, rfl, q2, h2⟩ := r1b
    obtain ⟨a3, vs3, rfl, q3, h3⟩ := r_standing
    obtain ⟨a4, vs4, rfl, q4, h4⟩ := r_looks
    refine ⟨_, (pss_cons (ps_set (i := 3) sc_law_parts.nd rfl (Or.inl rfl) pe_dnewT) (pss_cons (ps_for PassesOwn.never rfl (pi_tupK (K := K) rfl (pv 1)) (pg_name (i := 4) sc_law_parts.nd rfl (Or.inl rfl)) (pss_cons (ps_set (i := 5) sc_law_parts.nd rfl (Or.inl rfl) (pe_callTy (call_tuple_ofK (K := K) rfl) (by rfl) T.n_tuple (by decide +kernel) (pa_cons (pe_call (ok_code_of T) (hr.mono (by decide)) (by rfl) T.d33.mg T.d33.fn.kp T.d33.b .nil pass0 (pa_cons (pv 0) (pa_cons (pe_callTy (call_list_ofK (K := K) rfl) (by rfl) T.n_list (by decide +kernel) (pa_cons (pv 2) pa_nil)) (pa_cons (pv 4) pa_nil)))) pa_nil))) (pss_one (ps_dput (Room.units1 hr) (pv 3) (pv 5) (pe_op (op_catU (K := K) rfl) (pe_dget2R (Room.units1 hr) (pv 3) (pv 5) (pe_tup pa_nil) ⟨rfl, rfl, rfl, rfl⟩) (pe_tup (pa_cons (pv 4) pa_nil))) (by rfl))))) (pss_one (ps_ret (pe_lc (own := [("part", 6)]) (g := gName 6) (by rfl) sc_law_parts.nd (pi_valuesT (pv 3)) (blkOk_by (own := [("part", 6)]) (N := ["web", "standing", "looks", "found", "place", "code", "part"]) (sc := defScope s_law_parts) (by decide +kernel)) (fun _ _ _ _ _ => (pg_name (i := 6) sc_law_parts.nd rfl (Or.inl rfl))) (fun _ _ _ _ _ => (pts_one (pt_cmp (pc_gt (pe_callB (call_lenN (K := K) rfl) (by rfl) T.n_len (by decide +kernel) (pa_cons (pv 6) pa_nil)) pe_int)))) (fun _ _ _ _ _ => (pv 6))))))), ?_⟩
    try dsimp only
    refine seqN fun N5 hN5 => ?_
    refine fun p6 n6 => ?_
    have w6 : W F0 _ ((p6, .dT []) :: os) := w0.new n6
    have h6 : AD kT (rep K F0) [] ([] : (List ((Tup Int) × (Tup Int)))) := .nil
    refine stepN ?_
    try dsimp only
    refine hN5 _ _ ?_
    refine ⟨_, rfl, _, rfl, ⟨_, SqT.of (w6.same _ _ q3)⟩, ?_⟩
    refine forS (tw_tup (a := a3) h3) hm (fun (g7 : (List ((Tup Int) × (Tup Int)))) σ H' => ∃ (F' : Hp) (vs7_0 : List (List Key × V)) (o7_5 : Option V) (o7_4 : Option V), σ = [some (.ref a1), some (.ref a3), some (.ref a4), some (.ref p6), o7_4, o7_5, none] ∧ Same F0 F' ∧ W F' H' ((p6, .dT vs7_0) :: os) ∧ AD kT (rep K F') vs7_0 g7) ⟨_, _, _, _, rfl, Same.refl _, w6, h6⟩ (fun g σ H' hI => by obtain ⟨F', _, _, _, _, s, w, _⟩ := hI; exact SqT.of (w.same _ _ (s _ _ q3))) ?_ ?_
    · -- a turn
      intro b7 g7 x7 σ7 H7 H7' N7 P7 hI hy hN7 hm
      obtain ⟨F7, vs7_0, o7_5, o7_4, rfl, s7, w7, h7_0⟩ := hI
      replace h4 := A2.mono s7 h4
      replace q4 := s7 _ _ q4
      obtain ⟨rfl, r8⟩ := hy
      obtain rfl : x7 = V.int b7 := r8
      refine stepN ?_
      try dsimp only
      refine seqN fun N9 hN9 => ?_
      have h10 : A2 (rep K F7) vs4 x_looks.l := h4
      refine ⟨_, rfl, _, rfl, _, _, rfl, .inr (SqT.of (w7.same _ _ q4)), fun p11 n11 => ?_⟩
      have w11 : W F7 _ ((p11, .lst vs4) :: (p6, .dT vs7_0) :: os) := w7.new n11
      obtain ⟨F12, s12, w12, q12⟩ : ∃ F', Same F7 F' ∧ W F' _ ((p6, .dT vs7_0) :: os) ∧ F' p11 = some (.lst vs4) := w11.freezeE (pre := [])
      replace q1 := (s7.trans s12) _ _ q1
      replace h2 := A2.mono (s7.trans s12) h2
      replace q2 := (s7.trans s12) _ _ q2
      replace h10 := A2.mono s12 h10
      refine ⟨_, rfl, _, _, _, (x_web : (Int × (Tup (Int × Int)))), _, (x_looks.l : (List Int)), _, ((Thing.pl b7) : Thing), rfl, w12, (rep_pair q1 rep_i (rep_tup q2 h2)), (rep_lst q12 h10), rep_pl, ?_⟩
      refine (post_bind hm).mono (fun y13 hm p13 us13 F13 H13 w13 s13 g13 => ?_) (fun _ z => z)
      have h15 : A2 (rep K F13) us13 y13 := g13
      refine ⟨_, _, rfl, .inl ⟨SqL.of (w13.get (pre := [])), fun p16 n16 => ?_⟩⟩
      obtain ⟨F16, s16, w16, q16⟩ := w13.frzE (o := .tup us13) n16
      have w17 : W F16 _ ((p6, .dT vs7_0) :: os) := w16.drop (pre := [])
      refine stepN ?_
      try dsimp only
      refine hN9 _ _ ?_
      have h18 : A2 (rep K F16) [] (Tup.mk [] : (Tup Int)).l := .nil
      refine ⟨_, rfl, _, rfl, isD_t (w17.get (pre := [])), _, rfl, (by show 0 ≤ sizeLine; decide), fun p19 n19 => ?_⟩
      obtain ⟨F19, s19, w19, q19⟩ := w17.frzE (o := .tup []) n19
      replace h15 := A2.mono (s16.trans s19) h15
      replace q16 := s19 _ _ q16
      replace h7_0 := AD.imp (fun _ _ => Rep.mono (s12.trans (s13.trans (s16.trans s19)))) h7_0
      replace h18 := A2.mono s19 h18
      obtain ⟨u20, f20, r20⟩ := AD.getD kT_inj (k := (Tup.mk y13)) (rep_tup q19 h18) h7_0
      obtain ⟨a21, vs21, rfl, q21, h21⟩ := r20
      have h22 : A2 (rep K F19) [(.int b7)] (Tup.mk [b7] : (Tup Int)).l := .cons rep_i (.nil)
      refine ⟨_, _, dgetA (t := (Tup.mk y13)) (w19.get (pre := [])) (key_tup (t := (Tup.mk y13)) w19.same q16 h15), f20, _, rfl, (by show 1 ≤ sizeLine; decide), fun p23 n23 => ?_⟩
      obtain ⟨F23, s23, w23, q23⟩ := w19.frzE (o := .tup [(.int b7)]) n23
      replace q21 := s23 _ _ q21
      replace h21 := A2.mono s23 h21
      replace h22 := A2.mono s23 h22
      obtain ⟨l24, z24, e24, hm⟩ := pn_extend hm
      have h24 : A2 (rep K F23) (vs21 ++ [(.int b7)]) l24 := e24 ▸ A2.append h21 h22
      refine ⟨_, _, _, _, _, _, rfl, rfl, w23, q21, q23, (A2.le2 h21 h22 z24), fun p24 F24 H24 s24 w24 q24 => ?_⟩
      replace h15 := A2.mono (s23.trans s24) h15
      replace q16 := (s23.trans s24) _ _ q16
      replace h7_0 := AD.imp (fun _ _ => Rep.mono (s23.trans s24)) h7_0
      replace h24 := A2.mono s24 h24
      obtain ⟨l25, z25, e25, hm⟩ := pn_mput hm
      refine ⟨_, rfl, _, rfl, _, _, rfl, dputA (t := (Tup.mk y13)) (v := (.ref p24)) (w24.get (pre := [])) (key_tup w24.same q16 h15) h7_0 z25, ?_⟩
      have h25 : AD kT (rep K F24) (putK vs7_0 (kT (Tup.mk y13)) (.ref p24)) l25 := e25 ▸ AD.put kT_inj h7_0 (rep_tup q24 h24)
      have w26 : W F24 _ ((p6, .dT (putK vs7_0 (kT (Tup.mk y13)) (.ref p24))) :: os) := w24.set (pre := [])
      exact hN7 _ (post_ok hm) _ _ ⟨_, _, _, _, rfl, (s7.trans (s12.trans (s13.trans (s16.trans (s19.trans (s23.trans s24)))))), w26, h25⟩
    intro g7 σ7 H7 hI hm
    obtain ⟨F7, vs7_0, o7_5, o7_4, rfl, s7, w7, h7_0⟩ := hI
    refine ⟨_, rfl, _, _, rfl, (w7.get (pre := [])), fun od27 => ?_⟩
    have w27 : W F7 _ ((p6, (.frz od27 (.dT vs7_0))) :: os) := w7.set (pre := [])
    refine fun D28 nD28 => ?_
    refine lcF (K := K) (tw_valsT (d := p6) (o := od27) h7_0) hm w27 nD28 (fun F' H' acc s w => w.get (pre := [_])) ?_ ?_
    · -- one turn
      intro b28 x28 F28 H28 H28' acc28 N28 M28 P28 s28 w28 y28 hN28 hM28 hm
      obtain ⟨rfl, r30⟩ := y28
      replace r30 := Rep.mono s28 r30
      obtain ⟨a31, vs31, rfl, q31, h31⟩ := r30
      refine ⟨rfl, _, rfl, _, _, _, rfl, .inr (SqT.of (w28.same _ _ q31)), h31.length, _, _, rfl, rfl, _, rfl, ?_⟩
      refine post_ite hm (fun k32 hm => ?_) (fun k32 hm => ?_)
      · skip
        exact ⟨_, rfl, hN28 _ (post_ok hm) _ _ _ w28 (Same.refl _) (rep_tup q31 h31)⟩
      · skip
        exact hM28 (post_ok hm) _ _ w28 (Same.refl _)
    intro us28 F28 H28 ys28 s28 w28 gg28 hm
    obtain ⟨F34, s34, w34, q34⟩ : ∃ F', Same F28 F' ∧ W F' _ ((p6, (.frz od27 (.dT vs7_0))) :: os) ∧ F' D28 = some (.lst us28) := w28.freezeE (pre := [])
    replace gg28 := A2.mono s34 gg28
    replace sF := sF.trans (s7.trans (s28.trans s34))
    have w35 : W F34 _ (os) := w34.drop (pre := [])
    exact (post_ok hm) _ _ _ w35 sF (rep_lst q34 gg28)
def sp_law_partsL (K : Fg) : Sp := fun vs H Q E => ∃ (F : Hp) (os : List (Addr × HO)) (v_web : V) (x_web : (Int × (Tup (Int × Int)))) (v_standing : V) (x_standing : (Tup Int)) (v_looks : V) (x_looks : (List Int)), vs = [v_web, v_standing, v_looks] ∧ W F H (os) ∧ rep K F v_web x_web ∧ rep K F v_standing x_standing ∧ rep K F v_looks x_looks ∧ Post (law_partsL x_web x_standing x_looks) (Ret K F os Q) noX
theorem ok_law_partsL (T : Tx K mg A FD) : FnOk P w K mg base CX0 5 (A 41) (FD 41) ["web", "standing", "looks"] (sp_law_partsL K) := by
  refine T.d41.fn.ok sc_law_parts (fun vs H Q E h => ?_) (fun cdv Ar outer s H vs Q E hr h => ?_)
  · obtain ⟨F, os, v_web, x_web, v_standing, x_standing, v_looks, x_looks, rfl, _⟩ := h
    rfl
  · obtain ⟨F0, os, v_web, x_web, v_standing, x_standing, v_looks, x_looks, rfl, w0, r_web, r_standing, r_looks, hm⟩ := h
    have sF : Same F0 F0 := Same.refl _
    obtain ⟨a1, u1, z1, rfl, q1, r1a, r1b⟩ := r_web
    obtain rfl : u1 = V.int x_web.1 := r1a
    obtain ⟨a2, vs2, rfl, q2, h2⟩ := r1b
    obtain ⟨a3, vs3, rfl, q3, h3⟩ := r_standing
    obtain ⟨a4, vs4, rfl, q4, h4⟩ := r_looks
    refine ⟨_, (pss_cons (ps_set (i := 3) sc_law_parts.nd rfl (Or.inl rfl) pe_dnewT) (pss_cons (ps_for PassesOwn.never rfl (pi_tupK (K := K) rfl (pv 1)) (pg_name (i := 4) sc_law_parts.nd rfl (Or.inl rfl)) (pss_cons (ps_set (i := 5) sc_law_parts.nd rfl (Or.inl rfl) (pe_callTy (call_tuple_ofK (K := K) rfl) (by rfl) T.n_tuple (by decide +kernel) (pa_cons (pe_call (ok_code_of T) (hr.mono (by decide)) (by rfl) T.d33.mg T.d33.fn.kp T.d33.b .nil pass0 (pa_cons (pv 0) (pa_cons (pe_callTy (call_list_ofK (K := K) rfl) (by rfl) T.n_list (by decide +kernel) (pa_cons (pv 2) pa_nil)) (pa_cons (pv 4) pa_nil)))) pa_nil))) (pss_one (ps_dput (Room.units1 hr) (pv 3) (pv 5) (pe_op (op_catU (K := K) rfl) (pe_dget2R (Room.units1 hr) (pv 3) (pv 5) (pe_tup pa_nil) ⟨rfl, rfl, rfl, rfl⟩) (pe_tup (pa_cons (pv 4) pa_nil))) (by rfl))))) (pss_one (ps_ret (pe_lc (own := [("part", 6)]) (g := gName 6) (by rfl) sc_law_parts.nd (pi_valuesT (pv 3)) (blkOk_by (own := [("part", 6)]) (N := ["web", "standing", "looks", "found", "place", "code", "part"]) (sc := defScope s_law_parts) (by decide +kernel)) (fun _ _ _ _ _ => (pg_name (i := 6) sc_law_parts.nd rfl (Or.inl rfl))) (fun _ _ _ _ _ => (pts_one (pt_cmp (pc_gt (pe_callB (call_lenN (K := K) rfl) (by rfl) T.n_len (by decide +kernel) (pa_cons (pv 6) pa_nil)) pe_int)))) (fun _ _ _ _ _ => (pv 6))))))), ?_⟩
    try dsimp only
    refine seqN fun N5 hN5 => ?_
    refine fun p6 n6 => ?_
    have w6 : W F0 _ ((p6, .dT []) :: os) := w0.new n6
    have h6 : AD kT (rep K F0) [] ([] : (List ((Tup Int) × (Tup Int)))) := .nil
    refine stepN ?_
    try dsimp only
    refine hN5 _ _ ?_
    refine ⟨_, rfl, _, rfl, ⟨_, SqT.of (w6.same _ _ q3)⟩, ?_⟩
    refine forS (tw_tup (a := a3) h3) hm (fun (g7 : (List ((Tup Int) × (Tup Int)))) σ H' => ∃ (F' : Hp) (vs7_0 : List (List Key × V)) (o7_5 : Option V) (o7_4 : Option V), σ = [some (.ref a1), some (.ref a3), some (.ref a4), some (.ref p6), o7_4, o7_5, none] ∧ Same F0 F' ∧ W F' H' ((p6, .dT vs7_0) :: os) ∧ AD kT (rep K F') vs7_0 g7) ⟨_, _, _, _, rfl, Same.refl _, w6, h6⟩ (fun g σ H' hI => by obtain ⟨F', _, _, _, _, s, w, _⟩ := hI; exact SqT.of (w.same _ _ (s _ _ q3))) ?_ ?_
    · -- a turn
      intro b7 g7 x7 σ7 H7 H7' N7 P7 hI hy hN7 hm
      obtain ⟨F7, vs7_0, o7_5, o7_4, rfl, s7, w7, h7_0⟩ := hI
      replace h4 := A2.mono s7 h4
      replace q4 := s7 _ _ q4
      obtain ⟨rfl, r8⟩ := hy
      obtain rfl : x7 = V.int b7 := r8
      refine stepN ?_
      try dsimp only
      refine seqN fun N9 hN9 => ?_
      have h10 : A2 (rep K F7) vs4 x_looks := h4
      refine ⟨_, rfl, _, rfl, _, _, rfl, .inl (SqL.of (w7.same _ _ q4)), fun p11 n11 => ?_⟩
      have w11 : W F7 _ ((p11, .lst vs4) :: (p6, .dT vs7_0) :: os) := w7.new n11
      obtain ⟨F12, s12, w12, q12⟩ : ∃ F', Same F7 F' ∧ W F' _ ((p6, .dT vs7_0) :: os) ∧ F' p11 = some (.lst vs4) := w11.freezeE (pre := [])
      replace q1 := (s7.trans s12) _ _ q1
      replace h2 := A2.mono (s7.trans s12) h2
      replace q2 := (s7.trans s12) _ _ q2
      replace h10 := A2.mono s12 h10
      refine ⟨_, rfl, _, _, _, (x_web : (Int × (Tup (Int × Int)))), _, (x_looks : (List Int)), _, ((Thing.pl b7) : Thing), rfl, w12, (rep_pair q1 rep_i (rep_tup q2 h2)), (rep_lst q12 h10), rep_pl, ?_⟩
      refine (post_bind hm).mono (fun y13 hm p13 us13 F13 H13 w13 s13 g13 => ?_) (fun _ z => z)
      have h15 : A2 (rep K F13) us13 y13 := g13
      refine ⟨_, _, rfl, .inl ⟨SqL.of (w13.get (pre := [])), fun p16 n16 => ?_⟩⟩
      obtain ⟨F16, s16, w16, q16⟩ := w13.frzE (o := .tup us13) n16
      have w17 : W F16 _ ((p6, .dT vs7_0) :: os) := w16.drop (pre := [])
      refine stepN ?_
      try dsimp only
      refine hN9 _ _ ?_
      have h18 : A2 (rep K F16) [] (Tup.mk [] : (Tup Int)).l := .nil
      refine ⟨_, rfl, _, rfl, isD_t (w17.get (pre := [])), _, rfl, (by show 0 ≤ sizeLine; decide), fun p19 n19 => ?_⟩
      obtain ⟨F19, s19, w19, q19⟩ := w17.frzE (o := .tup []) n19
      replace h15 := A2.mono (s16.trans s19) h15
      replace q16 := s19 _ _ q16
      replace h7_0 := AD.imp (fun _ _ => Rep.mono (s12.trans (s13.trans (s16.trans s19)))) h7_0
      replace h18 := A2.mono s19 h18
      obtain ⟨u20, f20, r20⟩ := AD.getD kT_inj (k := (Tup.mk y13)) (rep_tup q19 h18) h7_0
      obtain ⟨a21, vs21, rfl, q21, h21⟩ := r20
      have h22 : A2 (rep K F19) [(.int b7)] (Tup.mk [b7] : (Tup Int)).l := .cons rep_i (.nil)
      refine ⟨_, _, dgetA (t := (Tup.mk y13)) (w19.get (pre := [])) (key_tup (t := (Tup.mk y13)) w19.same q16 h15), f20, _, rfl, (by show 1 ≤ sizeLine; decide), fun p23 n23 => ?_⟩
      obtain ⟨F23, s23, w23, q23⟩ := w19.frzE (o := .tup [(.int b7)]) n23
      replace q21 := s23 _ _ q21
      replace h21 := A2.mono s23 h21
      replace h22 := A2.mono s23 h22
      obtain ⟨l24, z24, e24, hm⟩ := pn_extend hm
      have h24 : A2 (rep K F23) (vs21 ++ [(.int b7)]) l24 := e24 ▸ A2.append h21 h22
      refine ⟨_, _, _, _, _, _, rfl, rfl, w23, q21, q23, (A2.le2 h21 h22 z24), fun p24 F24 H24 s24 w24 q24 => ?_⟩
      replace h15 := A2.mono (s23.trans s24) h15
      replace q16 := (s23.trans s24) _ _ q16
      replace h7_0 := AD.imp (fun _ _ => Rep.mono (s23.trans s24)) h7_0
      replace h24 := A2.mono s24 h24
      obtain ⟨l25, z25, e25, hm⟩ := pn_mput hm
      refine ⟨_, rfl, _, rfl, _, _, rfl, dputA (t := (Tup.mk y13)) (v := (.ref p24)) (w24.get (pre := [])) (key_tup w24.same q16 h15) h7_0 z25, ?_⟩
      have h25 : AD kT (rep K F24) (putK vs7_0 (kT (Tup.mk y13)) (.ref p24)) l25 := e25 ▸ AD.put kT_inj h7_0 (rep_tup q24 h24)
      have w26 : W F24 _ ((p6, .dT (putK vs7_0 (kT (Tup.mk y13)) (.ref p24))) :: os) := w24.set (pre := [])
      exact hN7 _ (post_ok hm) _ _ ⟨_, _, _, _, rfl, (s7.trans (s12.trans (s13.trans (s16.trans (s19.trans (s23.trans s24)))))), w26, h25⟩
    intro g7 σ7 H7 hI hm
    obtain ⟨F7, vs7_0, o7_5, o7_4, rfl, s7, w7, h7_0⟩ := hI
    refine ⟨_, rfl, _, _, rfl, (w7.get (pre := [])), fun od27 => ?_⟩
    have w27 : W F7 _ ((p6, (.frz od27 (.dT vs7_0))) :: os) := w7.set (pre := [])
    refine fun D28 nD28 => ?_
    refine lcF (K := K) (tw_valsT (d := p6) (o := od27) h7_0) hm w27 nD28 (fun F' H' acc s w => w.get (pre := [_])) ?_ ?_
    · -- one turn
      intro b28 x28 F28 H28 H28' acc28 N28 M28 P28 s28 w28 y28 hN28 hM28 hm
      obtain ⟨rfl, r30⟩ := y28
      replace r30 := Rep.mono s28 r30
      obtain ⟨a31, vs31, rfl, q31, h31⟩ := r30
      refine ⟨rfl, _, rfl, _, _, _, rfl, .inr (SqT.of (w28.same _ _ q31)), h31.length, _, _, rfl, rfl, _, rfl, ?_⟩
      refine post_ite hm (fun k32 hm => ?_) (fun k32 hm => ?_)
      · skip
        exact ⟨_, rfl, hN28 _ (post_ok hm) _ _ _ w28 (Same.refl _) (rep_tup q31 h31)⟩
      · skip
        exact hM28 (post_ok hm) _ _ w28 (Same.refl _)
    intro us28 F28 H28 ys28 s28 w28 gg28 hm
    obtain ⟨F34, s34, w34, q34⟩ : ∃ F', Same F28 F' ∧ W F' _ ((p6, (.frz od27 (.dT vs7_0))) :: os) ∧ F' D28 = some (.lst us28) := w28.freezeE (pre := [])
    replace gg28 := A2.mono s34 gg28
    replace sF := sF.trans (s7.trans (s28.trans s34))
    have w35 : W F34 _ (os) := w34.drop (pre := [])
    exact (post_ok hm) _ _ _ w35 sF (rep_lst q34 gg28)
def sp_law_by_turns (K : Fg) : Sp := fun vs H Q E => ∃ (F : Hp) (os : List (Addr × HO)) (v_row : V) (x_row : (Nt ((Tup Int) × (Tup Int) × Int × Unit))), vs = [v_row] ∧ W F H (os) ∧ rep K F v_row x_row ∧ Post (law_by_turns x_row) (Ret K F os Q) noX
theorem sc_law_by_turns : FnScope ["row"] ["row"] (defScope s_law_by_turns) := ⟨rfl, rfl, rfl, by decide +kernel, rfl, by decide +kernel, by decide +kernel⟩
theorem ok_law_by_turns (T : Tx K mg A FD) : FnOk P w K mg base CX0 1 (A 43) (FD 43) ["row"] (sp_law_by_turns K) := by
  refine T.d43.fn.ok sc_law_by_turns (fun vs H Q E h => ?_) (fun cdv Ar outer s H vs Q E hr h => ?_)
  · obtain ⟨F, os, v_row, x_row, rfl, _⟩ := h
    rfl
  · obtain ⟨F0, os, v_row, x_row, rfl, w0, r_row, hm⟩ := h
    have sF : Same F0 F0 := Same.refl _
    obtain ⟨a1, u1_0, u1_1, u1_2, rfl, q1, r1_0, r1_1, r1_2⟩ := nt3 r_row
    replace r1_0 : rep K F0 u1_0 (x_row.v.1 : (Tup Int)) := r1_0
    obtain ⟨a2, vs2, rfl, q2, h2⟩ := r1_0
    replace r1_1 : rep K F0 u1_1 (x_row.v.2.1 : (Tup Int)) := r1_1
    obtain ⟨a3, vs3, rfl, q3, h3⟩ := r1_1
    replace r1_2 : rep K F0 u1_2 (x_row.v.2.2.1 : Int) := r1_2
    obtain rfl : u1_2 = V.int x_row.v.2.2.1 := r1_2
    refine ⟨_, (pss_one (ps_ret (pe_ix (ix_tupK (K := K) rfl) (pv 0) pe_int (fun _ _ => rfl)))), ?_⟩
    exact ⟨_, rfl, _, _, _, _, rfl, rfl, SqT.of (w0.same _ _ q1), rfl, (post_ok hm) _ _ _ w0 sF rep_i⟩
def sp_law_row (K : Fg) : Sp := fun vs H Q E => ∃ (F : Hp) (os : List (Addr × HO)) (v_hunt : V) (x_hunt : (List (Nt ((Tup Int) × (Tup Int) × Int × Unit)))) (v_standing : V) (x_standing : (Tup Int)), vs = [v_hunt, v_standing] ∧ W F H (os) ∧ rep K F v_hunt x_hunt ∧ rep K F v_standing x_standing ∧ Post (law_row x_hunt x_standing) (Ret K F os Q) noX
theorem sc_law_row : FnScope ["hunt", "standing", "rows", "row", "place"] ["hunt", "standing"] (defScope s_law_row) := ⟨rfl, rfl, rfl, by decide +kernel, rfl, by decide +kernel, by decide +kernel⟩
theorem ok_law_row (T : Tx K mg A FD) : FnOk P w K mg base CX0 3 (A 42) (FD 42) ["hunt", "standing"] (sp_law_row K) := by
  refine T.d42.fn.ok sc_law_row (fun vs H Q E h => ?_) (fun cdv Ar outer s H vs Q E hr h => ?_)
  · obtain ⟨F, os, v_hunt, x_hunt, v_standing, x_standing, rfl, _⟩ := h
    rfl
  · obtain ⟨F0, os, v_hunt, x_hunt, v_standing, x_standing, rfl, w0, r_hunt, r_standing, hm⟩ := h
    have sF : Same F0 F0 := Same.refl _
    obtain ⟨a1, vs1, rfl, q1, h1⟩ := r_hunt
    obtain ⟨a2, vs2, rfl, q2, h2⟩ := r_standing
    refine ⟨_, (pss_cons (ps_set (i := 2) sc_law_row.nd rfl (Or.inl rfl) (pe_lst pa_nil)) (pss_cons (ps_for PassesOwn.never rfl (pi_listK (K := K) rfl (pv 0)) (pg_name (i := 3) sc_law_row.nd rfl (Or.inr rfl)) (pss_one (ps_if (pt_cmpR (op_eqDt (K := K) rfl (List Int) (by decide) hr.units) (pe_lc (own := [("place", 4)]) (g := gName 4) (by rfl) sc_law_row.nd (pi_tupK (K := K) rfl (pv 1)) (blkOk_by (own := [("place", 4)]) (N := ["hunt", "standing", "rows", "row", "place"]) (sc := defScope s_law_row) (by decide +kernel)) (fun _ _ _ _ _ => (pg_name (i := 4) sc_law_row.nd rfl (Or.inl rfl))) (fun _ _ _ _ _ => (pts_one (pt_cmpR (op_notInT (K := K) rfl Int (by decide) (Room.units65 hr)) (pv 4) (pe_ix (ix_tupK (K := K) rfl) (pv 3) pe_int (fun _ _ => rfl)) (by rfl)))) (fun _ _ _ _ _ => (pv 4))) (pe_lst pa_nil) (nomark _)) (pss_one (ps_expr (pe_bm PySem.F.plainAttrs_list PySem.F.slot_list_append PySem.F.type_list_append mt_append (pv 2) (pa_cons (pv 3) pa_nil)))) pss_nil))) (pss_one (ps_ret (pe_slice (sl_listK (K := K) rfl) (pe_callBK (cr_sortedFK (sp := sp_law_by_turns K) (K := K) rfl (ok_law_by_turns T) (hr.mono (by first | decide | omega)) T.d43.b) (by rfl) T.n_sorted (by decide +kernel) (pa_cons (pv 2) pa_nil) (pk_cons (pe_glob (v := .ref (A 43)) (by rfl) T.d43.mg rfl) pk_nil)) po_none (po_some pe_int)))))), ?_⟩
    try dsimp only
    refine seqN fun N3 hN3 => ?_
    have h4 : A2 (rep K F0) [] ([] : (List (Nt ((Tup Int) × (Tup Int) × Int × Unit)))) := .nil
    refine ⟨(by show 0 ≤ sizeLine; decide), fun p5 n5 => ?_⟩
    have w5 : W F0 _ ((p5, .lst []) :: os) := w0.new n5
    refine stepN ?_
    try dsimp only
    refine hN3 _ _ ?_
    refine ⟨_, rfl, _, rfl, ⟨_, SqL.of (w5.same _ _ q1)⟩, ?_⟩
    refine forS (tw_list (a := a1) h1) hm (fun (g6 : (List (Nt ((Tup Int) × (Tup Int) × Int × Unit)))) σ H' => ∃ (F' : Hp) (vs6_0 : List V) (o6_3 : Option V), σ = [some (.ref a1), some (.ref a2), some (.ref p5), o6_3, none] ∧ Same F0 F' ∧ W F' H' ((p5, .lst vs6_0) :: os) ∧ A2 (rep K F') vs6_0 g6) ⟨_, _, _, rfl, Same.refl _, w5, h4⟩ (fun g σ H' hI => by obtain ⟨F', _, _, _, s, w, _⟩ := hI; exact SqL.of (w.same _ _ (s _ _ q1))) ?_ ?_
    · -- a turn
      intro b6 g6 x6 σ6 H6 H6' N6 P6 hI hy hN6 hm
      obtain ⟨F6, vs6_0, o6_3, rfl, s6, w6, h6_0⟩ := hI
      replace h2 := A2.mono s6 h2
      replace q2 := s6 _ _ q2
      obtain ⟨rfl, r7⟩ := hy
      replace r7 := Rep.mono s6 r7
      obtain ⟨a8, u8_0, u8_1, u8_2, rfl, q8, r8_0, r8_1, r8_2⟩ := nt3 r7
      replace r8_0 : rep K F6 u8_0 (b6.v.1 : (Tup Int)) := r8_0
      obtain ⟨a9, vs9, rfl, q9, h9⟩ := r8_0
      replace r8_1 : rep K F6 u8_1 (b6.v.2.1 : (Tup Int)) := r8_1
      obtain ⟨a10, vs10, rfl, q10, h10⟩ := r8_1
      replace r8_2 : rep K F6 u8_2 (b6.v.2.2.1 : Int) := r8_2
      obtain rfl : u8_2 = V.int b6.v.2.2.1 := r8_2
      refine stepN ?_
      try dsimp only
      refine ifOneN fun IA11 IB11 hIA11 hIB11 => ?_
      refine ⟨_, rfl, _, rfl, ⟨_, SqT.of (w6.same _ _ q2)⟩, fun D12 nD12 => ?_⟩
      refine lcF (K := K) (tw_tup (a := a2) h2) hm w6 nD12 (fun F' H' acc s w => SqT.of (w.same _ _ (s _ _ q2))) ?_ ?_
      · -- one turn
        intro b12 x12 F12 H12 H12' acc12 N12 M12 P12 s12 w12 y12 hN12 hM12 hm
        replace q8 := s12 _ _ q8
        replace h9 := A2.mono s12 h9
        replace q9 := s12 _ _ q9
        obtain ⟨rfl, r14⟩ := y12
        obtain rfl : x12 = V.int b12 := r14
        refine ⟨rfl, _, rfl, _, rfl, _, _, _, _, rfl, rfl, SqT.of (w12.same _ _ q8), rfl, (b12 : Int), _, rep_i, (Rep.mono w12.same (rep_tup q9 h9)), _, rfl, ?_⟩
        refine post_ite hm (fun k15 hm => ?_) (fun k15 hm => ?_)
        · skip
          exact ⟨_, rfl, hN12 _ (post_ok hm) _ _ _ w12 (Same.refl _) rep_i⟩
        · skip
          exact hM12 (post_ok hm) _ _ w12 (Same.refl _)
      intro us12 F12 H12 ys12 s12 w12 gg12 hm
      replace q8 := s12 _ _ q8
      replace h9 := A2.mono s12 h9
      replace q9 := s12 _ _ q9
      replace h10 := A2.mono s12 h10
      replace q10 := s12 _ _ q10
      replace h6_0 := A2.mono s12 h6_0
      have h17 : A2 (rep K F12) [] ([] : (List Int)) := .nil
      refine ⟨(by show 0 ≤ sizeLine; decide), fun p18 n18 => ?_⟩
      have w18 : W F12 _ ((p18, .lst []) :: (D12, .lst us12) :: (p5, .lst vs6_0) :: os) := w12.new n18
      refine ⟨(ys12 : (List Int)), (([] : (List Int)) : (List Int)), (rep_own (pre := [_]) w18 gg12), (rep_own (pre := []) w18 h17), _, rfl, ?_⟩
      have w19 : W F12 _ ((D12, .lst us12) :: (p5, .lst vs6_0) :: os) := w18.drop (pre := [])
      have w20 : W F12 _ ((p5, .lst vs6_0) :: os) := w19.drop (pre := [])
      refine post_ite hm (fun k21 hm => ?_) (fun k21 hm => ?_)
      · skip
        refine hIA11 _ ?_
        obtain ⟨l22, z22, e22, hm⟩ := pn_app hm
        refine ⟨_, rfl, .inl ⟨rfl, _, SqL.of (w20.get (pre := []))⟩, _, rfl, _, _, _, rfl, rfl, (w20.get (pre := [])), (A2.lt h6_0 z22), ?_⟩
        have h22 : A2 (rep K F12) (vs6_0 ++ [(V.ref a8)]) l22 := e22 ▸ A2.snoc h6_0 (rep_nt3 q8 (rep_tup q9 h9) (rep_tup q10 h10) rep_i)
        have w23 : W F12 _ ((p5, .lst (vs6_0 ++ [(V.ref a8)])) :: os) := w20.set (pre := [])
        exact hN6 _ (post_ok hm) _ _ ⟨_, _, _, rfl, (s6.trans s12), w23, h22⟩
      · skip
        refine hIB11 _ ?_
        exact hN6 _ (post_ok hm) _ _ ⟨_, _, _, rfl, (s6.trans s12), w20, h6_0⟩
    intro g6 σ6 H6 hI hm
    obtain ⟨F6, vs6_0, o6_3, rfl, s6, w6, h6_0⟩ := hI
    obtain ⟨k24, hm⟩ := pb_sortBy hm
    refine ⟨_, rfl, rfl, key_ok (sp := sp_law_by_turns K) (f := law_by_turns) w6 (SqL.of (w6.get (pre := []))) (h6_0) k24 (fun x b F' H' Q' w' r' h' => ⟨F', _, x, b, rfl, w', r', h'⟩) (fun p24 us24 F24 H24 w24 s24 n24 h24 => ?_)⟩
    have w26 : W F24 _ ((p24, .lst us24) :: (p5, .lst vs6_0) :: os) := w24.new n24
    have h27 : A2 (rep K F24) (cutV us24 none (some (1 : Int))) (cutL (sortBy law_by_turns g6) none (some (1 : Int))) := sl_cut h24 _ _
    refine ⟨_, rfl, _, _, rfl, SqL.of (w26.get (pre := [])), fun p28 n28 => ?_⟩
    have w28 : W F24 _ ((p28, .lst (cutV us24 none (some (1 : Int)))) :: (p24, .lst us24) :: (p5, .lst vs6_0) :: os) := w26.new n28
    obtain ⟨F29, s29, w29, q29⟩ : ∃ F', Same F24 F' ∧ W F' _ ((p24, .lst us24) :: (p5, .lst vs6_0) :: os) ∧ F' p28 = some (.lst (cutV us24 none (some (1 : Int)))) := w28.freezeE (pre := [])
    replace h27 := A2.mono s29 h27
    replace sF := sF.trans (s6.trans (s24.trans s29))
    have w30 : W F29 _ ((p5, .lst vs6_0) :: os) := w29.drop (pre := [])
    have w31 : W F29 _ (os) := w30.drop (pre := [])
    exact (post_ok hm) _ _ _ w31 sF (rep_lst q29 h27)
def sp_law_hunted (K : Fg) : Sp := fun vs H Q E => ∃ (F : Hp) (os : List (Addr × HO)) (v_web : V) (x_web : (Int × (Tup (Int × Int)))) (v_hunt : V) (x_hunt : (List (Nt ((Tup Int) × (Tup Int) × Int × Unit)))), vs = [v_web, v_hunt] ∧ W F H (os) ∧ rep K F v_web x_web ∧ rep K F v_hunt x_hunt ∧ Post (law_hunted x_web x_hunt) (Ret K F os Q) noX
theorem sc_law_hunted : FnScope ["web", "hunt", "waiting", "longest", "standing", "turn", "rows", "part"] ["web", "hunt"] (defScope s_law_hunted) := ⟨rfl, rfl, rfl, by decide +kernel, rfl, by decide +kernel, by decide +kernel⟩
set_option maxHeartbeats 40000000 in
theorem ok_law_hunted (T : Tx K mg A FD) : FnOk P w K mg base CX0 6 (A 44) (FD 44) ["web", "hunt"] (sp_law_hunted K) := by
  refine T.d44.fn.ok sc_law_hunted (fun vs H Q E h => ?_) (fun cdv Ar outer s H vs Q E hr h => ?_)
  · obtain ⟨F, os, v_web, x_web, v_hunt, x_hunt, rfl, _⟩ := h
    rfl
  · obtain ⟨F0, os, v_web, x_web, v_hunt, x_hunt, rfl, w0, r_web, r_hunt, hm⟩ := h
    have sF : Same F0 F0 := Same.refl _
    obtain ⟨a1, u1, z1, rfl, q1, r1a, r1b⟩ := r_web
    obtain rfl : u1 = V.int x_web.1 := r1a
    obtain ⟨a2, vs2, rfl, q2, h2⟩ := r1b
    obtain ⟨a3, vs3, rfl, q3, h3⟩ := r_hunt
    refine ⟨_, (pss_cons (ps_set (i := 2) sc_law_hunted.nd rfl (Or.inl rfl) (pe_lst (pa_cons (pe_tup (pa_cons (pe_tupRg rfl (by rfl) T.n_tuple (prg_1 (by rfl) T.n_range (pe_ix (ix_tupK (K := K) rfl) (pv 0) pe_int (fun _ _ => rfl)))) (pa_cons pe_int pa_nil))) pa_nil))) (pss_cons (ps_set (i := 3) sc_law_hunted.nd rfl (Or.inl rfl) pe_int1) (pss_cons (ps_while PassesOwn.never (pt_cmpR (op_neDt (K := K) rfl (List ((Tup Int) × Int)) (by decide) hr.units) (pv 2) (pe_lst pa_nil) (nomark _)) (pss_cons (ps_asg (pe_bm0 PySem.F.plainAttrs_list PySem.F.slot_list_pop PySem.F.type_list_pop mt_pop (pv 2)) (pg_k (K := K) (t := fun K => gTup K 2 _) rfl (pg_tup (n := 2) rfl (pgs_cons (pg_name (i := 4) sc_law_hunted.nd rfl (Or.inl rfl)) (pgs_cons (pg_name (i := 5) sc_law_hunted.nd rfl (Or.inl rfl)) pgs_nil))))) (pss_cons (ps_set (i := 6) sc_law_hunted.nd rfl (Or.inl rfl) (pe_call (ok_law_row T) (hr.mono (by decide)) (by rfl) T.d42.mg T.d42.fn.kp T.d42.b .nil pass0 (pa_cons (pv 1) (pa_cons (pv 4) pa_nil)))) (pss_cons (ps_set (i := 3) sc_law_hunted.nd rfl (Or.inl rfl) (pe_callB (call_max2 rfl) (by rfl) T.n_max (by decide +kernel) (pa_cons (pv 3) (pa_cons (pv 5) pa_nil)))) (pss_cons (ps_if (PW.pt (pw_or (pt_cmpR (op_eqDt (K := K) rfl (List (Nt ((Tup Int) × (Tup Int) × Int × Unit))) (by decide) hr.units) (pv 6) (pe_lst pa_nil) (nomark _)) (pw_or1 (pt_cmp (pc_gt (pv 5) pe_int))))) (pss_one (ps_ret pe_int)) pss_nil) (pss_one (ps_for PassesOwn.never rfl (pi_listK (K := K) rfl (pe_call (ok_law_parts T) (hr.mono (by decide)) (by rfl) T.d41.mg T.d41.fn.kp T.d41.b .nil pass0 (pa_cons (pv 0) (pa_cons (pv 4) (pa_cons (pe_ix (ix_tupK (K := K) rfl) (pe_ix (ix_listK (K := K) rfl) (pv 6) pe_int (fun _ _ => rfl)) pe_int (fun _ _ => rfl)) pa_nil))))) (pg_name (i := 7) sc_law_hunted.nd rfl (Or.inl rfl)) (pss_one (ps_expr (pe_bm PySem.F.plainAttrs_list PySem.F.slot_list_append PySem.F.type_list_append mt_append (pv 2) (pa_cons (pe_tup (pa_cons (pe_call (ok_law_moved T) (hr.mono (by decide)) (by rfl) T.d40.mg T.d40.fn.kp T.d40.b .nil pass0 (pa_cons (pv 0) (pa_cons (pv 7) pa_nil))) (pa_cons (pe_op op_add (pv 5) pe_int) pa_nil))) pa_nil))))))))))) (pss_one (ps_ret (pv 3)))))), ?_⟩
    try dsimp only
    refine seqN fun N4 hN4 => ?_
    obtain ⟨l5, z5, e5, hm⟩ := pb_lrng hm
    have h5 : A2 (rep K F0) (rgV 0 x_web.1) l5 := by rw [e5, rgV_eq]; exact A2.of_ints
    refine ⟨_, rfl, _, _, _, _, rfl, rfl, SqT.of (w0.same _ _ q1), rfl, _, rfl, z5, fun p6 n6 => ?_⟩
    obtain ⟨F6, s6, w6, q6⟩ := w0.frzE (o := .tup (rgV 0 x_web.1)) n6
    refine ⟨(by show 2 ≤ sizeLine; decide), fun p7 n7 => ?_⟩
    obtain ⟨F7, s7, w7, q7⟩ := w6.frzE (o := .tup [(.ref p6), (.int 1)]) n7
    replace q1 := (s6.trans s7) _ _ q1
    replace q2 := (s6.trans s7) _ _ q2
    replace h2 := A2.mono (s6.trans s7) h2
    replace q3 := (s6.trans s7) _ _ q3
    replace h3 := A2.mono (s6.trans s7) h3
    replace h5 := A2.mono (s6.trans s7) h5
    replace q6 := s7 _ _ q6
    replace sF := sF.trans (s6.trans s7)
    have h8 : A2 (rep K F7) [(.ref p7)] ([((Tup.mk l5 : Tup Int), (1 : Int))] : (List ((Tup Int) × Int))) := .cons (rep_pair q7 (rep_tup q6 h5) rep_i) (.nil)
    refine ⟨(by show 1 ≤ sizeLine; decide), fun p9 n9 => ?_⟩
    have w9 : W F7 _ ((p9, .lst [(.ref p7)]) :: os) := w7.new n9
    refine stepN ?_
    try dsimp only
    refine hN4 _ _ ?_
    try dsimp only
    refine seqN fun N10 hN10 => ?_
    refine ⟨trivial, ?_⟩
    refine stepN ?_
    try dsimp only
    refine hN10 _ _ ?_
    try dsimp only
    refine stepSeq (whileX hm (fun (g11 : Int × (List ((Tup Int) × Int))) σ H' => ∃ (F' : Hp) (vs11_0 : List V) (o11_4 : Option V) (o11_5 : Option V) (o11_6 : Option V) (o11_7 : Option V), σ = [some (.ref a1), some (.ref a3), some (.ref p9), some (.int g11.1), o11_4, o11_5, o11_6, o11_7] ∧ Same F7 F' ∧ W F' H' ((p9, .lst vs11_0) :: os) ∧ A2 (rep K F') vs11_0 g11.2) ⟨_, _, _, _, _, _, rfl, Same.refl _, w9, h8⟩ ?_ ?_ ?_)
    · intro g11 σ11 H11 N11 P11 hI hN11 hm
      obtain ⟨F11, vs11_0, o11_4, o11_5, o11_6, o11_7, rfl, s11, w11, h11_0⟩ := hI
      have h12 : A2 (rep K F11) [] ([] : (List ((Tup Int) × Int))) := .nil
      refine ⟨_, rfl, (by show 0 ≤ sizeLine; decide), fun p13 n13 => ?_⟩
      have w13 : W F11 _ ((p13, .lst []) :: (p9, .lst vs11_0) :: os) := w11.new n13
      have w14 : W F11 _ ((p9, .lst vs11_0) :: os) := w13.drop (pre := [])
      exact ⟨(g11.2 : (List ((Tup Int) × Int))), (([] : (List ((Tup Int) × Int))) : (List ((Tup Int) × Int))), (rep_own (pre := [_]) w13 h11_0), (rep_own (pre := []) w13 h12), _, rfl, hN11 _ (post_ok hm) _ ⟨_, _, _, _, _, _, rfl, s11, w14, h11_0⟩⟩
    · intro g11 σ11 H11 N11 B11 P11 hI hN11 hB11 hZ11 hm
      obtain ⟨F11, vs11_0, o11_4, o11_5, o11_6, o11_7, rfl, s11, w11, h11_0⟩ := hI
      replace h3 := A2.mono s11 h3
      replace q3 := s11 _ _ q3
      try dsimp only
      refine seqN fun N15 hN15 => ?_
      obtain ⟨x16, l16, y16, e16, hm⟩ := pn_popI hm
      obtain ⟨u16, f16, r16⟩ := A2.lastV h11_0 y16
      refine ⟨_, rfl, .inl ⟨rfl, _, SqL.of (w11.get (pre := []))⟩, _, _, _, rfl, rfl, (w11.get (pre := [])), f16, ?_⟩
      have h16 : A2 (rep K F11) vs11_0.dropLast l16 := e16 ▸ A2.dropLast h11_0
      obtain ⟨a17, u17, z17, rfl, q17, r17a, r17b⟩ := r16
      obtain ⟨a18, vs18, rfl, q18, h18⟩ := r17a
      obtain rfl : z17 = V.int x16.2 := r17b
      have w19 : W F11 _ ((p9, .lst vs11_0.dropLast) :: os) := w11.set (pre := [])
      refine ⟨_, _, rfl, SqT.of (w19.same _ _ q17), rfl, _, _, rfl, _, _, rfl, rfl, ?_⟩
      try dsimp only
      refine hN15 _ _ ?_
      try dsimp only
      refine seqN fun N20 hN20 => ?_
      refine ⟨_, rfl, _, rfl, _, _, _, (x_hunt : (List (Nt ((Tup Int) × (Tup Int) × Int × Unit)))), _, (x16.1 : (Tup Int)), rfl, w19, (rep_lst q3 h3), (rep_tup q18 h18), ?_⟩
      refine (post_bind hm).mono (fun y21 hm v21 F21 H21 w21 s21 r21 => ?_) (fun _ z => z)
      obtain ⟨a22, vs22, rfl, q22, h22⟩ := r21
      refine stepN ?_
      try dsimp only
      refine hN20 _ _ ?_
      try dsimp only
      refine seqN fun N23 hN23 => ?_
      refine ⟨_, rfl, _, rfl, _, _, rfl, ?_⟩
      refine stepN ?_
      try dsimp only
      refine hN23 _ _ ?_
      try dsimp only
      refine ifSeqN fun IA24 IB24 hIA24 hIB24 => ?_
      refine cutT (fun c H' => c = (((decide (y21 = ([] : (List (Nt ((Tup Int) × (Tup Int) × Int × Unit)))))) || (decide ((60 : Int) < x16.2)))) ∧ ∃ F', Same F21 F' ∧ W F' H' ((p9, .lst vs11_0.dropLast) :: os)) (fun Q25 q25 => ?_) (fun c25 H25 hc25 => ?_)
      · -- the ways
        have h26 : A2 (rep K F21) [] ([] : (List (Nt ((Tup Int) × (Tup Int) × Int × Unit)))) := .nil
        refine ⟨_, rfl, (by show 0 ≤ sizeLine; decide), fun p27 n27 => ?_⟩
        have w27 : W F21 _ ((p27, .lst []) :: (p9, .lst vs11_0.dropLast) :: os) := w21.new n27
        refine ⟨(y21 : (List (Nt ((Tup Int) × (Tup Int) × Int × Unit)))), (([] : (List (Nt ((Tup Int) × (Tup Int) × Int × Unit)))) : (List (Nt ((Tup Int) × (Tup Int) × Int × Unit)))), (Rep.mono w27.same (rep_lst q22 h22)), (rep_own (pre := []) w27 h26), _, rfl, ?_⟩
        refine ifB (fun k28 => ?_) (fun k28 => ?_)
        · skip
          have w30 : W F21 _ ((p9, .lst vs11_0.dropLast) :: os) := w27.drop (pre := [])
          exact q25 _ _ ⟨(by first | rfl | exact absurd k28 (by decide) | (simp [k28]; done) | ((try simp only [Bool.not_eq_true] at k28); simp only [k28, Bool.true_or, Bool.false_or, Bool.or_false, Bool.or_true, Bool.true_and, Bool.false_and, Bool.and_true, Bool.and_false])), _, Same.refl _, w30⟩
        · skip
          have w32 : W F21 _ ((p9, .lst vs11_0.dropLast) :: os) := w27.drop (pre := [])
          exact ⟨_, rfl, _, _, rfl, rfl, _, rfl, q25 _ _ ⟨(by first | rfl | exact absurd k28 (by decide) | (simp [k28]; done) | ((try simp only [Bool.not_eq_true] at k28); simp only [k28, Bool.true_or, Bool.false_or, Bool.or_false, Bool.or_true, Bool.true_and, Bool.false_and, Bool.and_true, Bool.and_false])), _, Same.refl _, w32⟩⟩
      obtain ⟨rfl, F25, s25, w25⟩ := hc25
      replace q1 := (s11.trans (s21.trans s25)) _ _ q1
      replace h2 := A2.mono (s11.trans (s21.trans s25)) h2
      replace q2 := (s11.trans (s21.trans s25)) _ _ q2
      replace h18 := A2.mono (s21.trans s25) h18
      replace q18 := (s21.trans s25) _ _ q18
      replace h22 := A2.mono s25 h22
      replace q22 := s25 _ _ q22
      replace h16 := A2.mono (s21.trans s25) h16
      replace sF := sF.trans (s11.trans (s21.trans s25))
      refine post_ite hm (fun k33 hm => ?_) (fun k33 hm => ?_)
      · skip
        refine hIA24 _ ?_
        have hm := hZ11 _ (post_ok hm)
        have w34 : W F25 _ (os) := w25.drop (pre := [])
        exact (post_ok hm) _ _ _ w34 sF rep_i
      · skip
        refine hIB24 _ ?_
        obtain ⟨t36, e36, hm⟩ := pb_get hm
        obtain ⟨u36, f36, r36⟩ := A2.at h22 e36
        obtain ⟨a37, u37_0, u37_1, u37_2, rfl, q37, r37_0, r37_1, r37_2⟩ := nt3 r36
        replace r37_0 : rep K F25 u37_0 (t36.v.1 : (Tup Int)) := r37_0
        obtain ⟨a38, vs38, rfl, q38, h38⟩ := r37_0
        replace r37_1 : rep K F25 u37_1 (t36.v.2.1 : (Tup Int)) := r37_1
        obtain ⟨a39, vs39, rfl, q39, h39⟩ := r37_1
        replace r37_2 : rep K F25 u37_2 (t36.v.2.2.1 : Int) := r37_2
        obtain rfl : u37_2 = V.int t36.v.2.2.1 := r37_2
        refine ⟨_, rfl, _, rfl, _, rfl, _, _, _, _, rfl, rfl, SqL.of (w25.same _ _ q22), f36, _, _, _, _, rfl, rfl, SqT.of (w25.same _ _ q37), rfl, _, _, _, (x_web : (Int × (Tup (Int × Int)))), _, (x16.1 : (Tup Int)), _, (t36.v.2.1 : (Tup Int)), rfl, w25, (rep_pair q1 rep_i (rep_tup q2 h2)), (rep_tup q18 h18), (rep_tup q39 h39), ?_⟩
        refine (post_bind hm).mono (fun y40 hm v40 F40 H40 w40 s40 r40 => ?_) (fun _ z => z)
        replace q1 := s40 _ _ q1
        replace h2 := A2.mono s40 h2
        replace q2 := s40 _ _ q2
        replace h16 := A2.mono s40 h16
        obtain ⟨a41, vs41, rfl, q41, h41⟩ := r40
        refine ⟨_, rfl, ⟨_, SqL.of (w40.same _ _ q41)⟩, ?_⟩
        refine forS (tw_list (a := a41) h41) hm (fun (g35 : (List ((Tup Int) × Int))) σ H' => ∃ (F' : Hp) (vs35_0 : List V) (o35_7 : Option V), σ = [some (.ref a1), some (.ref a3), some (.ref p9), some (.int (max2 g11.1 x16.2)), some (.ref a18), some (.int x16.2), some (.ref a22), o35_7] ∧ Same F40 F' ∧ W F' H' ((p9, .lst vs35_0) :: os) ∧ A2 (rep K F') vs35_0 g35) ⟨_, _, _, rfl, Same.refl _, w40, h16⟩ (fun g σ H' hI => by obtain ⟨F', _, _, _, s, w, _⟩ := hI; exact SqL.of (w.same _ _ (s _ _ q41))) ?_ ?_
        · -- a turn
          intro b35 g35 x35 σ35 H35 H35' N35 P35 hI hy hN35 hm
          obtain ⟨F35, vs35_0, o35_7, rfl, s35, w35, h35_0⟩ := hI
          replace q1 := s35 _ _ q1
          replace h2 := A2.mono s35 h2
          replace q2 := s35 _ _ q2
          obtain ⟨rfl, r42⟩ := hy
          replace r42 := Rep.mono s35 r42
          obtain ⟨a43, vs43, rfl, q43, h43⟩ := r42
          refine ⟨_, rfl, .inl ⟨rfl, _, SqL.of (w35.get (pre := []))⟩, _, rfl, _, rfl, _, _, _, (x_web : (Int × (Tup (Int × Int)))), _, (b35 : (Tup Int)), rfl, w35, (rep_pair q1 rep_i (rep_tup q2 h2)), (rep_tup q43 h43), ?_⟩
          refine (post_bind hm).mono (fun y44 hm v44 F44 H44 w44 s44 r44 => ?_) (fun _ z => z)
          obtain ⟨a45, vs45, rfl, q45, h45⟩ := r44
          refine ⟨_, rfl, _, _, rfl, rfl, (by show 2 ≤ sizeLine; decide), fun p46 n46 => ?_⟩
          obtain ⟨F46, s46, w46, q46⟩ := w44.frzE (o := .tup [(.ref a45), (.int (x16.2 + (1 : Int)))]) n46
          replace h35_0 := A2.mono (s44.trans s46) h35_0
          replace q45 := s46 _ _ q45
          replace h45 := A2.mono s46 h45
          obtain ⟨l47, z47, e47, hm⟩ := pn_app hm
          refine ⟨_, _, _, rfl, rfl, (w46.get (pre := [])), (A2.lt h35_0 z47), ?_⟩
          have h47 : A2 (rep K F46) (vs35_0 ++ [(V.ref p46)]) l47 := e47 ▸ A2.snoc h35_0 (rep_pair q46 (rep_tup q45 h45) rep_i)
          have w48 : W F46 _ ((p9, .lst (vs35_0 ++ [(V.ref p46)])) :: os) := w46.set (pre := [])
          exact hN35 _ (post_ok hm) _ _ ⟨_, _, _, rfl, (s35.trans (s44.trans s46)), w48, h47⟩
        intro g35 σ35 H35 hI hm
        obtain ⟨F35, vs35_0, o35_7, rfl, s35, w35, h35_0⟩ := hI
        exact hN11 _ (post_ok hm) _ _ ⟨_, _, _, _, _, _, rfl, (s11.trans (s21.trans (s25.trans (s40.trans s35)))), w35, h35_0⟩
    intro g11 σ11 H11 hI hm
    obtain ⟨F11, vs11_0, o11_4, o11_5, o11_6, o11_7, rfl, s11, w11, h11_0⟩ := hI
    replace sF := sF.trans s11
    have w49 : W F11 _ (os) := w11.drop (pre := [])
    exact ⟨_, rfl, (post_ok hm) _ _ _ w49 sF rep_i⟩
def sp_law_hidden (K : Fg) : Sp := fun vs H Q E => ∃ (F : Hp) (os : List (Addr × HO)) (v_web : V) (x_web : (Int × (Tup (Int × Int)))) (v_shelter : V) (x_shelter : (List (Tup Int))) (a_state : Addr) (vs_state : List V) (x_state : (List Int)) (x_few : Int), vs = [v_web, v_shelter, .ref a_state, .int x_few] ∧ W F H ((a_state, .lst vs_state) :: os) ∧ rep K F v_web x_web ∧ rep K F v_shelter x_shelter ∧ A2 (rep K F) vs_state x_state ∧ Post (law_hidden x_web x_shelter x_state x_few) (RetM K F a_state os Q) noX
theorem sc_law_hidden : FnScope ["web", "shelter", "state", "few", "standing", "turn", "looks", "k", "place", "ways", "part", "behind", "other"] ["web", "shelter", "state", "few"] (defScope s_law_hidden) := ⟨rfl, rfl, rfl, by decide +kernel, rfl, by decide +kernel, by decide +kernel⟩
set_option maxHeartbeats 40000000 in
theorem ok_law_hidden (T : Tx K mg A FD) : FnOk P w K mg base CX0 6 (A 45) (FD 45) ["web", "shelter", "state", "few"] (sp_law_hidden K) := by
  refine T.d45.fn.ok sc_law_hidden (fun vs H Q E h => ?_) (fun cdv Ar outer s H vs Q E hr h => ?_)
  · obtain ⟨F, os, v_web, x_web, v_shelter, x_shelter, a_state, vs_state, x_state, x_few, rfl, _⟩ := h
    rfl
  · obtain ⟨F0, os, v_web, x_web, v_shelter, x_shelter, a_state, vs_state, x_state, x_few, rfl, w0, r_web, r_shelter, h_state, hm⟩ := h
    have sF : Same F0 F0 := Same.refl _
    obtain ⟨a2, u2, z2, rfl, q2, r2a, r2b⟩ := r_web
    obtain rfl : u2 = V.int x_web.1 := r2a
    obtain ⟨a3, vs3, rfl, q3, h3⟩ := r2b
    obtain ⟨a4, vs4, rfl, q4, h4⟩ := r_shelter
    refine ⟨_, (pss_cons (ps_set (i := 4) sc_law_hidden.nd rfl (Or.inl rfl) (pe_tupRg rfl (by rfl) T.n_tuple (prg_1 (by rfl) T.n_range (pe_ix (ix_tupK (K := K) rfl) (pv 0) pe_int (fun _ _ => rfl))))) (pss_cons (ps_for PassesOwn.never rfl (pi_range1 (by rfl) T.n_range (pa_cons pe_int pa_nil)) (pg_name (i := 5) sc_law_hidden.nd rfl (Or.inl rfl)) (pss_cons (ps_set (i := 6) sc_law_hidden.nd rfl (Or.inl rfl) (pe_lst pa_nil)) (pss_cons (ps_for PassesOwn.never rfl (pi_range1 (by rfl) T.n_range (pa_cons (pv 3) pa_nil)) (pg_name (i := 7) sc_law_hidden.nd rfl (Or.inl rfl)) (pss_cons (ps_set (i := 8) sc_law_hidden.nd rfl (Or.inl rfl) (pe_call (ok_law_next T) (hr.mono (by decide)) (by rfl) T.d38.mg T.d38.fn.kp T.d38.b .nil pass0 (pa_cons (pv 2) (pa_cons (pe_ix (ix_tupK (K := K) rfl) (pv 0) pe_int (fun _ _ => rfl)) pa_nil)))) (pss_one (ps_if (pt_cmpR (op_notInL (K := K) rfl Int (by decide) (Room.units65 hr)) (pv 8) (pv 6) (by rfl)) (pss_one (ps_expr (pe_bm PySem.F.plainAttrs_list PySem.F.slot_list_append PySem.F.type_list_append mt_append (pv 6) (pa_cons (pv 8) pa_nil)))) pss_nil)))) (pss_cons (ps_set (i := 9) sc_law_hidden.nd rfl (Or.inl rfl) (pe_lst pa_nil)) (pss_cons (ps_for PassesOwn.never rfl (pi_listK (K := K) rfl (pe_call (ok_law_partsL T) (hr.mono (by decide)) (by rfl) T.d41.mg T.d41.fn.kp T.d41.b .nil pass0 (pa_cons (pv 0) (pa_cons (pv 4) (pa_cons (pe_callB (cr_sortI (K := K) rfl) (by rfl) T.n_sorted (by decide +kernel) (pa_cons (pv 6) pa_nil)) pa_nil))))) (pg_name (i := 10) sc_law_hidden.nd rfl (Or.inl rfl)) (pss_cons (ps_set (i := 11) sc_law_hidden.nd rfl (Or.inr rfl) (pe_call (ok_law_moved T) (hr.mono (by decide)) (by rfl) T.d40.mg T.d40.fn.kp T.d40.b .nil pass0 (pa_cons (pv 0) (pa_cons (pv 10) pa_nil)))) (pss_one (ps_if (pt_cmpR (op_neDt (K := K) rfl (List (Tup Int)) (by decide) hr.units) (pe_lc (own := [("other", 12)]) (g := gName 12) (by rfl) sc_law_hidden.nd (pi_listK (K := K) rfl (pv 1)) (blkOk_by (own := [("other", 12)]) (N := ["web", "shelter", "state", "few", "standing", "turn", "looks", "k", "place", "ways", "part", "behind", "other"]) (sc := defScope s_law_hidden) (by decide +kernel)) (fun _ _ _ _ _ => (pg_name (i := 12) sc_law_hidden.nd rfl (Or.inl rfl))) (fun _ _ _ _ _ => (pts_one (pt_cmpR (op_eqDt (K := K) rfl (List Int) (by decide) hr.units) (pe_lc (own := [("place", 8)]) (g := gName 8) (by rfl) sc_law_hidden.nd (pi_tupK (K := K) rfl (pv 12)) (blkOk_by (own := [("place", 8)]) (N := ["web", "shelter", "state", "few", "standing", "turn", "looks", "k", "place", "ways", "part", "behind", "other"]) (sc := _) (by kernel_rfl)) (fun _ _ _ _ _ => (pg_name (i := 8) sc_law_hidden.nd rfl (Or.inl rfl))) (fun _ _ _ _ _ => (pts_one (pt_cmpR (op_notInT (K := K) rfl Int (by decide) (Room.units65 hr)) (pv 8) (pv 11) (by rfl)))) (fun _ _ _ _ _ => (pv 8))) (pe_lst pa_nil) (nomark _)))) (fun _ _ _ _ _ => (pv 12))) (pe_lst pa_nil) (nomark _)) (pss_one (ps_expr (pe_bm PySem.F.plainAttrs_list PySem.F.slot_list_append PySem.F.type_list_append mt_append (pv 9) (pa_cons (pv 11) pa_nil)))) pss_nil)))) (pss_cons (ps_if (pt_cmpR (op_eqDt (K := K) rfl (List (Tup Int)) (by decide) hr.units) (pv 9) (pe_lst pa_nil) (nomark _)) (pss_one (ps_ret pe_bl)) pss_nil) (pss_one (ps_set (i := 4) sc_law_hidden.nd rfl (Or.inl rfl) (pe_ix (ix_listK (K := K) rfl) (pv 9) (pe_call (ok_law_next T) (hr.mono (by decide)) (by rfl) T.d38.mg T.d38.fn.kp T.d38.b .nil pass0 (pa_cons (pv 2) (pa_cons (pe_callB (call_lenN (K := K) rfl) (by rfl) T.n_len (by decide +kernel) (pa_cons (pv 9) pa_nil)) pa_nil))) (fun _ _ => rfl)))))))))) (pss_one (ps_ret pe_bl)))), ?_⟩
    try dsimp only
    refine seqN fun N5 hN5 => ?_
    obtain ⟨l6, z6, e6, hm⟩ := pb_lrng hm
    have h6 : A2 (rep K F0) (rgV 0 x_web.1) l6 := by rw [e6, rgV_eq]; exact A2.of_ints
    refine ⟨_, rfl, _, _, _, _, rfl, rfl, SqT.of (w0.same _ _ q2), rfl, _, rfl, z6, fun p7 n7 => ?_⟩
    obtain ⟨F7, s7, w7, q7⟩ := w0.frzE (o := .tup (rgV 0 x_web.1)) n7
    replace h_state := A2.mono s7 h_state
    replace q2 := s7 _ _ q2
    replace q3 := s7 _ _ q3
    replace h3 := A2.mono s7 h3
    replace q4 := s7 _ _ q4
    replace h4 := A2.mono s7 h4
    replace h6 := A2.mono s7 h6
    replace sF := sF.trans s7
    refine stepN ?_
    try dsimp only
    refine hN5 _ _ ?_
    refine ⟨_, rfl, (by decide), (by decide), ?_⟩
    refine forX (tw_rng0 (j := (8 : Int))) hm (fun (g8 : (Tup Int) × (List Int)) σ H' => ∃ (F' : Hp) (v8_4 : V) (vs8_0 : List V) (o8_6 : Option V) (o8_7 : Option V) (o8_8 : Option V) (o8_9 : Option V) (o8_10 : Option V) (o8_11 : Option V) (o8_5 : Option V), σ = [some (.ref a2), some (.ref a4), some (.ref a_state), some (.int x_few), some v8_4, o8_5, o8_6, o8_7, o8_8, o8_9, o8_10, o8_11, none] ∧ Same F7 F' ∧ W F' H' ((a_state, .lst vs8_0) :: os) ∧ rep K F' v8_4 (g8.1 : (Tup Int)) ∧ A2 (rep K F') vs8_0 g8.2) ⟨_, _, _, _, _, _, _, _, _, _, rfl, Same.refl _, w7, (rep_tup q7 h6), h_state⟩ (fun _ _ _ _ => trivial) ?_ ?_
    · -- a turn
      intro b8 g8 x8 σ8 H8 H8' N8 B8 P8 hI hy hN8 hB8 hZ8 hm
      obtain ⟨F8, v8_4, vs8_0, o8_6, o8_7, o8_8, o8_9, o8_10, o8_11, o8_5, rfl, s8, w8, r8_4, h8_0⟩ := hI
      replace q2 := s8 _ _ q2
      obtain ⟨a9, vs9, rfl, q9, h9⟩ := r8_4
      obtain ⟨rfl, rfl⟩ := hy
      refine stepN ?_
      try dsimp only
      refine seqN fun N10 hN10 => ?_
      have h11 : A2 (rep K F8) [] ([] : (List Int)) := .nil
      refine ⟨(by show 0 ≤ sizeLine; decide), fun p12 n12 => ?_⟩
      have w12 : W F8 _ ((p12, .lst []) :: (a_state, .lst vs8_0) :: os) := w8.new n12
      refine stepN ?_
      try dsimp only
      refine hN10 _ _ ?_
      obtain ⟨c14, hm⟩ := pb_rng hm
      refine ⟨_, rfl, _, rfl, c14.2.2.1, c14.2.2.2, ?_⟩
      refine forS (tw_rng0 (j := x_few)) hm (fun (g13 : (List Int) × (List Int)) σ H' => ∃ (F' : Hp) (vs13_0 : List V) (vs13_1 : List V) (o13_8 : Option V) (o13_7 : Option V), σ = [some (.ref a2), some (.ref a4), some (.ref a_state), some (.int x_few), some (.ref a9), some (.int b8), some (.ref p12), o13_7, o13_8, o8_9, o8_10, o8_11, none] ∧ Same F8 F' ∧ W F' H' ((p12, .lst vs13_0) :: (a_state, .lst vs13_1) :: os) ∧ A2 (rep K F') vs13_0 g13.1 ∧ A2 (rep K F') vs13_1 g13.2) ⟨_, _, _, _, _, rfl, Same.refl _, w12, h11, h8_0⟩ (fun _ _ _ _ => trivial) ?_ ?_
      · -- a turn
        intro b13 g13 x13 σ13 H13 H13' N13 P13 hI hy hN13 hm
        obtain ⟨F13, vs13_0, vs13_1, o13_8, o13_7, rfl, s13, w13, h13_0, h13_1⟩ := hI
        replace q2 := s13 _ _ q2
        obtain ⟨rfl, rfl⟩ := hy
        refine stepN ?_
        try dsimp only
        refine seqN fun N15 hN15 => ?_
        have w16 : W F13 _ ((a_state, .lst vs13_1) :: (p12, .lst vs13_0) :: os) := w13.front (pre := [_])
        refine ⟨_, rfl, _, rfl, _, _, _, _, rfl, rfl, SqT.of (w13.same _ _ q2), rfl, _, _, _, _, _, _, rfl, w16, h13_1, ?_⟩
        refine (post_bind hm).mono (fun y17 hm v17 vs17 F17 H17 w17 s17 r17 h17 => ?_) (fun _ z => z)
        replace h13_0 := A2.mono s17 h13_0
        obtain rfl : v17 = V.int y17.1 := r17
        refine stepN ?_
        try dsimp only
        refine hN15 _ _ ?_
        try dsimp only
        refine ifOneN fun IA18 IB18 hIA18 hIB18 => ?_
        refine ⟨_, rfl, _, rfl, (y17.1 : Int), _, rep_i, (rep_own (pre := [_]) w17 h13_0), _, rfl, ?_⟩
        refine post_ite hm (fun k19 hm => ?_) (fun k19 hm => ?_)
        · skip
          refine hIA18 _ ?_
          obtain ⟨l20, z20, e20, hm⟩ := pn_app hm
          refine ⟨_, rfl, .inl ⟨rfl, _, SqL.of (w17.get (pre := [_]))⟩, _, rfl, _, _, _, rfl, rfl, (w17.get (pre := [_])), (A2.lt h13_0 z20), ?_⟩
          have h20 : A2 (rep K F17) (vs13_0 ++ [(V.int y17.1)]) l20 := e20 ▸ A2.snoc h13_0 rep_i
          have w21 : W F17 _ ((a_state, .lst vs17) :: (p12, .lst (vs13_0 ++ [(V.int y17.1)])) :: os) := w17.set (pre := [_])
          have w22 : W F17 _ ((p12, .lst (vs13_0 ++ [(V.int y17.1)])) :: (a_state, .lst vs17) :: os) := w21.front (pre := [_])
          exact hN13 _ (post_ok hm) _ _ ⟨_, _, _, _, _, rfl, (s13.trans s17), w22, h20, h17⟩
        · skip
          refine hIB18 _ ?_
          have w23 : W F17 _ ((p12, .lst vs13_0) :: (a_state, .lst vs17) :: os) := w17.front (pre := [_])
          exact hN13 _ (post_ok hm) _ _ ⟨_, _, _, _, _, rfl, (s13.trans s17), w23, h13_0, h17⟩
      intro g13 σ13 H13 hI hm
      obtain ⟨F13, vs13_0, vs13_1, o13_8, o13_7, rfl, s13, w13, h13_0, h13_1⟩ := hI
      try dsimp only
      refine seqN fun N24 hN24 => ?_
      have h25 : A2 (rep K F13) [] ([] : (List (Tup Int))) := .nil
      refine ⟨(by show 0 ≤ sizeLine; decide), fun p26 n26 => ?_⟩
      have w26 : W F13 _ ((p26, .lst []) :: (p12, .lst vs13_0) :: (a_state, .lst vs13_1) :: os) := w13.new n26
      refine stepN ?_
      try dsimp only
      refine hN24 _ _ ?_
      have h28 : A2 (rep K F13) ((sortI g13.1).map V.int) (sortI g13.1) := A2.of_ints
      refine ⟨_, rfl, _, rfl, _, rfl, _, _, rfl, ints_q (SqL.of (w26.get (pre := [_]))) h13_0, fun p29 n29 => ?_⟩
      have w29 : W F13 _ ((p29, .lst ((sortI g13.1).map V.int)) :: (p26, .lst []) :: (p12, .lst vs13_0) :: (a_state, .lst vs13_1) :: os) := w26.new n29
      obtain ⟨F30, s30, w30, q30⟩ : ∃ F', Same F13 F' ∧ W F' _ ((p26, .lst []) :: (p12, .lst vs13_0) :: (a_state, .lst vs13_1) :: os) ∧ F' p29 = some (.lst ((sortI g13.1).map V.int)) := w29.freezeE (pre := [])
      replace q2 := (s13.trans s30) _ _ q2
      replace h3 := A2.mono (s8.trans (s13.trans s30)) h3
      replace q3 := (s8.trans (s13.trans s30)) _ _ q3
      replace h9 := A2.mono (s13.trans s30) h9
      replace q9 := (s13.trans s30) _ _ q9
      replace h28 := A2.mono s30 h28
      refine ⟨_, _, _, (x_web : (Int × (Tup (Int × Int)))), _, (g8.1 : (Tup Int)), _, ((sortI g13.1) : (List Int)), rfl, w30, (rep_pair q2 rep_i (rep_tup q3 h3)), (rep_tup q9 h9), (rep_lst q30 h28), ?_⟩
      refine (post_bind hm).mono (fun y31 hm v31 F31 H31 w31 s31 r31 => ?_) (fun _ z => z)
      replace q2 := s31 _ _ q2
      replace h3 := A2.mono s31 h3
      replace q3 := s31 _ _ q3
      replace h4 := A2.mono (s8.trans (s13.trans (s30.trans s31))) h4
      replace q4 := (s8.trans (s13.trans (s30.trans s31))) _ _ q4
      replace h25 := A2.mono (s30.trans s31) h25
      obtain ⟨a32, vs32, rfl, q32, h32⟩ := r31
      refine ⟨_, rfl, ⟨_, SqL.of (w31.same _ _ q32)⟩, ?_⟩
      refine forS (tw_list (a := a32) h32) hm (fun (g27 : (List (Tup Int))) σ H' => ∃ (F' : Hp) (vs27_0 : List V) (o27_11 : Option V) (o27_10 : Option V), σ = [some (.ref a2), some (.ref a4), some (.ref a_state), some (.int x_few), some (.ref a9), some (.int b8), some (.ref p12), o13_7, o13_8, some (.ref p26), o27_10, o27_11, none] ∧ Same F31 F' ∧ W F' H' ((p26, .lst vs27_0) :: (p12, .lst vs13_0) :: (a_state, .lst vs13_1) :: os) ∧ A2 (rep K F') vs27_0 g27) ⟨_, _, _, _, rfl, Same.refl _, w31, h25⟩ (fun g σ H' hI => by obtain ⟨F', _, _, _, _, s, w, _⟩ := hI; exact SqL.of (w.same _ _ (s _ _ q32))) ?_ ?_
      · -- a turn
        intro b27 g27 x27 σ27 H27 H27' N27 P27 hI hy hN27 hm
        obtain ⟨F27, vs27_0, o27_11, o27_10, rfl, s27, w27, h27_0⟩ := hI
        replace q2 := s27 _ _ q2
        replace h3 := A2.mono s27 h3
        replace q3 := s27 _ _ q3
        obtain ⟨rfl, r33⟩ := hy
        replace r33 := Rep.mono s27 r33
        obtain ⟨a34, vs34, rfl, q34, h34⟩ := r33
        refine stepN ?_
        try dsimp only
        refine seqN fun N35 hN35 => ?_
        refine ⟨_, rfl, _, rfl, _, _, _, (x_web : (Int × (Tup (Int × Int)))), _, (b27 : (Tup Int)), rfl, w27, (rep_pair q2 rep_i (rep_tup q3 h3)), (rep_tup q34 h34), ?_⟩
        refine (post_bind hm).mono (fun y36 hm v36 F36 H36 w36 s36 r36 => ?_) (fun _ z => z)
        replace h4 := A2.mono (s27.trans s36) h4
        replace q4 := (s27.trans s36) _ _ q4
        obtain ⟨a37, vs37, rfl, q37, h37⟩ := r36
        refine stepN ?_
        try dsimp only
        refine hN35 _ _ ?_
        try dsimp only
        refine ifOneN fun IA38 IB38 hIA38 hIB38 => ?_
        refine ⟨_, rfl, _, rfl, ⟨_, SqL.of (w36.same _ _ q4)⟩, fun D39 nD39 => ?_⟩
        refine lcF (K := K) (tw_list (a := a4) h4) hm w36 nD39 (fun F' H' acc s w => SqL.of (w.same _ _ (s _ _ q4))) ?_ ?_
        · -- one turn
          intro b39 x39 F39 H39 H39' acc39 N39 M39 P39 s39 w39 y39 hN39 hM39 hm
          replace h37 := A2.mono s39 h37
          replace q37 := s39 _ _ q37
          obtain ⟨rfl, r41⟩ := y39
          replace r41 := Rep.mono s39 r41
          obtain ⟨a42, vs42, rfl, q42, h42⟩ := r41
          refine ⟨rfl, _, rfl, _, rfl, ⟨_, SqT.of (w39.same _ _ q42)⟩, fun D43 nD43 => ?_⟩
          refine lcF (K := K) (tw_tup (a := a42) h42) hm w39 nD43 (fun F' H' acc s w => SqT.of (w.same _ _ (s _ _ q42))) ?_ ?_
          · -- one turn
            intro b43 x43 F43 H43 H43' acc43 N43 M43 P43 s43 w43 y43 hN43 hM43 hm
            replace h37 := A2.mono s43 h37
            replace q37 := s43 _ _ q37
            obtain ⟨rfl, r45⟩ := y43
            obtain rfl : x43 = V.int b43 := r45
            refine ⟨rfl, _, rfl, _, rfl, (b43 : Int), _, rep_i, (Rep.mono w43.same (rep_tup q37 h37)), _, rfl, ?_⟩
            refine post_ite hm (fun k46 hm => ?_) (fun k46 hm => ?_)
            · skip
              exact ⟨_, rfl, hN43 _ (post_ok hm) _ _ _ w43 (Same.refl _) rep_i⟩
            · skip
              exact hM43 (post_ok hm) _ _ w43 (Same.refl _)
          intro us43 F43 H43 ys43 s43 w43 gg43 hm
          replace q42 := s43 _ _ q42
          replace h42 := A2.mono s43 h42
          have h48 : A2 (rep K F43) [] ([] : (List Int)) := .nil
          refine ⟨(by show 0 ≤ sizeLine; decide), fun p49 n49 => ?_⟩
          have w49 : W F43 _ ((p49, .lst []) :: (D43, .lst us43) :: (D39, .lst acc39) :: (p26, .lst vs27_0) :: (p12, .lst vs13_0) :: (a_state, .lst vs13_1) :: os) := w43.new n49
          refine ⟨(ys43 : (List Int)), (([] : (List Int)) : (List Int)), (rep_own (pre := [_]) w49 gg43), (rep_own (pre := []) w49 h48), _, rfl, ?_⟩
          refine post_ite hm (fun k50 hm => ?_) (fun k50 hm => ?_)
          · skip
            have w51 : W F43 _ ((D43, .lst us43) :: (D39, .lst acc39) :: (p26, .lst vs27_0) :: (p12, .lst vs13_0) :: (a_state, .lst vs13_1) :: os) := w49.drop (pre := [])
            have w52 : W F43 _ ((D39, .lst acc39) :: (p26, .lst vs27_0) :: (p12, .lst vs13_0) :: (a_state, .lst vs13_1) :: os) := w51.drop (pre := [])
            exact ⟨_, rfl, hN39 _ (post_ok hm) _ _ _ w52 s43 (rep_tup q42 h42)⟩
          · skip
            have w53 : W F43 _ ((D43, .lst us43) :: (D39, .lst acc39) :: (p26, .lst vs27_0) :: (p12, .lst vs13_0) :: (a_state, .lst vs13_1) :: os) := w49.drop (pre := [])
            have w54 : W F43 _ ((D39, .lst acc39) :: (p26, .lst vs27_0) :: (p12, .lst vs13_0) :: (a_state, .lst vs13_1) :: os) := w53.drop (pre := [])
            exact hM39 (post_ok hm) _ _ w54 s43
        intro us39 F39 H39 ys39 s39 w39 gg39 hm
        replace h37 := A2.mono s39 h37
        replace q37 := s39 _ _ q37
        replace h27_0 := A2.mono (s36.trans s39) h27_0
        have h56 : A2 (rep K F39) [] ([] : (List (Tup Int))) := .nil
        refine ⟨(by show 0 ≤ sizeLine; decide), fun p57 n57 => ?_⟩
        have w57 : W F39 _ ((p57, .lst []) :: (D39, .lst us39) :: (p26, .lst vs27_0) :: (p12, .lst vs13_0) :: (a_state, .lst vs13_1) :: os) := w39.new n57
        refine ⟨(ys39 : (List (Tup Int))), (([] : (List (Tup Int))) : (List (Tup Int))), (rep_own (pre := [_]) w57 gg39), (rep_own (pre := []) w57 h56), _, rfl, ?_⟩
        have w58 : W F39 _ ((D39, .lst us39) :: (p26, .lst vs27_0) :: (p12, .lst vs13_0) :: (a_state, .lst vs13_1) :: os) := w57.drop (pre := [])
        have w59 : W F39 _ ((p26, .lst vs27_0) :: (p12, .lst vs13_0) :: (a_state, .lst vs13_1) :: os) := w58.drop (pre := [])
        refine post_ite hm (fun k60 hm => ?_) (fun k60 hm => ?_)
        · skip
          refine hIA38 _ ?_
          obtain ⟨l61, z61, e61, hm⟩ := pn_app hm
          refine ⟨_, rfl, .inl ⟨rfl, _, SqL.of (w59.get (pre := []))⟩, _, rfl, _, _, _, rfl, rfl, (w59.get (pre := [])), (A2.lt h27_0 z61), ?_⟩
          have h61 : A2 (rep K F39) (vs27_0 ++ [(V.ref a37)]) l61 := e61 ▸ A2.snoc h27_0 (rep_tup q37 h37)
          have w62 : W F39 _ ((p26, .lst (vs27_0 ++ [(V.ref a37)])) :: (p12, .lst vs13_0) :: (a_state, .lst vs13_1) :: os) := w59.set (pre := [])
          exact hN27 _ (post_ok hm) _ _ ⟨_, _, _, _, rfl, (s27.trans (s36.trans s39)), w62, h61⟩
        · skip
          refine hIB38 _ ?_
          exact hN27 _ (post_ok hm) _ _ ⟨_, _, _, _, rfl, (s27.trans (s36.trans s39)), w59, h27_0⟩
      intro g27 σ27 H27 hI hm
      obtain ⟨F27, vs27_0, o27_11, o27_10, rfl, s27, w27, h27_0⟩ := hI
      replace h13_1 := A2.mono (s30.trans (s31.trans s27)) h13_1
      replace sF := sF.trans (s8.trans (s13.trans (s30.trans (s31.trans s27))))
      try dsimp only
      refine ifSeqN fun IA63 IB63 hIA63 hIB63 => ?_
      have h64 : A2 (rep K F27) [] ([] : (List (Tup Int))) := .nil
      refine ⟨_, rfl, (by show 0 ≤ sizeLine; decide), fun p65 n65 => ?_⟩
      have w65 : W F27 _ ((p65, .lst []) :: (p26, .lst vs27_0) :: (p12, .lst vs13_0) :: (a_state, .lst vs13_1) :: os) := w27.new n65
      refine ⟨(g27 : (List (Tup Int))), (([] : (List (Tup Int))) : (List (Tup Int))), (rep_own (pre := [_]) w65 h27_0), (rep_own (pre := []) w65 h64), _, rfl, ?_⟩
      have w66 : W F27 _ ((p26, .lst vs27_0) :: (p12, .lst vs13_0) :: (a_state, .lst vs13_1) :: os) := w65.drop (pre := [])
      refine post_ite hm (fun k67 hm => ?_) (fun k67 hm => ?_)
      · skip
        refine hIA63 _ ?_
        have hm := hZ8 _ (post_ok hm)
        have w68 : W F27 _ ((p12, .lst vs13_0) :: (a_state, .lst vs13_1) :: os) := w66.drop (pre := [])
        have w69 : W F27 _ ((a_state, .lst vs13_1) :: os) := w68.drop (pre := [])
        exact (post_ok hm) _ _ _ _ w69 sF rep_b h13_1
      · skip
        refine hIB63 _ ?_
        have w70 : W F27 _ ((a_state, .lst vs13_1) :: (p26, .lst vs27_0) :: (p12, .lst vs13_0) :: os) := w66.front (pre := [_, _])
        refine ⟨_, rfl, _, rfl, _, rfl, _, _, _, rfl, .inl (SqL.of (w66.get (pre := []))), h27_0.length, _, _, _, _, _, _, rfl, w70, h13_1, ?_⟩
        refine (post_bind hm).mono (fun y71 hm v71 vs71 F71 H71 w71 s71 r71 h71 => ?_) (fun _ z => z)
        replace h27_0 := A2.mono s71 h27_0
        obtain rfl : v71 = V.int y71.1 := r71
        obtain ⟨t72, e72, hm⟩ := pb_get hm
        obtain ⟨u72, f72, r72⟩ := A2.at h27_0 e72
        obtain ⟨a73, vs73, rfl, q73, h73⟩ := r72
        have w74 : W F71 _ ((a_state, .lst vs71) :: (p12, .lst vs13_0) :: os) := w71.drop (pre := [_])
        have w75 : W F71 _ ((a_state, .lst vs71) :: os) := w74.drop (pre := [_])
        exact ⟨_, _, _, _, rfl, rfl, SqL.of (w71.get (pre := [_])), f72, hN8 _ (post_ok hm) _ _ ⟨_, _, _, _, _, _, _, _, _, _, rfl, (s8.trans (s13.trans (s30.trans (s31.trans (s27.trans s71))))), w75, (rep_tup q73 h73), h71⟩⟩
    intro g8 σ8 H8 hI hm
    obtain ⟨F8, v8_4, vs8_0, o8_6, o8_7, o8_8, o8_9, o8_10, o8_11, o8_5, rfl, s8, w8, r8_4, h8_0⟩ := hI
    replace sF := sF.trans s8
    obtain ⟨a76, vs76, rfl, q76, h76⟩ := r8_4
    exact (post_ok hm) _ _ _ _ w8 sF rep_b h8_0
def sp_law (K : Fg) : Sp := fun vs H Q E => ∃ (F : Hp) (os : List (Addr × HO)) (v_script : V) (x_script : Scr), vs = [v_script] ∧ W F H (os) ∧ rep K F v_script x_script ∧ Post (law x_script) (Ret K F os Q) noX
theorem sc_law : FnScope ["script", "cell", "state", "web", "few", "word", "told", "whole", "row"] ["script"] (defScope s_law) := ⟨rfl, rfl, rfl, by decide +kernel, rfl, by decide +kernel, by decide +kernel⟩
theorem ok_law (T : Tx K mg A FD) : FnOk P w K mg base CX0 7 (A 46) (FD 46) ["script"] (sp_law K) := by
  refine T.d46.fn.ok sc_law (fun vs H Q E h => ?_) (fun cdv Ar outer s H vs Q E hr h => ?_)
  · obtain ⟨F, os, v_script, x_script, rfl, _⟩ := h
    rfl
  · obtain ⟨F0, os, v_script, x_script, rfl, w0, r_script, hm⟩ := h
    have sF : Same F0 F0 := Same.refl _
    obtain ⟨a1, rfl, q1⟩ := r_script
    have h1 : A2 (rep K F0) (x_script.l.map V.int) x_script.l := A2.of_ints
    refine ⟨_, (pss_cons (ps_for PassesOwn.never rfl (pi_listK (K := K) rfl (pe_call (ok_law_folded T) (hr.mono (by decide)) (by rfl) T.d36.mg T.d36.fn.kp T.d36.b .nil pass0 (pa_cons (pv 0) (pa_cons pe_int pa_nil)))) (pg_name (i := 1) sc_law.nd rfl (Or.inl rfl)) (pss_cons (ps_set (i := 2) sc_law.nd rfl (Or.inl rfl) (pe_call (ok_law_state T) (hr.mono (by decide)) (by rfl) T.d37.mg T.d37.fn.kp T.d37.b .nil pass0 (pa_cons (pv 1) pa_nil))) (pss_cons (ps_set (i := 3) sc_law.nd rfl (Or.inr rfl) (pe_call (ok_law_web T) (hr.mono (by decide)) (by rfl) T.d39.mg T.d39.fn.kp T.d39.b .nil pass0 (pa_cons (pv 2) (pa_cons pe_int (pa_cons pe_int pa_nil))))) (pss_cons (ps_set (i := 4) sc_law.nd rfl (Or.inl rfl) (pe_op op_add pe_int (pe_call (ok_law_next T) (hr.mono (by decide)) (by rfl) T.d38.mg T.d38.fn.kp T.d38.b .nil pass0 (pa_cons (pv 2) (pa_cons pe_int pa_nil))))) (pss_cons (ps_asg (pe_call (ok_hunt_or_shelter T) (hr.mono (by decide)) (by rfl) T.d27.mg T.d27.fn.kp T.d27.b .nil pass0 (pa_cons (pv 3) (pa_cons (pv 4) pa_nil))) (pg_k (K := K) (t := fun K => gTup K 2 _) rfl (pg_tup (n := 2) rfl (pgs_cons (pg_name (i := 5) sc_law.nd rfl (Or.inl rfl)) (pgs_cons (pg_name (i := 6) sc_law.nd rfl (Or.inl rfl)) pgs_nil))))) (pss_one (ps_if (pt_cmpR op_eqS (pv 5) pe_str (nomark _)) (pss_cons (ps_setLc (i := 7) (own := [("row", 8)]) (g := gName 8) (by rfl) sc_law.nd rfl rfl (sw_true rfl rfl rfl (by decide +kernel)) (pi_listK (K := K) rfl (pv 6)) (blkOk_by (own := [("row", 8)]) (N := ["script", "cell", "state", "web", "few", "word", "told", "whole", "row"]) (sc := defScope s_law) (by decide +kernel)) (fun _ _ _ _ _ => (pg_name (i := 8) sc_law.nd rfl (Or.inl rfl))) (fun _ _ _ _ _ => (pts_one (pt_cmp (pc_eqI (pe_callB (call_lenN (K := K) rfl) (by rfl) T.n_len (by decide +kernel) (pa_cons (pe_ix (ix_tupK (K := K) rfl) (pv 8) pe_int (fun _ _ => rfl)) pa_nil)) (pe_ix (ix_tupK (K := K) rfl) (pv 3) pe_int (fun _ _ => rfl)))))) (fun _ _ _ _ _ => (pe_ix (ix_tupK (K := K) rfl) (pv 8) pe_int (fun _ _ => rfl)))) (pss_one (ps_if (pt_cmp (pc_neI (pe_call (ok_law_hunted T) (hr.mono (by decide)) (by rfl) T.d44.mg T.d44.fn.kp T.d44.b .nil pass0 (pa_cons (pv 3) (pa_cons (pv 6) pa_nil))) (pe_callB (cr_minI (K := K) rfl rfl) (by rfl) T.n_min (by decide +kernel) (pa_cons (pv 7) pa_nil)))) (pss_one (ps_ret pe_bl)) pss_nil))) (pss_one (ps_if (pt_not (pt_val (pe_call (ok_law_hidden T) (hr.mono (by decide)) (by rfl) T.d45.mg T.d45.fn.kp T.d45.b .nil pass0 (pa_cons (pv 3) (pa_cons (pv 6) (pa_cons (pv 2) (pa_cons (pv 4) pa_nil))))))) (pss_one (ps_ret pe_bl)) pss_nil))))))))) (pss_one (ps_ret pe_bl))), ?_⟩
    refine ⟨_, rfl, _, _, _, (x_script : Scr), _, rfl, w0, ⟨_, rfl, q1⟩, ?_⟩
    refine (post_bind hm).mono (fun y3 hm p3 us3 F3 H3 w3 s3 g3 => ?_) (fun _ z => z)
    obtain ⟨F5, s5, w5, q5⟩ : ∃ F', Same F3 F' ∧ W F' _ (os) ∧ F' p3 = some (.lst us3) := w3.freezeE (pre := [])
    replace g3 := A2.mono s5 g3
    replace sF := sF.trans (s3.trans s5)
    refine ⟨_, rfl, ⟨_, SqL.of (w5.same _ _ q5)⟩, ?_⟩
    refine forX (tw_list (a := p3) g3) hm (fun (g2 : Unit) σ H' => ∃ (F' : Hp) (o2_2 : Option V) (o2_3 : Option V) (o2_4 : Option V) (o2_5 : Option V) (o2_6 : Option V) (o2_7 : Option V) (o2_1 : Option V), σ = [some (.ref a1), o2_1, o2_2, o2_3, o2_4, o2_5, o2_6, o2_7, none] ∧ Same F5 F' ∧ W F' H' (os)) ⟨_, _, _, _, _, _, _, _, rfl, Same.refl _, w5⟩ (fun g σ H' hI => by obtain ⟨F', _, _, _, _, _, _, _, _, s, w⟩ := hI; exact SqL.of (w.same _ _ (s _ _ q5))) ?_ ?_
    · -- a turn
      intro b2 g2 x2 σ2 H2 H2' N2 B2 P2 hI hy hN2 hB2 hZ2 hm
      obtain ⟨F2, o2_2, o2_3, o2_4, o2_5, o2_6, o2_7, o2_1, rfl, s2, w2⟩ := hI
      obtain ⟨rfl, r6⟩ := hy
      obtain rfl : x2 = V.int b2 := r6
      refine stepN ?_
      try dsimp only
      refine seqN fun N7 hN7 => ?_
      refine ⟨_, rfl, _, _, _, rfl, w2, ?_⟩
      refine (post_bind hm).mono (fun y8 hm p8 us8 F8 H8 w8 s8 g8 => ?_) (fun _ z => z)
      refine stepN ?_
      try dsimp only
      refine hN7 _ _ ?_
      try dsimp only
      refine seqN fun N10 hN10 => ?_
      refine ⟨_, rfl, _, _, _, _, _, _, _, rfl, w8, g8, ?_⟩
      refine (post_bind hm).mono (fun y11 hm v11 vs11 F11 H11 w11 s11 r11 h11 => ?_) (fun _ z => z)
      obtain ⟨a12, u12, z12, rfl, q12, r12a, r12b⟩ := r11
      obtain rfl : u12 = V.int y11.1.1 := r12a
      obtain ⟨a13, vs13, rfl, q13, h13⟩ := r12b
      refine stepN ?_
      try dsimp only
      refine hN10 _ _ ?_
      try dsimp only
      refine seqN fun N14 hN14 => ?_
      refine ⟨_, rfl, _, _, _, _, _, _, rfl, w11, h11, ?_⟩
      refine (post_bind hm).mono (fun y15 hm v15 vs15 F15 H15 w15 s15 r15 h15 => ?_) (fun _ z => z)
      replace q12 := s15 _ _ q12
      replace h13 := A2.mono s15 h13
      replace q13 := s15 _ _ q13
      obtain rfl : v15 = V.int y15.1 := r15
      refine ⟨_, _, rfl, rfl, ?_⟩
      refine stepN ?_
      try dsimp only
      refine hN14 _ _ ?_
      try dsimp only
      refine seqN fun N16 hN16 => ?_
      refine ⟨_, rfl, _, rfl, _, _, _, (y11.1 : (Int × (Tup (Int × Int)))), _, rfl, w15, (rep_pair q12 rep_i (rep_tup q13 h13)), ?_⟩
      refine (post_bind hm).mono (fun y17 hm v17 F17 H17 w17 s17 r17 => ?_) (fun _ z => z)
      replace q12 := s17 _ _ q12
      replace h13 := A2.mono s17 h13
      replace q13 := s17 _ _ q13
      replace h15 := A2.mono s17 h15
      replace sF := sF.trans (s2.trans (s8.trans (s11.trans (s15.trans s17))))
      have r18 : rep K F17 v17 (y17 : Hs) := r17
      obtain ⟨a18, u18, rfl, q18, b18⟩ := id r18
      refine ⟨_, _, rfl, SqT.of (w17.same _ _ q18), rfl, _, _, rfl, _, _, rfl, rfl, ?_⟩
      try dsimp only
      refine hN16 _ _ ?_
      try dsimp only
      refine ifOneN fun IA19 IB19 hIA19 hIB19 => ?_
      refine ⟨_, rfl, _, _, rfl, rfl, _, rfl, ?_⟩
      refine post_ite hm (fun k20 hm => ?_) (fun k20 hm => ?_)
      · skip
        refine hIA19 _ ?_
        obtain ⟨t21, e21, hm⟩ := pb_asHunt hm
        have r21 : rep K F17 u18 (Hb.mk (Hs.hunt t21)) := (show y17 = Hs.hunt t21 from e21) ▸ b18
        replace r21 : rep K F17 u18 (t21 : (List (Nt ((Tup Int) × (Tup Int) × Int × Unit)))) := r21
        obtain ⟨a22, vs22, rfl, q22, h22⟩ := r21
        try dsimp only
        refine seqN fun N23 hN23 => ?_
        refine ⟨_, rfl, _, rfl, ⟨_, SqL.of (w17.same _ _ q22)⟩, fun D24 nD24 => ?_⟩
        refine lcF (K := K) (tw_list (a := a22) h22) hm w17 nD24 (fun F' H' acc s w => SqL.of (w.same _ _ (s _ _ q22))) ?_ ?_
        · -- one turn
          intro b24 x24 F24 H24 H24' acc24 N24 M24 P24 s24 w24 y24 hN24 hM24 hm
          replace q12 := s24 _ _ q12
          obtain ⟨rfl, r26⟩ := y24
          replace r26 := Rep.mono s24 r26
          obtain ⟨a27, u27_0, u27_1, u27_2, rfl, q27, r27_0, r27_1, r27_2⟩ := nt3 r26
          replace r27_0 : rep K F24 u27_0 (b24.v.1 : (Tup Int)) := r27_0
          obtain ⟨a28, vs28, rfl, q28, h28⟩ := r27_0
          replace r27_1 : rep K F24 u27_1 (b24.v.2.1 : (Tup Int)) := r27_1
          obtain ⟨a29, vs29, rfl, q29, h29⟩ := r27_1
          replace r27_2 : rep K F24 u27_2 (b24.v.2.2.1 : Int) := r27_2
          obtain rfl : u27_2 = V.int b24.v.2.2.1 := r27_2
          refine ⟨rfl, _, rfl, _, _, _, _, rfl, rfl, SqT.of (w24.same _ _ q27), rfl, _, _, _, rfl, .inr (SqT.of (w24.same _ _ q28)), h28.length, _, rfl, _, _, _, _, rfl, rfl, SqT.of (w24.same _ _ q12), rfl, _, _, rfl, rfl, _, rfl, ?_⟩
          refine post_ite hm (fun k30 hm => ?_) (fun k30 hm => ?_)
          · skip
            exact ⟨_, rfl, _, _, _, _, rfl, rfl, SqT.of (w24.same _ _ q27), rfl, hN24 _ (post_ok hm) _ _ _ w24 (Same.refl _) rep_i⟩
          · skip
            exact hM24 (post_ok hm) _ _ w24 (Same.refl _)
        intro us24 F24 H24 ys24 s24 w24 gg24 hm
        obtain ⟨F32, s32, w32, q32⟩ : ∃ F', Same F24 F' ∧ W F' _ ((p8, .lst vs15) :: os) ∧ F' D24 = some (.lst us24) := w24.freezeE (pre := [])
        replace q12 := (s24.trans s32) _ _ q12
        replace h13 := A2.mono (s24.trans s32) h13
        replace q13 := (s24.trans s32) _ _ q13
        replace q22 := (s24.trans s32) _ _ q22
        replace h22 := A2.mono (s24.trans s32) h22
        refine stepN ?_
        try dsimp only
        refine hN23 _ _ ?_
        try dsimp only
        refine ifOneN fun IA33 IB33 hIA33 hIB33 => ?_
        refine ⟨_, rfl, _, rfl, _, _, _, (y11.1 : (Int × (Tup (Int × Int)))), _, (t21 : (List (Nt ((Tup Int) × (Tup Int) × Int × Unit)))), rfl, w32, (rep_pair q12 rep_i (rep_tup q13 h13)), (rep_lst q22 h22), ?_⟩
        refine (post_bind hm).mono (fun y34 hm v34 F34 H34 w34 s34 r34 => ?_) (fun _ z => z)
        replace gg24 := A2.mono (s32.trans s34) gg24
        replace q32 := s34 _ _ q32
        replace sF := sF.trans (s24.trans (s32.trans s34))
        obtain rfl : v34 = V.int y34 := r34
        obtain ⟨t35, e35, hm⟩ := pb_min hm
        refine ⟨_, rfl, _, _, _, rfl, ints_q (SqL.of (w34.same _ _ q32)) gg24, e35, _, _, rfl, rfl, _, rfl, ?_⟩
        refine post_ite hm (fun k36 hm => ?_) (fun k36 hm => ?_)
        · skip
          refine hIA33 _ ?_
          have hm := hZ2 _ (post_ok hm)
          have w37 : W F34 _ (os) := w34.drop (pre := [])
          exact (post_ok hm) _ _ _ w37 sF rep_b
        · skip
          refine hIB33 _ ?_
          have w38 : W F34 _ (os) := w34.drop (pre := [])
          exact hN2 _ (post_ok hm) _ _ ⟨_, _, _, _, _, _, _, _, rfl, (s2.trans (s8.trans (s11.trans (s15.trans (s17.trans (s24.trans (s32.trans s34))))))), w38⟩
      · skip
        refine hIB19 _ ?_
        obtain ⟨t39, e39, hm⟩ := pb_asShelter hm
        have r39 : rep K F17 u18 (Hb.mk (Hs.shelter t39)) := (show y17 = Hs.shelter t39 from e39) ▸ b18
        replace r39 : rep K F17 u18 (t39 : (List (Tup Int))) := r39
        obtain ⟨a40, vs40, rfl, q40, h40⟩ := r39
        try dsimp only
        refine ifOneN fun IA41 IB41 hIA41 hIB41 => ?_
        refine ⟨_, rfl, _, rfl, _, rfl, _, rfl, _, _, _, (y11.1 : (Int × (Tup (Int × Int)))), _, (t39 : (List (Tup Int))), _, _, _, _, rfl, w17, (rep_pair q12 rep_i (rep_tup q13 h13)), (rep_lst q40 h40), h15, ?_⟩
        refine (post_bind hm).mono (fun y42 hm v42 vs42 F42 H42 w42 s42 r42 h42 => ?_) (fun _ z => z)
        replace sF := sF.trans s42
        obtain rfl : v42 = V.bl y42.1 := r42
        refine ⟨_, rfl, ?_⟩
        refine post_ite hm (fun k43 hm => ?_) (fun k43 hm => ?_)
        · skip
          refine hIA41 _ ?_
          have hm := hZ2 _ (post_ok hm)
          have w44 : W F42 _ (os) := w42.drop (pre := [])
          exact (post_ok hm) _ _ _ w44 sF rep_b
        · skip
          refine hIB41 _ ?_
          have w45 : W F42 _ (os) := w42.drop (pre := [])
          exact hN2 _ (post_ok hm) _ _ ⟨_, _, _, _, _, _, _, _, rfl, (s2.trans (s8.trans (s11.trans (s15.trans (s17.trans s42))))), w45⟩
    intro g2 σ2 H2 hI hm
    obtain ⟨F2, o2_2, o2_3, o2_4, o2_5, o2_6, o2_7, o2_1, rfl, s2, w2⟩ := hI
    replace sF := sF.trans s2
    exact (post_ok hm) _ _ _ w2 sF rep_b
end
end G
/-! MA2: webs drawn from a pool -/
namespace G
open PySem L2 Z
structure TiesOk (b : Nat) (n : Int) (ts : List (Int × Int)) : Prop where
  rg : ∀ p ∈ ts, 0 ≤ p.1 ∧ p.1 < p.2 ∧ p.2 < n
  nd : ts.Nodup
  conn : Conn n ts
  len : ts.length ≤ b
theorem TiesOk.up {b c : Nat} {n : Int} {ts : List (Int × Int)} (h : TiesOk b n ts) (hl : b ≤ c) : TiesOk c n ts := ⟨h.rg, h.nd, h.conn, Nat.le_trans h.len hl⟩
structure WebOk (n : Int) (ts : List (Int × Int)) : Prop where
  n1 : 1 ≤ n
  n60 : n ≤ 60
  rg : ∀ p ∈ ts, 0 ≤ p.1 ∧ p.1 < p.2 ∧ p.2 < n
  nd : ts.Nodup
  conn : Conn n ts
  len : ts.length ≤ 700
  srt : sortP ts = ts
theorem WebOk.rg4 {n : Int} {ts : List (Int × Int)} (h : WebOk n ts) : ∀ q ∈ ts, 0 ≤ q.1 ∧ q.1 < n ∧ 0 ≤ q.2 ∧ q.2 < n := fun q hq => by
  have := h.rg q hq
  omega
def moved (o : List Int) (p : Int × Int) : Int × Int := (min2 (o.getD p.1.toNat 0) (o.getD p.2.toNat 0), max2 (o.getD p.1.toNat 0) (o.getD p.2.toNat 0))
theorem perm_get {o : List Int} {n : Int} (h : o.Perm (rng 0 n)) (n0 : 0 ≤ n) {k : Int} (k0 : 0 ≤ k) (k1 : k < n) : ∃ x, o[k.toNat]? = some x ∧ 0 ≤ x ∧ x < n := by
  have hl := h.length_eq
  rw [rng_length] at hl
  have hk : k.toNat < o.length := by omega
  refine ⟨o[k.toNat], List.getElem?_eq_getElem hk, ?_⟩
  exact rng_mem.mp (h.mem_iff.mp (List.getElem_mem hk))
theorem perm_getD {o : List Int} {n : Int} (h : o.Perm (rng 0 n)) (n0 : 0 ≤ n) {k : Int} (k0 : 0 ≤ k) (k1 : k < n) : 0 ≤ o.getD k.toNat 0 ∧ o.getD k.toNat 0 < n := by
  obtain ⟨x, e, x0, x1⟩ := perm_get h n0 k0 k1
  rw [List.getD_eq_getElem?_getD, e]
  exact ⟨x0, x1⟩
theorem perm_inj {o : List Int} {n : Int} (h : o.Perm (rng 0 n)) (n0 : 0 ≤ n) {j k : Int} (j0 : 0 ≤ j) (j1 : j < n) (k0 : 0 ≤ k) (k1 : k < n) (e : o.getD j.toNat 0 = o.getD k.toNat 0) : j = k := by
  have hl := h.length_eq
  rw [rng_length] at hl
  have hnd : o.Nodup := (h.nodup_iff).mpr (rng_nodup 0 n)
  have hj : j.toNat < o.length := by omega
  have hk : k.toNat < o.length := by omega
  rw [List.getD_eq_getElem?_getD, List.getD_eq_getElem?_getD, List.getElem?_eq_getElem hj, List.getElem?_eq_getElem hk] at e
  have e' : o[j.toNat] = o[k.toNat] := e
  have hpw := List.pairwise_iff_getElem.mp hnd
  rcases Nat.lt_trichotomy j.toNat k.toNat with q | q | q
  · exact absurd e' (hpw _ _ hj hk q)
  · omega
  · exact absurd e'.symm (hpw _ _ hk hj q)
theorem perm_surj {o : List Int} {n : Int} (h : o.Perm (rng 0 n)) (n0 : 0 ≤ n) {x : Int} (x0 : 0 ≤ x) (x1 : x < n) : ∃ k, 0 ≤ k ∧ k < n ∧ o.getD k.toNat 0 = x := by
  have hx : x ∈ o := h.mem_iff.mpr (rng_mem.mpr ⟨x0, x1⟩)
  obtain ⟨i, hi⟩ := List.mem_iff_getElem?.mp hx
  have hl := h.length_eq
  rw [rng_length] at hl
  have hil := (List.getElem?_eq_some_iff.mp hi).1
  refine ⟨i, by omega, by omega, ?_⟩
  rw [List.getD_eq_getElem?_getD, Int.toNat_natCast, hi]
  rfl
theorem mm_cases (a b : Int) : (min2 a b = a ∧ max2 a b = b ∧ a ≤ b) ∨ (min2 a b = b ∧ max2 a b = a ∧ b ≤ a) := by
  unfold min2 max2
  by_cases h : b < a
  · rw [if_pos h, if_neg (by omega)]
    exact .inr ⟨rfl, rfl, by omega⟩
  · rw [if_neg h]
    by_cases h2 : b > a
    · rw [if_pos h2]
      exact .inl ⟨rfl, rfl, by omega⟩
    · rw [if_neg h2]
      have : a = b := by omega
      subst this
      exact .inl ⟨rfl, rfl, by omega⟩
theorem moved_inj {o : List Int} {n : Int} (h : o.Perm (rng 0 n)) (n0 : 0 ≤ n) {p q : Int × Int} (hp : 0 ≤ p.1 ∧ p.1 < p.2 ∧ p.2 < n) (hq : 0 ≤ q.1 ∧ q.1 < q.2 ∧ q.2 < n) (e : moved o p = moved o q) : p = q := by
  unfold moved at e
  injection e with e1 e2
  have i1 := fun e => perm_inj h n0 (j := p.1) (k := q.1) hp.1 (by omega) hq.1 (by omega) e
  have i2 := fun e => perm_inj h n0 (j := p.2) (k := q.2) (by omega) hp.2.2 (by omega) hq.2.2 e
  have i3 := fun e => perm_inj h n0 (j := p.1) (k := q.2) hp.1 (by omega) (by omega) hq.2.2 e
  have i4 := fun e => perm_inj h n0 (j := p.2) (k := q.1) (by omega) hp.2.2 hq.1 (by omega) e
  rcases mm_cases (o.getD p.1.toNat 0) (o.getD p.2.toNat 0) with ⟨a1, a2, _⟩ | ⟨a1, a2, _⟩ <;> rcases mm_cases (o.getD q.1.toNat 0) (o.getD q.2.toNat 0) with ⟨b1, b2, _⟩ | ⟨b1, b2, _⟩ <;> rw [a1, b1] at e1 <;> rw [a2, b2] at e2
  · exact Prod.ext (i1 e1) (i2 e2)
  · have := i3 e1
    have := i4 e2
    omega
  · have := i4 e1
    have := i3 e2
    omega
  · exact Prod.ext (i1 e2) (i2 e1)
theorem moved_ok {o : List Int} {n : Int} {ts : List (Int × Int)} (ho : o.Perm (rng 0 n)) (n0 : 1 ≤ n) (n1 : n ≤ 60) (h : TiesOk 700 n ts) : WebOk n (sortP (ts.map (moved o))) := by
  have hperm := sortP_perm (ts.map (moved o))
  refine ⟨n0, n1, fun p hp => ?_, ?_, ?_, ?_, ?_⟩
  · obtain ⟨q, hq, rfl⟩ := List.mem_map.mp (hperm.mem_iff.mp hp)
    have hr := h.rg q hq
    have r1 := perm_getD ho (by omega) (k := q.1) hr.1 (by omega)
    have r2 := perm_getD ho (by omega) (k := q.2) (by omega) hr.2.2
    have ne : o.getD q.1.toNat 0 ≠ o.getD q.2.toNat 0 := fun e => by
      have := perm_inj ho (by omega) hr.1 (by omega) (by omega) hr.2.2 e
      omega
    unfold moved
    dsimp only
    rcases mm_cases (o.getD q.1.toNat 0) (o.getD q.2.toNat 0) with ⟨a1, a2, _⟩ | ⟨a1, a2, _⟩ <;> rw [a1, a2] <;> omega
  · refine hperm.nodup_iff.mpr ?_
    refine List.Pairwise.map (R := fun p q => p ≠ q ∧ p ∈ ts ∧ q ∈ ts) _ (fun p q hpq e => hpq.1 (moved_inj ho (by omega) (h.rg p hpq.2.1) (h.rg q hpq.2.2) e)) ?_
    exact h.nd.imp_of_mem fun hp hq hne => ⟨hne, hp, hq⟩
  · intro S h0 hc
    obtain ⟨r, r0, r1, er⟩ := perm_surj ho (by omega) (x := 0) (by omega) (by omega)
    have key := h.conn.any (S := fun k => S (o.getD k.toNat 0)) r0 r1 (by show S (o.getD r.toNat 0); rw [er]; exact h0) fun p hp => by
      have hm : moved o p ∈ sortP (ts.map (moved o)) := hperm.mem_iff.mpr (List.mem_map.mpr ⟨p, hp, rfl⟩)
      have := hc _ hm
      unfold moved at this
      dsimp only at this
      rcases mm_cases (o.getD p.1.toNat 0) (o.getD p.2.toNat 0) with ⟨a1, a2, _⟩ | ⟨a1, a2, _⟩
      · rw [a1, a2] at this
        exact this
      · rw [a1, a2] at this
        exact this.symm
    intro k k0 k1
    obtain ⟨j, j0, j1, ej⟩ := perm_surj ho (by omega) k0 k1
    rw [← ej]
    exact key j j0 j1
  · rw [hperm.length_eq, List.length_map]
    exact h.len
  · exact (sortP_eq (List.Perm.refl _) (sortP_sorted _)).symm
end G
/-! MB: neighbours and fars, as the program reckons them -/
namespace G
open PySem L2 Z
/-- the places tied to one, in the ties' order -/
def nbs (ts : List (Int × Int)) (i : Int) : List Int := ts.flatMap fun p => (if p.1 = i then [p.2] else []) ++ (if p.2 = i then [p.1] else [])
theorem nbs_snoc (ts : List (Int × Int)) (x : Int × Int) (i : Int) : nbs (ts ++ [x]) i = nbs ts i ++ ((if x.1 = i then [x.2] else []) ++ (if x.2 = i then [x.1] else [])) := by
  unfold nbs
  rw [List.flatMap_append]
  simp
theorem nbs_mem {ts : List (Int × Int)} {i j : Int} : j ∈ nbs ts i ↔ Adj ts i j := by
  unfold nbs Adj
  rw [List.mem_flatMap]
  constructor
  · rintro ⟨p, hp, h⟩
    rcases List.mem_append.mp h with h | h
    · split at h
      · rename_i e
        rw [List.mem_singleton] at h
        rw [← e, h]
        exact .inl hp
      · cases h
    · split at h
      · rename_i e
        rw [List.mem_singleton] at h
        rw [← e, h]
        exact .inr hp
      · cases h
  · rintro (h | h)
    · exact ⟨_, h, List.mem_append_left _ (by simp)⟩
    · exact ⟨_, h, List.mem_append_right _ (by simp)⟩
theorem nbs_len (ts : List (Int × Int)) (i : Int) : (nbs ts i).length ≤ 2 * ts.length := by
  induction ts with
  | nil => exact Nat.le_refl _
  | cons p ts ih =>
    have e : nbs (p :: ts) i = ((if p.1 = i then [p.2] else []) ++ (if p.2 = i then [p.1] else [])) ++ nbs ts i := rfl
    rw [e, List.length_append, List.length_append, List.length_cons]
    have h1 : (if p.1 = i then [p.2] else []).length ≤ 1 := by split <;> simp
    have h2 : (if p.2 = i then [p.1] else []).length ≤ 1 := by split <;> simp
    omega
theorem map_rng_get {α : Type} {n : Int} {F : Int → α} {j : Int} (h0 : 0 ≤ j) (h1 : j < n) : ((rng 0 n).map F)[j.toNat]? = some (F j) := by
  rw [List.getElem?_map, rng_atE (by omega)]
  show some (F (0 + (j.toNat : Int))) = _
  rw [show (0 : Int) + (j.toNat : Int) = j by omega]
theorem map_rng_set {α : Type} {n : Int} {F : Int → α} {j : Int} {y : α} (h0 : 0 ≤ j) : ((rng 0 n).map F).set j.toNat y = (rng 0 n).map fun i => if i = j then y else F i := by
  apply List.ext_getElem?
  intro k
  rw [List.getElem?_set, List.getElem?_map, List.getElem?_map, List.length_map]
  by_cases hk : k < (n - 0).toNat
  · rw [rng_atE hk]
    by_cases e : j.toNat = k
    · rw [if_pos e, if_pos (by rw [rng_length]; omega)]
      show some y = some (if (0 : Int) + (k : Int) = j then y else F (0 + k))
      rw [if_pos (by omega)]
    · rw [if_neg e]
      show some (F (0 + k)) = some (if (0 : Int) + (k : Int) = j then y else F (0 + k))
      rw [if_neg (by omega)]
  · rw [List.getElem?_eq_none (by rw [rng_length]; omega)]
    by_cases e : j.toNat = k
    · rw [if_pos e, if_neg (by rw [rng_length]; omega)]; rfl
    · rw [if_neg e]
      rfl
theorem map_rng_congr {α : Type} {n : Int} {F G : Int → α} (h : ∀ i, 0 ≤ i → i < n → F i = G i) : (rng 0 n).map F = (rng 0 n).map G := List.map_congr_left fun i hi => h i (rng_mem.mp hi).1 (rng_mem.mp hi).2
theorem range_get {N : Nat} {j : Int} (h0 : 0 ≤ j) (h1 : j < N) : getI (List.range N) j = R.ok j.toNat := by
  refine getI_eq h0 ?_
  rw [List.getElem?_range (by omega)]
def nears (n : Int) (ts : List (Int × Int)) : List (List Int) := (rng 0 n).map fun i => sortI (nbs ts i)
theorem near_lists_ok {n : Int} {ts : List (Int × Int)} (n0 : 0 ≤ n) (n1 : n < 1000) (hl : ts.length < 40000) (hr : ∀ p ∈ ts, 0 ≤ p.1 ∧ p.1 < n ∧ 0 ≤ p.2 ∧ p.2 < n) : near_lists (n, ⟨ts⟩) = R.ok (nears n ts) := by
  refine po_iff ?_
  unfold near_lists
  refine po_rng (by decide) (by decide) (by show -(2 ^ 62) ≤ n; omega) (by show n < 2 ^ 62; omega) ?_
  have hN : (rng 0 n).length = n.toNat := by rw [rng_length]; omega
  refine po_bind (po_mapStA (fun pre acc s => acc = List.range pre.length ∧ s = List.replicate pre.length []) (by show (rng 0 n).length < 100000; omega) ⟨rfl, rfl⟩ fun pre acc s x post e ⟨h1, h2⟩ => ?_) fun l5 ⟨a1, a2⟩ => ?_
  · refine po_newS ⟨?_, ?_⟩
    · show acc ++ [s.length] = _
      rw [h1, h2, List.length_replicate, List.length_append, List.length_singleton, List.range_succ]
    · show s ++ [[]] = _
      rw [h2, List.length_append, List.length_singleton, List.replicate_succ']
  · rw [hN] at a1 a2
    refine po_bind (po_foldP (fun pre g => g = (rng 0 n).map fun i => nbs pre i) ?_ fun pre g x post e hg => ?_) fun g11 hg => ?_
    · rw [a2]
      apply List.ext_getElem?
      intro k
      rw [List.getElem?_replicate, List.getElem?_map]
      by_cases hk : k < n.toNat
      · rw [if_pos hk, rng_atE (by omega)]; rfl
      · rw [if_neg hk, List.getElem?_eq_none (by rw [rng_length]; omega)]; rfl
    · obtain ⟨x1, x2, x3, x4⟩ := hr x (by rw [show ts = pre ++ x :: post from e]; simp)
      have hpl : pre.length < 40000 := by
        have : ts.length = pre.length + (post.length + 1) := by rw [show ts = pre ++ x :: post from e]; simp
        omega
      have hl1 := nbs_len pre x.1
      have hl2 := nbs_len pre x.2
      rw [a1]
      refine po_getE (range_get x1 (by omega)) (po_getS (by rw [hg]; exact map_rng_get x1 x2) (po_app (by omega) (po_setS ?_)))
      rw [hg, map_rng_set x1]
      refine po_getE (range_get x3 (by omega)) (po_getS (map_rng_get x3 x4) (po_app ?_ (po_setS ?_)))
      · split
        · rw [List.length_append, List.length_singleton]; omega
        · omega
      · rw [map_rng_set x3]
        show _ = _
        refine map_rng_congr fun i i0 i1 => ?_
        rw [nbs_snoc]
        by_cases e1 : x.1 = i
        · by_cases e2 : x.2 = i
          · subst e1
            rw [e2]
            simp
          · subst e1
            rw [if_neg (fun q => e2 q.symm), if_pos rfl, if_pos rfl, if_neg e2, List.append_nil]
        · by_cases e2 : x.2 = i
          · subst e2
            rw [if_pos rfl, if_neg (fun q => e1 q.symm), if_neg e1, if_pos rfl, List.nil_append]
          · rw [if_neg (fun q => e2 q.symm), if_neg (fun q => e1 q.symm), if_neg e1, if_neg e2, List.append_nil, List.append_nil]
    · have hg' : g11 = (rng 0 n).map fun i => nbs ts i := hg
      rw [a1]
      refine po_bind (Q := fun l => l = nears n ts) (po_eq (mapG_ok (g := fun b => sortI (nbs ts (b : Nat))) (by rw [List.length_range]; omega) fun b hb => ?_) ?_) fun l h => h
      · have hb' := List.mem_range.mp hb
        refine po_iff (po_getS (xs := nbs ts (b : Nat)) ?_ rfl)
        rw [hg']
        have := map_rng_get (n := n) (F := fun i => nbs ts i) (j := (b : Int)) (by omega) (by omega)
        rw [Int.toNat_natCast] at this
        exact this
      · unfold nears
        apply List.ext_getElem?
        intro k
        rw [List.getElem?_map, List.getElem?_map]
        by_cases hk : k < n.toNat
        · rw [rng_atE (by omega), List.getElem?_range hk]
          show some (sortI (nbs ts (k : Nat))) = some (sortI (nbs ts (0 + (k : Nat))))
          rw [Int.zero_add]
        · rw [List.getElem?_eq_none (by rw [List.length_range]; omega), List.getElem?_eq_none (by rw [rng_length]; omega)]; rfl
theorem sortI_mem {xs : List Int} {x : Int} : x ∈ sortI xs ↔ x ∈ xs := (sortI_perm xs).mem_iff
end G
/-! MC: drawn webs: neighbours, fars -/
namespace G
open PySem L2 Z
theorem web_near {n : Int} {ts : List (Int × Int)} (h : WebOk n ts) : near_lists (n, ⟨ts⟩) = R.ok (nears n ts) := near_lists_ok (by have := h.n1; omega) (by have := h.n60; omega) (by have := h.len; omega) h.rg4
theorem enum_mem {α : Type} {xs : List α} {b : Int × α} (h : b ∈ enum xs) : 0 ≤ b.1 ∧ b.1 < (xs.length : Int) ∧ xs[b.1.toNat]? = some b.2 := by
  unfold enum at h
  obtain ⟨i, hi⟩ := List.mem_iff_getElem?.mp h
  rw [List.getElem?_zip_eq_some] at hi
  obtain ⟨h1, h2⟩ := hi
  have hl := (List.getElem?_eq_some_iff.mp h2).1
  rw [rng_atE (by omega)] at h1
  have e : b.1 = (i : Int) := by
    injection h1 with h1
    omega
  rw [e]
  exact ⟨by omega, by omega, by rw [Int.toNat_natCast]; exact h2⟩
theorem web_dist {n : Int} {ts : List (Int × Int)} {p : Int} (h : WebOk n ts) (p0 : 0 ≤ p) (p1 : p < n) : IsDist n ts p (dst n ts p) := conn_ex h.rg4 h.conn p0 p1
theorem WebOk.adj {n : Int} {ts : List (Int × Int)} (h : WebOk n ts) {a b : Int} (q : Adj ts a b) : 0 ≤ a ∧ a < n ∧ 0 ≤ b ∧ b < n ∧ a ≠ b := by
  rcases q with q | q <;> have := h.rg _ q <;> dsimp only at this <;> omega
section
variable {n : Int} {ts : List (Int × Int)} (h : WebOk n ts)
include h
theorem dst_zero {p v : Int} (p0 : 0 ≤ p) (p1 : p < n) (v0 : 0 ≤ v) (v1 : v < n) : dst n ts p v = 0 ↔ v = p := by
  have d := web_dist h p0 p1
  constructor
  · intro e
    apply Classical.byContradiction
    intro hne
    obtain ⟨w, w0, w1, _, ew⟩ := d.desc v v0 v1 hne
    have := d.nn w w0 w1
    omega
  · rintro rfl
    exact d.zero
theorem dst_nn {p v : Int} (p0 : 0 ≤ p) (p1 : p < n) (v0 : 0 ≤ v) (v1 : v < n) : 0 ≤ dst n ts p v := (web_dist h p0 p1).nn v v0 v1
/-- neighbours are just one far -/
theorem dst_one {p v : Int} (p0 : 0 ≤ p) (p1 : p < n) (v0 : 0 ≤ v) (v1 : v < n) : dst n ts p v = 1 ↔ Adj ts p v := by
  have d := web_dist h p0 p1
  constructor
  · intro e
    obtain ⟨w, w0, w1, hw, ew⟩ := d.desc v v0 v1 (fun q => by
      have := (dst_zero h p0 p1 v0 v1).mpr q
      omega)
    have : w = p := (dst_zero h p0 p1 w0 w1).mp (by omega)
    rw [← this]
    exact hw
  · intro q
    have h1 := d.lip p v q
    rw [d.zero] at h1
    have h2 := d.nn v v0 v1
    have h3 : dst n ts p v ≠ 0 := fun e => (h.adj q).2.2.2.2 ((dst_zero h p0 p1 v0 v1).mp e).symm
    omega
end
theorem nbs_nodup {ts : List (Int × Int)} (hn : ts.Nodup) (hr : ∀ p ∈ ts, p.1 < p.2) (i : Int) : (nbs ts i).Nodup := by
  induction ts with
  | nil => exact List.nodup_nil
  | cons p ts ih =>
    have e : nbs (p :: ts) i = ((if p.1 = i then [p.2] else []) ++ (if p.2 = i then [p.1] else [])) ++ nbs ts i := rfl
    obtain ⟨hn1, hn2⟩ := List.nodup_cons.mp hn
    have ih' := ih hn2 fun q hq => hr q (List.mem_cons_of_mem _ hq)
    have hp := hr p List.mem_cons_self
    rw [e]
    by_cases h1 : p.1 = i
    · have h2 : p.2 ≠ i := by omega
      rw [if_pos h1, if_neg h2, List.append_nil]
      refine List.nodup_cons.mpr ⟨fun q => ?_, ih'⟩
      rcases nbs_mem.mp q with q | q
      · exact hn1 (by rw [← h1] at q; exact q)
      · have := hr _ (List.mem_cons_of_mem _ q)
        dsimp only at this
        omega
    · by_cases h2 : p.2 = i
      · rw [if_neg h1, if_pos h2, List.nil_append]
        refine List.nodup_cons.mpr ⟨fun q => ?_, ih'⟩
        rcases nbs_mem.mp q with q | q
        · have := hr _ (List.mem_cons_of_mem _ q)
          dsimp only at this
          omega
        · exact hn1 (by rw [← h2] at q; exact q)
      · rw [if_neg h1, if_neg h2, List.append_nil, List.nil_append]
        exact ih'
theorem rng_sorted (i j : Int) : (rng i j).Pairwise (· < ·) := by
  unfold rng
  refine List.Pairwise.map _ (fun a b h => ?_) List.pairwise_lt_range
  show i + (a : Int) < i + b
  omega
theorem nears_get {n p : Int} {ts : List (Int × Int)} (p0 : 0 ≤ p) (p1 : p < n) : getI (nears n ts) p = R.ok (sortI (nbs ts p)) := getI_eq p0 (map_rng_get p0 p1)
theorem fil_ite {α : Type} (l : List α) (P : α → Bool) : l.filterMap (fun b => if P b = true then some b else none) = l.filter P := by
  induction l with
  | nil => rfl
  | cons a l ih =>
    rw [List.filterMap_cons, List.filter_cons]
    cases P a
    · exact ih
    · show a :: _ = a :: _
      rw [ih]
end G
/-! MF: fars, as the program reckons them -/
namespace G
open PySem L2 Z
/-! ### fars -/
section
variable {n : Int} {ts : List (Int × Int)} {p : Int}
structure Bfs (n : Int) (ts : List (Int × Int)) (p : Int) (at_ : Nat) (line : List Int) (F : Int → Option Int) : Prop where
  le : at_ ≤ line.length
  nd : line.Nodup
  rg : ∀ v ∈ line, 0 ≤ v ∧ v < n
  mem : ∀ v, 0 ≤ v → v < n → (v ∈ line ↔ (F v).isSome = true)
  p0 : F p = some 0
  nn : ∀ v d, F v = some d → 0 ≤ d
  par : ∀ v ∈ line, v = p ∨ ∃ w ∈ line, Adj ts w v ∧ ∃ d, F w = some d ∧ F v = some (d + 1)
  mono : line.Pairwise fun a b => (F a).getD 0 ≤ (F b).getD 0
  cap : ∀ v ∈ line, ∀ u ∈ line.drop at_, (F v).getD 0 ≤ (F u).getD 0 + 1
  done : ∀ i u, i < at_ → line[i]? = some u → ∀ w, Adj ts u w → w ∈ line ∧ (F w).getD 0 ≤ (F u).getD 0 + 1
/-- within a turn: the neighbours of u that are gone through -/
structure BfsIn (n : Int) (ts : List (Int × Int)) (p : Int) (at_ : Nat) (u : Int) (pre : List Int) (line : List Int) (F : Int → Option Int) : Prop where
  b : Bfs n ts p at_ line F
  u0 : line[at_]? = some u
  ok : ∀ w ∈ pre, w ∈ line ∧ (F w).getD 0 ≤ (F u).getD 0 + 1
theorem BfsIn.add {at_ : Nat} {u w : Int} {pre line : List Int} {F : Int → Option Int} {d : Int} (h : BfsIn n ts p at_ u pre line F) (hw : Adj ts u w) (w0 : 0 ≤ w) (w1 : w < n) (hn : F w = none) (hd : F u = some d) :
    BfsIn n ts p at_ u (pre ++ [w]) (line ++ [w]) (fun v => if v = w then some (d + 1) else F v) := by
  have b := h.b
  have hu : u ∈ line := List.mem_of_getElem? h.u0
  have hat : at_ < line.length := (List.getElem?_eq_some_iff.mp h.u0).1
  have hwl : w ∉ line := fun q => by
    have := (b.mem w w0 w1).mp q
    rw [hn] at this
    cases this
  have ne : ∀ v ∈ line, v ≠ w := fun v hv e => hwl (e ▸ hv)
  have eF : ∀ v ∈ line, (if v = w then some (d + 1) else F v) = F v := fun v hv => if_neg (ne v hv)
  have eW : (if w = w then some (d + 1) else F w) = some (d + 1) := if_pos rfl
  have hpl : p ∈ line ∨ True := .inr trivial
  have hd0 := b.nn u d hd
  have hud : u ∈ line.drop at_ := by
    rw [List.mem_iff_getElem?]
    exact ⟨0, by rw [List.getElem?_drop]; exact h.u0⟩
  refine ⟨⟨?_, ?_, ?_, ?_, ?_, ?_, ?_, ?_, ?_, ?_⟩, ?_, ?_⟩
  · rw [List.length_append]; omega
  · rw [List.nodup_append]
    refine ⟨b.nd, by simp, fun a ha c hc => ?_⟩
    rw [List.mem_singleton] at hc
    rw [hc]
    exact ne a ha
  · intro v hv
    rcases List.mem_append.mp hv with hv | hv
    · exact b.rg v hv
    · rw [List.mem_singleton] at hv
      rw [hv]; exact ⟨w0, w1⟩
  · intro v v0 v1
    by_cases e : v = w
    · subst e
      simp
    · show v ∈ line ++ [w] ↔ (if v = w then some (d + 1) else F v).isSome = true
      rw [if_neg e, ← b.mem v v0 v1]
      simp [e]
  · show (if p = w then some (d + 1) else F p) = some 0
    rw [if_neg]
    · exact b.p0
    · intro e
      rw [← e, b.p0] at hn
      cases hn
  · intro v e hv
    have hv' : (if v = w then some (d + 1) else F v) = some e := hv
    by_cases q : v = w
    · rw [if_pos q] at hv'
      cases hv'
      omega
    · rw [if_neg q] at hv'
      exact b.nn v e hv'
  · intro v hv
    rcases List.mem_append.mp hv with hv | hv
    · rcases b.par v hv with e | ⟨x, hx, ha, k, h1, h2⟩
      · exact .inl e
      · refine .inr ⟨x, List.mem_append_left _ hx, ha, k, ?_, ?_⟩
        · show (if x = w then some (d + 1) else F x) = some k
          rw [eF x hx]; exact h1
        · show (if v = w then some (d + 1) else F v) = some (k + 1)
          rw [eF v hv]; exact h2
    · rw [List.mem_singleton] at hv
      subst hv
      refine .inr ⟨u, List.mem_append_left _ hu, hw, d, ?_, eW⟩
      show (if u = v then some (d + 1) else F u) = some d
      rw [eF u hu]; exact hd
  · rw [List.pairwise_append]
    refine ⟨b.mono.imp_of_mem fun {a c} ha hc q => ?_, by simp, fun a ha c hc => ?_⟩
    · show (if a = w then some (d + 1) else F a).getD 0 ≤ (if c = w then some (d + 1) else F c).getD 0
      rw [eF a ha, eF c hc]; exact q
    · rw [List.mem_singleton] at hc
      subst hc
      show (if a = c then some (d + 1) else F a).getD 0 ≤ (if c = c then some (d + 1) else F c).getD 0
      rw [eF a ha, eW]
      have := b.cap a ha u hud
      rw [hd] at this
      exact this
  · intro v hv x hx
    rw [List.drop_append_of_le_length (by omega)] at hx
    show (if v = w then some (d + 1) else F v).getD 0 ≤ (if x = w then some (d + 1) else F x).getD 0 + 1
    have key : ∀ x, x ∈ line.drop at_ → d ≤ (F x).getD 0 := by
      intro x hx
      have hs : line.drop at_ = u :: line.drop (at_ + 1) := by
        rw [List.drop_eq_getElem_cons hat]
        have := (List.getElem?_eq_some_iff.mp h.u0).2
        rw [this]
      have hm := b.mono.sublist (List.drop_sublist at_ line)
      rw [hs] at hm hx
      rcases List.mem_cons.mp hx with rfl | hx
      · rw [hd]; exact Int.le_refl _
      · have := (List.pairwise_cons.mp hm).1 x hx
        rw [hd] at this
        exact this
    have hvd : (if v = w then some (d + 1) else F v).getD 0 ≤ d + 1 := by
      rcases List.mem_append.mp hv with hv | hv
      · rw [eF v hv]
        have := b.cap v hv u hud
        rw [hd] at this
        exact this
      · rw [List.mem_singleton] at hv
        rw [if_pos hv]; exact Int.le_refl _
    rcases List.mem_append.mp hx with hx | hx
    · rw [eF x (List.mem_of_mem_drop hx)]
      have := key x hx
      omega
    · rw [List.mem_singleton] at hx
      rw [if_pos hx]
      show _ ≤ (d + 1) + 1
      omega
  · intro i x hi hx y hy
    rw [List.getElem?_append_left (by omega)] at hx
    obtain ⟨h1, h2⟩ := b.done i x hi hx y hy
    refine ⟨List.mem_append_left _ h1, ?_⟩
    show (if y = w then some (d + 1) else F y).getD 0 ≤ (if x = w then some (d + 1) else F x).getD 0 + 1
    rw [eF y h1, eF x (List.mem_of_getElem? hx)]
    exact h2
  · rw [List.getElem?_append_left hat]; exact h.u0
  · intro v hv
    show v ∈ line ++ [w] ∧ (if v = w then some (d + 1) else F v).getD 0 ≤ (if u = w then some (d + 1) else F u).getD 0 + 1
    rw [eF u hu]
    rcases List.mem_append.mp hv with hv | hv
    · obtain ⟨h1, h2⟩ := h.ok v hv
      rw [eF v h1]
      exact ⟨List.mem_append_left _ h1, h2⟩
    · rw [List.mem_singleton] at hv
      rw [if_pos hv, hd, hv]
      exact ⟨List.mem_append_right _ (List.mem_singleton_self _), Int.le_refl _⟩
theorem BfsIn.skip {at_ : Nat} {u w : Int} {pre line : List Int} {F : Int → Option Int} (h : BfsIn n ts p at_ u pre line F) (hw : (F w).isSome = true) (w0 : 0 ≤ w) (w1 : w < n) : BfsIn n ts p at_ u (pre ++ [w]) line F := by
  refine ⟨h.b, h.u0, fun v hv => ?_⟩
  rcases List.mem_append.mp hv with hv | hv
  · exact h.ok v hv
  · rw [List.mem_singleton] at hv
    subst hv
    have hl := (h.b.mem v w0 w1).mpr hw
    refine ⟨hl, h.b.cap v hl u ?_⟩
    rw [List.mem_iff_getElem?]
    exact ⟨0, by rw [List.getElem?_drop]; exact h.u0⟩
theorem BfsIn.next {at_ : Nat} {u : Int} {nb line : List Int} {F : Int → Option Int} (h : BfsIn n ts p at_ u nb line F) (hnb : ∀ w, Adj ts u w → w ∈ nb) : Bfs n ts p (at_ + 1) line F := by
  have hat : at_ < line.length := (List.getElem?_eq_some_iff.mp h.u0).1
  refine { h.b with le := hat, cap := fun v hv x hx => h.b.cap v hv x ?_, done := fun i x hi hx w hw => ?_ }
  · exact (List.drop_sublist_drop_left line (Nat.le_succ at_)).subset hx
  · by_cases e : i = at_
    · subst e
      rw [h.u0] at hx
      cases hx
      exact h.ok w (hnb w hw)
    · exact h.b.done i x (by omega) hx w hw
theorem Bfs.isDist {line : List Int} {F : Int → Option Int} (b : Bfs n ts p line.length line F) (hc : Conn n ts) (hr : ∀ q ∈ ts, 0 ≤ q.1 ∧ q.1 < n ∧ 0 ≤ q.2 ∧ q.2 < n) (p0 : 0 ≤ p) (p1 : p < n) :
    (∀ v, 0 ≤ v → v < n → (F v).isSome = true) ∧ IsDist n ts p fun v => (F v).getD 0 := by
  have hp : p ∈ line := (b.mem p p0 p1).mpr (by rw [b.p0]; rfl)
  have cl : ∀ u w, u ∈ line → Adj ts u w → w ∈ line ∧ (F w).getD 0 ≤ (F u).getD 0 + 1 := by
    intro u w hu hw
    obtain ⟨i, hi⟩ := List.mem_iff_getElem?.mp hu
    exact b.done i u (List.getElem?_eq_some_iff.mp hi).1 hi w hw
  have all : ∀ k, 0 ≤ k → k < n → k ∈ line := hc.any (S := fun k => k ∈ line) p0 p1 hp fun q hq => ⟨fun h => (cl q.1 q.2 h (.inl hq)).1, fun h => (cl q.2 q.1 h (.inr hq)).1⟩
  refine ⟨fun v v0 v1 => (b.mem v v0 v1).mp (all v v0 v1), ⟨?_, fun v v0 v1 => ?_, fun a c h => ?_, fun v v0 v1 hne => ?_⟩⟩
  · show (F p).getD 0 = 0
    rw [b.p0]; rfl
  · show 0 ≤ (F v).getD 0
    cases e : F v with
    | none => exact Int.le_refl _
    | some d => exact b.nn v d e
  · have ra : 0 ≤ a ∧ a < n := by
      rcases h with h | h
      · exact ⟨(hr _ h).1, (hr _ h).2.1⟩
      · exact ⟨(hr _ h).2.2.1, (hr _ h).2.2.2⟩
    exact (cl a c (all a ra.1 ra.2) h).2
  · rcases b.par v (all v v0 v1) with e | ⟨w, hw, ha, d, h1, h2⟩
    · exact absurd e hne
    · refine ⟨w, (b.rg w hw).1, (b.rg w hw).2, ha, ?_⟩
      show (F w).getD 0 + 1 = (F v).getD 0
      rw [h1, h2]; rfl
end
theorem fars_by_post {n : Int} {ts : List (Int × Int)} {p : Int} (n1 : n < 900) (hr : ∀ q ∈ ts, 0 ≤ q.1 ∧ q.1 < n ∧ 0 ≤ q.2 ∧ q.2 < n) (hc : Conn n ts) (p0 : 0 ≤ p) (p1 : p < n) :
    Post (fars_by (nears n ts) p) (fun l => l = ((rng 0 n).map fun v => some (dst n ts p v)) ∧ IsDist n ts p (dst n ts p)) noX := by
  unfold fars_by
  have hN : (nears n ts).length = n.toNat := by unfold nears; rw [List.length_map, rng_length]; omega
  rw [hN]
  refine po_rep (by omega) (by omega) (by decide) ?_
  have e0 : repL ([none] : List (Option Int)) (n.toNat : Nat) = (rng 0 n).map fun _ => none := by
    unfold repL
    rw [Int.toNat_natCast]
    have h1 : (rng 0 n).length = n.toNat := by rw [rng_length]; omega
    rw [← h1]
    generalize rng 0 n = l
    induction l with
    | nil => rfl
    | cons a l ih =>
      rw [List.length_cons, List.replicate_succ, List.flatten_cons, ih]
      rfl
  rw [e0]
  refine po_set p0 (by rw [List.length_map, rng_length]; omega) ?_
  rw [map_rng_set p0]
  refine po_bind (Q := fun g => g.2.2 = ((rng 0 n).map fun v => some (dst n ts p v)) ∧ IsDist n ts p (dst n ts p)) (po_while (fun g => 0 ≤ g.1 ∧ ∃ F, g.2.2 = (rng 0 n).map F ∧ Bfs n ts p g.1.toNat g.2.1 F) (fun g => n.toNat - g.1.toNat) ?_ (n := fu 1000) ?_ ?_) fun g hg => hg
  · rintro ⟨a, line, fd⟩ ⟨a0, F, e1, b⟩
    have e1' : fd = (rng 0 n).map F := e1
    have a0' : 0 ≤ a := a0
    have b' : Bfs n ts p a.toNat line F := b
    clear e1 b a0
    subst e1'
    refine ⟨fun ht => ?_, fun hf => ?_⟩
    · have ht : a < (line.length : Int) := of_decide_eq_true ht
      refine po_get a0' ht fun u hu e2 => ?_
      obtain ⟨u0, u1⟩ := b'.rg u hu
      refine po_getE (getI_eq u0 (map_rng_get u0 u1)) ?_
      have hin : BfsIn n ts p a.toNat u [] line F := ⟨b', e2, fun _ h => nomatch h⟩
      refine po_bind (po_foldP (fun pre g => ∃ F', g.2 = (rng 0 n).map F' ∧ BfsIn n ts p a.toNat u pre g.1 F') ⟨F, rfl, hin⟩ ?_) ?_
      · rintro pre ⟨ln, fd⟩ w post ew ⟨F', e3, h3⟩
        have e3' : fd = (rng 0 n).map F' := e3
        have h3' : BfsIn n ts p a.toNat u pre ln F' := h3
        clear e3 h3
        subst e3'
        have hw : w ∈ sortI (nbs ts u) := by rw [show sortI (nbs ts u) = pre ++ w :: post from ew]; simp
        have hw := nbs_mem.mp (sortI_mem.mp hw)
        have rw' : 0 ≤ w ∧ w < n := by
          rcases hw with h | h
          · exact ⟨(hr _ h).2.2.1, (hr _ h).2.2.2⟩
          · exact ⟨(hr _ h).1, (hr _ h).2.1⟩
        obtain ⟨w0, w1⟩ := rw'
        refine po_getE (getI_eq w0 (map_rng_get w0 w1)) ?_
        refine po_if (fun c => ?_) (fun c => ?_)
        · have hn : F' w = none := by
            cases e : F' w with
            | none => rfl
            | some d => rw [e] at c; cases c
          refine po_getE (getI_eq a0' h3'.u0) (po_getE (getI_eq u0 (map_rng_get u0 u1)) ?_)
          have hus := (h3'.b.mem u u0 u1).mp (List.mem_of_getElem? h3'.u0)
          obtain ⟨d, hd⟩ := Option.isSome_iff_exists.mp hus
          have hlen : ln.length ≤ n.toNat := by
            have := nodup_le h3'.b.nd (ys := rng 0 n) fun v hv => rng_mem.mpr (h3'.b.rg v hv)
            rw [rng_length] at this
            omega
          refine po_ofO hd (po_set w0 (by rw [List.length_map, rng_length]; omega) (po_app (by show ln.length < 100000; omega) ?_))
          refine ⟨_, map_rng_set w0, ?_⟩
          exact h3'.add hw w0 w1 hn hd
        · refine ⟨F', rfl, h3'.skip ?_ w0 w1⟩
          cases e : F' w with
          | none => rw [e] at c; exact absurd rfl c
          | some d => rfl
      · rintro ⟨ln, fd⟩ ⟨F', e3, h3⟩
        have h3' : BfsIn n ts p a.toNat u (sortI (nbs ts u)) ln F' := h3
        have h4 := h3'.next fun w hw => sortI_mem.mpr (nbs_mem.mpr hw)
        have hat : a.toNat < ln.length := (List.getElem?_eq_some_iff.mp h3'.u0).1
        have hlen : ln.length ≤ n.toNat := by
          have := nodup_le h3'.b.nd (ys := rng 0 n) fun v hv => rng_mem.mpr (h3'.b.rg v hv)
          rw [rng_length] at this
          omega
        refine ⟨⟨by show 0 ≤ a + 1; omega, F', e3, ?_⟩, ?_⟩
        · show Bfs n ts p (a + 1).toNat ln F'
          rw [show (a + 1).toNat = a.toNat + 1 by omega]
          exact h4
        · show n.toNat - (a + 1).toNat < n.toNat - a.toNat
          omega
    · have hf : ¬ a < (line.length : Int) := of_decide_eq_false hf
      have hle := b'.le
      have ea : a.toNat = line.length := by omega
      rw [ea] at b'
      obtain ⟨h1, h2⟩ := b'.isDist hc hr p0 p1
      refine ⟨map_rng_congr fun v v0 v1 => ?_, dst_is h2⟩
      have h3 := dst_eq h2 v v0 v1
      obtain ⟨d, hd⟩ := Option.isSome_iff_exists.mp (h1 v v0 v1)
      have h3' : (F v).getD 0 = dst n ts p v := h3
      rw [hd] at h3' ⊢
      exact congrArg some h3'
  · refine ⟨Int.le_refl 0, _, rfl, ?_⟩
    show Bfs n ts p 0 [p] (fun i => if i = p then some 0 else none)
    refine ⟨Nat.zero_le _, by simp, fun v hv => ?_, fun v v0 v1 => ?_, if_pos rfl, fun v d hv => ?_, fun v hv => ?_, by simp, fun v hv u hu => ?_, fun i u hi => absurd hi (Nat.not_lt_zero _)⟩
    · rw [List.mem_singleton] at hv
      rw [hv]; exact ⟨p0, p1⟩
    · show v ∈ [p] ↔ (if v = p then some (0 : Int) else none).isSome = true
      rw [List.mem_singleton]
      by_cases e : v = p
      · rw [if_pos e]; simp [e]
      · rw [if_neg e]; simp [e]
    · have hv' : (if v = p then some (0 : Int) else none) = some d := hv
      split at hv'
      · cases hv'; exact Int.le_refl _
      · cases hv'
    · exact .inl (List.mem_singleton.mp hv)
    · rw [List.drop_zero] at hu
      rw [List.mem_singleton] at hv hu
      subst hv hu
      show (if u = u then some (0 : Int) else none).getD 0 ≤ (if u = u then some (0 : Int) else none).getD 0 + 1
      rw [if_pos rfl]
      decide
  · rw [fu_eq]
    show n.toNat - (0 : Int).toNat < 1000
    omega
theorem fars_by_ok {n : Int} {ts : List (Int × Int)} {p : Int} (n1 : n < 900) (hr : ∀ q ∈ ts, 0 ≤ q.1 ∧ q.1 < n ∧ 0 ≤ q.2 ∧ q.2 < n) (hc : Conn n ts) (p0 : 0 ≤ p) (p1 : p < n) :
    fars_by (nears n ts) p = R.ok ((rng 0 n).map fun v => some (dst n ts p v)) := po_iff ((fars_by_post n1 hr hc p0 p1).mono (fun _ h => h.1) fun _ h => h)
theorem web_fars {n : Int} {ts : List (Int × Int)} {p : Int} (h : WebOk n ts) (p0 : 0 ≤ p) (p1 : p < n) : fars_by (nears n ts) p = R.ok ((rng 0 n).map fun v => some (dst n ts p v)) := fars_by_ok (by have := h.n60; omega) h.rg4 h.conn p0 p1
end G
/-! MD: webs made, nothing refused -/
namespace G
open PySem L2 Z
def nrm (p : Int × Int) : Int × Int := (min2 p.1 p.2, max2 p.1 p.2)
theorem made_ok {n : Int} {ts us : List (Int × Int)} (h : WebOk n ts) (hp : (us.map nrm).Perm ts) : made_web n us = R.ok (n, ⟨ts⟩) := by
  refine po_iff ?_
  unfold made_web
  have h1 := h.n1
  have h60 := h.n60
  refine po_if (fun c => ?_) fun _ => ?_
  · exfalso
    rw [decide_eq_true h1, decide_eq_true h60] at c
    exact absurd c (by decide)
  have hnd : (us.map nrm).Nodup := hp.nodup_iff.mpr h.nd
  have e1 : sorted_ties n us = R.ok ⟨ts⟩ := by
    refine po_iff ?_
    unfold sorted_ties
    refine po_bind (po_foldP (fun pre g => g = pre.map nrm) rfl fun pre g x post e hg => ?_) fun g hg => ?_
    · have hx : nrm x ∈ ts := hp.mem_iff.mp (List.mem_map.mpr ⟨x, by rw [e]; simp, rfl⟩)
      have hr := h.rg _ hx
      have hle : us.length ≤ 700 := by
        have := hp.length_eq
        rw [List.length_map] at this
        have := h.len
        omega
      have hel := congrArg List.length e
      simp at hel
      have hnin : nrm x ∉ pre.map nrm := by
        rw [e, List.map_append, List.map_cons] at hnd
        have := (List.nodup_append.mp hnd).2.2
        exact fun q => this _ q _ List.mem_cons_self rfl
      refine po_if (fun c => ?_) fun _ => po_app (by rw [hg, List.length_map]; omega) ?_
      · exfalso
        have hne : x.1 ≠ x.2 := fun e2 => by
          have : (nrm x).1 = (nrm x).2 := by
            unfold nrm min2 max2
            rw [e2]
          omega
        have c1 : ¬ (min2 x.1 x.2 < 0) := by have := hr.1; exact fun q => by unfold nrm at this; dsimp only at this; omega
        have c2 : ¬ (n ≤ max2 x.1 x.2) := by have := hr.2.2; exact fun q => by unfold nrm at this; dsimp only at this; omega
        have c3 : (min2 x.1 x.2, max2 x.1 x.2) ∉ g := by rw [hg]; exact hnin
        rw [decide_eq_false c1, decide_eq_false c2, decide_eq_false hne, inB_f.mpr c3] at c
        exact absurd c (by decide)
      · show _ = _
        rw [hg, List.map_append]
        rfl
    · show (⟨sortP g⟩ : Tup (Int × Int)) = ⟨ts⟩
      have e : sortP g = ts := by
        rw [show g = us.map nrm from hg]
        have : (sortP ts).Perm (us.map nrm) := (sortP_perm ts).trans hp.symm
        rw [← sortP_eq this (sortP_sorted ts)]
        exact h.srt
      rw [e]
  rw [e1, ok_bind, web_near h, ok_bind, web_fars h (Int.le_refl 0) (by omega), ok_bind]
  refine po_rng (by decide) (by decide) (by omega) (by omega) (po_bind (po_fold (fun _ => True) trivial fun s x _ hx => ?_) fun _ _ => rfl)
  obtain ⟨x0, x1⟩ := rng_mem.mp hx
  exact po_getE (getI_eq x0 (map_rng_get x0 x1)) trivial
end G
namespace G
open PySem L2 Z
/-! ### draws -/
def Ok2 (s : List Int) : Prop := ∃ a b, s = [a, b] ∧ 0 ≤ a ∧ 0 ≤ b ∧ b < 2147483647
theorem next_ok {s : List Int} {m : Int} (h : Ok2 s) (h0 : 0 < m) (h1 : m < 1073741824) : Post (law_next s m) (fun p => 0 ≤ p.1 ∧ p.1 < m ∧ Ok2 p.2) noX := by
  obtain ⟨a, b, rfl, ha, hb, hb2⟩ := h
  unfold law_next
  refine po_getE (x := a) rfl ?_
  refine po_if (fun c => ?_) (fun c => ?_)
  · have c' : 0 < a := of_decide_eq_true c
    refine po_getE (x := a) rfl (po_mod h0 fun r0 r1 => po_getE (x := a) rfl (po_div h0 h1 (po_set (Int.le_refl 0) (by show (0 : Int) < 2; decide) ?_)))
    exact ⟨r0, r1, _, _, rfl, Int.ediv_nonneg ha (by omega), hb, hb2⟩
  · refine po_getE (x := b) rfl (po_set (by decide) (by show (1 : Int) < 2; decide) ?_)
    refine po_getE (x := (b * 69621 + 40692) % 2147483647) rfl (po_getE (x := (b * 69621 + 40692) % 2147483647) rfl ?_)
    have h2 : 0 ≤ (b * 69621 + 40692) % 2147483647 := Int.emod_nonneg _ (by decide)
    have h3 : (b * 69621 + 40692) % 2147483647 < 2147483647 := Int.emod_lt_of_pos _ (by decide)
    exact po_mul (by left; omega) (po_mod h0 fun r0 r1 => ⟨r0, r1, _, _, rfl, ha, h2, h3⟩)
theorem cell_ok {sc : List Int} {k : Int} (h0 : 0 ≤ k) : Post (law_cell_at ⟨sc⟩ k) (fun _ => True) noX := by
  unfold law_cell_at
  refine po_if (fun c => po_get h0 (of_decide_eq_true c) fun _ _ _ => trivial) fun c => ?_
  refine po_bind (Q := fun _ => True) (po_if (fun c => ?_) fun _ => trivial) fun _ _ => trivial
  have hne : sc ≠ [] := fun e => by
    subst e
    exact absurd c (by decide)
  have hl : 0 < (sc.length : Int) := by
    have := List.length_pos_iff.mpr hne
    omega
  exact po_mod hl fun r0 r1 => po_get r0 r1 fun _ _ _ => trivial
theorem folded_ok {sc : List Int} {N : Int} (h : sc.length ≤ 63) (n0 : 0 < N) (n1 : N ≤ 100) : Post (law_folded ⟨sc⟩ N) (fun l => (l.length : Int) = N) noX := by
  unfold law_folded
  refine po_rng (by omega) (by omega) (by omega) (by omega) ?_
  have hN : ((rng 0 N).length : Int) = N := by rw [rng_length]; omega
  have hx : ∀ x ∈ rng 0 N, 0 ≤ x := fun x hx => (rng_mem.mp hx).1
  generalize hl : rng 0 N = l at hN hx ⊢
  refine po_bind (po_mapG (fun _ => True) (by omega) fun x h => po_bind (cell_ok (hx x h)) fun _ _ => po_ok trivial) fun l3 h3 => ?_
  have e : rngI N ((⟨sc⟩ : Scr).l.length : Int) = R.ok (rng N sc.length) := by
    unfold rngI
    rw [if_pos]
    exact ⟨by omega, by omega, by show _ ≤ (sc.length : Int); omega, by show (sc.length : Int) < _; omega⟩
  rw [e, ok_bind]
  have h3' : (l3.length : Int) = N := by rw [h3.1]; exact hN
  refine po_bind (po_fold (fun g => (g.length : Int) = N) h3' fun g x hg hx => ?_) fun g hg => po_ok hg
  obtain ⟨hx0, hx1⟩ := rng_mem.mp hx
  refine po_mod n0 fun r0 r1 => po_get r0 (by omega) fun _ _ _ => po_get (by omega) hx1 fun _ _ _ => po_set r0 (by omega) ?_
  show ((List.set _ _ _).length : Int) = N
  rw [List.length_set]
  exact hg
theorem state_ok (c : Int) : Post (law_state c) Ok2 noX := by
  unfold law_state
  refine po_bind (Q := fun g => 0 ≤ g) (po_if (fun k => ?_) fun _ => Int.le_refl 0) fun g hg => ?_
  · have : (10 : Int) ^ (18 : Int).toNat ≤ c := of_decide_eq_true k
    have h2 : (0 : Int) ≤ (10 : Int) ^ (18 : Int).toNat := by decide
    show 0 ≤ c
    omega
  · exact ⟨_, _, rfl, hg, Int.emod_nonneg _ (by decide), Int.emod_lt_of_pos _ (by decide)⟩
theorem place_ok {n p : Int} {t : Tup (Int × Int)} (p0 : 0 ≤ p) (p1 : p < n) : place_asked (n, t) p = R.ok () := by
  unfold place_asked
  dsimp only
  rw [decide_eq_true p0, decide_eq_true p1]
  rfl
theorem nbr_ok {n p : Int} {ts : List (Int × Int)} (h : WebOk n ts) (p0 : 0 ≤ p) (p1 : p < n) : neighbours_of (n, ⟨ts⟩) p = R.ok (sortI (nbs ts p)) := by
  unfold neighbours_of
  rw [place_ok p0 p1, ok_bind, web_near h, ok_bind, nears_get p0 p1]
  rfl
/-- how far each place is from one -/
noncomputable def farL (n : Int) (ts : List (Int × Int)) (p : Int) : List Int := (rng 0 n).map (dst n ts p)
theorem farL_get {n p v : Int} {ts : List (Int × Int)} (v0 : 0 ≤ v) (v1 : v < n) : getI (farL n ts p) v = R.ok (dst n ts p v) := getI_eq v0 (map_rng_get v0 v1)
theorem allS_map {α : Type} (l : List α) : allS (l.map some) = R.ok l := allS_iff.mpr rfl
theorem fars_ok {n p : Int} {ts : List (Int × Int)} (h : WebOk n ts) (p0 : 0 ≤ p) (p1 : p < n) : fars_from (n, ⟨ts⟩) p = R.ok (farL n ts p) := by
  unfold fars_from
  rw [place_ok p0 p1, ok_bind, web_near h, ok_bind, web_fars h p0 p1, ok_bind]
  have e : (rng 0 n).map (fun v => some (dst n ts p v)) = ((rng 0 n).map (dst n ts p)).map some := by rw [List.map_map]; rfl
  rw [e, allS_map]
  rfl
/-- how far all places are from all -/
noncomputable def tabL (n : Int) (ts : List (Int × Int)) : List (List Int) := (rng 0 n).map fun p => (rng 0 n).map (dst n ts p)
theorem tab_get {n p : Int} {ts : List (Int × Int)} (p0 : 0 ≤ p) (p1 : p < n) : getI (tabL n ts) p = R.ok ((rng 0 n).map (dst n ts p)) := getI_eq p0 (map_rng_get p0 p1)
theorem row_get {n p v : Int} {ts : List (Int × Int)} (v0 : 0 ≤ v) (v1 : v < n) : getI ((rng 0 n).map (dst n ts p)) v = R.ok (dst n ts p v) := getI_eq v0 (map_rng_get v0 v1)
theorem table_ok {n : Int} {ts : List (Int × Int)} (h : WebOk n ts) : table_of (n, ⟨ts⟩) = R.ok (tabL n ts) := by
  have hn1 := h.n1
  have hn := h.n60
  refine po_iff ?_
  unfold table_of
  refine po_rng (by decide) (by decide) (by show -(2 ^ 62) ≤ n; omega) (by show n < 2 ^ 62; omega) ?_
  refine po_mapGE (g := fun p => (rng 0 n).map (dst n ts p)) (by show (rng 0 n).length < 100000; rw [rng_length]; omega) (fun p hp => ?_) rfl
  rw [fars_ok h (rng_mem.mp hp).1 (rng_mem.mp hp).2]
  rfl
/-- how far a thing is -/
noncomputable def farT (n : Int) (ts : List (Int × Int)) (p : Int) : Thing → Int
  | .pl i => dst n ts p i
  | .ti a b => min2 (dst n ts p a) (dst n ts p b)
def ThOk (n : Int) (ts : List (Int × Int)) : Thing → Prop
  | .pl i => 0 ≤ i ∧ i < n
  | .ti a b => (a, b) ∈ ts
theorem far_by_ok {n p : Int} {ts : List (Int × Int)} {t : Thing} (h : WebOk n ts) (p0 : 0 ≤ p) (p1 : p < n) (ht : ThOk n ts t) : far_by (tabL n ts) p t = R.ok (farT n ts p t) := by
  unfold far_by
  cases t with
  | pl i =>
    show (asPl (.pl i) >>= _) = _
    rw [show asPl (.pl i) = R.ok i from rfl, ok_bind, tab_get p0 p1, ok_bind, row_get ht.1 ht.2]
    rfl
  | ti a b =>
    have hr := h.rg4 _ (show (a, b) ∈ ts from ht)
    show (asTi (.ti a b) >>= _) = _
    rw [show asTi (.ti a b) = R.ok (a, b) from rfl, ok_bind, tab_get p0 p1, ok_bind, row_get hr.1 hr.2.1, ok_bind, ok_bind, row_get hr.2.2.1 hr.2.2.2]
    rfl
theorem thing_ok {n : Int} {ts : List (Int × Int)} {t : Thing} (ht : ThOk n ts t) : thing_asked (n, ⟨ts⟩) t = R.ok () := by
  unfold thing_asked
  cases t with
  | pl i =>
    show (asPl (.pl i) >>= _) = _
    rw [show asPl (.pl i) = R.ok i from rfl, ok_bind, decide_eq_true ht.1, decide_eq_true (show i < (n, (⟨ts⟩ : Tup (Int × Int))).1 from ht.2)]
    rfl
  | ti a b =>
    show (asTi (.ti a b) >>= _) = _
    rw [show asTi (.ti a b) = R.ok (a, b) from rfl, ok_bind, inB_t.mpr (show (a, b) ∈ (n, (⟨ts⟩ : Tup (Int × Int))).2.l from ht)]
    rfl
/-- a rising list of places -/
structure LooksOk (n : Int) (ls : List Int) : Prop where
  rg : ∀ l ∈ ls, 0 ≤ l ∧ l < n
  up : ls.Pairwise (· < ·)
theorem LooksOk.len {n : Int} {ls : List Int} (h : LooksOk n ls) : ls.length ≤ n.toNat := by
  have := nodup_le (h.up.imp fun z => Int.ne_of_lt z) (ys := rng 0 n) fun v hv => rng_mem.mpr (h.rg v hv)
  rw [rng_length] at this
  omega
theorem looks_ok {n : Int} {t : Tup (Int × Int)} {ls : List Int} (h : LooksOk n ls) : looks_asked (n, t) ls = R.ok () := by
  refine po_iff ?_
  unfold looks_asked
  refine po_bind (po_fold (fun _ => True) trivial fun s x _ hx => ?_) fun _ _ => rfl
  obtain ⟨x0, x1, ex⟩ := enum_mem hx
  have hm := List.mem_of_getElem? ex
  have hr := h.rg _ hm
  refine po_bind (Q := fun j => j = false) (po_if (fun c => ?_) fun _ => ?_) fun j hj => ?_
  · rw [decide_eq_true hr.1, decide_eq_true (show x.2 < (n, t).1 from hr.2)] at c
    exact absurd c (by decide)
  · refine po_bind (Q := fun j => j = false) (po_if (fun c => ?_) fun _ => rfl) fun j hj => hj
    have c' := of_decide_eq_true c
    refine po_get (by omega) (by omega) fun y _ ey => ?_
    refine decide_eq_false ?_
    obtain ⟨i1, e1⟩ := List.getElem?_eq_some_iff.mp ey
    obtain ⟨i2, e2⟩ := List.getElem?_eq_some_iff.mp ex
    have := List.pairwise_iff_getElem.mp h.up _ _ i1 i2 (by omega)
    rw [e1, e2] at this
    omega
  · rw [hj]
    exact trivial
theorem codeOf_ok {n : Int} {ts : List (Int × Int)} {ls : List Int} {t : Thing} (h : WebOk n ts) (hl : LooksOk n ls) (ht : ThOk n ts t) : code_of (n, ⟨ts⟩) ls t = R.ok (ls.map fun l => farT n ts l t) := by
  have := hl.len
  have hn := h.n60
  unfold code_of
  rw [looks_ok hl, ok_bind, thing_ok ht, ok_bind, table_ok h, ok_bind]
  rw [mapG_ok (g := fun l => farT n ts l t) (by omega) fun l hm => by
    rw [far_by_ok h (hl.rg l hm).1 (hl.rg l hm).2 ht]
    rfl]
  rfl
/-! ### what has one code, in lists -/
section
variable {κ α : Type} [DecidableEq κ]
def kstep (ks : List κ) (k : κ) : List κ := if k ∈ ks then ks else ks ++ [k]
def keysG (c : α → κ) (ts : List α) : List κ := (ts.map c).foldl kstep []
def rowsG (c : α → κ) (ks : List κ) (ts : List α) : List (List α) := ks.map fun k => ts.filter fun t => decide (c t = k)
def likesG (c : α → κ) (ts : List α) : List (List α) := (rowsG c (keysG c ts) ts).filter fun r => decide ((1 : Int) < (r.length : Int))
theorem keysG_snoc (c : α → κ) (ts : List α) (t : α) : keysG c (ts ++ [t]) = kstep (keysG c ts) (c t) := by
  unfold keysG
  rw [List.map_append, List.foldl_append]
  rfl
theorem kstep_mem {ks : List κ} {k j : κ} : j ∈ kstep ks k ↔ j ∈ ks ∨ j = k := by
  unfold kstep
  by_cases h : k ∈ ks
  · rw [if_pos h]
    exact ⟨.inl, fun z => z.elim id fun e => e ▸ h⟩
  · rw [if_neg h]
    simp
theorem kstep_nodup {ks : List κ} {k : κ} (h : ks.Nodup) : (kstep ks k).Nodup := by
  unfold kstep
  by_cases q : k ∈ ks
  · rw [if_pos q]; exact h
  · rw [if_neg q]
    rw [List.nodup_append]
    refine ⟨h, by simp, fun a ha b hb e => ?_⟩
    simp at hb
    subst hb
    exact q (e ▸ ha)
theorem snoc_ind {α : Type} {P : List α → Prop} (h0 : P []) (hs : ∀ xs x, P xs → P (xs ++ [x])) (xs : List α) : P xs := by
  have : P xs.reverse.reverse := by
    induction xs.reverse with
    | nil => exact h0
    | cons x l ih =>
      rw [List.reverse_cons]
      exact hs _ _ ih
  rwa [List.reverse_reverse] at this
theorem keysG_mem {c : α → κ} {ts : List α} {k : κ} : k ∈ keysG c ts ↔ ∃ t ∈ ts, c t = k := by
  induction ts using snoc_ind with
  | h0 => simp [keysG]
  | hs ts t ih =>
    rw [keysG_snoc, kstep_mem, ih]
    constructor
    · rintro (⟨u, hu, e⟩ | rfl)
      · exact ⟨u, List.mem_append_left _ hu, e⟩
      · exact ⟨t, by simp, rfl⟩
    · rintro ⟨u, hu, e⟩
      rcases List.mem_append.mp hu with h | h
      · exact .inl ⟨u, h, e⟩
      · simp at h
        exact .inr (h ▸ e.symm)
theorem keysG_nodup {c : α → κ} {ts : List α} : (keysG c ts).Nodup := by
  induction ts using snoc_ind with
  | h0 => exact List.Pairwise.nil
  | hs ts t ih => rw [keysG_snoc]; exact kstep_nodup ih
theorem keysG_len {c : α → κ} {ts : List α} : (keysG c ts).length ≤ ts.length := by
  induction ts using snoc_ind with
  | h0 => exact Nat.le_refl _
  | hs ts t ih =>
    rw [keysG_snoc, List.length_append]
    unfold kstep
    split
    · omega
    · rw [List.length_append]; simp; omega
/-- the rows once a new code has an empty row -/
theorem rowsG_new {c : α → κ} {ts : List α} {k : κ} (h : k ∉ keysG c ts) : rowsG c (keysG c ts ++ [k]) ts = rowsG c (keysG c ts) ts ++ [[]] := by
  unfold rowsG
  rw [List.map_append, List.map_cons, List.map_nil]
  congr 2
  rw [List.filter_eq_nil_iff]
  intro t ht e
  exact h (keysG_mem.mpr ⟨t, ht, of_decide_eq_true e⟩)
theorem rowsG_get {c : α → κ} {ks : List κ} {ts : List α} {j : Nat} {k : κ} (h : ks[j]? = some k) : (rowsG c ks ts)[j]? = some (ts.filter fun t => decide (c t = k)) := by
  unfold rowsG
  rw [List.getElem?_map, h]
  rfl
theorem rowsG_set {c : α → κ} {ks : List κ} {ts : List α} {t : α} {j : Nat} (hd : ks.Nodup) (h : ks[j]? = some (c t)) : (rowsG c ks ts).set j ((ts.filter fun u => decide (c u = c t)) ++ [t]) = rowsG c ks (ts ++ [t]) := by
  refine List.ext_getElem? fun i => ?_
  unfold rowsG
  rw [List.getElem?_set, List.getElem?_map, List.getElem?_map, List.length_map]
  obtain ⟨hj, ej⟩ := List.getElem?_eq_some_iff.mp h
  by_cases e : j = i
  · subst e
    rw [if_pos rfl, if_pos hj, h]
    simp
  · rw [if_neg e]
    cases q : ks[i]? with
    | none => rfl
    | some k =>
      have : c t ≠ k := fun z => by
        obtain ⟨hi, ei⟩ := List.getElem?_eq_some_iff.mp q
        rcases Nat.lt_or_gt_of_ne e with l | l
        · exact List.pairwise_iff_getElem.mp hd _ _ hj hi l (by rw [ej, ei, z])
        · exact List.pairwise_iff_getElem.mp hd _ _ hi hj l (by rw [ej, ei, z])
      simp [this]
end
/-! ### a fold that leaves, by what is gone through -/
theorem po_foldXP {β α ρ : Type} {f : β → α → R (Sum ρ (Bool × β))} {s : β} {xs : List α} {X : Exn → Prop} (I : List α → β → Prop) (P : ρ → Prop) (h0 : I [] s)
    (hf : ∀ pre s x post, xs = pre ++ x :: post → I pre s → Post (f s x) (fun r => (∃ z, r = .inl z ∧ P z) ∨ ∃ s', r = .inr (true, s') ∧ I (pre ++ [x]) s') X) : Post (foldX f s xs) (fun r => (∃ z, r = .inl z ∧ P z) ∨ ∃ s', r = .inr s' ∧ I xs s') X := by
  have key : ∀ (l pre : List α) (s : β), xs = pre ++ l → I pre s → Post (foldX f s l) (fun r => (∃ z, r = .inl z ∧ P z) ∨ ∃ s', r = .inr s' ∧ I xs s') X := by
    intro l
    induction l with
    | nil =>
      intro pre s e h
      rw [List.append_nil] at e
      rw [e]
      exact .inr ⟨s, rfl, h⟩
    | cons x l ih =>
      intro pre s e h
      refine po_bind (hf pre s x l e h) fun r hr => ?_
      rcases hr with ⟨z, rfl, hz⟩ | ⟨s', rfl, hs⟩
      · exact .inl ⟨z, rfl, hz⟩
      · exact ih (pre ++ [x]) s' (by rw [e, List.append_assoc]; rfl) hs
  exact key xs [] s rfl h0
/-! the same web, its places called otherwise -/
section
variable {n : Int} {ts : List (Int × Int)} {o : List Int}
def nmO (o : List Int) (k : Int) : Int := o.getD k.toNat 0
variable (ho : o.Perm (rng 0 n)) (h : WebOk n ts)
include ho h
end
theorem nm_get {m : Int} {o : List Int} (ho : o.Perm (rng 0 m)) {x : Int} (x0 : 0 ≤ x) (x1 : x < m) : getI o x = R.ok (nmO o x) := by
  obtain ⟨y, ey, _⟩ := perm_get ho (by omega) x0 x1
  refine getI_eq x0 ?_
  unfold nmO
  rw [List.getD_eq_getElem?_getD, ey]
  rfl
/-! ### webs of the hunts' and the asks' laws: their places named by a drawn order -/
theorem few_up {ps : List (Int × Int)} {n : Int} (hn : n ≤ 26) (hd : ps.Nodup) (hr : ∀ p ∈ ps, 0 ≤ p.1 ∧ p.1 < p.2 ∧ p.2 < n) : ps.length ≤ 700 := by
  have h1 : (ps.map fun p => p.1 * 26 + p.2).Nodup := by
    refine List.pairwise_map.mpr (hd.imp_of_mem ?_)
    intro a b ha hb hne e
    have ra := hr a ha
    have rb := hr b hb
    exact hne (Prod.ext (by omega) (by omega))
  have h2 := nodup_le h1 (ys := rng 0 676) fun x hx => by
    obtain ⟨p, hp, rfl⟩ := List.mem_map.mp hx
    have := hr p hp
    exact rng_mem.mpr ⟨by omega, by omega⟩
  rw [List.length_map, rng_length] at h2
  have : ((676 : Int) - 0).toNat = 676 := by decide
  omega
structure UpOk (n : Int) (g : List (Int × Int)) : Prop where
  rg : ∀ p ∈ g, 0 ≤ p.1 ∧ p.1 < p.2 ∧ p.2 < n
  nd : g.Nodup
  dn : ∀ j, 1 ≤ j → j < n → ∃ i, 0 ≤ i ∧ i < j ∧ (i, j) ∈ g
theorem UpOk.len {n : Int} {g : List (Int × Int)} (h : UpOk n g) (hn : n ≤ 26) : g.length ≤ 700 := few_up hn h.nd h.rg
theorem UpOk.ties {n : Int} {g : List (Int × Int)} (h : UpOk n g) (hn : n ≤ 26) : TiesOk 700 n g := ⟨h.rg, h.nd, conn_tree fun k k1 kn => by
  obtain ⟨i, i0, ik, hi⟩ := h.dn k k1 kn
  exact ⟨i, i0, ik, .inl hi⟩, h.len hn⟩
theorem UpOk.add {n : Int} {g us : List (Int × Int)} (h : UpOk n g) (hr : ∀ p ∈ us, 0 ≤ p.1 ∧ p.1 < p.2 ∧ p.2 < n) (hd : us.Nodup) (hx : ∀ p ∈ us, p ∉ g) : UpOk n (g ++ us) := ⟨fun p hp => (List.mem_append.mp hp).elim (h.rg p) (hr p), by
  rw [List.nodup_append]
  exact ⟨h.nd, hd, fun a ha b hb e => hx b hb (e ▸ ha)⟩, fun j j1 jn => by
  obtain ⟨i, i0, ik, hi⟩ := h.dn j j1 jn
  exact ⟨i, i0, ik, List.mem_append_left _ hi⟩⟩
def rowP (n : Int) : List (Int × Int) := (rng 0 (n - 1)).map fun b => (b, b + 1)
def starP (n : Int) : List (Int × Int) := (rng 1 n).map fun b => (0, b)
theorem row_up {n : Int} : UpOk n (rowP n) := ⟨fun p hp => by
    obtain ⟨b, hb, rfl⟩ := List.mem_map.mp hp
    have := rng_mem.mp hb
    exact ⟨this.1, by show b < b + 1; omega, by show b + 1 < n; omega⟩, by
    refine List.pairwise_map.mpr ((rng_nodup 0 (n - 1)).imp ?_)
    intro a b hab e
    exact hab (congrArg Prod.fst e), fun j j1 jn => ⟨j - 1, by omega, by omega, List.mem_map.mpr ⟨j - 1, rng_mem.mpr ⟨by omega, by omega⟩, Prod.ext rfl (by show j - 1 + 1 = j; omega)⟩⟩⟩
theorem star_up {n : Int} : UpOk n (starP n) := ⟨fun p hp => by
    obtain ⟨b, hb, rfl⟩ := List.mem_map.mp hp
    have := rng_mem.mp hb
    exact ⟨Int.le_refl 0, by show 0 < b; omega, this.2⟩, by
    refine List.pairwise_map.mpr ((rng_nodup 1 n).imp ?_)
    intro a b hab e
    exact hab (congrArg Prod.snd e), fun j j1 jn => ⟨0, by omega, by omega, List.mem_map.mpr ⟨j, rng_mem.mpr ⟨j1, jn⟩, rfl⟩⟩⟩
theorem row_tail {n : Int} {p : Int × Int} (h : p ∈ (rowP n).drop 1) : 1 ≤ p.1 ∧ p ∈ rowP n := by
  refine ⟨?_, List.mem_of_mem_drop h⟩
  obtain ⟨i, hi⟩ := List.mem_iff_getElem?.mp h
  rw [List.getElem?_drop] at hi
  unfold rowP at hi
  rw [List.getElem?_map] at hi
  cases e : (rng 0 (n - 1))[1 + i]? with
  | none => rw [e] at hi; cases hi
  | some x =>
    rw [e] at hi
    cases hi
    have hl := (List.getElem?_eq_some_iff.mp e).1
    rw [rng_length] at hl
    rw [rng_atE hl] at e
    cases e
    show (1 : Int) ≤ 0 + ((1 + i : Nat) : Int)
    omega
theorem fan_up {n : Int} : UpOk n ((rowP n).drop 1 ++ starP n) := by
  refine ⟨fun p hp => (List.mem_append.mp hp).elim (fun z => row_up.rg p (row_tail z).2) (star_up.rg p), ?_, fun j j1 jn => ?_⟩
  · rw [List.nodup_append]
    refine ⟨List.Pairwise.drop row_up.nd, star_up.nd, fun a ha b hb e => ?_⟩
    have h1 := (row_tail ha).1
    obtain ⟨x, _, rfl⟩ := List.mem_map.mp hb
    rw [e] at h1
    have : (1 : Int) ≤ 0 := h1
    omega
  · obtain ⟨i, i0, ik, hi⟩ := star_up.dn j j1 jn
    exact ⟨i, i0, ik, List.mem_append_right _ hi⟩
theorem cut_one {α : Type} (xs : List α) : cutL xs (some (1 : Int)) none = xs.drop 1 := by
  cases xs with
  | nil => rfl
  | cons x xs =>
    unfold cutL
    have h1 : HT.sIx (x :: xs).length 0 (some (1 : Int)) = 1 := by
      unfold HT.sIx
      simp
    have h2 : HT.sIx (x :: xs).length (x :: xs).length (none : Option Int) = (x :: xs).length := rfl
    rw [h1, h2]
    simp
theorem web_named {s : List Int} {lo hi : Int} (h : Ok2 s) (l1 : 1 ≤ lo) (l2 : lo ≤ hi) (l3 : hi ≤ 26) : Post (law_web s lo hi) (fun r => ∃ n ts, r.1 = (n, ⟨ts⟩) ∧ lo ≤ n ∧ n ≤ hi ∧ WebOk n ts ∧ Ok2 r.2) noX := by
  unfold law_web
  refine po_bind (next_ok h (by omega) (by omega)) fun y3 ⟨a0, a1, h3⟩ => po_bind (next_ok h3 (by decide) (by decide)) fun y5 ⟨b0, b1, h5⟩ => ?_
  generalize hn : lo + y3.1 = n
  have n1 : 1 ≤ n := by omega
  have n2 : n ≤ 26 := by omega
  refine po_rng (by decide) (by decide) (by omega) (by omega) ?_
  refine po_mapGE (g := fun b => (b, b + 1)) (by rw [rng_length]; omega) (fun b _ => rfl) ?_
  have er : (rng 0 (n - 1)).map (fun b => (b, b + 1)) = rowP n := rfl
  rw [er]
  have lr : (rowP n).length ≤ 700 := row_up.len n2
  refine po_bind (Q := fun g => UpOk n g ∧ (y5.1 ≠ 1 → g = rowP n)) (po_if (fun c => ?_) fun c => ⟨row_up, fun _ => rfl⟩) fun g12 ⟨u12, e12⟩ => ?_
  · rw [Bool.and_eq_true] at c
    have c1 := of_decide_eq_true c.1
    have c2 := of_decide_eq_true c.2
    refine po_app (by omega) ⟨row_up.add (fun p hp => ?_) (by simp) (fun p hp z => ?_), fun z => absurd c1 z⟩
    · rw [List.mem_singleton.mp hp]
      exact ⟨by show (0 : Int) ≤ 0; omega, by show (0 : Int) < n - 1; omega, by show n - 1 < n; omega⟩
    · rw [List.mem_singleton.mp hp] at z
      obtain ⟨x, _, ex⟩ := List.mem_map.mp z
      have e1 : x = 0 := congrArg Prod.fst ex
      have e2 : x + 1 = n - 1 := congrArg Prod.snd ex
      omega
  refine po_bind (Q := fun g => UpOk n g ∧ (y5.1 = 3 → g = rowP n)) (po_if (fun c => ?_) fun c => ⟨u12, fun z => e12 (by omega)⟩) fun g22 ⟨u22, e22⟩ => ?_
  · have c1 := of_decide_eq_true c
    refine po_rng (by decide) (by decide) (by omega) (by omega) ?_
    refine po_mapGE (g := fun b => ((0 : Int), b)) (by rw [rng_length]; omega) (fun b _ => rfl) ⟨star_up, fun z => by omega⟩
  refine po_bind (Q := fun g => UpOk n g) (po_if (fun c => ?_) fun c => u22) fun g32 u32 => ?_
  · have c1 := of_decide_eq_true c
    rw [e22 c1, cut_one]
    refine po_rng (by decide) (by decide) (by omega) (by omega) ?_
    refine po_mapGE (g := fun b => ((0 : Int), b)) (by rw [rng_length]; omega) (fun b _ => rfl) ?_
    have e2 : (rng 1 n).map (fun b => ((0 : Int), b)) = starP n := rfl
    rw [e2]
    have ls : (starP n).length ≤ 700 := star_up.len n2
    have ld : ((rowP n).drop 1).length ≤ (rowP n).length := by rw [List.length_drop]; omega
    exact po_extend (by omega) fan_up
  refine po_bind (Q := fun g => UpOk n g) (po_if (fun c => ?_) fun c => u32) fun g48 u48 => ?_
  · refine po_rng (by decide) (by decide) (by omega) (by omega) ?_
    refine po_bind (po_foldP (fun pre (g : List (Int × Int)) => (∀ p ∈ g, 0 ≤ p.1 ∧ p.1 < p.2 ∧ p.2 < n ∧ p.2 ∈ pre) ∧ g.Nodup ∧ ∀ j ∈ pre, 1 ≤ j → (0, j) ∈ g) ⟨fun _ z => (nomatch z), List.nodup_nil, fun _ z => (nomatch z)⟩ ?_) ?_
    · rintro pre g x post e ⟨h1, h2, h3⟩
      obtain ⟨ep, x0, x1⟩ := rng_split e
      have hl : g.length ≤ 700 := few_up n2 h2 fun p hp => ⟨(h1 p hp).1, (h1 p hp).2.1, (h1 p hp).2.2.1⟩
      refine po_rng (by decide) (by decide) (by omega) (by omega) ?_
      refine po_mapGE (g := fun b => (b, x)) (by rw [rng_length]; omega) (fun b _ => rfl) ?_
      refine po_extend (by rw [List.length_map, rng_length]; omega) ⟨fun p hp => ?_, ?_, fun j hj j1 => ?_⟩
      · rcases List.mem_append.mp hp with hp | hp
        · have := h1 p hp
          exact ⟨this.1, this.2.1, this.2.2.1, List.mem_append_left _ this.2.2.2⟩
        · obtain ⟨b, hb, rfl⟩ := List.mem_map.mp hp
          have := rng_mem.mp hb
          exact ⟨this.1, this.2, x1, List.mem_append_right _ (List.mem_singleton.mpr rfl)⟩
      · rw [List.nodup_append]
        refine ⟨h2, List.pairwise_map.mpr ((rng_nodup 0 x).imp fun hab e => hab (congrArg Prod.fst e)), fun a ha b hb e2 => ?_⟩
        obtain ⟨c, _, rfl⟩ := List.mem_map.mp hb
        have hp := (h1 a ha).2.2.2
        rw [e2, ep] at hp
        have := (rng_mem.mp hp).2
        dsimp only at this
        omega
      · rcases List.mem_append.mp hj with hj | hj
        · exact List.mem_append_left _ (h3 j hj j1)
        · rw [List.mem_singleton.mp hj] at j1 ⊢
          exact List.mem_append_right _ (List.mem_map.mpr ⟨0, rng_mem.mpr ⟨by omega, by omega⟩, rfl⟩)
    · rintro g ⟨h1, h2, h3⟩
      exact ⟨fun p hp => ⟨(h1 p hp).1, (h1 p hp).2.1, (h1 p hp).2.2.1⟩, h2, fun j j1 jn => ⟨0, by omega, by omega, h3 j (rng_mem.mpr ⟨by omega, jn⟩) j1⟩⟩
  refine po_bind (Q := fun (g : List (Int × Int) × List Int) => UpOk n g.1 ∧ Ok2 g.2) (po_if (fun c => ?_) fun c => ⟨u48, h5⟩) fun g66 ⟨u66, h66⟩ => ?_
  · refine po_rng (by decide) (by decide) (by omega) (by omega) ?_
    refine po_bind (po_mapStA (fun pre (ys : List (Int × Int)) (s : List Int) => Ok2 s ∧ ys.map (·.2) = pre ∧ ∀ p ∈ ys, 0 ≤ p.1 ∧ p.1 < p.2) (by rw [rng_length]; omega) ⟨h5, rfl, fun _ z => (nomatch z)⟩ ?_) ?_
    · rintro pre ys s x post e ⟨q1, q2, q3⟩
      obtain ⟨ep, x0, x1⟩ := rng_split e
      refine po_bind (next_ok q1 (by omega) (by omega)) fun y ⟨y0, y1, hy⟩ => ⟨hy, ?_, fun p hp => ?_⟩
      · rw [List.map_append, q2]
        rfl
      · rcases List.mem_append.mp hp with hp | hp
        · exact q3 p hp
        · rw [List.mem_singleton.mp hp]
          exact ⟨y0, y1⟩
    · rintro l71 ⟨q1, q2, q3⟩
      have ut : UpOk n l71.1 := by
        refine ⟨fun p hp => ?_, ?_, fun j j1 jn => ?_⟩
        · have hm : p.2 ∈ rng 1 n := by rw [← q2]; exact List.mem_map.mpr ⟨p, hp, rfl⟩
          have := q3 p hp
          exact ⟨this.1, this.2, (rng_mem.mp hm).2⟩
        · have := rng_nodup 1 n
          rw [← q2] at this
          exact (List.pairwise_map.mp this).imp fun hab e => hab (congrArg Prod.snd e)
        · have hm : j ∈ l71.1.map (·.2) := by rw [q2]; exact rng_mem.mpr ⟨j1, jn⟩
          obtain ⟨p, hp, rfl⟩ := List.mem_map.mp hm
          exact ⟨p.1, (q3 p hp).1, (q3 p hp).2, hp⟩
      refine po_bind (next_ok q1 (by decide) (by decide)) fun y82 ⟨c0, c1, h82⟩ => ?_
      refine po_rng (by decide) (by decide) (by omega) (by omega) ?_
      refine po_bind (po_fold (fun (g : List Int × List (Int × Int)) => Ok2 g.1 ∧ UpOk n g.2) ⟨h82, ut⟩ ?_) fun g ⟨k1, k2⟩ => ⟨k2, k1⟩
      rintro ⟨s, g⟩ x ⟨k1, k2⟩ _
      have k2' : UpOk n g := k2
      have hl := k2'.len n2
      refine po_bind (next_ok k1 (by omega) (by omega)) fun u ⟨u0, u1, hu⟩ => po_bind (next_ok hu (by omega) (by omega)) fun v ⟨v0, v1, hv⟩ => ?_
      refine po_if (fun c => ?_) fun _ => ⟨hv, k2⟩
      rw [Bool.and_eq_true] at c
      have c1 := of_decide_eq_true c.1
      refine po_app (by show g.length < 100000; omega) ⟨hv, k2'.add (fun p hp => ?_) (by simp) fun p hp z => ?_⟩
      · rw [List.mem_singleton.mp hp]
        exact ⟨u0, c1, v1⟩
      · rw [List.mem_singleton.mp hp] at z
        have c2 := c.2
        rw [inB_t.mpr z] at c2
        cases c2
  refine po_rng (by decide) (by decide) (by omega) (by omega) ?_
  refine po_bind (po_foldP (fun pre (g : List Int × List Int) => g.1.Perm pre ∧ Ok2 g.2) ⟨List.Perm.refl _, h66⟩ ?_) ?_
  · rintro pre ⟨l, p⟩ x post e ⟨h1, h2⟩
    have h1' : l.Perm pre := h1
    have hx := rng_pre e
    obtain ⟨_, x0, x1⟩ := rng_split e
    have hl := h1'.length_eq
    refine po_bind (next_ok h2 (by omega) (by omega)) fun y ⟨y0, y1, hy⟩ => ?_
    have hi : insR l y.1 x = R.ok (l.take y.1.toNat ++ [x] ++ l.drop y.1.toNat) := by
      unfold insR
      rw [if_pos ⟨by omega, y0, by omega⟩]
    show Post (insR l y.1 x >>= _) _ _
    rw [hi, ok_bind]
    refine ⟨?_, hy⟩
    show (l.take y.1.toNat ++ [x] ++ l.drop y.1.toNat).Perm (pre ++ [x])
    have p1 : (l.take y.1.toNat ++ [x] ++ l.drop y.1.toNat).Perm (l.take y.1.toNat ++ l.drop y.1.toNat ++ [x]) := by
      rw [List.append_assoc, List.append_assoc]
      exact List.Perm.append_left _ List.perm_append_comm
    rw [List.take_append_drop] at p1
    exact p1.trans (h1'.append_right _)
  · rintro ⟨o, s'⟩ ⟨ho, hs⟩
    have ho' : o.Perm (rng 0 n) := ho
    have hl := u66.len n2
    refine po_mapGE (g := fun p => (nmO o p.1, nmO o p.2)) (by omega) (fun p hp => ?_) ?_
    · have hr := u66.rg p hp
      show (getI o p.1 >>= _) = _
      rw [nm_get ho' hr.1 (by omega), ok_bind]
      show (getI o p.2 >>= _) = _
      rw [nm_get ho' (by omega) hr.2.2, ok_bind]
    · have w := moved_ok ho' n1 (by omega) (u66.ties n2)
      rw [made_ok w (us := g66.1.map fun p => (nmO o p.1, nmO o p.2)) (by
        rw [List.map_map]
        have : (nrm ∘ fun p : Int × Int => (nmO o p.1, nmO o p.2)) = moved o := rfl
        rw [this]
        exact (sortP_perm _).symm), ok_bind]
      exact ⟨n, _, rfl, by omega, by omega, w, hs⟩
section
variable {n : Int} {ts : List (Int × Int)}
noncomputable def tabD (n : Int) (ts : List (Int × Int)) : List (List Int) := (rng 0 n).map (farL n ts)
theorem tabD_get {i : Int} (i0 : 0 ≤ i) (i1 : i < n) : getI (tabD n ts) i = R.ok (farL n ts i) := getI_eq i0 (map_rng_get i0 i1)
theorem tabD_len (n0 : 0 ≤ n) : ((tabD n ts).length : Int) = n := by
  unfold tabD
  rw [List.length_map]
  exact rng_len n0
theorem table_by_ok (h : WebOk n ts) : table_by (n, ⟨ts⟩) = R.ok (tabD n ts) := by
  have := h.n1
  have := h.n60
  unfold table_by
  rw [rngI_ok (by decide) (by decide) (by show -(2 ^ 62) ≤ n; omega) (by show n < 2 ^ 62; omega), ok_bind, mapG_ok (g := farL n ts) (by rw [rng_length]; show (n - 0).toNat < 100000; omega) fun x hx => by
    have := rng_mem.mp hx
    rw [fars_ok h this.1 this.2]
    rfl]
  rfl
end
/-! ### rising tuples -/
theorem fil_map {α β : Type} (l : List α) (P : α → Bool) (f : α → β) : l.filterMap (fun b => if P b = true then some (f b) else none) = (l.filter P).map f := by
  induction l with
  | nil => rfl
  | cons x l ih =>
    rw [List.filterMap_cons, List.filter_cons]
    by_cases h : P x = true
    · rw [if_pos h, if_pos h, List.map_cons, ih]
    · rw [if_neg h, if_neg h, ih]
def setsA (few : Int) : Nat → List (Tup Int)
  | 0 => [Tup.mk []]
  | k + 1 => setsA few k ++ ((setsA few k).filter fun s => decide ((s.l.length : Int) < few)).map fun s => Tup.mk (s.l ++ [(k : Int)])
def Ris (n : Int) (l : List Int) : Prop := l.Pairwise (· < ·) ∧ ∀ x ∈ l, 0 ≤ x ∧ x < n
theorem Ris.nd {n : Int} {l : List Int} (h : Ris n l) : l.Nodup := h.1.imp fun z => by omega
theorem Ris.len {n : Int} {l : List Int} (h : Ris n l) : l.length ≤ n.toNat := by
  have := nodup_le h.nd (ys := rng 0 n) fun x hx => rng_mem.mpr (h.2 x hx)
  rw [rng_length] at this
  omega
theorem ris_last {k : Int} {l : List Int} (h : Ris (k + 1) l) (hk : k ∈ l) : ∃ t, l = t ++ [k] ∧ Ris k t := by
  obtain ⟨a, b, rfl⟩ := List.append_of_mem hk
  obtain ⟨h1, h2⟩ := h
  rw [List.pairwise_append] at h1
  have hb : b = [] := by
    cases b with
    | nil => rfl
    | cons y ys =>
      have q1 := (List.pairwise_cons.mp h1.2.1).1 y (by simp)
      have q2 := h2 y (by simp)
      omega
  subst hb
  exact ⟨a, rfl, h1.1, fun x hx => ⟨(h2 x (by simp [hx])).1, h1.2.2 x hx k (by simp)⟩⟩
theorem setsA_mem {few : Int} (hf : 0 ≤ few) : ∀ {k : Nat} {s : Tup Int}, s ∈ setsA few k ↔ Ris k s.l ∧ (s.l.length : Int) ≤ few
  | 0, s => by
    show s ∈ [Tup.mk []] ↔ _
    rw [List.mem_singleton]
    constructor
    · rintro rfl
      exact ⟨⟨List.Pairwise.nil, fun _ z => nomatch z⟩, hf⟩
    · rintro ⟨⟨_, h⟩, _⟩
      obtain ⟨l⟩ := s
      cases l with
      | nil => rfl
      | cons x l =>
        have h0 := h x (by simp)
        have h1 : x < ((0 : Nat) : Int) := h0.2
        omega
  | k + 1, s => by
    show s ∈ setsA few k ++ _ ↔ _
    rw [List.mem_append, setsA_mem hf, List.mem_map]
    have e1 : ((k + 1 : Nat) : Int) = (k : Int) + 1 := by omega
    rw [e1]
    constructor
    · rintro (⟨h1, h2⟩ | ⟨t, ht, rfl⟩)
      · exact ⟨⟨h1.1, fun x hx => by have := h1.2 x hx; omega⟩, h2⟩
      · obtain ⟨ht1, ht2⟩ := List.mem_filter.mp ht
        have hl := of_decide_eq_true ht2
        obtain ⟨⟨h1, h2⟩, h3⟩ := (setsA_mem hf).mp ht1
        refine ⟨⟨?_, fun x hx => ?_⟩, ?_⟩
        · show (t.l ++ [(k : Int)]).Pairwise _
          rw [List.pairwise_append]
          refine ⟨h1, by simp, fun a ha b hb => ?_⟩
          rw [List.mem_singleton.mp hb]
          exact (h2 a ha).2
        · rcases List.mem_append.mp hx with hx | hx
          · have := h2 x hx
            omega
          · rw [List.mem_singleton.mp hx]
            omega
        · show ((t.l ++ [(k : Int)]).length : Int) ≤ few
          rw [List.length_append]
          show ((t.l.length + 1 : Nat) : Int) ≤ few
          omega
    · rintro ⟨h1, h2⟩
      by_cases hk : (k : Int) ∈ s.l
      · obtain ⟨t, et, ht⟩ := ris_last h1 hk
        refine .inr ⟨⟨t⟩, List.mem_filter.mpr ⟨(setsA_mem hf).mpr ⟨ht, ?_⟩, decide_eq_true ?_⟩, ?_⟩
        · rw [et, List.length_append] at h2
          have h2' : ((t.length + 1 : Nat) : Int) ≤ few := h2
          show (t.length : Int) ≤ few
          omega
        · rw [et, List.length_append] at h2
          have h2' : ((t.length + 1 : Nat) : Int) ≤ few := h2
          show (t.length : Int) < few
          omega
        · obtain ⟨l⟩ := s
          exact congrArg Tup.mk et.symm
      · refine .inl ⟨⟨h1.1, fun x hx => ?_⟩, h2⟩
        have := h1.2 x hx
        have : x ≠ k := fun e => hk (e ▸ hx)
        omega
theorem setsA_nodup {few : Int} (hf : 0 ≤ few) : ∀ k : Nat, (setsA few k).Nodup
  | 0 => by simp [setsA]
  | k + 1 => by
    show (setsA few k ++ _).Nodup
    rw [List.nodup_append]
    refine ⟨setsA_nodup hf k, List.pairwise_map.mpr ((List.Pairwise.filter _ (setsA_nodup hf k)).imp ?_), fun a ha b hb e => ?_⟩
    · rintro ⟨x⟩ ⟨y⟩ hab e
      injection e with e
      exact hab (congrArg Tup.mk (List.append_cancel_right e))
    · obtain ⟨t, _, rfl⟩ := List.mem_map.mp hb
      have := ((setsA_mem hf).mp ha).1.2 k (by rw [e]; simp)
      omega
theorem setsA_len {few : Int} : ∀ k : Nat, (setsA few k).length ≤ 2 ^ k
  | 0 => Nat.le_refl _
  | k + 1 => by
    show (setsA few k ++ _).length ≤ _
    rw [List.length_append, List.length_map]
    have h1 := setsA_len (few := few) k
    have h2 : ((setsA few k).filter fun s => decide ((s.l.length : Int) < few)).length ≤ (setsA few k).length := List.length_filter_le _ _
    rw [Nat.pow_succ]
    omega
theorem setsA_12 {few : Int} {k : Nat} (h : k ≤ 12) : (setsA few k).length ≤ 4096 := Nat.le_trans (setsA_len k) (Nat.le_trans (Nat.pow_le_pow_right (by decide) h) (by decide))
def setsN (n few : Int) : List (Tup Int) := (setsA few n.toNat).filter fun s => decide ((s.l.length : Int) = min2 n few)
theorem min2_comm (a b : Int) : min2 a b = min2 b a := by
  unfold min2
  by_cases h : b < a
  · rw [if_pos h, if_neg (by omega)]
  · rw [if_neg h]
    by_cases h2 : a < b
    · rw [if_pos h2]
    · rw [if_neg h2]
      omega
theorem setsN_mem {n few : Int} (n0 : 0 ≤ n) (hf : 0 ≤ few) {s : Tup Int} : s ∈ setsN n few ↔ Ris n s.l ∧ (s.l.length : Int) = min2 n few := by
  unfold setsN
  rw [List.mem_filter, setsA_mem hf, show ((n.toNat : Nat) : Int) = n by omega, decide_eq_true_iff]
  constructor
  · rintro ⟨⟨h1, _⟩, h2⟩
    exact ⟨h1, h2⟩
  · rintro ⟨h1, h2⟩
    refine ⟨⟨h1, ?_⟩, h2⟩
    rcases mm_cases n few with ⟨e, _, z⟩ | ⟨e, _, z⟩ <;> omega
theorem setsN_len {n few : Int} (h : n ≤ 12) : (setsN n few).length ≤ 4096 := Nat.le_trans (List.length_filter_le _ _) (setsA_12 (by omega))
theorem ris_rng {k n : Int} (hk : k ≤ n) : Ris n (rng 0 k) := ⟨rng_sorted 0 k, fun x hx => by have := rng_mem.mp hx; omega⟩
theorem sets_fold {n few : Int} (n0 : 0 ≤ n) (n12 : n ≤ 12) : foldR (fun (g7 : (List (Tup Int))) (b7 : Int) => do
      let l10 ← filG (fun (b10 : (Tup Int)) => do
          if (decide ((b10.l.length : Int) < few)) = true then do
            let l17 ← extend b10.l (Tup.mk [b7] : (Tup Int)).l
            R.ok (some (Tup.mk l17 : (Tup Int)))
          else
            R.ok none) g7
      let l19 ← extend g7 l10
      R.ok l19) ([(Tup.mk [] : (Tup Int))] : (List (Tup Int))) (rng 0 n) = R.ok (setsA few n.toNat) := by
  refine po_iff ?_
  have lr : (rng 0 n).length = n.toNat := by rw [rng_length]; omega
  rw [← lr]
  refine po_foldP (fun pre (g : List (Tup Int)) => g = setsA few pre.length ∧ ∀ s ∈ g, s.l.length ≤ pre.length) ⟨rfl, fun s hs => by rw [List.mem_singleton.mp hs]; exact Nat.le_refl _⟩ ?_ |>.mono (fun _ h => h.1) fun _ z => z
  rintro pre g x post e ⟨rfl, hl⟩
  have ex := rng_pre e
  obtain ⟨_, x0, x1⟩ := rng_split e
  have h12 : (setsA few pre.length).length ≤ 4096 := setsA_12 (by omega)
  refine po_filGE (g := fun s => if decide ((s.l.length : Int) < few) = true then some (Tup.mk (s.l ++ [x])) else none) (by omega) (fun s hs => ?_) ?_
  · by_cases c : decide ((s.l.length : Int) < few) = true
    · rw [if_pos c, if_pos c, extend_ok (by have := hl s hs; show s.l.length + 1 < 100000; omega)]
      rfl
    · rw [if_neg c, if_neg c]
  · rw [fil_map]
    have h2 : ((setsA few pre.length).filter fun s => decide ((s.l.length : Int) < few)).length ≤ (setsA few pre.length).length := List.length_filter_le _ _
    refine po_extend (by rw [List.length_map]; omega) ⟨?_, fun s hs => ?_⟩
    · rw [List.length_append, List.length_singleton, show x = (pre.length : Int) by omega]
      rfl
    · rw [List.length_append, List.length_singleton]
      rcases List.mem_append.mp hs with hs | hs
      · have := hl s hs
        omega
      · obtain ⟨t, ht, rfl⟩ := List.mem_map.mp hs
        have := hl t (List.mem_filter.mp ht).1
        show (t.l ++ [x]).length ≤ _
        rw [List.length_append, List.length_singleton]
        omega
theorem looks_of_ok {n few : Int} (n0 : 0 ≤ n) (n12 : n ≤ 12) : looks_of n few = R.ok (setsN n few) := by
  unfold looks_of
  rw [rngI_ok (by decide) (by decide) (by omega) (by omega), ok_bind, sets_fold n0 n12, ok_bind]
  rw [filG_ok (g := fun s => if decide ((s.l.length : Int) = min2 n few) = true then some s else none) (by have := setsA_12 (few := few) (k := n.toNat) (by omega); omega) (fun s _ => by
    rw [min2_comm few n]
    by_cases c : decide ((s.l.length : Int) = min2 n few) = true
    · rw [if_pos c, if_pos c]
    · rw [if_neg c, if_neg c]), fil_ite]
  rfl
/-- all standings of two places or more -/
def stands (n : Int) : List (Tup Int) := (setsA n n.toNat).filter fun s => decide ((1 : Int) < (s.l.length : Int))
theorem stands_mem {n : Int} (n0 : 0 ≤ n) {s : Tup Int} : s ∈ stands n ↔ Ris n s.l ∧ 2 ≤ s.l.length := by
  unfold stands
  rw [List.mem_filter, setsA_mem n0, show ((n.toNat : Nat) : Int) = n by omega, decide_eq_true_iff]
  constructor
  · rintro ⟨⟨h1, _⟩, h2⟩
    exact ⟨h1, by omega⟩
  · rintro ⟨h1, h2⟩
    have := h1.len
    exact ⟨⟨h1, by omega⟩, by omega⟩
theorem stands_nodup {n : Int} (n0 : 0 ≤ n) : (stands n).Nodup := List.Pairwise.filter _ (setsA_nodup n0 _)
theorem stands_len {n : Int} (n7 : n ≤ 7) : (stands n).length ≤ 128 := Nat.le_trans (List.length_filter_le _ _) (Nat.le_trans (setsA_len _) (Nat.le_trans (Nat.pow_le_pow_right (by decide) (show n.toNat ≤ 7 by omega)) (by decide)))
theorem all_standings_ok {n : Int} (n0 : 0 ≤ n) (n12 : n ≤ 12) : all_standings n = R.ok (stands n) := by
  unfold all_standings
  rw [rngI_ok (by decide) (by decide) (by omega) (by omega), ok_bind]
  have lr : (rng 0 n).length = n.toNat := by rw [rng_length]; omega
  have key : foldR (fun (g7 : (List (Tup Int))) (b7 : Int) => do
      let l10 ← mapG (fun (b10 : (Tup Int)) => do
          let l16 ← extend b10.l (Tup.mk [b7] : (Tup Int)).l
          R.ok (Tup.mk l16 : (Tup Int))) g7
      let l18 ← extend g7 l10
      R.ok l18) ([(Tup.mk [] : (Tup Int))] : (List (Tup Int))) (rng 0 n) = R.ok (setsA n n.toNat) := by
    refine po_iff ?_
    rw [← lr]
    refine po_foldP (fun pre (g : List (Tup Int)) => g = setsA n pre.length ∧ ∀ s ∈ g, s.l.length ≤ pre.length) ⟨rfl, fun s hs => by rw [List.mem_singleton.mp hs]; exact Nat.le_refl _⟩ ?_ |>.mono (fun _ h => h.1) fun _ z => z
    rintro pre g x post e ⟨rfl, hl⟩
    have ex := rng_pre e
    obtain ⟨_, x0, x1⟩ := rng_split e
    have h12 : (setsA n pre.length).length ≤ 4096 := setsA_12 (by omega)
    refine po_mapGE (g := fun s => Tup.mk (s.l ++ [x])) (by omega) (fun s hs => ?_) ?_
    · rw [extend_ok (by have := hl s hs; show s.l.length + 1 < 100000; omega)]
      rfl
    · refine po_extend (by rw [List.length_map]; omega) ⟨?_, fun s hs => ?_⟩
      · rw [List.length_append, List.length_singleton]
        show _ = setsA n pre.length ++ _
        have e2 : ((setsA n pre.length).filter fun s => decide ((s.l.length : Int) < n)) = setsA n pre.length := List.filter_eq_self.mpr fun s hs => decide_eq_true (by have := hl s hs; omega)
        rw [e2, show x = (pre.length : Int) by omega]
      · rw [List.length_append, List.length_singleton]
        rcases List.mem_append.mp hs with hs | hs
        · have := hl s hs
          omega
        · obtain ⟨t, ht, rfl⟩ := List.mem_map.mp hs
          have := hl t ht
          show (t.l ++ [x]).length ≤ _
          rw [List.length_append, List.length_singleton]
          omega
  rw [key, ok_bind]
  rw [filG_ok (g := fun s => if decide ((1 : Int) < (s.l.length : Int)) = true then some s else none) (by have := setsA_12 (few := n) (k := n.toNat) (by omega); omega) (fun s _ => by
    by_cases c : decide ((1 : Int) < (s.l.length : Int)) = true
    · rw [if_pos c, if_pos c]
    · rw [if_neg c, if_neg c]), fil_ite]
  rfl
theorem mget_at {κ β : Type} [DecidableEq κ] {k : κ} : ∀ {m : List (κ × β)}, mhas m k = true → ∃ (j : Nat) (v : β), m[j]? = some (k, v) ∧ mget m k = some v
  | [], h => by cases h
  | p :: m, h => by
    rw [mget_cons]
    by_cases e : p.1 = k
    · rw [if_pos e]
      exact ⟨0, p.2, by rw [← e]; rfl, rfl⟩
    · rw [if_neg e]
      have h' : mhas m k = true := by
        unfold mhas at h ⊢
        rw [List.any_cons, decide_eq_false e, Bool.false_or] at h
        exact h
      obtain ⟨j, v, h1, h2⟩ := mget_at h'
      exact ⟨j + 1, v, by simpa using h1, h2⟩
/-- a dict of numbers of lists, and what these hold -/
structure GS {κ : Type} (ks : List κ) (rows : List (List Int)) (g : List (κ × Nat) × List (List Int)) : Prop where
  ks : g.1.map (·.1) = ks
  nd : (g.1.map (·.2)).Nodup
  vals : g.1.map (fun p => g.2[p.2]?) = rows.map some
theorem GS.lt {κ : Type} {ks : List κ} {rows : List (List Int)} {g : List (κ × Nat) × List (List Int)} (h : GS ks rows g) {p : κ × Nat} (hp : p ∈ g.1) : p.2 < g.2.length := by
  have hm : g.2[p.2]? ∈ g.1.map (fun p => g.2[p.2]?) := List.mem_map.mpr ⟨p, hp, rfl⟩
  rw [h.vals] at hm
  obtain ⟨r, _, hr⟩ := List.mem_map.mp hm
  exact (List.getElem?_eq_some_iff.mp hr.symm).1
theorem GS.step {κ : Type} [DecidableEq κ] {c : Int → κ} {pre : List Int} {x : Int} {g : List (κ × Nat) × List (List Int)} (h : GS (keysG c pre) (rowsG c (keysG c pre) pre) g) (hl : pre.length < 1000) : Post (do
      let r20 ← newS g.2 ([] : (List Int))
      let l21 ← msetdR g.1 (c x) r20.1
      let t21 ← mgetR l21 (c x)
      let x24 ← getS r20.2 t21
      let l25 ← app x24 x
      let r25 ← setS r20.2 t21 l25
      R.ok (l21, r25)) (fun g => GS (keysG c (pre ++ [x])) (rowsG c (keysG c (pre ++ [x])) (pre ++ [x])) g) noX := by
  obtain ⟨m, st⟩ := g
  have hk : m.map (·.1) = keysG c pre := h.ks
  have hv : m.map (fun p => st[p.2]?) = (rowsG c (keysG c pre) pre).map some := h.vals
  have hd : (m.map (·.2)).Nodup := h.nd
  have hml : m.length ≤ pre.length := by
    have := congrArg List.length hk
    rw [List.length_map] at this
    have := keysG_len (c := c) (ts := pre)
    omega
  have hfl : ∀ k, (pre.filter fun u => decide (c u = k)).length < 1000 := fun k => Nat.lt_of_le_of_lt (List.length_filter_le _ _) hl
  refine po_newS ?_
  refine po_msetd (by show m.length < 100000; omega) ?_
  show Post (mgetR (msetd m (c x) st.length) (c x) >>= _) _ _
  by_cases q : c x ∈ keysG c pre
  · have hm : mhas m (c x) = true := by
      rw [mhas_keys]
      unfold mkeys
      rw [hk]
      exact q
    have e1 : msetd m (c x) st.length = m := by
      unfold msetd
      rw [if_pos hm]
    rw [e1]
    obtain ⟨j, t, hj, hg⟩ := mget_at hm
    refine po_mgetE hg ?_
    have hkj : (keysG c pre)[j]? = some (c x) := by rw [← hk, List.getElem?_map, hj]; rfl
    have hrow := rowsG_get (ts := pre) (c := c) hkj
    have hst : st[t]? = some (pre.filter fun u => decide (c u = c x)) := by
      have := congrArg (fun l => l[j]?) hv
      rw [List.getElem?_map, List.getElem?_map, hj, hrow] at this
      simpa using this
    have ht := (List.getElem?_eq_some_iff.mp hst).1
    refine po_getS (by show (st ++ [[]])[t]? = _; rw [List.getElem?_append_left ht]; exact hst) ?_
    refine po_app (by have := hfl (c x); omega) (po_setS ?_)
    have ek : keysG c (pre ++ [x]) = keysG c pre := by
      rw [keysG_snoc]
      unfold kstep
      rw [if_pos q]
    rw [ek]
    refine ⟨hk, hd, ?_⟩
    rw [← rowsG_set keysG_nodup hkj]
    refine List.ext_getElem? fun i => ?_
    rw [List.getElem?_map, List.getElem?_map, List.getElem?_set]
    show (m[i]?).map (fun p => ((st ++ [[]]).set t ((pre.filter fun u => decide (c u = c x)) ++ [x]))[p.2]?) = _
    have hlen : (rowsG c (keysG c pre) pre).length = m.length := by
      have := congrArg List.length hv
      rw [List.length_map, List.length_map] at this
      exact this.symm
    by_cases e : j = i
    · subst e
      have hjl : j < m.length := (List.getElem?_eq_some_iff.mp hj).1
      rw [if_pos rfl, if_pos (by omega), hj]
      show some (((st ++ [[]]).set t _)[t]?) = _
      rw [List.getElem?_set_self (by rw [List.length_append]; omega)]
      rfl
    · rw [if_neg e]
      have hvi := congrArg (fun l => l[i]?) hv
      rw [List.getElem?_map, List.getElem?_map] at hvi
      rw [← hvi]
      cases ei : m[i]? with
      | none => rfl
      | some p =>
        have hp : p ∈ m := List.mem_of_getElem? ei
        have hpl : p.2 < st.length := h.lt hp
        have hne : t ≠ p.2 := by
          intro z
          have hi := (List.getElem?_eq_some_iff.mp ei).1
          have hjl := (List.getElem?_eq_some_iff.mp hj).1
          have a1 : (m.map (·.2))[j]? = some t := by rw [List.getElem?_map, hj]; rfl
          have a2 : (m.map (·.2))[i]? = some t := by rw [List.getElem?_map, ei, z]; rfl
          obtain ⟨b1, c1⟩ := List.getElem?_eq_some_iff.mp a1
          obtain ⟨b2, c2⟩ := List.getElem?_eq_some_iff.mp a2
          rcases Nat.lt_or_gt_of_ne e with l | l
          · exact List.pairwise_iff_getElem.mp hd _ _ b1 b2 l (by rw [c1, c2])
          · exact List.pairwise_iff_getElem.mp hd _ _ b2 b1 l (by rw [c1, c2])
        show some (((st ++ [[]]).set t _)[p.2]?) = some (st[p.2]?)
        rw [List.getElem?_set_ne hne, List.getElem?_append_left hpl]
  · have hm : mhas m (c x) = false := by
      cases z : mhas m (c x) with
      | false => rfl
      | true =>
        rw [mhas_keys] at z
        unfold mkeys at z
        rw [hk] at z
        exact absurd z q
    have e1 : msetd m (c x) st.length = m ++ [(c x, st.length)] := by
      unfold msetd
      rw [if_neg (by rw [hm]; decide), mput_new hm]
    rw [e1]
    have hg : mget (m ++ [(c x, st.length)]) (c x) = some st.length := by
      have : mget m (c x) = none := by
        have := mhas_mget m (c x)
        rw [hm] at this
        cases z : mget m (c x) with
        | none => rfl
        | some v => rw [z] at this; cases this
      rw [mget_append, this, mget_cons, if_pos rfl]
      rfl
    refine po_mgetE hg ?_
    refine po_getS (xs := []) (by show (st ++ [[]])[st.length]? = _; rw [List.getElem?_append_right (Nat.le_refl _)]; simp) ?_
    refine po_app (by decide) (po_setS ?_)
    have ek : keysG c (pre ++ [x]) = keysG c pre ++ [c x] := by
      rw [keysG_snoc]
      unfold kstep
      rw [if_neg q]
    have hf0 : (pre.filter fun u => decide (c u = c x)) = [] := by
      rw [List.filter_eq_nil_iff]
      intro t ht e
      exact q (keysG_mem.mpr ⟨t, ht, of_decide_eq_true e⟩)
    have er : rowsG c (keysG c pre ++ [c x]) (pre ++ [x]) = rowsG c (keysG c pre) pre ++ [[x]] := by
      have hn : (keysG c pre ++ [c x]).Nodup := by rw [← ek]; exact keysG_nodup
      have hj : (keysG c pre ++ [c x])[(keysG c pre).length]? = some (c x) := by
        rw [List.getElem?_append_right (Nat.le_refl _)]
        simp
      rw [← rowsG_set hn hj, rowsG_new q, hf0]
      have hl2 : (rowsG c (keysG c pre) pre).length = (keysG c pre).length := by unfold rowsG; rw [List.length_map]
      rw [← hl2, List.set_append_right _ _ (Nat.le_refl _)]
      simp
    rw [ek, er]
    refine ⟨?_, ?_, ?_⟩
    · show (m ++ [(c x, st.length)]).map (·.1) = _
      rw [List.map_append, hk]
      rfl
    · show ((m ++ [(c x, st.length)]).map (·.2)).Nodup
      rw [List.map_append, List.nodup_append]
      refine ⟨hd, by simp, fun a ha b hb e => ?_⟩
      obtain ⟨p, hp, rfl⟩ := List.mem_map.mp ha
      have hb' : b = st.length := by simpa using hb
      have hpl : p.2 < st.length := h.lt hp
      omega
    · show (m ++ [(c x, st.length)]).map (fun p => ((st ++ [[]]).set st.length ([] ++ [x]))[p.2]?) = _
      have es : (st ++ [[]]).set st.length ([] ++ [x]) = st ++ [[x]] := by
        rw [List.set_append_right _ _ (Nat.le_refl _)]
        simp
      rw [es, List.map_append, List.map_append, ← hv]
      congr 1
      · refine List.map_congr_left fun p hp => ?_
        rw [List.getElem?_append_left (h.lt hp)]
      · show [(st ++ [[x]])[st.length]?] = _
        rw [List.getElem?_append_right (Nat.le_refl _)]
        simp
theorem derefT_of {st : List (List Int)} : ∀ {m : List (Tup Int × Nat)} {rows : List (List Int)}, m.map (fun p => st[p.2]?) = rows.map some → ∃ l, derefT st m = R.ok l ∧ l.map (·.2) = rows
  | [], rows, h => by
    cases rows with
    | nil => exact ⟨[], rfl, rfl⟩
    | cons r rows => cases h
  | p :: m, rows, h => by
    cases rows with
    | nil => cases h
    | cons r rows =>
      rw [List.map_cons, List.map_cons] at h
      injection h with h1 h2
      obtain ⟨l, e1, e2⟩ := derefT_of h2
      refine ⟨(p.1, r) :: l, ?_, by rw [List.map_cons, e2]⟩
      have e1' : mapR (fun p : Tup Int × Nat => getS st p.2 >>= fun x => R.ok (p.1, x)) m = R.ok l := e1
      show ((getS st p.2 >>= fun x => R.ok (p.1, x)) >>= fun y => mapR (fun p : Tup Int × Nat => getS st p.2 >>= fun x => R.ok (p.1, x)) m >>= fun ys => R.ok (y :: ys)) = _
      have : getS st p.2 = R.ok r := by
        unfold getS
        rw [h1]
        rfl
      rw [this, ok_bind, ok_bind, e1', ok_bind]
section
variable {n : Int} {ts : List (Int × Int)}
noncomputable def codeL (n : Int) (ts : List (Int × Int)) (L : List Int) (p : Int) : Tup Int := Tup.mk (L.map fun l => dst n ts l p)
noncomputable def nearT (n : Int) (ts : List (Int × Int)) (part : List Int) : Tup Int := Tup.mk ((rng 0 n).filter fun v => part.any fun p => decide (dst n ts v p < 2))
/-- where the parts of two places or more lead -/
noncomputable def onw (n : Int) (ts : List (Int × Int)) (L st : List Int) : List (Tup Int) := (likesG (codeL n ts L) st).map (nearT n ts)
def InW (n : Int) (l : List Int) : Prop := ∀ x ∈ l, 0 ≤ x ∧ x < n
theorem likes_in {κ : Type} [DecidableEq κ] {c : Int → κ} {st part : List Int} (h : part ∈ likesG c st) : (∀ x ∈ part, x ∈ st) ∧ part.length ≤ st.length ∧ 2 ≤ part.length := by
  unfold likesG at h
  obtain ⟨h1, h2⟩ := List.mem_filter.mp h
  obtain ⟨k, _, rfl⟩ := List.mem_map.mp h1
  refine ⟨fun x hx => (List.mem_filter.mp hx).1, List.length_filter_le _ _, ?_⟩
  have := of_decide_eq_true h2
  omega
theorem gone_on_ok {part : List Int} (n0 : 0 ≤ n) (n60 : n ≤ 60) (hp : InW n part) (hl : part.length < 1000) : gone_on (tabD n ts) part = R.ok (nearT n ts part) := by
  unfold gone_on
  rw [tabD_len n0, rngI_ok (by decide) (by decide) (by omega) (by omega), ok_bind]
  rw [filG_ok (g := fun v => if (part.any fun p => decide (dst n ts v p < 2)) = true then some v else none) (by rw [rng_length]; omega) (fun v hv => ?_), fil_ite]
  · rfl
  · have hv' := rng_mem.mp hv
    rw [mapG_ok (g := fun p => decide (dst n ts v p < 2)) (by omega) (fun p hpp => ?_), ok_bind, List.any_map]
    · by_cases c : (part.any fun p => decide (dst n ts v p < 2)) = true
      · rw [if_pos c, if_pos (show part.any (id ∘ fun p => decide (dst n ts v p < 2)) = true from c)]
      · rw [if_neg c, if_neg (show ¬ part.any (id ∘ fun p => decide (dst n ts v p < 2)) = true from c)]
    · have := hp p hpp
      rw [tabD_get hv'.1 hv'.2, ok_bind, farL_get this.1 this.2]
      rfl
theorem code_ok {L : List Int} {p : Int} (hL : InW n L) (hl : L.length < 1000) (p0 : 0 ≤ p) (p1 : p < n) : mapG (fun (b9 : Int) => do
          let t12 ← getI (tabD n ts) b9
          let t14 ← getI t12 p
          R.ok t14) L = R.ok (codeL n ts L p).l := mapG_ok (by omega) fun l hl => by
  have := hL l hl
  rw [tabD_get this.1 this.2, ok_bind, farL_get p0 p1]
  rfl
theorem next_standings_ok {st L : List Int} (n0 : 0 ≤ n) (n60 : n ≤ 60) (hs : InW n st) (hsl : st.length < 1000) (hL : InW n L) (hl : L.length < 1000) : next_standings (tabD n ts) ⟨st⟩ ⟨L⟩ = R.ok (onw n ts L st) := by
  refine po_iff ?_
  unfold next_standings
  refine po_bind (po_foldP (fun pre (g : List (Tup Int × Nat) × List (List Int)) => GS (keysG (codeL n ts L) pre) (rowsG (codeL n ts L) (keysG (codeL n ts L) pre) pre) g) ⟨rfl, List.Pairwise.nil, rfl⟩ ?_) ?_
  · rintro pre g x post e h
    have e' : st = pre ++ x :: post := e
    have hx := hs x (by rw [e']; simp)
    rw [code_ok hL hl hx.1 hx.2, ok_bind]
    exact h.step (by have := congrArg List.length e'; rw [List.length_append, List.length_cons] at this; omega)
  · rintro g h
    obtain ⟨l, e1, e2⟩ := derefT_of (st := g.2) h.vals
    rw [e1, ok_bind, e2]
    refine po_filGE (g := fun r => if decide ((1 : Int) < (r.length : Int)) = true then some (nearT n ts r) else none) ?_ (fun r hr => ?_) ?_
    · unfold rowsG
      rw [List.length_map]
      have := keysG_len (c := codeL n ts L) (ts := st)
      show (keysG (codeL n ts L) st).length < 100000
      omega
    · obtain ⟨k, _, rfl⟩ := List.mem_map.mp hr
      by_cases c : decide ((1 : Int) < ((st.filter fun t => decide (codeL n ts L t = k)).length : Int)) = true
      · rw [if_pos c, if_pos c, gone_on_ok n0 n60 (fun x hx => hs x (List.mem_filter.mp hx).1) (Nat.lt_of_le_of_lt (List.length_filter_le _ _) hsl)]
        rfl
      · rw [if_neg c, if_neg c]
    · rw [fil_map]
      rfl
end
/-! ### the class Hunting -/
section
variable {n m : Int} {ts : List (Int × Int)}
theorem likes_pairL {κ : Type} [DecidableEq κ] {c : Int → κ} {st part : List Int} (h : part ∈ likesG c st) : ∃ k, part = st.filter fun t => decide (c t = k) := by
  unfold likesG at h
  obtain ⟨h1, h2⟩ := List.mem_filter.mp h
  obtain ⟨k, _, rfl⟩ := List.mem_map.mp h1
  exact ⟨k, rfl⟩
theorem near_has (h : WebOk n ts) {part : List Int} (hp : InW n part) : ∀ x ∈ part, x ∈ (nearT n ts part).l := fun x hx => by
  have := hp x hx
  refine List.mem_filter.mpr ⟨rng_mem.mpr this, List.any_eq_true.mpr ⟨x, hx, decide_eq_true ?_⟩⟩
  rw [(web_dist h this.1 this.2).zero]
  decide
theorem near_ris (part : List Int) : Ris n (nearT n ts part).l := ⟨List.Pairwise.filter _ (rng_sorted 0 n), fun x hx => rng_mem.mp (List.mem_filter.mp hx).1⟩
theorem onw_stand (h : WebOk n ts) {L : List Int} {s : Tup Int} (hs : s ∈ stands n) {b : Tup Int} (hb : b ∈ onw n ts L s.l) : b ∈ stands n := by
  have n1 := h.n1
  obtain ⟨hr, h2⟩ := (stands_mem (by omega)).mp hs
  obtain ⟨part, hpart, rfl⟩ := List.mem_map.mp hb
  obtain ⟨i1, i2, i3⟩ := likes_in hpart
  obtain ⟨k, ek⟩ := likes_pairL hpart
  have hin : InW n part := fun x hx => hr.2 x (i1 x hx)
  refine (stands_mem (by omega)).mpr ⟨near_ris part, ?_⟩
  have nd : part.Nodup := by rw [ek]; exact List.Pairwise.filter _ hr.nd
  have := nodup_le nd (near_has h hin)
  omega
/-- one in a standing is found in so many turns -/
def Won (n : Int) (ts : List (Int × Int)) (m : Int) : Nat → Tup Int → Prop
  | 0, _ => False
  | t + 1, s => Won n ts m t s ∨ ∃ L ∈ setsN n m, ∀ b ∈ onw n ts L.l s.l, Won n ts m t b
theorem Won.up {t : Nat} {s : Tup Int} (h : Won n ts m t s) : Won n ts m (t + 1) s := .inl h
theorem Won.mono {s : Tup Int} : ∀ {t u : Nat}, t ≤ u → Won n ts m t s → Won n ts m u s
  | t, u, h, w => by
    induction u with
    | zero =>
      have : t = 0 := by omega
      exact this ▸ w
    | succ u ih =>
      by_cases e : t = u + 1
      · exact e ▸ w
      · exact (ih (by omega)).up
theorem won_first {s : Tup Int} {t : Nat} (h : Won n ts m t s) : ∃ j, 1 ≤ j ∧ j ≤ t ∧ Won n ts m j s ∧ ¬ Won n ts m (j - 1) s := by
  obtain ⟨j, h1, h2⟩ := least (P := fun t => Won n ts m t s) ⟨t, h⟩
  have j1 : 1 ≤ j := by
    cases j with
    | zero => exact absurd h1 id
    | succ j => omega
  refine ⟨j, j1, ?_, h1, h2 (j - 1) (by omega)⟩
  apply Classical.byContradiction
  intro z
  exact h2 t (by omega) h
theorem first_uniq {s : Tup Int} {i j : Nat} (h1 : Won n ts m i s ∧ ¬ Won n ts m (i - 1) s) (h2 : Won n ts m j s ∧ ¬ Won n ts m (j - 1) s) : i = j := by
  rcases Nat.lt_trichotomy i j with q | q | q
  · exact absurd (Won.mono (by omega) h1.1) h2.2
  · exact q
  · exact absurd (Won.mono (by omega) h2.1) h1.2
noncomputable def waysL (n : Int) (ts : List (Int × Int)) (m : Int) (s : Tup Int) : List (Tup Int × List (Tup Int)) := (setsN n m).map fun L => (L, onw n ts L.l s.l)
noncomputable def waysM (n : Int) (ts : List (Int × Int)) (m : Int) : List (Tup Int × List (Tup Int × List (Tup Int))) := (stands n).map fun s => (s, waysL n ts m s)
theorem mget_mapK {β κ : Type} [DecidableEq κ] {f : κ → β} {k : κ} : ∀ {ks : List κ}, k ∈ ks → mget (ks.map fun k => (k, f k)) k = some (f k)
  | j :: ks, h => by
    rw [List.map_cons, mget_cons]
    by_cases e : j = k
    · rw [if_pos e, e]
    · rw [if_neg e]
      exact mget_mapK ((List.mem_cons.mp h).resolve_left fun z => e z.symm)
theorem waysM_keys : (waysM n ts m).map (·.1) = stands n := by
  unfold waysM
  rw [List.map_map]
  exact List.map_id _
/-- what is known of turns at a round's start -/
structure TI (n : Int) (ts : List (Int × Int)) (m : Int) (t : Nat) (T : List (Tup Int × Int)) : Prop where
  has : ∀ s k, mget T s = some k ↔ s ∈ stands n ∧ ∃ j : Nat, k = j ∧ 1 ≤ j ∧ j ≤ t ∧ Won n ts m j s ∧ ¬ Won n ts m (j - 1) s
  nd : (mkeys T).Nodup
theorem TI.won {t : Nat} {T : List (Tup Int × Int)} (h : TI n ts m t T) {s : Tup Int} (hs : s ∈ stands n) : mhas T s = true ↔ Won n ts m t s := by
  rw [mhas_mget, Option.isSome_iff_exists]
  constructor
  · rintro ⟨k, hk⟩
    obtain ⟨_, j, _, _, hj, w, _⟩ := (h.has s k).mp hk
    exact w.mono hj
  · intro w
    obtain ⟨j, j1, jt, w1, w2⟩ := won_first w
    exact ⟨j, (h.has s j).mpr ⟨hs, j, rfl, j1, jt, w1, w2⟩⟩
theorem TI.sub {t : Nat} {T : List (Tup Int × Int)} (h : TI n ts m t T) {s : Tup Int} (hs : mhas T s = true) : s ∈ stands n := by
  rw [mhas_mget, Option.isSome_iff_exists] at hs
  obtain ⟨k, hk⟩ := hs
  exact ((h.has s k).mp hk).1
theorem TI.len {t : Nat} {T : List (Tup Int × Int)} (h : TI n ts m t T) : T.length ≤ (stands n).length := by
  rw [← mkeys_length]
  exact nodup_le h.nd fun s hs => h.sub (mhas_keys.mpr hs)
/-- what is known of looks -/
structure KI (n : Int) (ts : List (Int × Int)) (m : Int) (T : List (Tup Int × Int)) (K : List (Tup Int × Tup Int)) : Prop where
  of : ∀ s L, mget K s = some L → ∃ j : Nat, mget T s = some (j : Int) ∧ 1 ≤ j ∧ L ∈ setsN n m ∧ ∀ b ∈ onw n ts L.l s.l, Won n ts m (j - 1) b
  same : ∀ s, mhas K s = mhas T s
  nd : (mkeys K).Nodup
theorem KI.len {T : List (Tup Int × Int)} {K : List (Tup Int × Tup Int)} (h : KI n ts m T K) (hT : (mkeys T).Nodup) : K.length = T.length := by
  rw [← mkeys_length, ← mkeys_length T]
  refine nodup_len h.nd hT fun y => ?_
  rw [← mhas_keys, ← mhas_keys, h.same]
noncomputable def selfF (n : Int) (ts : List (Int × Int)) (m : Int) (T : List (Tup Int × Int)) (K : List (Tup Int × Tup Int)) : HuntingF := (tabD n ts, (FzT.mk (waysM n ts m) : FzT (List ((Tup Int) × (List (Tup Int))))), T, K, ())
theorem found_by_ok {T : List (Tup Int × Int)} {K : List (Tup Int × Tup Int)} {s : Tup Int} (n0 : 0 ≤ n) (m0 : 0 ≤ m) (n7 : n ≤ 7) (hs : s ∈ stands n) (hw : ∀ L ∈ setsN n m, (onw n ts L.l s.l).length < 1000) : Post (Hunting_found_by (selfF n ts m T K) s) (fun r => (∃ L, r = some L ∧ L ∈ setsN n m ∧ ∀ b ∈ onw n ts L.l s.l, mhas T b = true) ∨ (r = none ∧ ∀ L ∈ setsN n m, ∃ b ∈ onw n ts L.l s.l, mhas T b = false)) noX := by
  unfold Hunting_found_by
  refine po_mgetE (mget_mapK (f := waysL n ts m) hs) ?_
  refine po_bind (po_foldXP (fun (pre : List (Tup Int × List (Tup Int))) _ => ∀ p ∈ pre, ∃ b ∈ p.2, mhas T b = false) (fun (r : Option (Tup Int)) => ∃ L, r = some L ∧ L ∈ setsN n m ∧ ∀ b ∈ onw n ts L.l s.l, mhas T b = true) (fun _ z => nomatch z) ?_) ?_
  · rintro pre _ x post e hI
    have hx : x ∈ waysL n ts m s := by rw [e]; simp
    obtain ⟨L, hL, rfl⟩ := List.mem_map.mp hx
    have hwl := hw L hL
    refine po_mapGE (g := fun b => mhas T b) (by show (onw n ts L.l s.l).length < 100000; omega) (fun b _ => rfl) ?_
    refine po_if (fun c => ?_) fun c => ?_
    · refine .inl ⟨_, rfl, L, rfl, hL, fun b hb => ?_⟩
      rw [List.all_map, List.all_eq_true] at c
      exact c b hb
    · refine .inr ⟨(), rfl, fun p hp => ?_⟩
      rcases List.mem_append.mp hp with hp | hp
      · exact hI p hp
      · rw [List.mem_singleton.mp hp]
        apply Classical.byContradiction
        intro z
        apply c
        rw [List.all_map, List.all_eq_true]
        intro b hb
        cases q : mhas T b with
        | true => exact q
        | false => exact absurd ⟨b, hb, q⟩ z
  · rintro r (⟨z, rfl, hz⟩ | ⟨_, rfl, hz⟩)
    · exact .inl hz
    · exact .inr ⟨rfl, fun L hL => hz _ (List.mem_map.mpr ⟨L, hL, rfl⟩)⟩
theorem onw_len {L st : List Int} (hl : st.length < 900) : (onw n ts L st).length < 1000 := by
  unfold onw likesG
  rw [List.length_map]
  have h1 := List.length_filter_le (fun (r : List Int) => decide ((1 : Int) < (r.length : Int))) (rowsG (codeL n ts L) (keysG (codeL n ts L) st) st)
  have h2 : (rowsG (codeL n ts L) (keysG (codeL n ts L) st) st).length = (keysG (codeL n ts L) st).length := by unfold rowsG; rw [List.length_map]
  have h3 := keysG_len (c := codeL n ts L) (ts := st)
  omega
theorem onw_lenS {L st : List Int} : (onw n ts L st).length ≤ st.length := by
  unfold onw likesG
  rw [List.length_map]
  have h1 := List.length_filter_le (fun (r : List Int) => decide ((1 : Int) < (r.length : Int))) (rowsG (codeL n ts L) (keysG (codeL n ts L) st) st)
  have h2 : (rowsG (codeL n ts L) (keysG (codeL n ts L) st) st).length = (keysG (codeL n ts L) st).length := by unfold rowsG; rw [List.length_map]
  have h3 := keysG_len (c := codeL n ts L) (ts := st)
  omega
/-- what fill leaves: all that can be found has turns -/
structure Filled (n : Int) (ts : List (Int × Int)) (m : Int) (T : List (Tup Int × Int)) (K : List (Tup Int × Tup Int)) : Prop where
  ti : ∃ t, TI n ts m t T
  ki : KI n ts m T K
  all : ∀ s ∈ stands n, ∀ k, Won n ts m k s → mhas T s = true
theorem fill_ok (h : WebOk n ts) (n7 : n ≤ 7) (m0 : 0 ≤ m) : Post (Hunting_fill (selfF n ts m [] [])) (fun r => Filled n ts m r.2.1 r.2.2) noX := by
  have n1 := h.n1
  have hsl : ∀ s ∈ stands n, s.l.length ≤ 7 := fun s hs => by
    have := ((stands_mem (by omega)).mp hs).1.len
    omega
  have hw : ∀ s ∈ stands n, ∀ L ∈ setsN n m, (onw n ts L.l s.l).length < 1000 := fun s hs L _ => onw_len (by have := hsl s hs; omega)
  have hS := stands_len n7
  unfold Hunting_fill
  refine po_bind (Q := fun (g : Int × List An × List (Tup Int × Int) × List (Tup Int × Tup Int)) => Filled n ts m g.2.2.1 g.2.2.2) (po_while (fun (g : Int × List An × List (Tup Int × Int) × List (Tup Int × Tup Int)) => ∃ t : Nat, g.1 = t ∧ TI n ts m t g.2.2.1 ∧ KI n ts m g.2.2.1 g.2.2.2 ∧ (g.2.1 = [] → ∀ s ∈ stands n, Won n ts m (t + 1) s → Won n ts m t s)) (fun g => 2 * ((stands n).length - g.2.2.1.length) + (if g.2.1 = [] then 0 else 1)) ?_ ?_ ?_) ?_
  · rintro ⟨a, fr, T, K⟩ ⟨t, ha, hT, hK, hf⟩
    have ha' : a = (t : Int) := ha
    have hT' : TI n ts m t T := hT
    have hK' : KI n ts m T K := hK
    have hTl := hT'.len
    refine ⟨fun c => ?_, fun c => ?_⟩
    · have hfr : fr ≠ [] := by
        intro z
        have := of_decide_eq_true c
        change (0 : Int) < (fr.length : Int) at this
        rw [z] at this
        exact absurd this (by decide)
      show Post (foldR _ ([] : List (Tup Int × Tup Int)) ((waysM n ts m).map (·.1)) >>= _) _ _
      rw [waysM_keys]
      refine po_bind (po_foldP (fun pre (g : List (Tup Int × Tup Int)) => (∀ p ∈ g, p.1 ∈ pre ∧ mhas T p.1 = false ∧ p.2 ∈ setsN n m ∧ ∀ b ∈ onw n ts p.2.l p.1.l, mhas T b = true) ∧ (∀ s ∈ pre, mhas T s = false → (∃ L ∈ setsN n m, ∀ b ∈ onw n ts L.l s.l, mhas T b = true) → ∃ p ∈ g, p.1 = s) ∧ (g.map (·.1)).Nodup) ⟨fun _ z => (nomatch z), fun _ z => (nomatch z), List.Pairwise.nil⟩ ?_) ?_
      · rintro pre g x post e ⟨i1, i2, i3⟩
        have hx : x ∈ stands n := by rw [e]; simp
        have hnp : x ∉ pre := by
          intro z
          have nd := stands_nodup (n := n) (by omega)
          rw [e, List.nodup_append] at nd
          exact nd.2.2 x z x (by simp) rfl
        have hpre : ∀ s ∈ pre, s ∈ stands n := fun s hs => by rw [e]; simp [hs]
        have hgl : g.length ≤ 128 := by
          have := nodup_le i3 (ys := stands n) fun s hs => by
            obtain ⟨p, hp, rfl⟩ := List.mem_map.mp hs
            exact hpre _ (i1 p hp).1
          rw [List.length_map] at this
          omega
        refine po_if (fun c => ?_) fun c => ?_
        · have hx0 : mhas T x = false := by
            cases q : mhas T x with
            | false => rfl
            | true =>
              change (!mhas T x) = true at c
              rw [q] at c
              cases c
          refine po_bind (found_by_ok (n := n) (ts := ts) (m := m) (T := T) (K := K) (by omega) m0 n7 hx (hw x hx)) ?_
          rintro r (⟨L, rfl, hL, hb⟩ | ⟨rfl, hb⟩)
          · refine po_if (fun _ => ?_) fun q => absurd rfl q
            refine po_ofO rfl (po_app (by omega) ⟨fun p hp => ?_, fun s hs h0 hx1 => ?_, ?_⟩)
            · rcases List.mem_append.mp hp with hp | hp
              · exact ⟨List.mem_append_left _ (i1 p hp).1, (i1 p hp).2⟩
              · rw [List.mem_singleton.mp hp]
                exact ⟨by simp, hx0, hL, hb⟩
            · rcases List.mem_append.mp hs with hs | hs
              · obtain ⟨p, hp, ep⟩ := i2 s hs h0 hx1
                exact ⟨p, List.mem_append_left _ hp, ep⟩
              · exact ⟨(x, L), by simp, (List.mem_singleton.mp hs).symm⟩
            · rw [List.map_append, List.nodup_append]
              refine ⟨i3, by simp, fun a ha b hb2 e2 => ?_⟩
              obtain ⟨p, hp, rfl⟩ := List.mem_map.mp ha
              have : b = x := by simpa using hb2
              exact hnp (this ▸ e2 ▸ (i1 p hp).1)
          · refine po_if (fun q => by cases q) fun _ => ⟨fun p hp => ⟨List.mem_append_left _ (i1 p hp).1, (i1 p hp).2⟩, fun s hs h0 hx1 => ?_, i3⟩
            rcases List.mem_append.mp hs with hs | hs
            · exact i2 s hs h0 hx1
            · rw [List.mem_singleton.mp hs] at hx1
              obtain ⟨L, hL, hall⟩ := hx1
              obtain ⟨b, hb1, hb2⟩ := hb L hL
              rw [hall b hb1] at hb2
              cases hb2
        · have hx0 : mhas T x = true := by
            cases q : mhas T x with
            | true => rfl
            | false =>
              change ¬ (!mhas T x) = true at c
              rw [q] at c
              exact absurd rfl c
          refine ⟨fun p hp => ⟨List.mem_append_left _ (i1 p hp).1, (i1 p hp).2⟩, fun s hs h0 hx1 => ?_, i3⟩
          rcases List.mem_append.mp hs with hs | hs
          · exact i2 s hs h0 hx1
          · rw [List.mem_singleton.mp hs, hx0] at h0
            cases h0
      · rintro g20 ⟨i1, i2, i3⟩
        have hg128 : g20.length ≤ 128 := by
          have := nodup_le i3 (ys := stands n) fun s hs => by
            obtain ⟨p, hp, rfl⟩ := List.mem_map.mp hs
            exact (i1 p hp).1
          rw [List.length_map] at this
          omega
        refine po_bind (po_foldP (fun pre (g : List (Tup Int × Int) × List (Tup Int × Tup Int)) => (∀ s k, mget g.1 s = some k ↔ ((∃ p ∈ pre, p.1 = s) ∧ k = (t : Int) + 1) ∨ ((¬ ∃ p ∈ pre, p.1 = s) ∧ mget T s = some k)) ∧ (∀ s L, mget g.2 s = some L → (s, L) ∈ pre ∨ mget K s = some L) ∧ (∀ s, mhas g.2 s = mhas g.1 s) ∧ (mkeys g.1).Nodup ∧ (mkeys g.2).Nodup ∧ g.1.length = T.length + pre.length ∧ g.2.length ≤ T.length + pre.length) ⟨fun s k => ⟨fun z => .inr ⟨fun ⟨p, hp, _⟩ => (nomatch hp), z⟩, fun z => z.elim (fun ⟨⟨p, hp, _⟩, _⟩ => (nomatch hp)) fun z => z.2⟩, fun s L z => .inr z, hK'.same, hT'.nd, hK'.nd, rfl, by rw [show ((T, K) : List (Tup Int × Int) × List (Tup Int × Tup Int)).2 = K from rfl, hK'.len hT'.nd]; exact Nat.le_refl _⟩ ?_) ?_
        · rintro pre ⟨T', K'⟩ x post e ⟨q1, q2, q3, q4, q5, q6, q7⟩
          have q6' : T'.length = T.length + pre.length := q6
          have q7' : K'.length ≤ T.length + pre.length := q7
          have hpl : pre.length ≤ 128 := by
            have := congrArg List.length e
            rw [List.length_append, List.length_cons] at this
            omega
          have hx : x ∈ g20 := by rw [e]; simp
          have hnx : ¬ ∃ p ∈ pre, p.1 = x.1 := by
            rintro ⟨p, hp, ep⟩
            rw [e, List.map_append, List.nodup_append] at i3
            exact i3.2.2 p.1 (List.mem_map.mpr ⟨p, hp, rfl⟩) x.1 (by simp) ep
          have hx0 := (i1 x hx).2.1
          have hT0 : mhas T' x.1 = false := by
            cases z : mhas T' x.1 with
            | false => rfl
            | true =>
              rw [mhas_mget, Option.isSome_iff_exists] at z
              obtain ⟨k, hk⟩ := z
              rcases (q1 x.1 k).mp hk with ⟨y, _⟩ | ⟨_, y⟩
              · exact absurd y hnx
              · rw [mhas_mget, y] at hx0
                cases hx0
          have hK0 : mhas K' x.1 = false := by rw [q3]; exact hT0
          refine po_mput (by show T'.length < 100000; omega) (po_mput (by show K'.length < 100000; omega) ⟨fun s k => ?_, fun s L z => ?_, fun s => ?_, mkeys_nodup q4, mkeys_nodup q5, ?_, ?_⟩)
          · show mget (mput T' x.1 (a + 1)) s = some k ↔ _
            rw [mget_mput]
            by_cases es : s = x.1
            · rw [if_pos es]
              constructor
              · intro z
                refine .inl ⟨⟨x, by simp, es.symm⟩, ?_⟩
                cases z
                omega
              · rintro (⟨_, z⟩ | ⟨z, _⟩)
                · rw [z, ha']
                · exact absurd ⟨x, by simp, es.symm⟩ z
            · rw [if_neg es, q1 s k]
              have : (∃ p ∈ pre ++ [x], p.1 = s) ↔ ∃ p ∈ pre, p.1 = s := by
                constructor
                · rintro ⟨p, hp, ep⟩
                  rcases List.mem_append.mp hp with hp | hp
                  · exact ⟨p, hp, ep⟩
                  · rw [List.mem_singleton.mp hp] at ep
                    exact absurd ep.symm es
                · rintro ⟨p, hp, ep⟩
                  exact ⟨p, List.mem_append_left _ hp, ep⟩
              rw [this]
          · change mget (mput K' x.1 x.2) s = some L at z
            rw [mget_mput] at z
            by_cases es : s = x.1
            · rw [if_pos es] at z
              cases z
              exact .inl (by rw [es]; simp)
            · rw [if_neg es] at z
              exact (q2 s L z).imp (fun y => List.mem_append_left _ y) id
          · show mhas (mput K' x.1 x.2) s = mhas (mput T' x.1 (a + 1)) s
            rw [mhas_mget, mhas_mget, mget_mput, mget_mput]
            by_cases es : s = x.1
            · rw [if_pos es, if_pos es]
              rfl
            · rw [if_neg es, if_neg es, ← mhas_mget, ← mhas_mget]
              exact q3 s
          · show (mput T' x.1 (a + 1)).length = _
            rw [mput_length, hT0, List.length_append, List.length_singleton, q6']
            simp
            omega
          · show (mput K' x.1 x.2).length ≤ _
            rw [mput_length, hK0, List.length_append, List.length_singleton]
            simp
            omega
        · rintro ⟨T', K'⟩ ⟨q1, q2, q3, q4, q5, q6, q7⟩
          have q6' : T'.length = T.length + g20.length := q6
          have hg : ∀ s, (∃ p ∈ g20, p.1 = s) ↔ s ∈ stands n ∧ Won n ts m (t + 1) s ∧ ¬ Won n ts m t s := fun s => by
            constructor
            · rintro ⟨p, hp, rfl⟩
              obtain ⟨j1, j2, j3, j4⟩ := i1 p hp
              refine ⟨j1, .inr ⟨p.2, j3, fun b hb => ?_⟩, fun z => ?_⟩
              · exact (hT'.won (onw_stand h j1 hb)).mp (j4 b hb)
              · rw [(hT'.won j1).mpr z] at j2
                cases j2
            · rintro ⟨j1, j2, j3⟩
              have j4 : mhas T s = false := by
                cases z : mhas T s with
                | false => rfl
                | true => exact absurd ((hT'.won j1).mp z) j3
              rcases j2 with j2 | ⟨L, hL, hb⟩
              · exact absurd j2 j3
              · exact i2 s j1 j4 ⟨L, hL, fun b hbb => (hT'.won (onw_stand h j1 hbb)).mpr (hb b hbb)⟩
          have hT2 : TI n ts m (t + 1) T' := by
            refine ⟨fun s k => ?_, q4⟩
            rw [show mget T' s = mget ((T', K') : List (Tup Int × Int) × List (Tup Int × Tup Int)).1 s from rfl, q1 s k, hg s, hT'.has s k]
            constructor
            · rintro (⟨⟨j1, j2, j3⟩, rfl⟩ | ⟨_, j1, j, j2, j3, j4, j5⟩)
              · exact ⟨j1, t + 1, by omega, by omega, Nat.le_refl _, j2, j3⟩
              · exact ⟨j1, j, j2, j3, by omega, j5⟩
            · rintro ⟨j1, j, j2, j3, j4, j5, j6⟩
              by_cases ej : j = t + 1
              · subst ej
                exact .inl ⟨⟨j1, j5, j6⟩, by omega⟩
              · refine .inr ⟨fun z => z.2.2 (j5.mono (by omega)), j1, j, j2, j3, by omega, j5, j6⟩
          refine ⟨⟨t + 1, by show a + 1 = _; omega, hT2, ⟨fun s L z => ?_, q3, q5⟩, fun z s hs w => ?_⟩, ?_⟩
          · rcases q2 s L z with y | y
            · obtain ⟨j1, j2, j3, j4⟩ := i1 _ y
              refine ⟨t + 1, ?_, by omega, j3, fun b hb => ?_⟩
              · show mget ((T', K') : List (Tup Int × Int) × List (Tup Int × Tup Int)).1 s = _
                rw [q1 s]
                exact .inl ⟨⟨(s, L), y, rfl⟩, by omega⟩
              · exact (hT'.won (onw_stand h j1 hb)).mp (j4 b hb)
            · obtain ⟨j, j1, j2, j3, j4⟩ := hK'.of s L y
              refine ⟨j, ?_, j2, j3, j4⟩
              show mget ((T', K') : List (Tup Int × Int) × List (Tup Int × Tup Int)).1 s = _
              rw [q1 s]
              refine .inr ⟨fun y2 => ?_, j1⟩
              obtain ⟨p, hp, ep⟩ := y2
              have := (i1 p hp).2.1
              rw [ep, mhas_mget, j1] at this
              cases this
          · have hgn : g20 = [] := List.map_eq_nil_iff.mp z
            have fix : ∀ s ∈ stands n, Won n ts m (t + 1) s → Won n ts m t s := fun s hs w => by
              apply Classical.byContradiction
              intro y
              obtain ⟨p, hp, _⟩ := (hg s).mpr ⟨hs, w, y⟩
              rw [hgn] at hp
              cases hp
            rcases w with w | ⟨L, hL, hb⟩
            · exact w
            · exact .inr ⟨L, hL, fun b hbb => fix b (onw_stand h hs hbb) (hb b hbb)⟩
          · show 2 * ((stands n).length - T'.length) + (if (g20.map fun _ => An.a) = [] then 0 else 1) < 2 * ((stands n).length - T.length) + (if fr = [] then 0 else 1)
            have hl2 := hT2.len
            rw [if_neg hfr]
            by_cases hgn : g20 = []
            · rw [if_pos (by rw [hgn]; rfl)]
              omega
            · have : 0 < g20.length := List.length_pos_iff.mpr hgn
              split <;> omega
    · have hfr : fr = [] := by
        have := of_decide_eq_false c
        change ¬ (0 : Int) < (fr.length : Int) at this
        exact List.length_eq_zero_iff.mp (by omega)
      refine ⟨⟨t, hT'⟩, hK', fun s hs k w => ?_⟩
      have key : ∀ j, ∀ s ∈ stands n, Won n ts m (t + j) s → Won n ts m t s := fun j => by
        induction j with
        | zero => exact fun s _ w => w
        | succ j ih =>
          intro s hs w
          rcases (show Won n ts m ((t + j) + 1) s from w) with w | ⟨L, hL, hb⟩
          · exact ih s hs w
          · exact hf hfr s hs (.inr ⟨L, hL, fun b hbb => ih b (onw_stand h hs hbb) (hb b hbb)⟩)
      exact (hT'.won hs).mpr (key k s hs (w.mono (by omega)))
  · exact ⟨0, rfl, ⟨fun s k => ⟨fun z => (nomatch z), fun ⟨_, j, _, j1, j2, _⟩ => by omega⟩, List.Pairwise.nil⟩, ⟨fun s L z => (nomatch z), fun _ => rfl, List.Pairwise.nil⟩, fun z => (nomatch z)⟩
  · show 2 * ((stands n).length - 0) + (if ([An.a] : List An) = [] then 0 else 1) < fu 1000
    unfold fu
    split <;> omega
  · exact fun g hg => hg
end
/-! ### a hunt or a shelter -/
section
variable {n m : Int} {ts : List (Int × Int)}
theorem init_ok (h : WebOk n ts) (n7 : n ≤ 7) (m0 : 0 ≤ m) : Post (Hunting_init (n, ⟨ts⟩) m) (fun r => ∃ T K, r = selfF n ts m T K ∧ Filled n ts m T K) noX := by
  have n1 := h.n1
  unfold Hunting_init
  rw [table_by_ok h, ok_bind]
  show Post (all_standings n >>= _) _ _
  rw [all_standings_ok (by omega) (by omega), ok_bind]
  refine po_bind (po_foldP (fun pre (g : List (Tup Int × List (Tup Int × List (Tup Int)))) => g = pre.map fun s => (s, waysL n ts m s)) rfl ?_) ?_
  · rintro pre g x post e rfl
    have hx : x ∈ stands n := by rw [e]; simp
    obtain ⟨hr, _⟩ := (stands_mem (by omega)).mp hx
    have hxl := hr.len
    have hpl : pre.length ≤ 128 := by
      have h1 := congrArg List.length e
      rw [List.length_append, List.length_cons] at h1
      have := stands_len n7
      omega
    show Post (looks_of n m >>= _) _ _
    rw [looks_of_ok (by omega) (by omega), ok_bind]
    refine po_mapGE (g := fun L => (L, onw n ts L.l x.l)) (by have := setsN_len (n := n) (few := m) (by omega); omega) (fun L hL => ?_) ?_
    · obtain ⟨hLr, _⟩ := (setsN_mem (by omega) m0).mp hL
      have := hLr.len
      rw [next_standings_ok (st := x.l) (L := L.l) (by omega) (by omega) hr.2 (by omega) hLr.2 (by omega)]
      rfl
    · have hnp : mhas (pre.map fun s => (s, waysL n ts m s)) x = false := by
        refine Bool.eq_false_iff.mpr fun z => ?_
        obtain ⟨p, hp, ep⟩ := mhas_iff.mp z
        obtain ⟨s, hs, rfl⟩ := List.mem_map.mp hp
        have nd := stands_nodup (n := n) (by omega)
        rw [e, List.nodup_append] at nd
        exact nd.2.2 s hs x (by simp) ep
      refine po_mput (by rw [List.length_map]; omega) ?_
      show mput _ _ _ = _
      rw [mput_new hnp, List.map_append]
      rfl
  · rintro g rfl
    refine po_bind (fill_ok h n7 m0) fun r hr => ⟨r.2.1, r.2.2, rfl, hr⟩
def row (s L : Tup Int) (k : Int) : HRow := Nt.mk (s, L, k, ())
/-- a row of a hunt: turns are the fewest -/
structure RowOk (n : Int) (ts : List (Int × Int)) (m : Int) (F : List HRow) (s L : Tup Int) (k : Nat) : Prop where
  st : s ∈ stands n
  lk : L ∈ setsN n m
  k1 : 1 ≤ k
  won : Won n ts m k s
  few : ¬ Won n ts m (k - 1) s
  next : ∀ b ∈ onw n ts L.l s.l, ∃ L' j, j < k ∧ row b L' (j : Nat) ∈ F
structure HuntOk (n : Int) (ts : List (Int × Int)) (m : Int) (F : List HRow) : Prop where
  rows : ∀ r ∈ F, ∃ s L k, r = row s L (k : Nat) ∧ RowOk n ts m F s L k
  start : ∃ L k, row ⟨rng 0 n⟩ L (k : Nat) ∈ F
  len : F.length ≤ 128
structure ShelterOk (n : Int) (ts : List (Int × Int)) (m : Int) (l : List (Tup Int)) : Prop where
  mem : ∀ s, s ∈ l ↔ s ∈ stands n ∧ ∀ k, ¬ Won n ts m k s
  start : (⟨rng 0 n⟩ : Tup Int) ∈ l
  len : l.length ≤ 128
def HsOk (n : Int) (ts : List (Int × Int)) (m : Int) : Hs → Prop
  | .hunt F => HuntOk n ts m F
  | .shelter l => ShelterOk n ts m l
theorem start_st (n2 : 2 ≤ n) : (⟨rng 0 n⟩ : Tup Int) ∈ stands n := (stands_mem (by omega)).mpr ⟨ris_rng (Int.le_refl _), by show 2 ≤ (rng 0 n).length; rw [rng_length]; omega⟩
theorem hunt_ok {T : List (Tup Int × Int)} {K : List (Tup Int × Tup Int)} (h : WebOk n ts) (n2 : 2 ≤ n) (n7 : n ≤ 7) (m0 : 0 ≤ m) (f : Filled n ts m T K) (hst : mhas T ⟨rng 0 n⟩ = true) : Post (Hunting_hunt (selfF n ts m T K) ⟨rng 0 n⟩) (HuntOk n ts m) noX := by
  obtain ⟨t, hT⟩ := f.ti
  have hK := f.ki
  have hS := stands_len n7
  have one : ∀ s, mhas T s = true → ∃ L k, mget K s = some L ∧ mget T s = some ((k : Nat) : Int) ∧ s ∈ stands n ∧ L ∈ setsN n m ∧ 1 ≤ k ∧ Won n ts m k s ∧ ¬ Won n ts m (k - 1) s ∧ ∀ b ∈ onw n ts L.l s.l, mhas T b = true ∧ Won n ts m (k - 1) b := fun s hs => by
    have hk : mhas K s = true := by rw [hK.same]; exact hs
    rw [mhas_mget, Option.isSome_iff_exists] at hk
    obtain ⟨L, hL⟩ := hk
    obtain ⟨j, j1, j2, j3, j4⟩ := hK.of s L hL
    obtain ⟨i1, i, i2, i3, i4, i5, i6⟩ := (hT.has s j).mp j1
    have eij : i = j := by omega
    subst eij
    exact ⟨L, i, hL, j1, i1, j3, j2, i5, i6, fun b hb => ⟨f.all b (onw_stand h i1 hb) _ (j4 b hb), j4 b hb⟩⟩
  unfold Hunting_hunt
  refine po_bind (Q := fun (g : List (Tup Int) × List HRow) => HuntOk n ts m g.2) (po_while (fun (g : List (Tup Int) × List HRow) => (∀ s ∈ g.1, mhas T s = true) ∧ (∀ r ∈ g.2, ∃ s L k, r = row s L k ∧ mhas T s = true ∧ mget K s = some L ∧ mget T s = some k) ∧ (g.2.map fun r => r.v.1).Nodup ∧ (∀ s L k, row s L k ∈ g.2 → ∀ b ∈ onw n ts L.l s.l, b ∈ g.1 ∨ ∃ r ∈ g.2, r.v.1 = b) ∧ ((⟨rng 0 n⟩ : Tup Int) ∈ g.1 ∨ ∃ r ∈ g.2, r.v.1 = (⟨rng 0 n⟩ : Tup Int)) ∧ g.1.length ≤ 7 * g.2.length + 1) (fun g => 10 * ((stands n).length - g.2.length) + g.1.length) ?_ ?_ ?_) fun g hg => hg
  · rintro ⟨w, F⟩ ⟨i1, i2, i3, i4, i5, i6⟩
    have i6' : w.length ≤ 7 * F.length + 1 := i6
    have hFS : F.length ≤ (stands n).length := by
      have := nodup_le i3 (ys := stands n) fun s hs => by
        obtain ⟨r, hr, rfl⟩ := List.mem_map.mp hs
        obtain ⟨s, L, k, rfl, a1, a2, a3⟩ := i2 r hr
        exact hT.sub a1
      rw [List.length_map] at this
      exact this
    refine ⟨fun c => ?_, fun c => ?_⟩
    · have hw : w ≠ [] := by
        intro z
        have := of_decide_eq_true c
        change (0 : Int) < (w.length : Int) at this
        rw [z] at this
        exact absurd this (by decide)
      obtain ⟨w', x, rfl⟩ : ∃ w' x, w = w' ++ [x] := ⟨w.dropLast, w.getLast hw, (List.dropLast_concat_getLast hw).symm⟩
      have ep : popI (w' ++ [x]) = R.ok (x, w') := by
        unfold popI
        rw [List.getLast?_append]
        show R.ok (x, (w' ++ [x]).dropLast) = _
        rw [List.dropLast_concat]
      show Post (popI (w' ++ [x]) >>= _) _ _
      rw [ep, ok_bind]
      have hx := i1 x (by simp)
      obtain ⟨L, k, a1, a2, a3, a4, a5, a6, a7, a8⟩ := one x hx
      refine po_mgetE a1 (po_mgetE a2 ?_)
      have hwl : w'.length + 1 = (w' ++ [x]).length := by rw [List.length_append]; rfl
      refine po_if (fun c => ?_) fun c => ?_
      · have hnin : row x L k ∉ F := by
          intro z
          have : inB (row x L k) F = true := inB_t.mpr z
          change (!inB (row x L k) F) = true at c
          rw [this] at c
          cases c
        have hnx : ∀ r ∈ F, r.v.1 ≠ x := fun r hr e => by
          obtain ⟨s, L', k', rfl, b1, b2, b3⟩ := i2 r hr
          have e' : s = x := e
          subst e'
          rw [a1] at b2
          rw [a2] at b3
          cases b2
          cases b3
          exact hnin hr
        obtain ⟨hr, _⟩ := (stands_mem (by omega)).mp a3
        obtain ⟨hLr, _⟩ := (setsN_mem (by omega) m0).mp a4
        have hxl := hr.len
        have hLl := hLr.len
        refine po_mgetE a2 (po_app (by show F.length < 100000; omega) ?_)
        show Post (next_standings (tabD n ts) ⟨x.l⟩ ⟨L.l⟩ >>= _) _ _
        rw [next_standings_ok (by omega) (by omega) hr.2 (by omega) hLr.2 (by omega), ok_bind]
        have hol := onw_lenS (n := n) (ts := ts) (L := L.l) (st := x.l)
        refine po_extend (by show w'.length + _ < 100000; omega) ⟨⟨fun s hs => ?_, fun r hr2 => ?_, ?_, fun s L' k' hm b hb => ?_, ?_, ?_⟩, ?_⟩
        · rcases List.mem_append.mp hs with hs | hs
          · exact i1 s (List.mem_append_left _ hs)
          · exact (a8 s hs).1
        · rcases List.mem_append.mp hr2 with hr2 | hr2
          · exact i2 r hr2
          · exact ⟨x, L, k, List.mem_singleton.mp hr2, hx, a1, a2⟩
        · show ((F ++ [row x L k]).map fun r => r.v.1).Nodup
          rw [List.map_append, List.nodup_append]
          refine ⟨i3, by simp, fun a ha b hb e => ?_⟩
          obtain ⟨r, hr2, rfl⟩ := List.mem_map.mp ha
          have : b = x := by simpa [row] using hb
          exact hnx r hr2 (e.trans this)
        · rcases List.mem_append.mp hm with hm | hm
          · rcases i4 s L' k' hm b hb with z | ⟨r, hr2, er⟩
            · rcases List.mem_append.mp z with z | z
              · exact .inl (List.mem_append_left _ z)
              · exact .inr ⟨row x L k, by show row x L k ∈ F ++ [row x L k]; simp, (List.mem_singleton.mp z).symm⟩
            · exact .inr ⟨r, List.mem_append_left _ hr2, er⟩
          · have e := List.mem_singleton.mp hm
            have e1 : s = x := congrArg (fun r : HRow => r.v.1) e
            have e2 : L' = L := congrArg (fun r : HRow => r.v.2.1) e
            subst e1
            subst e2
            exact .inl (List.mem_append_right _ hb)
        · rcases i5 with z | ⟨r, hr2, er⟩
          · rcases List.mem_append.mp z with z | z
            · exact .inl (List.mem_append_left _ z)
            · exact .inr ⟨row x L k, by show row x L k ∈ F ++ [row x L k]; simp, (List.mem_singleton.mp z).symm⟩
          · exact .inr ⟨r, List.mem_append_left _ hr2, er⟩
        · show (w' ++ onw n ts L.l x.l).length ≤ 7 * (F ++ [row x L k]).length + 1
          rw [List.length_append, List.length_append, List.length_singleton]
          omega
        · show 10 * ((stands n).length - (F ++ [row x L k]).length) + (w' ++ onw n ts L.l x.l).length < 10 * ((stands n).length - F.length) + (w' ++ [x]).length
          have hlt : F.length + 1 ≤ (stands n).length := by
            have := nodup_le (xs := (F ++ [row x L k]).map fun r => r.v.1) (ys := stands n) (by
              rw [List.map_append, List.nodup_append]
              refine ⟨i3, by simp, fun a ha b hb e => ?_⟩
              obtain ⟨r, hr2, rfl⟩ := List.mem_map.mp ha
              have : b = x := by simpa [row] using hb
              exact hnx r hr2 (e.trans this)) fun s hs => by
              obtain ⟨r, hr2, rfl⟩ := List.mem_map.mp hs
              rcases List.mem_append.mp hr2 with hr2 | hr2
              · obtain ⟨s, L', k', rfl, b1, b2, b3⟩ := i2 r hr2
                exact hT.sub b1
              · rw [List.mem_singleton.mp hr2]
                exact a3
            rw [List.length_map, List.length_append, List.length_singleton] at this
            exact this
          rw [List.length_append, List.length_append, List.length_append, List.length_singleton, List.length_singleton]
          omega
      · have hin : row x L k ∈ F := by
          cases z : inB (row x L k) F with
          | true => exact inB_t.mp z
          | false =>
            change ¬ (!inB (row x L k) F) = true at c
            rw [z] at c
            exact absurd rfl c
        refine ⟨⟨fun s hs => i1 s (List.mem_append_left _ hs), i2, i3, fun s L' k' hm b hb => ?_, ?_, ?_⟩, ?_⟩
        · rcases i4 s L' k' hm b hb with z | z
          · rcases List.mem_append.mp z with z | z
            · exact .inl z
            · exact .inr ⟨_, hin, (List.mem_singleton.mp z).symm⟩
          · exact .inr z
        · rcases i5 with z | z
          · rcases List.mem_append.mp z with z | z
            · exact .inl z
            · exact .inr ⟨_, hin, (List.mem_singleton.mp z).symm⟩
          · exact .inr z
        · show w'.length ≤ 7 * F.length + 1
          omega
        · show 10 * ((stands n).length - F.length) + w'.length < 10 * ((stands n).length - F.length) + (w' ++ [x]).length
          omega
    · have hw : w = [] := by
        have := of_decide_eq_false c
        change ¬ (0 : Int) < (w.length : Int) at this
        exact List.length_eq_zero_iff.mp (by omega)
      subst hw
      have get : ∀ s, (∃ r ∈ F, r.v.1 = s) → ∃ L k, row s L (k : Nat) ∈ F ∧ mget T s = some (k : Int) := fun s ⟨r, hr, er⟩ => by
        obtain ⟨s', L, k, rfl, b1, b2, b3⟩ := i2 r hr
        have e : s' = s := er
        subst e
        obtain ⟨_, j, _, c2, _⟩ := one s' b1
        rw [b3] at c2
        cases c2
        exact ⟨L, j, hr, b3⟩
      refine ⟨fun r hr => ?_, ?_, by show F.length ≤ 128; omega⟩
      · obtain ⟨s, L, k, rfl, b1, b2, b3⟩ := i2 r hr
        obtain ⟨L', j, c1, c2, c3, c4, c5, c6, c7, c8⟩ := one s b1
        rw [b3] at c2
        rw [b2] at c1
        cases c2
        cases c1
        refine ⟨s, L, j, rfl, c3, c4, c5, c6, c7, fun b hb => ?_⟩
        rcases i4 s L j hr b hb with z | z
        · cases z
        · obtain ⟨L2, k2, d1, d2⟩ := get b z
          refine ⟨L2, k2, ?_, d1⟩
          obtain ⟨_, j2, e1, _, e3, e4, e5⟩ := (hT.has b k2).mp d2
          have ej : j2 = k2 := by omega
          subst ej
          have hw := (c8 b hb).2
          apply Classical.byContradiction
          intro z
          exact e5 (hw.mono (by omega))
      · rcases i5 with z | z
        · cases z
        · obtain ⟨L, k, d1, _⟩ := get _ z
          exact ⟨L, k, d1⟩
  · refine ⟨fun s hs => ?_, fun _ z => (nomatch z), List.Pairwise.nil, fun _ _ _ z => (nomatch z), .inl (by simp), by show 1 ≤ 7 * 0 + 1; omega⟩
    rw [List.mem_singleton.mp hs]
    exact hst
  · show 10 * ((stands n).length - 0) + 1 < fu 100000
    unfold fu
    omega
theorem few_places_ok {t : Tup (Int × Int)} (n2 : 2 ≤ n) (n7 : n ≤ 7) : few_places (n, t) = R.ok () := by
  unfold few_places
  rw [if_neg]
  rw [decide_eq_true (show (2 : Int) ≤ (n, t).1 from n2), decide_eq_true (show (n, t).1 ≤ (7 : Int) from n7)]
  decide
theorem hunt_or_shelter_ok (h : WebOk n ts) (n2 : 2 ≤ n) (n7 : n ≤ 7) (m0 : 0 ≤ m) : Post (hunt_or_shelter (n, ⟨ts⟩) m) (HsOk n ts m) noX := by
  unfold hunt_or_shelter
  rw [few_places_ok n2 n7, ok_bind]
  refine po_bind (init_ok h n7 m0) ?_
  rintro r ⟨T, K, rfl, f⟩
  refine po_listRng (by decide) (by decide) (by show -(2 ^ 62) ≤ n; omega) (by show n < 2 ^ 62; omega) (by show (n - 0).toNat ≤ 100000; omega) ?_
  refine po_if (fun c => ?_) fun c => ?_
  · exact po_bind (hunt_ok h n2 n7 m0 f c) fun F hF => hF
  · show Post (filG _ ((waysM n ts m).map (·.1)) >>= _) _ _
    rw [waysM_keys]
    have hS := stands_len n7
    refine po_filGE (g := fun s => if (!mhas T s) = true then some s else none) (by omega) (fun s _ => ?_) ?_
    · show (if (!mhas T s) = true then _ else _) = _
      by_cases q : (!mhas T s) = true
      · rw [if_pos q, if_pos q]
      · rw [if_neg q, if_neg q]
    · rw [fil_ite]
      obtain ⟨t, hT⟩ := f.ti
      have key : ∀ s, s ∈ (stands n).filter (fun s => !mhas T s) ↔ s ∈ stands n ∧ ∀ k, ¬ Won n ts m k s := fun s => by
        rw [List.mem_filter]
        constructor
        · rintro ⟨h1, h2⟩
          refine ⟨h1, fun k w => ?_⟩
          rw [f.all s h1 k w] at h2
          cases h2
        · rintro ⟨h1, h2⟩
          refine ⟨h1, ?_⟩
          cases z : mhas T s with
          | false => rfl
          | true => exact absurd ((hT.won h1).mp z) (h2 t)
      refine ⟨key, (key _).mpr ⟨start_st n2, fun k w => ?_⟩, Nat.le_trans (List.length_filter_le _ _) hS⟩
      exact c (f.all _ (start_st n2) k w)
end
/-! ### standings and looks carried over to another web, or to lesser ones -/
theorem likesG_iff {κ α : Type} [DecidableEq κ] [DecidableEq α] {c : α → κ} {st part : List α} : part ∈ likesG c st ↔ ∃ t ∈ st, part = st.filter (fun u => decide (c u = c t)) ∧ 2 ≤ part.length := by
  unfold likesG rowsG
  rw [List.mem_filter, List.mem_map]
  constructor
  · rintro ⟨⟨k, hk, rfl⟩, h2⟩
    obtain ⟨t, ht, rfl⟩ := keysG_mem.mp hk
    exact ⟨t, ht, rfl, by have := of_decide_eq_true h2; omega⟩
  · rintro ⟨t, ht, rfl, h2⟩
    exact ⟨⟨c t, keysG_mem.mpr ⟨t, ht, rfl⟩, rfl⟩, decide_eq_true (by omega)⟩
structure Ren (n : Int) (ts us : List (Int × Int)) (f : Int → Int) : Prop where
  rg : ∀ a, 0 ≤ a → a < n → 0 ≤ f a ∧ f a < n
  inj : ∀ a b, 0 ≤ a → a < n → 0 ≤ b → b < n → f a = f b → a = b
  sur : ∀ b, 0 ≤ b → b < n → ∃ a, 0 ≤ a ∧ a < n ∧ f a = b
  ds : ∀ a b, 0 ≤ a → a < n → 0 ≤ b → b < n → dst n us (f a) (f b) = dst n ts a b
theorem ren_id {n : Int} {ts : List (Int × Int)} : Ren n ts ts id := ⟨fun a h0 h1 => ⟨h0, h1⟩, fun _ _ _ _ _ _ e => e, fun b h0 h1 => ⟨b, h0, h1, rfl⟩, fun _ _ _ _ _ _ => rfl⟩
/-- each item of l' comes from one of l -/
def From (f : Int → Int) (l l' : List Int) : Prop := ∀ x' ∈ l', ∃ x ∈ l, f x = x'
section
variable {n m m' : Int} {ts us : List (Int × Int)} {f : Int → Int}
theorem onw_from (h : Ren n ts us f) {L L' s s' : List Int} (iL : InW n L) (hL : ∀ l ∈ L, f l ∈ L') (is : InW n s) (ns : s.Nodup) (hs : From f s s') (ns' : s'.Nodup) {b' : Tup Int} (hb : b' ∈ onw n us L' s') : ∃ b ∈ onw n ts L s, From f b.l b'.l := by
  obtain ⟨part', hp, rfl⟩ := List.mem_map.mp hb
  obtain ⟨t', ht', e', h2'⟩ := likesG_iff.mp hp
  obtain ⟨t, ht, rfl⟩ := hs t' ht'
  have key : ∀ u ∈ s, codeL n us L' (f u) = codeL n us L' (f t) → codeL n ts L u = codeL n ts L t := fun u hu e => by
    unfold codeL at e ⊢
    injection e with e
    congr 1
    refine List.map_congr_left fun l hl => ?_
    have h1 := List.map_inj_left.mp e (f l) (hL l hl)
    have il := iL l hl
    have iu := is u hu
    have it := is t ht
    rw [h.ds l u il.1 il.2 iu.1 iu.2, h.ds l t il.1 il.2 it.1 it.2] at h1
    exact h1
  have fr : From f (s.filter fun u => decide (codeL n ts L u = codeL n ts L t)) part' := fun x' hx' => by
    rw [e'] at hx'
    obtain ⟨h1, h3⟩ := List.mem_filter.mp hx'
    obtain ⟨x, hx, rfl⟩ := hs x' h1
    exact ⟨x, List.mem_filter.mpr ⟨hx, decide_eq_true (key x hx (of_decide_eq_true h3))⟩, rfl⟩
  have hlen : 2 ≤ (s.filter fun u => decide (codeL n ts L u = codeL n ts L t)).length := by
    have nd : part'.Nodup := e' ▸ ns'.filter _
    have := nodup_le nd (ys := (s.filter fun u => decide (codeL n ts L u = codeL n ts L t)).map f) fun x' hx' => by
      obtain ⟨x, hx, rfl⟩ := fr x' hx'
      exact List.mem_map.mpr ⟨x, hx, rfl⟩
    rw [List.length_map] at this
    omega
  refine ⟨nearT n ts (s.filter fun u => decide (codeL n ts L u = codeL n ts L t)), List.mem_map.mpr ⟨_, likesG_iff.mpr ⟨t, ht, rfl, hlen⟩, rfl⟩, fun v' hv' => ?_⟩
  obtain ⟨h1, h3⟩ := List.mem_filter.mp hv'
  have hr := rng_mem.mp h1
  obtain ⟨v, v0, v1, rfl⟩ := h.sur v' hr.1 hr.2
  obtain ⟨p', hp', h4⟩ := List.any_eq_true.mp h3
  obtain ⟨p, hpp, rfl⟩ := fr p' hp'
  have ip := is p (List.mem_filter.mp hpp).1
  have h5 := of_decide_eq_true h4
  rw [h.ds v p v0 v1 ip.1 ip.2] at h5
  exact ⟨v, List.mem_filter.mpr ⟨rng_mem.mpr ⟨v0, v1⟩, List.any_eq_true.mpr ⟨p, hpp, decide_eq_true h5⟩⟩, rfl⟩
theorem ris_sort {l : List Int} (nd : l.Nodup) (h : InW n l) : Ris n (sortI l) := by
  refine ⟨?_, fun x hx => h x (sortI_mem.mp hx)⟩
  have h1 := sortI_sorted l
  have h2 : (sortI l).Nodup := (sortI_perm l).nodup_iff.mpr nd
  exact (h1.and h2).imp fun ⟨a, b⟩ => by omega
theorem ris_more (n0 : 0 ≤ n) {X : List Int} (hX : Ris n X) : ∀ d : Nat, ((X.length + d : Nat) : Int) ≤ n → ∃ Y, Ris n Y ∧ Y.length = X.length + d ∧ ∀ x ∈ X, x ∈ Y
  | 0, _ => ⟨X, hX, rfl, fun _ h => h⟩
  | d + 1, hd => by
    obtain ⟨Y, h1, h2, h3⟩ := ris_more n0 hX d (by omega)
    have : ∃ y, 0 ≤ y ∧ y < n ∧ y ∉ Y := by
      apply Classical.byContradiction
      intro z
      have := nodup_le (rng_nodup 0 n) (ys := Y) fun y hy => by
        have hr := rng_mem.mp hy
        apply Classical.byContradiction
        intro w
        exact z ⟨y, hr.1, hr.2, w⟩
      rw [rng_length] at this
      omega
    obtain ⟨y, y0, y1, hy⟩ := this
    refine ⟨sortI (y :: Y), ris_sort (List.nodup_cons.mpr ⟨hy, h1.nd⟩) fun x hx => ?_, ?_, fun x hx => sortI_mem.mpr (List.mem_cons_of_mem _ (h3 x hx))⟩
    · rcases List.mem_cons.mp hx with rfl | hx
      · exact ⟨y0, y1⟩
      · exact h1.2 x hx
    · rw [(sortI_perm (y :: Y)).length_eq, List.length_cons, h2]
      omega
/-- looks carried over, and more of them -/
theorem looks_from (h : Ren n ts us f) (n0 : 0 ≤ n) (m0 : 0 ≤ m) (hm : m ≤ m') {L : Tup Int} (hL : L ∈ setsN n m) : ∃ L' ∈ setsN n m', ∀ l ∈ L.l, f l ∈ L'.l := by
  obtain ⟨hr, hl⟩ := (setsN_mem n0 m0).mp hL
  have nd : (L.l.map f).Nodup := List.pairwise_map.mpr (hr.nd.imp_of_mem fun ha hb ne e => by
    have ra := hr.2 _ ha
    have rb := hr.2 _ hb
    exact ne (h.inj _ _ ra.1 ra.2 rb.1 rb.2 e))
  have hX : Ris n (sortI (L.l.map f)) := ris_sort nd fun x hx => by
    obtain ⟨a, ha, rfl⟩ := List.mem_map.mp hx
    have ra := hr.2 _ ha
    exact h.rg a ra.1 ra.2
  have hXl : (sortI (L.l.map f)).length = L.l.length := by rw [(sortI_perm _).length_eq, List.length_map]
  have hle : min2 n m ≤ min2 n m' ∧ min2 n m' ≤ n := by
    rcases mm_cases n m with ⟨e1, _, z1⟩ | ⟨e1, _, z1⟩ <;> rcases mm_cases n m' with ⟨e2, _, z2⟩ | ⟨e2, _, z2⟩ <;> rw [e1, e2] <;> omega
  obtain ⟨Y, h1, h2, h3⟩ := ris_more n0 hX ((min2 n m').toNat - L.l.length) (by omega)
  exact ⟨⟨Y⟩, (setsN_mem n0 (by omega)).mpr ⟨h1, by show (Y.length : Int) = _; omega⟩, fun l hl2 => h3 _ (sortI_mem.mpr (List.mem_map.mpr ⟨l, hl2, rfl⟩))⟩
theorem won_from (h : Ren n ts us f) (w : WebOk n ts) (w' : WebOk n us) (m0 : 0 ≤ m) (hm : m ≤ m') : ∀ {k : Nat} {s s' : Tup Int}, s ∈ stands n → s' ∈ stands n → From f s.l s'.l → Won n ts m k s → Won n us m' k s'
  | 0, _, _, _, _, _, z => z
  | k + 1, s, s', hs, hs', hf, z => by
    have n1 := w.n1
    rcases z with z | ⟨L, hL, hb⟩
    · exact .inl (won_from h w w' m0 hm hs hs' hf z)
    · obtain ⟨L', hL', hLL⟩ := looks_from h (by omega) m0 hm hL
      have hr := ((stands_mem (by omega)).mp hs).1
      have hr' := ((stands_mem (by omega)).mp hs').1
      have hLr := ((setsN_mem (by omega) m0).mp hL).1
      refine .inr ⟨L', hL', fun b' hb' => ?_⟩
      obtain ⟨b, hb1, hb2⟩ := onw_from h hLr.2 hLL hr.2 hr.nd hf hr'.nd hb'
      exact won_from h w w' m0 hm (onw_stand w hs hb1) (onw_stand w' hs' hb') hb2 (hb b hb1)
end
end G
namespace G
open PySem L2 Z
section
variable {n m : Int} {ts : List (Int × Int)}
theorem parts_fold {c : Int → Tup Int} {F : Int → R (List Int)} {st : List Int} (hsl : st.length < 1000) (hF : ∀ b ∈ st, F b = R.ok (c b).l) :
    foldR (fun (g7 : (List ((Tup Int) × (Tup Int)))) (b7 : Int) => do
      let y13 ← F b7
      let l24 ← extend ((mget g7 (Tup.mk y13)).getD (Tup.mk [] : (Tup Int))).l (Tup.mk [b7] : (Tup Int)).l
      let l25 ← mputR g7 (Tup.mk y13) (Tup.mk l24 : (Tup Int))
      R.ok l25) ([] : (List ((Tup Int) × (Tup Int)))) st = R.ok ((keysG c st).map fun k => (k, (Tup.mk (st.filter fun u => decide (c u = k)) : Tup Int))) := by
  refine po_iff ?_
  refine po_foldP (fun pre (g : List (Tup Int × Tup Int)) => g = (keysG c pre).map fun k => (k, (Tup.mk (pre.filter fun u => decide (c u = k)) : Tup Int))) rfl ?_
  rintro pre g x post e rfl
  have e' : st = pre ++ x :: post := e
  have hpl : pre.length < 1000 := by have := congrArg List.length e'; rw [List.length_append, List.length_cons] at this; omega
  rw [hF x (by rw [e']; simp), ok_bind]
  show Post (extend ((mget ((keysG c pre).map fun k => (k, (Tup.mk (pre.filter fun u => decide (c u = k)) : Tup Int))) (c x)).getD (Tup.mk [])).l [x] >>= fun l25 => mputR ((keysG c pre).map fun k => (k, (Tup.mk (pre.filter fun u => decide (c u = k)) : Tup Int))) (c x) (Tup.mk l25) >>= fun l26 => R.ok l26) _ _
  have hget : ∀ ks : List (Tup Int), mget (ks.map fun k => (k, (Tup.mk (pre.filter fun u => decide (c u = k)) : Tup Int))) (c x) = if c x ∈ ks then some (Tup.mk (pre.filter fun u => decide (c u = c x))) else none := fun ks => by
    induction ks with
    | nil => rfl
    | cons k ks ih =>
      rw [List.map_cons, mget_cons, ih]
      by_cases q : k = c x
      · subst q
        rw [if_pos rfl, if_pos List.mem_cons_self]
      · rw [if_neg q]
        by_cases z : c x ∈ ks
        · rw [if_pos z, if_pos (List.mem_cons_of_mem _ z)]
        · rw [if_neg z, if_neg fun y => (List.mem_cons.mp y).elim (fun w => q w.symm) z]
  have eg : ((mget ((keysG c pre).map fun k => (k, (Tup.mk (pre.filter fun u => decide (c u = k)) : Tup Int))) (c x)).getD (Tup.mk [])).l = pre.filter fun u => decide (c u = c x) := by
    rw [hget]
    by_cases q : c x ∈ keysG c pre
    · rw [if_pos q]
      rfl
    · rw [if_neg q]
      refine Eq.symm (List.filter_eq_nil_iff.mpr fun t ht e => ?_)
      exact q (keysG_mem.mpr ⟨t, ht, of_decide_eq_true e⟩)
  rw [eg]
  have hfl : (pre.filter fun u => decide (c u = c x)).length ≤ pre.length := List.length_filter_le _ _
  have hkl := keysG_len (c := c) (ts := pre)
  refine po_extend (by show _ + 1 < 100000; omega) (po_mput (by rw [List.length_map]; omega) ?_)
  show mput _ _ _ = _
  have hnew : ∀ k, ((pre ++ [x]).filter fun u => decide (c u = k)) = (pre.filter fun u => decide (c u = k)) ++ if c x = k then [x] else [] := fun k => by
    rw [List.filter_append]
    by_cases q : c x = k
    · simp [q]
    · simp [q]
  rw [keysG_snoc]
  unfold kstep
  by_cases q : c x ∈ keysG c pre
  · rw [if_pos q, mput_old (mhas_iff.mpr ⟨_, List.mem_map.mpr ⟨c x, q, rfl⟩, rfl⟩), List.map_map]
    refine List.map_congr_left fun k hk => ?_
    show (if k = c x then _ else _) = _
    by_cases z : k = c x
    · rw [if_pos z, hnew, if_pos z.symm, z]
    · rw [if_neg z, hnew, if_neg fun y => z y.symm, List.append_nil]
  · rw [if_neg q]
    have hh : mhas ((keysG c pre).map fun k => (k, (Tup.mk (pre.filter fun u => decide (c u = k)) : Tup Int))) (c x) = false := by
      refine Bool.eq_false_iff.mpr fun z => ?_
      obtain ⟨p, hp, ep⟩ := mhas_iff.mp z
      obtain ⟨k, hk, rfl⟩ := List.mem_map.mp hp
      exact q (ep ▸ hk)
    rw [mput_new hh, List.map_append]
    congr 1
    · refine List.map_congr_left fun k hk => ?_
      have z : c x ≠ k := fun y => q (y ▸ hk)
      rw [hnew, if_neg z, List.append_nil]
    · show [(c x, _)] = [(c x, _)]
      rw [hnew, if_pos rfl]
theorem parts_end {c : Int → Tup Int} {st : List Int} (hsl : st.length < 1000) : filG (fun (b28 : (Tup Int)) => do
      if (decide ((1 : Int) < (b28.l.length : Int))) = true then do
        R.ok (some b28)
      else
        R.ok none) (((keysG c st).map fun k => (k, (Tup.mk (st.filter fun u => decide (c u = k)) : Tup Int))).map (·.2)) = R.ok ((likesG c st).map Tup.mk) := by
  have hkl := keysG_len (c := c) (ts := st)
  rw [filG_ok (g := fun b => if (decide ((1 : Int) < (b.l.length : Int))) = true then some b else none) (by rw [List.length_map, List.length_map]; omega) (fun b _ => by
    by_cases q : (decide ((1 : Int) < (b.l.length : Int))) = true
    · rw [if_pos q, if_pos q]
    · rw [if_neg q, if_neg q])]
  rw [fil_ite, List.map_map]
  unfold likesG rowsG
  congr 1
  generalize keysG c st = ks
  induction ks with
  | nil => rfl
  | cons k ks ih =>
    rw [List.map_cons, List.map_cons, List.filter_cons, List.filter_cons]
    by_cases q : (decide ((1 : Int) < ((st.filter fun u => decide (c u = k)).length : Int))) = true
    · rw [if_pos q, List.map_cons, ← ih]
      exact if_pos q
    · rw [if_neg q, ← ih]
      exact if_neg q
theorem code_is (h : WebOk n ts) {L : List Int} (hL : LooksOk n L) {b : Int} (b0 : 0 ≤ b) (b1 : b < n) : code_of (n, ⟨ts⟩) L (Thing.pl b) = R.ok (codeL n ts L b).l := codeOf_ok h hL (show ThOk n ts (.pl b) from ⟨b0, b1⟩)
theorem law_parts_ok (h : WebOk n ts) {st L : List Int} (hs : InW n st) (hsl : st.length < 1000) (hL : LooksOk n L) : law_parts (n, ⟨ts⟩) ⟨st⟩ ⟨L⟩ = R.ok ((likesG (codeL n ts L) st).map Tup.mk) := by
  have e := parts_fold (c := codeL n ts L) (F := fun b => code_of (n, ⟨ts⟩) L (Thing.pl b)) hsl fun b hb => code_is h hL (hs b hb).1 (hs b hb).2
  unfold law_parts
  refine (congrArg (fun r : R (List (Tup Int × Tup Int)) => r >>= _) e).trans ?_
  rw [ok_bind]
  refine (congrArg (fun r : R (List (Tup Int)) => r >>= _) (parts_end hsl)).trans ?_
  rfl
theorem law_partsL_ok (h : WebOk n ts) {st L : List Int} (hs : InW n st) (hsl : st.length < 1000) (hL : LooksOk n L) : law_partsL (n, ⟨ts⟩) ⟨st⟩ L = R.ok ((likesG (codeL n ts L) st).map Tup.mk) := by
  have e := parts_fold (c := codeL n ts L) (F := fun b => code_of (n, ⟨ts⟩) L (Thing.pl b)) hsl fun b hb => code_is h hL (hs b hb).1 (hs b hb).2
  unfold law_partsL
  refine (congrArg (fun r : R (List (Tup Int × Tup Int)) => r >>= _) e).trans ?_
  rw [ok_bind]
  refine (congrArg (fun r : R (List (Tup Int)) => r >>= _) (parts_end hsl)).trans ?_
  rfl
theorem law_moved_ok (h : WebOk n ts) {part : List Int} (hp : InW n part) (nd : part.Nodup) : law_moved (n, ⟨ts⟩) ⟨part⟩ = R.ok (nearT n ts part) := by
  have n60 := h.n60
  have n1 := h.n1
  have small : ∀ {l : List Int}, InW n l → l.Nodup → l.length ≤ 60 := fun {l} h1 h2 => by
    have := nodup_le h2 (ys := rng 0 n) fun y hy => rng_mem.mpr (h1 y hy)
    rw [rng_length] at this
    omega
  refine po_iff ?_
  unfold law_moved
  refine po_bind (po_foldP (fun pre (g : List Int) => g.Nodup ∧ InW n g ∧ ∀ x, x ∈ g ↔ x ∈ part ∨ ∃ p ∈ pre, Adj ts p x) ⟨nd, hp, fun x => ⟨.inl, fun z => z.elim id fun ⟨_, q, _⟩ => (nomatch q)⟩⟩ ?_) ?_
  · rintro pre g x post e ⟨i1, i2, i3⟩
    have e' : part = pre ++ x :: post := e
    have hx := hp x (by rw [e']; simp)
    have hnd : (nbs ts x).Nodup := nbs_nodup h.nd (fun q hq => (h.rg q hq).2.1) x
    have hin : InW n (nbs ts x) := fun y hy => by
      have := h.adj (nbs_mem.mp hy)
      exact ⟨this.2.2.1, this.2.2.2.1⟩
    have hsn : (sortI (nbs ts x)).Nodup := (sortI_perm _).nodup_iff.mpr hnd
    have hsi : InW n (sortI (nbs ts x)) := fun y hy => hin y (sortI_mem.mp hy)
    have l1 := small hsi hsn
    have l2 := small i2 i1
    rw [nbr_ok h hx.1 hx.2, ok_bind]
    refine po_filGE (g := fun b => if (!inB b g) = true then some b else none) (by omega) (fun b _ => ?_) ?_
    · by_cases q : (!inB b g) = true
      · rw [if_pos q, if_pos q]
      · rw [if_neg q, if_neg q]
    · rw [fil_ite]
      have l3 := List.length_filter_le (fun b => !inB b g) (sortI (nbs ts x))
      refine po_extend (by omega) ⟨?_, fun y hy => ?_, fun y => ?_⟩
      · refine List.nodup_append.mpr ⟨i1, hsn.filter _, fun a ha b hb e => ?_⟩
        have := (List.mem_filter.mp hb).2
        rw [Bool.not_eq_true', inB_f] at this
        exact this (e ▸ ha)
      · rcases List.mem_append.mp hy with hy | hy
        · exact i2 y hy
        · exact hsi y (List.mem_filter.mp hy).1
      · rw [List.mem_append, i3, List.mem_filter, sortI_mem, nbs_mem, Bool.not_eq_true', inB_f, i3]
        constructor
        · rintro ((q | ⟨p, hp1, hp2⟩) | ⟨q, _⟩)
          · exact .inl q
          · exact .inr ⟨p, List.mem_append_left _ hp1, hp2⟩
          · exact .inr ⟨x, by simp, q⟩
        · rintro (q | ⟨p, hp1, hp2⟩)
          · exact .inl (.inl q)
          · rcases List.mem_append.mp hp1 with hp1 | hp1
            · exact .inl (.inr ⟨p, hp1, hp2⟩)
            · rw [List.mem_singleton.mp hp1] at hp2
              by_cases z : y ∈ part ∨ ∃ p ∈ pre, Adj ts p y
              · exact .inl z
              · exact .inr ⟨hp2, z⟩
  · rintro g ⟨i1, i2, i3⟩
    show (Tup.mk (sortI g) : Tup Int) = nearT n ts part
    unfold nearT
    congr 1
    refine (sortI_eq ?_ ?_).symm
    · refine (List.perm_ext_iff_of_nodup ((rng_nodup 0 n).filter _) i1).mpr fun v => ?_
      rw [List.mem_filter, i3, rng_mem, List.any_eq_true]
      constructor
      · rintro ⟨hv, p, hpp, hd⟩
        have hd := of_decide_eq_true hd
        have ip := hp p hpp
        have n0 := dst_nn h hv.1 hv.2 ip.1 ip.2
        by_cases z : dst n ts v p = 0
        · have := (dst_zero h hv.1 hv.2 ip.1 ip.2).mp z
          exact .inl (this ▸ hpp)
        · have := (dst_one h hv.1 hv.2 ip.1 ip.2).mp (by omega)
          exact .inr ⟨p, hpp, this.symm⟩
      · rintro (hv | ⟨p, hpp, ha⟩)
        · have iv := hp v hv
          refine ⟨iv, v, hv, decide_eq_true ?_⟩
          rw [(web_dist h iv.1 iv.2).zero]
          decide
        · have iv := h.adj ha
          have ip := hp p hpp
          refine ⟨⟨iv.2.2.1, iv.2.2.2.1⟩, p, hpp, decide_eq_true ?_⟩
          have := (dst_one h iv.2.2.1 iv.2.2.2.1 ip.1 ip.2).mpr ha.symm
          omega
    · exact ((rng_sorted 0 n).filter _).imp fun z => by omega
/-- the tuple holds the standing -/
def holds (st : List Int) (r : HRow) : Bool := st.all fun p => inB p r.v.1.l
theorem holds_iff {st : List Int} {r : HRow} : holds st r = true ↔ ∀ x ∈ st, x ∈ r.v.1.l := by
  unfold holds
  rw [List.all_eq_true]
  exact ⟨fun h x hx => inB_t.mp (h x hx), fun h x hx => inB_t.mpr (h x hx)⟩
theorem law_row_ok {F : List HRow} {st : Tup Int} (hF : F.length < 1000) (hl : st.l.length < 1000) : law_row F st = R.ok ((sortBy law_by_turns (F.filter (holds st.l))).take 1) := by
  refine po_iff ?_
  unfold law_row
  refine po_bind (po_foldP (fun pre (g : List HRow) => g = pre.filter (holds st.l)) rfl ?_) ?_
  · rintro pre g x post e rfl
    have e' : F = pre ++ x :: post := e
    have hpl : pre.length < 1000 := by have := congrArg List.length e'; rw [List.length_append, List.length_cons] at this; omega
    have hfl := List.length_filter_le (holds st.l) pre
    refine po_filGE (g := fun b => if (!inB b x.v.1.l) = true then some b else none) (by omega) (fun b _ => ?_) ?_
    · by_cases q : (!inB b x.v.1.l) = true
      · rw [if_pos q, if_pos q]
      · rw [if_neg q, if_neg q]
    · rw [fil_ite, List.filter_append]
      have hh : holds st.l x = decide (st.l.filter (fun b => !inB b x.v.1.l) = []) := by
        rw [Bool.eq_iff_iff, decide_eq_true_iff, List.filter_eq_nil_iff, holds_iff]
        constructor
        · intro z b hb q
          rw [Bool.not_eq_true', inB_f] at q
          exact q (z b hb)
        · intro z b hb
          apply Classical.byContradiction
          intro q
          exact z b hb (by rw [Bool.not_eq_true', inB_f]; exact q)
      refine po_if (fun q => ?_) fun q => ?_
      · refine po_app (by omega) ?_
        show _ = _ ++ _
        rw [List.filter_cons, if_pos (by rw [hh]; exact q)]
        rfl
      · show _ = _ ++ _
        rw [List.filter_cons, if_neg (by rw [hh]; exact q)]
        exact (List.append_nil _).symm
  · rintro g rfl
    rw [show sortByR law_by_turns (F.filter (holds st.l)) = R.ok (sortBy law_by_turns (F.filter (holds st.l))) from sortByR_ok (g := fun r : HRow => r.v.2.2.1) fun b _ => rfl, ok_bind]
    show cutL _ none (some (1 : Int)) = _
    generalize sortBy law_by_turns (F.filter (holds st.l)) = l
    unfold cutL
    cases l with
    | nil => rfl
    | cons x l =>
      have e0 : HT.sIx (x :: l).length 0 none = 0 := rfl
      have e1 : HT.sIx (x :: l).length (x :: l).length (some (1 : Int)) = 1 := by
        unfold HT.sIx
        simp
      rw [e0, e1]
      rfl
/-- the first by turns of the tuples that hold the standing -/
theorem first_row {F : List HRow} {st : Tup Int} {r0 : HRow} (h0 : r0 ∈ F) (hh : holds st.l r0 = true) : ∃ r, (sortBy law_by_turns (F.filter (holds st.l))).take 1 = [r] ∧ r ∈ F ∧ holds st.l r = true ∧ r.v.2.2.1 ≤ r0.v.2.2.1 := by
  have hm : r0 ∈ sortBy law_by_turns (F.filter (holds st.l)) := sortBy_mem.mpr (List.mem_filter.mpr ⟨h0, hh⟩)
  have hp : (sortBy law_by_turns (F.filter (holds st.l))).Pairwise fun x y => (decide (okI (law_by_turns x) ≤ okI (law_by_turns y))) = true := List.pairwise_mergeSort (fun a b c h1 h2 => by
    have h1 := of_decide_eq_true h1
    have h2 := of_decide_eq_true h2
    exact decide_eq_true (by omega)) (fun a b => by
    by_cases z : okI (law_by_turns a) ≤ okI (law_by_turns b)
    · rw [decide_eq_true z]; rfl
    · rw [decide_eq_true (show okI (law_by_turns b) ≤ okI (law_by_turns a) by omega), Bool.or_true]) _
  have hs : ∀ x ∈ sortBy law_by_turns (F.filter (holds st.l)), x ∈ F ∧ holds st.l x = true := fun x hx => List.mem_filter.mp (sortBy_mem.mp hx)
  cases e : sortBy law_by_turns (F.filter (holds st.l)) with
  | nil => rw [e] at hm; cases hm
  | cons r l =>
    rw [e] at hm hp hs
    refine ⟨r, rfl, (hs r (by simp)).1, (hs r (by simp)).2, ?_⟩
    rcases List.mem_cons.mp hm with rfl | hm
    · exact Int.le_refl _
    · exact of_decide_eq_true ((List.pairwise_cons.mp hp).1 r0 hm)
end
end G
namespace G
open PySem L2 Z
section
variable {n m : Int} {ts : List (Int × Int)}
theorem ris_all {l : List Int} (n0 : 0 ≤ n) (h : Ris n l) (hl : (l.length : Int) = n) : l = rng 0 n := by
  have hp : l.Perm (rng 0 n) := (List.perm_ext_iff_of_nodup h.nd (rng_nodup 0 n)).mpr fun v => ⟨fun hv => rng_mem.mpr (h.2 v hv), fun hv => by
    apply Classical.byContradiction
    intro z
    have := nodup_le (xs := v :: l) (ys := rng 0 n) (List.nodup_cons.mpr ⟨z, h.nd⟩) fun y hy => by
      rcases List.mem_cons.mp hy with rfl | hy
      · exact hv
      · exact rng_mem.mpr (h.2 y hy)
    rw [rng_length, List.length_cons] at this
    omega⟩
  have e1 := sortI_eq hp (h.1.imp fun z => by omega)
  have e2 := sortI_eq (List.Perm.refl (rng 0 n)) ((rng_sorted 0 n).imp fun z => by omega)
  rw [e1, ← e2]
theorem won_sub (w : WebOk n ts) (m0 : 0 ≤ m) {k : Nat} {s s' : Tup Int} (hs : s ∈ stands n) (hs' : s' ∈ stands n) (h : ∀ x ∈ s'.l, x ∈ s.l) (z : Won n ts m k s) : Won n ts m k s' :=
  won_from (ren_id (n := n) (ts := ts)) w w m0 (Int.le_refl m) hs hs' (fun x hx => ⟨x, h x hx, rfl⟩) z
theorem onw_sub {L L' s s' : List Int} (iL : InW n L) (hL : ∀ l ∈ L, l ∈ L') (is : InW n s) (ns : s.Nodup) (hs : ∀ x ∈ s', x ∈ s) (ns' : s'.Nodup) {b' : Tup Int} (hb : b' ∈ onw n ts L' s') : ∃ b ∈ onw n ts L s, ∀ x ∈ b'.l, x ∈ b.l := by
  obtain ⟨b, h1, h2⟩ := onw_from (ren_id (n := n) (ts := ts)) iL hL is ns (fun x hx => ⟨x, hs x hx, rfl⟩) ns' hb
  refine ⟨b, h1, fun x hx => ?_⟩
  obtain ⟨y, hy, e⟩ := h2 x hx
  have e' : y = x := e
  exact e' ▸ hy
theorem won_chain (w : WebOk n ts) : ∀ (k : Nat) (s : Tup Int), s ∈ stands n → Won n ts m (k + 1) s → ¬ Won n ts m k s → ∃ l : List (Tup Int), l.length = k + 1 ∧ l.Nodup ∧ ∀ x ∈ l, x ∈ stands n ∧ Won n ts m (k + 1) x
  | 0, s, hs, h1, _ => ⟨[s], rfl, by simp, fun x hx => by rw [List.mem_singleton.mp hx]; exact ⟨hs, h1⟩⟩
  | k + 1, s, hs, h1, h2 => by
    rcases h1 with z | ⟨L, hL, hb⟩
    · exact absurd z h2
    · have : ∃ b ∈ onw n ts L.l s.l, ¬ Won n ts m k b := by
        apply Classical.byContradiction
        intro z
        refine h2 (.inr ⟨L, hL, fun b hb2 => ?_⟩)
        apply Classical.byContradiction
        intro q
        exact z ⟨b, hb2, q⟩
      obtain ⟨b, hb1, hb2⟩ := this
      obtain ⟨l, l1, l2, l3⟩ := won_chain w k b (onw_stand w hs hb1) (hb b hb1) hb2
      refine ⟨s :: l, by rw [List.length_cons, l1], List.nodup_cons.mpr ⟨fun z => h2 (l3 s z).2, l2⟩, fun x hx => ?_⟩
      rcases List.mem_cons.mp hx with rfl | hx
      · exact ⟨hs, .inr ⟨L, hL, hb⟩⟩
      · exact ⟨(l3 x hx).1, (l3 x hx).2.up⟩
theorem stands_six (n2 : 2 ≤ n) (n6 : n ≤ 6) : (stands n).length ≤ 57 := by
  have : n = 2 ∨ n = 3 ∨ n = 4 ∨ n = 5 ∨ n = 6 := by omega
  rcases this with rfl | rfl | rfl | rfl | rfl <;> decide +kernel
theorem won_57 (w : WebOk n ts) (n2 : 2 ≤ n) (n6 : n ≤ 6) {k : Nat} {s : Tup Int} (hs : s ∈ stands n) (k1 : 1 ≤ k) (h1 : Won n ts m k s) (h2 : ¬ Won n ts m (k - 1) s) : k ≤ 57 := by
  obtain ⟨j, rfl⟩ : ∃ j, k = j + 1 := ⟨k - 1, by omega⟩
  obtain ⟨l, l1, l2, l3⟩ := won_chain w j s hs h1 h2
  have := nodup_le l2 (ys := stands n) fun x hx => (l3 x hx).1
  have := stands_six n2 n6
  omega
theorem looks_ris {L : Tup Int} (n0 : 0 ≤ n) (m0 : 0 ≤ m) (h : L ∈ setsN n m) : LooksOk n L.l := by
  have := ((setsN_mem n0 m0).mp h).1
  exact ⟨this.2, this.1⟩
theorem push_fold (w : WebOk n ts) {t : Int} {parts : List (Tup Int)} (hp : ∀ b ∈ parts, InW n b.l ∧ b.l.Nodup) {wl : List (Tup Int × Int)} (hl : wl.length + parts.length < 1000) :
    foldR (fun (g35 : (List ((Tup Int) × Int))) (b35 : (Tup Int)) => do
            let y44 ← law_moved (n, ⟨ts⟩) b35
            let l47 ← app g35 (y44, t)
            R.ok l47) wl parts = R.ok (wl ++ parts.map fun (b : Tup Int) => (nearT n ts b.l, t)) := by
  refine po_iff ?_
  refine po_foldP (fun pre (g : List (Tup Int × Int)) => g = wl ++ pre.map fun (b : Tup Int) => (nearT n ts b.l, t)) (List.append_nil _).symm ?_
  rintro pre g x post e rfl
  have hx := hp x (by rw [e]; simp)
  have hl2 := congrArg List.length e
  rw [List.length_append, List.length_cons] at hl2
  show Post (law_moved (n, ⟨ts⟩) ⟨x.l⟩ >>= _) _ _
  rw [law_moved_ok w hx.1 hx.2, ok_bind]
  refine po_app (by rw [List.length_append, List.length_map]; omega) ?_
  show _ = _
  rw [List.map_append, ← List.append_assoc]
  rfl
theorem sum_const {α : Type} {l : List α} {f : α → Nat} {c : Nat} (h : ∀ x ∈ l, f x = c) : (l.map f).sum = l.length * c := by
  induction l with
  | nil => simp
  | cons x l ih =>
    rw [List.map_cons, List.sum_cons, ih fun y hy => h y (List.mem_cons_of_mem _ hy), h x (by simp), List.length_cons, Nat.add_mul]
    omega
theorem fuel61 : 7 ^ (60 - (1 : Int).toNat) + 0 < fu 24893071176241544900787221684958608586849291716964049 := by
  rw [fu_eq]
  decide +kernel
/-- what waits, while the hunt is played -/
structure WaitOk (n : Int) (ts : List (Int × Int)) (F : List HRow) (k0 : Nat) (x : Tup Int × Int) : Prop where
  st : x.1 ∈ stands n
  t1 : 1 ≤ x.2
  row : ∃ s L k, row s L (k : Nat) ∈ F ∧ (∀ y ∈ x.1.l, y ∈ s.l) ∧ x.2 - 1 + (k : Int) ≤ (k0 : Int)
theorem hunted_ok (w : WebOk n ts) (n2 : 2 ≤ n) (n6 : n ≤ 6) (m0 : 0 ≤ m) {F : List HRow} (hF : HuntOk n ts m F) {L0 : Tup Int} {k0 : Nat} (h0 : row ⟨rng 0 n⟩ L0 (k0 : Nat) ∈ F) : Post (law_hunted (n, ⟨ts⟩) F) (fun v => v = (k0 : Int)) noX := by
  have hFl := hF.len
  have rowof : ∀ {s L : Tup Int} {k : Nat}, row s L (k : Nat) ∈ F → RowOk n ts m F s L k := fun {s L k} hr => by
    obtain ⟨s', L', k', e, r⟩ := hF.rows _ hr
    have e1 : s = s' := congrArg (fun r : HRow => r.v.1) e
    have e2 : L = L' := congrArg (fun r : HRow => r.v.2.1) e
    have e3 : (k : Int) = k' := congrArg (fun r : HRow => r.v.2.2.1) e
    have e3 : k = k' := by omega
    subst e1 e2 e3
    exact r
  have r0 := rowof h0
  have k57 : k0 ≤ 57 := won_57 w n2 n6 r0.st r0.k1 r0.won r0.few
  unfold law_hunted
  refine po_listRng (by decide) (by decide) (by show -(2 ^ 62) ≤ n; omega) (by show n < 2 ^ 62; omega) (by show (n - 0).toNat ≤ 100000; omega) ?_
  refine po_bind (Q := fun (r : Sum Int (Int × List (Tup Int × Int))) => ∃ g, r = .inr g ∧ g.1 = (k0 : Int)) (po_whileX (T := fun (g : Int × List (Tup Int × Int)) => g.1 = (k0 : Int)) (fun (g : Int × List (Tup Int × Int)) => (∀ x ∈ g.2, WaitOk n ts F k0 x) ∧ (∀ (i : Nat) (x : Tup Int × Int), g.2[i]? = some x → (i : Int) ≤ 6 * (x.2 - 1)) ∧ g.1 ≤ k0 ∧ ((k0 : Int) ≤ g.1 ∨ ∃ x ∈ g.2, ∃ q : Nat, x.2 + q = k0 ∧ ¬ Won n ts m q x.1))
    (fun g => (g.2.map fun x => 7 ^ (60 - x.2.toNat)).sum) ?_ ?_ ?_) ?_
  · rintro ⟨lg, wt⟩ ⟨i1, i2, i3, i4⟩
    refine ⟨fun c => ?_, fun c => ?_⟩
    · have hw : wt ≠ [] := by
        intro z
        subst z
        exact absurd c (by simp)
      obtain ⟨w', x, rfl⟩ : ∃ w' x, wt = w' ++ [x] := ⟨wt.dropLast, wt.getLast hw, (List.dropLast_concat_getLast hw).symm⟩
      have ep : popI (w' ++ [x]) = R.ok (x, w') := by
        unfold popI
        rw [List.getLast?_append]
        show R.ok (x, (w' ++ [x]).dropLast) = _
        rw [List.dropLast_concat]
      show Post (popI (w' ++ [x]) >>= _) _ _
      rw [ep, ok_bind]
      obtain ⟨xs, x1, s1, L1, k1, hr1, hsub1, hk1⟩ := i1 x (by simp)
      obtain ⟨xr, xl2⟩ := (stands_mem (by omega)).mp xs
      have xlen := xr.len
      have ix : ((w'.length : Nat) : Int) ≤ 6 * (x.2 - 1) := i2 w'.length x (by rw [List.getElem?_append_right (Nat.le_refl _), Nat.sub_self]; rfl)
      have kk1 := (rowof hr1).k1
      have tk : x.2 ≤ k0 := by omega
      show Post (law_row F x.1 >>= _) _ _
      rw [law_row_ok (by omega) (by omega), ok_bind]
      obtain ⟨r, er, rF, rh, rk⟩ := first_row (st := x.1) hr1 (holds_iff.mpr hsub1)
      rw [er]
      obtain ⟨s, L, k, rfl, ro⟩ := hF.rows _ rF
      have hsub : ∀ y ∈ x.1.l, y ∈ s.l := holds_iff.mp rh
      have hkk : (k : Int) ≤ (k1 : Int) := rk
      have kge := ro.k1
      refine po_if (fun c => ?_) fun _ => ?_
      · exfalso
        rw [Bool.or_eq_true] at c
        rcases c with c | c
        · exact absurd (of_decide_eq_true c) (by simp)
        · have := of_decide_eq_true c
          change (60 : Int) < x.2 at this
          omega
      · refine po_getE (x := row s L (k : Nat)) rfl ?_
        obtain ⟨sr, _⟩ := (stands_mem (by omega)).mp ro.st
        have hLr := ((setsN_mem (by omega) m0).mp ro.lk).1
        show Post (law_parts (n, ⟨ts⟩) ⟨x.1.l⟩ ⟨L.l⟩ >>= _) _ _
        rw [law_parts_ok w xr.2 (by omega) (looks_ris (by omega) m0 ro.lk), ok_bind]
        have hol := onw_lenS (n := n) (ts := ts) (L := L.l) (st := x.1.l)
        have eo : (((likesG (codeL n ts L.l) x.1.l).map Tup.mk).map fun (b : Tup Int) => (nearT n ts b.l, x.2 + 1)) = (onw n ts L.l x.1.l).map fun b => (b, x.2 + 1) := by
          unfold onw
          rw [List.map_map, List.map_map]
          rfl
        have eol : ((likesG (codeL n ts L.l) x.1.l).map Tup.mk).length = (onw n ts L.l x.1.l).length := by
          unfold onw
          rw [List.length_map, List.length_map]
        have ep2 := push_fold w (t := x.2 + 1) (parts := (likesG (codeL n ts L.l) x.1.l).map Tup.mk) (wl := w') (fun b hb => by
          obtain ⟨part, hpart, rfl⟩ := List.mem_map.mp hb
          obtain ⟨q1, q2, q3⟩ := likes_in hpart
          obtain ⟨kq, eq⟩ := likes_pairL hpart
          exact ⟨fun y hy => xr.2 y (q1 y hy), by show part.Nodup; rw [eq]; exact List.Pairwise.filter _ xr.nd⟩) (by rw [eol]; omega)
        rw [eo] at ep2
        refine po_bind (Q := fun g => g = w' ++ (onw n ts L.l x.1.l).map fun b => (b, x.2 + 1)) (by rw [ep2]; exact rfl) ?_
        rintro g rfl
        refine ⟨_, rfl, ⟨fun y hy => ?_, fun i y hy => ?_, ?_, ?_⟩, ?_⟩
        · rcases List.mem_append.mp hy with hy | hy
          · exact i1 y (List.mem_append_left _ hy)
          · obtain ⟨b, hb, rfl⟩ := List.mem_map.mp hy
            obtain ⟨b2, hb2, hbs⟩ := onw_sub hLr.2 (fun _ h => h) sr.2 sr.nd hsub xr.nd hb
            obtain ⟨L2, j, hj, hrj⟩ := ro.next b2 hb2
            exact ⟨onw_stand w xs hb, by show 1 ≤ x.2 + 1; omega, b2, L2, j, hrj, hbs, by show x.2 + 1 - 1 + (j : Int) ≤ k0; omega⟩
        · change (w' ++ (onw n ts L.l x.1.l).map fun b => (b, x.2 + 1))[i]? = some y at hy
          by_cases hi : i < w'.length
          · rw [List.getElem?_append_left hi] at hy
            exact i2 i y (by rw [List.getElem?_append_left hi]; exact hy)
          · rw [List.getElem?_append_right (by omega)] at hy
            obtain ⟨hlt, ey⟩ := List.getElem?_eq_some_iff.mp hy
            rw [List.length_map] at hlt
            have e2 : y.2 = x.2 + 1 := by rw [← ey, List.getElem_map]
            rw [e2]
            omega
        · show max2 lg x.2 ≤ k0
          unfold max2
          have i3' : lg ≤ k0 := i3
          split <;> omega
        · have hmax : lg ≤ max2 lg x.2 ∧ x.2 ≤ max2 lg x.2 := by
            unfold max2
            split <;> omega
          rcases i4 with z | ⟨y, hy, q, e1, e2⟩
          · have z' : (k0 : Int) ≤ lg := z
            exact .inl (by show (k0 : Int) ≤ max2 lg x.2; omega)
          · rcases List.mem_append.mp hy with hy | hy
            · exact .inr ⟨y, List.mem_append_left _ hy, q, e1, e2⟩
            · rw [List.mem_singleton.mp hy] at e1 e2
              cases q with
              | zero => exact .inl (by show (k0 : Int) ≤ max2 lg x.2; omega)
              | succ q =>
                have : ∃ b ∈ onw n ts L.l x.1.l, ¬ Won n ts m q b := by
                  apply Classical.byContradiction
                  intro z
                  refine e2 (.inr ⟨L, ro.lk, fun b hb => ?_⟩)
                  apply Classical.byContradiction
                  intro z2
                  exact z ⟨b, hb, z2⟩
                obtain ⟨b, hb, hq⟩ := this
                exact .inr ⟨(b, x.2 + 1), List.mem_append_right _ (List.mem_map.mpr ⟨b, hb, rfl⟩), q, by show x.2 + 1 + (q : Int) = k0; omega, hq⟩
        · show ((w' ++ (onw n ts L.l x.1.l).map fun b => (b, x.2 + 1)).map fun x => 7 ^ (60 - x.2.toNat)).sum < ((w' ++ [x]).map fun x => 7 ^ (60 - x.2.toNat)).sum
          rw [List.map_append, List.map_append, List.sum_append, List.sum_append, List.map_map, sum_const (f := (fun (x : Tup Int × Int) => 7 ^ (60 - x.2.toNat)) ∘ fun (b : Tup Int) => (b, x.2 + 1)) (c := 7 ^ (60 - (x.2 + 1).toNat)) (fun b _ => rfl), List.map_cons, List.sum_cons]
          have et : 60 - x.2.toNat = (60 - (x.2 + 1).toNat) + 1 := by omega
          rw [et, Nat.pow_succ]
          have hp : 0 < 7 ^ (60 - (x.2 + 1).toNat) := Nat.pow_pos (by decide)
          have hm : (onw n ts L.l x.1.l).length * 7 ^ (60 - (x.2 + 1).toNat) ≤ 6 * 7 ^ (60 - (x.2 + 1).toNat) := Nat.mul_le_mul_right _ (by omega)
          simp only [List.map_nil, List.sum_nil]
          omega
    · have hw : wt = [] := by
        rw [Bool.not_eq_false'] at c
        exact of_decide_eq_true c
      subst hw
      show lg = (k0 : Int)
      have i3' : lg ≤ k0 := i3
      rcases i4 with z | ⟨y, hy, _⟩
      · have z' : (k0 : Int) ≤ lg := z
        omega
      · cases hy
  · refine ⟨fun x hx => ?_, fun i x hx => ?_, by show (0 : Int) ≤ k0; omega, .inr ⟨_, List.mem_singleton.mpr rfl, k0 - 1, by have := r0.k1; show (1 : Int) + ((k0 - 1 : Nat) : Int) = k0; omega, r0.few⟩⟩
    · rw [List.mem_singleton.mp hx]
      exact ⟨r0.st, by show (1 : Int) ≤ 1; omega, _, _, _, h0, fun _ h => h, by show (1 : Int) - 1 + k0 ≤ k0; omega⟩
    · cases i with
      | zero =>
        have e : ((⟨rng 0 n⟩ : Tup Int), (1 : Int)) = x := by simpa using hx
        rw [← e]
        show ((0 : Nat) : Int) ≤ 6 * ((1 : Int) - 1)
        omega
      | succ i => simp at hx
  · rw [List.map_cons, List.map_nil, List.sum_cons, List.sum_nil]
    exact fuel61
  · rintro r ⟨g, rfl, hg⟩
    exact hg
/-! ### shelters -/
theorem all_won {l : List (Tup Int)} (h : ∀ b ∈ l, ∃ k, Won n ts m k b) : ∃ K, ∀ b ∈ l, Won n ts m K b := by
  induction l with
  | nil => exact ⟨0, fun _ z => (nomatch z)⟩
  | cons b l ih =>
    obtain ⟨K, hK⟩ := ih fun b hb => h b (List.mem_cons_of_mem _ hb)
    obtain ⟨k, hk⟩ := h b (by simp)
    refine ⟨max K k, fun c hc => ?_⟩
    rcases List.mem_cons.mp hc with rfl | hc
    · exact hk.mono (Nat.le_max_right _ _)
    · exact (hK c hc).mono (Nat.le_max_left _ _)
theorem never_on (w : WebOk n ts) (m0 : 0 ≤ m) {X : List Int} (hX : Ris n X) (hXl : (X.length : Int) ≤ m) {s : Tup Int} (hs : s ∈ stands n) (hn : ∀ k, ¬ Won n ts m k s) : ∃ b ∈ onw n ts X s.l, ∀ k, ¬ Won n ts m k b := by
  have n1 := w.n1
  have hXn := hX.len
  have hmm : min2 n m ≤ n ∧ min2 n m ≤ m ∧ (min2 n m = n ∨ min2 n m = m) := by
    unfold min2
    split <;> omega
  obtain ⟨Y, y1, y2, y3⟩ := ris_more (by omega) hX ((min2 n m).toNat - X.length) (by omega)
  have hY : (⟨Y⟩ : Tup Int) ∈ setsN n m := (setsN_mem (by omega) m0).mpr ⟨y1, by show (Y.length : Int) = _; omega⟩
  obtain ⟨sr, _⟩ := (stands_mem (by omega)).mp hs
  apply Classical.byContradiction
  intro z
  have hall : ∀ b ∈ onw n ts X s.l, ∃ k, Won n ts m k b := fun b hb => by
    apply Classical.byContradiction
    intro q
    exact z ⟨b, hb, fun k hk => q ⟨k, hk⟩⟩
  obtain ⟨K, hK⟩ := all_won hall
  refine hn (K + 1) (.inr ⟨⟨Y⟩, hY, fun b' hb' => ?_⟩)
  obtain ⟨b, hb, hbs⟩ := onw_sub hX.2 y3 sr.2 sr.nd (fun _ h => h) sr.nd hb'
  exact won_sub w m0 (onw_stand w hs hb) (onw_stand w hs hb') hbs (hK b hb)
theorem hidden_ok (w : WebOk n ts) (n2 : 2 ≤ n) (n6 : n ≤ 6) (m1 : 1 ≤ m) (m2 : m ≤ 2) {l : List (Tup Int)} (hS : ShelterOk n ts m l) {s : List Int} (hs : Ok2 s) : Post (law_hidden (n, ⟨ts⟩) l s m) (fun r => r.1 = true) noX := by
  have hl := hS.len
  unfold law_hidden
  refine po_listRng (by decide) (by decide) (by show -(2 ^ 62) ≤ n; omega) (by show n < 2 ^ 62; omega) (by show (n - 0).toNat ≤ 100000; omega) ?_
  refine po_bind (po_foldXP (fun (pre : List Int) (g : Tup Int × List Int) => g.1 ∈ stands n ∧ (∀ k, ¬ Won n ts m k g.1) ∧ Ok2 g.2) (fun (_ : Bool × List Int) => False) ⟨start_st n2, ((hS.mem _).mp hS.start).2, hs⟩ ?_) ?_
  · rintro pre ⟨st, s1⟩ x post e ⟨j1, j2, j3⟩
    change st ∈ stands n at j1
    change ∀ k, ¬ Won n ts m k st at j2
    obtain ⟨sr, _⟩ := (stands_mem (by omega)).mp j1
    have sl := sr.len
    refine po_rng (by decide) (by decide) (by omega) (by omega) ?_
    refine po_bind (po_foldP (fun (pre : List Int) (g : List Int × List Int) => g.1.Nodup ∧ InW n g.1 ∧ g.1.length ≤ pre.length ∧ Ok2 g.2) ⟨List.nodup_nil, fun _ z => (nomatch z), Nat.le_refl _, j3⟩ ?_) ?_
    · rintro pre ⟨g, s2⟩ x post e ⟨q1, q2, q3, q4⟩
      have q3' : g.length ≤ pre.length := q3
      have hpl : pre.length ≤ 2 := by
        have := congrArg List.length e
        rw [rng_length, List.length_append, List.length_cons] at this
        omega
      refine po_bind (next_ok q4 (show (0 : Int) < (n, (⟨ts⟩ : Tup (Int × Int))).1 by show 0 < n; omega) (by show n < _; omega)) fun y ⟨y0, y1, hy⟩ => ?_
      refine po_if (fun c => ?_) fun c => ⟨q1, q2, by show g.length ≤ _; rw [List.length_append]; omega, hy⟩
      have hny : y.1 ∉ g := by
        change (!inB y.1 g) = true at c
        rw [Bool.not_eq_true', inB_f] at c
        exact c
      refine po_app (by show g.length < 100000; omega) ⟨?_, fun z hz => ?_, ?_, hy⟩
      · refine List.nodup_append.mpr ⟨q1, by simp, fun a ha b hb e => ?_⟩
        rw [List.mem_singleton.mp hb] at e
        exact hny (e ▸ ha)
      · rcases List.mem_append.mp hz with hz | hz
        · exact q2 z hz
        · rw [List.mem_singleton.mp hz]
          exact ⟨y0, y1⟩
      · show (g ++ [y.1]).length ≤ _
        rw [List.length_append, List.length_append]
        exact Nat.add_le_add_right q3' _
    · rintro ⟨lk, s2⟩ ⟨q1, q2, q3, q4⟩
      have q3' : lk.length ≤ m.toNat := by
        have h : lk.length ≤ (rng 0 m).length := q3
        rw [rng_length] at h
        omega
      have hX : Ris n (sortI lk) := ris_sort q1 q2
      have hXl : ((sortI lk).length : Int) ≤ m := by
        rw [(sortI_perm lk).length_eq]
        omega
      show Post (law_partsL (n, ⟨ts⟩) ⟨st.l⟩ (sortI lk) >>= _) _ _
      rw [law_partsL_ok w sr.2 (by omega) ⟨hX.2, hX.1⟩, ok_bind]
      have hol : (likesG (codeL n ts (sortI lk)) st.l).length ≤ st.l.length := by
        have := onw_lenS (n := n) (ts := ts) (L := sortI lk) (st := st.l)
        unfold onw at this
        rw [List.length_map] at this
        exact this
      refine po_bind (po_foldP (fun (pre : List (Tup Int)) (g : List (Tup Int)) => g.length ≤ pre.length ∧ (∀ b ∈ g, b ∈ stands n ∧ ∀ k, ¬ Won n ts m k b) ∧ ((∃ p ∈ pre, ∀ k, ¬ Won n ts m k (nearT n ts p.l)) → g ≠ [])) ⟨Nat.le_refl _, fun _ z => (nomatch z), fun ⟨_, z, _⟩ => (nomatch z)⟩ ?_) ?_
      · rintro pre g x post e ⟨v1, v2, v3⟩
        have hpl : pre.length < 1000 := by
          have := congrArg List.length e
          rw [List.length_map, List.length_append, List.length_cons] at this
          omega
        have hxm : x ∈ (likesG (codeL n ts (sortI lk)) st.l).map Tup.mk := by rw [e]; simp
        obtain ⟨part, hpart, rfl⟩ := List.mem_map.mp hxm
        obtain ⟨a1, a2, a3⟩ := likes_in hpart
        obtain ⟨kq, eq⟩ := likes_pairL hpart
        have hnd : part.Nodup := by rw [eq]; exact List.Pairwise.filter _ sr.nd
        rw [law_moved_ok w (fun y hy => sr.2 y (a1 y hy)) hnd, ok_bind]
        have hb : nearT n ts part ∈ onw n ts (sortI lk) st.l := List.mem_map.mpr ⟨part, hpart, rfl⟩
        have hbs := onw_stand w j1 hb
        have hbl := ((stands_mem (by omega)).mp hbs).1.len
        refine po_filGE (g := fun o => if (holds o.l (row (nearT n ts part) ⟨[]⟩ 0)) = true then some o else none) (by omega) (fun o ho => ?_) ?_
        · have hos := ((hS.mem o).mp ho).1
          have hol := ((stands_mem (by omega)).mp hos).1.len
          have e1 : filG (fun (b43 : Int) => do
                  if (!inB b43 (nearT n ts part).l) = true then do
                    R.ok (some b43)
                  else
                    R.ok none) o.l = R.ok (o.l.filter fun b => !inB b (nearT n ts part).l) := by
            rw [filG_ok (g := fun b => if (!inB b (nearT n ts part).l) = true then some b else none) (by omega) (fun b _ => by
              by_cases q : (!inB b (nearT n ts part).l) = true
              · rw [if_pos q, if_pos q]
              · rw [if_neg q, if_neg q]), fil_ite]
          refine (congrArg (fun r : R (List Int) => r >>= _) e1).trans ?_
          rw [ok_bind]
          have hh : holds o.l (row (nearT n ts part) ⟨[]⟩ 0) = decide (o.l.filter (fun b => !inB b (nearT n ts part).l) = []) := by
            rw [Bool.eq_iff_iff, decide_eq_true_iff, List.filter_eq_nil_iff, holds_iff]
            constructor
            · intro z b hb q
              rw [Bool.not_eq_true', inB_f] at q
              exact q (z b hb)
            · intro z b hb
              apply Classical.byContradiction
              intro q
              exact z b hb (by rw [Bool.not_eq_true', inB_f]; exact q)
          rw [hh]
          by_cases q : decide (o.l.filter (fun b => !inB b (nearT n ts part).l) = []) = true
          · rw [if_pos q, if_pos q]
          · rw [if_neg q, if_neg q]
        · rw [fil_ite]
          refine po_if (fun c => ?_) fun c => ?_
          · have hne : l.filter (fun o => holds o.l (row (nearT n ts part) ⟨[]⟩ 0)) ≠ [] := by
              rw [Bool.not_eq_true', decide_eq_false_iff_not] at c
              exact c
            obtain ⟨o, ho⟩ := List.exists_mem_of_ne_nil _ hne
            obtain ⟨o1, o2⟩ := List.mem_filter.mp ho
            obtain ⟨o3, o4⟩ := (hS.mem o).mp o1
            have o5 : ∀ x ∈ o.l, x ∈ (nearT n ts part).l := holds_iff.mp o2
            have v1' : g.length ≤ pre.length := v1
            refine po_app (by omega) ⟨?_, fun b hb2 => ?_, fun _ => by simp⟩
            · rw [List.length_append, List.length_append]
              exact Nat.add_le_add_right v1' _
            · rcases List.mem_append.mp hb2 with hb2 | hb2
              · exact v2 b hb2
              · rw [List.mem_singleton.mp hb2]
                exact ⟨hbs, fun k hk => o4 k (won_sub w (by omega) hbs o3 o5 hk)⟩
          · have v1' : g.length ≤ pre.length := v1
            refine ⟨by show g.length ≤ _; rw [List.length_append]; omega, v2, fun ⟨p, hp, hpn⟩ => ?_⟩
            rcases List.mem_append.mp hp with hp | hp
            · exact v3 ⟨p, hp, hpn⟩
            · rw [List.mem_singleton.mp hp] at hpn
              exfalso
              apply c
              rw [Bool.not_eq_true', decide_eq_false_iff_not]
              refine List.ne_nil_of_mem (a := nearT n ts part) (List.mem_filter.mpr ⟨(hS.mem _).mpr ⟨hbs, hpn⟩, holds_iff.mpr fun x hx => hx⟩)
      · rintro wy ⟨v1, v2, v3⟩
        obtain ⟨b, hb1, hb2⟩ := never_on w (by omega) hX hXl j1 j2
        obtain ⟨part, hpart, rfl⟩ := List.mem_map.mp hb1
        have hne : wy ≠ [] := v3 ⟨⟨part⟩, List.mem_map.mpr ⟨part, hpart, rfl⟩, hb2⟩
        have v1' : wy.length ≤ st.l.length := by
          have h : wy.length ≤ ((likesG (codeL n ts (sortI lk)) st.l).map Tup.mk).length := v1
          rw [List.length_map] at h
          omega
        have hpos : 0 < wy.length := List.length_pos_iff.mpr hne
        refine po_if (fun c => absurd (of_decide_eq_true c) hne) fun _ => ?_
        refine po_bind (next_ok q4 (by omega) (by omega)) fun y ⟨y0, y1, hy⟩ => ?_
        have hlt : y.1.toNat < wy.length := by omega
        refine po_getE (x := wy[y.1.toNat]) (getI_eq y0 (List.getElem?_eq_getElem hlt)) ?_
        · have hm := v2 _ (List.getElem_mem hlt)
          exact .inr ⟨_, rfl, hm.1, hm.2, hy⟩
  · rintro r (⟨z, _, hz⟩ | ⟨g, rfl, _⟩)
    · exact hz.elim
    · exact rfl
end
theorem min_all {l : List Int} {k : Int} (h0 : l ≠ []) (h : ∀ x ∈ l, x = k) : minL l = R.ok k := by
  unfold minL
  have e : l.min? = some k := by
    cases q : l.min? with
    | none => rw [List.min?_eq_none_iff] at q; exact absurd q h0
    | some v => rw [h v (List.min?_mem q)]
  rw [e]
  rfl
theorem law_true (ns : List Int) (h : ns.length ≤ 63) : law ⟨ns⟩ = R.ok true := by
  refine po_iff ?_
  unfold law
  refine po_bind (folded_ok h (by decide) (by decide)) fun y3 h3 => ?_
  refine po_bind (po_foldX (fun _ => True) trivial fun _ b _ hb => ?_) ?_
  · refine po_bind (state_ok b) fun y8 h8 => ?_
    refine po_bind (web_named h8 (by omega) (by omega) (by omega)) ?_
    rintro ⟨web, s11⟩ ⟨n, ts, ew, n0, n1, w, h11⟩
    have ew' : web = (n, ⟨ts⟩) := ew
    subst ew'
    have n2 : 2 ≤ n := by omega
    have n6 : n ≤ 6 := by omega
    refine po_bind (next_ok h11 (by decide) (by decide)) fun y15 ⟨f0, f1, h15⟩ => ?_
    have m1 : 1 ≤ 1 + y15.1 := by omega
    have m2 : 1 + y15.1 ≤ 2 := by omega
    generalize 1 + y15.1 = m at m1 m2 ⊢
    refine po_bind (hunt_or_shelter_ok w n2 (by omega) (m := m) (by omega)) fun y17 h17 => ?_
    cases y17 with
    | hunt F =>
      have hF : HuntOk n ts m F := h17
      obtain ⟨L0, k0, hr0⟩ := hF.start
      have hl := hF.len
      have rowof : ∀ {s L : Tup Int} {k : Nat}, row s L (k : Nat) ∈ F → RowOk n ts m F s L k := fun {s L k} hr => by
        obtain ⟨s', L', k', e, r⟩ := hF.rows _ hr
        have e1 : s = s' := congrArg (fun r : HRow => r.v.1) e
        have e2 : L = L' := congrArg (fun r : HRow => r.v.2.1) e
        have e3 : (k : Int) = k' := congrArg (fun r : HRow => r.v.2.2.1) e
        have e3 : k = k' := by omega
        subst e1 e2 e3
        exact r
      have r0 := rowof hr0
      refine po_if (fun _ => ?_) fun c => absurd rfl c
      show Post (filG (fun (b24 : HRow) => do
            if (decide ((b24.v.1.l.length : Int) = n)) = true then do
              R.ok (some b24.v.2.2.1)
            else
              R.ok none) F >>= _) _ _
      refine po_filGE (g := fun r => if (decide ((r.v.1.l.length : Int) = n)) = true then some r.v.2.2.1 else none) (by omega) (fun r _ => ?_) ?_
      · by_cases q : (decide ((r.v.1.l.length : Int) = n)) = true
        · rw [if_pos q, if_pos q]
        · rw [if_neg q, if_neg q]
      · rw [fil_map F (fun r : HRow => decide ((r.v.1.l.length : Int) = n)) fun r => r.v.2.2.1]
        have hall : ∀ x ∈ (F.filter fun r : HRow => decide ((r.v.1.l.length : Int) = n)).map (fun r => r.v.2.2.1), x = (k0 : Int) := fun x hx => by
          obtain ⟨r, hr, rfl⟩ := List.mem_map.mp hx
          obtain ⟨hr1, hr2⟩ := List.mem_filter.mp hr
          have hr2 := of_decide_eq_true hr2
          obtain ⟨s, L, k, rfl, ro⟩ := hF.rows r hr1
          have es : s = ⟨rng 0 n⟩ := by
            have := ris_all (by omega) ((stands_mem (by omega)).mp ro.st).1 hr2
            show s = _
            rw [← this]
          subst es
          have := first_uniq ⟨ro.won, ro.few⟩ ⟨r0.won, r0.few⟩
          show (k : Int) = k0
          omega
        have hne : (F.filter fun r : HRow => decide ((r.v.1.l.length : Int) = n)).map (fun r => r.v.2.2.1) ≠ [] := List.ne_nil_of_mem (a := (k0 : Int)) (List.mem_map.mpr ⟨row ⟨rng 0 n⟩ L0 (k0 : Nat), List.mem_filter.mpr ⟨hr0, decide_eq_true (by show ((rng 0 n).length : Int) = n; rw [rng_length]; omega)⟩, rfl⟩)
        show Post (law_hunted (n, ⟨ts⟩) F >>= _) _ _
        refine po_bind (hunted_ok w n2 n6 (by omega) hF hr0) ?_
        rintro v rfl
        rw [min_all hne hall, ok_bind]
        refine po_if (fun c => ?_) fun _ => ⟨(), rfl, trivial⟩
        rw [decide_eq_true rfl] at c
        cases c
    | shelter l =>
      have hS : ShelterOk n ts m l := h17
      refine po_if (fun c => absurd (of_decide_eq_true c) (show ¬ ("shelter" : Str) = ("hunt" : Str) by decide)) fun _ => ?_
      show Post (law_hidden (n, ⟨ts⟩) l y15.2 m >>= _) _ _
      refine po_bind (hidden_ok w n2 n6 m1 m2 hS h15) fun y42 h42 => ?_
      rw [h42]
      exact po_if (fun c => by cases c) fun _ => ⟨(), rfl, trivial⟩
  · rintro r ⟨g, rfl, _⟩
    exact rfl
end G
namespace HD
open PySem (PyData Obj Params Str)
@[reducible] noncomputable def en (P : PySem.Params) (k : PySem.Str) (t : Nat) (v : PySem.Value) : PySem.DictEntry := .mk (PyData.keyHash P k) (.str k t) v
@[reducible] noncomputable def ob (c : PySem.Value) (d : PySem.Data) : PySem.Obj := .mk c none d (Array.mk [])
@[reducible] noncomputable def fO (c : PySem.Value) (n : PySem.Str) (s : PySem.Stmt) (pm cd : PySem.Value) : PySem.Obj := .mk c none (.func (PySem.W.fnOf n n (L2.defArgs s) (L2.defBody s) (L2.defScope s) .none .none .none pm none cd .none)) (Array.mk [])
@[reducible] noncomputable def cO (n : PySem.Str) (s : PySem.Stmt) : PySem.Obj := .mk .none none (.func (.mk n n (L2.defArgs s) (.stmts (L2.defBody s)) (L2.defScope s) 0 [] .none .none .none .none none .none .none 0)) (Array.mk [])
@[reducible] noncomputable def i (x : Int) : PySem.Value := .int x 0
@[reducible] noncomputable def n (o : PySem.Obj) (x y : PySem.W.BT) : PySem.W.BT := .node o x y
@[reducible] noncomputable def l (o : PySem.Obj) : PySem.W.BT := .node o .nil .nil
noncomputable def a0 : Str := ⟨⟨[95,95,110,97,109,101,95,95]⟩⟩
noncomputable def a1 : Str := ⟨⟨[72,97,105,108,69,114,114,111,114]⟩⟩
noncomputable def a2 : Str := ⟨⟨[86,97,108,117,101,69,114,114,111,114]⟩⟩
noncomputable def a3 : Str := ⟨⟨[78,111,87,101,98]⟩⟩
noncomputable def a4 : Str := ⟨⟨[78,111,80,108,97,99,101]⟩⟩
noncomputable def a5 : Str := ⟨⟨[78,111,84,104,105,110,103]⟩⟩
noncomputable def a6 : Str := ⟨⟨[78,111,76,111,111,107,115]⟩⟩
noncomputable def a7 : Str := ⟨⟨[84,111,111,77,97,110,121]⟩⟩
noncomputable def a8 : Str := ⟨⟨[65,112,97,114,116]⟩⟩
noncomputable def a9 : Str := ⟨⟨[77,79,83,84,95,80,76,65,67,69,83,95,119,101,98,115]⟩⟩
noncomputable def a10 : Str := ⟨⟨[110,101,97,114,95,108,105,115,116,115]⟩⟩
noncomputable def a11 : Str := ⟨⟨[102,97,114,115,95,98,121]⟩⟩
noncomputable def a12 : Str := ⟨⟨[115,111,114,116,101,100,95,116,105,101,115]⟩⟩
noncomputable def a13 : Str := ⟨⟨[109,97,100,101,95,119,101,98]⟩⟩
noncomputable def a14 : Str := ⟨⟨[112,108,97,99,101,95,97,115,107,101,100]⟩⟩
noncomputable def a15 : Str := ⟨⟨[110,101,105,103,104,98,111,117,114,115,95,111,102]⟩⟩
noncomputable def a16 : Str := ⟨⟨[102,97,114,115,95,102,114,111,109]⟩⟩
noncomputable def a17 : Str := ⟨⟨[76,69,65,83,84,95,80,76,65,67,69,83]⟩⟩
noncomputable def a18 : Str := ⟨⟨[77,79,83,84,95,80,76,65,67,69,83,95,104,117,110,116,115]⟩⟩
noncomputable def a19 : Str := ⟨⟨[102,101,119,95,112,108,97,99,101,115]⟩⟩
noncomputable def a20 : Str := ⟨⟨[116,97,98,108,101,95,98,121]⟩⟩
noncomputable def a21 : Str := ⟨⟨[108,111,111,107,115,95,111,102]⟩⟩
noncomputable def a22 : Str := ⟨⟨[103,111,110,101,95,111,110]⟩⟩
noncomputable def a23 : Str := ⟨⟨[110,101,120,116,95,115,116,97,110,100,105,110,103,115]⟩⟩
noncomputable def a24 : Str := ⟨⟨[97,108,108,95,115,116,97,110,100,105,110,103,115]⟩⟩
noncomputable def a25 : Str := ⟨⟨[72,117,110,116,105,110,103]⟩⟩
noncomputable def a26 : Str := ⟨⟨[104,117,110,116,95,111,114,95,115,104,101,108,116,101,114]⟩⟩
noncomputable def a27 : Str := ⟨⟨[116,97,98,108,101,95,111,102]⟩⟩
noncomputable def a28 : Str := ⟨⟨[108,111,111,107,115,95,97,115,107,101,100]⟩⟩
noncomputable def a29 : Str := ⟨⟨[116,104,105,110,103,95,97,115,107,101,100]⟩⟩
noncomputable def a30 : Str := ⟨⟨[102,97,114,95,98,121]⟩⟩
noncomputable def a31 : Str := ⟨⟨[99,111,100,101,95,111,102]⟩⟩
noncomputable def a32 : Str := ⟨⟨[95,108,97,119,95,99,101,108,108,95,97,116]⟩⟩
noncomputable def a33 : Str := ⟨⟨[95,108,97,119,95,102,111,108,100,101,100]⟩⟩
noncomputable def a34 : Str := ⟨⟨[95,108,97,119,95,115,116,97,116,101]⟩⟩
noncomputable def a35 : Str := ⟨⟨[95,108,97,119,95,110,101,120,116]⟩⟩
noncomputable def a36 : Str := ⟨⟨[95,108,97,119,95,119,101,98]⟩⟩
noncomputable def a37 : Str := ⟨⟨[95,108,97,119,95,109,111,118,101,100]⟩⟩
noncomputable def a38 : Str := ⟨⟨[95,108,97,119,95,112,97,114,116,115]⟩⟩
noncomputable def a39 : Str := ⟨⟨[95,108,97,119,95,114,111,119]⟩⟩
noncomputable def a40 : Str := ⟨⟨[95,108,97,119,95,98,121,95,116,117,114,110,115]⟩⟩
noncomputable def a41 : Str := ⟨⟨[95,108,97,119,95,104,117,110,116,101,100]⟩⟩
noncomputable def a42 : Str := ⟨⟨[95,108,97,119,95,104,105,100,100,101,110]⟩⟩
noncomputable def a43 : Str := ⟨⟨[108,97,119]⟩⟩
noncomputable def env : PySem.Env := ⟨(.mk .module [(a0, .local),(a1, .local),(a2, .globalImplicit),(a3, .local),(a4, .local),(a5, .local),(a6, .local),(a7, .local),(a8, .local),(a9, .local),(a10, .local),(a11, .local),(a12, .local),(a13, .local),(a14, .local),(a15, .local),(a16, .local),(a17, .local),(a18, .local),(a19, .local),(a20, .local),(a21, .local),(a22, .local),(a23, .local),(a24, .local),(a25, .local),(a26, .local),(a27, .local),(a28, .local),(a29, .local),(a30, .local),(a31, .local),(a32, .local),(a33, .local),(a34, .local),(a35, .local),(a36, .local),(a37, .local),(a38, .local),(a39, .local),(a40, .local),(a41, .local),(a42, .local),(a43, .local)] .false .false []), PySem.mainNs, PySem.mainNs, [], PySem.Str.empty, none, (.ref 13), (some 14), 0⟩
noncomputable abbrev q0 (P : Params) : Obj := PySem.W.boot_o_0 P
noncomputable abbrev q1 (P : Params) : Obj := PySem.W.boot_o_1 P
noncomputable abbrev q2 (P : Params) : Obj := PySem.W.boot_o_2 P
noncomputable abbrev q3 (P : Params) : Obj := PySem.W.boot_o_3 P
noncomputable abbrev q4 (P : Params) : Obj := PySem.W.boot_o_4 P
noncomputable abbrev q5 (P : Params) : Obj := PySem.W.boot_o_5 P
noncomputable abbrev q6 (P : Params) : Obj := PySem.W.boot_o_6 P
noncomputable abbrev q7 (P : Params) : Obj := PySem.W.boot_o_7 P
noncomputable abbrev q8 (P : Params) : Obj := PySem.W.boot_o_8 P
noncomputable abbrev q9 (P : Params) : Obj := PySem.W.boot_o_9 P
noncomputable abbrev q10 (P : Params) : Obj := PySem.W.boot_o_10 P
noncomputable abbrev b0 : String := PySem.W.SL.s2766695959194262286x5
noncomputable def o0 : Obj := (ob (.type b0) (.seq ⟨[]⟩ 0))
noncomputable def o1 : Obj := (ob .none (.fields ⟨[]⟩))
noncomputable abbrev b1 : String := PySem.W.SL.s5856160107412720595x4
noncomputable def a44 : Str := ⟨⟨[60,109,111,100,117,108,101,62]⟩⟩
noncomputable def a45 : Str := ⟨⟨[47,99,108,97,105,109,47,99,117,116,46,112,121]⟩⟩
noncomputable def o2 : Obj := (ob (.type b1) (.fields ⟨[(.str a44 182),(.str a44 183),(.str a45 184),(i 1),(i 0),(i 0),(i 0),(i 0),(.ref 11),(.bool .false),(i 181),(.ref 12),.none,.none,.none,.none,(i 185),(i 1),(.str a45 186)]⟩))
noncomputable abbrev b2 : String := PySem.W.SL.s658472552662922059x5
noncomputable def a46 : Str := ⟨⟨[95,95,109,97,105,110,95,95]⟩⟩
noncomputable def o3 : Obj := (.mk (.type b2) none .plain ⟨[(some (.ref 13)),(some (.ref 3)),(some (.ref 3)),none,(some (.str a46 164)),none,(some (.ref 0))]⟩)
noncomputable def hA (P : PySem.Params) : PySem.Heap := ⟨⟨[(q0 P), (q1 P), (q2 P), (q3 P), (q4 P), (q5 P), (q6 P), (q7 P), (q8 P), (q9 P), (q10 P), o0, o1, o2, o3]⟩, (.mk [] [] [] 0 [] [] .false ⟨[]⟩ [] 0 .false .false .false 0 [2000,10,10] .false 0 .true [] [] 0 .false)⟩
noncomputable def tB (P : PySem.Params) : PySem.W.BT := (n (q0 P) (n (q1 P) (n (q3 P) (l (q7 P)) (l o0)) (n (q5 P) (l (q9 P)) (l o2))) (n (q2 P) (n (q4 P) (l (q8 P)) (l o1)) (n (q6 P) (l (q10 P)) (l o3))))
noncomputable abbrev code : PySem.Code := .body (PySem.W.behindTheImports PySem.Challenge.pw_farhail_k61_whole_hunts_and_shelters_pla) env
noncomputable abbrev B : List PySem.Frame := [PySem.W.topFrame (.mk 0 0 0 0)]
theorem pre0 (w : PySem.World) : (fun os : PySem.OsState => PySem.W.Fast.tw15667345088766844465 PySem.W.Fast.tw14364793385576792824 PySem.Challenge.pw_farhail_k61_whole_hunts_and_shelters_pla w 11 (some (.ref 6)) 12 (PySem.Shared.mk (PySem.W.boot_heap w.params) (Array.mk ([] : List PySem.GenState)) PySem.W.boot_drawn PySem.W.boot_toks os) (PySem.W.topStub PySem.Challenge.pw_farhail_k61_whole_hunts_and_shelters_pla)) = fun os => some ((PySem.Shared.mk (hA w.params) (Array.mk ([] : List PySem.GenState)) (.mk 0 0 0 0) 187 os), PySem.Thread.mk (PySem.W.Fast.tw11892475500146522536 PySem.W.Fast.tw14364793385576792824 code) code (.mk 0 0 0 0) B) := by kernel_rfl
theorem pre (w : PySem.World) (os : PySem.OsState) : PySem.W.topGo PySem.treeTable PySem.Challenge.pw_farhail_k61_whole_hunts_and_shelters_pla w 11 (some (.ref 6)) 12 (PySem.Shared.mk (PySem.W.boot_heap w.params) (Array.mk ([] : List PySem.GenState)) PySem.W.boot_drawn PySem.W.boot_toks os) (PySem.W.topStub PySem.Challenge.pw_farhail_k61_whole_hunts_and_shelters_pla) = some ((PySem.Shared.mk (hA w.params) (Array.mk ([] : List PySem.GenState)) (.mk 0 0 0 0) 187 os), PySem.Thread.mk (PySem.denote PySem.treeTable code) code (.mk 0 0 0 0) B) := by rw [PySem.W.Fast.te15667345088766844465, PySem.W.Fast.te14364793385576792824, PySem.W.Fast.te11892475500146522536]; exact congrFun (pre0 w) os
theorem block0 (w : PySem.World) : (fun os : PySem.OsState => PySem.W.Fast.tw14374325043358763698 PySem.W.Fast.tw14364793385576792824 PySem.Challenge.pw_farhail_k61_whole_hunts_and_shelters_pla w 11 (some (.ref 6)) 1 1 (PySem.Shared.mk (hA w.params) (Array.mk ([] : List PySem.GenState)) (.mk 0 0 0 0) 187 os) (PySem.W.blockOf (PySem.W.behindTheImports PySem.Challenge.pw_farhail_k61_whole_hunts_and_shelters_pla) env code (.mk 0 0 0 0) B)) = fun os => some (PySem.Flow.next, (PySem.W.SharedT.mk (tB w.params) 15 (.mk [] [] [] 0 [] [] .false ⟨[]⟩ [] 0 .false .false .false 0 [2000,10,10] .false 0 .true [] [] 0 .false) (Array.mk ([] : List PySem.GenState)) (.mk 0 0 0 0) 187 os).abs, code, (.mk 0 0 0 0)) := by kernel_rfl
theorem block (w : PySem.World) (os : PySem.OsState) : PySem.W.segRun PySem.treeTable PySem.Challenge.pw_farhail_k61_whole_hunts_and_shelters_pla w 11 (some (.ref 6)) 1 1 (PySem.Shared.mk (hA w.params) (Array.mk ([] : List PySem.GenState)) (.mk 0 0 0 0) 187 os) (PySem.W.blockOf (PySem.W.behindTheImports PySem.Challenge.pw_farhail_k61_whole_hunts_and_shelters_pla) env code (.mk 0 0 0 0) B) = some (PySem.Flow.next, (PySem.W.SharedT.mk (tB w.params) 15 (.mk [] [] [] 0 [] [] .false ⟨[]⟩ [] 0 .false .false .false 0 [2000,10,10] .false 0 .true [] [] 0 .false) (Array.mk ([] : List PySem.GenState)) (.mk 0 0 0 0) 187 os).abs, code, (.mk 0 0 0 0)) := by rw [PySem.W.Fast.te14374325043358763698, PySem.W.Fast.te14364793385576792824]; exact congrFun (block0 w) os
noncomputable def a47 : Str := ⟨⟨[102,97,114,104,97,105,108,46,101,114,114,111,114,115]⟩⟩
noncomputable def sts0 : List PySem.Stmt := [(.Assign [(.Name a0 (.mk 1 0 1 8))] (.Constant (.str a47) 0 (.mk 1 11 1 27)) (.mk 1 0 1 27)), (.ClassDef a1 [(.Name a2 (.mk 2 16 2 26))] [] [(.Pass (.mk 3 4 3 8))] [] [] (.mk .class [] .false .false []) none a1 [] (.mk 2 0 3 8))]
noncomputable abbrev b3 : String := PySem.W.SL.s14018661285674007319x4
noncomputable def a48 : Str := ⟨⟨[95,95,100,111,99,95,95]⟩⟩
noncomputable def a49 : Str := ⟨⟨[95,95,112,97,99,107,97,103,101,95,95]⟩⟩
noncomputable def a50 : Str := ⟨⟨[95,95,108,111,97,100,101,114,95,95]⟩⟩
noncomputable abbrev b4 : String := PySem.W.SL.s7097527257260152453x26
noncomputable def a51 : Str := ⟨⟨[95,95,115,112,101,99,95,95]⟩⟩
noncomputable def a52 : Str := ⟨⟨[95,95,97,110,110,111,116,97,116,105,111,110,115,95,95]⟩⟩
noncomputable def a53 : Str := ⟨⟨[95,95,98,117,105,108,116,105,110,115,95,95]⟩⟩
noncomputable def a54 : Str := ⟨⟨[95,95,102,105,108,101,95,95]⟩⟩
noncomputable def a55 : Str := ⟨⟨[95,95,99,97,99,104,101,100,95,95]⟩⟩
noncomputable def o4 (P : Params) : Obj := (ob (.type b3) (.dict ⟨[(en P a0 165 (.str a47 187)),(en P a48 166 .none),(en P a49 167 .none),(en P a50 168 (.builtin b4)),(en P a51 169 .none),(en P a52 170 (.ref 6)),(en P a53 171 (.ref 4)),(en P a54 173 (.str a45 172)),(en P a55 174 .none),(en P a1 206 (.ref 24))]⟩ 10))
noncomputable def o5 : Obj := (ob .none (.fields ⟨[(i 2),(i 0),(.ref 20)]⟩))
noncomputable abbrev b5 : String := PySem.W.SL.s6070975301684473832x10
noncomputable def o6 : Obj := (ob (.type b0) (.seq ⟨[(.type b5)]⟩ 0))
noncomputable abbrev b6 : String := PySem.W.SL.s11030030927630378310x26
noncomputable abbrev b7 : String := PySem.W.SL.s10062305145149207511x16
noncomputable abbrev b8 : String := PySem.W.SL.s17162191345867700912x4
noncomputable def o7 : Obj := (ob (.type b6) (.fields ⟨[(.builtin b7),(.type b8)]⟩))
noncomputable def a56 : Str := ⟨⟨[95,95,109,111,100,117,108,101,95,95]⟩⟩
noncomputable def a57 : Str := ⟨⟨[95,95,113,117,97,108,110,97,109,101,95,95]⟩⟩
noncomputable def a58 : Str := ⟨⟨[95,95,102,105,114,115,116,108,105,110,101,110,111,95,95]⟩⟩
noncomputable def a59 : Str := ⟨⟨[95,95,115,116,97,116,105,99,95,97,116,116,114,105,98,117,116,101,115,95,95]⟩⟩
noncomputable def o8 (P : Params) : Obj := (ob (.type b3) (.dict ⟨[(en P a56 196 (.str a47 187)),(en P a57 198 (.str a1 197)),(en P a58 200 (.int 2 199)),(en P a59 201 (.ref 22))]⟩ 4))
noncomputable def o9 : Obj := (ob (.type b0) (.seq ⟨[]⟩ 0))
noncomputable def o10 : Obj := (ob .none (.fields ⟨[]⟩))
noncomputable def o11 : Obj := (ob (.type b1) (.fields ⟨[(.str a1 191),(.str a1 192),(.str a45 193),(i 2),(i 0),(i 0),(i 0),(i 0),(.ref 18),(.bool .false),(i 181),(.ref 19),.none,.none,.none,.none,(i 194),(i 2),(.str a45 195)]⟩))
noncomputable def o12 : Obj := (.mk (.type b2) none .plain ⟨[(some (.ref 20)),(some (.ref 3)),(some (.ref 17)),none,(some (.str a47 187)),none,(some (.ref 0))]⟩)
noncomputable def o13 : Obj := (ob (.type b0) (.seq ⟨[]⟩ 0))
noncomputable def a60 : Str := ⟨⟨[95,95,119,101,97,107,114,101,102,95,95]⟩⟩
noncomputable def o14 (P : Params) : Obj := (ob (.type b3) (.dict ⟨[(en P a56 196 (.str a47 187)),(en P a58 200 (.int 2 199)),(en P a59 201 (.ref 22)),(en P a60 203 (.ref 25)),(en P a48 204 .none)]⟩ 3))
noncomputable abbrev b9 : String := PySem.W.SL.s5946037652744460706x9
noncomputable abbrev b10 : String := PySem.W.SL.s4278001404047624695x13
noncomputable abbrev b11 : String := PySem.W.SL.s2742458400755230247x6
noncomputable abbrev b12 : String := PySem.W.SL.s4209523147560561109x18
noncomputable def o15 : Obj := (.mk (.type b8) none (.cls (.mk a1 [(.type b5)] [(.ref 24),(.type b5),(.type b9),(.type b10),(.type b11)] 23 a1 .true [] [] .false none .false)) ⟨[(some (.ref 15)),none,(some (.str a1 189)),(some (.str a1 197)),(some (.builtin b12)),(some (.bool .true))]⟩)
noncomputable abbrev b13 : String := PySem.W.SL.s14755015743595814543x17
noncomputable abbrev b14 : String := PySem.W.SL.s10220274742760427390x26
noncomputable def o16 : Obj := (ob (.type b13) (.fields ⟨[(.str a60 202),(.ref 24),(.builtin b14),.none]⟩))
noncomputable abbrev b15 : String := PySem.W.SL.s4290257624100764138x5
noncomputable def o17 : Obj := (ob (.type b15) (.fields ⟨[(.ref 24),(.ref 24),(.ref 24)]⟩))
noncomputable abbrev b16 : String := PySem.W.SL.s4860613602091757760x24
noncomputable def o18 : Obj := (ob (.type b6) (.fields ⟨[(.builtin b16),(.ref 24)]⟩))
noncomputable def t0 (P : PySem.Params) : PySem.W.BT := (n (q0 P) (n (q1 P) (n (o4 P) (n (q7 P) (l o6) (l (o14 P))) (n o0 (l o10) (l o18))) (n (q5 P) (n (q9 P) (l (o8 P)) (l o16)) (n o2 (l o12) .nil))) (n (q2 P) (n (q4 P) (n (q8 P) (l o7) (l o15)) (n o5 (l o11) .nil)) (n (q6 P) (n (q10 P) (l o9) (l o17)) (n o3 (l o13) .nil))))
theorem pz0 : ∀ w : PySem.World, (fun os : PySem.OsState => PySem.W.Fast.tw10110043849684766642 PySem.W.Fast.tw14364793385576792824 PySem.Challenge.pw_farhail_k61_whole_hunts_and_shelters_pla w 11 (some (.ref 6)) 1 196 (PySem.W.SharedT.mk (tB w.params) 15 (.mk [] [] [] 0 [] [] .false ⟨[]⟩ [] 0 .false .false .false 0 [2000,10,10] .false 0 .true [] [] 0 .false) (Array.mk ([] : List PySem.GenState)) (.mk 0 0 0 0) 187 os) (PySem.W.piecesOf sts0 env code (.mk 0 0 0 0) B)) = fun os => some (PySem.Flow.next, (PySem.W.SharedT.mk (t0 w.params) 28 (.mk [] [] [] 0 [] [] .false ⟨[]⟩ [] 0 .false .false .false 0 [2000,10,10] .false 0 .true [] [] 0 .false) (Array.mk ([] : List PySem.GenState)) (.mk 0 0 0 0) 207 os), code, (.mk 2 0 3 8)) := fun w => by kernel_rfl
theorem p0 (w : PySem.World) (os : PySem.OsState) : PySem.W.segRun PySem.treeTable PySem.Challenge.pw_farhail_k61_whole_hunts_and_shelters_pla w 11 (some (.ref 6)) 1 196 (PySem.W.SharedT.mk (tB w.params) 15 (.mk [] [] [] 0 [] [] .false ⟨[]⟩ [] 0 .false .false .false 0 [2000,10,10] .false 0 .true [] [] 0 .false) (Array.mk ([] : List PySem.GenState)) (.mk 0 0 0 0) 187 os).abs (PySem.W.piecesOf sts0 env code (.mk 0 0 0 0) B) = some (PySem.Flow.next, (PySem.W.SharedT.mk (t0 w.params) 28 (.mk [] [] [] 0 [] [] .false ⟨[]⟩ [] 0 .false .false .false 0 [2000,10,10] .false 0 .true [] [] 0 .false) (Array.mk ([] : List PySem.GenState)) (.mk 0 0 0 0) 207 os).abs, code, (.mk 2 0 3 8)) := PySem.W.segRun_of (by rw [PySem.W.Fast.te10110043849684766642, PySem.W.Fast.te14364793385576792824]; exact congrFun (pz0 w) os)
noncomputable def sts1 : List PySem.Stmt := [(.ClassDef a3 [(.Name a1 (.mk 4 12 4 21))] [] [(.Pass (.mk 5 4 5 8))] [] [] (.mk .class [] .false .false []) none a3 [] (.mk 4 0 5 8))]
noncomputable def o19 (P : Params) : Obj := (ob (.type b3) (.dict ⟨[(en P a0 165 (.str a47 187)),(en P a48 166 .none),(en P a49 167 .none),(en P a50 168 (.builtin b4)),(en P a51 169 .none),(en P a52 170 (.ref 6)),(en P a53 171 (.ref 4)),(en P a54 173 (.str a45 172)),(en P a55 174 .none),(en P a1 206 (.ref 24)),(en P a3 222 (.ref 37))]⟩ 11))
noncomputable def o20 : Obj := (ob .none (.fields ⟨[(i 2),(i 0),(.ref 20),(i 4),(i 0),(.ref 33)]⟩))
noncomputable def o21 : Obj := (.mk (.type b8) none (.cls (.mk a1 [(.type b5)] [(.ref 24),(.type b5),(.type b9),(.type b10),(.type b11)] 23 a1 .true [] [(.ref 37)] .false none .false)) ⟨[(some (.ref 15)),none,(some (.str a1 189)),(some (.str a1 197)),(some (.builtin b12)),(some (.bool .true))]⟩)
noncomputable def o22 : Obj := (ob (.type b0) (.seq ⟨[(.ref 24)]⟩ 0))
noncomputable def o23 : Obj := (ob (.type b6) (.fields ⟨[(.builtin b7),(.type b8)]⟩))
noncomputable def o24 (P : Params) : Obj := (ob (.type b3) (.dict ⟨[(en P a56 214 (.str a47 187)),(en P a57 216 (.str a3 215)),(en P a58 218 (.int 4 217)),(en P a59 219 (.ref 35))]⟩ 4))
noncomputable def o25 : Obj := (ob (.type b0) (.seq ⟨[]⟩ 0))
noncomputable def o26 : Obj := (ob .none (.fields ⟨[]⟩))
noncomputable def o27 : Obj := (ob (.type b1) (.fields ⟨[(.str a3 209),(.str a3 210),(.str a45 211),(i 4),(i 0),(i 0),(i 0),(i 0),(.ref 31),(.bool .false),(i 181),(.ref 32),.none,.none,.none,.none,(i 212),(i 4),(.str a45 213)]⟩))
noncomputable def o28 : Obj := (.mk (.type b2) none .plain ⟨[(some (.ref 33)),(some (.ref 3)),(some (.ref 30)),none,(some (.str a47 187)),none,(some (.ref 0))]⟩)
noncomputable def o29 : Obj := (ob (.type b0) (.seq ⟨[]⟩ 0))
noncomputable def o30 (P : Params) : Obj := (ob (.type b3) (.dict ⟨[(en P a56 214 (.str a47 187)),(en P a58 218 (.int 4 217)),(en P a59 219 (.ref 35)),(en P a48 220 .none)]⟩ 2))
noncomputable def o31 : Obj := (.mk (.type b8) none (.cls (.mk a3 [(.ref 24)] [(.ref 37),(.ref 24),(.type b5),(.type b9),(.type b10),(.type b11)] 36 a3 .true [] [] .false none .false)) ⟨[(some (.ref 28)),none,(some (.str a3 207)),(some (.str a3 215)),(some (.builtin b12)),(some (.bool .true))]⟩)
noncomputable def o32 : Obj := (ob (.type b15) (.fields ⟨[(.ref 37),(.ref 37),(.ref 37)]⟩))
noncomputable def o33 : Obj := (ob (.type b6) (.fields ⟨[(.builtin b16),(.ref 37)]⟩))
noncomputable def t1 (P : PySem.Params) : PySem.W.BT := (n (q0 P) (n (q1 P) (n (o19 P) (n (q7 P) (n o6 (l o25) .nil) (n (o14 P) (l o33) .nil)) (n o0 (n o10 (l o29) .nil) (l o18))) (n (q5 P) (n (q9 P) (n (o8 P) (l o27) .nil) (l o16)) (n o2 (n o12 (l o31) .nil) (l o23)))) (n (q2 P) (n (q4 P) (n (q8 P) (n o7 (l o26) .nil) (l o21)) (n o20 (n o11 (l (o30 P)) .nil) (l o22))) (n (q6 P) (n (q10 P) (n o9 (l o28) .nil) (l o17)) (n o3 (n o13 (l o32) .nil) (l (o24 P))))))
theorem pz1 : ∀ w : PySem.World, (fun os : PySem.OsState => PySem.W.Fast.tw10110043849684766642 PySem.W.Fast.tw14364793385576792824 PySem.Challenge.pw_farhail_k61_whole_hunts_and_shelters_pla w 11 (some (.ref 6)) 1 214 (PySem.W.SharedT.mk (t0 w.params) 28 (.mk [] [] [] 0 [] [] .false ⟨[]⟩ [] 0 .false .false .false 0 [2000,10,10] .false 0 .true [] [] 0 .false) (Array.mk ([] : List PySem.GenState)) (.mk 0 0 0 0) 207 os) (PySem.W.piecesOf sts1 env code (.mk 2 0 3 8) B)) = fun os => some (PySem.Flow.next, (PySem.W.SharedT.mk (t1 w.params) 40 (.mk [] [] [] 0 [] [] .false ⟨[]⟩ [] 0 .false .false .false 0 [2000,10,10] .false 0 .true [] [] 0 .false) (Array.mk ([] : List PySem.GenState)) (.mk 0 0 0 0) 223 os), code, (.mk 4 0 5 8)) := fun w => by kernel_rfl
theorem p1 (w : PySem.World) (os : PySem.OsState) : PySem.W.segRun PySem.treeTable PySem.Challenge.pw_farhail_k61_whole_hunts_and_shelters_pla w 11 (some (.ref 6)) 1 214 (PySem.W.SharedT.mk (t0 w.params) 28 (.mk [] [] [] 0 [] [] .false ⟨[]⟩ [] 0 .false .false .false 0 [2000,10,10] .false 0 .true [] [] 0 .false) (Array.mk ([] : List PySem.GenState)) (.mk 0 0 0 0) 207 os).abs (PySem.W.piecesOf sts1 env code (.mk 2 0 3 8) B) = some (PySem.Flow.next, (PySem.W.SharedT.mk (t1 w.params) 40 (.mk [] [] [] 0 [] [] .false ⟨[]⟩ [] 0 .false .false .false 0 [2000,10,10] .false 0 .true [] [] 0 .false) (Array.mk ([] : List PySem.GenState)) (.mk 0 0 0 0) 223 os).abs, code, (.mk 4 0 5 8)) := PySem.W.segRun_of (by rw [PySem.W.Fast.te10110043849684766642, PySem.W.Fast.te14364793385576792824]; exact congrFun (pz1 w) os)
noncomputable def sts2 : List PySem.Stmt := [(.ClassDef a4 [(.Name a1 (.mk 6 14 6 23))] [] [(.Pass (.mk 7 4 7 8))] [] [] (.mk .class [] .false .false []) none a4 [] (.mk 6 0 7 8))]
noncomputable def o34 (P : Params) : Obj := (ob (.type b3) (.dict ⟨[(en P a0 165 (.str a47 187)),(en P a48 166 .none),(en P a49 167 .none),(en P a50 168 (.builtin b4)),(en P a51 169 .none),(en P a52 170 (.ref 6)),(en P a53 171 (.ref 4)),(en P a54 173 (.str a45 172)),(en P a55 174 .none),(en P a1 206 (.ref 24)),(en P a3 222 (.ref 37)),(en P a4 238 (.ref 49))]⟩ 12))
noncomputable def o35 : Obj := (ob .none (.fields ⟨[(i 2),(i 0),(.ref 20),(i 4),(i 0),(.ref 33),(i 6),(i 0),(.ref 45)]⟩))
noncomputable def o36 : Obj := (.mk (.type b8) none (.cls (.mk a1 [(.type b5)] [(.ref 24),(.type b5),(.type b9),(.type b10),(.type b11)] 23 a1 .true [] [(.ref 37),(.ref 49)] .false none .false)) ⟨[(some (.ref 15)),none,(some (.str a1 189)),(some (.str a1 197)),(some (.builtin b12)),(some (.bool .true))]⟩)
noncomputable def o37 : Obj := (ob (.type b0) (.seq ⟨[(.ref 24)]⟩ 0))
noncomputable def o38 : Obj := (ob (.type b6) (.fields ⟨[(.builtin b7),(.type b8)]⟩))
noncomputable def o39 (P : Params) : Obj := (ob (.type b3) (.dict ⟨[(en P a56 230 (.str a47 187)),(en P a57 232 (.str a4 231)),(en P a58 234 (.int 6 233)),(en P a59 235 (.ref 47))]⟩ 4))
noncomputable def o40 : Obj := (ob (.type b0) (.seq ⟨[]⟩ 0))
noncomputable def o41 : Obj := (ob .none (.fields ⟨[]⟩))
noncomputable def o42 : Obj := (ob (.type b1) (.fields ⟨[(.str a4 225),(.str a4 226),(.str a45 227),(i 6),(i 0),(i 0),(i 0),(i 0),(.ref 43),(.bool .false),(i 181),(.ref 44),.none,.none,.none,.none,(i 228),(i 6),(.str a45 229)]⟩))
noncomputable def o43 : Obj := (.mk (.type b2) none .plain ⟨[(some (.ref 45)),(some (.ref 3)),(some (.ref 42)),none,(some (.str a47 187)),none,(some (.ref 0))]⟩)
noncomputable def o44 : Obj := (ob (.type b0) (.seq ⟨[]⟩ 0))
noncomputable def o45 (P : Params) : Obj := (ob (.type b3) (.dict ⟨[(en P a56 230 (.str a47 187)),(en P a58 234 (.int 6 233)),(en P a59 235 (.ref 47)),(en P a48 236 .none)]⟩ 2))
noncomputable def o46 : Obj := (.mk (.type b8) none (.cls (.mk a4 [(.ref 24)] [(.ref 49),(.ref 24),(.type b5),(.type b9),(.type b10),(.type b11)] 48 a4 .true [] [] .false none .false)) ⟨[(some (.ref 40)),none,(some (.str a4 223)),(some (.str a4 231)),(some (.builtin b12)),(some (.bool .true))]⟩)
noncomputable def o47 : Obj := (ob (.type b15) (.fields ⟨[(.ref 49),(.ref 49),(.ref 49)]⟩))
noncomputable def o48 : Obj := (ob (.type b6) (.fields ⟨[(.builtin b16),(.ref 49)]⟩))
noncomputable def t2 (P : PySem.Params) : PySem.W.BT := (n (q0 P) (n (q1 P) (n (o34 P) (n (q7 P) (n o6 (l o25) (l o44)) (n (o14 P) (l o33) .nil)) (n o0 (n o10 (l o29) (l o48)) (n o18 (l o40) .nil))) (n (q5 P) (n (q9 P) (n (o8 P) (l o27) (l o46)) (n o16 (l o38) .nil)) (n o2 (n o12 (l o31) .nil) (n o23 (l o42) .nil)))) (n (q2 P) (n (q4 P) (n (q8 P) (n o7 (l o26) (l (o45 P))) (n o36 (l o37) .nil)) (n o35 (n o11 (l (o30 P)) .nil) (n o22 (l o41) .nil))) (n (q6 P) (n (q10 P) (n o9 (l o28) (l o47)) (n o17 (l (o39 P)) .nil)) (n o3 (n o13 (l o32) .nil) (n (o24 P) (l o43) .nil)))))
theorem pz2 : ∀ w : PySem.World, (fun os : PySem.OsState => PySem.W.Fast.tw10110043849684766642 PySem.W.Fast.tw14364793385576792824 PySem.Challenge.pw_farhail_k61_whole_hunts_and_shelters_pla w 11 (some (.ref 6)) 1 214 (PySem.W.SharedT.mk (t1 w.params) 40 (.mk [] [] [] 0 [] [] .false ⟨[]⟩ [] 0 .false .false .false 0 [2000,10,10] .false 0 .true [] [] 0 .false) (Array.mk ([] : List PySem.GenState)) (.mk 0 0 0 0) 223 os) (PySem.W.piecesOf sts2 env code (.mk 4 0 5 8) B)) = fun os => some (PySem.Flow.next, (PySem.W.SharedT.mk (t2 w.params) 52 (.mk [] [] [] 0 [] [] .false ⟨[]⟩ [] 0 .false .false .false 0 [2000,10,10] .false 0 .true [] [] 0 .false) (Array.mk ([] : List PySem.GenState)) (.mk 0 0 0 0) 239 os), code, (.mk 6 0 7 8)) := fun w => by kernel_rfl
theorem p2 (w : PySem.World) (os : PySem.OsState) : PySem.W.segRun PySem.treeTable PySem.Challenge.pw_farhail_k61_whole_hunts_and_shelters_pla w 11 (some (.ref 6)) 1 214 (PySem.W.SharedT.mk (t1 w.params) 40 (.mk [] [] [] 0 [] [] .false ⟨[]⟩ [] 0 .false .false .false 0 [2000,10,10] .false 0 .true [] [] 0 .false) (Array.mk ([] : List PySem.GenState)) (.mk 0 0 0 0) 223 os).abs (PySem.W.piecesOf sts2 env code (.mk 4 0 5 8) B) = some (PySem.Flow.next, (PySem.W.SharedT.mk (t2 w.params) 52 (.mk [] [] [] 0 [] [] .false ⟨[]⟩ [] 0 .false .false .false 0 [2000,10,10] .false 0 .true [] [] 0 .false) (Array.mk ([] : List PySem.GenState)) (.mk 0 0 0 0) 239 os).abs, code, (.mk 6 0 7 8)) := PySem.W.segRun_of (by rw [PySem.W.Fast.te10110043849684766642, PySem.W.Fast.te14364793385576792824]; exact congrFun (pz2 w) os)
noncomputable def sts3 : List PySem.Stmt := [(.ClassDef a5 [(.Name a1 (.mk 8 14 8 23))] [] [(.Pass (.mk 9 4 9 8))] [] [] (.mk .class [] .false .false []) none a5 [] (.mk 8 0 9 8))]
noncomputable def o49 (P : Params) : Obj := (ob (.type b3) (.dict ⟨[(en P a0 165 (.str a47 187)),(en P a48 166 .none),(en P a49 167 .none),(en P a50 168 (.builtin b4)),(en P a51 169 .none),(en P a52 170 (.ref 6)),(en P a53 171 (.ref 4)),(en P a54 173 (.str a45 172)),(en P a55 174 .none),(en P a1 206 (.ref 24)),(en P a3 222 (.ref 37)),(en P a4 238 (.ref 49)),(en P a5 254 (.ref 61))]⟩ 13))
noncomputable def o50 : Obj := (ob .none (.fields ⟨[(i 2),(i 0),(.ref 20),(i 4),(i 0),(.ref 33),(i 6),(i 0),(.ref 45),(i 8),(i 0),(.ref 57)]⟩))
noncomputable def o51 : Obj := (.mk (.type b8) none (.cls (.mk a1 [(.type b5)] [(.ref 24),(.type b5),(.type b9),(.type b10),(.type b11)] 23 a1 .true [] [(.ref 37),(.ref 49),(.ref 61)] .false none .false)) ⟨[(some (.ref 15)),none,(some (.str a1 189)),(some (.str a1 197)),(some (.builtin b12)),(some (.bool .true))]⟩)
noncomputable def o52 : Obj := (ob (.type b0) (.seq ⟨[(.ref 24)]⟩ 0))
noncomputable def o53 : Obj := (ob (.type b6) (.fields ⟨[(.builtin b7),(.type b8)]⟩))
noncomputable def o54 (P : Params) : Obj := (ob (.type b3) (.dict ⟨[(en P a56 246 (.str a47 187)),(en P a57 248 (.str a5 247)),(en P a58 250 (.int 8 249)),(en P a59 251 (.ref 59))]⟩ 4))
noncomputable def o55 : Obj := (ob (.type b0) (.seq ⟨[]⟩ 0))
noncomputable def o56 : Obj := (ob .none (.fields ⟨[]⟩))
noncomputable def o57 : Obj := (ob (.type b1) (.fields ⟨[(.str a5 241),(.str a5 242),(.str a45 243),(i 8),(i 0),(i 0),(i 0),(i 0),(.ref 55),(.bool .false),(i 181),(.ref 56),.none,.none,.none,.none,(i 244),(i 8),(.str a45 245)]⟩))
noncomputable def o58 : Obj := (.mk (.type b2) none .plain ⟨[(some (.ref 57)),(some (.ref 3)),(some (.ref 54)),none,(some (.str a47 187)),none,(some (.ref 0))]⟩)
noncomputable def o59 : Obj := (ob (.type b0) (.seq ⟨[]⟩ 0))
noncomputable def o60 (P : Params) : Obj := (ob (.type b3) (.dict ⟨[(en P a56 246 (.str a47 187)),(en P a58 250 (.int 8 249)),(en P a59 251 (.ref 59)),(en P a48 252 .none)]⟩ 2))
noncomputable def o61 : Obj := (.mk (.type b8) none (.cls (.mk a5 [(.ref 24)] [(.ref 61),(.ref 24),(.type b5),(.type b9),(.type b10),(.type b11)] 60 a5 .true [] [] .false none .false)) ⟨[(some (.ref 52)),none,(some (.str a5 239)),(some (.str a5 247)),(some (.builtin b12)),(some (.bool .true))]⟩)
noncomputable def o62 : Obj := (ob (.type b15) (.fields ⟨[(.ref 61),(.ref 61),(.ref 61)]⟩))
noncomputable def o63 : Obj := (ob (.type b6) (.fields ⟨[(.builtin b16),(.ref 61)]⟩))
noncomputable def t3 (P : PySem.Params) : PySem.W.BT := (n (q0 P) (n (q1 P) (n (o49 P) (n (q7 P) (n o6 (n o25 (l o63) .nil) (l o44)) (n (o14 P) (l o33) (l o55))) (n o0 (n o10 (l o29) (l o48)) (n o18 (l o40) (l o59)))) (n (q5 P) (n (q9 P) (n (o8 P) (l o27) (l o46)) (n o16 (l o38) (l o57))) (n o2 (n o12 (l o31) (l o53)) (n o23 (l o42) (l o61))))) (n (q2 P) (n (q4 P) (n (q8 P) (n o7 (l o26) (l (o45 P))) (n o51 (l o37) (l o56))) (n o50 (n o11 (l (o30 P)) (l o52)) (n o22 (l o41) (l (o60 P))))) (n (q6 P) (n (q10 P) (n o9 (l o28) (l o47)) (n o17 (l (o39 P)) (l o58))) (n o3 (n o13 (l o32) (l (o54 P))) (n (o24 P) (l o43) (l o62))))))
theorem pz3 : ∀ w : PySem.World, (fun os : PySem.OsState => PySem.W.Fast.tw10110043849684766642 PySem.W.Fast.tw14364793385576792824 PySem.Challenge.pw_farhail_k61_whole_hunts_and_shelters_pla w 11 (some (.ref 6)) 1 214 (PySem.W.SharedT.mk (t2 w.params) 52 (.mk [] [] [] 0 [] [] .false ⟨[]⟩ [] 0 .false .false .false 0 [2000,10,10] .false 0 .true [] [] 0 .false) (Array.mk ([] : List PySem.GenState)) (.mk 0 0 0 0) 239 os) (PySem.W.piecesOf sts3 env code (.mk 6 0 7 8) B)) = fun os => some (PySem.Flow.next, (PySem.W.SharedT.mk (t3 w.params) 64 (.mk [] [] [] 0 [] [] .false ⟨[]⟩ [] 0 .false .false .false 0 [2000,10,10] .false 0 .true [] [] 0 .false) (Array.mk ([] : List PySem.GenState)) (.mk 0 0 0 0) 255 os), code, (.mk 8 0 9 8)) := fun w => by kernel_rfl
theorem p3 (w : PySem.World) (os : PySem.OsState) : PySem.W.segRun PySem.treeTable PySem.Challenge.pw_farhail_k61_whole_hunts_and_shelters_pla w 11 (some (.ref 6)) 1 214 (PySem.W.SharedT.mk (t2 w.params) 52 (.mk [] [] [] 0 [] [] .false ⟨[]⟩ [] 0 .false .false .false 0 [2000,10,10] .false 0 .true [] [] 0 .false) (Array.mk ([] : List PySem.GenState)) (.mk 0 0 0 0) 239 os).abs (PySem.W.piecesOf sts3 env code (.mk 6 0 7 8) B) = some (PySem.Flow.next, (PySem.W.SharedT.mk (t3 w.params) 64 (.mk [] [] [] 0 [] [] .false ⟨[]⟩ [] 0 .false .false .false 0 [2000,10,10] .false 0 .true [] [] 0 .false) (Array.mk ([] : List PySem.GenState)) (.mk 0 0 0 0) 255 os).abs, code, (.mk 8 0 9 8)) := PySem.W.segRun_of (by rw [PySem.W.Fast.te10110043849684766642, PySem.W.Fast.te14364793385576792824]; exact congrFun (pz3 w) os)
noncomputable def sts4 : List PySem.Stmt := [(.ClassDef a6 [(.Name a1 (.mk 10 14 10 23))] [] [(.Pass (.mk 11 4 11 8))] [] [] (.mk .class [] .false .false []) none a6 [] (.mk 10 0 11 8))]
noncomputable def o64 (P : Params) : Obj := (ob (.type b3) (.dict ⟨[(en P a0 165 (.str a47 187)),(en P a48 166 .none),(en P a49 167 .none),(en P a50 168 (.builtin b4)),(en P a51 169 .none),(en P a52 170 (.ref 6)),(en P a53 171 (.ref 4)),(en P a54 173 (.str a45 172)),(en P a55 174 .none),(en P a1 206 (.ref 24)),(en P a3 222 (.ref 37)),(en P a4 238 (.ref 49)),(en P a5 254 (.ref 61)),(en P a6 270 (.ref 73))]⟩ 14))
noncomputable def o65 : Obj := (ob .none (.fields ⟨[(i 2),(i 0),(.ref 20),(i 4),(i 0),(.ref 33),(i 6),(i 0),(.ref 45),(i 8),(i 0),(.ref 57),(i 10),(i 0),(.ref 69)]⟩))
noncomputable def o66 : Obj := (.mk (.type b8) none (.cls (.mk a1 [(.type b5)] [(.ref 24),(.type b5),(.type b9),(.type b10),(.type b11)] 23 a1 .true [] [(.ref 37),(.ref 49),(.ref 61),(.ref 73)] .false none .false)) ⟨[(some (.ref 15)),none,(some (.str a1 189)),(some (.str a1 197)),(some (.builtin b12)),(some (.bool .true))]⟩)
noncomputable def o67 : Obj := (ob (.type b0) (.seq ⟨[(.ref 24)]⟩ 0))
noncomputable def o68 : Obj := (ob (.type b6) (.fields ⟨[(.builtin b7),(.type b8)]⟩))
noncomputable def o69 (P : Params) : Obj := (ob (.type b3) (.dict ⟨[(en P a56 262 (.str a47 187)),(en P a57 264 (.str a6 263)),(en P a58 266 (.int 10 265)),(en P a59 267 (.ref 71))]⟩ 4))
noncomputable def o70 : Obj := (ob (.type b0) (.seq ⟨[]⟩ 0))
noncomputable def o71 : Obj := (ob .none (.fields ⟨[]⟩))
noncomputable def o72 : Obj := (ob (.type b1) (.fields ⟨[(.str a6 257),(.str a6 258),(.str a45 259),(i 10),(i 0),(i 0),(i 0),(i 0),(.ref 67),(.bool .false),(i 181),(.ref 68),.none,.none,.none,.none,(i 260),(i 10),(.str a45 261)]⟩))
noncomputable def o73 : Obj := (.mk (.type b2) none .plain ⟨[(some (.ref 69)),(some (.ref 3)),(some (.ref 66)),none,(some (.str a47 187)),none,(some (.ref 0))]⟩)
noncomputable def o74 : Obj := (ob (.type b0) (.seq ⟨[]⟩ 0))
noncomputable def o75 (P : Params) : Obj := (ob (.type b3) (.dict ⟨[(en P a56 262 (.str a47 187)),(en P a58 266 (.int 10 265)),(en P a59 267 (.ref 71)),(en P a48 268 .none)]⟩ 2))
noncomputable def o76 : Obj := (.mk (.type b8) none (.cls (.mk a6 [(.ref 24)] [(.ref 73),(.ref 24),(.type b5),(.type b9),(.type b10),(.type b11)] 72 a6 .true [] [] .false none .false)) ⟨[(some (.ref 64)),none,(some (.str a6 255)),(some (.str a6 263)),(some (.builtin b12)),(some (.bool .true))]⟩)
noncomputable def o77 : Obj := (ob (.type b15) (.fields ⟨[(.ref 73),(.ref 73),(.ref 73)]⟩))
noncomputable def o78 : Obj := (ob (.type b6) (.fields ⟨[(.builtin b16),(.ref 73)]⟩))
noncomputable def t4 (P : PySem.Params) : PySem.W.BT := (n (q0 P) (n (q1 P) (n (o64 P) (n (q7 P) (n o6 (n o25 (l o63) .nil) (l o44)) (n (o14 P) (n o33 (l o74) .nil) (l o55))) (n o0 (n o10 (n o29 (l o70) .nil) (l o48)) (n o18 (n o40 (l o78) .nil) (l o59)))) (n (q5 P) (n (q9 P) (n (o8 P) (n o27 (l o68) .nil) (l o46)) (n o16 (n o38 (l o76) .nil) (l o57))) (n o2 (n o12 (n o31 (l o72) .nil) (l o53)) (n o23 (l o42) (l o61))))) (n (q2 P) (n (q4 P) (n (q8 P) (n o7 (n o26 (l o67) .nil) (l (o45 P))) (n o66 (n o37 (l (o75 P)) .nil) (l o56))) (n o65 (n o11 (n (o30 P) (l o71) .nil) (l o52)) (n o22 (l o41) (l (o60 P))))) (n (q6 P) (n (q10 P) (n o9 (n o28 (l (o69 P)) .nil) (l o47)) (n o17 (n (o39 P) (l o77) .nil) (l o58))) (n o3 (n o13 (n o32 (l o73) .nil) (l (o54 P))) (n (o24 P) (l o43) (l o62))))))
theorem pz4 : ∀ w : PySem.World, (fun os : PySem.OsState => PySem.W.Fast.tw10110043849684766642 PySem.W.Fast.tw14364793385576792824 PySem.Challenge.pw_farhail_k61_whole_hunts_and_shelters_pla w 11 (some (.ref 6)) 1 214 (PySem.W.SharedT.mk (t3 w.params) 64 (.mk [] [] [] 0 [] [] .false ⟨[]⟩ [] 0 .false .false .false 0 [2000,10,10] .false 0 .true [] [] 0 .false) (Array.mk ([] : List PySem.GenState)) (.mk 0 0 0 0) 255 os) (PySem.W.piecesOf sts4 env code (.mk 8 0 9 8) B)) = fun os => some (PySem.Flow.next, (PySem.W.SharedT.mk (t4 w.params) 76 (.mk [] [] [] 0 [] [] .false ⟨[]⟩ [] 0 .false .false .false 0 [2000,10,10] .false 0 .true [] [] 0 .false) (Array.mk ([] : List PySem.GenState)) (.mk 0 0 0 0) 271 os), code, (.mk 10 0 11 8)) := fun w => by kernel_rfl
theorem p4 (w : PySem.World) (os : PySem.OsState) : PySem.W.segRun PySem.treeTable PySem.Challenge.pw_farhail_k61_whole_hunts_and_shelters_pla w 11 (some (.ref 6)) 1 214 (PySem.W.SharedT.mk (t3 w.params) 64 (.mk [] [] [] 0 [] [] .false ⟨[]⟩ [] 0 .false .false .false 0 [2000,10,10] .false 0 .true [] [] 0 .false) (Array.mk ([] : List PySem.GenState)) (.mk 0 0 0 0) 255 os).abs (PySem.W.piecesOf sts4 env code (.mk 8 0 9 8) B) = some (PySem.Flow.next, (PySem.W.SharedT.mk (t4 w.params) 76 (.mk [] [] [] 0 [] [] .false ⟨[]⟩ [] 0 .false .false .false 0 [2000,10,10] .false 0 .true [] [] 0 .false) (Array.mk ([] : List PySem.GenState)) (.mk 0 0 0 0) 271 os).abs, code, (.mk 10 0 11 8)) := PySem.W.segRun_of (by rw [PySem.W.Fast.te10110043849684766642, PySem.W.Fast.te14364793385576792824]; exact congrFun (pz4 w) os)
noncomputable def sts5 : List PySem.Stmt := [(.ClassDef a7 [(.Name a1 (.mk 12 14 12 23))] [] [(.Pass (.mk 13 4 13 8))] [] [] (.mk .class [] .false .false []) none a7 [] (.mk 12 0 13 8))]
noncomputable def o79 (P : Params) : Obj := (ob (.type b3) (.dict ⟨[(en P a0 165 (.str a47 187)),(en P a48 166 .none),(en P a49 167 .none),(en P a50 168 (.builtin b4)),(en P a51 169 .none),(en P a52 170 (.ref 6)),(en P a53 171 (.ref 4)),(en P a54 173 (.str a45 172)),(en P a55 174 .none),(en P a1 206 (.ref 24)),(en P a3 222 (.ref 37)),(en P a4 238 (.ref 49)),(en P a5 254 (.ref 61)),(en P a6 270 (.ref 73)),(en P a7 286 (.ref 85))]⟩ 15))
noncomputable def o80 : Obj := (ob .none (.fields ⟨[(i 2),(i 0),(.ref 20),(i 4),(i 0),(.ref 33),(i 6),(i 0),(.ref 45),(i 8),(i 0),(.ref 57),(i 10),(i 0),(.ref 69),(i 12),(i 0),(.ref 81)]⟩))
noncomputable def o81 : Obj := (.mk (.type b8) none (.cls (.mk a1 [(.type b5)] [(.ref 24),(.type b5),(.type b9),(.type b10),(.type b11)] 23 a1 .true [] [(.ref 37),(.ref 49),(.ref 61),(.ref 73),(.ref 85)] .false none .false)) ⟨[(some (.ref 15)),none,(some (.str a1 189)),(some (.str a1 197)),(some (.builtin b12)),(some (.bool .true))]⟩)
noncomputable def o82 : Obj := (ob (.type b0) (.seq ⟨[(.ref 24)]⟩ 0))
noncomputable def o83 : Obj := (ob (.type b6) (.fields ⟨[(.builtin b7),(.type b8)]⟩))
noncomputable def o84 (P : Params) : Obj := (ob (.type b3) (.dict ⟨[(en P a56 278 (.str a47 187)),(en P a57 280 (.str a7 279)),(en P a58 282 (.int 12 281)),(en P a59 283 (.ref 83))]⟩ 4))
noncomputable def o85 : Obj := (ob (.type b0) (.seq ⟨[]⟩ 0))
noncomputable def o86 : Obj := (ob .none (.fields ⟨[]⟩))
noncomputable def o87 : Obj := (ob (.type b1) (.fields ⟨[(.str a7 273),(.str a7 274),(.str a45 275),(i 12),(i 0),(i 0),(i 0),(i 0),(.ref 79),(.bool .false),(i 181),(.ref 80),.none,.none,.none,.none,(i 276),(i 12),(.str a45 277)]⟩))
noncomputable def o88 : Obj := (.mk (.type b2) none .plain ⟨[(some (.ref 81)),(some (.ref 3)),(some (.ref 78)),none,(some (.str a47 187)),none,(some (.ref 0))]⟩)
noncomputable def o89 : Obj := (ob (.type b0) (.seq ⟨[]⟩ 0))
noncomputable def o90 (P : Params) : Obj := (ob (.type b3) (.dict ⟨[(en P a56 278 (.str a47 187)),(en P a58 282 (.int 12 281)),(en P a59 283 (.ref 83)),(en P a48 284 .none)]⟩ 2))
noncomputable def o91 : Obj := (.mk (.type b8) none (.cls (.mk a7 [(.ref 24)] [(.ref 85),(.ref 24),(.type b5),(.type b9),(.type b10),(.type b11)] 84 a7 .true [] [] .false none .false)) ⟨[(some (.ref 76)),none,(some (.str a7 271)),(some (.str a7 279)),(some (.builtin b12)),(some (.bool .true))]⟩)
noncomputable def o92 : Obj := (ob (.type b15) (.fields ⟨[(.ref 85),(.ref 85),(.ref 85)]⟩))
noncomputable def o93 : Obj := (ob (.type b6) (.fields ⟨[(.builtin b16),(.ref 85)]⟩))
noncomputable def t5 (P : PySem.Params) : PySem.W.BT := (n (q0 P) (n (q1 P) (n (o79 P) (n (q7 P) (n o6 (n o25 (l o63) .nil) (n o44 (l o85) .nil)) (n (o14 P) (n o33 (l o74) .nil) (n o55 (l o93) .nil))) (n o0 (n o10 (n o29 (l o70) .nil) (n o48 (l o89) .nil)) (n o18 (n o40 (l o78) .nil) (l o59)))) (n (q5 P) (n (q9 P) (n (o8 P) (n o27 (l o68) .nil) (n o46 (l o87) .nil)) (n o16 (n o38 (l o76) .nil) (l o57))) (n o2 (n o12 (n o31 (l o72) .nil) (n o53 (l o91) .nil)) (n o23 (n o42 (l o83) .nil) (l o61))))) (n (q2 P) (n (q4 P) (n (q8 P) (n o7 (n o26 (l o67) .nil) (n (o45 P) (l o86) .nil)) (n o81 (n o37 (l (o75 P)) .nil) (l o56))) (n o80 (n o11 (n (o30 P) (l o71) .nil) (n o52 (l (o90 P)) .nil)) (n o22 (n o41 (l o82) .nil) (l (o60 P))))) (n (q6 P) (n (q10 P) (n o9 (n o28 (l (o69 P)) .nil) (n o47 (l o88) .nil)) (n o17 (n (o39 P) (l o77) .nil) (l o58))) (n o3 (n o13 (n o32 (l o73) .nil) (n (o54 P) (l o92) .nil)) (n (o24 P) (n o43 (l (o84 P)) .nil) (l o62))))))
theorem pz5 : ∀ w : PySem.World, (fun os : PySem.OsState => PySem.W.Fast.tw10110043849684766642 PySem.W.Fast.tw14364793385576792824 PySem.Challenge.pw_farhail_k61_whole_hunts_and_shelters_pla w 11 (some (.ref 6)) 1 214 (PySem.W.SharedT.mk (t4 w.params) 76 (.mk [] [] [] 0 [] [] .false ⟨[]⟩ [] 0 .false .false .false 0 [2000,10,10] .false 0 .true [] [] 0 .false) (Array.mk ([] : List PySem.GenState)) (.mk 0 0 0 0) 271 os) (PySem.W.piecesOf sts5 env code (.mk 10 0 11 8) B)) = fun os => some (PySem.Flow.next, (PySem.W.SharedT.mk (t5 w.params) 88 (.mk [] [] [] 0 [] [] .false ⟨[]⟩ [] 0 .false .false .false 0 [2000,10,10] .false 0 .true [] [] 0 .false) (Array.mk ([] : List PySem.GenState)) (.mk 0 0 0 0) 287 os), code, (.mk 12 0 13 8)) := fun w => by kernel_rfl
theorem p5 (w : PySem.World) (os : PySem.OsState) : PySem.W.segRun PySem.treeTable PySem.Challenge.pw_farhail_k61_whole_hunts_and_shelters_pla w 11 (some (.ref 6)) 1 214 (PySem.W.SharedT.mk (t4 w.params) 76 (.mk [] [] [] 0 [] [] .false ⟨[]⟩ [] 0 .false .false .false 0 [2000,10,10] .false 0 .true [] [] 0 .false) (Array.mk ([] : List PySem.GenState)) (.mk 0 0 0 0) 271 os).abs (PySem.W.piecesOf sts5 env code (.mk 10 0 11 8) B) = some (PySem.Flow.next, (PySem.W.SharedT.mk (t5 w.params) 88 (.mk [] [] [] 0 [] [] .false ⟨[]⟩ [] 0 .false .false .false 0 [2000,10,10] .false 0 .true [] [] 0 .false) (Array.mk ([] : List PySem.GenState)) (.mk 0 0 0 0) 287 os).abs, code, (.mk 12 0 13 8)) := PySem.W.segRun_of (by rw [PySem.W.Fast.te10110043849684766642, PySem.W.Fast.te14364793385576792824]; exact congrFun (pz5 w) os)
noncomputable def a61 : Str := ⟨⟨[95,95,105,110,105,116,95,95]⟩⟩
noncomputable def a62 : Str := ⟨⟨[112,108,97,99,101]⟩⟩
noncomputable def a63 : Str := ⟨⟨[102,97,114,104,97,105,108,46,119,101,98,115]⟩⟩
noncomputable def sts6 : List PySem.Stmt := [(.ClassDef a8 [(.Name a1 (.mk 14 12 14 21))] [] [(.FunctionDef a61 (L2.defArgs (L2.inClass (G.top 7) 0)) (L2.defBody (L2.inClass (G.top 7) 0)) [] none [] (L2.defScope (L2.inClass (G.top 7) 0)) none a61 (.mk 16 4 18 26))] [] [] (.mk .class [(a61, .local)] .false .false []) none a8 [a62] (.mk 14 0 18 26)), (.Assign [(.Name a0 (.mk 19 0 19 8))] (.Constant (.str a63) 0 (.mk 19 11 19 25)) (.mk 19 0 19 25)), (.Assign [(.Name a9 (.mk 20 0 20 16))] (.Constant (.int 60) 0 (.mk 20 19 20 21)) (.mk 20 0 20 21)), (.FunctionDef a10 (L2.defArgs (G.top 10)) (L2.defBody (G.top 10)) [] none [] (L2.defScope (G.top 10)) none a10 (.mk 21 0 26 41)), (.FunctionDef a11 (L2.defArgs (G.top 11)) (L2.defBody (G.top 11)) [] none [] (L2.defScope (G.top 11)) none a11 (.mk 27 0 38 16)), (.FunctionDef a12 (L2.defArgs (G.top 12)) (L2.defBody (G.top 12)) [] none [] (L2.defScope (G.top 12)) none a12 (.mk 39 0 46 31)), (.FunctionDef a13 (L2.defArgs (G.top 13)) (L2.defBody (G.top 13)) [] none [] (L2.defScope (G.top 13)) none a13 (.mk 47 0 55 14))]
noncomputable def c0 (P : PySem.Params) (t : List PySem.DictEntry) : List PySem.DictEntry := (en P a9 315 (.int 60 314))::(en P a10 321 (.ref 111))::(en P a11 333 (.ref 118))::(en P a12 345 (.ref 125))::(en P a13 356 (.ref 132))::t
noncomputable def c1 (P : PySem.Params) (t : List PySem.DictEntry) : List PySem.DictEntry := (en P a55 174 .none)::(en P a1 206 (.ref 24))::(en P a3 222 (.ref 37))::(en P a4 238 (.ref 49))::(en P a5 254 (.ref 61))::(en P a6 270 (.ref 73))::(en P a7 286 (.ref 85))::(en P a8 311 (.ref 104))::t
noncomputable def c2 (P : PySem.Params) (t : List PySem.DictEntry) : List PySem.DictEntry := (en P a0 165 (.str a63 312))::(en P a48 166 .none)::(en P a49 167 .none)::(en P a50 168 (.builtin b4))::(en P a51 169 .none)::(en P a52 170 (.ref 6))::(en P a53 171 (.ref 4))::(en P a54 173 (.str a45 172))::t
noncomputable def o94 (P : Params) : Obj := (ob (.type b3) (.dict ⟨(c2 P (c1 P (c0 P [])))⟩ 21))
noncomputable def c3 (t : List PySem.Value) : List PySem.Value := (.ref 131)::t
noncomputable def c4 (t : List PySem.Value) : List PySem.Value := (i 27)::(i 0)::(.ref 117)::(i 39)::(i 0)::(.ref 124)::(i 47)::(i 0)::t
noncomputable def c5 (t : List PySem.Value) : List PySem.Value := (i 0)::(.ref 81)::(i 14)::(i 0)::(.ref 93)::(i 21)::(i 0)::(.ref 110)::t
noncomputable def c6 (t : List PySem.Value) : List PySem.Value := (.ref 45)::(i 8)::(i 0)::(.ref 57)::(i 10)::(i 0)::(.ref 69)::(i 12)::t
noncomputable def c7 (t : List PySem.Value) : List PySem.Value := (i 2)::(i 0)::(.ref 20)::(i 4)::(i 0)::(.ref 33)::(i 6)::(i 0)::t
noncomputable def o95 : Obj := (ob .none (.fields ⟨(c7 (c6 (c5 (c4 (c3 [])))))⟩))
noncomputable def o96 : Obj := (.mk (.type b8) none (.cls (.mk a1 [(.type b5)] [(.ref 24),(.type b5),(.type b9),(.type b10),(.type b11)] 23 a1 .true [] [(.ref 37),(.ref 49),(.ref 61),(.ref 73),(.ref 85),(.ref 104)] .false none .false)) ⟨[(some (.ref 15)),none,(some (.str a1 189)),(some (.str a1 197)),(some (.builtin b12)),(some (.bool .true))]⟩)
noncomputable def o97 : Obj := (ob (.type b0) (.seq ⟨[(.ref 24)]⟩ 0))
noncomputable def o98 : Obj := (ob (.type b6) (.fields ⟨[(.builtin b7),(.type b8)]⟩))
noncomputable def o99 (P : Params) : Obj := (ob (.type b3) (.dict ⟨[(en P a56 294 (.str a47 187)),(en P a57 296 (.str a8 295)),(en P a58 298 (.int 14 297)),(en P a61 306 (.ref 101)),(en P a59 308 (.ref 102))]⟩ 5))
noncomputable def o100 : Obj := (ob (.type b0) (.seq ⟨[]⟩ 0))
noncomputable def o101 : Obj := (ob .none (.fields ⟨[(i 16),(i 4),(.ref 100)]⟩))
noncomputable def o102 : Obj := (ob (.type b1) (.fields ⟨[(.str a8 289),(.str a8 290),(.str a45 291),(i 14),(i 0),(i 0),(i 0),(i 0),(.ref 91),(.bool .false),(i 181),(.ref 92),.none,.none,.none,.none,(i 292),(i 14),(.str a45 293)]⟩))
noncomputable def o103 : Obj := (.mk (.type b2) none .plain ⟨[(some (.ref 93)),(some (.ref 3)),(some (.ref 90)),none,(some (.str a47 187)),none,(some (.ref 0))]⟩)
noncomputable def o104 : Obj := (ob (.type b0) (.seq ⟨[]⟩ 0))
noncomputable def o105 : Obj := (ob .none (.fields ⟨[]⟩))
noncomputable def a64 : Str := ⟨⟨[115,101,108,102]⟩⟩
noncomputable def o106 : Obj := (ob (.type b0) (.seq ⟨[(.str a64 302),(.str a62 303)]⟩ 0))
noncomputable def o107 : Obj := (ob (.type b0) (.seq ⟨[]⟩ 0))
noncomputable def a65 : Str := ⟨⟨[65,112,97,114,116,46,95,95,105,110,105,116,95,95]⟩⟩
noncomputable def o108 : Obj := (.mk .none none (.func (.mk a61 a65 (L2.defArgs (L2.inClass (G.top 7) 0)) (.stmts (L2.defBody (L2.inClass (G.top 7) 0))) (L2.defScope (L2.inClass (G.top 7) 0)) 0 [] .none .none .none .none none .none .none 0)) ⟨[]⟩)
noncomputable def o109 : Obj := (ob (.type b1) (.fields ⟨[(.str a61 299),(.str a65 300),(.str a45 301),(i 16),(i 2),(i 0),(i 0),(i 3),(.ref 95),(.bool .true),(i 181),(.ref 96),.none,(.ref 97),(.ref 98),(.ref 99),(i 304),(i 16),(.str a45 305)]⟩))
noncomputable abbrev b17 : String := PySem.W.SL.s7174869446012820540x8
noncomputable def o110 : Obj := (.mk (.type b17) none (.func (PySem.W.fnOf a61 a65 (L2.defArgs (L2.inClass (G.top 7) 0)) (L2.defBody (L2.inClass (G.top 7) 0)) (L2.defScope (L2.inClass (G.top 7) 0)) .none .none .none (.str a47 187) none (.ref 100) .none)) ⟨[]⟩)
noncomputable def o111 : Obj := (ob (.type b0) (.seq ⟨[(.str a62 307)]⟩ 0))
noncomputable def o112 (P : Params) : Obj := (ob (.type b3) (.dict ⟨[(en P a56 294 (.str a47 187)),(en P a58 298 (.int 14 297)),(en P a61 306 (.ref 101)),(en P a59 308 (.ref 102)),(en P a48 309 .none)]⟩ 2))
noncomputable def o113 : Obj := (.mk (.type b8) none (.cls (.mk a8 [(.ref 24)] [(.ref 104),(.ref 24),(.type b5),(.type b9),(.type b10),(.type b11)] 103 a8 .true [] [] .false none .false)) ⟨[(some (.ref 88)),none,(some (.str a8 287)),(some (.str a8 295)),(some (.builtin b12)),(some (.bool .true))]⟩)
noncomputable def o114 : Obj := (ob (.type b15) (.fields ⟨[(.ref 104),(.ref 104),(.ref 104)]⟩))
noncomputable def o115 : Obj := (ob (.type b6) (.fields ⟨[(.builtin b16),(.ref 104)]⟩))
noncomputable def o116 : Obj := (ob (.type b0) (.seq ⟨[]⟩ 0))
noncomputable def o117 : Obj := (ob .none (.fields ⟨[]⟩))
noncomputable def o118 : Obj := (cO a10 (G.top 10))
noncomputable def o119 : Obj := (ob (.type b1) (.fields ⟨[(.str a10 316),(.str a10 317),(.str a45 318),(i 21),(i 1),(i 0),(i 0),(i 3),(.ref 107),(.bool .true),(i 181),(.ref 108),.none,.none,.none,(.ref 109),(i 319),(i 21),(.str a45 320)]⟩))
noncomputable def o120 : Obj := (fO (.type b17) a10 (G.top 10) (.str a63 312) (.ref 110))
noncomputable def o121 : Obj := (ob (.type b0) (.seq ⟨[]⟩ 0))
noncomputable def o122 : Obj := (ob .none (.fields ⟨[]⟩))
noncomputable def a66 : Str := ⟨⟨[110,101,97,114]⟩⟩
noncomputable def a67 : Str := ⟨⟨[102,111,117,110,100]⟩⟩
noncomputable def a68 : Str := ⟨⟨[108,105,110,101]⟩⟩
noncomputable def a69 : Str := ⟨⟨[97,116]⟩⟩
noncomputable def a70 : Str := ⟨⟨[111,116,104,101,114]⟩⟩
noncomputable def o123 : Obj := (ob (.type b0) (.seq ⟨[(.str a66 325),(.str a62 326),(.str a67 327),(.str a68 328),(.str a69 329),(.str a70 330)]⟩ 0))
noncomputable def o124 : Obj := (ob (.type b0) (.seq ⟨[]⟩ 0))
noncomputable def o125 : Obj := (cO a11 (G.top 11))
noncomputable def o126 : Obj := (ob (.type b1) (.fields ⟨[(.str a11 322),(.str a11 323),(.str a45 324),(i 27),(i 2),(i 0),(i 0),(i 3),(.ref 112),(.bool .true),(i 181),(.ref 113),.none,(.ref 114),(.ref 115),(.ref 116),(i 331),(i 27),(.str a45 332)]⟩))
noncomputable def o127 : Obj := (fO (.type b17) a11 (G.top 11) (.str a63 312) (.ref 117))
noncomputable def o128 : Obj := (ob (.type b0) (.seq ⟨[]⟩ 0))
noncomputable def o129 : Obj := (ob .none (.fields ⟨[]⟩))
noncomputable def a71 : Str := ⟨⟨[109,97,110,121]⟩⟩
noncomputable def a72 : Str := ⟨⟨[116,105,101,115]⟩⟩
noncomputable def a73 : Str := ⟨⟨[111,110,101]⟩⟩
noncomputable def a74 : Str := ⟨⟨[116,105,101]⟩⟩
noncomputable def o130 : Obj := (ob (.type b0) (.seq ⟨[(.str a71 337),(.str a72 338),(.str a67 339),(.str a73 340),(.str a70 341),(.str a74 342)]⟩ 0))
noncomputable def o131 : Obj := (ob (.type b0) (.seq ⟨[]⟩ 0))
noncomputable def o132 : Obj := (cO a12 (G.top 12))
noncomputable def o133 : Obj := (ob (.type b1) (.fields ⟨[(.str a12 334),(.str a12 335),(.str a45 336),(i 39),(i 2),(i 0),(i 0),(i 3),(.ref 119),(.bool .true),(i 181),(.ref 120),.none,(.ref 121),(.ref 122),(.ref 123),(i 343),(i 39),(.str a45 344)]⟩))
noncomputable def o134 : Obj := (fO (.type b17) a12 (G.top 12) (.str a63 312) (.ref 124))
noncomputable def o135 : Obj := (ob (.type b0) (.seq ⟨[]⟩ 0))
noncomputable def o136 : Obj := (ob .none (.fields ⟨[]⟩))
noncomputable def a75 : Str := ⟨⟨[119,101,98]⟩⟩
noncomputable def a76 : Str := ⟨⟨[102,97,114,115]⟩⟩
noncomputable def o137 : Obj := (ob (.type b0) (.seq ⟨[(.str a71 349),(.str a72 350),(.str a75 351),(.str a76 352),(.str a62 353)]⟩ 0))
noncomputable def o138 : Obj := (ob (.type b0) (.seq ⟨[]⟩ 0))
noncomputable def o139 : Obj := (cO a13 (G.top 13))
noncomputable def o140 : Obj := (ob (.type b1) (.fields ⟨[(.str a13 346),(.str a13 347),(.str a45 348),(i 47),(i 2),(i 0),(i 0),(i 3),(.ref 126),(.bool .true),(i 181),(.ref 127),.none,(.ref 128),(.ref 129),(.ref 130),(i 354),(i 47),(.str a45 355)]⟩))
noncomputable def o141 : Obj := (fO (.type b17) a13 (G.top 13) (.str a63 312) (.ref 131))
noncomputable def t6 (P : PySem.Params) : PySem.W.BT := (n (q0 P) (n (q1 P) (n (o94 P) (n (q7 P) (n o6 (n o25 (n o63 (l o136) .nil) (l o104)) (n o44 (l o85) (l o120))) (n (o14 P) (n o33 (l o74) (l (o112 P))) (n o55 (l o93) (l o128)))) (n o0 (n o10 (n o29 (n o70 (l o140) .nil) (l o108)) (n o48 (l o89) (l o124))) (n o18 (n o40 (l o78) (l o116)) (n o59 (l o100) (l o132))))) (n (q5 P) (n (q9 P) (n (o8 P) (n o27 (n o68 (l o138) .nil) (l o106)) (n o46 (l o87) (l o122))) (n o16 (n o38 (l o76) (l o114)) (n o57 (l o98) (l o130)))) (n o2 (n o12 (n o31 (l o72) (l o110)) (n o53 (l o91) (l o126))) (n o23 (n o42 (l o83) (l o118)) (n o61 (l o102) (l o134)))))) (n (q2 P) (n (q4 P) (n (q8 P) (n o7 (n o26 (n o67 (l o137) .nil) (l o105)) (n (o45 P) (l o86) (l o121))) (n o96 (n o37 (l (o75 P)) (l o113)) (n o56 (l o97) (l o129)))) (n o95 (n o11 (n (o30 P) (n o71 (l o141) .nil) (l o109)) (n o52 (l (o90 P)) (l o125))) (n o22 (n o41 (l o82) (l o117)) (n (o60 P) (l o101) (l o133))))) (n (q6 P) (n (q10 P) (n o9 (n o28 (n (o69 P) (l o139) .nil) (l o107)) (n o47 (l o88) (l o123))) (n o17 (n (o39 P) (l o77) (l o115)) (n o58 (l (o99 P)) (l o131)))) (n o3 (n o13 (n o32 (l o73) (l o111)) (n (o54 P) (l o92) (l o127))) (n (o24 P) (n o43 (l (o84 P)) (l o119)) (n o62 (l o103) (l o135)))))))
theorem pz6 : ∀ w : PySem.World, (fun os : PySem.OsState => PySem.W.Fast.tw10110043849684766642 PySem.W.Fast.tw14364793385576792824 PySem.Challenge.pw_farhail_k61_whole_hunts_and_shelters_pla w 11 (some (.ref 6)) 1 391 (PySem.W.SharedT.mk (t5 w.params) 88 (.mk [] [] [] 0 [] [] .false ⟨[]⟩ [] 0 .false .false .false 0 [2000,10,10] .false 0 .true [] [] 0 .false) (Array.mk ([] : List PySem.GenState)) (.mk 0 0 0 0) 287 os) (PySem.W.piecesOf sts6 env code (.mk 12 0 13 8) B)) = fun os => some (PySem.Flow.next, (PySem.W.SharedT.mk (t6 w.params) 133 (.mk [] [] [] 0 [] [] .false ⟨[]⟩ [] 0 .false .false .false 0 [2000,10,10] .false 0 .true [] [] 0 .false) (Array.mk ([] : List PySem.GenState)) (.mk 0 0 0 0) 357 os), code, (.mk 47 0 55 14)) := fun w => by kernel_rfl
theorem p6 (w : PySem.World) (os : PySem.OsState) : PySem.W.segRun PySem.treeTable PySem.Challenge.pw_farhail_k61_whole_hunts_and_shelters_pla w 11 (some (.ref 6)) 1 391 (PySem.W.SharedT.mk (t5 w.params) 88 (.mk [] [] [] 0 [] [] .false ⟨[]⟩ [] 0 .false .false .false 0 [2000,10,10] .false 0 .true [] [] 0 .false) (Array.mk ([] : List PySem.GenState)) (.mk 0 0 0 0) 287 os).abs (PySem.W.piecesOf sts6 env code (.mk 12 0 13 8) B) = some (PySem.Flow.next, (PySem.W.SharedT.mk (t6 w.params) 133 (.mk [] [] [] 0 [] [] .false ⟨[]⟩ [] 0 .false .false .false 0 [2000,10,10] .false 0 .true [] [] 0 .false) (Array.mk ([] : List PySem.GenState)) (.mk 0 0 0 0) 357 os).abs, code, (.mk 47 0 55 14)) := PySem.W.segRun_of (by rw [PySem.W.Fast.te10110043849684766642, PySem.W.Fast.te14364793385576792824]; exact congrFun (pz6 w) os)
noncomputable def a77 : Str := ⟨⟨[102,97,114,104,97,105,108,46,104,117,110,116,115]⟩⟩
noncomputable def sts7 : List PySem.Stmt := [(.FunctionDef a14 (L2.defArgs (G.top 14)) (L2.defBody (G.top 14)) [] none [] (L2.defScope (G.top 14)) none a14 (.mk 56 0 58 33)), (.FunctionDef a15 (L2.defArgs (G.top 15)) (L2.defBody (G.top 15)) [] none [] (L2.defScope (G.top 15)) none a15 (.mk 59 0 61 33)), (.FunctionDef a16 (L2.defArgs (G.top 16)) (L2.defBody (G.top 16)) [] none [] (L2.defScope (G.top 16)) none a16 (.mk 62 0 64 42)), (.Assign [(.Name a0 (.mk 65 0 65 8))] (.Constant (.str a77) 0 (.mk 65 11 65 26)) (.mk 65 0 65 26)), (.Assign [(.Name a17 (.mk 66 0 66 12))] (.Constant (.int 2) 0 (.mk 66 15 66 16)) (.mk 66 0 66 16)), (.Assign [(.Name a18 (.mk 67 0 67 17))] (.Constant (.int 7) 0 (.mk 67 20 67 21)) (.mk 67 0 67 21)), (.FunctionDef a19 (L2.defArgs (G.top 20)) (L2.defBody (G.top 20)) [] none [] (L2.defScope (G.top 20)) none a19 (.mk 68 0 70 48)), (.FunctionDef a20 (L2.defArgs (G.top 21)) (L2.defBody (G.top 21)) [] none [] (L2.defScope (G.top 21)) none a20 (.mk 71 0 72 61)), (.FunctionDef a21 (L2.defArgs (G.top 22)) (L2.defBody (G.top 22)) [] none [] (L2.defScope (G.top 22)) none a21 (.mk 73 0 77 69)), (.FunctionDef a22 (L2.defArgs (G.top 23)) (L2.defBody (G.top 23)) [] none [] (L2.defScope (G.top 23)) none a22 (.mk 78 0 79 102)), (.FunctionDef a23 (L2.defArgs (G.top 24)) (L2.defBody (G.top 24)) [] none [] (L2.defScope (G.top 24)) none a23 (.mk 80 0 84 76)), (.FunctionDef a24 (L2.defArgs (G.top 25)) (L2.defBody (G.top 25)) [] none [] (L2.defScope (G.top 25)) none a24 (.mk 85 0 89 52))]
noncomputable def c8 (P : PySem.Params) (t : List PySem.DictEntry) : List PySem.DictEntry := (en P a17 384 (.int 2 383))::(en P a18 386 (.int 7 385))::(en P a19 393 (.ref 160))::(en P a20 399 (.ref 165))::(en P a21 405 (.ref 170))::(en P a22 411 (.ref 175))::(en P a23 417 (.ref 180))::(en P a24 423 (.ref 185))::t
noncomputable def c9 (P : PySem.Params) (t : List PySem.DictEntry) : List PySem.DictEntry := (en P a9 315 (.int 60 314))::(en P a10 321 (.ref 111))::(en P a11 333 (.ref 118))::(en P a12 345 (.ref 125))::(en P a13 356 (.ref 132))::(en P a14 364 (.ref 139))::(en P a15 372 (.ref 146))::(en P a16 380 (.ref 153))::t
noncomputable def c10 (P : PySem.Params) (t : List PySem.DictEntry) : List PySem.DictEntry := (en P a0 165 (.str a77 381))::(en P a48 166 .none)::(en P a49 167 .none)::(en P a50 168 (.builtin b4))::(en P a51 169 .none)::(en P a52 170 (.ref 6))::(en P a53 171 (.ref 4))::(en P a54 173 (.str a45 172))::t
noncomputable def o142 (P : Params) : Obj := (ob (.type b3) (.dict ⟨(c10 P (c1 P (c9 P (c8 P []))))⟩ 32))
noncomputable def c11 (t : List PySem.Value) : List PySem.Value := (.ref 179)::(i 85)::(i 0)::(.ref 184)::t
noncomputable def c12 (t : List PySem.Value) : List PySem.Value := (i 73)::(i 0)::(.ref 169)::(i 78)::(i 0)::(.ref 174)::(i 80)::(i 0)::t
noncomputable def c13 (t : List PySem.Value) : List PySem.Value := (i 0)::(.ref 152)::(i 68)::(i 0)::(.ref 159)::(i 71)::(i 0)::(.ref 164)::t
noncomputable def c14 (t : List PySem.Value) : List PySem.Value := (.ref 131)::(i 56)::(i 0)::(.ref 138)::(i 59)::(i 0)::(.ref 145)::(i 62)::t
noncomputable def o143 : Obj := (ob .none (.fields ⟨(c7 (c6 (c5 (c4 (c14 (c13 (c12 (c11 []))))))))⟩))
noncomputable def o144 : Obj := (ob (.type b0) (.seq ⟨[]⟩ 0))
noncomputable def o145 : Obj := (ob .none (.fields ⟨[]⟩))
noncomputable def o146 : Obj := (ob (.type b0) (.seq ⟨[(.str a75 360),(.str a62 361)]⟩ 0))
noncomputable def o147 : Obj := (ob (.type b0) (.seq ⟨[]⟩ 0))
noncomputable def o148 : Obj := (cO a14 (G.top 14))
noncomputable def o149 : Obj := (ob (.type b1) (.fields ⟨[(.str a14 357),(.str a14 358),(.str a45 359),(i 56),(i 2),(i 0),(i 0),(i 3),(.ref 133),(.bool .true),(i 181),(.ref 134),.none,(.ref 135),(.ref 136),(.ref 137),(i 362),(i 56),(.str a45 363)]⟩))
noncomputable def o150 : Obj := (fO (.type b17) a14 (G.top 14) (.str a63 312) (.ref 138))
noncomputable def o151 : Obj := (ob (.type b0) (.seq ⟨[]⟩ 0))
noncomputable def o152 : Obj := (ob .none (.fields ⟨[]⟩))
noncomputable def o153 : Obj := (ob (.type b0) (.seq ⟨[(.str a75 368),(.str a62 369)]⟩ 0))
noncomputable def o154 : Obj := (ob (.type b0) (.seq ⟨[]⟩ 0))
noncomputable def o155 : Obj := (cO a15 (G.top 15))
noncomputable def o156 : Obj := (ob (.type b1) (.fields ⟨[(.str a15 365),(.str a15 366),(.str a45 367),(i 59),(i 2),(i 0),(i 0),(i 3),(.ref 140),(.bool .true),(i 181),(.ref 141),.none,(.ref 142),(.ref 143),(.ref 144),(i 370),(i 59),(.str a45 371)]⟩))
noncomputable def o157 : Obj := (fO (.type b17) a15 (G.top 15) (.str a63 312) (.ref 145))
noncomputable def o158 : Obj := (ob (.type b0) (.seq ⟨[]⟩ 0))
noncomputable def o159 : Obj := (ob .none (.fields ⟨[]⟩))
noncomputable def o160 : Obj := (ob (.type b0) (.seq ⟨[(.str a75 376),(.str a62 377)]⟩ 0))
noncomputable def o161 : Obj := (ob (.type b0) (.seq ⟨[]⟩ 0))
noncomputable def o162 : Obj := (cO a16 (G.top 16))
noncomputable def o163 : Obj := (ob (.type b1) (.fields ⟨[(.str a16 373),(.str a16 374),(.str a45 375),(i 62),(i 2),(i 0),(i 0),(i 3),(.ref 147),(.bool .true),(i 181),(.ref 148),.none,(.ref 149),(.ref 150),(.ref 151),(i 378),(i 62),(.str a45 379)]⟩))
noncomputable def o164 : Obj := (fO (.type b17) a16 (G.top 16) (.str a63 312) (.ref 152))
noncomputable def o165 : Obj := (ob (.type b0) (.seq ⟨[]⟩ 0))
noncomputable def o166 : Obj := (ob .none (.fields ⟨[]⟩))
noncomputable def o167 : Obj := (ob (.type b0) (.seq ⟨[(.str a75 390)]⟩ 0))
noncomputable def o168 : Obj := (ob (.type b0) (.seq ⟨[]⟩ 0))
noncomputable def o169 : Obj := (cO a19 (G.top 20))
noncomputable def o170 : Obj := (ob (.type b1) (.fields ⟨[(.str a19 387),(.str a19 388),(.str a45 389),(i 68),(i 1),(i 0),(i 0),(i 3),(.ref 154),(.bool .true),(i 181),(.ref 155),.none,(.ref 156),(.ref 157),(.ref 158),(i 391),(i 68),(.str a45 392)]⟩))
noncomputable def o171 : Obj := (fO (.type b17) a19 (G.top 20) (.str a77 381) (.ref 159))
noncomputable def o172 : Obj := (ob (.type b0) (.seq ⟨[]⟩ 0))
noncomputable def o173 : Obj := (ob .none (.fields ⟨[]⟩))
noncomputable def o174 : Obj := (cO a20 (G.top 21))
noncomputable def o175 : Obj := (ob (.type b1) (.fields ⟨[(.str a20 394),(.str a20 395),(.str a45 396),(i 71),(i 1),(i 0),(i 0),(i 3),(.ref 161),(.bool .true),(i 181),(.ref 162),.none,.none,.none,(.ref 163),(i 397),(i 71),(.str a45 398)]⟩))
noncomputable def o176 : Obj := (fO (.type b17) a20 (G.top 21) (.str a77 381) (.ref 164))
noncomputable def o177 : Obj := (ob (.type b0) (.seq ⟨[]⟩ 0))
noncomputable def o178 : Obj := (ob .none (.fields ⟨[]⟩))
noncomputable def o179 : Obj := (cO a21 (G.top 22))
noncomputable def o180 : Obj := (ob (.type b1) (.fields ⟨[(.str a21 400),(.str a21 401),(.str a45 402),(i 73),(i 2),(i 0),(i 0),(i 3),(.ref 166),(.bool .true),(i 181),(.ref 167),.none,.none,.none,(.ref 168),(i 403),(i 73),(.str a45 404)]⟩))
noncomputable def o181 : Obj := (fO (.type b17) a21 (G.top 22) (.str a77 381) (.ref 169))
noncomputable def o182 : Obj := (ob (.type b0) (.seq ⟨[]⟩ 0))
noncomputable def o183 : Obj := (ob .none (.fields ⟨[]⟩))
noncomputable def o184 : Obj := (cO a22 (G.top 23))
noncomputable def o185 : Obj := (ob (.type b1) (.fields ⟨[(.str a22 406),(.str a22 407),(.str a45 408),(i 78),(i 2),(i 0),(i 0),(i 3),(.ref 171),(.bool .true),(i 181),(.ref 172),.none,.none,.none,(.ref 173),(i 409),(i 78),(.str a45 410)]⟩))
noncomputable def o186 : Obj := (fO (.type b17) a22 (G.top 23) (.str a77 381) (.ref 174))
noncomputable def o187 : Obj := (ob (.type b0) (.seq ⟨[]⟩ 0))
noncomputable def o188 : Obj := (ob .none (.fields ⟨[]⟩))
noncomputable def o189 : Obj := (cO a23 (G.top 24))
noncomputable def o190 : Obj := (ob (.type b1) (.fields ⟨[(.str a23 412),(.str a23 413),(.str a45 414),(i 80),(i 3),(i 0),(i 0),(i 3),(.ref 176),(.bool .true),(i 181),(.ref 177),.none,.none,.none,(.ref 178),(i 415),(i 80),(.str a45 416)]⟩))
noncomputable def o191 : Obj := (fO (.type b17) a23 (G.top 24) (.str a77 381) (.ref 179))
noncomputable def o192 : Obj := (ob (.type b0) (.seq ⟨[]⟩ 0))
noncomputable def o193 : Obj := (ob .none (.fields ⟨[]⟩))
noncomputable def o194 : Obj := (cO a24 (G.top 25))
noncomputable def o195 : Obj := (ob (.type b1) (.fields ⟨[(.str a24 418),(.str a24 419),(.str a45 420),(i 85),(i 1),(i 0),(i 0),(i 3),(.ref 181),(.bool .true),(i 181),(.ref 182),.none,.none,.none,(.ref 183),(i 421),(i 85),(.str a45 422)]⟩))
noncomputable def o196 : Obj := (fO (.type b17) a24 (G.top 25) (.str a77 381) (.ref 184))
noncomputable def t7 (P : PySem.Params) : PySem.W.BT := (n (q0 P) (n (q1 P) (n (o142 P) (n (q7 P) (n o6 (n o25 (n o63 (l o136) .nil) (n o104 (l o170) .nil)) (n o44 (n o85 (l o154) .nil) (n o120 (l o186) .nil))) (n (o14 P) (n o33 (n o74 (l o146) .nil) (n (o112 P) (l o178) .nil)) (n o55 (n o93 (l o162) .nil) (n o128 (l o194) .nil)))) (n o0 (n o10 (n o29 (n o70 (l o140) .nil) (n o108 (l o174) .nil)) (n o48 (n o89 (l o158) .nil) (n o124 (l o190) .nil))) (n o18 (n o40 (n o78 (l o150) .nil) (n o116 (l o182) .nil)) (n o59 (n o100 (l o166) .nil) (l o132))))) (n (q5 P) (n (q9 P) (n (o8 P) (n o27 (n o68 (l o138) .nil) (n o106 (l o172) .nil)) (n o46 (n o87 (l o156) .nil) (n o122 (l o188) .nil))) (n o16 (n o38 (n o76 (l o148) .nil) (n o114 (l o180) .nil)) (n o57 (n o98 (l o164) .nil) (n o130 (l o196) .nil)))) (n o2 (n o12 (n o31 (n o72 (l o144) .nil) (n o110 (l o176) .nil)) (n o53 (n o91 (l o160) .nil) (n o126 (l o192) .nil))) (n o23 (n o42 (n o83 (l o152) .nil) (n o118 (l o184) .nil)) (n o61 (n o102 (l o168) .nil) (l o134)))))) (n (q2 P) (n (q4 P) (n (q8 P) (n o7 (n o26 (n o67 (l o137) .nil) (n o105 (l o171) .nil)) (n (o45 P) (n o86 (l o155) .nil) (n o121 (l o187) .nil))) (n o96 (n o37 (n (o75 P) (l o147) .nil) (n o113 (l o179) .nil)) (n o56 (n o97 (l o163) .nil) (n o129 (l o195) .nil)))) (n o143 (n o11 (n (o30 P) (n o71 (l o141) .nil) (n o109 (l o175) .nil)) (n o52 (n (o90 P) (l o159) .nil) (n o125 (l o191) .nil))) (n o22 (n o41 (n o82 (l o151) .nil) (n o117 (l o183) .nil)) (n (o60 P) (n o101 (l o167) .nil) (l o133))))) (n (q6 P) (n (q10 P) (n o9 (n o28 (n (o69 P) (l o139) .nil) (n o107 (l o173) .nil)) (n o47 (n o88 (l o157) .nil) (n o123 (l o189) .nil))) (n o17 (n (o39 P) (n o77 (l o149) .nil) (n o115 (l o181) .nil)) (n o58 (n (o99 P) (l o165) .nil) (l o131)))) (n o3 (n o13 (n o32 (n o73 (l o145) .nil) (n o111 (l o177) .nil)) (n (o54 P) (n o92 (l o161) .nil) (n o127 (l o193) .nil))) (n (o24 P) (n o43 (n (o84 P) (l o153) .nil) (n o119 (l o185) .nil)) (n o62 (n o103 (l o169) .nil) (l o135)))))))
theorem pz7 : ∀ w : PySem.World, (fun os : PySem.OsState => PySem.W.Fast.tw10110043849684766642 PySem.W.Fast.tw14364793385576792824 PySem.Challenge.pw_farhail_k61_whole_hunts_and_shelters_pla w 11 (some (.ref 6)) 1 277 (PySem.W.SharedT.mk (t6 w.params) 133 (.mk [] [] [] 0 [] [] .false ⟨[]⟩ [] 0 .false .false .false 0 [2000,10,10] .false 0 .true [] [] 0 .false) (Array.mk ([] : List PySem.GenState)) (.mk 0 0 0 0) 357 os) (PySem.W.piecesOf sts7 env code (.mk 47 0 55 14) B)) = fun os => some (PySem.Flow.next, (PySem.W.SharedT.mk (t7 w.params) 186 (.mk [] [] [] 0 [] [] .false ⟨[]⟩ [] 0 .false .false .false 0 [2000,10,10] .false 0 .true [] [] 0 .false) (Array.mk ([] : List PySem.GenState)) (.mk 0 0 0 0) 424 os), code, (.mk 85 0 89 52)) := fun w => by kernel_rfl
theorem p7 (w : PySem.World) (os : PySem.OsState) : PySem.W.segRun PySem.treeTable PySem.Challenge.pw_farhail_k61_whole_hunts_and_shelters_pla w 11 (some (.ref 6)) 1 277 (PySem.W.SharedT.mk (t6 w.params) 133 (.mk [] [] [] 0 [] [] .false ⟨[]⟩ [] 0 .false .false .false 0 [2000,10,10] .false 0 .true [] [] 0 .false) (Array.mk ([] : List PySem.GenState)) (.mk 0 0 0 0) 357 os).abs (PySem.W.piecesOf sts7 env code (.mk 47 0 55 14) B) = some (PySem.Flow.next, (PySem.W.SharedT.mk (t7 w.params) 186 (.mk [] [] [] 0 [] [] .false ⟨[]⟩ [] 0 .false .false .false 0 [2000,10,10] .false 0 .true [] [] 0 .false) (Array.mk ([] : List PySem.GenState)) (.mk 0 0 0 0) 424 os).abs, code, (.mk 85 0 89 52)) := PySem.W.segRun_of (by rw [PySem.W.Fast.te10110043849684766642, PySem.W.Fast.te14364793385576792824]; exact congrFun (pz7 w) os)
noncomputable def a78 : Str := ⟨⟨[102,111,117,110,100,95,98,121]⟩⟩
noncomputable def a79 : Str := ⟨⟨[102,105,108,108]⟩⟩
noncomputable def a80 : Str := ⟨⟨[104,117,110,116]⟩⟩
noncomputable def a81 : Str := ⟨⟨[108,111,111,107,115]⟩⟩
noncomputable def a82 : Str := ⟨⟨[116,117,114,110,115]⟩⟩
noncomputable def a83 : Str := ⟨⟨[119,97,121,115]⟩⟩
noncomputable def a84 : Str := ⟨⟨[102,97,114,104,97,105,108,46,99,111,100,101,115]⟩⟩
noncomputable def sts8 : List PySem.Stmt := [(.ClassDef a25 [] [] [(.FunctionDef a61 (L2.defArgs (L2.inClass (G.top 26) 0)) (L2.defBody (L2.inClass (G.top 26) 0)) [] none [] (L2.defScope (L2.inClass (G.top 26) 0)) none a61 (.mk 92 4 99 19)), (.FunctionDef a78 (L2.defArgs (L2.inClass (G.top 26) 1)) (L2.defBody (L2.inClass (G.top 26) 1)) [] none [] (L2.defScope (L2.inClass (G.top 26) 1)) none a78 (.mk 101 4 105 19)), (.FunctionDef a79 (L2.defArgs (L2.inClass (G.top 26) 2)) (L2.defBody (L2.inClass (G.top 26) 2)) [] none [] (L2.defScope (L2.inClass (G.top 26) 2)) none a79 (.mk 107 4 120 44)), (.FunctionDef a80 (L2.defArgs (L2.inClass (G.top 26) 3)) (L2.defBody (L2.inClass (G.top 26) 3)) [] none [] (L2.defScope (L2.inClass (G.top 26) 3)) none a80 (.mk 122 4 131 20))] [] [] (.mk .class [(a61, .local),(a78, .local),(a79, .local),(a80, .local)] .false .false []) none a25 [a76,a81,a82,a83] (.mk 90 0 131 20)), (.FunctionDef a26 (L2.defArgs (G.top 27)) (L2.defBody (G.top 27)) [] none [] (L2.defScope (G.top 27)) none a26 (.mk 132 0 138 96)), (.Assign [(.Name a0 (.mk 139 0 139 8))] (.Constant (.str a84) 0 (.mk 139 11 139 26)) (.mk 139 0 139 26)), (.FunctionDef a27 (L2.defArgs (G.top 29)) (L2.defBody (G.top 29)) [] none [] (L2.defScope (G.top 29)) none a27 (.mk 140 0 141 61))]
noncomputable def c15 (P : PySem.Params) (t : List PySem.DictEntry) : List PySem.DictEntry := (en P a25 482 (.ref 219))::(en P a26 488 (.ref 228))::(en P a27 496 (.ref 233))::t
noncomputable def c16 (P : PySem.Params) (t : List PySem.DictEntry) : List PySem.DictEntry := (en P a0 165 (.str a84 489))::(en P a48 166 .none)::(en P a49 167 .none)::(en P a50 168 (.builtin b4))::(en P a51 169 .none)::(en P a52 170 (.ref 6))::(en P a53 171 (.ref 4))::(en P a54 173 (.str a45 172))::t
noncomputable def o197 (P : Params) : Obj := (ob (.type b3) (.dict ⟨(c16 P (c1 P (c9 P (c8 P (c15 P [])))))⟩ 35))
noncomputable def c17 (t : List PySem.Value) : List PySem.Value := (i 0)::(.ref 227)::(i 140)::(i 0)::(.ref 232)::t
noncomputable def c18 (t : List PySem.Value) : List PySem.Value := (.ref 179)::(i 85)::(i 0)::(.ref 184)::(i 90)::(i 0)::(.ref 191)::(i 132)::t
noncomputable def o198 : Obj := (ob .none (.fields ⟨(c7 (c6 (c5 (c4 (c14 (c13 (c12 (c18 (c17 [])))))))))⟩))
noncomputable def o199 : Obj := (ob (.type b0) (.seq ⟨[]⟩ 0))
noncomputable def o200 : Obj := (ob (.type b6) (.fields ⟨[(.builtin b7),(.type b8)]⟩))
noncomputable def o201 (P : Params) : Obj := (ob (.type b3) (.dict ⟨[(en P a56 431 (.str a77 381)),(en P a57 433 (.str a25 432)),(en P a58 435 (.int 90 434)),(en P a61 441 (.ref 197)),(en P a78 447 (.ref 202)),(en P a79 458 (.ref 209)),(en P a80 470 (.ref 216)),(en P a59 475 (.ref 217))]⟩ 8))
noncomputable def o202 : Obj := (ob (.type b0) (.seq ⟨[]⟩ 0))
noncomputable def o203 : Obj := (ob .none (.fields ⟨[(i 92),(i 4),(.ref 196),(i 101),(i 4),(.ref 201),(i 107),(i 4),(.ref 208),(i 122),(i 4),(.ref 215)]⟩))
noncomputable def o204 : Obj := (ob (.type b1) (.fields ⟨[(.str a25 426),(.str a25 427),(.str a45 428),(i 90),(i 0),(i 0),(i 0),(i 0),(.ref 189),(.bool .false),(i 181),(.ref 190),.none,.none,.none,.none,(i 429),(i 90),(.str a45 430)]⟩))
noncomputable def o205 : Obj := (.mk (.type b2) none .plain ⟨[(some (.ref 191)),(some (.ref 3)),(some (.ref 188)),none,(some (.str a77 381)),none,(some (.ref 0))]⟩)
noncomputable def o206 : Obj := (ob (.type b0) (.seq ⟨[]⟩ 0))
noncomputable def o207 : Obj := (ob .none (.fields ⟨[]⟩))
noncomputable def a85 : Str := ⟨⟨[72,117,110,116,105,110,103,46,95,95,105,110,105,116,95,95]⟩⟩
noncomputable def o208 : Obj := (.mk .none none (.func (.mk a61 a85 (L2.defArgs (L2.inClass (G.top 26) 0)) (.stmts (L2.defBody (L2.inClass (G.top 26) 0))) (L2.defScope (L2.inClass (G.top 26) 0)) 0 [] .none .none .none .none none .none .none 0)) ⟨[]⟩)
noncomputable def o209 : Obj := (ob (.type b1) (.fields ⟨[(.str a61 436),(.str a85 437),(.str a45 438),(i 92),(i 3),(i 0),(i 0),(i 3),(.ref 193),(.bool .true),(i 181),(.ref 194),.none,.none,.none,(.ref 195),(i 439),(i 92),(.str a45 440)]⟩))
noncomputable def o210 : Obj := (.mk (.type b17) none (.func (PySem.W.fnOf a61 a85 (L2.defArgs (L2.inClass (G.top 26) 0)) (L2.defBody (L2.inClass (G.top 26) 0)) (L2.defScope (L2.inClass (G.top 26) 0)) .none .none .none (.str a77 381) none (.ref 196) .none)) ⟨[]⟩)
noncomputable def o211 : Obj := (ob (.type b0) (.seq ⟨[]⟩ 0))
noncomputable def o212 : Obj := (ob .none (.fields ⟨[]⟩))
noncomputable def a86 : Str := ⟨⟨[72,117,110,116,105,110,103,46,102,111,117,110,100,95,98,121]⟩⟩
noncomputable def o213 : Obj := (.mk .none none (.func (.mk a78 a86 (L2.defArgs (L2.inClass (G.top 26) 1)) (.stmts (L2.defBody (L2.inClass (G.top 26) 1))) (L2.defScope (L2.inClass (G.top 26) 1)) 0 [] .none .none .none .none none .none .none 0)) ⟨[]⟩)
noncomputable def o214 : Obj := (ob (.type b1) (.fields ⟨[(.str a78 442),(.str a86 443),(.str a45 444),(i 101),(i 2),(i 0),(i 0),(i 3),(.ref 198),(.bool .true),(i 181),(.ref 199),.none,.none,.none,(.ref 200),(i 445),(i 101),(.str a45 446)]⟩))
noncomputable def o215 : Obj := (.mk (.type b17) none (.func (PySem.W.fnOf a78 a86 (L2.defArgs (L2.inClass (G.top 26) 1)) (L2.defBody (L2.inClass (G.top 26) 1)) (L2.defScope (L2.inClass (G.top 26) 1)) .none .none .none (.str a77 381) none (.ref 201) .none)) ⟨[]⟩)
noncomputable def o216 : Obj := (ob (.type b0) (.seq ⟨[]⟩ 0))
noncomputable def o217 : Obj := (ob .none (.fields ⟨[]⟩))
noncomputable def a87 : Str := ⟨⟨[116,117,114,110]⟩⟩
noncomputable def a88 : Str := ⟨⟨[102,114,101,115,104]⟩⟩
noncomputable def a89 : Str := ⟨⟨[115,116,97,110,100,105,110,103]⟩⟩
noncomputable def o218 : Obj := (ob (.type b0) (.seq ⟨[(.str a64 451),(.str a87 452),(.str a88 453),(.str a89 454),(.str a81 455)]⟩ 0))
noncomputable def o219 : Obj := (ob (.type b0) (.seq ⟨[]⟩ 0))
noncomputable def a90 : Str := ⟨⟨[72,117,110,116,105,110,103,46,102,105,108,108]⟩⟩
noncomputable def o220 : Obj := (.mk .none none (.func (.mk a79 a90 (L2.defArgs (L2.inClass (G.top 26) 2)) (.stmts (L2.defBody (L2.inClass (G.top 26) 2))) (L2.defScope (L2.inClass (G.top 26) 2)) 0 [] .none .none .none .none none .none .none 0)) ⟨[]⟩)
noncomputable def o221 : Obj := (ob (.type b1) (.fields ⟨[(.str a79 448),(.str a90 449),(.str a45 450),(i 107),(i 1),(i 0),(i 0),(i 3),(.ref 203),(.bool .true),(i 181),(.ref 204),.none,(.ref 205),(.ref 206),(.ref 207),(i 456),(i 107),(.str a45 457)]⟩))
noncomputable def o222 : Obj := (.mk (.type b17) none (.func (PySem.W.fnOf a79 a90 (L2.defArgs (L2.inClass (G.top 26) 2)) (L2.defBody (L2.inClass (G.top 26) 2)) (L2.defScope (L2.inClass (G.top 26) 2)) .none .none .none (.str a77 381) none (.ref 208) .none)) ⟨[]⟩)
noncomputable def o223 : Obj := (ob (.type b0) (.seq ⟨[]⟩ 0))
noncomputable def o224 : Obj := (ob .none (.fields ⟨[]⟩))
noncomputable def a91 : Str := ⟨⟨[115,116,97,114,116]⟩⟩
noncomputable def a92 : Str := ⟨⟨[119,97,105,116,105,110,103]⟩⟩
noncomputable def o225 : Obj := (ob (.type b0) (.seq ⟨[(.str a64 462),(.str a91 463),(.str a67 464),(.str a92 465),(.str a89 466),(.str a81 467)]⟩ 0))
noncomputable def o226 : Obj := (ob (.type b0) (.seq ⟨[]⟩ 0))
noncomputable def a93 : Str := ⟨⟨[72,117,110,116,105,110,103,46,104,117,110,116]⟩⟩
noncomputable def o227 : Obj := (.mk .none none (.func (.mk a80 a93 (L2.defArgs (L2.inClass (G.top 26) 3)) (.stmts (L2.defBody (L2.inClass (G.top 26) 3))) (L2.defScope (L2.inClass (G.top 26) 3)) 0 [] .none .none .none .none none .none .none 0)) ⟨[]⟩)
noncomputable def o228 : Obj := (ob (.type b1) (.fields ⟨[(.str a80 459),(.str a93 460),(.str a45 461),(i 122),(i 2),(i 0),(i 0),(i 3),(.ref 210),(.bool .true),(i 181),(.ref 211),.none,(.ref 212),(.ref 213),(.ref 214),(i 468),(i 122),(.str a45 469)]⟩))
noncomputable def o229 : Obj := (.mk (.type b17) none (.func (PySem.W.fnOf a80 a93 (L2.defArgs (L2.inClass (G.top 26) 3)) (L2.defBody (L2.inClass (G.top 26) 3)) (L2.defScope (L2.inClass (G.top 26) 3)) .none .none .none (.str a77 381) none (.ref 215) .none)) ⟨[]⟩)
noncomputable def o230 : Obj := (ob (.type b0) (.seq ⟨[(.str a76 471),(.str a81 472),(.str a82 473),(.str a83 474)]⟩ 0))
noncomputable def a94 : Str := ⟨⟨[95,95,100,105,99,116,95,95]⟩⟩
noncomputable def o231 (P : Params) : Obj := (ob (.type b3) (.dict ⟨[(en P a56 431 (.str a77 381)),(en P a58 435 (.int 90 434)),(en P a61 441 (.ref 197)),(en P a78 447 (.ref 202)),(en P a79 458 (.ref 209)),(en P a80 470 (.ref 216)),(en P a59 475 (.ref 217)),(en P a94 477 (.ref 220)),(en P a60 479 (.ref 221)),(en P a48 480 .none)]⟩ 4))
noncomputable abbrev b18 : String := PySem.W.SL.s11443829558043349243x14
noncomputable def o232 : Obj := (.mk (.type b8) none (.cls (.mk a25 [(.type b11)] [(.ref 219),(.type b11)] 218 a25 .true [] [] .false none .false)) ⟨[none,none,(some (.str a25 424)),(some (.str a25 432)),(some (.builtin b18)),(some (.bool .true))]⟩)
noncomputable abbrev b19 : String := PySem.W.SL.s6511155373996960695x17
noncomputable abbrev b20 : String := PySem.W.SL.s12411053484034534018x21
noncomputable def o233 : Obj := (ob (.type b13) (.fields ⟨[(.str a94 476),(.ref 219),(.builtin b19),(.builtin b20)]⟩))
noncomputable def o234 : Obj := (ob (.type b13) (.fields ⟨[(.str a60 478),(.ref 219),(.builtin b14),.none]⟩))
noncomputable def o235 : Obj := (ob (.type b15) (.fields ⟨[(.ref 219),(.ref 219),(.ref 219)]⟩))
noncomputable def o236 : Obj := (ob (.type b6) (.fields ⟨[(.builtin b16),(.ref 219)]⟩))
noncomputable def o237 : Obj := (ob (.type b0) (.seq ⟨[]⟩ 0))
noncomputable def o238 : Obj := (ob .none (.fields ⟨[]⟩))
noncomputable def o239 : Obj := (cO a26 (G.top 27))
noncomputable def o240 : Obj := (ob (.type b1) (.fields ⟨[(.str a26 483),(.str a26 484),(.str a45 485),(i 132),(i 2),(i 0),(i 0),(i 3),(.ref 224),(.bool .true),(i 181),(.ref 225),.none,.none,.none,(.ref 226),(i 486),(i 132),(.str a45 487)]⟩))
noncomputable def o241 : Obj := (fO (.type b17) a26 (G.top 27) (.str a77 381) (.ref 227))
noncomputable def o242 : Obj := (ob (.type b0) (.seq ⟨[]⟩ 0))
noncomputable def o243 : Obj := (ob .none (.fields ⟨[]⟩))
noncomputable def o244 : Obj := (cO a27 (G.top 29))
noncomputable def o245 : Obj := (ob (.type b1) (.fields ⟨[(.str a27 491),(.str a27 492),(.str a45 493),(i 140),(i 1),(i 0),(i 0),(i 3),(.ref 229),(.bool .true),(i 181),(.ref 230),.none,.none,.none,(.ref 231),(i 494),(i 140),(.str a45 495)]⟩))
noncomputable def o246 : Obj := (fO (.type b17) a27 (G.top 29) (.str a84 489) (.ref 232))
noncomputable def t8 (P : PySem.Params) : PySem.W.BT := (n (q0 P) (n (q1 P) (n (o197 P) (n (q7 P) (n o6 (n o25 (n o63 (l o136) (l o204)) (n o104 (l o170) (l o236))) (n o44 (n o85 (l o154) (l o220)) (n o120 (l o186) .nil))) (n (o14 P) (n o33 (n o74 (l o146) (l o212)) (n (o112 P) (l o178) (l o244))) (n o55 (n o93 (l o162) (l o228)) (n o128 (l o194) .nil)))) (n o0 (n o10 (n o29 (n o70 (l o140) (l o208)) (n o108 (l o174) (l o240))) (n o48 (n o89 (l o158) (l o224)) (n o124 (l o190) .nil))) (n o18 (n o40 (n o78 (l o150) (l o216)) (n o116 (l o182) .nil)) (n o59 (n o100 (l o166) (l o232)) (n o132 (l o200) .nil))))) (n (q5 P) (n (q9 P) (n (o8 P) (n o27 (n o68 (l o138) (l o206)) (n o106 (l o172) (l o238))) (n o46 (n o87 (l o156) (l o222)) (n o122 (l o188) .nil))) (n o16 (n o38 (n o76 (l o148) (l o214)) (n o114 (l o180) (l o246))) (n o57 (n o98 (l o164) (l o230)) (n o130 (l o196) .nil)))) (n o2 (n o12 (n o31 (n o72 (l o144) (l o210)) (n o110 (l o176) (l o242))) (n o53 (n o91 (l o160) (l o226)) (n o126 (l o192) .nil))) (n o23 (n o42 (n o83 (l o152) (l o218)) (n o118 (l o184) .nil)) (n o61 (n o102 (l o168) (l o234)) (n o134 (l o202) .nil)))))) (n (q2 P) (n (q4 P) (n (q8 P) (n o7 (n o26 (n o67 (l o137) (l o205)) (n o105 (l o171) (l o237))) (n (o45 P) (n o86 (l o155) (l o221)) (n o121 (l o187) .nil))) (n o96 (n o37 (n (o75 P) (l o147) (l o213)) (n o113 (l o179) (l o245))) (n o56 (n o97 (l o163) (l o229)) (n o129 (l o195) .nil)))) (n o198 (n o11 (n (o30 P) (n o71 (l o141) (l o209)) (n o109 (l o175) (l o241))) (n o52 (n (o90 P) (l o159) (l o225)) (n o125 (l o191) .nil))) (n o22 (n o41 (n o82 (l o151) (l o217)) (n o117 (l o183) .nil)) (n (o60 P) (n o101 (l o167) (l o233)) (n o133 (l (o201 P)) .nil))))) (n (q6 P) (n (q10 P) (n o9 (n o28 (n (o69 P) (l o139) (l o207)) (n o107 (l o173) (l o239))) (n o47 (n o88 (l o157) (l o223)) (n o123 (l o189) .nil))) (n o17 (n (o39 P) (n o77 (l o149) (l o215)) (n o115 (l o181) .nil)) (n o58 (n (o99 P) (l o165) (l (o231 P))) (n o131 (l o199) .nil)))) (n o3 (n o13 (n o32 (n o73 (l o145) (l o211)) (n o111 (l o177) (l o243))) (n (o54 P) (n o92 (l o161) (l o227)) (n o127 (l o193) .nil))) (n (o24 P) (n o43 (n (o84 P) (l o153) (l o219)) (n o119 (l o185) .nil)) (n o62 (n o103 (l o169) (l o235)) (n o135 (l o203) .nil)))))))
theorem pz8 : ∀ w : PySem.World, (fun os : PySem.OsState => PySem.W.Fast.tw10110043849684766642 PySem.W.Fast.tw14364793385576792824 PySem.Challenge.pw_farhail_k61_whole_hunts_and_shelters_pla w 11 (some (.ref 6)) 1 382 (PySem.W.SharedT.mk (t7 w.params) 186 (.mk [] [] [] 0 [] [] .false ⟨[]⟩ [] 0 .false .false .false 0 [2000,10,10] .false 0 .true [] [] 0 .false) (Array.mk ([] : List PySem.GenState)) (.mk 0 0 0 0) 424 os) (PySem.W.piecesOf sts8 env code (.mk 85 0 89 52) B)) = fun os => some (PySem.Flow.next, (PySem.W.SharedT.mk (t8 w.params) 234 (.mk [] [] [] 0 [] [] .false ⟨[]⟩ [] 0 .false .false .false 0 [2000,10,10] .false 0 .true [] [] 0 .false) (Array.mk ([] : List PySem.GenState)) (.mk 0 0 0 0) 497 os), code, (.mk 140 0 141 61)) := fun w => by kernel_rfl
theorem p8 (w : PySem.World) (os : PySem.OsState) : PySem.W.segRun PySem.treeTable PySem.Challenge.pw_farhail_k61_whole_hunts_and_shelters_pla w 11 (some (.ref 6)) 1 382 (PySem.W.SharedT.mk (t7 w.params) 186 (.mk [] [] [] 0 [] [] .false ⟨[]⟩ [] 0 .false .false .false 0 [2000,10,10] .false 0 .true [] [] 0 .false) (Array.mk ([] : List PySem.GenState)) (.mk 0 0 0 0) 424 os).abs (PySem.W.piecesOf sts8 env code (.mk 85 0 89 52) B) = some (PySem.Flow.next, (PySem.W.SharedT.mk (t8 w.params) 234 (.mk [] [] [] 0 [] [] .false ⟨[]⟩ [] 0 .false .false .false 0 [2000,10,10] .false 0 .true [] [] 0 .false) (Array.mk ([] : List PySem.GenState)) (.mk 0 0 0 0) 497 os).abs, code, (.mk 140 0 141 61)) := PySem.W.segRun_of (by rw [PySem.W.Fast.te10110043849684766642, PySem.W.Fast.te14364793385576792824]; exact congrFun (pz8 w) os)
noncomputable def a95 : Str := ⟨⟨[108,97,119,95,102,97,114,104,97,105,108,95,107,54,49,95,119,104,111,108,101,95,104,117,110,116,115,95,97,110,100,95,115,104,101,108,116,101,114,115,95,112,108,97]⟩⟩
noncomputable def sts9 : List PySem.Stmt := [(.FunctionDef a28 (L2.defArgs (G.top 30)) (L2.defBody (G.top 30)) [] none [] (L2.defScope (G.top 30)) none a28 (.mk 142 0 145 53)), (.FunctionDef a29 (L2.defArgs (G.top 31)) (L2.defBody (G.top 31)) [] none [] (L2.defScope (G.top 31)) none a29 (.mk 146 0 151 42)), (.FunctionDef a30 (L2.defArgs (G.top 32)) (L2.defBody (G.top 32)) [] none [] (L2.defScope (G.top 32)) none a30 (.mk 152 0 155 60)), (.FunctionDef a31 (L2.defArgs (G.top 33)) (L2.defBody (G.top 33)) [] none [] (L2.defScope (G.top 33)) none a31 (.mk 156 0 160 57)), (.Assign [(.Name a0 (.mk 161 0 161 8))] (.Constant (.str a95) 0 (.mk 161 11 161 57)) (.mk 161 0 161 57)), (.FunctionDef a32 (L2.defArgs (G.top 35)) (L2.defBody (G.top 35)) [] none [] (L2.defScope (G.top 35)) none a32 (.mk 162 0 168 33)), (.FunctionDef a33 (L2.defArgs (G.top 36)) (L2.defBody (G.top 36)) [] none [] (L2.defScope (G.top 36)) none a33 (.mk 169 0 174 16)), (.FunctionDef a34 (L2.defArgs (G.top 37)) (L2.defBody (G.top 37)) [] none [] (L2.defScope (G.top 37)) none a34 (.mk 175 0 179 64)), (.FunctionDef a35 (L2.defArgs (G.top 38)) (L2.defBody (G.top 38)) [] none [] (L2.defScope (G.top 38)) none a35 (.mk 180 0 186 55)), (.FunctionDef a36 (L2.defArgs (G.top 39)) (L2.defBody (G.top 39)) [] none [] (L2.defScope (G.top 39)) none a36 (.mk 187 0 210 78)), (.FunctionDef a37 (L2.defArgs (G.top 40)) (L2.defBody (G.top 40)) [] none [] (L2.defScope (G.top 40)) none a37 (.mk 211 0 215 31)), (.FunctionDef a38 (L2.defArgs (G.top 41)) (L2.defBody (G.top 41)) [] none [] (L2.defScope (G.top 41)) none a38 (.mk 216 0 221 61)), (.FunctionDef a39 (L2.defArgs (G.top 42)) (L2.defBody (G.top 42)) [] none [] (L2.defScope (G.top 42)) none a39 (.mk 222 0 227 46)), (.FunctionDef a40 (L2.defArgs (G.top 43)) (L2.defBody (G.top 43)) [] none [] (L2.defScope (G.top 43)) none a40 (.mk 228 0 229 17))]
noncomputable def c19 (P : PySem.Params) (t : List PySem.DictEntry) : List PySem.DictEntry := (en P a33 546 (.ref 271))::(en P a34 554 (.ref 278))::(en P a35 563 (.ref 285))::(en P a36 569 (.ref 290))::(en P a37 575 (.ref 295))::(en P a38 581 (.ref 300))::(en P a39 587 (.ref 305))::(en P a40 594 (.ref 312))::t
noncomputable def c20 (P : PySem.Params) (t : List PySem.DictEntry) : List PySem.DictEntry := (en P a25 482 (.ref 219))::(en P a26 488 (.ref 228))::(en P a27 496 (.ref 233))::(en P a28 506 (.ref 240))::(en P a29 514 (.ref 247))::(en P a30 523 (.ref 254))::(en P a31 529 (.ref 259))::(en P a32 540 (.ref 266))::t
noncomputable def c21 (P : PySem.Params) (t : List PySem.DictEntry) : List PySem.DictEntry := (en P a0 165 (.str a95 530))::(en P a48 166 .none)::(en P a49 167 .none)::(en P a50 168 (.builtin b4))::(en P a51 169 .none)::(en P a52 170 (.ref 6))::(en P a53 171 (.ref 4))::(en P a54 173 (.str a45 172))::t
noncomputable def o247 (P : Params) : Obj := (ob (.type b3) (.dict ⟨(c21 P (c1 P (c9 P (c8 P (c20 P (c19 P []))))))⟩ 48))
noncomputable def c22 (t : List PySem.Value) : List PySem.Value := (.ref 304)::(i 228)::(i 0)::(.ref 311)::t
noncomputable def c23 (t : List PySem.Value) : List PySem.Value := (i 211)::(i 0)::(.ref 294)::(i 216)::(i 0)::(.ref 299)::(i 222)::(i 0)::t
noncomputable def c24 (t : List PySem.Value) : List PySem.Value := (i 0)::(.ref 277)::(i 180)::(i 0)::(.ref 284)::(i 187)::(i 0)::(.ref 289)::t
noncomputable def c25 (t : List PySem.Value) : List PySem.Value := (.ref 258)::(i 162)::(i 0)::(.ref 265)::(i 169)::(i 0)::(.ref 270)::(i 175)::t
noncomputable def c26 (t : List PySem.Value) : List PySem.Value := (i 146)::(i 0)::(.ref 246)::(i 152)::(i 0)::(.ref 253)::(i 156)::(i 0)::t
noncomputable def c27 (t : List PySem.Value) : List PySem.Value := (i 0)::(.ref 227)::(i 140)::(i 0)::(.ref 232)::(i 142)::(i 0)::(.ref 239)::t
noncomputable def o248 : Obj := (ob .none (.fields ⟨(c7 (c6 (c5 (c4 (c14 (c13 (c12 (c18 (c27 (c26 (c25 (c24 (c23 (c22 []))))))))))))))⟩))
noncomputable def o249 : Obj := (ob (.type b0) (.seq ⟨[]⟩ 0))
noncomputable def o250 : Obj := (ob .none (.fields ⟨[]⟩))
noncomputable def a96 : Str := ⟨⟨[108,111,111,107]⟩⟩
noncomputable def o251 : Obj := (ob (.type b0) (.seq ⟨[(.str a75 500),(.str a81 501),(.str a69 502),(.str a96 503)]⟩ 0))
noncomputable def o252 : Obj := (ob (.type b0) (.seq ⟨[]⟩ 0))
noncomputable def o253 : Obj := (cO a28 (G.top 30))
noncomputable def o254 : Obj := (ob (.type b1) (.fields ⟨[(.str a28 497),(.str a28 498),(.str a45 499),(i 142),(i 2),(i 0),(i 0),(i 3),(.ref 234),(.bool .true),(i 181),(.ref 235),.none,(.ref 236),(.ref 237),(.ref 238),(i 504),(i 142),(.str a45 505)]⟩))
noncomputable def o255 : Obj := (fO (.type b17) a28 (G.top 30) (.str a84 489) (.ref 239))
noncomputable def o256 : Obj := (ob (.type b0) (.seq ⟨[]⟩ 0))
noncomputable def o257 : Obj := (ob .none (.fields ⟨[]⟩))
noncomputable def a97 : Str := ⟨⟨[116,104,105,110,103]⟩⟩
noncomputable def o258 : Obj := (ob (.type b0) (.seq ⟨[(.str a75 510),(.str a97 511)]⟩ 0))
noncomputable def o259 : Obj := (ob (.type b0) (.seq ⟨[]⟩ 0))
noncomputable def o260 : Obj := (cO a29 (G.top 31))
noncomputable def o261 : Obj := (ob (.type b1) (.fields ⟨[(.str a29 507),(.str a29 508),(.str a45 509),(i 146),(i 2),(i 0),(i 0),(i 3),(.ref 241),(.bool .true),(i 181),(.ref 242),.none,(.ref 243),(.ref 244),(.ref 245),(i 512),(i 146),(.str a45 513)]⟩))
noncomputable def o262 : Obj := (fO (.type b17) a29 (G.top 31) (.str a84 489) (.ref 246))
noncomputable def o263 : Obj := (ob (.type b0) (.seq ⟨[]⟩ 0))
noncomputable def o264 : Obj := (ob .none (.fields ⟨[]⟩))
noncomputable def a98 : Str := ⟨⟨[116,97,98,108,101]⟩⟩
noncomputable def o265 : Obj := (ob (.type b0) (.seq ⟨[(.str a98 518),(.str a96 519),(.str a97 520)]⟩ 0))
noncomputable def o266 : Obj := (ob (.type b0) (.seq ⟨[]⟩ 0))
noncomputable def o267 : Obj := (cO a30 (G.top 32))
noncomputable def o268 : Obj := (ob (.type b1) (.fields ⟨[(.str a30 515),(.str a30 516),(.str a45 517),(i 152),(i 3),(i 0),(i 0),(i 3),(.ref 248),(.bool .true),(i 181),(.ref 249),.none,(.ref 250),(.ref 251),(.ref 252),(i 521),(i 152),(.str a45 522)]⟩))
noncomputable def o269 : Obj := (fO (.type b17) a30 (G.top 32) (.str a84 489) (.ref 253))
noncomputable def o270 : Obj := (ob (.type b0) (.seq ⟨[]⟩ 0))
noncomputable def o271 : Obj := (ob .none (.fields ⟨[]⟩))
noncomputable def o272 : Obj := (cO a31 (G.top 33))
noncomputable def o273 : Obj := (ob (.type b1) (.fields ⟨[(.str a31 524),(.str a31 525),(.str a45 526),(i 156),(i 3),(i 0),(i 0),(i 3),(.ref 255),(.bool .true),(i 181),(.ref 256),.none,.none,.none,(.ref 257),(i 527),(i 156),(.str a45 528)]⟩))
noncomputable def o274 : Obj := (fO (.type b17) a31 (G.top 33) (.str a84 489) (.ref 258))
noncomputable def o275 : Obj := (ob (.type b0) (.seq ⟨[]⟩ 0))
noncomputable def o276 : Obj := (ob .none (.fields ⟨[]⟩))
noncomputable def a99 : Str := ⟨⟨[115,99,114,105,112,116]⟩⟩
noncomputable def a100 : Str := ⟨⟨[107]⟩⟩
noncomputable def a101 : Str := ⟨⟨[99,101,108,108]⟩⟩
noncomputable def o277 : Obj := (ob (.type b0) (.seq ⟨[(.str a99 535),(.str a100 536),(.str a101 537)]⟩ 0))
noncomputable def o278 : Obj := (ob (.type b0) (.seq ⟨[]⟩ 0))
noncomputable def o279 : Obj := (cO a32 (G.top 35))
noncomputable def o280 : Obj := (ob (.type b1) (.fields ⟨[(.str a32 532),(.str a32 533),(.str a45 534),(i 162),(i 2),(i 0),(i 0),(i 3),(.ref 260),(.bool .true),(i 181),(.ref 261),.none,(.ref 262),(.ref 263),(.ref 264),(i 538),(i 162),(.str a45 539)]⟩))
noncomputable def o281 : Obj := (fO (.type b17) a32 (G.top 35) (.str a95 530) (.ref 265))
noncomputable def o282 : Obj := (ob (.type b0) (.seq ⟨[]⟩ 0))
noncomputable def o283 : Obj := (ob .none (.fields ⟨[]⟩))
noncomputable def o284 : Obj := (cO a33 (G.top 36))
noncomputable def o285 : Obj := (ob (.type b1) (.fields ⟨[(.str a33 541),(.str a33 542),(.str a45 543),(i 169),(i 2),(i 0),(i 0),(i 3),(.ref 267),(.bool .true),(i 181),(.ref 268),.none,.none,.none,(.ref 269),(i 544),(i 169),(.str a45 545)]⟩))
noncomputable def o286 : Obj := (fO (.type b17) a33 (G.top 36) (.str a95 530) (.ref 270))
noncomputable def o287 : Obj := (ob (.type b0) (.seq ⟨[]⟩ 0))
noncomputable def o288 : Obj := (ob .none (.fields ⟨[]⟩))
noncomputable def a102 : Str := ⟨⟨[108,101,102,116]⟩⟩
noncomputable def o289 : Obj := (ob (.type b0) (.seq ⟨[(.str a101 550),(.str a102 551)]⟩ 0))
noncomputable def o290 : Obj := (ob (.type b0) (.seq ⟨[]⟩ 0))
noncomputable def o291 : Obj := (cO a34 (G.top 37))
noncomputable def o292 : Obj := (ob (.type b1) (.fields ⟨[(.str a34 547),(.str a34 548),(.str a45 549),(i 175),(i 1),(i 0),(i 0),(i 3),(.ref 272),(.bool .true),(i 181),(.ref 273),.none,(.ref 274),(.ref 275),(.ref 276),(i 552),(i 175),(.str a45 553)]⟩))
noncomputable def o293 : Obj := (fO (.type b17) a34 (G.top 37) (.str a95 530) (.ref 277))
noncomputable def o294 : Obj := (ob (.type b0) (.seq ⟨[]⟩ 0))
noncomputable def o295 : Obj := (ob .none (.fields ⟨[]⟩))
noncomputable def a103 : Str := ⟨⟨[115,116,97,116,101]⟩⟩
noncomputable def o296 : Obj := (ob (.type b0) (.seq ⟨[(.str a103 558),(.str a71 559),(.str a67 560)]⟩ 0))
noncomputable def o297 : Obj := (ob (.type b0) (.seq ⟨[]⟩ 0))
noncomputable def o298 : Obj := (cO a35 (G.top 38))
noncomputable def o299 : Obj := (ob (.type b1) (.fields ⟨[(.str a35 555),(.str a35 556),(.str a45 557),(i 180),(i 2),(i 0),(i 0),(i 3),(.ref 279),(.bool .true),(i 181),(.ref 280),.none,(.ref 281),(.ref 282),(.ref 283),(i 561),(i 180),(.str a45 562)]⟩))
noncomputable def o300 : Obj := (fO (.type b17) a35 (G.top 38) (.str a95 530) (.ref 284))
noncomputable def o301 : Obj := (ob (.type b0) (.seq ⟨[]⟩ 0))
noncomputable def o302 : Obj := (ob .none (.fields ⟨[]⟩))
noncomputable def o303 : Obj := (cO a36 (G.top 39))
noncomputable def o304 : Obj := (ob (.type b1) (.fields ⟨[(.str a36 564),(.str a36 565),(.str a45 566),(i 187),(i 3),(i 0),(i 0),(i 3),(.ref 286),(.bool .true),(i 181),(.ref 287),.none,.none,.none,(.ref 288),(i 567),(i 187),(.str a45 568)]⟩))
noncomputable def o305 : Obj := (fO (.type b17) a36 (G.top 39) (.str a95 530) (.ref 289))
noncomputable def o306 : Obj := (ob (.type b0) (.seq ⟨[]⟩ 0))
noncomputable def o307 : Obj := (ob .none (.fields ⟨[]⟩))
noncomputable def o308 : Obj := (cO a37 (G.top 40))
noncomputable def o309 : Obj := (ob (.type b1) (.fields ⟨[(.str a37 570),(.str a37 571),(.str a45 572),(i 211),(i 2),(i 0),(i 0),(i 3),(.ref 291),(.bool .true),(i 181),(.ref 292),.none,.none,.none,(.ref 293),(i 573),(i 211),(.str a45 574)]⟩))
noncomputable def o310 : Obj := (fO (.type b17) a37 (G.top 40) (.str a95 530) (.ref 294))
noncomputable def o311 : Obj := (ob (.type b0) (.seq ⟨[]⟩ 0))
noncomputable def o312 : Obj := (ob .none (.fields ⟨[]⟩))
noncomputable def o313 : Obj := (cO a38 (G.top 41))
noncomputable def o314 : Obj := (ob (.type b1) (.fields ⟨[(.str a38 576),(.str a38 577),(.str a45 578),(i 216),(i 3),(i 0),(i 0),(i 3),(.ref 296),(.bool .true),(i 181),(.ref 297),.none,.none,.none,(.ref 298),(i 579),(i 216),(.str a45 580)]⟩))
noncomputable def o315 : Obj := (fO (.type b17) a38 (G.top 41) (.str a95 530) (.ref 299))
noncomputable def o316 : Obj := (ob (.type b0) (.seq ⟨[]⟩ 0))
noncomputable def o317 : Obj := (ob .none (.fields ⟨[]⟩))
noncomputable def o318 : Obj := (cO a39 (G.top 42))
noncomputable def o319 : Obj := (ob (.type b1) (.fields ⟨[(.str a39 582),(.str a39 583),(.str a45 584),(i 222),(i 2),(i 0),(i 0),(i 3),(.ref 301),(.bool .true),(i 181),(.ref 302),.none,.none,.none,(.ref 303),(i 585),(i 222),(.str a45 586)]⟩))
noncomputable def o320 : Obj := (fO (.type b17) a39 (G.top 42) (.str a95 530) (.ref 304))
noncomputable def o321 : Obj := (ob (.type b0) (.seq ⟨[]⟩ 0))
noncomputable def o322 : Obj := (ob .none (.fields ⟨[]⟩))
noncomputable def a104 : Str := ⟨⟨[114,111,119]⟩⟩
noncomputable def o323 : Obj := (ob (.type b0) (.seq ⟨[(.str a104 591)]⟩ 0))
noncomputable def o324 : Obj := (ob (.type b0) (.seq ⟨[]⟩ 0))
noncomputable def o325 : Obj := (cO a40 (G.top 43))
noncomputable def o326 : Obj := (ob (.type b1) (.fields ⟨[(.str a40 588),(.str a40 589),(.str a45 590),(i 228),(i 1),(i 0),(i 0),(i 3),(.ref 306),(.bool .true),(i 181),(.ref 307),.none,(.ref 308),(.ref 309),(.ref 310),(i 592),(i 228),(.str a45 593)]⟩))
noncomputable def o327 : Obj := (fO (.type b17) a40 (G.top 43) (.str a95 530) (.ref 311))
noncomputable def t9 (P : PySem.Params) : PySem.W.BT := (n (q0 P) (n (q1 P) (n (o247 P) (n (q7 P) (n o6 (n o25 (n o63 (n o136 (l o270) .nil) (l o204)) (n o104 (n o170 (l o302) .nil) (l o236))) (n o44 (n o85 (n o154 (l o286) .nil) (l o220)) (n o120 (n o186 (l o318) .nil) (l o254)))) (n (o14 P) (n o33 (n o74 (n o146 (l o278) .nil) (l o212)) (n (o112 P) (n o178 (l o310) .nil) (l o244))) (n o55 (n o93 (n o162 (l o294) .nil) (l o228)) (n o128 (n o194 (l o326) .nil) (l o262))))) (n o0 (n o10 (n o29 (n o70 (n o140 (l o274) .nil) (l o208)) (n o108 (n o174 (l o306) .nil) (l o240))) (n o48 (n o89 (n o158 (l o290) .nil) (l o224)) (n o124 (n o190 (l o322) .nil) (l o258)))) (n o18 (n o40 (n o78 (n o150 (l o282) .nil) (l o216)) (n o116 (n o182 (l o314) .nil) (l o250))) (n o59 (n o100 (n o166 (l o298) .nil) (l o232)) (n o132 (l o200) (l o266)))))) (n (q5 P) (n (q9 P) (n (o8 P) (n o27 (n o68 (n o138 (l o272) .nil) (l o206)) (n o106 (n o172 (l o304) .nil) (l o238))) (n o46 (n o87 (n o156 (l o288) .nil) (l o222)) (n o122 (n o188 (l o320) .nil) (l o256)))) (n o16 (n o38 (n o76 (n o148 (l o280) .nil) (l o214)) (n o114 (n o180 (l o312) .nil) (l o246))) (n o57 (n o98 (n o164 (l o296) .nil) (l o230)) (n o130 (l o196) (l o264))))) (n o2 (n o12 (n o31 (n o72 (n o144 (l o276) .nil) (l o210)) (n o110 (n o176 (l o308) .nil) (l o242))) (n o53 (n o91 (n o160 (l o292) .nil) (l o226)) (n o126 (n o192 (l o324) .nil) (l o260)))) (n o23 (n o42 (n o83 (n o152 (l o284) .nil) (l o218)) (n o118 (n o184 (l o316) .nil) (l o252))) (n o61 (n o102 (n o168 (l o300) .nil) (l o234)) (n o134 (l o202) (l o268))))))) (n (q2 P) (n (q4 P) (n (q8 P) (n o7 (n o26 (n o67 (n o137 (l o271) .nil) (l o205)) (n o105 (n o171 (l o303) .nil) (l o237))) (n (o45 P) (n o86 (n o155 (l o287) .nil) (l o221)) (n o121 (n o187 (l o319) .nil) (l o255)))) (n o96 (n o37 (n (o75 P) (n o147 (l o279) .nil) (l o213)) (n o113 (n o179 (l o311) .nil) (l o245))) (n o56 (n o97 (n o163 (l o295) .nil) (l o229)) (n o129 (n o195 (l o327) .nil) (l o263))))) (n o248 (n o11 (n (o30 P) (n o71 (n o141 (l o275) .nil) (l o209)) (n o109 (n o175 (l o307) .nil) (l o241))) (n o52 (n (o90 P) (n o159 (l o291) .nil) (l o225)) (n o125 (n o191 (l o323) .nil) (l o259)))) (n o22 (n o41 (n o82 (n o151 (l o283) .nil) (l o217)) (n o117 (n o183 (l o315) .nil) (l o251))) (n (o60 P) (n o101 (n o167 (l o299) .nil) (l o233)) (n o133 (l (o201 P)) (l o267)))))) (n (q6 P) (n (q10 P) (n o9 (n o28 (n (o69 P) (n o139 (l o273) .nil) (l o207)) (n o107 (n o173 (l o305) .nil) (l o239))) (n o47 (n o88 (n o157 (l o289) .nil) (l o223)) (n o123 (n o189 (l o321) .nil) (l o257)))) (n o17 (n (o39 P) (n o77 (n o149 (l o281) .nil) (l o215)) (n o115 (n o181 (l o313) .nil) (l o249))) (n o58 (n (o99 P) (n o165 (l o297) .nil) (l (o231 P))) (n o131 (l o199) (l o265))))) (n o3 (n o13 (n o32 (n o73 (n o145 (l o277) .nil) (l o211)) (n o111 (n o177 (l o309) .nil) (l o243))) (n (o54 P) (n o92 (n o161 (l o293) .nil) (l o227)) (n o127 (n o193 (l o325) .nil) (l o261)))) (n (o24 P) (n o43 (n (o84 P) (n o153 (l o285) .nil) (l o219)) (n o119 (n o185 (l o317) .nil) (l o253))) (n o62 (n o103 (n o169 (l o301) .nil) (l o235)) (n o135 (l o203) (l o269))))))))
theorem pz9 : ∀ w : PySem.World, (fun os : PySem.OsState => PySem.W.Fast.tw10110043849684766642 PySem.W.Fast.tw14364793385576792824 PySem.Challenge.pw_farhail_k61_whole_hunts_and_shelters_pla w 11 (some (.ref 6)) 1 380 (PySem.W.SharedT.mk (t8 w.params) 234 (.mk [] [] [] 0 [] [] .false ⟨[]⟩ [] 0 .false .false .false 0 [2000,10,10] .false 0 .true [] [] 0 .false) (Array.mk ([] : List PySem.GenState)) (.mk 0 0 0 0) 497 os) (PySem.W.piecesOf sts9 env code (.mk 140 0 141 61) B)) = fun os => some (PySem.Flow.next, (PySem.W.SharedT.mk (t9 w.params) 313 (.mk [] [] [] 0 [] [] .false ⟨[]⟩ [] 0 .false .false .false 0 [2000,10,10] .false 0 .true [] [] 0 .false) (Array.mk ([] : List PySem.GenState)) (.mk 0 0 0 0) 595 os), code, (.mk 228 0 229 17)) := fun w => by kernel_rfl
theorem p9 (w : PySem.World) (os : PySem.OsState) : PySem.W.segRun PySem.treeTable PySem.Challenge.pw_farhail_k61_whole_hunts_and_shelters_pla w 11 (some (.ref 6)) 1 380 (PySem.W.SharedT.mk (t8 w.params) 234 (.mk [] [] [] 0 [] [] .false ⟨[]⟩ [] 0 .false .false .false 0 [2000,10,10] .false 0 .true [] [] 0 .false) (Array.mk ([] : List PySem.GenState)) (.mk 0 0 0 0) 497 os).abs (PySem.W.piecesOf sts9 env code (.mk 140 0 141 61) B) = some (PySem.Flow.next, (PySem.W.SharedT.mk (t9 w.params) 313 (.mk [] [] [] 0 [] [] .false ⟨[]⟩ [] 0 .false .false .false 0 [2000,10,10] .false 0 .true [] [] 0 .false) (Array.mk ([] : List PySem.GenState)) (.mk 0 0 0 0) 595 os).abs, code, (.mk 228 0 229 17)) := PySem.W.segRun_of (by rw [PySem.W.Fast.te10110043849684766642, PySem.W.Fast.te14364793385576792824]; exact congrFun (pz9 w) os)
noncomputable def sts10 : List PySem.Stmt := [(.FunctionDef a41 (L2.defArgs (G.top 44)) (L2.defBody (G.top 44)) [] none [] (L2.defScope (G.top 44)) none a41 (.mk 230 0 241 18)), (.FunctionDef a42 (L2.defArgs (G.top 45)) (L2.defBody (G.top 45)) [] none [] (L2.defScope (G.top 45)) none a42 (.mk 242 0 258 15)), (.FunctionDef a43 (L2.defArgs (G.top 46)) (L2.defBody (G.top 46)) [] none [] (L2.defScope (G.top 46)) none a43 (.mk 259 0 271 15))]
noncomputable def c28 (P : PySem.Params) (t : List PySem.DictEntry) : List PySem.DictEntry := (en P a41 608 (.ref 319))::(en P a42 614 (.ref 324))::(en P a43 620 (.ref 329))::t
noncomputable def o328 (P : Params) : Obj := (ob (.type b3) (.dict ⟨(c21 P (c1 P (c9 P (c8 P (c20 P (c19 P (c28 P [])))))))⟩ 51))
noncomputable def c29 (t : List PySem.Value) : List PySem.Value := (i 0)::(.ref 323)::(i 259)::(i 0)::(.ref 328)::t
noncomputable def c30 (t : List PySem.Value) : List PySem.Value := (.ref 304)::(i 228)::(i 0)::(.ref 311)::(i 230)::(i 0)::(.ref 318)::(i 242)::t
noncomputable def o329 : Obj := (ob .none (.fields ⟨(c7 (c6 (c5 (c4 (c14 (c13 (c12 (c18 (c27 (c26 (c25 (c24 (c23 (c30 (c29 [])))))))))))))))⟩))
noncomputable def o330 : Obj := (ob (.type b0) (.seq ⟨[]⟩ 0))
noncomputable def o331 : Obj := (ob .none (.fields ⟨[]⟩))
noncomputable def a105 : Str := ⟨⟨[108,111,110,103,101,115,116]⟩⟩
noncomputable def a106 : Str := ⟨⟨[114,111,119,115]⟩⟩
noncomputable def a107 : Str := ⟨⟨[112,97,114,116]⟩⟩
noncomputable def o332 : Obj := (ob (.type b0) (.seq ⟨[(.str a75 598),(.str a80 599),(.str a92 600),(.str a105 601),(.str a89 602),(.str a87 603),(.str a106 604),(.str a107 605)]⟩ 0))
noncomputable def o333 : Obj := (ob (.type b0) (.seq ⟨[]⟩ 0))
noncomputable def o334 : Obj := (cO a41 (G.top 44))
noncomputable def o335 : Obj := (ob (.type b1) (.fields ⟨[(.str a41 595),(.str a41 596),(.str a45 597),(i 230),(i 2),(i 0),(i 0),(i 3),(.ref 313),(.bool .true),(i 181),(.ref 314),.none,(.ref 315),(.ref 316),(.ref 317),(i 606),(i 230),(.str a45 607)]⟩))
noncomputable def o336 : Obj := (fO (.type b17) a41 (G.top 44) (.str a95 530) (.ref 318))
noncomputable def o337 : Obj := (ob (.type b0) (.seq ⟨[]⟩ 0))
noncomputable def o338 : Obj := (ob .none (.fields ⟨[]⟩))
noncomputable def o339 : Obj := (cO a42 (G.top 45))
noncomputable def o340 : Obj := (ob (.type b1) (.fields ⟨[(.str a42 609),(.str a42 610),(.str a45 611),(i 242),(i 4),(i 0),(i 0),(i 3),(.ref 320),(.bool .true),(i 181),(.ref 321),.none,.none,.none,(.ref 322),(i 612),(i 242),(.str a45 613)]⟩))
noncomputable def o341 : Obj := (fO (.type b17) a42 (G.top 45) (.str a95 530) (.ref 323))
noncomputable def o342 : Obj := (ob (.type b0) (.seq ⟨[]⟩ 0))
noncomputable def o343 : Obj := (ob .none (.fields ⟨[]⟩))
noncomputable def o344 : Obj := (cO a43 (G.top 46))
noncomputable def o345 : Obj := (ob (.type b1) (.fields ⟨[(.str a43 615),(.str a43 616),(.str a45 617),(i 259),(i 1),(i 0),(i 0),(i 3),(.ref 325),(.bool .true),(i 181),(.ref 326),.none,.none,.none,(.ref 327),(i 618),(i 259),(.str a45 619)]⟩))
noncomputable def o346 : Obj := (fO (.type b17) a43 (G.top 46) (.str a95 530) (.ref 328))
noncomputable def t10 (P : PySem.Params) : PySem.W.BT := (n (q0 P) (n (q1 P) (n (o328 P) (n (q7 P) (n o6 (n o25 (n o63 (n o136 (l o270) .nil) (n o204 (l o336) .nil)) (n o104 (n o170 (l o302) .nil) (l o236))) (n o44 (n o85 (n o154 (l o286) .nil) (l o220)) (n o120 (n o186 (l o318) .nil) (l o254)))) (n (o14 P) (n o33 (n o74 (n o146 (l o278) .nil) (n o212 (l o344) .nil)) (n (o112 P) (n o178 (l o310) .nil) (l o244))) (n o55 (n o93 (n o162 (l o294) .nil) (l o228)) (n o128 (n o194 (l o326) .nil) (l o262))))) (n o0 (n o10 (n o29 (n o70 (n o140 (l o274) .nil) (n o208 (l o340) .nil)) (n o108 (n o174 (l o306) .nil) (l o240))) (n o48 (n o89 (n o158 (l o290) .nil) (l o224)) (n o124 (n o190 (l o322) .nil) (l o258)))) (n o18 (n o40 (n o78 (n o150 (l o282) .nil) (l o216)) (n o116 (n o182 (l o314) .nil) (l o250))) (n o59 (n o100 (n o166 (l o298) .nil) (l o232)) (n o132 (n o200 (l o332) .nil) (l o266)))))) (n (q5 P) (n (q9 P) (n (o8 P) (n o27 (n o68 (n o138 (l o272) .nil) (n o206 (l o338) .nil)) (n o106 (n o172 (l o304) .nil) (l o238))) (n o46 (n o87 (n o156 (l o288) .nil) (l o222)) (n o122 (n o188 (l o320) .nil) (l o256)))) (n o16 (n o38 (n o76 (n o148 (l o280) .nil) (n o214 (l o346) .nil)) (n o114 (n o180 (l o312) .nil) (l o246))) (n o57 (n o98 (n o164 (l o296) .nil) (l o230)) (n o130 (n o196 (l o330) .nil) (l o264))))) (n o2 (n o12 (n o31 (n o72 (n o144 (l o276) .nil) (n o210 (l o342) .nil)) (n o110 (n o176 (l o308) .nil) (l o242))) (n o53 (n o91 (n o160 (l o292) .nil) (l o226)) (n o126 (n o192 (l o324) .nil) (l o260)))) (n o23 (n o42 (n o83 (n o152 (l o284) .nil) (l o218)) (n o118 (n o184 (l o316) .nil) (l o252))) (n o61 (n o102 (n o168 (l o300) .nil) (l o234)) (n o134 (n o202 (l o334) .nil) (l o268))))))) (n (q2 P) (n (q4 P) (n (q8 P) (n o7 (n o26 (n o67 (n o137 (l o271) .nil) (n o205 (l o337) .nil)) (n o105 (n o171 (l o303) .nil) (l o237))) (n (o45 P) (n o86 (n o155 (l o287) .nil) (l o221)) (n o121 (n o187 (l o319) .nil) (l o255)))) (n o96 (n o37 (n (o75 P) (n o147 (l o279) .nil) (n o213 (l o345) .nil)) (n o113 (n o179 (l o311) .nil) (l o245))) (n o56 (n o97 (n o163 (l o295) .nil) (l o229)) (n o129 (n o195 (l o327) .nil) (l o263))))) (n o329 (n o11 (n (o30 P) (n o71 (n o141 (l o275) .nil) (n o209 (l o341) .nil)) (n o109 (n o175 (l o307) .nil) (l o241))) (n o52 (n (o90 P) (n o159 (l o291) .nil) (l o225)) (n o125 (n o191 (l o323) .nil) (l o259)))) (n o22 (n o41 (n o82 (n o151 (l o283) .nil) (l o217)) (n o117 (n o183 (l o315) .nil) (l o251))) (n (o60 P) (n o101 (n o167 (l o299) .nil) (l o233)) (n o133 (n (o201 P) (l o333) .nil) (l o267)))))) (n (q6 P) (n (q10 P) (n o9 (n o28 (n (o69 P) (n o139 (l o273) .nil) (n o207 (l o339) .nil)) (n o107 (n o173 (l o305) .nil) (l o239))) (n o47 (n o88 (n o157 (l o289) .nil) (l o223)) (n o123 (n o189 (l o321) .nil) (l o257)))) (n o17 (n (o39 P) (n o77 (n o149 (l o281) .nil) (l o215)) (n o115 (n o181 (l o313) .nil) (l o249))) (n o58 (n (o99 P) (n o165 (l o297) .nil) (l (o231 P))) (n o131 (n o199 (l o331) .nil) (l o265))))) (n o3 (n o13 (n o32 (n o73 (n o145 (l o277) .nil) (n o211 (l o343) .nil)) (n o111 (n o177 (l o309) .nil) (l o243))) (n (o54 P) (n o92 (n o161 (l o293) .nil) (l o227)) (n o127 (n o193 (l o325) .nil) (l o261)))) (n (o24 P) (n o43 (n (o84 P) (n o153 (l o285) .nil) (l o219)) (n o119 (n o185 (l o317) .nil) (l o253))) (n o62 (n o103 (n o169 (l o301) .nil) (l o235)) (n o135 (n o203 (l o335) .nil) (l o269))))))))
theorem pz10 : ∀ w : PySem.World, (fun os : PySem.OsState => PySem.W.Fast.tw10110043849684766642 PySem.W.Fast.tw14364793385576792824 PySem.Challenge.pw_farhail_k61_whole_hunts_and_shelters_pla w 11 (some (.ref 6)) 1 89 (PySem.W.SharedT.mk (t9 w.params) 313 (.mk [] [] [] 0 [] [] .false ⟨[]⟩ [] 0 .false .false .false 0 [2000,10,10] .false 0 .true [] [] 0 .false) (Array.mk ([] : List PySem.GenState)) (.mk 0 0 0 0) 595 os) (PySem.W.piecesOf sts10 env code (.mk 228 0 229 17) B)) = fun os => some (PySem.Flow.next, (PySem.W.SharedT.mk (t10 w.params) 330 (.mk [] [] [] 0 [] [] .false ⟨[]⟩ [] 0 .false .false .false 0 [2000,10,10] .false 0 .true [] [] 0 .false) (Array.mk ([] : List PySem.GenState)) (.mk 0 0 0 0) 621 os), code, (.mk 259 0 271 15)) := fun w => by kernel_rfl
theorem p10 (w : PySem.World) (os : PySem.OsState) : PySem.W.segRun PySem.treeTable PySem.Challenge.pw_farhail_k61_whole_hunts_and_shelters_pla w 11 (some (.ref 6)) 1 89 (PySem.W.SharedT.mk (t9 w.params) 313 (.mk [] [] [] 0 [] [] .false ⟨[]⟩ [] 0 .false .false .false 0 [2000,10,10] .false 0 .true [] [] 0 .false) (Array.mk ([] : List PySem.GenState)) (.mk 0 0 0 0) 595 os).abs (PySem.W.piecesOf sts10 env code (.mk 228 0 229 17) B) = some (PySem.Flow.next, (PySem.W.SharedT.mk (t10 w.params) 330 (.mk [] [] [] 0 [] [] .false ⟨[]⟩ [] 0 .false .false .false 0 [2000,10,10] .false 0 .true [] [] 0 .false) (Array.mk ([] : List PySem.GenState)) (.mk 0 0 0 0) 621 os).abs, code, (.mk 259 0 271 15)) := PySem.W.segRun_of (by rw [PySem.W.Fast.te10110043849684766642, PySem.W.Fast.te14364793385576792824]; exact congrFun (pz10 w) os)
noncomputable def hF (P : PySem.Params) : PySem.Heap := ⟨⟨[(q0 P), (q1 P), (q2 P), (o328 P), (q4 P), (q5 P), (q6 P), (q7 P), (q8 P), (q9 P), (q10 P), o0, o329, o2, o3, o6, o7, (o8 P), o9, o10, o11, o12, o13, (o14 P), o96, o16, o17, o18, o22, o23, (o24 P), o25, o26, o27, o28, o29, (o30 P), o31, o32, o33, o37, o38, (o39 P), o40, o41, o42, o43, o44, (o45 P), o46, o47, o48, o52, o53, (o54 P), o55, o56, o57, o58, o59, (o60 P), o61, o62, o63, o67, o68, (o69 P), o70, o71, o72, o73, o74, (o75 P), o76, o77, o78, o82, o83, (o84 P), o85, o86, o87, o88, o89, (o90 P), o91, o92, o93, o97, o98, (o99 P), o100, o101, o102, o103, o104, o105, o106, o107, o108, o109, o110, o111, (o112 P), o113, o114, o115, o116, o117, o118, o119, o120, o121, o122, o123, o124, o125, o126, o127, o128, o129, o130, o131, o132, o133, o134, o135, o136, o137, o138, o139, o140, o141, o144, o145, o146, o147, o148, o149, o150, o151, o152, o153, o154, o155, o156, o157, o158, o159, o160, o161, o162, o163, o164, o165, o166, o167, o168, o169, o170, o171, o172, o173, o174, o175, o176, o177, o178, o179, o180, o181, o182, o183, o184, o185, o186, o187, o188, o189, o190, o191, o192, o193, o194, o195, o196, o199, o200, (o201 P), o202, o203, o204, o205, o206, o207, o208, o209, o210, o211, o212, o213, o214, o215, o216, o217, o218, o219, o220, o221, o222, o223, o224, o225, o226, o227, o228, o229, o230, (o231 P), o232, o233, o234, o235, o236, o237, o238, o239, o240, o241, o242, o243, o244, o245, o246, o249, o250, o251, o252, o253, o254, o255, o256, o257, o258, o259, o260, o261, o262, o263, o264, o265, o266, o267, o268, o269, o270, o271, o272, o273, o274, o275, o276, o277, o278, o279, o280, o281, o282, o283, o284, o285, o286, o287, o288, o289, o290, o291, o292, o293, o294, o295, o296, o297, o298, o299, o300, o301, o302, o303, o304, o305, o306, o307, o308, o309, o310, o311, o312, o313, o314, o315, o316, o317, o318, o319, o320, o321, o322, o323, o324, o325, o326, o327, o330, o331, o332, o333, o334, o335, o336, o337, o338, o339, o340, o341, o342, o343, o344, o345, o346]⟩, (.mk [] [] [] 0 [] [] .false ⟨[]⟩ [] 0 .false .false .false 0 [2000,10,10] .false 0 .true [] [] 0 .false)⟩
theorem fin0 (w : PySem.World) : (fun os : PySem.OsState => PySem.W.Fast.tw14082659384304107361 PySem.W.Fast.tw14364793385576792824 PySem.Challenge.pw_farhail_k61_whole_hunts_and_shelters_pla w 11 (some (.ref 6)) 2 (PySem.W.SharedT.mk (t10 w.params) 330 (.mk [] [] [] 0 [] [] .false ⟨[]⟩ [] 0 .false .false .false 0 [2000,10,10] .false 0 .true [] [] 0 .false) (Array.mk ([] : List PySem.GenState)) (.mk 0 0 0 0) 621 os).abs (PySem.Thread.mk (PySem.W.doneF PySem.Flow.next) code (.mk 259 0 271 15) B)) = fun os => some (PySem.Shared.mk (hF w.params) (Array.mk ([] : List PySem.GenState)) (.mk 0 0 0 0) 621 os) := by kernel_rfl
theorem fin (w : PySem.World) (os : PySem.OsState) : PySem.W.topRun PySem.treeTable PySem.Challenge.pw_farhail_k61_whole_hunts_and_shelters_pla w 11 (some (.ref 6)) 2 (PySem.W.SharedT.mk (t10 w.params) 330 (.mk [] [] [] 0 [] [] .false ⟨[]⟩ [] 0 .false .false .false 0 [2000,10,10] .false 0 .true [] [] 0 .false) (Array.mk ([] : List PySem.GenState)) (.mk 0 0 0 0) 621 os).abs (PySem.W.restOf [] env code (.mk 259 0 271 15) B) = some (PySem.Shared.mk (hF w.params) (Array.mk ([] : List PySem.GenState)) (.mk 0 0 0 0) 621 os) := by rw [show PySem.W.restOf [] env code (.mk 259 0 271 15) B = (PySem.Thread.mk (PySem.W.doneF PySem.Flow.next) code (.mk 259 0 271 15) B) by kernel_rfl, PySem.W.Fast.te14082659384304107361, PySem.W.Fast.te14364793385576792824]; exact congrFun (fin0 w) os
theorem parts : PySem.W.behindTheImports PySem.Challenge.pw_farhail_k61_whole_hunts_and_shelters_pla = (sts0 ++ (sts1 ++ (sts2 ++ (sts3 ++ (sts4 ++ (sts5 ++ (sts6 ++ (sts7 ++ (sts8 ++ (sts9 ++ (sts10 ++ []))))))))))) := by kernel_rfl
noncomputable abbrev SF (w : PySem.World) (os : PySem.OsState) : PySem.Shared := (PySem.Shared.mk (hF w.params) (Array.mk ([] : List PySem.GenState)) (.mk 0 0 0 0) 621 os)
theorem with_parts {tb : String → Option PySem.Builtin} {p : PySem.Program} {w : PySem.World} {n₀ : Nat} {a : Option PySem.Value} {N : Nat} {s : PySem.Shared} {r : Option PySem.Shared} {b b' : List PySem.Stmt} {e : PySem.Env} {c : PySem.Code} {q : PySem.Pos} {F : List PySem.Frame} (h : b = b') (k : PySem.W.topRun tb p w n₀ a N s (PySem.W.restOf b' e c q F) = r) : PySem.W.topRun tb p w n₀ a N s (PySem.W.restOf b e c q F) = r := by rw [h]; exact k
theorem run (w : PySem.World) (os : PySem.OsState) : PySem.W.topRun PySem.treeTable PySem.Challenge.pw_farhail_k61_whole_hunts_and_shelters_pla w 11 (some (.ref 6)) (12 + (1 + (196 + (214 + (214 + (214 + (214 + (214 + (391 + (277 + (382 + (380 + (89 + 2))))))))))))) (PySem.Shared.mk (PySem.W.boot_heap w.params) (Array.mk ([] : List PySem.GenState)) PySem.W.boot_drawn PySem.W.boot_toks os) (PySem.W.topStub PySem.Challenge.pw_farhail_k61_whole_hunts_and_shelters_pla) = some (PySem.Shared.mk (hF w.params) (Array.mk ([] : List PySem.GenState)) (.mk 0 0 0 0) 621 os) := PySem.W.go_top (pre w os) (PySem.W.piece_block (block w os) (with_parts parts (PySem.W.piece_app (p0 w os) (PySem.W.piece_app (p1 w os) (PySem.W.piece_app (p2 w os) (PySem.W.piece_app (p3 w os) (PySem.W.piece_app (p4 w os) (PySem.W.piece_app (p5 w os) (PySem.W.piece_app (p6 w os) (PySem.W.piece_app (p7 w os) (PySem.W.piece_app (p8 w os) (PySem.W.piece_app (p9 w os) (PySem.W.piece_app (p10 w os) (fin w os))))))))))))))
theorem opens : ∀ w : PySem.World, (PySem.W.fencedOpening PySem.treeTable PySem.Challenge.pw_farhail_k61_whole_hunts_and_shelters_pla w 5674).map (fun s => (s.heap, s.gens, s.drawn, s.toks)) = some (PySem.W.boot_heap w.params, Array.mk [], PySem.W.boot_drawn, PySem.W.boot_toks) := PySem.W.boot_open (by kernel_rfl) (by kernel_rfl) (fun s => by kernel_rfl)
theorem size : ∀ w : PySem.World, ((PySem.W.boot_heap w.params).isNs PySem.mainGlobals && (Array.mk [] : Array PySem.GenState).size == 0, (PySem.W.boot_heap w.params).objs.size, (PySem.W.boot_heap w.params).nsMap PySem.mainGlobals "__annotations__") = (true, 11, (some (.ref 6))) := fun w => by kernel_rfl
noncomputable def K : PySem.Params → PySem.W.Frag := fun P => (nat_lit 2, (ob .none (.dict ⟨[]⟩ 0))) :: (nat_lit 3, (ob (.type "dict") (.dict ⟨[(.mk (PyData.keyHash P "__name__") (.str "__name__" 165) (.str "law_farhail_k61_whole_hunts_and_shelters_pla" 530)),(.mk (PyData.keyHash P "__doc__") (.str "__doc__" 166) .none),(.mk (PyData.keyHash P "__package__") (.str "__package__" 167) .none),(.mk (PyData.keyHash P "__loader__") (.str "__loader__" 168) (.builtin "__main__.__loader__#opaque")),(.mk (PyData.keyHash P "__spec__") (.str "__spec__" 169) .none),(.mk (PyData.keyHash P "__annotations__") (.str "__annotations__" 170) (.ref 6)),(.mk (PyData.keyHash P "__builtins__") (.str "__builtins__" 171) (.ref 4)),(.mk (PyData.keyHash P "__file__") (.str "__file__" 173) (.str "/claim/cut.py" 172)),(.mk (PyData.keyHash P "__cached__") (.str "__cached__" 174) .none),(.mk (PyData.keyHash P "HailError") (.str "HailError" 206) (.ref 24)),(.mk (PyData.keyHash P "NoWeb") (.str "NoWeb" 222) (.ref 37)),(.mk (PyData.keyHash P "NoPlace") (.str "NoPlace" 238) (.ref 49)),(.mk (PyData.keyHash P "NoThing") (.str "NoThing" 254) (.ref 61)),(.mk (PyData.keyHash P "NoLooks") (.str "NoLooks" 270) (.ref 73)),(.mk (PyData.keyHash P "TooMany") (.str "TooMany" 286) (.ref 85)),(.mk (PyData.keyHash P "Apart") (.str "Apart" 311) (.ref 104)),(.mk (PyData.keyHash P "MOST_PLACES_webs") (.str "MOST_PLACES_webs" 315) (.int 60 314)),(.mk (PyData.keyHash P "near_lists") (.str "near_lists" 321) (.ref 111)),(.mk (PyData.keyHash P "fars_by") (.str "fars_by" 333) (.ref 118)),(.mk (PyData.keyHash P "sorted_ties") (.str "sorted_ties" 345) (.ref 125)),(.mk (PyData.keyHash P "made_web") (.str "made_web" 356) (.ref 132)),(.mk (PyData.keyHash P "place_asked") (.str "place_asked" 364) (.ref 139)),(.mk (PyData.keyHash P "neighbours_of") (.str "neighbours_of" 372) (.ref 146)),(.mk (PyData.keyHash P "fars_from") (.str "fars_from" 380) (.ref 153)),(.mk (PyData.keyHash P "LEAST_PLACES") (.str "LEAST_PLACES" 384) (.int 2 383)),(.mk (PyData.keyHash P "MOST_PLACES_hunts") (.str "MOST_PLACES_hunts" 386) (.int 7 385)),(.mk (PyData.keyHash P "few_places") (.str "few_places" 393) (.ref 160)),(.mk (PyData.keyHash P "table_by") (.str "table_by" 399) (.ref 165)),(.mk (PyData.keyHash P "looks_of") (.str "looks_of" 405) (.ref 170)),(.mk (PyData.keyHash P "gone_on") (.str "gone_on" 411) (.ref 175)),(.mk (PyData.keyHash P "next_standings") (.str "next_standings" 417) (.ref 180)),(.mk (PyData.keyHash P "all_standings") (.str "all_standings" 423) (.ref 185)),(.mk (PyData.keyHash P "Hunting") (.str "Hunting" 482) (.ref 219)),(.mk (PyData.keyHash P "hunt_or_shelter") (.str "hunt_or_shelter" 488) (.ref 228)),(.mk (PyData.keyHash P "table_of") (.str "table_of" 496) (.ref 233)),(.mk (PyData.keyHash P "looks_asked") (.str "looks_asked" 506) (.ref 240)),(.mk (PyData.keyHash P "thing_asked") (.str "thing_asked" 514) (.ref 247)),(.mk (PyData.keyHash P "far_by") (.str "far_by" 523) (.ref 254)),(.mk (PyData.keyHash P "code_of") (.str "code_of" 529) (.ref 259)),(.mk (PyData.keyHash P "_law_cell_at") (.str "_law_cell_at" 540) (.ref 266)),(.mk (PyData.keyHash P "_law_folded") (.str "_law_folded" 546) (.ref 271)),(.mk (PyData.keyHash P "_law_state") (.str "_law_state" 554) (.ref 278)),(.mk (PyData.keyHash P "_law_next") (.str "_law_next" 563) (.ref 285)),(.mk (PyData.keyHash P "_law_web") (.str "_law_web" 569) (.ref 290)),(.mk (PyData.keyHash P "_law_moved") (.str "_law_moved" 575) (.ref 295)),(.mk (PyData.keyHash P "_law_parts") (.str "_law_parts" 581) (.ref 300)),(.mk (PyData.keyHash P "_law_row") (.str "_law_row" 587) (.ref 305)),(.mk (PyData.keyHash P "_law_by_turns") (.str "_law_by_turns" 594) (.ref 312)),(.mk (PyData.keyHash P "_law_hunted") (.str "_law_hunted" 608) (.ref 319)),(.mk (PyData.keyHash P "_law_hidden") (.str "_law_hidden" 614) (.ref 324)),(.mk (PyData.keyHash P "law") (.str "law" 620) (.ref 329))]⟩ 51))) :: (nat_lit 15, (ob (.type "tuple") (.seq ⟨[(.type "ValueError")]⟩ 0))) :: (nat_lit 22, (ob (.type "tuple") (.seq ⟨[]⟩ 0))) :: (nat_lit 23, (ob (.type "dict") (.dict ⟨[(.mk (PyData.keyHash P "__module__") (.str "__module__" 196) (.str "farhail.errors" 187)),(.mk (PyData.keyHash P "__firstlineno__") (.str "__firstlineno__" 200) (.int 2 199)),(.mk (PyData.keyHash P "__static_attributes__") (.str "__static_attributes__" 201) (.ref 22)),(.mk (PyData.keyHash P "__weakref__") (.str "__weakref__" 203) (.ref 25)),(.mk (PyData.keyHash P "__doc__") (.str "__doc__" 204) .none)]⟩ 3))) :: (nat_lit 24, (.mk (.type "type") none (.cls (.mk "HailError" [(.type "ValueError")] [(.ref 24),(.type "ValueError"),(.type "Exception"),(.type "BaseException"),(.type "object")] 23 "HailError" .true [] [(.ref 37),(.ref 49),(.ref 61),(.ref 73),(.ref 85),(.ref 104)] .false none .false)) ⟨[(some (.ref 15)),none,(some (.str "HailError" 189)),(some (.str "HailError" 197)),(some (.builtin "ValueError.__new__")),(some (.bool .true))]⟩)) :: (nat_lit 25, (ob (.type "getset_descriptor") (.fields ⟨[(.str "__weakref__" 202),(.ref 24),(.builtin "ExceptionGroup.__weakref__"),.none]⟩))) :: (nat_lit 28, (ob (.type "tuple") (.seq ⟨[(.ref 24)]⟩ 0))) :: (nat_lit 35, (ob (.type "tuple") (.seq ⟨[]⟩ 0))) :: (nat_lit 36, (ob (.type "dict") (.dict ⟨[(.mk (PyData.keyHash P "__module__") (.str "__module__" 214) (.str "farhail.errors" 187)),(.mk (PyData.keyHash P "__firstlineno__") (.str "__firstlineno__" 218) (.int 4 217)),(.mk (PyData.keyHash P "__static_attributes__") (.str "__static_attributes__" 219) (.ref 35)),(.mk (PyData.keyHash P "__doc__") (.str "__doc__" 220) .none)]⟩ 2))) :: (nat_lit 37, (.mk (.type "type") none (.cls (.mk "NoWeb" [(.ref 24)] [(.ref 37),(.ref 24),(.type "ValueError"),(.type "Exception"),(.type "BaseException"),(.type "object")] 36 "NoWeb" .true [] [] .false none .false)) ⟨[(some (.ref 28)),none,(some (.str "NoWeb" 207)),(some (.str "NoWeb" 215)),(some (.builtin "ValueError.__new__")),(some (.bool .true))]⟩)) :: (nat_lit 40, (ob (.type "tuple") (.seq ⟨[(.ref 24)]⟩ 0))) :: (nat_lit 47, (ob (.type "tuple") (.seq ⟨[]⟩ 0))) :: (nat_lit 48, (ob (.type "dict") (.dict ⟨[(.mk (PyData.keyHash P "__module__") (.str "__module__" 230) (.str "farhail.errors" 187)),(.mk (PyData.keyHash P "__firstlineno__") (.str "__firstlineno__" 234) (.int 6 233)),(.mk (PyData.keyHash P "__static_attributes__") (.str "__static_attributes__" 235) (.ref 47)),(.mk (PyData.keyHash P "__doc__") (.str "__doc__" 236) .none)]⟩ 2))) :: (nat_lit 49, (.mk (.type "type") none (.cls (.mk "NoPlace" [(.ref 24)] [(.ref 49),(.ref 24),(.type "ValueError"),(.type "Exception"),(.type "BaseException"),(.type "object")] 48 "NoPlace" .true [] [] .false none .false)) ⟨[(some (.ref 40)),none,(some (.str "NoPlace" 223)),(some (.str "NoPlace" 231)),(some (.builtin "ValueError.__new__")),(some (.bool .true))]⟩)) :: (nat_lit 52, (ob (.type "tuple") (.seq ⟨[(.ref 24)]⟩ 0))) :: (nat_lit 59, (ob (.type "tuple") (.seq ⟨[]⟩ 0))) :: (nat_lit 60, (ob (.type "dict") (.dict ⟨[(.mk (PyData.keyHash P "__module__") (.str "__module__" 246) (.str "farhail.errors" 187)),(.mk (PyData.keyHash P "__firstlineno__") (.str "__firstlineno__" 250) (.int 8 249)),(.mk (PyData.keyHash P "__static_attributes__") (.str "__static_attributes__" 251) (.ref 59)),(.mk (PyData.keyHash P "__doc__") (.str "__doc__" 252) .none)]⟩ 2))) :: (nat_lit 61, (.mk (.type "type") none (.cls (.mk "NoThing" [(.ref 24)] [(.ref 61),(.ref 24),(.type "ValueError"),(.type "Exception"),(.type "BaseException"),(.type "object")] 60 "NoThing" .true [] [] .false none .false)) ⟨[(some (.ref 52)),none,(some (.str "NoThing" 239)),(some (.str "NoThing" 247)),(some (.builtin "ValueError.__new__")),(some (.bool .true))]⟩)) :: (nat_lit 64, (ob (.type "tuple") (.seq ⟨[(.ref 24)]⟩ 0))) :: (nat_lit 71, (ob (.type "tuple") (.seq ⟨[]⟩ 0))) :: (nat_lit 72, (ob (.type "dict") (.dict ⟨[(.mk (PyData.keyHash P "__module__") (.str "__module__" 262) (.str "farhail.errors" 187)),(.mk (PyData.keyHash P "__firstlineno__") (.str "__firstlineno__" 266) (.int 10 265)),(.mk (PyData.keyHash P "__static_attributes__") (.str "__static_attributes__" 267) (.ref 71)),(.mk (PyData.keyHash P "__doc__") (.str "__doc__" 268) .none)]⟩ 2))) :: (nat_lit 73, (.mk (.type "type") none (.cls (.mk "NoLooks" [(.ref 24)] [(.ref 73),(.ref 24),(.type "ValueError"),(.type "Exception"),(.type "BaseException"),(.type "object")] 72 "NoLooks" .true [] [] .false none .false)) ⟨[(some (.ref 64)),none,(some (.str "NoLooks" 255)),(some (.str "NoLooks" 263)),(some (.builtin "ValueError.__new__")),(some (.bool .true))]⟩)) :: (nat_lit 76, (ob (.type "tuple") (.seq ⟨[(.ref 24)]⟩ 0))) :: (nat_lit 83, (ob (.type "tuple") (.seq ⟨[]⟩ 0))) :: (nat_lit 84, (ob (.type "dict") (.dict ⟨[(.mk (PyData.keyHash P "__module__") (.str "__module__" 278) (.str "farhail.errors" 187)),(.mk (PyData.keyHash P "__firstlineno__") (.str "__firstlineno__" 282) (.int 12 281)),(.mk (PyData.keyHash P "__static_attributes__") (.str "__static_attributes__" 283) (.ref 83)),(.mk (PyData.keyHash P "__doc__") (.str "__doc__" 284) .none)]⟩ 2))) :: (nat_lit 85, (.mk (.type "type") none (.cls (.mk "TooMany" [(.ref 24)] [(.ref 85),(.ref 24),(.type "ValueError"),(.type "Exception"),(.type "BaseException"),(.type "object")] 84 "TooMany" .true [] [] .false none .false)) ⟨[(some (.ref 76)),none,(some (.str "TooMany" 271)),(some (.str "TooMany" 279)),(some (.builtin "ValueError.__new__")),(some (.bool .true))]⟩)) :: (nat_lit 88, (ob (.type "tuple") (.seq ⟨[(.ref 24)]⟩ 0))) :: (nat_lit 95, (ob (.type "tuple") (.seq ⟨[]⟩ 0))) :: (nat_lit 97, (ob (.type "tuple") (.seq ⟨[(.str "self" 302),(.str "place" 303)]⟩ 0))) :: (nat_lit 98, (ob (.type "tuple") (.seq ⟨[]⟩ 0))) :: (nat_lit 100, (ob (.type "code") (.fields ⟨[(.str "__init__" 299),(.str "Apart.__init__" 300),(.str "/claim/cut.py" 301),(.int 16 0),(.int 2 0),(.int 0 0),(.int 0 0),(.int 3 0),(.ref 95),(.bool .true),(.int 181 0),(.ref 96),.none,(.ref 97),(.ref 98),(.ref 99),(.int 304 0),(.int 16 0),(.str "/claim/cut.py" 305)]⟩))) :: (nat_lit 101, (.mk (.type "function") none (.func (PySem.W.fnOf "__init__" "Apart.__init__" (L2.defArgs (L2.inClass (G.top 7) 0)) (L2.defBody (L2.inClass (G.top 7) 0)) (L2.defScope (L2.inClass (G.top 7) 0)) .none .none .none (.str "farhail.errors" 187) none (.ref 100) .none)) ⟨[]⟩)) :: (nat_lit 102, (ob (.type "tuple") (.seq ⟨[(.str "place" 307)]⟩ 0))) :: (nat_lit 103, (ob (.type "dict") (.dict ⟨[(.mk (PyData.keyHash P "__module__") (.str "__module__" 294) (.str "farhail.errors" 187)),(.mk (PyData.keyHash P "__firstlineno__") (.str "__firstlineno__" 298) (.int 14 297)),(.mk (PyData.keyHash P "__init__") (.str "__init__" 306) (.ref 101)),(.mk (PyData.keyHash P "__static_attributes__") (.str "__static_attributes__" 308) (.ref 102)),(.mk (PyData.keyHash P "__doc__") (.str "__doc__" 309) .none)]⟩ 2))) :: (nat_lit 104, (.mk (.type "type") none (.cls (.mk "Apart" [(.ref 24)] [(.ref 104),(.ref 24),(.type "ValueError"),(.type "Exception"),(.type "BaseException"),(.type "object")] 103 "Apart" .true [] [] .false none .false)) ⟨[(some (.ref 88)),none,(some (.str "Apart" 287)),(some (.str "Apart" 295)),(some (.builtin "ValueError.__new__")),(some (.bool .true))]⟩)) :: (nat_lit 107, (ob (.type "tuple") (.seq ⟨[]⟩ 0))) :: (nat_lit 110, (ob (.type "code") (.fields ⟨[(.str "near_lists" 316),(.str "near_lists" 317),(.str "/claim/cut.py" 318),(.int 21 0),(.int 1 0),(.int 0 0),(.int 0 0),(.int 3 0),(.ref 107),(.bool .true),(.int 181 0),(.ref 108),.none,.none,.none,(.ref 109),(.int 319 0),(.int 21 0),(.str "/claim/cut.py" 320)]⟩))) :: (nat_lit 111, (fO (.type "function") "near_lists" (G.top 10) (.str "farhail.webs" 312) (.ref 110))) :: (nat_lit 112, (ob (.type "tuple") (.seq ⟨[]⟩ 0))) :: (nat_lit 114, (ob (.type "tuple") (.seq ⟨[(.str "near" 325),(.str "place" 326),(.str "found" 327),(.str "line" 328),(.str "at" 329),(.str "other" 330)]⟩ 0))) :: (nat_lit 115, (ob (.type "tuple") (.seq ⟨[]⟩ 0))) :: (nat_lit 117, (ob (.type "code") (.fields ⟨[(.str "fars_by" 322),(.str "fars_by" 323),(.str "/claim/cut.py" 324),(.int 27 0),(.int 2 0),(.int 0 0),(.int 0 0),(.int 3 0),(.ref 112),(.bool .true),(.int 181 0),(.ref 113),.none,(.ref 114),(.ref 115),(.ref 116),(.int 331 0),(.int 27 0),(.str "/claim/cut.py" 332)]⟩))) :: (nat_lit 118, (fO (.type "function") "fars_by" (G.top 11) (.str "farhail.webs" 312) (.ref 117))) :: (nat_lit 119, (ob (.type "tuple") (.seq ⟨[]⟩ 0))) :: (nat_lit 121, (ob (.type "tuple") (.seq ⟨[(.str "many" 337),(.str "ties" 338),(.str "found" 339),(.str "one" 340),(.str "other" 341),(.str "tie" 342)]⟩ 0))) :: (nat_lit 122, (ob (.type "tuple") (.seq ⟨[]⟩ 0))) :: (nat_lit 124, (ob (.type "code") (.fields ⟨[(.str "sorted_ties" 334),(.str "sorted_ties" 335),(.str "/claim/cut.py" 336),(.int 39 0),(.int 2 0),(.int 0 0),(.int 0 0),(.int 3 0),(.ref 119),(.bool .true),(.int 181 0),(.ref 120),.none,(.ref 121),(.ref 122),(.ref 123),(.int 343 0),(.int 39 0),(.str "/claim/cut.py" 344)]⟩))) :: (nat_lit 125, (fO (.type "function") "sorted_ties" (G.top 12) (.str "farhail.webs" 312) (.ref 124))) :: (nat_lit 126, (ob (.type "tuple") (.seq ⟨[]⟩ 0))) :: (nat_lit 128, (ob (.type "tuple") (.seq ⟨[(.str "many" 349),(.str "ties" 350),(.str "web" 351),(.str "fars" 352),(.str "place" 353)]⟩ 0))) :: (nat_lit 129, (ob (.type "tuple") (.seq ⟨[]⟩ 0))) :: (nat_lit 131, (ob (.type "code") (.fields ⟨[(.str "made_web" 346),(.str "made_web" 347),(.str "/claim/cut.py" 348),(.int 47 0),(.int 2 0),(.int 0 0),(.int 0 0),(.int 3 0),(.ref 126),(.bool .true),(.int 181 0),(.ref 127),.none,(.ref 128),(.ref 129),(.ref 130),(.int 354 0),(.int 47 0),(.str "/claim/cut.py" 355)]⟩))) :: (nat_lit 132, (fO (.type "function") "made_web" (G.top 13) (.str "farhail.webs" 312) (.ref 131))) :: (nat_lit 133, (ob (.type "tuple") (.seq ⟨[]⟩ 0))) :: (nat_lit 135, (ob (.type "tuple") (.seq ⟨[(.str "web" 360),(.str "place" 361)]⟩ 0))) :: (nat_lit 136, (ob (.type "tuple") (.seq ⟨[]⟩ 0))) :: (nat_lit 138, (ob (.type "code") (.fields ⟨[(.str "place_asked" 357),(.str "place_asked" 358),(.str "/claim/cut.py" 359),(.int 56 0),(.int 2 0),(.int 0 0),(.int 0 0),(.int 3 0),(.ref 133),(.bool .true),(.int 181 0),(.ref 134),.none,(.ref 135),(.ref 136),(.ref 137),(.int 362 0),(.int 56 0),(.str "/claim/cut.py" 363)]⟩))) :: (nat_lit 139, (fO (.type "function") "place_asked" (G.top 14) (.str "farhail.webs" 312) (.ref 138))) :: (nat_lit 140, (ob (.type "tuple") (.seq ⟨[]⟩ 0))) :: (nat_lit 142, (ob (.type "tuple") (.seq ⟨[(.str "web" 368),(.str "place" 369)]⟩ 0))) :: (nat_lit 143, (ob (.type "tuple") (.seq ⟨[]⟩ 0))) :: (nat_lit 145, (ob (.type "code") (.fields ⟨[(.str "neighbours_of" 365),(.str "neighbours_of" 366),(.str "/claim/cut.py" 367),(.int 59 0),(.int 2 0),(.int 0 0),(.int 0 0),(.int 3 0),(.ref 140),(.bool .true),(.int 181 0),(.ref 141),.none,(.ref 142),(.ref 143),(.ref 144),(.int 370 0),(.int 59 0),(.str "/claim/cut.py" 371)]⟩))) :: (nat_lit 146, (fO (.type "function") "neighbours_of" (G.top 15) (.str "farhail.webs" 312) (.ref 145))) :: (nat_lit 147, (ob (.type "tuple") (.seq ⟨[]⟩ 0))) :: (nat_lit 149, (ob (.type "tuple") (.seq ⟨[(.str "web" 376),(.str "place" 377)]⟩ 0))) :: (nat_lit 150, (ob (.type "tuple") (.seq ⟨[]⟩ 0))) :: (nat_lit 152, (ob (.type "code") (.fields ⟨[(.str "fars_from" 373),(.str "fars_from" 374),(.str "/claim/cut.py" 375),(.int 62 0),(.int 2 0),(.int 0 0),(.int 0 0),(.int 3 0),(.ref 147),(.bool .true),(.int 181 0),(.ref 148),.none,(.ref 149),(.ref 150),(.ref 151),(.int 378 0),(.int 62 0),(.str "/claim/cut.py" 379)]⟩))) :: (nat_lit 153, (fO (.type "function") "fars_from" (G.top 16) (.str "farhail.webs" 312) (.ref 152))) :: (nat_lit 154, (ob (.type "tuple") (.seq ⟨[]⟩ 0))) :: (nat_lit 156, (ob (.type "tuple") (.seq ⟨[(.str "web" 390)]⟩ 0))) :: (nat_lit 157, (ob (.type "tuple") (.seq ⟨[]⟩ 0))) :: (nat_lit 159, (ob (.type "code") (.fields ⟨[(.str "few_places" 387),(.str "few_places" 388),(.str "/claim/cut.py" 389),(.int 68 0),(.int 1 0),(.int 0 0),(.int 0 0),(.int 3 0),(.ref 154),(.bool .true),(.int 181 0),(.ref 155),.none,(.ref 156),(.ref 157),(.ref 158),(.int 391 0),(.int 68 0),(.str "/claim/cut.py" 392)]⟩))) :: (nat_lit 160, (fO (.type "function") "few_places" (G.top 20) (.str "farhail.hunts" 381) (.ref 159))) :: (nat_lit 161, (ob (.type "tuple") (.seq ⟨[]⟩ 0))) :: (nat_lit 164, (ob (.type "code") (.fields ⟨[(.str "table_by" 394),(.str "table_by" 395),(.str "/claim/cut.py" 396),(.int 71 0),(.int 1 0),(.int 0 0),(.int 0 0),(.int 3 0),(.ref 161),(.bool .true),(.int 181 0),(.ref 162),.none,.none,.none,(.ref 163),(.int 397 0),(.int 71 0),(.str "/claim/cut.py" 398)]⟩))) :: (nat_lit 165, (fO (.type "function") "table_by" (G.top 21) (.str "farhail.hunts" 381) (.ref 164))) :: (nat_lit 166, (ob (.type "tuple") (.seq ⟨[]⟩ 0))) :: (nat_lit 169, (ob (.type "code") (.fields ⟨[(.str "looks_of" 400),(.str "looks_of" 401),(.str "/claim/cut.py" 402),(.int 73 0),(.int 2 0),(.int 0 0),(.int 0 0),(.int 3 0),(.ref 166),(.bool .true),(.int 181 0),(.ref 167),.none,.none,.none,(.ref 168),(.int 403 0),(.int 73 0),(.str "/claim/cut.py" 404)]⟩))) :: (nat_lit 170, (fO (.type "function") "looks_of" (G.top 22) (.str "farhail.hunts" 381) (.ref 169))) :: (nat_lit 171, (ob (.type "tuple") (.seq ⟨[]⟩ 0))) :: (nat_lit 174, (ob (.type "code") (.fields ⟨[(.str "gone_on" 406),(.str "gone_on" 407),(.str "/claim/cut.py" 408),(.int 78 0),(.int 2 0),(.int 0 0),(.int 0 0),(.int 3 0),(.ref 171),(.bool .true),(.int 181 0),(.ref 172),.none,.none,.none,(.ref 173),(.int 409 0),(.int 78 0),(.str "/claim/cut.py" 410)]⟩))) :: (nat_lit 175, (fO (.type "function") "gone_on" (G.top 23) (.str "farhail.hunts" 381) (.ref 174))) :: (nat_lit 176, (ob (.type "tuple") (.seq ⟨[]⟩ 0))) :: (nat_lit 179, (ob (.type "code") (.fields ⟨[(.str "next_standings" 412),(.str "next_standings" 413),(.str "/claim/cut.py" 414),(.int 80 0),(.int 3 0),(.int 0 0),(.int 0 0),(.int 3 0),(.ref 176),(.bool .true),(.int 181 0),(.ref 177),.none,.none,.none,(.ref 178),(.int 415 0),(.int 80 0),(.str "/claim/cut.py" 416)]⟩))) :: (nat_lit 180, (fO (.type "function") "next_standings" (G.top 24) (.str "farhail.hunts" 381) (.ref 179))) :: (nat_lit 181, (ob (.type "tuple") (.seq ⟨[]⟩ 0))) :: (nat_lit 184, (ob (.type "code") (.fields ⟨[(.str "all_standings" 418),(.str "all_standings" 419),(.str "/claim/cut.py" 420),(.int 85 0),(.int 1 0),(.int 0 0),(.int 0 0),(.int 3 0),(.ref 181),(.bool .true),(.int 181 0),(.ref 182),.none,.none,.none,(.ref 183),(.int 421 0),(.int 85 0),(.str "/claim/cut.py" 422)]⟩))) :: (nat_lit 185, (fO (.type "function") "all_standings" (G.top 25) (.str "farhail.hunts" 381) (.ref 184))) :: (nat_lit 193, (ob (.type "tuple") (.seq ⟨[]⟩ 0))) :: (nat_lit 196, (ob (.type "code") (.fields ⟨[(.str "__init__" 436),(.str "Hunting.__init__" 437),(.str "/claim/cut.py" 438),(.int 92 0),(.int 3 0),(.int 0 0),(.int 0 0),(.int 3 0),(.ref 193),(.bool .true),(.int 181 0),(.ref 194),.none,.none,.none,(.ref 195),(.int 439 0),(.int 92 0),(.str "/claim/cut.py" 440)]⟩))) :: (nat_lit 197, (.mk (.type "function") none (.func (PySem.W.fnOf "__init__" "Hunting.__init__" (L2.defArgs (L2.inClass (G.top 26) 0)) (L2.defBody (L2.inClass (G.top 26) 0)) (L2.defScope (L2.inClass (G.top 26) 0)) .none .none .none (.str "farhail.hunts" 381) none (.ref 196) .none)) ⟨[]⟩)) :: (nat_lit 198, (ob (.type "tuple") (.seq ⟨[]⟩ 0))) :: (nat_lit 201, (ob (.type "code") (.fields ⟨[(.str "found_by" 442),(.str "Hunting.found_by" 443),(.str "/claim/cut.py" 444),(.int 101 0),(.int 2 0),(.int 0 0),(.int 0 0),(.int 3 0),(.ref 198),(.bool .true),(.int 181 0),(.ref 199),.none,.none,.none,(.ref 200),(.int 445 0),(.int 101 0),(.str "/claim/cut.py" 446)]⟩))) :: (nat_lit 202, (.mk (.type "function") none (.func (PySem.W.fnOf "found_by" "Hunting.found_by" (L2.defArgs (L2.inClass (G.top 26) 1)) (L2.defBody (L2.inClass (G.top 26) 1)) (L2.defScope (L2.inClass (G.top 26) 1)) .none .none .none (.str "farhail.hunts" 381) none (.ref 201) .none)) ⟨[]⟩)) :: (nat_lit 203, (ob (.type "tuple") (.seq ⟨[]⟩ 0))) :: (nat_lit 205, (ob (.type "tuple") (.seq ⟨[(.str "self" 451),(.str "turn" 452),(.str "fresh" 453),(.str "standing" 454),(.str "looks" 455)]⟩ 0))) :: (nat_lit 206, (ob (.type "tuple") (.seq ⟨[]⟩ 0))) :: (nat_lit 208, (ob (.type "code") (.fields ⟨[(.str "fill" 448),(.str "Hunting.fill" 449),(.str "/claim/cut.py" 450),(.int 107 0),(.int 1 0),(.int 0 0),(.int 0 0),(.int 3 0),(.ref 203),(.bool .true),(.int 181 0),(.ref 204),.none,(.ref 205),(.ref 206),(.ref 207),(.int 456 0),(.int 107 0),(.str "/claim/cut.py" 457)]⟩))) :: (nat_lit 209, (.mk (.type "function") none (.func (PySem.W.fnOf "fill" "Hunting.fill" (L2.defArgs (L2.inClass (G.top 26) 2)) (L2.defBody (L2.inClass (G.top 26) 2)) (L2.defScope (L2.inClass (G.top 26) 2)) .none .none .none (.str "farhail.hunts" 381) none (.ref 208) .none)) ⟨[]⟩)) :: (nat_lit 210, (ob (.type "tuple") (.seq ⟨[]⟩ 0))) :: (nat_lit 212, (ob (.type "tuple") (.seq ⟨[(.str "self" 462),(.str "start" 463),(.str "found" 464),(.str "waiting" 465),(.str "standing" 466),(.str "looks" 467)]⟩ 0))) :: (nat_lit 213, (ob (.type "tuple") (.seq ⟨[]⟩ 0))) :: (nat_lit 215, (ob (.type "code") (.fields ⟨[(.str "hunt" 459),(.str "Hunting.hunt" 460),(.str "/claim/cut.py" 461),(.int 122 0),(.int 2 0),(.int 0 0),(.int 0 0),(.int 3 0),(.ref 210),(.bool .true),(.int 181 0),(.ref 211),.none,(.ref 212),(.ref 213),(.ref 214),(.int 468 0),(.int 122 0),(.str "/claim/cut.py" 469)]⟩))) :: (nat_lit 216, (.mk (.type "function") none (.func (PySem.W.fnOf "hunt" "Hunting.hunt" (L2.defArgs (L2.inClass (G.top 26) 3)) (L2.defBody (L2.inClass (G.top 26) 3)) (L2.defScope (L2.inClass (G.top 26) 3)) .none .none .none (.str "farhail.hunts" 381) none (.ref 215) .none)) ⟨[]⟩)) :: (nat_lit 217, (ob (.type "tuple") (.seq ⟨[(.str "fars" 471),(.str "looks" 472),(.str "turns" 473),(.str "ways" 474)]⟩ 0))) :: (nat_lit 218, (ob (.type "dict") (.dict ⟨[(.mk (PyData.keyHash P "__module__") (.str "__module__" 431) (.str "farhail.hunts" 381)),(.mk (PyData.keyHash P "__firstlineno__") (.str "__firstlineno__" 435) (.int 90 434)),(.mk (PyData.keyHash P "__init__") (.str "__init__" 441) (.ref 197)),(.mk (PyData.keyHash P "found_by") (.str "found_by" 447) (.ref 202)),(.mk (PyData.keyHash P "fill") (.str "fill" 458) (.ref 209)),(.mk (PyData.keyHash P "hunt") (.str "hunt" 470) (.ref 216)),(.mk (PyData.keyHash P "__static_attributes__") (.str "__static_attributes__" 475) (.ref 217)),(.mk (PyData.keyHash P "__dict__") (.str "__dict__" 477) (.ref 220)),(.mk (PyData.keyHash P "__weakref__") (.str "__weakref__" 479) (.ref 221)),(.mk (PyData.keyHash P "__doc__") (.str "__doc__" 480) .none)]⟩ 4))) :: (nat_lit 219, (.mk (.type "type") none (.cls (.mk "Hunting" [(.type "object")] [(.ref 219),(.type "object")] 218 "Hunting" .true [] [] .false none .false)) ⟨[none,none,(some (.str "Hunting" 424)),(some (.str "Hunting" 432)),(some (.builtin "object.__new__")),(some (.bool .true))]⟩)) :: (nat_lit 220, (ob (.type "getset_descriptor") (.fields ⟨[(.str "__dict__" 476),(.ref 219),(.builtin "function.__dict__"),(.builtin "function.__dict__#set")]⟩))) :: (nat_lit 221, (ob (.type "getset_descriptor") (.fields ⟨[(.str "__weakref__" 478),(.ref 219),(.builtin "ExceptionGroup.__weakref__"),.none]⟩))) :: (nat_lit 224, (ob (.type "tuple") (.seq ⟨[]⟩ 0))) :: (nat_lit 227, (ob (.type "code") (.fields ⟨[(.str "hunt_or_shelter" 483),(.str "hunt_or_shelter" 484),(.str "/claim/cut.py" 485),(.int 132 0),(.int 2 0),(.int 0 0),(.int 0 0),(.int 3 0),(.ref 224),(.bool .true),(.int 181 0),(.ref 225),.none,.none,.none,(.ref 226),(.int 486 0),(.int 132 0),(.str "/claim/cut.py" 487)]⟩))) :: (nat_lit 228, (fO (.type "function") "hunt_or_shelter" (G.top 27) (.str "farhail.hunts" 381) (.ref 227))) :: (nat_lit 229, (ob (.type "tuple") (.seq ⟨[]⟩ 0))) :: (nat_lit 232, (ob (.type "code") (.fields ⟨[(.str "table_of" 491),(.str "table_of" 492),(.str "/claim/cut.py" 493),(.int 140 0),(.int 1 0),(.int 0 0),(.int 0 0),(.int 3 0),(.ref 229),(.bool .true),(.int 181 0),(.ref 230),.none,.none,.none,(.ref 231),(.int 494 0),(.int 140 0),(.str "/claim/cut.py" 495)]⟩))) :: (nat_lit 233, (fO (.type "function") "table_of" (G.top 29) (.str "farhail.codes" 489) (.ref 232))) :: (nat_lit 234, (ob (.type "tuple") (.seq ⟨[]⟩ 0))) :: (nat_lit 236, (ob (.type "tuple") (.seq ⟨[(.str "web" 500),(.str "looks" 501),(.str "at" 502),(.str "look" 503)]⟩ 0))) :: (nat_lit 237, (ob (.type "tuple") (.seq ⟨[]⟩ 0))) :: (nat_lit 239, (ob (.type "code") (.fields ⟨[(.str "looks_asked" 497),(.str "looks_asked" 498),(.str "/claim/cut.py" 499),(.int 142 0),(.int 2 0),(.int 0 0),(.int 0 0),(.int 3 0),(.ref 234),(.bool .true),(.int 181 0),(.ref 235),.none,(.ref 236),(.ref 237),(.ref 238),(.int 504 0),(.int 142 0),(.str "/claim/cut.py" 505)]⟩))) :: (nat_lit 240, (fO (.type "function") "looks_asked" (G.top 30) (.str "farhail.codes" 489) (.ref 239))) :: (nat_lit 241, (ob (.type "tuple") (.seq ⟨[]⟩ 0))) :: (nat_lit 243, (ob (.type "tuple") (.seq ⟨[(.str "web" 510),(.str "thing" 511)]⟩ 0))) :: (nat_lit 244, (ob (.type "tuple") (.seq ⟨[]⟩ 0))) :: (nat_lit 246, (ob (.type "code") (.fields ⟨[(.str "thing_asked" 507),(.str "thing_asked" 508),(.str "/claim/cut.py" 509),(.int 146 0),(.int 2 0),(.int 0 0),(.int 0 0),(.int 3 0),(.ref 241),(.bool .true),(.int 181 0),(.ref 242),.none,(.ref 243),(.ref 244),(.ref 245),(.int 512 0),(.int 146 0),(.str "/claim/cut.py" 513)]⟩))) :: (nat_lit 247, (fO (.type "function") "thing_asked" (G.top 31) (.str "farhail.codes" 489) (.ref 246))) :: (nat_lit 248, (ob (.type "tuple") (.seq ⟨[]⟩ 0))) :: (nat_lit 250, (ob (.type "tuple") (.seq ⟨[(.str "table" 518),(.str "look" 519),(.str "thing" 520)]⟩ 0))) :: (nat_lit 251, (ob (.type "tuple") (.seq ⟨[]⟩ 0))) :: (nat_lit 253, (ob (.type "code") (.fields ⟨[(.str "far_by" 515),(.str "far_by" 516),(.str "/claim/cut.py" 517),(.int 152 0),(.int 3 0),(.int 0 0),(.int 0 0),(.int 3 0),(.ref 248),(.bool .true),(.int 181 0),(.ref 249),.none,(.ref 250),(.ref 251),(.ref 252),(.int 521 0),(.int 152 0),(.str "/claim/cut.py" 522)]⟩))) :: (nat_lit 254, (fO (.type "function") "far_by" (G.top 32) (.str "farhail.codes" 489) (.ref 253))) :: (nat_lit 255, (ob (.type "tuple") (.seq ⟨[]⟩ 0))) :: (nat_lit 258, (ob (.type "code") (.fields ⟨[(.str "code_of" 524),(.str "code_of" 525),(.str "/claim/cut.py" 526),(.int 156 0),(.int 3 0),(.int 0 0),(.int 0 0),(.int 3 0),(.ref 255),(.bool .true),(.int 181 0),(.ref 256),.none,.none,.none,(.ref 257),(.int 527 0),(.int 156 0),(.str "/claim/cut.py" 528)]⟩))) :: (nat_lit 259, (fO (.type "function") "code_of" (G.top 33) (.str "farhail.codes" 489) (.ref 258))) :: (nat_lit 260, (ob (.type "tuple") (.seq ⟨[]⟩ 0))) :: (nat_lit 262, (ob (.type "tuple") (.seq ⟨[(.str "script" 535),(.str "k" 536),(.str "cell" 537)]⟩ 0))) :: (nat_lit 263, (ob (.type "tuple") (.seq ⟨[]⟩ 0))) :: (nat_lit 265, (ob (.type "code") (.fields ⟨[(.str "_law_cell_at" 532),(.str "_law_cell_at" 533),(.str "/claim/cut.py" 534),(.int 162 0),(.int 2 0),(.int 0 0),(.int 0 0),(.int 3 0),(.ref 260),(.bool .true),(.int 181 0),(.ref 261),.none,(.ref 262),(.ref 263),(.ref 264),(.int 538 0),(.int 162 0),(.str "/claim/cut.py" 539)]⟩))) :: (nat_lit 266, (fO (.type "function") "_law_cell_at" (G.top 35) (.str "law_farhail_k61_whole_hunts_and_shelters_pla" 530) (.ref 265))) :: (nat_lit 267, (ob (.type "tuple") (.seq ⟨[]⟩ 0))) :: (nat_lit 270, (ob (.type "code") (.fields ⟨[(.str "_law_folded" 541),(.str "_law_folded" 542),(.str "/claim/cut.py" 543),(.int 169 0),(.int 2 0),(.int 0 0),(.int 0 0),(.int 3 0),(.ref 267),(.bool .true),(.int 181 0),(.ref 268),.none,.none,.none,(.ref 269),(.int 544 0),(.int 169 0),(.str "/claim/cut.py" 545)]⟩))) :: (nat_lit 271, (fO (.type "function") "_law_folded" (G.top 36) (.str "law_farhail_k61_whole_hunts_and_shelters_pla" 530) (.ref 270))) :: (nat_lit 272, (ob (.type "tuple") (.seq ⟨[]⟩ 0))) :: (nat_lit 274, (ob (.type "tuple") (.seq ⟨[(.str "cell" 550),(.str "left" 551)]⟩ 0))) :: (nat_lit 275, (ob (.type "tuple") (.seq ⟨[]⟩ 0))) :: (nat_lit 277, (ob (.type "code") (.fields ⟨[(.str "_law_state" 547),(.str "_law_state" 548),(.str "/claim/cut.py" 549),(.int 175 0),(.int 1 0),(.int 0 0),(.int 0 0),(.int 3 0),(.ref 272),(.bool .true),(.int 181 0),(.ref 273),.none,(.ref 274),(.ref 275),(.ref 276),(.int 552 0),(.int 175 0),(.str "/claim/cut.py" 553)]⟩))) :: (nat_lit 278, (fO (.type "function") "_law_state" (G.top 37) (.str "law_farhail_k61_whole_hunts_and_shelters_pla" 530) (.ref 277))) :: (nat_lit 279, (ob (.type "tuple") (.seq ⟨[]⟩ 0))) :: (nat_lit 281, (ob (.type "tuple") (.seq ⟨[(.str "state" 558),(.str "many" 559),(.str "found" 560)]⟩ 0))) :: (nat_lit 282, (ob (.type "tuple") (.seq ⟨[]⟩ 0))) :: (nat_lit 284, (ob (.type "code") (.fields ⟨[(.str "_law_next" 555),(.str "_law_next" 556),(.str "/claim/cut.py" 557),(.int 180 0),(.int 2 0),(.int 0 0),(.int 0 0),(.int 3 0),(.ref 279),(.bool .true),(.int 181 0),(.ref 280),.none,(.ref 281),(.ref 282),(.ref 283),(.int 561 0),(.int 180 0),(.str "/claim/cut.py" 562)]⟩))) :: (nat_lit 285, (fO (.type "function") "_law_next" (G.top 38) (.str "law_farhail_k61_whole_hunts_and_shelters_pla" 530) (.ref 284))) :: (nat_lit 286, (ob (.type "tuple") (.seq ⟨[]⟩ 0))) :: (nat_lit 289, (ob (.type "code") (.fields ⟨[(.str "_law_web" 564),(.str "_law_web" 565),(.str "/claim/cut.py" 566),(.int 187 0),(.int 3 0),(.int 0 0),(.int 0 0),(.int 3 0),(.ref 286),(.bool .true),(.int 181 0),(.ref 287),.none,.none,.none,(.ref 288),(.int 567 0),(.int 187 0),(.str "/claim/cut.py" 568)]⟩))) :: (nat_lit 290, (fO (.type "function") "_law_web" (G.top 39) (.str "law_farhail_k61_whole_hunts_and_shelters_pla" 530) (.ref 289))) :: (nat_lit 291, (ob (.type "tuple") (.seq ⟨[]⟩ 0))) :: (nat_lit 294, (ob (.type "code") (.fields ⟨[(.str "_law_moved" 570),(.str "_law_moved" 571),(.str "/claim/cut.py" 572),(.int 211 0),(.int 2 0),(.int 0 0),(.int 0 0),(.int 3 0),(.ref 291),(.bool .true),(.int 181 0),(.ref 292),.none,.none,.none,(.ref 293),(.int 573 0),(.int 211 0),(.str "/claim/cut.py" 574)]⟩))) :: (nat_lit 295, (fO (.type "function") "_law_moved" (G.top 40) (.str "law_farhail_k61_whole_hunts_and_shelters_pla" 530) (.ref 294))) :: (nat_lit 296, (ob (.type "tuple") (.seq ⟨[]⟩ 0))) :: (nat_lit 299, (ob (.type "code") (.fields ⟨[(.str "_law_parts" 576),(.str "_law_parts" 577),(.str "/claim/cut.py" 578),(.int 216 0),(.int 3 0),(.int 0 0),(.int 0 0),(.int 3 0),(.ref 296),(.bool .true),(.int 181 0),(.ref 297),.none,.none,.none,(.ref 298),(.int 579 0),(.int 216 0),(.str "/claim/cut.py" 580)]⟩))) :: (nat_lit 300, (fO (.type "function") "_law_parts" (G.top 41) (.str "law_farhail_k61_whole_hunts_and_shelters_pla" 530) (.ref 299))) :: (nat_lit 301, (ob (.type "tuple") (.seq ⟨[]⟩ 0))) :: (nat_lit 304, (ob (.type "code") (.fields ⟨[(.str "_law_row" 582),(.str "_law_row" 583),(.str "/claim/cut.py" 584),(.int 222 0),(.int 2 0),(.int 0 0),(.int 0 0),(.int 3 0),(.ref 301),(.bool .true),(.int 181 0),(.ref 302),.none,.none,.none,(.ref 303),(.int 585 0),(.int 222 0),(.str "/claim/cut.py" 586)]⟩))) :: (nat_lit 305, (fO (.type "function") "_law_row" (G.top 42) (.str "law_farhail_k61_whole_hunts_and_shelters_pla" 530) (.ref 304))) :: (nat_lit 306, (ob (.type "tuple") (.seq ⟨[]⟩ 0))) :: (nat_lit 308, (ob (.type "tuple") (.seq ⟨[(.str "row" 591)]⟩ 0))) :: (nat_lit 309, (ob (.type "tuple") (.seq ⟨[]⟩ 0))) :: (nat_lit 311, (ob (.type "code") (.fields ⟨[(.str "_law_by_turns" 588),(.str "_law_by_turns" 589),(.str "/claim/cut.py" 590),(.int 228 0),(.int 1 0),(.int 0 0),(.int 0 0),(.int 3 0),(.ref 306),(.bool .true),(.int 181 0),(.ref 307),.none,(.ref 308),(.ref 309),(.ref 310),(.int 592 0),(.int 228 0),(.str "/claim/cut.py" 593)]⟩))) :: (nat_lit 312, (fO (.type "function") "_law_by_turns" (G.top 43) (.str "law_farhail_k61_whole_hunts_and_shelters_pla" 530) (.ref 311))) :: (nat_lit 313, (ob (.type "tuple") (.seq ⟨[]⟩ 0))) :: (nat_lit 315, (ob (.type "tuple") (.seq ⟨[(.str "web" 598),(.str "hunt" 599),(.str "waiting" 600),(.str "longest" 601),(.str "standing" 602),(.str "turn" 603),(.str "rows" 604),(.str "part" 605)]⟩ 0))) :: (nat_lit 316, (ob (.type "tuple") (.seq ⟨[]⟩ 0))) :: (nat_lit 318, (ob (.type "code") (.fields ⟨[(.str "_law_hunted" 595),(.str "_law_hunted" 596),(.str "/claim/cut.py" 597),(.int 230 0),(.int 2 0),(.int 0 0),(.int 0 0),(.int 3 0),(.ref 313),(.bool .true),(.int 181 0),(.ref 314),.none,(.ref 315),(.ref 316),(.ref 317),(.int 606 0),(.int 230 0),(.str "/claim/cut.py" 607)]⟩))) :: (nat_lit 319, (fO (.type "function") "_law_hunted" (G.top 44) (.str "law_farhail_k61_whole_hunts_and_shelters_pla" 530) (.ref 318))) :: (nat_lit 320, (ob (.type "tuple") (.seq ⟨[]⟩ 0))) :: (nat_lit 323, (ob (.type "code") (.fields ⟨[(.str "_law_hidden" 609),(.str "_law_hidden" 610),(.str "/claim/cut.py" 611),(.int 242 0),(.int 4 0),(.int 0 0),(.int 0 0),(.int 3 0),(.ref 320),(.bool .true),(.int 181 0),(.ref 321),.none,.none,.none,(.ref 322),(.int 612 0),(.int 242 0),(.str "/claim/cut.py" 613)]⟩))) :: (nat_lit 324, (fO (.type "function") "_law_hidden" (G.top 45) (.str "law_farhail_k61_whole_hunts_and_shelters_pla" 530) (.ref 323))) :: (nat_lit 325, (ob (.type "tuple") (.seq ⟨[]⟩ 0))) :: (nat_lit 328, (ob (.type "code") (.fields ⟨[(.str "law" 615),(.str "law" 616),(.str "/claim/cut.py" 617),(.int 259 0),(.int 1 0),(.int 0 0),(.int 0 0),(.int 3 0),(.ref 325),(.bool .true),(.int 181 0),(.ref 326),.none,.none,.none,(.ref 327),(.int 618 0),(.int 259 0),(.str "/claim/cut.py" 619)]⟩))) :: (nat_lit 329, (fO (.type "function") "law" (G.top 46) (.str "law_farhail_k61_whole_hunts_and_shelters_pla" 530) (.ref 328))) :: []
noncomputable abbrev as : List PySem.Addr := nat_lit 2 :: nat_lit 3 :: nat_lit 15 :: nat_lit 22 :: nat_lit 23 :: nat_lit 24 :: nat_lit 25 :: nat_lit 28 :: nat_lit 35 :: nat_lit 36 :: nat_lit 37 :: nat_lit 40 :: nat_lit 47 :: nat_lit 48 :: nat_lit 49 :: nat_lit 52 :: nat_lit 59 :: nat_lit 60 :: nat_lit 61 :: nat_lit 64 :: nat_lit 71 :: nat_lit 72 :: nat_lit 73 :: nat_lit 76 :: nat_lit 83 :: nat_lit 84 :: nat_lit 85 :: nat_lit 88 :: nat_lit 95 :: nat_lit 97 :: nat_lit 98 :: nat_lit 100 :: nat_lit 101 :: nat_lit 102 :: nat_lit 103 :: nat_lit 104 :: nat_lit 107 :: nat_lit 110 :: nat_lit 111 :: nat_lit 112 :: nat_lit 114 :: nat_lit 115 :: nat_lit 117 :: nat_lit 118 :: nat_lit 119 :: nat_lit 121 :: nat_lit 122 :: nat_lit 124 :: nat_lit 125 :: nat_lit 126 :: nat_lit 128 :: nat_lit 129 :: nat_lit 131 :: nat_lit 132 :: nat_lit 133 :: nat_lit 135 :: nat_lit 136 :: nat_lit 138 :: nat_lit 139 :: nat_lit 140 :: nat_lit 142 :: nat_lit 143 :: nat_lit 145 :: nat_lit 146 :: nat_lit 147 :: nat_lit 149 :: nat_lit 150 :: nat_lit 152 :: nat_lit 153 :: nat_lit 154 :: nat_lit 156 :: nat_lit 157 :: nat_lit 159 :: nat_lit 160 :: nat_lit 161 :: nat_lit 164 :: nat_lit 165 :: nat_lit 166 :: nat_lit 169 :: nat_lit 170 :: nat_lit 171 :: nat_lit 174 :: nat_lit 175 :: nat_lit 176 :: nat_lit 179 :: nat_lit 180 :: nat_lit 181 :: nat_lit 184 :: nat_lit 185 :: nat_lit 193 :: nat_lit 196 :: nat_lit 197 :: nat_lit 198 :: nat_lit 201 :: nat_lit 202 :: nat_lit 203 :: nat_lit 205 :: nat_lit 206 :: nat_lit 208 :: nat_lit 209 :: nat_lit 210 :: nat_lit 212 :: nat_lit 213 :: nat_lit 215 :: nat_lit 216 :: nat_lit 217 :: nat_lit 218 :: nat_lit 219 :: nat_lit 220 :: nat_lit 221 :: nat_lit 224 :: nat_lit 227 :: nat_lit 228 :: nat_lit 229 :: nat_lit 232 :: nat_lit 233 :: nat_lit 234 :: nat_lit 236 :: nat_lit 237 :: nat_lit 239 :: nat_lit 240 :: nat_lit 241 :: nat_lit 243 :: nat_lit 244 :: nat_lit 246 :: nat_lit 247 :: nat_lit 248 :: nat_lit 250 :: nat_lit 251 :: nat_lit 253 :: nat_lit 254 :: nat_lit 255 :: nat_lit 258 :: nat_lit 259 :: nat_lit 260 :: nat_lit 262 :: nat_lit 263 :: nat_lit 265 :: nat_lit 266 :: nat_lit 267 :: nat_lit 270 :: nat_lit 271 :: nat_lit 272 :: nat_lit 274 :: nat_lit 275 :: nat_lit 277 :: nat_lit 278 :: nat_lit 279 :: nat_lit 281 :: nat_lit 282 :: nat_lit 284 :: nat_lit 285 :: nat_lit 286 :: nat_lit 289 :: nat_lit 290 :: nat_lit 291 :: nat_lit 294 :: nat_lit 295 :: nat_lit 296 :: nat_lit 299 :: nat_lit 300 :: nat_lit 301 :: nat_lit 304 :: nat_lit 305 :: nat_lit 306 :: nat_lit 308 :: nat_lit 309 :: nat_lit 311 :: nat_lit 312 :: nat_lit 313 :: nat_lit 315 :: nat_lit 316 :: nat_lit 318 :: nat_lit 319 :: nat_lit 320 :: nat_lit 323 :: nat_lit 324 :: nat_lit 325 :: nat_lit 328 :: nat_lit 329 :: []
noncomputable def view : PySem.Program := { PySem.Challenge.pw_farhail_k61_whole_hunts_and_shelters_pla with main := { PySem.Challenge.pw_farhail_k61_whole_hunts_and_shelters_pla.main with body := [G.top 46] } }
noncomputable def loose : List PySem.Str := [a1, a3, a4, a5, a6, a7, a8, a9, a10, a11, a12, a13, a14, a15, a16, a17, a18, a19, a20, a21, a22, a23, a24, a25, a26, a27, a28, a29, a30, a31, a32, a33, a34, a35, a36, a37, a38, a39, a40, a41, a42]
noncomputable def the : PySem.DefRec := ⟨"law", L2.defArgs (G.top 46), L2.defBody (G.top 46), L2.defScope (G.top 46), (.mk 259 0 271 15)⟩
noncomputable abbrev N : Nat := 5674
theorem as_eq : ∀ P, as = (K P).map (·.1) := fun P => by kernel_rfl
noncomputable abbrev hook : PySem.W.Hook := PySem.W.kHook K as as_eq
noncomputable abbrev Xt : PySem.Shared → Bool := fun s => PySem.W.xlAt view [] s && PySem.W.recOk PySem.Challenge.rw_farhail_k61_whole_hunts_and_shelters_pla.row.toRowW.records s
noncomputable abbrev mods := PySem.importedModules PySem.Challenge.pw_farhail_k61_whole_hunts_and_shelters_pla.main.body
theorem look1 (w : PySem.World) : (fun os : PySem.OsState => PySem.W.staticsOk mods (PySem.W.boot_heap w.params) (hF w.params) && PySem.W.namesBound PySem.Challenge.pw_farhail_k61_whole_hunts_and_shelters_pla (hF w.params) && PySem.W.gensDone (SF w os) && PySem.W.laidKept (PySem.W.boot_heap w.params) (hF w.params)) = fun _ => true := by kernel_rfl
theorem look3 (w : PySem.World) : (fun os => hook.obs (SF w os)) = fun _ => hook.val w := by kernel_rfl
theorem look2 (w : PySem.World) : (fun os => PySem.W.openSeen view loose mods Xt true (SF w os)) = fun _ => PySem.W.openGood view loose := by kernel_rfl
theorem left : PySem.W.LeftO PySem.Challenge.rw_farhail_k61_whole_hunts_and_shelters_pla.row.toRowW.prog view loose Xt hook.obs hook.val N :=
  PySem.W.LeftO.of_pieces opens size run (by decide +kernel) fun w => funext fun os => Prod.ext (congrFun (look1 w) os) (Prod.ext (congrFun (look2 w) os) (congrFun (look3 w) os))
open PySem PySem.W PyProof.Rows in
set_option maxHeartbeats 0 in
theorem whole (hc : WalkO view loose (XL view []) (PySem.W.kHook K as as_eq).says PySem.Challenge.rw_farhail_k61_whole_hunts_and_shelters_pla.row.toRowW the [] (fun f vs => PySem.call f vs)) : PySem.Challenge.rw_farhail_k61_whole_hunts_and_shelters_pla.Holds := by
  w_on; o_law
  refine PySem.W.holds_open (r := PySem.Challenge.rw_farhail_k61_whole_hunts_and_shelters_pla.row) (q := view) (loose := loose) (Xt := Xt) (XP := PySem.W.XL view []) (Yf := hook.obs) (Ya := hook.val) (YP := hook.says) (d := the) (kwd := []) (N := N) left hook.of hook.keeps (fun s e => xl_of s (Bool.and_eq_true_iff.mp e).1) XL.keeps (by kernel_rfl) (by kernel_rfl) (by kernel_rfl) (fun s e => recFacts_of (Bool.and_eq_true_iff.mp e).2) (by rfl) (by first | assumption | decide +kernel) (by decide +kernel) ⟨rfl, rfl, rfl, rfl, rfl, by decide +kernel⟩ ?hw hc
  case hw => w_witness2
end HD
namespace G
open PySem L2 Z
open Rep (rep)
theorem us1 : ∀ {us : List Value}, us.length = 1 → ∃ a0, us = [a0]
  | [a0], _ => ⟨a0, rfl⟩
theorem us2 : ∀ {us : List Value}, us.length = 2 → ∃ a0 a1, us = [a0, a1]
  | [a0, a1], _ => ⟨a0, a1, rfl⟩
theorem us3 : ∀ {us : List Value}, us.length = 3 → ∃ a0 a1 a2, us = [a0, a1, a2]
  | [a0, a1, a2], _ => ⟨a0, a1, a2, rfl⟩
theorem us4 : ∀ {us : List Value}, us.length = 4 → ∃ a0 a1 a2 a3, us = [a0, a1, a2, a3]
  | [a0, a1, a2, a3], _ => ⟨a0, a1, a2, a3, rfl⟩
theorem dn_mk {K : Fg} {h : Heap} {mg : Str → Option Value} (X : K.In h) (G : h.Ns mainGlobals mg) {x y : Str} {st : Stmt} {ps : List Str} {f : Addr} {od an : Option Addr} {sl : Array (Option Value)} {oc kV dc pm cd ct : Value}
    (a : PySem.W.nsIn K mainGlobals x = some (some (.ref f))) (l : K.lookup f = some ⟨oc, od, .func (PySem.W.fnOf y y (defArgs st) (defBody st) (defScope st) .none kV dc pm an cd ct), sl⟩) (c : PySem.W.codeIn K cd y = true) (k : PySem.W.keepIn K (.ref f) = true)
    (b : ∀ (kV doc pm : Value) (an : Option Addr) (cdv ct : Value) (us : List Value), us.length = ps.length → bindArgs (PySem.W.fnOf y y (defArgs st) (defBody st) (defScope st) .none kV doc pm an cdv ct) ⟨us, []⟩ = pure (ps.zip us)) :
    Dn K mg x y st ps f (PySem.W.fnOf y y (defArgs st) (defBody st) (defScope st) .none kV dc pm an cd ct) := ⟨fun_mk l c k, PySem.W.mg_of X G a, (fun_mk l c k).binds b⟩
theorem all_mk {l : PySem.W.OpenLaw} {w : World} {K : PySem.W.Frag} {h : Heap} {mg : Str → Option Value} {fa : Addr} (X : K.In h) (G : h.Ns mainGlobals mg) (hfa : mg "law" = some (.ref fa))
    {f10 : Addr} {od10 an10 : Option Addr} {sl10 : Array (Option Value)} {oc10 kV10 dc10 pm10 cd10 ct10 : Value}
    {f11 : Addr} {od11 an11 : Option Addr} {sl11 : Array (Option Value)} {oc11 kV11 dc11 pm11 cd11 ct11 : Value}
    {f12 : Addr} {od12 an12 : Option Addr} {sl12 : Array (Option Value)} {oc12 kV12 dc12 pm12 cd12 ct12 : Value}
    {f13 : Addr} {od13 an13 : Option Addr} {sl13 : Array (Option Value)} {oc13 kV13 dc13 pm13 cd13 ct13 : Value}
    {f14 : Addr} {od14 an14 : Option Addr} {sl14 : Array (Option Value)} {oc14 kV14 dc14 pm14 cd14 ct14 : Value}
    {f15 : Addr} {od15 an15 : Option Addr} {sl15 : Array (Option Value)} {oc15 kV15 dc15 pm15 cd15 ct15 : Value}
    {f16 : Addr} {od16 an16 : Option Addr} {sl16 : Array (Option Value)} {oc16 kV16 dc16 pm16 cd16 ct16 : Value}
    {f20 : Addr} {od20 an20 : Option Addr} {sl20 : Array (Option Value)} {oc20 kV20 dc20 pm20 cd20 ct20 : Value}
    {f21 : Addr} {od21 an21 : Option Addr} {sl21 : Array (Option Value)} {oc21 kV21 dc21 pm21 cd21 ct21 : Value}
    {f22 : Addr} {od22 an22 : Option Addr} {sl22 : Array (Option Value)} {oc22 kV22 dc22 pm22 cd22 ct22 : Value}
    {f23 : Addr} {od23 an23 : Option Addr} {sl23 : Array (Option Value)} {oc23 kV23 dc23 pm23 cd23 ct23 : Value}
    {f24 : Addr} {od24 an24 : Option Addr} {sl24 : Array (Option Value)} {oc24 kV24 dc24 pm24 cd24 ct24 : Value}
    {f25 : Addr} {od25 an25 : Option Addr} {sl25 : Array (Option Value)} {oc25 kV25 dc25 pm25 cd25 ct25 : Value}
    {f27 : Addr} {od27 an27 : Option Addr} {sl27 : Array (Option Value)} {oc27 kV27 dc27 pm27 cd27 ct27 : Value}
    {f29 : Addr} {od29 an29 : Option Addr} {sl29 : Array (Option Value)} {oc29 kV29 dc29 pm29 cd29 ct29 : Value}
    {f30 : Addr} {od30 an30 : Option Addr} {sl30 : Array (Option Value)} {oc30 kV30 dc30 pm30 cd30 ct30 : Value}
    {f31 : Addr} {od31 an31 : Option Addr} {sl31 : Array (Option Value)} {oc31 kV31 dc31 pm31 cd31 ct31 : Value}
    {f32 : Addr} {od32 an32 : Option Addr} {sl32 : Array (Option Value)} {oc32 kV32 dc32 pm32 cd32 ct32 : Value}
    {f33 : Addr} {od33 an33 : Option Addr} {sl33 : Array (Option Value)} {oc33 kV33 dc33 pm33 cd33 ct33 : Value}
    {f35 : Addr} {od35 an35 : Option Addr} {sl35 : Array (Option Value)} {oc35 kV35 dc35 pm35 cd35 ct35 : Value}
    {f36 : Addr} {od36 an36 : Option Addr} {sl36 : Array (Option Value)} {oc36 kV36 dc36 pm36 cd36 ct36 : Value}
    {f37 : Addr} {od37 an37 : Option Addr} {sl37 : Array (Option Value)} {oc37 kV37 dc37 pm37 cd37 ct37 : Value}
    {f38 : Addr} {od38 an38 : Option Addr} {sl38 : Array (Option Value)} {oc38 kV38 dc38 pm38 cd38 ct38 : Value}
    {f39 : Addr} {od39 an39 : Option Addr} {sl39 : Array (Option Value)} {oc39 kV39 dc39 pm39 cd39 ct39 : Value}
    {f40 : Addr} {od40 an40 : Option Addr} {sl40 : Array (Option Value)} {oc40 kV40 dc40 pm40 cd40 ct40 : Value}
    {f41 : Addr} {od41 an41 : Option Addr} {sl41 : Array (Option Value)} {oc41 kV41 dc41 pm41 cd41 ct41 : Value}
    {f42 : Addr} {od42 an42 : Option Addr} {sl42 : Array (Option Value)} {oc42 kV42 dc42 pm42 cd42 ct42 : Value}
    {f43 : Addr} {od43 an43 : Option Addr} {sl43 : Array (Option Value)} {oc43 kV43 dc43 pm43 cd43 ct43 : Value}
    {f44 : Addr} {od44 an44 : Option Addr} {sl44 : Array (Option Value)} {oc44 kV44 dc44 pm44 cd44 ct44 : Value}
    {f45 : Addr} {od45 an45 : Option Addr} {sl45 : Array (Option Value)} {oc45 kV45 dc45 pm45 cd45 ct45 : Value}
    {f46 : Addr} {od46 an46 : Option Addr} {sl46 : Array (Option Value)} {oc46 kV46 dc46 pm46 cd46 ct46 : Value}
    {f27000 : Addr} {od27000 an27000 : Option Addr} {sl27000 : Array (Option Value)} {oc27000 kV27000 dc27000 pm27000 cd27000 ct27000 : Value}
    {f27001 : Addr} {od27001 an27001 : Option Addr} {sl27001 : Array (Option Value)} {oc27001 kV27001 dc27001 pm27001 cd27001 ct27001 : Value}
    {f27002 : Addr} {od27002 an27002 : Option Addr} {sl27002 : Array (Option Value)} {oc27002 kV27002 dc27002 pm27002 cd27002 ct27002 : Value}
    {f27003 : Addr} {od27003 an27003 : Option Addr} {sl27003 : Array (Option Value)} {oc27003 kV27003 dc27003 pm27003 cd27003 ct27003 : Value}
    {g6 : Addr}
    {g26 : Addr}
    {tk_LEAST_PLACES : Tok}
    {tk_MOST_PLACES_hunts : Tok}
    {tk_MOST_PLACES_webs : Tok}
    (a10 : PySem.W.nsIn K mainGlobals "near_lists" = some (some (.ref f10))) (l10 : K.lookup f10 = some ⟨oc10, od10, .func (PySem.W.fnOf "near_lists" "near_lists" (defArgs s_near_lists) (defBody s_near_lists) (defScope s_near_lists) .none kV10 dc10 pm10 an10 cd10 ct10), sl10⟩) (c10 : PySem.W.codeIn K cd10 "near_lists" = true) (k10 : PySem.W.keepIn K (.ref f10) = true)
    (a11 : PySem.W.nsIn K mainGlobals "fars_by" = some (some (.ref f11))) (l11 : K.lookup f11 = some ⟨oc11, od11, .func (PySem.W.fnOf "fars_by" "fars_by" (defArgs s_fars_by) (defBody s_fars_by) (defScope s_fars_by) .none kV11 dc11 pm11 an11 cd11 ct11), sl11⟩) (c11 : PySem.W.codeIn K cd11 "fars_by" = true) (k11 : PySem.W.keepIn K (.ref f11) = true)
    (a12 : PySem.W.nsIn K mainGlobals "sorted_ties" = some (some (.ref f12))) (l12 : K.lookup f12 = some ⟨oc12, od12, .func (PySem.W.fnOf "sorted_ties" "sorted_ties" (defArgs s_sorted_ties) (defBody s_sorted_ties) (defScope s_sorted_ties) .none kV12 dc12 pm12 an12 cd12 ct12), sl12⟩) (c12 : PySem.W.codeIn K cd12 "sorted_ties" = true) (k12 : PySem.W.keepIn K (.ref f12) = true)
    (a13 : PySem.W.nsIn K mainGlobals "made_web" = some (some (.ref f13))) (l13 : K.lookup f13 = some ⟨oc13, od13, .func (PySem.W.fnOf "made_web" "made_web" (defArgs s_made_web) (defBody s_made_web) (defScope s_made_web) .none kV13 dc13 pm13 an13 cd13 ct13), sl13⟩) (c13 : PySem.W.codeIn K cd13 "made_web" = true) (k13 : PySem.W.keepIn K (.ref f13) = true)
    (a14 : PySem.W.nsIn K mainGlobals "place_asked" = some (some (.ref f14))) (l14 : K.lookup f14 = some ⟨oc14, od14, .func (PySem.W.fnOf "place_asked" "place_asked" (defArgs s_place_asked) (defBody s_place_asked) (defScope s_place_asked) .none kV14 dc14 pm14 an14 cd14 ct14), sl14⟩) (c14 : PySem.W.codeIn K cd14 "place_asked" = true) (k14 : PySem.W.keepIn K (.ref f14) = true)
    (a15 : PySem.W.nsIn K mainGlobals "neighbours_of" = some (some (.ref f15))) (l15 : K.lookup f15 = some ⟨oc15, od15, .func (PySem.W.fnOf "neighbours_of" "neighbours_of" (defArgs s_neighbours_of) (defBody s_neighbours_of) (defScope s_neighbours_of) .none kV15 dc15 pm15 an15 cd15 ct15), sl15⟩) (c15 : PySem.W.codeIn K cd15 "neighbours_of" = true) (k15 : PySem.W.keepIn K (.ref f15) = true)
    (a16 : PySem.W.nsIn K mainGlobals "fars_from" = some (some (.ref f16))) (l16 : K.lookup f16 = some ⟨oc16, od16, .func (PySem.W.fnOf "fars_from" "fars_from" (defArgs s_fars_from) (defBody s_fars_from) (defScope s_fars_from) .none kV16 dc16 pm16 an16 cd16 ct16), sl16⟩) (c16 : PySem.W.codeIn K cd16 "fars_from" = true) (k16 : PySem.W.keepIn K (.ref f16) = true)
    (a20 : PySem.W.nsIn K mainGlobals "few_places" = some (some (.ref f20))) (l20 : K.lookup f20 = some ⟨oc20, od20, .func (PySem.W.fnOf "few_places" "few_places" (defArgs s_few_places) (defBody s_few_places) (defScope s_few_places) .none kV20 dc20 pm20 an20 cd20 ct20), sl20⟩) (c20 : PySem.W.codeIn K cd20 "few_places" = true) (k20 : PySem.W.keepIn K (.ref f20) = true)
    (a21 : PySem.W.nsIn K mainGlobals "table_by" = some (some (.ref f21))) (l21 : K.lookup f21 = some ⟨oc21, od21, .func (PySem.W.fnOf "table_by" "table_by" (defArgs s_table_by) (defBody s_table_by) (defScope s_table_by) .none kV21 dc21 pm21 an21 cd21 ct21), sl21⟩) (c21 : PySem.W.codeIn K cd21 "table_by" = true) (k21 : PySem.W.keepIn K (.ref f21) = true)
    (a22 : PySem.W.nsIn K mainGlobals "looks_of" = some (some (.ref f22))) (l22 : K.lookup f22 = some ⟨oc22, od22, .func (PySem.W.fnOf "looks_of" "looks_of" (defArgs s_looks_of) (defBody s_looks_of) (defScope s_looks_of) .none kV22 dc22 pm22 an22 cd22 ct22), sl22⟩) (c22 : PySem.W.codeIn K cd22 "looks_of" = true) (k22 : PySem.W.keepIn K (.ref f22) = true)
    (a23 : PySem.W.nsIn K mainGlobals "gone_on" = some (some (.ref f23))) (l23 : K.lookup f23 = some ⟨oc23, od23, .func (PySem.W.fnOf "gone_on" "gone_on" (defArgs s_gone_on) (defBody s_gone_on) (defScope s_gone_on) .none kV23 dc23 pm23 an23 cd23 ct23), sl23⟩) (c23 : PySem.W.codeIn K cd23 "gone_on" = true) (k23 : PySem.W.keepIn K (.ref f23) = true)
    (a24 : PySem.W.nsIn K mainGlobals "next_standings" = some (some (.ref f24))) (l24 : K.lookup f24 = some ⟨oc24, od24, .func (PySem.W.fnOf "next_standings" "next_standings" (defArgs s_next_standings) (defBody s_next_standings) (defScope s_next_standings) .none kV24 dc24 pm24 an24 cd24 ct24), sl24⟩) (c24 : PySem.W.codeIn K cd24 "next_standings" = true) (k24 : PySem.W.keepIn K (.ref f24) = true)
    (a25 : PySem.W.nsIn K mainGlobals "all_standings" = some (some (.ref f25))) (l25 : K.lookup f25 = some ⟨oc25, od25, .func (PySem.W.fnOf "all_standings" "all_standings" (defArgs s_all_standings) (defBody s_all_standings) (defScope s_all_standings) .none kV25 dc25 pm25 an25 cd25 ct25), sl25⟩) (c25 : PySem.W.codeIn K cd25 "all_standings" = true) (k25 : PySem.W.keepIn K (.ref f25) = true)
    (a27 : PySem.W.nsIn K mainGlobals "hunt_or_shelter" = some (some (.ref f27))) (l27 : K.lookup f27 = some ⟨oc27, od27, .func (PySem.W.fnOf "hunt_or_shelter" "hunt_or_shelter" (defArgs s_hunt_or_shelter) (defBody s_hunt_or_shelter) (defScope s_hunt_or_shelter) .none kV27 dc27 pm27 an27 cd27 ct27), sl27⟩) (c27 : PySem.W.codeIn K cd27 "hunt_or_shelter" = true) (k27 : PySem.W.keepIn K (.ref f27) = true)
    (a29 : PySem.W.nsIn K mainGlobals "table_of" = some (some (.ref f29))) (l29 : K.lookup f29 = some ⟨oc29, od29, .func (PySem.W.fnOf "table_of" "table_of" (defArgs s_table_of) (defBody s_table_of) (defScope s_table_of) .none kV29 dc29 pm29 an29 cd29 ct29), sl29⟩) (c29 : PySem.W.codeIn K cd29 "table_of" = true) (k29 : PySem.W.keepIn K (.ref f29) = true)
    (a30 : PySem.W.nsIn K mainGlobals "looks_asked" = some (some (.ref f30))) (l30 : K.lookup f30 = some ⟨oc30, od30, .func (PySem.W.fnOf "looks_asked" "looks_asked" (defArgs s_looks_asked) (defBody s_looks_asked) (defScope s_looks_asked) .none kV30 dc30 pm30 an30 cd30 ct30), sl30⟩) (c30 : PySem.W.codeIn K cd30 "looks_asked" = true) (k30 : PySem.W.keepIn K (.ref f30) = true)
    (a31 : PySem.W.nsIn K mainGlobals "thing_asked" = some (some (.ref f31))) (l31 : K.lookup f31 = some ⟨oc31, od31, .func (PySem.W.fnOf "thing_asked" "thing_asked" (defArgs s_thing_asked) (defBody s_thing_asked) (defScope s_thing_asked) .none kV31 dc31 pm31 an31 cd31 ct31), sl31⟩) (c31 : PySem.W.codeIn K cd31 "thing_asked" = true) (k31 : PySem.W.keepIn K (.ref f31) = true)
    (a32 : PySem.W.nsIn K mainGlobals "far_by" = some (some (.ref f32))) (l32 : K.lookup f32 = some ⟨oc32, od32, .func (PySem.W.fnOf "far_by" "far_by" (defArgs s_far_by) (defBody s_far_by) (defScope s_far_by) .none kV32 dc32 pm32 an32 cd32 ct32), sl32⟩) (c32 : PySem.W.codeIn K cd32 "far_by" = true) (k32 : PySem.W.keepIn K (.ref f32) = true)
    (a33 : PySem.W.nsIn K mainGlobals "code_of" = some (some (.ref f33))) (l33 : K.lookup f33 = some ⟨oc33, od33, .func (PySem.W.fnOf "code_of" "code_of" (defArgs s_code_of) (defBody s_code_of) (defScope s_code_of) .none kV33 dc33 pm33 an33 cd33 ct33), sl33⟩) (c33 : PySem.W.codeIn K cd33 "code_of" = true) (k33 : PySem.W.keepIn K (.ref f33) = true)
    (a35 : PySem.W.nsIn K mainGlobals "_law_cell_at" = some (some (.ref f35))) (l35 : K.lookup f35 = some ⟨oc35, od35, .func (PySem.W.fnOf "_law_cell_at" "_law_cell_at" (defArgs s_law_cell_at) (defBody s_law_cell_at) (defScope s_law_cell_at) .none kV35 dc35 pm35 an35 cd35 ct35), sl35⟩) (c35 : PySem.W.codeIn K cd35 "_law_cell_at" = true) (k35 : PySem.W.keepIn K (.ref f35) = true)
    (a36 : PySem.W.nsIn K mainGlobals "_law_folded" = some (some (.ref f36))) (l36 : K.lookup f36 = some ⟨oc36, od36, .func (PySem.W.fnOf "_law_folded" "_law_folded" (defArgs s_law_folded) (defBody s_law_folded) (defScope s_law_folded) .none kV36 dc36 pm36 an36 cd36 ct36), sl36⟩) (c36 : PySem.W.codeIn K cd36 "_law_folded" = true) (k36 : PySem.W.keepIn K (.ref f36) = true)
    (a37 : PySem.W.nsIn K mainGlobals "_law_state" = some (some (.ref f37))) (l37 : K.lookup f37 = some ⟨oc37, od37, .func (PySem.W.fnOf "_law_state" "_law_state" (defArgs s_law_state) (defBody s_law_state) (defScope s_law_state) .none kV37 dc37 pm37 an37 cd37 ct37), sl37⟩) (c37 : PySem.W.codeIn K cd37 "_law_state" = true) (k37 : PySem.W.keepIn K (.ref f37) = true)
    (a38 : PySem.W.nsIn K mainGlobals "_law_next" = some (some (.ref f38))) (l38 : K.lookup f38 = some ⟨oc38, od38, .func (PySem.W.fnOf "_law_next" "_law_next" (defArgs s_law_next) (defBody s_law_next) (defScope s_law_next) .none kV38 dc38 pm38 an38 cd38 ct38), sl38⟩) (c38 : PySem.W.codeIn K cd38 "_law_next" = true) (k38 : PySem.W.keepIn K (.ref f38) = true)
    (a39 : PySem.W.nsIn K mainGlobals "_law_web" = some (some (.ref f39))) (l39 : K.lookup f39 = some ⟨oc39, od39, .func (PySem.W.fnOf "_law_web" "_law_web" (defArgs s_law_web) (defBody s_law_web) (defScope s_law_web) .none kV39 dc39 pm39 an39 cd39 ct39), sl39⟩) (c39 : PySem.W.codeIn K cd39 "_law_web" = true) (k39 : PySem.W.keepIn K (.ref f39) = true)
    (a40 : PySem.W.nsIn K mainGlobals "_law_moved" = some (some (.ref f40))) (l40 : K.lookup f40 = some ⟨oc40, od40, .func (PySem.W.fnOf "_law_moved" "_law_moved" (defArgs s_law_moved) (defBody s_law_moved) (defScope s_law_moved) .none kV40 dc40 pm40 an40 cd40 ct40), sl40⟩) (c40 : PySem.W.codeIn K cd40 "_law_moved" = true) (k40 : PySem.W.keepIn K (.ref f40) = true)
    (a41 : PySem.W.nsIn K mainGlobals "_law_parts" = some (some (.ref f41))) (l41 : K.lookup f41 = some ⟨oc41, od41, .func (PySem.W.fnOf "_law_parts" "_law_parts" (defArgs s_law_parts) (defBody s_law_parts) (defScope s_law_parts) .none kV41 dc41 pm41 an41 cd41 ct41), sl41⟩) (c41 : PySem.W.codeIn K cd41 "_law_parts" = true) (k41 : PySem.W.keepIn K (.ref f41) = true)
    (a42 : PySem.W.nsIn K mainGlobals "_law_row" = some (some (.ref f42))) (l42 : K.lookup f42 = some ⟨oc42, od42, .func (PySem.W.fnOf "_law_row" "_law_row" (defArgs s_law_row) (defBody s_law_row) (defScope s_law_row) .none kV42 dc42 pm42 an42 cd42 ct42), sl42⟩) (c42 : PySem.W.codeIn K cd42 "_law_row" = true) (k42 : PySem.W.keepIn K (.ref f42) = true)
    (a43 : PySem.W.nsIn K mainGlobals "_law_by_turns" = some (some (.ref f43))) (l43 : K.lookup f43 = some ⟨oc43, od43, .func (PySem.W.fnOf "_law_by_turns" "_law_by_turns" (defArgs s_law_by_turns) (defBody s_law_by_turns) (defScope s_law_by_turns) .none kV43 dc43 pm43 an43 cd43 ct43), sl43⟩) (c43 : PySem.W.codeIn K cd43 "_law_by_turns" = true) (k43 : PySem.W.keepIn K (.ref f43) = true)
    (a44 : PySem.W.nsIn K mainGlobals "_law_hunted" = some (some (.ref f44))) (l44 : K.lookup f44 = some ⟨oc44, od44, .func (PySem.W.fnOf "_law_hunted" "_law_hunted" (defArgs s_law_hunted) (defBody s_law_hunted) (defScope s_law_hunted) .none kV44 dc44 pm44 an44 cd44 ct44), sl44⟩) (c44 : PySem.W.codeIn K cd44 "_law_hunted" = true) (k44 : PySem.W.keepIn K (.ref f44) = true)
    (a45 : PySem.W.nsIn K mainGlobals "_law_hidden" = some (some (.ref f45))) (l45 : K.lookup f45 = some ⟨oc45, od45, .func (PySem.W.fnOf "_law_hidden" "_law_hidden" (defArgs s_law_hidden) (defBody s_law_hidden) (defScope s_law_hidden) .none kV45 dc45 pm45 an45 cd45 ct45), sl45⟩) (c45 : PySem.W.codeIn K cd45 "_law_hidden" = true) (k45 : PySem.W.keepIn K (.ref f45) = true)
    (a46 : PySem.W.nsIn K mainGlobals "law" = some (some (.ref f46))) (l46 : K.lookup f46 = some ⟨oc46, od46, .func (PySem.W.fnOf "law" "law" (defArgs s_law) (defBody s_law) (defScope s_law) .none kV46 dc46 pm46 an46 cd46 ct46), sl46⟩) (c46 : PySem.W.codeIn K cd46 "law" = true) (k46 : PySem.W.keepIn K (.ref f46) = true)
    (a27000 : PySem.W.findIn K (.ref g26) "__init__" = some (some (.ref f27000))) (i27000 : PySem.W.isFn K (.ref f27000) = true) (l27000 : K.lookup f27000 = some ⟨oc27000, od27000, .func (PySem.W.fnOf "__init__" "Hunting.__init__" (defArgs s_Hunting_init) (defBody s_Hunting_init) (defScope s_Hunting_init) .none kV27000 dc27000 pm27000 an27000 cd27000 ct27000), sl27000⟩) (c27000 : PySem.W.codeIn K cd27000 "Hunting.__init__" = true) (k27000 : PySem.W.keepIn K (.ref f27000) = true)
    (a27001 : PySem.W.findIn K (.ref g26) "found_by" = some (some (.ref f27001))) (i27001 : PySem.W.isFn K (.ref f27001) = true) (l27001 : K.lookup f27001 = some ⟨oc27001, od27001, .func (PySem.W.fnOf "found_by" "Hunting.found_by" (defArgs s_Hunting_found_by) (defBody s_Hunting_found_by) (defScope s_Hunting_found_by) .none kV27001 dc27001 pm27001 an27001 cd27001 ct27001), sl27001⟩) (c27001 : PySem.W.codeIn K cd27001 "Hunting.found_by" = true) (k27001 : PySem.W.keepIn K (.ref f27001) = true)
    (a27002 : PySem.W.findIn K (.ref g26) "fill" = some (some (.ref f27002))) (i27002 : PySem.W.isFn K (.ref f27002) = true) (l27002 : K.lookup f27002 = some ⟨oc27002, od27002, .func (PySem.W.fnOf "fill" "Hunting.fill" (defArgs s_Hunting_fill) (defBody s_Hunting_fill) (defScope s_Hunting_fill) .none kV27002 dc27002 pm27002 an27002 cd27002 ct27002), sl27002⟩) (c27002 : PySem.W.codeIn K cd27002 "Hunting.fill" = true) (k27002 : PySem.W.keepIn K (.ref f27002) = true)
    (a27003 : PySem.W.findIn K (.ref g26) "hunt" = some (some (.ref f27003))) (i27003 : PySem.W.isFn K (.ref f27003) = true) (l27003 : K.lookup f27003 = some ⟨oc27003, od27003, .func (PySem.W.fnOf "hunt" "Hunting.hunt" (defArgs s_Hunting_hunt) (defBody s_Hunting_hunt) (defScope s_Hunting_hunt) .none kV27003 dc27003 pm27003 an27003 cd27003 ct27003), sl27003⟩) (c27003 : PySem.W.codeIn K cd27003 "Hunting.hunt" = true) (k27003 : PySem.W.keepIn K (.ref f27003) = true)
    (ns_TooMany : PySem.W.nsIn K mainGlobals "TooMany" = some (some (.ref g6)))
    (ns_Hunting : PySem.W.nsIn K mainGlobals "Hunting" = some (some (.ref g26)))
    (xc_TooMany : PySem.W.excIn K g6 [.type "ValueError", .type "Exception", .type "BaseException", .type "object"] "ValueError.__new__" = true)
    (kp_TooMany : PySem.W.keepIn K (.ref g6) = true)
    (b_TooMany : PySem.W.subIn K (.ref g6) (.type "BaseException") = some true)
    (t_TooMany : PySem.W.typeIn K (.ref g6) = some (.type "type"))
    (hg_TooMany : PySem.W.findIn K (.ref g6) "__getattribute__" = some (some (.builtin "BaseException.__getattribute__")))
    (hk_TooMany : PySem.W.findIn K (.ref g6) "__getattr__" = some none)
    (hd_TooMany : PySem.W.hasDictIn K g6 = true)
    (ha_TooMany : PySem.W.findIn K (.ref g6) "__class__" = some (some (.builtin "object.__class__")))
    (hm_TooMany : PySem.W.mroIn K g6 (.type "object") = some true)
    (op_Hunting : PySem.W.plainGet K g26 Str.empty = true)
    (oh_Hunting : PySem.W.hasDictIn K g26 = true)
    (oo_Hunting : PySem.W.plainOver K g26 = true)
    (os_Hunting : PySem.W.findIn K (.ref g26) "__setattr__" = some (some (.builtin "object.__setattr__")))
    (om_Hunting : PySem.W.makesIn K g26 = true)
    (ok_Hunting : PySem.W.keepIn K (.ref g26) = true)
    (of_Hunting_fars : PySem.W.findIn K (.ref g26) "fars" = some none)
    (of_Hunting_ways : PySem.W.findIn K (.ref g26) "ways" = some none)
    (of_Hunting_turns : PySem.W.findIn K (.ref g26) "turns" = some none)
    (of_Hunting_looks : PySem.W.findIn K (.ref g26) "looks" = some none)
    (hn_ : PySem.W.specialIn K (.builtin "object.__class__") "__get__" = some (some (.builtin "getset_descriptor.__get__")))
    (ht_ : PySem.W.takesIn K (.builtin "object.__class__") = some true)
    (kc_LEAST_PLACES : PySem.W.nsIn K mainGlobals "LEAST_PLACES" = some (some (.int 2 tk_LEAST_PLACES)))
    (kc_MOST_PLACES_hunts : PySem.W.nsIn K mainGlobals "MOST_PLACES_hunts" = some (some (.int 7 tk_MOST_PLACES_hunts)))
    (kc_MOST_PLACES_webs : PySem.W.nsIn K mainGlobals "MOST_PLACES_webs" = some (some (.int 60 tk_MOST_PLACES_webs)))
    (z_all : PySem.W.nsIn K mainGlobals "all" = some none)
    (z_any : PySem.W.nsIn K mainGlobals "any" = some none)
    (z_enumerate : PySem.W.nsIn K mainGlobals "enumerate" = some none)
    (z_int : PySem.W.nsIn K mainGlobals "int" = some none)
    (z_isinstance : PySem.W.nsIn K mainGlobals "isinstance" = some none)
    (z_len : PySem.W.nsIn K mainGlobals "len" = some none)
    (z_list : PySem.W.nsIn K mainGlobals "list" = some none)
    (z_max : PySem.W.nsIn K mainGlobals "max" = some none)
    (z_min : PySem.W.nsIn K mainGlobals "min" = some none)
    (z_range : PySem.W.nsIn K mainGlobals "range" = some none)
    (z_sorted : PySem.W.nsIn K mainGlobals "sorted" = some none)
    (z_tuple : PySem.W.nsIn K mainGlobals "tuple" = some none) :
    ∃ fd : FuncData, (∀ (s : Shared) (v : Value), BindsTo s fd ⟨[v], []⟩ [("script", v)]) ∧ ∀ base : Heap, K.In base → base.Ns mainGlobals mg → FnOk l.prog w K mg base CX0 7 fa fd ["script"] (sp_law K) := by
  have e := hfa.symm.trans (PySem.W.mg_of X G a46)
  cases e
  let A : Nat → Addr := fun i => match i with | 10 => f10 | 11 => f11 | 12 => f12 | 13 => f13 | 14 => f14 | 15 => f15 | 16 => f16 | 20 => f20 | 21 => f21 | 22 => f22 | 23 => f23 | 24 => f24 | 25 => f25 | 27 => f27 | 29 => f29 | 30 => f30 | 31 => f31 | 32 => f32 | 33 => f33 | 35 => f35 | 36 => f36 | 37 => f37 | 38 => f38 | 39 => f39 | 40 => f40 | 41 => f41 | 42 => f42 | 43 => f43 | 44 => f44 | 45 => f45 | 46 => fa | 27000 => f27000 | 27001 => f27001 | 27002 => f27002 | 27003 => f27003 | 6 => g6 | 26 => g26 | _ => fa
  let FD : Nat → FuncData := fun i => match i with | 10 => (PySem.W.fnOf "near_lists" "near_lists" (defArgs s_near_lists) (defBody s_near_lists) (defScope s_near_lists) .none kV10 dc10 pm10 an10 cd10 ct10) | 11 => (PySem.W.fnOf "fars_by" "fars_by" (defArgs s_fars_by) (defBody s_fars_by) (defScope s_fars_by) .none kV11 dc11 pm11 an11 cd11 ct11) | 12 => (PySem.W.fnOf "sorted_ties" "sorted_ties" (defArgs s_sorted_ties) (defBody s_sorted_ties) (defScope s_sorted_ties) .none kV12 dc12 pm12 an12 cd12 ct12) | 13 => (PySem.W.fnOf "made_web" "made_web" (defArgs s_made_web) (defBody s_made_web) (defScope s_made_web) .none kV13 dc13 pm13 an13 cd13 ct13) | 14 => (PySem.W.fnOf "place_asked" "place_asked" (defArgs s_place_asked) (defBody s_place_asked) (defScope s_place_asked) .none kV14 dc14 pm14 an14 cd14 ct14) | 15 => (PySem.W.fnOf "neighbours_of" "neighbours_of" (defArgs s_neighbours_of) (defBody s_neighbours_of) (defScope s_neighbours_of) .none kV15 dc15 pm15 an15 cd15 ct15) | 16 => (PySem.W.fnOf "fars_from" "fars_from" (defArgs s_fars_from) (defBody s_fars_from) (defScope s_fars_from) .none kV16 dc16 pm16 an16 cd16 ct16) | 20 => (PySem.W.fnOf "few_places" "few_places" (defArgs s_few_places) (defBody s_few_places) (defScope s_few_places) .none kV20 dc20 pm20 an20 cd20 ct20) | 21 => (PySem.W.fnOf "table_by" "table_by" (defArgs s_table_by) (defBody s_table_by) (defScope s_table_by) .none kV21 dc21 pm21 an21 cd21 ct21) | 22 => (PySem.W.fnOf "looks_of" "looks_of" (defArgs s_looks_of) (defBody s_looks_of) (defScope s_looks_of) .none kV22 dc22 pm22 an22 cd22 ct22) | 23 => (PySem.W.fnOf "gone_on" "gone_on" (defArgs s_gone_on) (defBody s_gone_on) (defScope s_gone_on) .none kV23 dc23 pm23 an23 cd23 ct23) | 24 => (PySem.W.fnOf "next_standings" "next_standings" (defArgs s_next_standings) (defBody s_next_standings) (defScope s_next_standings) .none kV24 dc24 pm24 an24 cd24 ct24) | 25 => (PySem.W.fnOf "all_standings" "all_standings" (defArgs s_all_standings) (defBody s_all_standings) (defScope s_all_standings) .none kV25 dc25 pm25 an25 cd25 ct25) | 27 => (PySem.W.fnOf "hunt_or_shelter" "hunt_or_shelter" (defArgs s_hunt_or_shelter) (defBody s_hunt_or_shelter) (defScope s_hunt_or_shelter) .none kV27 dc27 pm27 an27 cd27 ct27) | 29 => (PySem.W.fnOf "table_of" "table_of" (defArgs s_table_of) (defBody s_table_of) (defScope s_table_of) .none kV29 dc29 pm29 an29 cd29 ct29) | 30 => (PySem.W.fnOf "looks_asked" "looks_asked" (defArgs s_looks_asked) (defBody s_looks_asked) (defScope s_looks_asked) .none kV30 dc30 pm30 an30 cd30 ct30) | 31 => (PySem.W.fnOf "thing_asked" "thing_asked" (defArgs s_thing_asked) (defBody s_thing_asked) (defScope s_thing_asked) .none kV31 dc31 pm31 an31 cd31 ct31) | 32 => (PySem.W.fnOf "far_by" "far_by" (defArgs s_far_by) (defBody s_far_by) (defScope s_far_by) .none kV32 dc32 pm32 an32 cd32 ct32) | 33 => (PySem.W.fnOf "code_of" "code_of" (defArgs s_code_of) (defBody s_code_of) (defScope s_code_of) .none kV33 dc33 pm33 an33 cd33 ct33) | 35 => (PySem.W.fnOf "_law_cell_at" "_law_cell_at" (defArgs s_law_cell_at) (defBody s_law_cell_at) (defScope s_law_cell_at) .none kV35 dc35 pm35 an35 cd35 ct35) | 36 => (PySem.W.fnOf "_law_folded" "_law_folded" (defArgs s_law_folded) (defBody s_law_folded) (defScope s_law_folded) .none kV36 dc36 pm36 an36 cd36 ct36) | 37 => (PySem.W.fnOf "_law_state" "_law_state" (defArgs s_law_state) (defBody s_law_state) (defScope s_law_state) .none kV37 dc37 pm37 an37 cd37 ct37) | 38 => (PySem.W.fnOf "_law_next" "_law_next" (defArgs s_law_next) (defBody s_law_next) (defScope s_law_next) .none kV38 dc38 pm38 an38 cd38 ct38) | 39 => (PySem.W.fnOf "_law_web" "_law_web" (defArgs s_law_web) (defBody s_law_web) (defScope s_law_web) .none kV39 dc39 pm39 an39 cd39 ct39) | 40 => (PySem.W.fnOf "_law_moved" "_law_moved" (defArgs s_law_moved) (defBody s_law_moved) (defScope s_law_moved) .none kV40 dc40 pm40 an40 cd40 ct40) | 41 => (PySem.W.fnOf "_law_parts" "_law_parts" (defArgs s_law_parts) (defBody s_law_parts) (defScope s_law_parts) .none kV41 dc41 pm41 an41 cd41 ct41) | 42 => (PySem.W.fnOf "_law_row" "_law_row" (defArgs s_law_row) (defBody s_law_row) (defScope s_law_row) .none kV42 dc42 pm42 an42 cd42 ct42) | 43 => (PySem.W.fnOf "_law_by_turns" "_law_by_turns" (defArgs s_law_by_turns) (defBody s_law_by_turns) (defScope s_law_by_turns) .none kV43 dc43 pm43 an43 cd43 ct43) | 44 => (PySem.W.fnOf "_law_hunted" "_law_hunted" (defArgs s_law_hunted) (defBody s_law_hunted) (defScope s_law_hunted) .none kV44 dc44 pm44 an44 cd44 ct44) | 45 => (PySem.W.fnOf "_law_hidden" "_law_hidden" (defArgs s_law_hidden) (defBody s_law_hidden) (defScope s_law_hidden) .none kV45 dc45 pm45 an45 cd45 ct45) | 46 => (PySem.W.fnOf "law" "law" (defArgs s_law) (defBody s_law) (defScope s_law) .none kV46 dc46 pm46 an46 cd46 ct46) | 27000 => (PySem.W.fnOf "__init__" "Hunting.__init__" (defArgs s_Hunting_init) (defBody s_Hunting_init) (defScope s_Hunting_init) .none kV27000 dc27000 pm27000 an27000 cd27000 ct27000) | 27001 => (PySem.W.fnOf "found_by" "Hunting.found_by" (defArgs s_Hunting_found_by) (defBody s_Hunting_found_by) (defScope s_Hunting_found_by) .none kV27001 dc27001 pm27001 an27001 cd27001 ct27001) | 27002 => (PySem.W.fnOf "fill" "Hunting.fill" (defArgs s_Hunting_fill) (defBody s_Hunting_fill) (defScope s_Hunting_fill) .none kV27002 dc27002 pm27002 an27002 cd27002 ct27002) | 27003 => (PySem.W.fnOf "hunt" "Hunting.hunt" (defArgs s_Hunting_hunt) (defBody s_Hunting_hunt) (defScope s_Hunting_hunt) .none kV27003 dc27003 pm27003 an27003 cd27003 ct27003) | _ => (PySem.W.fnOf "law" "law" (defArgs s_law) (defBody s_law) (defScope s_law) .none kV46 dc46 pm46 an46 cd46 ct46)
  have T : Tx K mg A FD := {
    d10 := dn_mk (st := s_near_lists) (ps := ["web"]) X G a10 l10 c10 k10 fun _ _ _ _ _ _ us hl => by (obtain ⟨_, rfl⟩ := us1 hl; rfl)
    d11 := dn_mk (st := s_fars_by) (ps := ["near", "place"]) X G a11 l11 c11 k11 fun _ _ _ _ _ _ us hl => by (obtain ⟨_, _, rfl⟩ := us2 hl; rfl)
    d12 := dn_mk (st := s_sorted_ties) (ps := ["many", "ties"]) X G a12 l12 c12 k12 fun _ _ _ _ _ _ us hl => by (obtain ⟨_, _, rfl⟩ := us2 hl; rfl)
    d13 := dn_mk (st := s_made_web) (ps := ["many", "ties"]) X G a13 l13 c13 k13 fun _ _ _ _ _ _ us hl => by (obtain ⟨_, _, rfl⟩ := us2 hl; rfl)
    d14 := dn_mk (st := s_place_asked) (ps := ["web", "place"]) X G a14 l14 c14 k14 fun _ _ _ _ _ _ us hl => by (obtain ⟨_, _, rfl⟩ := us2 hl; rfl)
    d15 := dn_mk (st := s_neighbours_of) (ps := ["web", "place"]) X G a15 l15 c15 k15 fun _ _ _ _ _ _ us hl => by (obtain ⟨_, _, rfl⟩ := us2 hl; rfl)
    d16 := dn_mk (st := s_fars_from) (ps := ["web", "place"]) X G a16 l16 c16 k16 fun _ _ _ _ _ _ us hl => by (obtain ⟨_, _, rfl⟩ := us2 hl; rfl)
    d20 := dn_mk (st := s_few_places) (ps := ["web"]) X G a20 l20 c20 k20 fun _ _ _ _ _ _ us hl => by (obtain ⟨_, rfl⟩ := us1 hl; rfl)
    d21 := dn_mk (st := s_table_by) (ps := ["web"]) X G a21 l21 c21 k21 fun _ _ _ _ _ _ us hl => by (obtain ⟨_, rfl⟩ := us1 hl; rfl)
    d22 := dn_mk (st := s_looks_of) (ps := ["places", "many"]) X G a22 l22 c22 k22 fun _ _ _ _ _ _ us hl => by (obtain ⟨_, _, rfl⟩ := us2 hl; rfl)
    d23 := dn_mk (st := s_gone_on) (ps := ["fars", "part"]) X G a23 l23 c23 k23 fun _ _ _ _ _ _ us hl => by (obtain ⟨_, _, rfl⟩ := us2 hl; rfl)
    d24 := dn_mk (st := s_next_standings) (ps := ["fars", "standing", "looks"]) X G a24 l24 c24 k24 fun _ _ _ _ _ _ us hl => by (obtain ⟨_, _, _, rfl⟩ := us3 hl; rfl)
    d25 := dn_mk (st := s_all_standings) (ps := ["places"]) X G a25 l25 c25 k25 fun _ _ _ _ _ _ us hl => by (obtain ⟨_, rfl⟩ := us1 hl; rfl)
    d27 := dn_mk (st := s_hunt_or_shelter) (ps := ["web", "many"]) X G a27 l27 c27 k27 fun _ _ _ _ _ _ us hl => by (obtain ⟨_, _, rfl⟩ := us2 hl; rfl)
    d29 := dn_mk (st := s_table_of) (ps := ["web"]) X G a29 l29 c29 k29 fun _ _ _ _ _ _ us hl => by (obtain ⟨_, rfl⟩ := us1 hl; rfl)
    d30 := dn_mk (st := s_looks_asked) (ps := ["web", "looks"]) X G a30 l30 c30 k30 fun _ _ _ _ _ _ us hl => by (obtain ⟨_, _, rfl⟩ := us2 hl; rfl)
    d31 := dn_mk (st := s_thing_asked) (ps := ["web", "thing"]) X G a31 l31 c31 k31 fun _ _ _ _ _ _ us hl => by (obtain ⟨_, _, rfl⟩ := us2 hl; rfl)
    d32 := dn_mk (st := s_far_by) (ps := ["table", "look", "thing"]) X G a32 l32 c32 k32 fun _ _ _ _ _ _ us hl => by (obtain ⟨_, _, _, rfl⟩ := us3 hl; rfl)
    d33 := dn_mk (st := s_code_of) (ps := ["web", "looks", "thing"]) X G a33 l33 c33 k33 fun _ _ _ _ _ _ us hl => by (obtain ⟨_, _, _, rfl⟩ := us3 hl; rfl)
    d35 := dn_mk (st := s_law_cell_at) (ps := ["script", "k"]) X G a35 l35 c35 k35 fun _ _ _ _ _ _ us hl => by (obtain ⟨_, _, rfl⟩ := us2 hl; rfl)
    d36 := dn_mk (st := s_law_folded) (ps := ["script", "many"]) X G a36 l36 c36 k36 fun _ _ _ _ _ _ us hl => by (obtain ⟨_, _, rfl⟩ := us2 hl; rfl)
    d37 := dn_mk (st := s_law_state) (ps := ["cell"]) X G a37 l37 c37 k37 fun _ _ _ _ _ _ us hl => by (obtain ⟨_, rfl⟩ := us1 hl; rfl)
    d38 := dn_mk (st := s_law_next) (ps := ["state", "many"]) X G a38 l38 c38 k38 fun _ _ _ _ _ _ us hl => by (obtain ⟨_, _, rfl⟩ := us2 hl; rfl)
    d39 := dn_mk (st := s_law_web) (ps := ["state", "least", "most"]) X G a39 l39 c39 k39 fun _ _ _ _ _ _ us hl => by (obtain ⟨_, _, _, rfl⟩ := us3 hl; rfl)
    d40 := dn_mk (st := s_law_moved) (ps := ["web", "part"]) X G a40 l40 c40 k40 fun _ _ _ _ _ _ us hl => by (obtain ⟨_, _, rfl⟩ := us2 hl; rfl)
    d41 := dn_mk (st := s_law_parts) (ps := ["web", "standing", "looks"]) X G a41 l41 c41 k41 fun _ _ _ _ _ _ us hl => by (obtain ⟨_, _, _, rfl⟩ := us3 hl; rfl)
    d42 := dn_mk (st := s_law_row) (ps := ["hunt", "standing"]) X G a42 l42 c42 k42 fun _ _ _ _ _ _ us hl => by (obtain ⟨_, _, rfl⟩ := us2 hl; rfl)
    d43 := dn_mk (st := s_law_by_turns) (ps := ["row"]) X G a43 l43 c43 k43 fun _ _ _ _ _ _ us hl => by (obtain ⟨_, rfl⟩ := us1 hl; rfl)
    d44 := dn_mk (st := s_law_hunted) (ps := ["web", "hunt"]) X G a44 l44 c44 k44 fun _ _ _ _ _ _ us hl => by (obtain ⟨_, _, rfl⟩ := us2 hl; rfl)
    d45 := dn_mk (st := s_law_hidden) (ps := ["web", "shelter", "state", "few"]) X G a45 l45 c45 k45 fun _ _ _ _ _ _ us hl => by (obtain ⟨_, _, _, _, rfl⟩ := us4 hl; rfl)
    d46 := dn_mk (st := s_law) (ps := ["script"]) X G a46 l46 c46 k46 fun _ _ _ _ _ _ us hl => by (obtain ⟨_, rfl⟩ := us1 hl; rfl)
    d27000 := ⟨fun_mk (st := s_Hunting_init) l27000 c27000 k27000, ⟨a27000, i27000, k27000⟩, (fun_mk (st := s_Hunting_init) l27000 c27000 k27000).binds (ps := ["self", "web", "many"]) fun _ _ _ _ _ _ us hl => by (obtain ⟨_, _, _, rfl⟩ := us3 hl; rfl)⟩
    d27001 := ⟨fun_mk (st := s_Hunting_found_by) l27001 c27001 k27001, ⟨a27001, i27001, k27001⟩, (fun_mk (st := s_Hunting_found_by) l27001 c27001 k27001).binds (ps := ["self", "standing"]) fun _ _ _ _ _ _ us hl => by (obtain ⟨_, _, rfl⟩ := us2 hl; rfl)⟩
    d27002 := ⟨fun_mk (st := s_Hunting_fill) l27002 c27002 k27002, ⟨a27002, i27002, k27002⟩, (fun_mk (st := s_Hunting_fill) l27002 c27002 k27002).binds (ps := ["self"]) fun _ _ _ _ _ _ us hl => by (obtain ⟨_, rfl⟩ := us1 hl; rfl)⟩
    d27003 := ⟨fun_mk (st := s_Hunting_hunt) l27003 c27003 k27003, ⟨a27003, i27003, k27003⟩, (fun_mk (st := s_Hunting_hunt) l27003 c27003 k27003).binds (ps := ["self", "start"]) fun _ _ _ _ _ _ us hl => by (obtain ⟨_, _, rfl⟩ := us2 hl; rfl)⟩
    n_all := PySem.W.mg_none_of X G z_all
    n_any := PySem.W.mg_none_of X G z_any
    n_enumerate := PySem.W.mg_none_of X G z_enumerate
    n_int := PySem.W.mg_none_of X G z_int
    n_isinstance := PySem.W.mg_none_of X G z_isinstance
    n_len := PySem.W.mg_none_of X G z_len
    n_list := PySem.W.mg_none_of X G z_list
    n_max := PySem.W.mg_none_of X G z_max
    n_min := PySem.W.mg_none_of X G z_min
    n_range := PySem.W.mg_none_of X G z_range
    n_sorted := PySem.W.mg_none_of X G z_sorted
    n_tuple := PySem.W.mg_none_of X G z_tuple
    c_LEAST_PLACES := ⟨_, PySem.W.mg_of X G kc_LEAST_PLACES⟩
    c_MOST_PLACES_hunts := ⟨_, PySem.W.mg_of X G kc_MOST_PLACES_hunts⟩
    c_MOST_PLACES_webs := ⟨_, PySem.W.mg_of X G kc_MOST_PLACES_webs⟩
    cl_Hunting := ⟨op_Hunting, oh_Hunting, oo_Hunting, os_Hunting⟩
    nm_Hunting := ns_Hunting
    mg_Hunting := PySem.W.mg_of X G ns_Hunting
    mk_Hunting := ⟨om_Hunting, a27000, i27000, ok_Hunting⟩
    na_Hunting_fars := of_Hunting_fars
    na_Hunting_ways := of_Hunting_ways
    na_Hunting_turns := of_Hunting_turns
    na_Hunting_looks := of_Hunting_looks
    x_TooMany := ⟨ns_TooMany, PySem.W.mg_of X G ns_TooMany, xc_TooMany, kp_TooMany, b_TooMany, t_TooMany, ⟨hg_TooMany, hk_TooMany, b_TooMany, hd_TooMany, ha_TooMany, hn_, ht_, hm_TooMany⟩⟩ }
  exact ⟨(PySem.W.fnOf "law" "law" (defArgs s_law) (defBody s_law) (defScope s_law) .none kV46 dc46 pm46 an46 cd46 ct46), fun s v => .of_eq rfl, fun base _ _ => ok_law (A := A) (FD := FD) T⟩
theorem walk {l : PySem.W.OpenLaw} {q : Program} {loose : List Str} {XP : (Str → Option Value) → Heap → Prop} {YP : World → Heap → Prop} {d : DefRec} {K : Params → PySem.W.Frag} (hn : l.most = some 63) (hdf : d.params.defaults = [])
    (hY : ∀ (w : World) (h : Heap), YP w h → (K w.params).In h)
    (F : ∀ (w : World) (mg : Str → Option Value) (fa : Addr) (h : Heap), (K w.params).In h → h.Ns mainGlobals mg → mg d.name = some (.ref fa) →
      ∃ fd : FuncData, (∀ (s : Shared) (u : Value), BindsTo s fd ⟨[u], []⟩ [("script", u)]) ∧ ∀ base : Heap, (K w.params).In base → base.Ns mainGlobals mg → FnOk l.prog w (K w.params) mg base CX0 7 fa fd ["script"] (sp_law (K w.params))) :
    PySem.W.WalkO q loose XP YP l.row.toRowW d [] (fun f vs => PySem.call f vs) :=
  L2.walk_of (n := 63) (k := 7) (x := "script") (CX := fun _ => CX0) (sp := fun w => sp_law (K w.params)) hn (by decide) hdf ⟨rfl, by decide, by decide⟩ hY F
    (fun _ H a ns hl _ hS => ⟨H, [], .ref a, ⟨ns⟩, rfl, ⟨Same.refl _, (fun _ z => nomatch z), List.Pairwise.nil, (fun _ z => nomatch z)⟩, ⟨a, rfl, hS⟩, by rw [law_true ns hl]; exact fun v F2 H2 w s r => r⟩) fun _ _ _ _ _ z => z
end G
open PySem PySem.W PyProof.Rows
set_option maxRecDepth 100000 in
set_option maxHeartbeats 0 in
theorem PySem.Challenge.cw_farhail_k61_whole_hunts_and_shelters_pla_holds : PySem.Challenge.rw_farhail_k61_whole_hunts_and_shelters_pla.Holds := by
  refine HD.whole ?_
  k_fill
  refine G.walk (l := PySem.Challenge.rw_farhail_k61_whole_hunts_and_shelters_pla) rfl rfl (fun w h Y => PySem.W.kIn_of Y) ?F
  case F =>
    intro w mg fa h KX Gn hmg
    refine' G.all_mk KX Gn hmg ?a10 ?l10 ?c10 ?k10 ?a11 ?l11 ?c11 ?k11 ?a12 ?l12 ?c12 ?k12 ?a13 ?l13 ?c13 ?k13 ?a14 ?l14 ?c14 ?k14 ?a15 ?l15 ?c15 ?k15 ?a16 ?l16 ?c16 ?k16 ?a20 ?l20 ?c20 ?k20 ?a21 ?l21 ?c21 ?k21 ?a22 ?l22 ?c22 ?k22 ?a23 ?l23 ?c23 ?k23 ?a24 ?l24 ?c24 ?k24 ?a25 ?l25 ?c25 ?k25 ?a27 ?l27 ?c27 ?k27 ?a29 ?l29 ?c29 ?k29 ?a30 ?l30 ?c30 ?k30 ?a31 ?l31 ?c31 ?k31 ?a32 ?l32 ?c32 ?k32 ?a33 ?l33 ?c33 ?k33 ?a35 ?l35 ?c35 ?k35 ?a36 ?l36 ?c36 ?k36 ?a37 ?l37 ?c37 ?k37 ?a38 ?l38 ?c38 ?k38 ?a39 ?l39 ?c39 ?k39 ?a40 ?l40 ?c40 ?k40 ?a41 ?l41 ?c41 ?k41 ?a42 ?l42 ?c42 ?k42 ?a43 ?l43 ?c43 ?k43 ?a44 ?l44 ?c44 ?k44 ?a45 ?l45 ?c45 ?k45 ?a46 ?l46 ?c46 ?k46 ?a27000 ?i27000 ?l27000 ?c27000 ?k27000 ?a27001 ?i27001 ?l27001 ?c27001 ?k27001 ?a27002 ?i27002 ?l27002 ?c27002 ?k27002 ?a27003 ?i27003 ?l27003 ?c27003 ?k27003 ?ns_TooMany ?ns_Hunting ?xc_TooMany ?kp_TooMany ?b_TooMany ?t_TooMany ?hg_TooMany ?hk_TooMany ?hd_TooMany ?ha_TooMany ?hm_TooMany ?op_Hunting ?oh_Hunting ?oo_Hunting ?os_Hunting ?om_Hunting ?ok_Hunting ?of_Hunting_fars ?of_Hunting_ways ?of_Hunting_turns ?of_Hunting_looks ?hn_ ?ht_ ?kc_LEAST_PLACES ?kc_MOST_PLACES_hunts ?kc_MOST_PLACES_webs ?z_all ?z_any ?z_enumerate ?z_int ?z_isinstance ?z_len ?z_list ?z_max ?z_min ?z_range ?z_sorted ?z_tuple
    (case a10 => k_is); (case l10 => k_is); (case c10 => k_is); (case k10 => k_is)
    (case a11 => k_is); (case l11 => k_is); (case c11 => k_is); (case k11 => k_is)
    (case a12 => k_is); (case l12 => k_is); (case c12 => k_is); (case k12 => k_is)
    (case a13 => k_is); (case l13 => k_is); (case c13 => k_is); (case k13 => k_is)
    (case a14 => k_is); (case l14 => k_is); (case c14 => k_is); (case k14 => k_is)
    (case a15 => k_is); (case l15 => k_is); (case c15 => k_is); (case k15 => k_is)
    (case a16 => k_is); (case l16 => k_is); (case c16 => k_is); (case k16 => k_is)
    (case a20 => k_is); (case l20 => k_is); (case c20 => k_is); (case k20 => k_is)
    (case a21 => k_is); (case l21 => k_is); (case c21 => k_is); (case k21 => k_is)
    (case a22 => k_is); (case l22 => k_is); (case c22 => k_is); (case k22 => k_is)
    (case a23 => k_is); (case l23 => k_is); (case c23 => k_is); (case k23 => k_is)
    (case a24 => k_is); (case l24 => k_is); (case c24 => k_is); (case k24 => k_is)
    (case a25 => k_is); (case l25 => k_is); (case c25 => k_is); (case k25 => k_is)
    (case a27 => k_is); (case l27 => k_is); (case c27 => k_is); (case k27 => k_is)
    (case a29 => k_is); (case l29 => k_is); (case c29 => k_is); (case k29 => k_is)
    (case a30 => k_is); (case l30 => k_is); (case c30 => k_is); (case k30 => k_is)
    (case a31 => k_is); (case l31 => k_is); (case c31 => k_is); (case k31 => k_is)
    (case a32 => k_is); (case l32 => k_is); (case c32 => k_is); (case k32 => k_is)
    (case a33 => k_is); (case l33 => k_is); (case c33 => k_is); (case k33 => k_is)
    (case a35 => k_is); (case l35 => k_is); (case c35 => k_is); (case k35 => k_is)
    (case a36 => k_is); (case l36 => k_is); (case c36 => k_is); (case k36 => k_is)
    (case a37 => k_is); (case l37 => k_is); (case c37 => k_is); (case k37 => k_is)
    (case a38 => k_is); (case l38 => k_is); (case c38 => k_is); (case k38 => k_is)
    (case a39 => k_is); (case l39 => k_is); (case c39 => k_is); (case k39 => k_is)
    (case a40 => k_is); (case l40 => k_is); (case c40 => k_is); (case k40 => k_is)
    (case a41 => k_is); (case l41 => k_is); (case c41 => k_is); (case k41 => k_is)
    (case a42 => k_is); (case l42 => k_is); (case c42 => k_is); (case k42 => k_is)
    (case a43 => k_is); (case l43 => k_is); (case c43 => k_is); (case k43 => k_is)
    (case a44 => k_is); (case l44 => k_is); (case c44 => k_is); (case k44 => k_is)
    (case a45 => k_is); (case l45 => k_is); (case c45 => k_is); (case k45 => k_is)
    (case a46 => k_is); (case l46 => k_is); (case c46 => k_is); (case k46 => k_is)
    (case ns_TooMany => k_is)
    (case ns_Hunting => k_is)
    (case a27000 => k_is); (case i27000 => k_is); (case l27000 => k_is); (case c27000 => k_is); (case k27000 => k_is)
    (case a27001 => k_is); (case i27001 => k_is); (case l27001 => k_is); (case c27001 => k_is); (case k27001 => k_is)
    (case a27002 => k_is); (case i27002 => k_is); (case l27002 => k_is); (case c27002 => k_is); (case k27002 => k_is)
    (case a27003 => k_is); (case i27003 => k_is); (case l27003 => k_is); (case c27003 => k_is); (case k27003 => k_is)
    (case xc_TooMany => k_exc)
    (case kp_TooMany => k_is)
    (case b_TooMany => k_is)
    (case t_TooMany => k_is)
    (case hg_TooMany => k_is)
    (case hk_TooMany => k_is)
    (case hd_TooMany => k_is)
    (case ha_TooMany => k_is)
    (case hm_TooMany => k_is)
    (case op_Hunting => k_is)
    (case oh_Hunting => k_is)
    (case oo_Hunting => k_is)
    (case os_Hunting => k_is)
    (case om_Hunting => k_is)
    (case ok_Hunting => k_is)
    (case of_Hunting_fars => k_is)
    (case of_Hunting_ways => k_is)
    (case of_Hunting_turns => k_is)
    (case of_Hunting_looks => k_is)
    (case hn_ => k_is)
    (case ht_ => k_is)
    (case kc_LEAST_PLACES => k_is)
    (case kc_MOST_PLACES_hunts => k_is)
    (case kc_MOST_PLACES_webs => k_is)
    (case z_all => k_is)
    (case z_any => k_is)
    (case z_enumerate => k_is)
    (case z_int => k_is)
    (case z_isinstance => k_is)
    (case z_len => k_is)
    (case z_list => k_is)
    (case z_max => k_is)
    (case z_min => k_is)
    (case z_range => k_is)
    (case z_sorted => k_is)
    (case z_tuple => k_is)
#print axioms PySem.Challenge.cw_farhail_k61_whole_hunts_and_shelters_pla_holds
