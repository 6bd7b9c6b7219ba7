import PyProof.Rows.All
import Wide.All
import OpenK.AllK
import Wide.FinOn
import HandS.ForMost
import HandS.Wide
import HandS.Walk
import HandS.Deep
import HandS.SortInts
import HandS.Flow
import HandS.IsInst
import PyProof.P3In
import HandS.TupSets
import HandS.Dict
import HandS.Conv
import HandS.SortRule
import KE.KIsAll
import HandS.Base
import HandS.Call
import HandS.Exc
import HandS.ExcOwn
import HandS.ExcIs
import HandS.ExcValue
import HandS.TryOnly
import HandS.WordsExc
import HandS.TupAny
import HandS.DictTup
import KE.KDictWalk
import HandS.SetFor
import HandS.Strs
import HandS.More
import HandS.List
import HandS.Iter
import KE.IntBitsLaws
import PyProof.AutoSeq1
import HandS.Sort
import HandS.SortOrd
import PySem.Challenge.RW_farhail_k19_tree_likes_told
set_option Elab.async false
set_option linter.all false
set_option maxRecDepth 100000
set_option maxHeartbeats 4000000
/-! Z0: results with refusals, data as it stands in a heap, the heap in a frozen part and cells of one's own -/
namespace Z
open PySem L2
abbrev Fg := PySem.W.Frag
/-! ### results -/
structure Exn where
  cls : Str
  arg : Int
  deriving DecidableEq
inductive R (α : Type) where
  | ok (a : α)
  | exc (e : Exn)
  | bad
def R.bind {α β : Type} (m : R α) (f : α → R β) : R β :=
  match m with
  | .ok a => f a
  | .exc e => .exc e
  | .bad => .bad
instance : Monad R where
  pure := R.ok
  bind := R.bind
section
variable {α β γ : Type}
theorem ok_bind (a : α) (f : α → R β) : (R.ok a >>= f) = f a := rfl
theorem bind_bind (m : R α) (f : α → R β) (g : β → R γ) : ((m >>= f) >>= g) = (m >>= fun a => f a >>= g) := by
  cases m <;> rfl
def grd (b : Bool) : R Unit := if b = true then .ok () else .bad
theorem grd_t {b : Bool} (h : b = true) : grd b = R.ok () := by rw [h]; rfl
def ofO (o : Option α) : R α :=
  match o with
  | some a => .ok a
  | none => .bad
theorem ofO_some (a : α) : ofO (some a) = R.ok a := rfl
/-- the item at an index of any sign -/
def getI (xs : List α) (i : Int) : R α := ofO (atI xs i)
/-- the list with another item at an index -/
def setI (xs : List α) (i : Int) (x : α) : R (List α) :=
  match ixN xs.length i with
  | some j => .ok (xs.set j x)
  | none => .bad
/-- a list of at most a thousand items grows by one -/
def app (xs : List α) (x : α) : R (List α) := if xs.length < 100000 then .ok (xs ++ [x]) else .bad
def extend (xs ys : List α) : R (List α) := if xs.length + ys.length < 100000 then .ok (xs ++ ys) else .bad
@[irreducible] def mulI (i j : Int) : R Int := if (-(2 ^ 64) < i ∧ i < 2 ^ 64) ∨ (-(2 ^ 64) < j ∧ j < 2 ^ 64) then .ok (i * j) else .bad
@[irreducible] def modI (i j : Int) : R Int := if 0 < j then .ok (i % j) else .bad
@[irreducible] def divI (i j : Int) : R Int := if 0 < j ∧ j.natAbs.log2 < 9000 then .ok (i / j) else .bad
/-- the ints from i on below j -/
def rng (i j : Int) : List Int := (List.range (j - i).toNat).map fun (k : Nat) => i + (k : Int)
@[irreducible] def rngI (i j : Int) : R (List Int) := if -(2 ^ 62) ≤ i ∧ i < 2 ^ 62 ∧ -(2 ^ 62) ≤ j ∧ j < 2 ^ 62 then .ok (rng i j) else .bad
/-- items for items -/
def mapR (f : α → R β) : List α → R (List β)
  | [] => .ok []
  | x :: xs => do
    let y ← f x
    let ys ← mapR f xs
    pure (y :: ys)
/-- a fold whose turn may leave -/
def foldR (f : β → α → R β) : β → List α → R β
  | s, [] => .ok s
  | s, x :: xs => f s x >>= fun s' => foldR f s' xs
/-- a fold whose turn may end the whole with a value (inl), or the loop alone (inr inl) -/
def foldX {ρ : Type} (f : β → α → R (Sum ρ (Bool × β))) : β → List α → R (Sum ρ β)
  | s, [] => .ok (.inr s)
  | s, x :: xs => f s x >>= fun r =>
    match r with
    | .inl z => .ok (.inl z)
    | .inr (true, s') => foldX f s' xs
    | .inr (false, s') => .ok (.inr s')
/-- what holds of a result -/
def Post (m : R α) (P : α → Prop) (E : Exn → Prop) : Prop :=
  match m with
  | .ok a => P a
  | .exc e => E e
  | .bad => False
variable {P P' : α → Prop} {Q : β → Prop} {E E' : Exn → Prop}
theorem Post.mono {m : R α} (h : Post m P E) (hP : ∀ a, P a → P' a) (hE : ∀ e, E e → E' e) : Post m P' E' := by
  cases m with
  | ok a => exact hP a h
  | exc e => exact hE e h
  | bad => exact h
theorem post_bind {m : R α} {f : α → R β} (h : Post (m >>= f) Q E) : Post m (fun a => Post (f a) Q E) E := by
  cases m <;> exact h
theorem post_ok {a : α} (h : Post (R.ok a) P E) : P a := h
theorem pb_assoc {m : R α} {f : α → R β} {g : β → R γ} {Q : γ → Prop} (h : Post ((m >>= f) >>= g) Q E) : Post (m >>= fun a => f a >>= g) Q E := by
  rw [bind_bind] at h
  exact h
theorem pb_grd {b : Bool} {f : Unit → R β} (h : Post (grd b >>= f) Q E) : b = true ∧ Post (f ()) Q E := by
  cases b with
  | true => exact ⟨rfl, h⟩
  | false => exact (show False from h).elim
theorem pb_ofO {o : Option α} {f : α → R β} (h : Post (ofO o >>= f) Q E) : ∃ a, o = some a ∧ Post (f a) Q E := by
  cases o with
  | some a => exact ⟨a, rfl, h⟩
  | none => exact (show False from h).elim
theorem pb_get {xs : List α} {i : Int} {f : α → R β} (h : Post (getI xs i >>= f) Q E) : ∃ a, atI xs i = some a ∧ Post (f a) Q E := pb_ofO h
theorem pb_set {xs : List α} {i : Int} {x : α} {f : List α → R β} (h : Post (setI xs i x >>= f) Q E) : ∃ j, ixN xs.length i = some j ∧ Post (f (xs.set j x)) Q E := by
  unfold setI at h
  cases e : ixN xs.length i with
  | some j => rw [e] at h; exact ⟨j, rfl, h⟩
  | none => rw [e] at h; exact (show False from h).elim
theorem pb_if {c : Prop} [Decidable c] {a : α} {f : α → R β} (h : Post ((if c then R.ok a else R.bad) >>= f) Q E) : c ∧ Post (f a) Q E := by
  by_cases hc : c
  · rw [if_pos hc] at h
    exact ⟨hc, h⟩
  · rw [if_neg hc] at h
    exact (show False from h).elim
theorem line5 : 100000 ≤ sizeLine := by decide
theorem pb_app {xs : List α} {x : α} {f : List α → R β} (h : Post (app xs x >>= f) Q E) : xs.length < sizeLine ∧ Post (f (xs ++ [x])) Q E :=
  let ⟨a, b⟩ := pb_if h
  ⟨Nat.lt_of_lt_of_le a line5, b⟩
theorem pb_extend {xs ys : List α} {f : List α → R β} (h : Post (extend xs ys >>= f) Q E) : xs.length + ys.length ≤ sizeLine ∧ Post (f (xs ++ ys)) Q E :=
  let ⟨a, b⟩ := pb_if h
  ⟨Nat.le_of_lt (Nat.lt_of_lt_of_le a line5), b⟩
theorem pb_mul {i j : Int} {f : Int → R β} (h : Post (mulI i j >>= f) Q E) : CMul i j ∧ Post (f (i * j)) Q E := by
  unfold mulI at h
  exact let ⟨a, b⟩ := pb_if (c := (-(2 ^ 64) < i ∧ i < 2 ^ 64) ∨ (-(2 ^ 64) < j ∧ j < 2 ^ 64)) h
  ⟨a, b⟩
theorem pb_mod {i j : Int} {f : Int → R β} (h : Post (modI i j >>= f) Q E) : 0 < j ∧ Post (f (i % j)) Q E := by
  unfold modI at h
  exact pb_if h
theorem pb_div {i j : Int} {f : Int → R β} (h : Post (divI i j >>= f) Q E) : CDivW i j ∧ Post (f (i / j)) Q E := by
  unfold divI at h
  exact let ⟨a, b⟩ := pb_if (c := 0 < j ∧ j.natAbs.log2 < 9000) h
  ⟨a, b⟩
theorem pb_rng {i j : Int} {f : List Int → R β} (h : Post (rngI i j >>= f) Q E) : (-(2 ^ 62) ≤ i ∧ i < 2 ^ 62 ∧ -(2 ^ 62) ≤ j ∧ j < 2 ^ 62) ∧ Post (f (rng i j)) Q E := by
  unfold rngI at h
  exact pb_if h
theorem post_ite {c : Bool} {m n : R α} {A B : Prop} (h : Post (if c = true then m else n) P E) (ht : c = true → Post m P E → A) (hf : c = false → Post n P E → B) : if c = true then A else B := by
  cases c with
  | true => exact ht rfl h
  | false => exact hf rfl h
theorem pb_foldR {f : γ → α → R γ} {s : γ} {x : α} {xs : List α} {g : γ → R β} (h : Post (foldR f s (x :: xs) >>= g) Q E) : Post (f s x >>= fun s' => foldR f s' xs >>= g) Q E := by
  have h' : Post ((f s x >>= fun s' => foldR f s' xs) >>= g) Q E := h
  rw [bind_bind] at h'
  exact h'
end
/-! ### lists of values and what they stand for -/
inductive A2 {α : Type} (r : V → α → Prop) : List V → List α → Prop
  | nil : A2 r [] []
  | cons {v : V} {x : α} {vs : List V} {xs : List α} : r v x → A2 r vs xs → A2 r (v :: vs) (x :: xs)
section
variable {α : Type} {r r' : V → α → Prop} {vs us : List V} {xs ys : List α} {v : V} {x : α}
theorem A2.length : ∀ {vs : List V} {xs : List α}, A2 r vs xs → vs.length = xs.length
  | _, _, .nil => rfl
  | _, _, .cons _ t => by rw [List.length_cons, List.length_cons, A2.length t]
theorem A2.imp (f : ∀ v x, r v x → r' v x) : ∀ {vs : List V} {xs : List α}, A2 r vs xs → A2 r' vs xs
  | _, _, .nil => .nil
  | _, _, .cons h t => .cons (f _ _ h) (A2.imp f t)
theorem A2.append : ∀ {vs us : List V} {xs ys : List α}, A2 r vs xs → A2 r us ys → A2 r (vs ++ us) (xs ++ ys)
  | _, _, _, _, .nil, h => h
  | _, _, _, _, .cons a t, h => .cons a (A2.append t h)
theorem A2.snoc (h : A2 r vs xs) (a : r v x) : A2 r (vs ++ [v]) (xs ++ [x]) := h.append (.cons a .nil)
theorem A2.get : ∀ {vs : List V} {xs : List α} {i : Nat} {x : α}, A2 r vs xs → xs[i]? = some x → ∃ v, vs[i]? = some v ∧ r v x
  | _, _, _, _, .nil, e => by simp at e
  | _, _, 0, _, .cons a _, e => by simp at e; subst e; exact ⟨_, rfl, a⟩
  | _, _, i + 1, x, .cons _ t, e => by
    obtain ⟨v, h1, h2⟩ := A2.get (i := i) (x := x) t (by simpa using e)
    exact ⟨v, by simpa using h1, h2⟩
theorem A2.getV : ∀ {vs : List V} {xs : List α} {i : Nat} {v : V}, A2 r vs xs → vs[i]? = some v → ∃ x, xs[i]? = some x ∧ r v x
  | _, _, _, _, .nil, e => by simp at e
  | _, _, 0, _, .cons a _, e => by simp at e; subst e; exact ⟨_, rfl, a⟩
  | _, _, i + 1, x, .cons _ t, e => by
    obtain ⟨v, h1, h2⟩ := A2.getV (i := i) (v := x) t (by simpa using e)
    exact ⟨v, by simpa using h1, h2⟩
theorem A2.at {i : Int} (h : A2 r vs xs) (e : atI xs i = some x) : ∃ v, atI vs i = some v ∧ r v x := by
  unfold atI at e ⊢
  rw [h.length]
  cases q : ixN xs.length i with
  | none => rw [q] at e; cases e
  | some j =>
    rw [q] at e
    exact h.get e
theorem A2.set (a : r v x) : ∀ {vs : List V} {xs : List α} (i : Nat), A2 r vs xs → A2 r (vs.set i v) (xs.set i x)
  | _, _, _, .nil => .nil
  | _, _, 0, .cons _ t => .cons a t
  | _, _, i + 1, .cons q t => .cons q (A2.set a i t)
theorem A2.take : ∀ {vs : List V} {xs : List α} (n : Nat), A2 r vs xs → A2 r (vs.take n) (xs.take n)
  | _, _, 0, _ => .nil
  | _, _, _ + 1, .nil => .nil
  | _, _, n + 1, .cons a t => .cons a (A2.take n t)
theorem A2.drop : ∀ {vs : List V} {xs : List α} (n : Nat), A2 r vs xs → A2 r (vs.drop n) (xs.drop n)
  | _, _, 0, h => h
  | _, _, _ + 1, .nil => .nil
  | _, _, n + 1, .cons _ t => A2.drop n t
theorem A2.eraseIdx : ∀ {vs : List V} {xs : List α} (i : Nat), A2 r vs xs → A2 r (vs.eraseIdx i) (xs.eraseIdx i)
  | _, _, _, .nil => .nil
  | _, _, 0, .cons _ t => t
  | _, _, i + 1, .cons a t => .cons a (A2.eraseIdx i t)
end
/-! ### data in a heap -/
class Rep (α : Type) where
  rep : Fg → Hp → V → α → Prop
  mono : ∀ {K : Fg} {H H' : Hp} {v : V} {x : α}, Same H H' → rep K H v x → rep K H' v x
open Rep (rep)
section
variable {α β : Type} [Rep α] [Rep β] {K : Fg} {H H' : Hp} {v : V}
theorem A2.mono {vs : List V} {xs : List α} (s : Same H H') (h : A2 (rep K H) vs xs) : A2 (rep K H') vs xs := h.imp fun _ _ => Rep.mono s
instance : Rep Int := ⟨fun _ _ v x => v = .int x, fun _ h => h⟩
instance : Rep Bool := ⟨fun _ _ v x => v = .bl x, fun _ h => h⟩
instance : Rep Unit := ⟨fun _ _ v _ => v = .non, fun _ h => h⟩
instance : Rep Str := ⟨fun _ _ v x => v = .str x, fun _ h => h⟩
instance repOpt : Rep (Option α) := ⟨fun K H v x => match x with
  | none => v = .non
  | some y => rep K H v y, fun {_ _ _ _ x} s h => by
    cases x with
    | none => exact h
    | some y => exact Rep.mono (α := α) s h⟩
instance repPair : Rep (α × β) := ⟨fun K H v x => ∃ a u w, v = .ref a ∧ H a = some (.tup [u, w]) ∧ rep K H u x.1 ∧ rep K H w x.2,
  fun s ⟨a, u, w, e, q, h1, h2⟩ => ⟨a, u, w, e, s _ _ q, Rep.mono s h1, Rep.mono s h2⟩⟩
instance repList : Rep (List α) := ⟨fun K H v xs => ∃ a vs, v = .ref a ∧ H a = some (.lst vs) ∧ A2 (rep K H) vs xs,
  fun s ⟨a, vs, e, q, h⟩ => ⟨a, vs, e, s _ _ q, h.mono s⟩⟩
/-- the script -/
structure Scr where
  l : List Int
  deriving DecidableEq
instance repScr : Rep Scr := ⟨fun K H v xs => ∃ a, v = .ref a ∧ SqL K H a (xs.l.map V.int), fun s ⟨a, e, q⟩ => ⟨a, e, s.seq q⟩⟩
/-- a tuple of any number of like things -/
structure Tup (α : Type) where
  l : List α
  deriving DecidableEq
instance repTup : Rep (Tup α) := ⟨fun K H v xs => ∃ a vs, v = .ref a ∧ H a = some (.tup vs) ∧ A2 (rep K H) vs xs.l,
  fun s ⟨a, vs, e, q, h⟩ => ⟨a, vs, e, s _ _ q, h.mono s⟩⟩
/-- a place, or a pair -/
inductive Thing where
  | pl (i : Int)
  | ti (a b : Int)
  deriving DecidableEq
instance repThing : Rep Thing := ⟨fun K H v x => match x with
  | .pl i => v = .int i
  | .ti a b => rep K H v (a, b), fun {_ _ _ _ x} s h => by
    cases x with
    | pl i => exact h
    | ti a b => exact Rep.mono (α := Int × Int) s h⟩
theorem A2.ints {vs : List V} {xs : List Int} (h : A2 (rep K H) vs xs) : vs = xs.map V.int := by
  induction h with
  | nil => rfl
  | cons a _ ih =>
    have a' : _ = V.int _ := a
    rw [a', ih]
    rfl
theorem A2.of_ints {xs : List Int} : A2 (rep K H) (xs.map V.int) xs := by
  induction xs with
  | nil => exact .nil
  | cons x xs ih => exact .cons rfl ih
theorem A2.bools {vs : List V} {xs : List Bool} (h : A2 (rep K H) vs xs) : vs = xs.map V.bl := by
  induction h with
  | nil => rfl
  | cons a _ ih =>
    have a' : _ = V.bl _ := a
    rw [a', ih]
    rfl
end
/-! ### the heap: F, frozen, is read alone; the cells os are one's own, not in F -/
structure W (F H : Hp) (os : List (Addr × HO)) : Prop where
  same : Same F H
  own : ∀ p ∈ os, H p.1 = some p.2 ∧ F p.1 = none
  nd : os.Pairwise fun p q => p.1 ≠ q.1
  nt : ∀ p ∈ os, ∀ vs, p.2 ≠ .tup vs
theorem same_new {H : Hp} {p : Addr} {o : HO} (h : H p = none) : Same H (upd H p o) := fun a u e => by
  rw [upd_ne (ne_of_none e h)]
  exact e
section
variable {F H : Hp} {os pre post : List (Addr × HO)} {a p : Addr} {o o' : HO}
theorem W.free (w : W F H os) (n : H p = none) : F p = none := w.same.free n
theorem W.get (w : W F H (pre ++ (a, o) :: post)) : H a = some o := (w.own (a, o) (List.mem_append_right _ List.mem_cons_self)).1
theorem W.no (w : W F H (pre ++ (a, o) :: post)) : F a = none := (w.own (a, o) (List.mem_append_right _ List.mem_cons_self)).2
theorem W.ne (w : W F H os) (n : H p = none) : ∀ q ∈ os, q.1 ≠ p := fun q hq e => by
  have h := (w.own q hq).1
  rw [e, n] at h
  cases h
/-- a new thing, never to be written -/
theorem W.frz (w : W F H os) (n : H p = none) : W (upd F p o) (upd H p o) os where
  same := fun b u e => by
    by_cases hb : b = p
    · subst hb
      rw [upd_same] at e ⊢
      exact e
    · rw [upd_ne hb] at e ⊢
      exact w.same b u e
  own := fun q hq => by
    have hne := w.ne n q hq
    rw [upd_ne hne, upd_ne hne]
    exact w.own q hq
  nd := w.nd
  nt := w.nt
theorem W.frzS (w : W F H os) (n : H p = none) : Same F (upd F p o) := same_new (w.free n)
/-- a new cell of one's own -/
theorem W.new (w : W F H os) (n : H p = none) (ho : ∀ vs, o ≠ .tup vs := by exact fun _ h => nomatch h) : W F (upd H p o) ((p, o) :: os) where
  same := w.same.trans (same_new n)
  own := fun q hq => by
    rcases List.mem_cons.mp hq with rfl | hq
    · exact ⟨upd_same, w.free n⟩
    · rw [upd_ne (w.ne n q hq)]
      exact w.own q hq
  nd := List.pairwise_cons.mpr ⟨fun q hq => fun e => w.ne n q hq e.symm, w.nd⟩
  nt := fun q hq => by
    rcases List.mem_cons.mp hq with rfl | hq
    · exact ho
    · exact w.nt q hq
/-- a cell of one's own is written -/
theorem W.set (w : W F H (pre ++ (a, o) :: post)) (ho : ∀ vs, o' ≠ .tup vs := by exact fun _ h => nomatch h) : W F (upd H a o') (pre ++ (a, o') :: post) where
  same := fun b u e => by
    have hn := w.no
    rw [upd_ne (ne_of_none e hn)]
    exact w.same b u e
  own := fun q hq => by
    have nd := w.nd
    rw [List.pairwise_append] at nd
    obtain ⟨_, n2, n3⟩ := nd
    rw [List.pairwise_cons] at n2
    rcases List.mem_append.mp hq with hq | hq
    · have hne : q.1 ≠ a := n3 q hq (a, o) List.mem_cons_self
      rw [upd_ne hne]
      exact w.own q (List.mem_append_left _ hq)
    · rcases List.mem_cons.mp hq with rfl | hq
      · exact ⟨upd_same, w.no⟩
      · have hne : q.1 ≠ a := fun e => n2.1 q hq e.symm
        rw [upd_ne hne]
        exact w.own q (List.mem_append_right _ (List.mem_cons_of_mem _ hq))
  nd := by
    have nd := w.nd
    rw [List.pairwise_append] at nd ⊢
    obtain ⟨n1, n2, n3⟩ := nd
    rw [List.pairwise_cons] at n2 ⊢
    refine ⟨n1, ⟨n2.1, n2.2⟩, fun x hx y hy => ?_⟩
    rcases List.mem_cons.mp hy with rfl | hy
    · exact n3 x hx (a, o) List.mem_cons_self
    · exact n3 x hx y (List.mem_cons_of_mem _ hy)
  nt := fun q hq => by
    rcases List.mem_append.mp hq with hq | hq
    · exact w.nt q (List.mem_append_left _ hq)
    · rcases List.mem_cons.mp hq with rfl | hq
      · exact ho
      · exact w.nt q (List.mem_append_right _ (List.mem_cons_of_mem _ hq))
/-- a cell is forgotten -/
theorem W.drop (w : W F H (pre ++ (a, o) :: post)) : W F H (pre ++ post) where
  same := w.same
  own := fun q hq => w.own q (by
    rcases List.mem_append.mp hq with h | h
    · exact List.mem_append_left _ h
    · exact List.mem_append_right _ (List.mem_cons_of_mem _ h))
  nd := by
    have nd := w.nd
    rw [List.pairwise_append] at nd ⊢
    obtain ⟨n1, n2, n3⟩ := nd
    rw [List.pairwise_cons] at n2
    exact ⟨n1, n2.2, fun x hx y hy => n3 x hx y (List.mem_cons_of_mem _ hy)⟩
  nt := fun q hq => w.nt q (by
    rcases List.mem_append.mp hq with h | h
    · exact List.mem_append_left _ h
    · exact List.mem_append_right _ (List.mem_cons_of_mem _ h))
/-- a cell of one's own is never written again -/
theorem W.freeze (w : W F H (pre ++ (a, o) :: post)) : W (upd F a o) H (pre ++ post) where
  same := fun b u e => by
    by_cases hb : b = a
    · subst hb
      rw [upd_same] at e
      rw [← e]
      exact w.get
    · rw [upd_ne hb] at e
      exact w.same b u e
  own := fun q hq => by
    have nd := w.nd
    rw [List.pairwise_append] at nd
    obtain ⟨n1, n2, n3⟩ := nd
    rw [List.pairwise_cons] at n2
    have hne : q.1 ≠ a := by
      rcases List.mem_append.mp hq with h | h
      · exact n3 q h (a, o) List.mem_cons_self
      · exact fun e => n2.1 q h e.symm
    have h := w.drop.own q hq
    rw [upd_ne hne]
    exact h
  nd := w.drop.nd
  nt := w.drop.nt
theorem W.freezeS (w : W F H (pre ++ (a, o) :: post)) : Same F (upd F a o) := same_new w.no
/-- a cell is told first -/
theorem W.front (w : W F H (pre ++ (a, o) :: post)) : W F H ((a, o) :: (pre ++ post)) where
  same := w.same
  own := fun x hx => w.own x (by
    rcases List.mem_cons.mp hx with rfl | h
    · exact List.mem_append_right _ List.mem_cons_self
    · rcases List.mem_append.mp h with h | h
      · exact List.mem_append_left _ h
      · exact List.mem_append_right _ (List.mem_cons_of_mem _ h))
  nd := by
    have nd := w.nd
    have nd' := w.drop.nd
    rw [List.pairwise_append] at nd
    obtain ⟨n1, n2, n3⟩ := nd
    rw [List.pairwise_cons] at n2
    refine List.pairwise_cons.mpr ⟨fun x hx => ?_, nd'⟩
    rcases List.mem_append.mp hx with h | h
    · exact fun e => n3 x h (a, o) List.mem_cons_self e.symm
    · exact n2.1 x h
  nt := fun x hx => w.nt x (by
    rcases List.mem_cons.mp hx with rfl | h
    · exact List.mem_append_right _ List.mem_cons_self
    · rcases List.mem_append.mp h with h | h
      · exact List.mem_append_left _ h
      · exact List.mem_append_right _ (List.mem_cons_of_mem _ h))
end
/-! ### what a call hands back -/
section
variable {α β : Type} [Rep α] [Rep β]
/-- a value of the frozen part -/
def Ret (K : Fg) (F : Hp) (os : List (Addr × HO)) (Q : VK) (y : α) : Prop := ∀ v F' H', W F' H' os → Same F F' → rep K F' v y → Q v H'
/-- a new list, the caller's own -/
def RetL (K : Fg) (F : Hp) (os : List (Addr × HO)) (Q : VK) (ys : List α) : Prop := ∀ p vs F' H', W F' H' ((p, .lst vs) :: os) → Same F F' → A2 (rep K F') vs ys → Q (.ref p) H'
/-- a value, and what the list at a holds now -/
def RetM (K : Fg) (F : Hp) (a : Addr) (os : List (Addr × HO)) (Q : VK) (y : α × List β) : Prop :=
  ∀ v vs F' H', W F' H' ((a, .lst vs) :: os) → Same F F' → rep K F' v y.1 → A2 (rep K F') vs y.2 → Q v H'
/-- a new list, the caller's own, and what the list at a holds now -/
def RetLM (K : Fg) (F : Hp) (a : Addr) (os : List (Addr × HO)) (Q : VK) (y : List α × List β) : Prop :=
  ∀ p us vs F' H', W F' H' ((p, .lst us) :: (a, .lst vs) :: os) → Same F F' → A2 (rep K F') us y.1 → A2 (rep K F') vs y.2 → Q (.ref p) H'
def noX : Exn → Prop := fun _ => False
end
end Z
/-! Z1: loops, comprehensions and joins against their mirrors; calls by typed data -/
namespace Z
open PySem L2
open Rep (rep)
/-! ### ways that join -/
section
variable {γ δ : Type} {m : R γ} {k : γ → R δ} {P : δ → Prop} {X : Exn → Prop}
theorem joinS {t u : TS} {D : Ends} {σ : St} {H : Hp} (hm : Post (m >>= k) P X) (J : γ → St → Hp → Prop)
    (h : ∀ (N : St → Hp → Prop) (P' : γ → Prop), (∀ g, P' g → ∀ σ' H', J g σ' H' → N σ' H') → Post m P' X → t { D with nx := N } σ H)
    (h2 : ∀ g σ' H', J g σ' H' → Post (k g) P X → u D σ' H') : tSeq t u D σ H :=
  h _ _ (fun g p σ' H' j => h2 g σ' H' j p) (post_bind hm)
theorem joinT {t : TT} {σ : St} {H : Hp} {Q : Bool → Hp → Prop} (hm : Post (m >>= k) P X) (J : γ → Bool → Hp → Prop)
    (h : ∀ (Q' : Bool → Hp → Prop) (P' : γ → Prop), (∀ g, P' g → ∀ c H', J g c H' → Q' c H') → Post m P' X → t σ H Q')
    (h2 : ∀ g c H', J g c H' → Post (k g) P X → Q c H') : t σ H Q :=
  h _ _ (fun g p c H' j => h2 g c H' j p) (post_bind hm)
/-- a test of a value that is told -/
theorem cutT {t : TT} {σ : St} {H : Hp} {Q : Bool → Hp → Prop} (J : Bool → Hp → Prop) (h : ∀ Q' : Bool → Hp → Prop, (∀ c H', J c H' → Q' c H') → t σ H Q') (h2 : ∀ c H', J c H' → Q c H') : t σ H Q := h _ h2
theorem cutE {t : TE} {σ : St} {H : Hp} {Q : VK} (J : V → Hp → Prop) (h : ∀ Q' : VK, (∀ c H', J c H' → Q' c H') → t σ H Q') (h2 : ∀ c H', J c H' → Q c H') : t σ H Q := h _ h2
theorem ifB {c : Bool} {A B : Prop} (h1 : c = true → A) (h2 : c = false → B) : if c = true then A else B := by
  cases c with
  | true => exact h1 rfl
  | false => exact h2 rfl
end
/-! ### what is walked, typed -/
structure TW (J : It) {β : Type} (items : List β) (G : Hp → Prop) (Y : β → Hp → V → Hp → Prop) : Prop where
  walk : Walk J items.length G (fun i H x H' => ∃ b, items[i]? = some b ∧ Y b H x H')
section
variable {K : Fg} {F : Hp} {a : Addr} {α β : Type} [Rep α] [Rep β] {vs us : List V} {xs : List α} {ys : List β}
theorem tw_list (h : A2 (rep K F) vs xs) : TW (Itl K a) xs (fun H => SqL K H a vs) (fun b H x H' => H' = H ∧ rep K F x b) := ⟨by
  rw [← h.length]
  exact walk_list.mono (fun _ g => g) fun i H x H' _ _ y => by
    obtain ⟨y1, y2⟩ := y
    obtain ⟨b, h1, h2⟩ := h.getV y2
    exact ⟨b, h1, y1, h2⟩⟩
theorem tw_tup (h : A2 (rep K F) vs xs) : TW (Itt K a) xs (fun H => SqT K H a vs) (fun b H x H' => H' = H ∧ rep K F x b) := ⟨by
  rw [← h.length]
  exact walk_tup.mono (fun _ g => g) fun i H x H' _ _ y => by
    obtain ⟨y1, y2⟩ := y
    obtain ⟨b, h1, h2⟩ := h.getV y2
    exact ⟨b, h1, y1, h2⟩⟩
theorem rng_length (i j : Int) : (rng i j).length = (j - i).toNat := by
  unfold rng
  rw [List.length_map, List.length_range]
theorem rng_get {i j : Int} {n : Nat} (h : n < (j - i).toNat) : (rng i j)[n]? = some (i + (n : Int)) := by
  unfold rng
  rw [List.getElem?_map, List.getElem?_range h]
  rfl
theorem tw_rng {i j : Int} : TW (Itr i (j - i).toNat) (rng i j) (fun _ => True) (fun b H x H' => H' = H ∧ x = .int b) := ⟨by
  rw [rng_length]
  exact walk_range.mono (fun _ g => g) fun n H x H' hn _ y => ⟨_, rng_get hn, y.1, y.2⟩⟩
theorem tw_rng0 {j : Int} : TW (Itr 0 j.toNat) (rng 0 j) (fun _ => True) (fun b H x H' => H' = H ∧ x = .int b) := by
  have h := tw_rng (i := 0) (j := j)
  rw [Int.sub_zero] at h
  exact h
/-- pairs of a place and the item there -/
def enum (xs : List α) : List (Int × α) := (rng 0 xs.length).zip xs
theorem enum_length (xs : List α) : (enum xs).length = xs.length := by
  unfold enum
  rw [List.length_zip, rng_length]
  omega
theorem enum_get {xs : List α} {i : Nat} {x : α} (h : xs[i]? = some x) : (enum xs)[i]? = some ((i : Int), x) := by
  have hl := (List.getElem?_eq_some_iff.mp h).1
  unfold enum
  rw [List.getElem?_zip_eq_some]
  refine ⟨?_, h⟩
  rw [rng_get (by omega)]
  simp
theorem tw_enum (h : A2 (rep K F) vs xs) : TW (Ite K a) (enum xs) (fun H => SqL K H a vs) (fun b H v H' => ∃ T x, v = .ref T ∧ H T = none ∧ H' = upd H T (.tup [.int b.1, x]) ∧ rep K F x b.2) := ⟨by
  rw [enum_length, ← h.length]
  exact walk_enum.mono (fun _ g => g) fun i H x H' _ _ y => by
    obtain ⟨T, u, w, e1, e2, e3, e4, e5⟩ := y
    obtain ⟨b, h1, h2⟩ := h.getV e5
    cases e4
    exact ⟨((i : Int), b), enum_get h1, T, w, e1, e2, e3, h2⟩⟩
theorem tw_zip {b : Addr} (h : A2 (rep K F) vs xs) (h' : A2 (rep K F) us ys) : TW (Itz K a b) (xs.zip ys) (fun H => SqL K H a vs ∧ SqL K H b us) (fun p H v H' => ∃ T x y, v = .ref T ∧ H T = none ∧ H' = upd H T (.tup [x, y]) ∧ rep K F x p.1 ∧ rep K F y p.2) := ⟨by
  rw [List.length_zip, ← h.length, ← h'.length]
  exact (walk_zip rfl).mono (fun _ g => g) fun i H x H' _ _ y => by
    obtain ⟨T, u, w, e1, e2, e3, e4, e5⟩ := y
    obtain ⟨c, h1, h2⟩ := h.getV e4
    obtain ⟨d, h3, h4⟩ := h'.getV e5
    refine ⟨(c, d), ?_, T, u, w, e1, e2, e3, h2, h4⟩
    rw [List.getElem?_zip_eq_some]
    exact ⟨h1, h3⟩⟩
end
/-! ### for -/
section
variable {J : It} {β γ δ ρ : Type} {items : List β} {G : Hp → Prop} {Y : β → Hp → V → Hp → Prop} {g : TG} {tb : TS} {D : Ends} {σ : St} {H : Hp} {P : δ → Prop} {X : Exn → Prop}
theorem drop_cons {l : List β} {i : Nat} {b : β} (h : l[i]? = some b) : l.drop i = b :: l.drop (i + 1) := by
  obtain ⟨hl, e⟩ := List.getElem?_eq_some_iff.mp h
  rw [List.drop_eq_getElem_cons hl, e]
theorem forS (tw : TW J items G Y) {body : γ → β → R γ} {s0 : γ} {k : γ → R δ} (hm : Post (foldR body s0 items >>= k) P X) (I : γ → St → Hp → Prop) (h0 : I s0 σ H) (hG : ∀ c σ H, I c σ H → G H)
    (hs : ∀ (b : β) (c : γ) (x : V) (σ : St) (H H' : Hp) (N : St → Hp → Prop) (P' : γ → Prop), I c σ H → Y b H x H' → (∀ c', P' c' → ∀ σ' H', I c' σ' H' → N σ' H') → Post (body c b) P' X → g x σ H' fun σ2 H2 => tb { D with nx := N, ct := N, bk := D.nx } σ2 H2)
    (hd : ∀ c σ H, I c σ H → Post (k c) P X → D.nx σ H) :
    ∃ W : Nat → Nat → St → Hp → Prop, (∃ m, W 0 m σ H) ∧ ∀ i m σ H, W i m σ H →
      (J.stop i H ∧ D.nx σ H) ∨ (J.go i H ∧ ∃ N : St → Hp → Prop, (∀ σ' H', N σ' H' → ∃ m', m' < m ∧ W (i + 1) m' σ' H') ∧ ∀ x H', J.yld i H x H' → g x σ H' fun σ2 H2 => tb { D with nx := N, ct := N, bk := D.nx } σ2 H2) := by
  refine for_it tw.walk (fun i σ H => ∃ c, I c σ H ∧ Post (foldR body c (items.drop i) >>= k) P X) ⟨s0, h0, hm⟩ (fun i σ H _ ⟨c, h, _⟩ => hG c σ H h) ?_ ?_
  · rintro i x σ H H' hi ⟨c, h, hm⟩ ⟨b, hb, y⟩
    rw [drop_cons hb] at hm
    exact hs b c x σ H H' _ _ h y (fun c' p' σ' H' h' => ⟨c', h', p'⟩) (post_bind (pb_foldR hm))
  · rintro σ H ⟨c, h, hm⟩
    rw [List.drop_length] at hm
    exact hd c σ H h hm
/-- a for that may end the whole, or itself -/
theorem forX (tw : TW J items G Y) {body : γ → β → R (Sum ρ (Bool × γ))} {s0 : γ} {k : Sum ρ γ → R δ} (hm : Post (foldX body s0 items >>= k) P X) (I : γ → St → Hp → Prop) (h0 : I s0 σ H) (hG : ∀ c σ H, I c σ H → G H)
    (hs : ∀ (b : β) (c : γ) (x : V) (σ : St) (H H' : Hp) (N B : St → Hp → Prop) (P' : Sum ρ (Bool × γ) → Prop), I c σ H → Y b H x H' → (∀ c', P' (.inr (true, c')) → ∀ σ' H', I c' σ' H' → N σ' H') → (∀ c', P' (.inr (false, c')) → ∀ σ' H', I c' σ' H' → B σ' H') →
      (∀ z, P' (.inl z) → Post (k (.inl z)) P X) → Post (body c b) P' X → g x σ H' fun σ2 H2 => tb { D with nx := N, ct := N, bk := B } σ2 H2)
    (hd : ∀ c σ H, I c σ H → Post (k (.inr c)) P X → D.nx σ H) :
    ∃ W : Nat → Nat → St → Hp → Prop, (∃ m, W 0 m σ H) ∧ ∀ i m σ H, W i m σ H →
      (J.stop i H ∧ D.nx σ H) ∨ (J.go i H ∧ ∃ N : St → Hp → Prop, (∀ σ' H', N σ' H' → ∃ m', m' < m ∧ W (i + 1) m' σ' H') ∧ ∀ x H', J.yld i H x H' → g x σ H' fun σ2 H2 => tb { D with nx := N, ct := N, bk := D.nx } σ2 H2) := by
  refine for_it tw.walk (fun i σ H => ∃ c, I c σ H ∧ Post (foldX body c (items.drop i) >>= k) P X) ⟨s0, h0, hm⟩ (fun i σ H _ ⟨c, h, _⟩ => hG c σ H h) ?_ ?_
  · rintro i x σ H H' hi ⟨c, h, hm⟩ ⟨b, hb, y⟩
    rw [drop_cons hb] at hm
    have hm' : Post ((body c b >>= fun r => match r with
      | .inl z => (R.ok (.inl z) : R (Sum ρ γ))
      | .inr (true, s') => foldX body s' (items.drop (i + 1))
      | .inr (false, s') => R.ok (.inr s')) >>= k) P X := hm
    rw [bind_bind] at hm'
    exact hs b c x σ H H' _ _ _ h y (fun c' p' σ' H' h' => ⟨c', h', p'⟩) (fun c' p' σ' H' h' => hd c' σ' H' h' p') (fun z p' => p') (post_bind hm')
  · rintro σ H ⟨c, h, hm⟩
    rw [List.drop_length] at hm
    exact hd c σ H h hm
end
/-! ### comprehensions -/
/-- items for items, of a list that is not too long -/
def mapG {α β : Type} (f : α → R β) (xs : List α) : R (List β) := grd (decide (xs.length < 100000)) >>= fun _ => mapR f xs
/-- items for some items -/
def filR {α β : Type} (f : α → R (Option β)) : List α → R (List β)
  | [] => .ok []
  | x :: xs => f x >>= fun o => filR f xs >>= fun ys => match o with
    | some y => .ok (y :: ys)
    | none => .ok ys
def filG {α β : Type} (f : α → R (Option β)) (xs : List α) : R (List β) := grd (decide (xs.length < 100000)) >>= fun _ => filR f xs
/-- items for items, by a state that turns -/
def mapSt {α β γ : Type} (f : γ → α → R (β × γ)) : γ → List α → R (List β × γ)
  | s, [] => .ok ([], s)
  | s, x :: xs => f s x >>= fun p => mapSt f p.2 xs >>= fun q => .ok (p.1 :: q.1, q.2)
def mapStG {α β γ : Type} (f : γ → α → R (β × γ)) (s : γ) (xs : List α) : R (List β × γ) := grd (decide (xs.length < 100000)) >>= fun _ => mapSt f s xs
/-- items for some items, by a state that turns -/
def filSt {α β γ : Type} (f : γ → α → R (Option β × γ)) : γ → List α → R (List β × γ)
  | s, [] => .ok ([], s)
  | s, x :: xs => f s x >>= fun p => filSt f p.2 xs >>= fun q => match p.1 with
    | some y => .ok (y :: q.1, q.2)
    | none => .ok q
def filStG {α β γ : Type} (f : γ → α → R (Option β × γ)) (s : γ) (xs : List α) : R (List β × γ) := grd (decide (xs.length < 100000)) >>= fun _ => filSt f s xs
section
variable {J : It} {β γ δ ε : Type} {items : List β} {G : Hp → Prop} {Y : β → Hp → V → Hp → Prop} {g : TG} {tt : TT} {te : TE} {P : ε → Prop} {X : Exn → Prop} {K : Fg} {vs : List Nat} {σ : St} {F H1 : Hp} {os : List (Addr × HO)} {D : Addr} {Qd : Hp → Prop}
/-- what is asked of a comprehension's list D behind its walk J: by the readings' own words -/
abbrev LcAsk (J : It) (g : TG) (tt : TT) (te : TE) (vs : List Nat) (σ : St) (H1 : Hp) (D : Addr) (Qd : Hp → Prop) : Prop :=
  ∃ W : Nat → Nat → Hp → Prop, (∃ m, W 0 m (upd H1 D (.lst []))) ∧ ∀ i m H, W i m H →
      (J.stop i H ∧ Qd H) ∨ (J.go i H ∧ ∃ Nx : Hp → Prop, (∀ H', Nx H' → ∃ m', m' < m ∧ W (i + 1) m' H') ∧ ∀ x H', J.yld i H x H' → g x (wipe σ vs) H' fun σ2 H2 => wipe σ2 vs = wipe σ vs ∧ tt σ2 H2 fun b H3 =>
        if b = true then te σ2 H3 fun y H4 => ∃ acc, H4 D = some (.lst acc) ∧ acc.length < sizeLine ∧ Nx (upd H4 D (.lst (acc ++ [y]))) else Nx H3)
/-- the state and the items told of a comprehension: os by the state -/
theorem lcFil [Rep δ] (tw : TW J items G Y) {f : γ → β → R (Option δ × γ)} {s0 : γ} {k : List δ × γ → R ε} (hm : Post (filStG f s0 items >>= k) P X) (O : γ → Hp → List (Addr × HO) → Prop) (w : W F H1 os) (o0 : O s0 F os) (nD : H1 D = none)
    (hG : ∀ c F' H' os' acc, Same F F' → W F' H' ((D, .lst acc) :: os') → O c F' os' → G H')
    (hs : ∀ (b : β) (c : γ) (x : V) (F' H' H'' : Hp) (os' : List (Addr × HO)) (acc : List V) (N : V → Hp → Prop) (N0 : Hp → Prop) (P' : Option δ × γ → Prop), Same F F' → W F' H' ((D, .lst acc) :: os') → O c F' os' → Y b H' x H'' →
      (∀ d c', P' (some d, c') → ∀ y F'' H'' os'', W F'' H'' ((D, .lst acc) :: os'') → Same F' F'' → O c' F'' os'' → rep K F'' y d → N y H'') →
      (∀ c', P' (none, c') → ∀ F'' H'' os'', W F'' H'' ((D, .lst acc) :: os'') → Same F' F'' → O c' F'' os'' → N0 H'') → Post (f c b) P' X →
      g x (wipe σ vs) H'' fun σ2 H2 => wipe σ2 vs = wipe σ vs ∧ tt σ2 H2 fun b H3 => if b = true then te σ2 H3 N else N0 H3)
    (hd : ∀ c us F' H' os' ys, Same F F' → W F' H' ((D, .lst us) :: os') → O c F' os' → A2 (rep K F') us ys → Post (k (ys, c)) P X → Qd H') : LcAsk J g tt te vs σ H1 D Qd := by
  obtain ⟨hlen, hm⟩ := pb_grd (pb_assoc hm)
  have hlen : items.length < sizeLine := Nat.lt_of_lt_of_le (of_decide_eq_true hlen) line5
  refine lc_it tw.walk (fun i H => ∃ c F' os' us ys, i ≤ items.length ∧ Same F F' ∧ W F' H ((D, .lst us) :: os') ∧ O c F' os' ∧ A2 (rep K F') us ys ∧ ys.length ≤ i ∧ Post (filSt f c (items.drop i) >>= fun q => k (ys ++ q.1, q.2)) P X) ?_ ?_ ?_ ?_
  · exact ⟨s0, F, os, [], [], Nat.zero_le _, Same.refl _, w.new nD, o0, .nil, Nat.le_refl _, hm⟩
  · rintro i H _ ⟨c, F', os', us, ys, _, s, w', o, _⟩
    exact hG c F' H os' us s w' o
  · rintro i x H H' hi ⟨c, F', os', us, ys, _, s, w', o, h, hl, hm⟩ ⟨b, hb, y⟩
    rw [drop_cons hb] at hm
    have hm' : Post ((f c b >>= fun p => filSt f p.2 (items.drop (i + 1)) >>= fun q => match p.1 with
      | some y => (R.ok (y :: q.1, q.2) : R (List δ × γ))
      | none => R.ok q) >>= fun q => k (ys ++ q.1, q.2)) P X := hm
    rw [bind_bind] at hm'
    have hm2 := post_bind hm'
    have hul : us.length = ys.length := h.length
    refine hs b c x F' H H' os' us (fun y H4 => ∃ acc, H4 D = some (.lst acc) ∧ acc.length < sizeLine ∧ _) _ _ s w' o y ?_ ?_ hm2
    · intro d c' p2 y F'' H'' os'' w2 s2 o2 r2
      refine ⟨us, w2.get (pre := []), by omega, c', F'', os'', us ++ [y], ys ++ [d], hi, s.trans s2, w2.set (pre := []), o2, (h.mono s2).snoc r2, by rw [List.length_append, List.length_singleton]; omega, ?_⟩
      have p3 : Post ((filSt f c' (items.drop (i + 1)) >>= fun q => (R.ok (d :: q.1, q.2) : R (List δ × γ))) >>= fun q => k (ys ++ q.1, q.2)) P X := p2
      rw [bind_bind] at p3
      have e : (fun q : List δ × γ => (R.ok (d :: q.1, q.2) : R (List δ × γ)) >>= fun q => k (ys ++ q.1, q.2)) = fun q => k (ys ++ [d] ++ q.1, q.2) := by
        funext q
        show k (ys ++ (d :: q.1), q.2) = k (ys ++ [d] ++ q.1, q.2)
        rw [List.append_assoc]
        rfl
      rw [e] at p3
      exact p3
    · intro c' p2 F'' H'' os'' w2 s2 o2
      refine ⟨c', F'', os'', us, ys, hi, s.trans s2, w2, o2, h.mono s2, by omega, ?_⟩
      have p3 : Post ((filSt f c' (items.drop (i + 1)) >>= fun q => (R.ok q : R (List δ × γ))) >>= fun q => k (ys ++ q.1, q.2)) P X := p2
      rw [bind_bind] at p3
      exact p3
  · rintro H ⟨c, F', os', us, ys, _, s, w', o, h, _, hm⟩
    rw [List.drop_length] at hm
    have hm' : Post (k (ys ++ [], c)) P X := hm
    rw [List.append_nil] at hm'
    exact hd c us F' H os' ys s w' o h hm'
/-- without a test -/
theorem lcMap [Rep δ] (tw : TW J items G Y) {f : γ → β → R (δ × γ)} {s0 : γ} {k : List δ × γ → R ε} (hm : Post (mapStG f s0 items >>= k) P X) (O : γ → Hp → List (Addr × HO) → Prop) (w : W F H1 os) (o0 : O s0 F os) (nD : H1 D = none)
    (hG : ∀ c F' H' os' acc, Same F F' → W F' H' ((D, .lst acc) :: os') → O c F' os' → G H')
    (hs : ∀ (b : β) (c : γ) (x : V) (F' H' H'' : Hp) (os' : List (Addr × HO)) (acc : List V) (N : V → Hp → Prop) (P' : δ × γ → Prop), Same F F' → W F' H' ((D, .lst acc) :: os') → O c F' os' → Y b H' x H'' →
      (∀ d c', P' (d, c') → ∀ y F'' H'' os'', W F'' H'' ((D, .lst acc) :: os'') → Same F' F'' → O c' F'' os'' → rep K F'' y d → N y H'') → Post (f c b) P' X →
      g x (wipe σ vs) H'' fun σ2 H2 => wipe σ2 vs = wipe σ vs ∧ te σ2 H2 N)
    (hd : ∀ c us F' H' os' ys, Same F F' → W F' H' ((D, .lst us) :: os') → O c F' os' → A2 (rep K F') us ys → Post (k (ys, c)) P X → Qd H') : LcAsk J g tYes te vs σ H1 D Qd := by
  have e : ∀ (s : γ) (l : List β), filSt (fun c b => f c b >>= fun p => R.ok (some p.1, p.2)) s l = mapSt f s l := by
    intro s l
    induction l generalizing s with
    | nil => rfl
    | cons b l ih =>
      show ((f s b >>= fun p => R.ok (some p.1, p.2)) >>= fun p => filSt (fun c b => f c b >>= fun p => R.ok (some p.1, p.2)) p.2 l >>= fun q => match p.1 with
        | some y => (R.ok (y :: q.1, q.2) : R (List δ × γ))
        | none => R.ok q) = (f s b >>= fun p => mapSt f p.2 l >>= fun q => .ok (p.1 :: q.1, q.2))
      rw [bind_bind]
      refine congrArg (f s b >>= ·) ?_
      funext p
      show (filSt (fun c b => f c b >>= fun p => R.ok (some p.1, p.2)) p.2 l >>= fun q => (R.ok (p.1 :: q.1, q.2) : R (List δ × γ))) = _
      rw [ih]
  have hm' : Post (filStG (fun c b => f c b >>= fun p => R.ok (some p.1, p.2)) s0 items >>= k) P X := by
    unfold filStG
    simp only [e]
    exact hm
  refine lcFil tw hm' O w o0 nD hG (fun b c x F' H' H'' os' acc N N0 P' s w' o y hN hN0 hp => ?_) hd
  exact hs b c x F' H' H'' os' acc N _ s w' o y (fun d c' p2 y F'' H'' os'' w2 s2 o2 r2 => hN d c' p2 y F'' H'' os'' w2 s2 o2 r2) (post_bind hp)
/-- without a state -/
theorem lcM [Rep δ] (tw : TW J items G Y) {f : β → R δ} {k : List δ → R ε} (hm : Post (mapG f items >>= k) P X) (w : W F H1 os) (nD : H1 D = none)
    (hG : ∀ F' H' acc, Same F F' → W F' H' ((D, .lst acc) :: os) → G H')
    (hs : ∀ (b : β) (x : V) (F' H' H'' : Hp) (acc : List V) (N : V → Hp → Prop) (P' : δ → Prop), Same F F' → W F' H' ((D, .lst acc) :: os) → Y b H' x H'' →
      (∀ d, P' d → ∀ y F'' H'', W F'' H'' ((D, .lst acc) :: os) → Same F' F'' → rep K F'' y d → N y H'') → Post (f b) P' X →
      g x (wipe σ vs) H'' fun σ2 H2 => wipe σ2 vs = wipe σ vs ∧ te σ2 H2 N)
    (hd : ∀ us F' H' ys, Same F F' → W F' H' ((D, .lst us) :: os) → A2 (rep K F') us ys → Post (k ys) P X → Qd H') : LcAsk J g tYes te vs σ H1 D Qd := by
  have e : ∀ (l : List β), (mapSt (fun (_ : Unit) b => f b >>= fun d => R.ok (d, ())) () l >>= fun q => R.ok q.1) = mapR f l := by
    intro l
    induction l with
    | nil => rfl
    | cons b l ih =>
      show (((f b >>= fun d => R.ok (d, ())) >>= fun p => mapSt (fun (_ : Unit) b => f b >>= fun d => R.ok (d, ())) p.2 l >>= fun q => (R.ok (p.1 :: q.1, q.2) : R (List δ × Unit))) >>= fun q => R.ok q.1) = (f b >>= fun y => mapR f l >>= fun ys => R.ok (y :: ys))
      rw [bind_bind, bind_bind]
      refine congrArg (f b >>= ·) ?_
      funext d
      show ((mapSt (fun (_ : Unit) b => f b >>= fun d => R.ok (d, ())) () l >>= fun q => (R.ok (d :: q.1, q.2) : R (List δ × Unit))) >>= fun q => R.ok q.1) = _
      rw [bind_bind, ← ih, bind_bind]
      rfl
  have hm' : Post (mapStG (fun (_ : Unit) b => f b >>= fun d => R.ok (d, ())) () items >>= fun q => k q.1) P X := by
    have e2 : (mapStG (fun (_ : Unit) b => f b >>= fun d => R.ok (d, ())) () items >>= fun q => R.ok q.1) = mapG f items := by
      unfold mapStG mapG
      rw [bind_bind]
      simp only [e]
    have h2 : Post ((mapStG (fun (_ : Unit) b => f b >>= fun d => R.ok (d, ())) () items >>= fun q => R.ok q.1) >>= k) P X := by
      rw [e2]
      exact hm
    rw [bind_bind] at h2
    exact h2
  refine lcMap tw hm' (fun _ _ os' => os = os') w rfl nD (fun c F' H' os' acc s w' o => by subst o; exact hG F' H' acc s w') (fun b c x F' H' H'' os' acc N P' s w' o y hN hp => ?_) (fun c us F' H' os' ys s w' o h hm => by subst o; exact hd us F' H' ys s w' h hm)
  subst o
  exact hs b x F' H' H'' acc N _ s w' y (fun d p2 y F'' H'' w2 s2 r2 => hN d () p2 y F'' H'' _ w2 s2 rfl r2) (post_bind hp)
/-- .. with a test -/
theorem lcF [Rep δ] (tw : TW J items G Y) {f : β → R (Option δ)} {k : List δ → R ε} (hm : Post (filG f items >>= k) P X) (w : W F H1 os) (nD : H1 D = none)
    (hG : ∀ F' H' acc, Same F F' → W F' H' ((D, .lst acc) :: os) → G H')
    (hs : ∀ (b : β) (x : V) (F' H' H'' : Hp) (acc : List V) (N : V → Hp → Prop) (N0 : Hp → Prop) (P' : Option δ → Prop), Same F F' → W F' H' ((D, .lst acc) :: os) → Y b H' x H'' →
      (∀ d, P' (some d) → ∀ y F'' H'', W F'' H'' ((D, .lst acc) :: os) → Same F' F'' → rep K F'' y d → N y H'') →
      (P' none → ∀ F'' H'', W F'' H'' ((D, .lst acc) :: os) → Same F' F'' → N0 H'') → Post (f b) P' X →
      g x (wipe σ vs) H'' fun σ2 H2 => wipe σ2 vs = wipe σ vs ∧ tt σ2 H2 fun b H3 => if b = true then te σ2 H3 N else N0 H3)
    (hd : ∀ us F' H' ys, Same F F' → W F' H' ((D, .lst us) :: os) → A2 (rep K F') us ys → Post (k ys) P X → Qd H') : LcAsk J g tt te vs σ H1 D Qd := by
  have e : ∀ (l : List β), (filSt (fun (_ : Unit) b => f b >>= fun d => R.ok (d, ())) () l >>= fun q => R.ok q.1) = filR f l := by
    intro l
    induction l with
    | nil => rfl
    | cons b l ih =>
      show (((f b >>= fun d => R.ok (d, ())) >>= fun p => filSt (fun (_ : Unit) b => f b >>= fun d => R.ok (d, ())) p.2 l >>= fun q => match p.1 with
        | some y => (R.ok (y :: q.1, q.2) : R (List δ × Unit))
        | none => R.ok q) >>= fun q => R.ok q.1) = (f b >>= fun o => filR f l >>= fun ys => match o with
        | some y => .ok (y :: ys)
        | none => .ok ys)
      rw [bind_bind, bind_bind]
      refine congrArg (f b >>= ·) ?_
      funext d
      show ((filSt (fun (_ : Unit) b => f b >>= fun d => R.ok (d, ())) () l >>= fun q => match d with
        | some y => (R.ok (y :: q.1, q.2) : R (List δ × Unit))
        | none => R.ok q) >>= fun q => R.ok q.1) = _
      rw [bind_bind, ← ih, bind_bind]
      cases d <;> rfl
  have hm' : Post (filStG (fun (_ : Unit) b => f b >>= fun d => R.ok (d, ())) () items >>= fun q => k q.1) P X := by
    have e2 : (filStG (fun (_ : Unit) b => f b >>= fun d => R.ok (d, ())) () items >>= fun q => R.ok q.1) = filG f items := by
      unfold filStG filG
      rw [bind_bind]
      simp only [e]
    have h2 : Post ((filStG (fun (_ : Unit) b => f b >>= fun d => R.ok (d, ())) () items >>= fun q => R.ok q.1) >>= k) P X := by
      rw [e2]
      exact hm
    rw [bind_bind] at h2
    exact h2
  refine lcFil tw hm' (fun _ _ os' => os = os') w rfl nD (fun c F' H' os' acc s w' o => by subst o; exact hG F' H' acc s w') (fun b c x F' H' H'' os' acc N N0 P' s w' o y hN hN0 hp => ?_) (fun c us F' H' os' ys s w' o h hm => by subst o; exact hd us F' H' ys s w' h hm)
  subst o
  exact hs b x F' H' H'' acc N N0 _ s w' y (fun d p2 y F'' H'' w2 s2 r2 => hN d () p2 y F'' H'' _ w2 s2 rfl r2) (fun p2 F'' H'' w2 s2 => hN0 () p2 F'' H'' _ w2 s2 rfl) (post_bind hp)
end
end Z
namespace Z
open PySem L2
open Rep (rep)
/-! ### short words for a walk -/
section
variable {F F1 F2 H H1 : Hp} {os os' pre post : List (Addr × HO)} {a p : Addr} {o o' : HO} {K : Fg}
theorem W.frzE (w : W F H os) (n : H p = none) : ∃ F', Same F F' ∧ W F' (upd H p o) os ∧ F' p = some o := ⟨_, w.frzS n, w.frz n, upd_same⟩
theorem W.freezeE (w : W F H (pre ++ (a, o) :: post)) : ∃ F', Same F F' ∧ W F' H (pre ++ post) ∧ F' a = some o := ⟨_, w.freezeS, w.freeze, upd_same⟩
theorem rep_own {α : Type} [Rep α] {vs : List V} {xs : List α} (w : W F H (pre ++ (a, .lst vs) :: post)) (h : A2 (rep K F) vs xs) : rep K H (.ref a) xs := ⟨a, vs, rfl, w.get, h.mono w.same⟩
theorem rep_lst {α : Type} [Rep α] {vs : List V} {xs : List α} (q : F a = some (.lst vs)) (h : A2 (rep K F) vs xs) : rep K F (.ref a) xs := ⟨a, vs, rfl, q, h⟩
theorem rep_tup {α : Type} [Rep α] {vs : List V} {xs : List α} (q : F a = some (.tup vs)) (h : A2 (rep K F) vs xs) : rep K F (.ref a) (Tup.mk xs) := ⟨a, vs, rfl, q, h⟩
theorem rep_pair {α β : Type} [Rep α] [Rep β] {u v : V} {x : α} {y : β} (q : F a = some (.tup [u, v])) (h1 : rep K F u x) (h2 : rep K F v y) : rep K F (.ref a) (x, y) := ⟨a, u, v, rfl, q, h1, h2⟩
theorem ints_q {vs : List V} {xs : List Int} (q : SqL K H a vs) (h : A2 (rep K F) vs xs) : SqL K H a (xs.map V.int) := h.ints ▸ q
theorem Room.units65 {k : Nat} {A : Around} (r : Room k A) : A.units + 65 < cLine := by
  have := r.un
  omega
theorem sl_cut {α : Type} {r : V → α → Prop} {vs : List V} {xs : List α} (h : A2 r vs xs) (lo hi : Option Int) : A2 r (cutV vs lo hi) (((xs.drop (HT.sIx xs.length 0 lo)).take (HT.sIx xs.length xs.length hi - HT.sIx xs.length 0 lo))) := by
  unfold cutV
  rw [h.length]
  exact (h.drop _).take _
/-- xs[lo:hi] -/
def cutL {α : Type} (xs : List α) (lo hi : Option Int) : List α := (xs.drop (HT.sIx xs.length 0 lo)).take (HT.sIx xs.length xs.length hi - HT.sIx xs.length 0 lo)
end
end Z
namespace Z
open PySem L2
open Rep (rep)
/-- a while by its fuel -/
def whileR {γ : Type} (c : γ → R Bool) (b : γ → R γ) : Nat → γ → R γ
  | 0, _ => .bad
  | n + 1, s => c s >>= fun t => if t = true then b s >>= fun s' => whileR c b n s' else .ok s
section
variable {γ δ : Type} {P : δ → Prop} {X : Exn → Prop} {tc : TT} {tb : TS} {D : Ends} {σ : St} {H : Hp}
theorem whileS {c : γ → R Bool} {b : γ → R γ} {n : Nat} {s0 : γ} {k : γ → R δ} (hm : Post (whileR c b n s0 >>= k) P X) (I : γ → St → Hp → Prop) (h0 : I s0 σ H)
    (hc : ∀ (g : γ) (σ : St) (H : Hp) (Q' : Bool → Hp → Prop) (P' : Bool → Prop), I g σ H → (∀ t, P' t → ∀ H', I g σ H' → Q' t H') → Post (c g) P' X → tc σ H Q')
    (hs : ∀ (g : γ) (σ : St) (H : Hp) (N : St → Hp → Prop) (P' : γ → Prop), I g σ H → (∀ g', P' g' → ∀ σ' H', I g' σ' H' → N σ' H') → Post (b g) P' X → tb { D with nx := N, ct := N, bk := D.nx } σ H)
    (hd : ∀ g σ H, I g σ H → Post (k g) P X → D.nx σ H) : tWhile tc tb D σ H := by
  refine ⟨fun m σ H => ∃ g, I g σ H ∧ Post (whileR c b m g >>= k) P X, ⟨n, s0, h0, hm⟩, ?_⟩
  rintro m σ H ⟨g, h, hm⟩
  cases m with
  | zero => exact (show False from hm).elim
  | succ m =>
    have hm' : Post ((c g >>= fun t => if t = true then b g >>= fun s' => whileR c b m s' else .ok g) >>= k) P X := hm
    rw [bind_bind] at hm'
    refine hc g σ H _ _ h (fun t p H' h' => ?_) (post_bind hm')
    cases t with
    | false => exact iteF (hd g σ H' h' p)
    | true =>
      refine iteT ?_
      have p' : Post ((b g >>= fun s' => whileR c b m s') >>= k) P X := p
      rw [bind_bind] at p'
      exact ⟨fun σ' H' => ∃ g', I g' σ' H' ∧ Post (whileR c b m g' >>= k) P X, fun σ' H' ⟨g', h1, h2⟩ => ⟨m, Nat.lt_succ_self m, g', h1, h2⟩, hs g σ H' _ _ h' (fun g' p2 σ' H' h2 => ⟨g', h2, p2⟩) (post_bind p')⟩
end
section
variable {α β : Type} {Q : β → Prop} {E : Exn → Prop}
theorem pn_set {xs : List α} {i : Int} {x : α} {f : List α → R β} (h : Post (setI xs i x >>= f) Q E) : ∃ j ys, ixN xs.length i = some j ∧ ys = xs.set j x ∧ Post (f ys) Q E :=
  let ⟨j, a, b⟩ := pb_set h
  ⟨j, _, a, rfl, b⟩
theorem pn_app {xs : List α} {x : α} {f : List α → R β} (h : Post (app xs x >>= f) Q E) : ∃ ys, xs.length < sizeLine ∧ ys = xs ++ [x] ∧ Post (f ys) Q E :=
  let ⟨a, b⟩ := pb_app h
  ⟨_, a, rfl, b⟩
theorem pn_extend {xs ys : List α} {f : List α → R β} (h : Post (extend xs ys >>= f) Q E) : ∃ zs, xs.length + ys.length ≤ sizeLine ∧ zs = xs ++ ys ∧ Post (f zs) Q E :=
  let ⟨a, b⟩ := pb_extend h
  ⟨_, a, rfl, b⟩
theorem A2.lt {r : V → α → Prop} {vs : List V} {xs : List α} {n : Nat} (h : A2 r vs xs) (z : xs.length < n) : vs.length < n := by rw [h.length]; exact z
theorem A2.ix {r : V → α → Prop} {vs : List V} {xs : List α} {i : Int} {j : Nat} (h : A2 r vs xs) (z : ixN xs.length i = some j) : ixN vs.length i = some j := by rw [h.length]; exact z
theorem A2.le2 {γ : Type} {r : V → α → Prop} {r' : V → γ → Prop} {vs us : List V} {xs : List α} {ys : List γ} {n : Nat} (h : A2 r vs xs) (h' : A2 r' us ys) (z : xs.length + ys.length ≤ n) : vs.length + us.length ≤ n := by rw [h.length, h'.length]; exact z
def popAt (xs : List α) (i : Int) : R (α × List α) := match ixN xs.length i with
  | some j => match xs[j]? with
    | some x => .ok (x, xs.eraseIdx j)
    | none => .bad
  | none => .bad
theorem pn_popAt {xs : List α} {i : Int} {f : α × List α → R β} (h : Post (popAt xs i >>= f) Q E) : ∃ j x ys, ixN xs.length i = some j ∧ xs[j]? = some x ∧ ys = xs.eraseIdx j ∧ Post (f (x, ys)) Q E := by
  unfold popAt at h
  cases e : ixN xs.length i with
  | none => rw [e] at h; exact (show False from h).elim
  | some j =>
    rw [e] at h
    cases e2 : xs[j]? with
    | none =>
      have h' : Post ((match xs[j]? with
        | some x => (R.ok (x, xs.eraseIdx j) : R (α × List α))
        | none => .bad) >>= f) Q E := h
      rw [e2] at h'
      exact (show False from h').elim
    | some x =>
      have h' : Post ((match xs[j]? with
        | some x => (R.ok (x, xs.eraseIdx j) : R (α × List α))
        | none => .bad) >>= f) Q E := h
      rw [e2] at h'
      exact ⟨j, x, _, rfl, e2, rfl, h'⟩
end
section
variable {K : Fg} {F : Hp}
theorem rep_i {i : Int} : rep K F (.int i) i := rfl
theorem rep_b {i : Bool} : rep K F (.bl i) i := rfl
theorem rep_s {i : Str} : rep K F (.str i) i := rfl
theorem rep_n : rep K F .non () := rfl
end
end Z
namespace Z
open PySem L2
section
variable {X : Cx} {D : Ends} {σ : L2.St} {H : Hp}
def tC1 (v : V) : TE := fun _ H Q => True ∧ Q v H
theorem pe_int1 {i j pos} : PE X (.Constant (.int i) j pos) (tC1 (.int i)) := ⟨fun pins s σ H Q I h => pe_int.run pins s σ H Q I h.2⟩
theorem stepN {i : Nat} {v : V} {Q : L2.St → Hp → Prop} (h : Q (σ.set i (some v)) H) : gName i v σ H Q := h
theorem stepX (h : D.nx σ H) : tNext D σ H := h
theorem stepSeq {t u : TS} (h : t { D with nx := u D } σ H) : tSeq t u D σ H := h
theorem stepIf {c : TT} {a b : TS} (h : c σ H fun t H1 => if t = true then a D σ H1 else b D σ H1) : tIfS c a b D σ H := h
end
end Z
namespace Z
open PySem L2
open Rep (rep)
section
variable {α : Type} [Rep α] {K : Fg} {F : Hp} {v : V} {x : α}
theorem rep_none : rep K F .non (none : Option α) := rfl
theorem rep_some (h : rep K F v x) : rep K F v (some x) := h
theorem rep_pl {i : Int} : rep K F (.int i) (Thing.pl i) := rfl
theorem rep_ti {a b : Int} (h : rep K F v (a, b)) : rep K F v (Thing.ti a b) := h
end
end Z
/-! Z2: rules by typed data -/
namespace Z
open PySem L2 PySem.Spec PyProof.Rows
open Rep (rep)
/-! ### data that is compared -/
class Dat (α : Type) extends Rep α where
  toD : α → PyData
  dmax : Nat
  dp : ∀ {K : Fg} {H : Hp} {v : V} {x : α}, rep K H v x → Dp K H v (toD x)
  lay : ∀ x : α, (toD x).canLay0 = true
  dep : ∀ x : α, (toD x).depth ≤ dmax
  eqv : ∀ x y : α, PyData.eqv (toD x) (toD y) = true ↔ x = y
section
variable {α β : Type} {K : Fg} {H : Hp}
instance : Dat Int where
  toD := .int
  dmax := 0
  dp := fun h => by
    have h' : _ = V.int _ := h
    subst h'
    exact .int _
  lay := fun x => by simp only [PyData.canLay0]
  dep := fun x => by simp only [PyData.depth, Nat.le_refl]
  eqv := fun x y => by simp [PyData.eqv]
instance : Dat Bool where
  toD := .bool
  dmax := 0
  dp := fun h => by
    have h' : _ = V.bl _ := h
    subst h'
    exact .bl _
  lay := fun x => by simp only [PyData.canLay0]
  dep := fun x => by simp only [PyData.depth, Nat.le_refl]
  eqv := fun x y => by simp [PyData.eqv]
instance datOptInt : Dat (Option Int) where
  toD := fun x => match x with
    | none => .none
    | some i => .int i
  dmax := 0
  dp := fun {K H v x} h => by
    cases x with
    | none =>
      have h' : v = V.non := h
      subst h'
      exact .non
    | some i =>
      have h' : v = V.int i := h
      subst h'
      exact .int _
  lay := fun x => by cases x <;> simp only [PyData.canLay0]
  dep := fun x => by cases x <;> simp only [PyData.depth, Nat.le_refl]
  eqv := fun x y => by cases x <;> cases y <;> simp [PyData.eqv]
instance datPair [Dat α] [Dat β] : Dat (α × β) where
  toD := fun x => .tuple [Dat.toD x.1, Dat.toD x.2]
  dmax := max (Dat.dmax α) (Dat.dmax β) + 1
  dp := fun {K H v x} h => by
    obtain ⟨a, u, w, rfl, q, h1, h2⟩ := h
    exact .tup (SqT.of q) (.cons (Dat.dp h1) (.cons (Dat.dp h2) .nil))
  lay := fun x => by simp only [PyData.canLay0, PyData.canLayAll0, Dat.lay, Bool.and_true]
  dep := fun x => by
    have h1 := Dat.dep x.1
    have h2 := Dat.dep x.2
    simp only [PyData.depth, PyData.depthAll]
    omega
  eqv := fun x y => by
    obtain ⟨x1, x2⟩ := x
    obtain ⟨y1, y2⟩ := y
    simp only [PyData.eqv, PyData.eqvAll, Bool.and_true, Bool.and_eq_true, Dat.eqv, Prod.mk.injEq]
theorem dp_all [Dat α] : ∀ {vs : List V} {xs : List α}, A2 (rep K H) vs xs → DpAll K H vs (xs.map Dat.toD)
  | _, _, .nil => .nil
  | _, _, .cons h t => .cons (Dat.dp h) (dp_all t)
theorem lay_all [Dat α] : ∀ xs : List α, PyData.canLayAll0 (xs.map Dat.toD) = true
  | [] => by simp only [List.map_nil, PyData.canLayAll0]
  | x :: xs => by simp only [List.map_cons, PyData.canLayAll0, Dat.lay, lay_all xs, Bool.and_true]
theorem dep_all [Dat α] : ∀ xs : List α, PyData.depthAll (xs.map Dat.toD) ≤ Dat.dmax α
  | [] => by simp only [List.map_nil, PyData.depthAll, Nat.zero_le]
  | x :: xs => by
    have h1 := dep_all xs
    have h2 := Dat.dep x
    simp only [List.map_cons, PyData.depthAll]
    omega
theorem eqv_all [Dat α] : ∀ xs ys : List α, PyData.eqvAll (xs.map Dat.toD) (ys.map Dat.toD) = true ↔ xs = ys
  | [], [] => by simp [PyData.eqvAll]
  | x :: xs, [] => by simp [PyData.eqvAll]
  | [], y :: ys => by simp [PyData.eqvAll]
  | x :: xs, y :: ys => by simp only [List.map_cons, PyData.eqvAll, Bool.and_eq_true, Dat.eqv, eqv_all xs ys, List.cons.injEq]
instance datList [Dat α] : Dat (List α) where
  toD := fun xs => .list (xs.map Dat.toD)
  dmax := Dat.dmax α + 1
  dp := fun {K H v x} h => by
    obtain ⟨a, vs, rfl, q, h⟩ := h
    exact .lst (SqL.of q) (dp_all h)
  lay := fun x => by
    simp only [PyData.canLay0]
    exact lay_all x
  dep := fun x => by
    have h := dep_all x
    simp only [PyData.depth]
    omega
  eqv := fun x y => by
    simp only [PyData.eqv]
    exact eqv_all x y
instance datTup [Dat α] : Dat (Tup α) where
  toD := fun xs => .tuple (xs.l.map Dat.toD)
  dmax := Dat.dmax α + 1
  dp := fun {K H v x} h => by
    obtain ⟨a, vs, rfl, q, h⟩ := h
    exact .tup (SqT.of q) (dp_all h)
  lay := fun x => by
    simp only [PyData.canLay0]
    exact lay_all x.l
  dep := fun x => by
    have h := dep_all x.l
    simp only [PyData.depth]
    omega
  eqv := fun x y => by
    obtain ⟨x⟩ := x
    obtain ⟨y⟩ := y
    simp only [PyData.eqv, Tup.mk.injEq]
    exact eqv_all x y
instance datThing : Dat Thing where
  toD := fun x => match x with
    | .pl i => .int i
    | .ti a b => .tuple [.int a, .int b]
  dmax := 1
  dp := fun {K H v x} h => by
    cases x with
    | pl i =>
      have h' : v = V.int i := h
      subst h'
      exact .int _
    | ti a b =>
      obtain ⟨p, u, w, rfl, q, h1, h2⟩ := (show rep K H v (a, b) from h)
      have h1' : u = V.int a := h1
      have h2' : w = V.int b := h2
      subst h1' h2'
      exact .tup (SqT.of q) (.cons (.int _) (.cons (.int _) .nil))
  lay := fun x => by cases x <;> simp [PyData.canLay0, PyData.canLayAll0]
  dep := fun x => by cases x <;> simp [PyData.depth, PyData.depthAll]
  eqv := fun x y => by cases x <;> cases y <;> simp [PyData.eqv, PyData.eqvAll]
instance datScr : Dat Scr where
  toD := fun xs => .list (xs.l.map PyData.int)
  dmax := 1
  dp := fun {K H v x} h => by
    obtain ⟨a, rfl, q⟩ := h
    have e : ∀ l : List Int, DpAll K H (l.map V.int) (l.map PyData.int) := fun l => by
      induction l with
      | nil => exact .nil
      | cons x l ih => exact .cons (.int _) ih
    exact .lst q (e x.l)
  lay := fun x => by
    simp only [PyData.canLay0]
    exact lay_all (α := Int) x.l
  dep := fun x => by
    have h := dep_all (α := Int) x.l
    have h' : PyData.depthAll (x.l.map PyData.int) ≤ 0 := h
    simp only [PyData.depth]
    omega
  eqv := fun x y => by
    obtain ⟨x⟩ := x
    obtain ⟨y⟩ := y
    simp only [PyData.eqv, Scr.mk.injEq]
    exact eqv_all (α := Int) x y
theorem shapedD [Dat α] (hd : Dat.dmax α ≤ 60) (x : α) : SeqAt.shaped (Dat.toD x) = true := by
  have h := Dat.dep x
  show ((Dat.toD x).canLay0 && decide ((Dat.toD x).depth ≤ 64)) = true
  rw [Bool.and_eq_true]
  exact ⟨Dat.lay x, decide_eq_true (by omega)⟩
theorem eqvD [Dat α] [DecidableEq α] (x y : α) : PyData.eqv (Dat.toD x) (Dat.toD y) = decide (x = y) := by
  by_cases h : x = y
  · rw [decide_eq_true h]
    exact (Dat.eqv x y).mpr h
  · rw [decide_eq_false h]
    exact Bool.eq_false_iff.mpr fun e => h ((Dat.eqv x y).mp e)
theorem anyD [Dat α] [DecidableEq α] (x : α) : ∀ ys : List α, ((ys.map Dat.toD).any fun z => PyData.eqv z (Dat.toD x)) = decide (x ∈ ys)
  | [] => by simp
  | y :: ys => by
    rw [List.map_cons, List.any_cons, anyD x ys, eqvD]
    by_cases h : y = x
    · subst h; simp
    · have h' : ¬ x = y := fun e => h e.symm
      simp [h, h']
end
section
variable {X : Cx} {α β : Type} {K : Fg}
/-- ==, != of data -/
theorem op_eqDt (hK : X.K = K) (α : Type) [Dat α] [DecidableEq α] (hd : Dat.dmax α ≤ 60) (hu : X.A.units + 64 < cLine) : OpR X (compareOp .Eq) (fun x y H Q => ∃ a b : α, rep K H x a ∧ rep K H y b ∧ Q (.bl (decide (a = b))) H) := by
  subst hK
  intro pins s σ H x y v u Q I rx ry ⟨a, b, h1, h2, q⟩
  exact op_eqD hu pins s σ H x y v u Q I rx ry ⟨Dat.toD a, Dat.toD b, Dat.dp h1, Dat.dp h2, shapedD hd a, shapedD hd b, by rw [eqvD]; exact q⟩
theorem op_neDt (hK : X.K = K) (α : Type) [Dat α] [DecidableEq α] (hd : Dat.dmax α ≤ 60) (hu : X.A.units + 64 < cLine) : OpR X (compareOp .NotEq) (fun x y H Q => ∃ a b : α, rep K H x a ∧ rep K H y b ∧ Q (.bl (!decide (a = b))) H) := by
  subst hK
  intro pins s σ H x y v u Q I rx ry ⟨a, b, h1, h2, q⟩
  exact op_neD hu pins s σ H x y v u Q I rx ry ⟨Dat.toD a, Dat.toD b, Dat.dp h1, Dat.dp h2, shapedD hd a, shapedD hd b, by rw [eqvD]; exact q⟩
/-- in, not in a list, a tuple of data -/
theorem op_inL (hK : X.K = K) (α : Type) [Dat α] [DecidableEq α] (hd : Dat.dmax α ≤ 50) (hu : X.A.units + 65 < cLine) : OpR X (compareOp .In) (fun x y H Q => ∃ (a : α) (b : List α), rep K H x a ∧ rep K H y b ∧ Q (.bl (decide (a ∈ b))) H) := by
  subst hK
  intro pins s σ H x y v u Q I rx ry ⟨a, b, h1, h2, q⟩
  exact op_inD hu pins s σ H x y v u Q I rx ry ⟨Dat.toD a, b.map Dat.toD, Dat.dp h1, Dat.dp h2, shapedD (by omega) a, shapedD (α := List α) (by show Dat.dmax α + 1 ≤ 60; omega) b, by rw [anyD]; exact q⟩
theorem op_notInL (hK : X.K = K) (α : Type) [Dat α] [DecidableEq α] (hd : Dat.dmax α ≤ 50) (hu : X.A.units + 65 < cLine) : OpR X (compareOp .NotIn) (fun x y H Q => ∃ (a : α) (b : List α), rep K H x a ∧ rep K H y b ∧ Q (.bl (!decide (a ∈ b))) H) := by
  subst hK
  intro pins s σ H x y v u Q I rx ry ⟨a, b, h1, h2, q⟩
  exact op_notInD hu pins s σ H x y v u Q I rx ry ⟨Dat.toD a, b.map Dat.toD, Dat.dp h1, Dat.dp h2, shapedD (by omega) a, shapedD (α := List α) (by show Dat.dmax α + 1 ≤ 60; omega) b, by rw [anyD]; exact q⟩
theorem op_inT (hK : X.K = K) (α : Type) [Dat α] [DecidableEq α] (hd : Dat.dmax α ≤ 50) (hu : X.A.units + 65 < cLine) : OpR X (compareOp .In) (fun x y H Q => ∃ (a : α) (b : Tup α), rep K H x a ∧ rep K H y b ∧ Q (.bl (decide (a ∈ b.l))) H) := by
  subst hK
  intro pins s σ H x y v u Q I rx ry ⟨a, b, h1, h2, q⟩
  have sd := shapedD (by omega : Dat.dmax α ≤ 60) a
  have se : SeqAt.shaped (.tuple (b.l.map Dat.toD)) = true := shapedD (α := Tup α) (by show Dat.dmax α + 1 ≤ 60; omega) b
  obtain ⟨as, r1⟩ := Dp.reads I (Dat.toD a) x v (Dat.dp h1) rx
  obtain ⟨bs, r2⟩ := Dp.reads I (.tuple (b.l.map Dat.toD)) y u (Dat.dp h2) ry
  refine SeqAt.in_tuple_reads r2 r1 (SeqAt.canLay_of_shaped se) (SeqAt.canLay_of_shaped sd) (room_in_shaped sd hu) ?_
  rw [anyD]
  exact ⟨.bl _, H, I, rfl, q⟩
/-- == of texts -/
theorem decS (x y : Str) : decide (V.str x = V.str y) = decide (x = y) := by
  by_cases h : x = y
  · subst h; simp
  · rw [decide_eq_false h, decide_eq_false (fun e => h (V.str.inj e))]
theorem op_eqS : OpR X (compareOp .Eq) (fun x y H Q => ∃ a b : Str, x = .str a ∧ y = .str b ∧ Q (.bl (decide (a = b))) H) := by
  intro pins s σ H x y v u Q I rx ry ⟨a, b, h1, h2, q⟩
  subst h1 h2
  exact op_eq pins s σ H _ _ v u Q I rx ry ⟨rfl, by rw [decS]; exact q⟩
/-! ### built-ins -/
theorem call_lenN (hK : X.K = K) : CallR X (.builtin "len") (fun xs H Q => ∃ (p : Addr) (ys : List V) (n : Nat), xs = [.ref p] ∧ (SqL K H p ys ∨ SqT K H p ys) ∧ ys.length = n ∧ Q (.int (n : Int)) H) := by
  subst hK
  intro pins s σ H xs us Q I r ⟨p, ys, n, e, h, hn, q⟩
  subst hn
  exact call_len_seq pins s σ H xs us Q I r ⟨p, ys, e, h, q⟩
def absI (i : Int) : Int := if i < 0 then -i else i
def max2 (i j : Int) : Int := if j > i then j else i
def min2 (i j : Int) : Int := if j < i then j else i
/-- the ints in order -/
def sortI (xs : List Int) : List Int := xs.mergeSort fun a b => decide (a ≤ b)
theorem sortI_perm (xs : List Int) : (sortI xs).Perm xs := List.mergeSort_perm xs _
theorem sortI_sorted (xs : List Int) : (sortI xs).Pairwise (· ≤ ·) := by
  have h := List.pairwise_mergeSort (le := fun a b : Int => decide (a ≤ b)) (fun a b c h1 h2 => by simp only [decide_eq_true_eq] at *; omega) (fun a b => by simp only [Bool.or_eq_true, decide_eq_true_eq]; omega) xs
  exact h.imp fun h => by simpa using h
theorem sort_uniq {xs ys : List Int} (h : xs.Perm ys) (hx : xs.Pairwise (· ≤ ·)) (hy : ys.Pairwise (· ≤ ·)) : xs = ys := by
  induction xs generalizing ys with
  | nil => exact (List.nil_perm.mp h).symm
  | cons x xs ih =>
    cases ys with
    | nil => exact absurd h.symm (by simp)
    | cons y ys =>
      rw [List.pairwise_cons] at hx hy
      have e : x = y := by
        have h1 : x ∈ y :: ys := h.mem_iff.mp List.mem_cons_self
        have h2 : y ∈ x :: xs := h.mem_iff.mpr List.mem_cons_self
        rcases List.mem_cons.mp h1 with h1 | h1
        · exact h1
        · rcases List.mem_cons.mp h2 with h2 | h2
          · exact h2.symm
          · have := hx.1 y h2
            have := hy.1 x h1
            omega
      subst e
      rw [ih (List.perm_cons x |>.mp h) hx.2 hy.2]
theorem sortI_eq {xs ys : List Int} (h : ys.Perm xs) (hy : ys.Pairwise (· ≤ ·)) : ys = sortI xs := sort_uniq (h.trans (sortI_perm xs).symm) hy (sortI_sorted xs)
theorem cr_sortI (hK : X.K = K) : CallR X (.builtin "sorted") (fun vs H Q => ∃ (a : Addr) (ns : List Int), vs = [V.ref a] ∧ SqL K H a (ns.map V.int) ∧ ∀ p, H p = none → Q (.ref p) (upd H p (.lst ((sortI ns).map V.int)))) := by
  subst hK
  intro pins s σ H xs us Q I r ⟨a, ns, e, h, q⟩
  refine cr_sortedI pins s σ H xs us Q I r ⟨a, ns, e, h, fun ns' p h1 h2 hp => ?_⟩
  rw [sortI_eq h1 h2]
  exact q p hp
theorem ix_listK (hK : X.K = K) : IxR X (rIxL K) := hK ▸ ix_list
theorem ix_tupK (hK : X.K = K) : IxR X (rIxT K) := hK ▸ ix_tup
theorem sl_listK (hK : X.K = K) : SlR X (rSlL K) := hK ▸ sl_list
theorem call_list_ofK (hK : X.K = K) : CallR X (.type "list") (fun xs H Q => ∃ p ys, xs = [.ref p] ∧ (SqL K H p ys ∨ SqT K H p ys) ∧ ∀ l, H l = none → Q (.ref l) (upd H l (.lst ys))) := hK ▸ call_list_of
theorem call_tuple_ofK (hK : X.K = K) : CallR X (.type "tuple") (fun xs H Q => ∃ p ys, xs = [.ref p] ∧ ((SqL K H p ys ∧ ∀ l, H l = none → Q (.ref l) (upd H l (.tup ys))) ∨ (SqT K H p ys ∧ Q (.ref p) H))) := hK ▸ call_tuple_of
theorem pi_listK {tg l : Expr} {tl : TE} (hK : X.K = K) (hl : PE X l tl) : PI X tg l (iList K tl) := hK ▸ pi_list hl
theorem pi_tupK {tg l : Expr} {tl : TE} (hK : X.K = K) (hl : PE X l tl) : PI X tg l (iTup K tl) := hK ▸ pi_tup hl
theorem pi_k {tg l : Expr} {wi : Fg → TI} (hK : X.K = K) (h : PI X tg l (wi X.K)) : PI X tg l (wi K) := hK ▸ h
theorem pe_k {e : Expr} {t : Fg → TE} (hK : X.K = K) (h : PE X e (t X.K)) : PE X e (t K) := hK ▸ h
theorem pg_k {tg : Expr} {t : Fg → TG} (hK : X.K = K) (h : PG X tg (t X.K)) : PG X tg (t K) := hK ▸ h
end
end Z
/-! Z3: sets of tuples by their number, isinstance -/
namespace Z
open PySem L2 PySem.Spec PyProof.Rows
open Rep (rep)
/-- each once -/
def nub {α : Type} [DecidableEq α] : List α → List α
  | [] => []
  | x :: xs => if x ∈ xs then nub xs else x :: nub xs
section
variable {α : Type} [DecidableEq α]
theorem nub_mem {y : α} : ∀ {xs : List α}, y ∈ nub xs ↔ y ∈ xs
  | [] => Iff.rfl
  | x :: xs => by
    unfold nub
    by_cases h : x ∈ xs
    · rw [if_pos h, nub_mem]
      exact ⟨List.mem_cons_of_mem _, fun q => (List.mem_cons.mp q).elim (fun e => e ▸ h) id⟩
    · rw [if_neg h, List.mem_cons, List.mem_cons, nub_mem]
theorem nub_nodup : ∀ (xs : List α), (nub xs).Nodup
  | [] => List.nodup_nil
  | x :: xs => by
    unfold nub
    by_cases h : x ∈ xs
    · rw [if_pos h]
      exact nub_nodup xs
    · rw [if_neg h]
      exact List.nodup_cons.mpr ⟨fun q => h (nub_mem.mp q), nub_nodup xs⟩
theorem nodup_le : ∀ {xs ys : List α}, xs.Nodup → (∀ y ∈ xs, y ∈ ys) → xs.length ≤ ys.length
  | [], _, _, _ => Nat.zero_le _
  | x :: xs, ys, h, hs => by
    obtain ⟨h1, h2⟩ := List.nodup_cons.mp h
    have hx : x ∈ ys := hs x List.mem_cons_self
    have := nodup_le (xs := xs) (ys := ys.erase x) h2 fun y hy => (List.mem_erase_of_ne (show y ≠ x from fun e => by subst e; exact h1 hy)).mpr (hs y (List.mem_cons_of_mem _ hy))
    rw [List.length_erase_of_mem hx] at this
    have := List.length_pos_of_mem hx
    rw [List.length_cons]
    omega
theorem nodup_len {xs ys : List α} (h1 : xs.Nodup) (h2 : ys.Nodup) (h : ∀ y, y ∈ xs ↔ y ∈ ys) : xs.length = ys.length := by
  refine Nat.le_antisymm ?_ ?_
  · exact nodup_le h1 fun y hy => (h y).mp hy
  · exact nodup_le h2 fun y hy => (h y).mpr hy
end
section
variable {X : Cx} {K : Fg} {P : Program} {w : World} {F H : Hp}
/-- isinstance of a plain value and a built-in class -/
theorem call_isB (hK : X.K = K) : CallR X (.builtin "isinstance") (fun xs H Q => ∃ (x : V) (a b : String) (r : Bool), xs = [x, .ty b] ∧ TyOf K H x (.type a) ∧ kitB a b = some r ∧ Q (.bl r) H) := by
  subst hK
  intro pins s σ H xs us Q I r ⟨x, a, b, c, e, h1, h2, q⟩
  exact call_isi pins s σ H xs us Q I r ⟨x, .ty b, .type a, .type b, c, e, .ty b, .base h1, kit_ty h2, q⟩
end
end Z
namespace Z
open PySem L2 PySem.Spec PyProof.Rows
open Rep (rep)
section
variable {α : Type}
/-- the first place of an item -/
def fidx [DecidableEq α] (y : α) : List α → Option Nat
  | [] => none
  | x :: xs => if x = y then some 0 else (fidx y xs).map (· + 1)
def idxR [DecidableEq α] (xs : List α) (y : α) : R Int := ofO ((fidx y xs).map fun j => ((j : Nat) : Int))
theorem fidx_spec [DecidableEq α] {y : α} : ∀ {xs : List α} {j : Nat}, fidx y xs = some j → xs[j]? = some y ∧ ∀ m z, m < j → xs[m]? = some z → z ≠ y
  | [], j, h => nomatch h
  | x :: xs, j, h => by
    unfold fidx at h
    by_cases e : x = y
    · rw [if_pos e] at h
      cases h
      subst e
      exact ⟨rfl, fun m z hm => absurd hm (Nat.not_lt_zero _)⟩
    · rw [if_neg e] at h
      cases q : fidx y xs with
      | none => rw [q] at h; cases h
      | some k =>
        rw [q] at h
        cases h
        obtain ⟨h1, h2⟩ := fidx_spec q
        refine ⟨by simpa using h1, fun m z hm hz => ?_⟩
        cases m with
        | zero =>
          simp at hz
          subst hz
          exact e
        | succ m => exact h2 m z (Nat.lt_of_succ_lt_succ hm) (by simpa using hz)
variable {δ : Type} {P : δ → Prop} {E : Exn → Prop}
theorem pb_idx [DecidableEq α] {xs : List α} {y : α} {f : Int → R δ} (h : Post (idxR xs y >>= f) P E) : ∃ j : Nat, fidx y xs = some j ∧ Post (f (j : Int)) P E := by
  unfold idxR at h
  cases q : fidx y xs with
  | none => rw [q] at h; exact (show False from h).elim
  | some j => rw [q] at h; exact ⟨j, rfl, h⟩
end
section
variable {X : Cx} {K : Fg} {F H : Hp}
theorem bools_q {a : Addr} {vs : List V} {xs : List Bool} (q : SqL K H a vs) (h : A2 (rep K F) vs xs) : SqL K H a (xs.map V.bl) := h.bools ▸ q
theorem cr_allK (hK : X.K = K) (hc : X.calm = true) : CallR X (.builtin "all") (rAll K) := hK ▸ cr_all hc
end
end Z
namespace Z
open PySem L2 PySem.Spec PyProof.Rows
open Rep (rep)
section
variable {X : Cx} {K : Fg} {F H : Hp}
/-! ### None -/
class NonN (α : Type) extends Rep α where
  no : ∀ {K : Fg} {H : Hp} {v : V} {x : α}, rep K H v x → v ≠ .non
instance : NonN Int := ⟨fun h e => by have h' : _ = V.int _ := h; rw [h'] at e; cases e⟩
instance : NonN Bool := ⟨fun h e => by have h' : _ = V.bl _ := h; rw [h'] at e; cases e⟩
instance {α β : Type} [Rep α] [Rep β] : NonN (α × β) := ⟨fun {K H v x} h q => by
  obtain ⟨a, u, w, e, _⟩ := h
  rw [e] at q
  cases q⟩
instance {α : Type} [Rep α] : NonN (List α) := ⟨fun {K H v x} h q => by
  obtain ⟨a, u, e, _⟩ := h
  rw [e] at q
  cases q⟩
instance {α : Type} [Rep α] : NonN (Tup α) := ⟨fun {K H v x} h q => by
  obtain ⟨a, u, e, _⟩ := h
  rw [e] at q
  cases q⟩
theorem isN_eq {α : Type} [NonN α] {v : V} {o : Option α} (h : rep K F v o) : decide (v = .non) = o.isNone := by
  cases o with
  | none =>
    have h' : v = V.non := h
    rw [h']
    rfl
  | some x => exact decide_eq_false (NonN.no (α := α) h)
theorem op_isN2 : OpR X (compareOp .Is) (fun x y H Q => y = V.non ∧ ∃ b, decide (x = .non) = b ∧ Q (.bl b) H) := by
  intro pins s σ H x y v u Q I rx ry ⟨e, b, hb, q⟩
  exact op_isN pins s σ H x y v u Q I rx ry ⟨e, by rw [hb]; exact q⟩
theorem op_notN2 : OpR X (compareOp .IsNot) (fun x y H Q => y = V.non ∧ ∃ b, decide (x = .non) = b ∧ Q (.bl (!b)) H) := by
  intro pins s σ H x y v u Q I rx ry ⟨e, b, hb, q⟩
  exact op_notN pins s σ H x y v u Q I rx ry ⟨e, by rw [hb]; exact q⟩
instance datOptBool : Dat (Option Bool) where
  toD := fun x => match x with
    | none => .none
    | some i => .bool i
  dmax := 0
  dp := fun {K H v x} h => by
    cases x with
    | none =>
      have h' : v = V.non := h
      subst h'
      exact .non
    | some i =>
      have h' : v = V.bl i := h
      subst h'
      exact .bl _
  lay := fun x => by cases x <;> simp only [PyData.canLay0]
  dep := fun x => by cases x <;> simp only [PyData.depth, Nat.le_refl]
  eqv := fun x y => by cases x <;> cases y <;> simp [PyData.eqv]
end
end Z
/-! Z4: statements never reached, tuples into the frozen part, pairs sorted, dicts of scalars, list(range), pop -/
namespace Z
open PySem L2
open Rep (rep)
section
variable {X : Cx}
theorem ps_absurd {st : Stmt} : PS X st (fun _ _ _ => False) := ⟨fun _ _ _ _ _ _ h => h.elim⟩
theorem stepNot {t : TT} {σ : L2.St} {H : Hp} {Q : Bool → Hp → Prop} (h : t σ H fun c H1 => Q (!c) H1) : tNot t σ H Q := h
/-! ### sorted, of pairs -/
def leP (p q : Int × Int) : Bool := decide (p.1 < q.1 ∨ (p.1 = q.1 ∧ p.2 ≤ q.2))
def sortP (xs : List (Int × Int)) : List (Int × Int) := xs.mergeSort leP
theorem sortP_perm (xs : List (Int × Int)) : (sortP xs).Perm xs := List.mergeSort_perm xs _
theorem sortP_sorted (xs : List (Int × Int)) : (sortP xs).Pairwise fun p q => leP p q = true := by
  refine List.pairwise_mergeSort (le := leP) (fun a b c h1 h2 => ?_) (fun a b => ?_) xs
  · unfold leP at *
    simp only [decide_eq_true_eq] at *
    omega
  · unfold leP
    simp only [Bool.or_eq_true, decide_eq_true_eq]
    omega
theorem sortP_uniq {xs ys : List (Int × Int)} (h : xs.Perm ys) (hx : xs.Pairwise fun p q => leP p q = true) (hy : ys.Pairwise fun p q => leP p q = true) : xs = ys := by
  induction xs generalizing ys with
  | nil => exact (List.nil_perm.mp h).symm
  | cons x xs ih =>
    cases ys with
    | nil => exact absurd h.length_eq (by simp)
    | cons y ys =>
      rw [List.pairwise_cons] at hx hy
      have e : x = y := by
        have h1 : y ∈ x :: xs := h.mem_iff.mpr List.mem_cons_self
        have h2 : x ∈ y :: ys := h.mem_iff.mp List.mem_cons_self
        rcases List.mem_cons.mp h1 with e | h1
        · exact e.symm
        · rcases List.mem_cons.mp h2 with e | h2
          · exact e
          · have a := hx.1 y h1
            have b := hy.1 x h2
            unfold leP at a b
            simp only [decide_eq_true_eq] at a b
            exact Prod.ext (by omega) (by omega)
      subst e
      rw [ih h.cons_inv hx.2 hy.2]
theorem sortP_eq {xs ys : List (Int × Int)} (h : ys.Perm xs) (hy : ys.Pairwise fun p q => leP p q = true) : ys = sortP xs := sortP_uniq (h.trans (sortP_perm xs).symm) hy (sortP_sorted xs)
/-- which pair stands at a reference -/
def keyP (H : Hp) (v : V) : Int × Int := match v with
  | .ref t => match H t with
    | some (.tup [.int i, .int j]) => (i, j)
    | _ => (0, 0)
  | _ => (0, 0)
theorem keyP_of {K : Fg} {F H : Hp} {v : V} {x : Int × Int} (s : Same F H) (r : rep K F v x) : ∃ t, v = .ref t ∧ F t = some (.tup [.int x.1, .int x.2]) ∧ keyP H v = x := by
  obtain ⟨t, u, z, rfl, q, r1, r2⟩ := r
  obtain rfl : u = V.int x.1 := r1
  obtain rfl : z = V.int x.2 := r2
  refine ⟨t, rfl, q, ?_⟩
  have h := s _ _ q
  unfold keyP
  dsimp only
  rw [h]
theorem keyP_all {K : Fg} {F H : Hp} {vs : List V} {xs : List (Int × Int)} (s : Same F H) (h : A2 (rep K F) vs xs) : xs = vs.map (keyP H) ∧ ∀ v ∈ vs, ∃ t, v = .ref t ∧ F t = some (.tup [.int (keyP H v).1, .int (keyP H v).2]) := by
  induction h with
  | nil => exact ⟨rfl, fun _ z => nomatch z⟩
  | cons a b ih =>
    obtain ⟨t, e, q, k⟩ := keyP_of s a
    refine ⟨by rw [List.map_cons, k, ← ih.1], fun v hv => ?_⟩
    rcases List.mem_cons.mp hv with rfl | hv
    · exact ⟨t, e, by rw [k]; exact q⟩
    · exact ih.2 v hv
theorem rep_keys {K : Fg} {F H : Hp} : ∀ {ys : List V}, (∀ v ∈ ys, ∃ t, v = V.ref t ∧ F t = some (.tup [.int (keyP H v).1, .int (keyP H v).2])) → A2 (rep K F) ys (ys.map (keyP H))
  | [], _ => .nil
  | v :: ys, h => by
    obtain ⟨t, e, q⟩ := h v List.mem_cons_self
    refine .cons ?_ (rep_keys fun y hy => h y (List.mem_cons_of_mem _ hy))
    subst e
    exact ⟨t, _, _, rfl, q, rfl, rfl⟩
theorem cr_sortP {K : Fg} (hK : X.K = K) : CallR X (.builtin "sorted") (fun vs H Q => ∃ (a : Addr) (us : List V) (F : Hp) (xs : List (Int × Int)), vs = [V.ref a] ∧ SqL K H a us ∧ Same F H ∧ A2 (rep K F) us xs ∧
    ∀ p ys, H p = none → A2 (rep K F) ys (sortP xs) → Q (.ref p) (upd H p (.lst ys))) := by
  subst hK
  intro pins s σ H vs us Q I r h
  obtain ⟨a, us', F, xs, rfl, hs, sF, hA, q⟩ := h
  obtain ⟨e1, e2⟩ := keyP_all sF hA
  refine cr_sortedPO pins s σ H _ us Q I r ⟨a, us', keyP H, rfl, hs, fun x hx => ?_, fun ys p h1 h2 hp => q p ys hp ?_⟩
  · obtain ⟨t, e, k⟩ := e2 x hx
    exact ⟨t, e, sF _ _ k⟩
  · have e : ys.map (keyP H) = sortP xs := by
      refine sortP_eq ?_ ?_
      · rw [e1]
        exact h2.perm.map _
      · rw [List.pairwise_map]
        refine h1.imp fun {x y} h => ?_
        have h := SrtO.lexB_no.mp h
        unfold leP
        rw [decide_eq_true_eq]
        omega
    rw [← e]
    exact rep_keys fun v hv => e2 v (h2.perm.mem_iff.mp hv)
end
/-! ### dicts of scalars -/
section
variable {κ β γ δ : Type} [DecidableEq κ]
def mput (m : List (κ × β)) (k : κ) (v : β) : List (κ × β) := if (m.any fun p => decide (p.1 = k)) = true then m.map (fun p => if p.1 = k then (p.1, v) else p) else m ++ [(k, v)]
def mhas (m : List (κ × β)) (k : κ) : Bool := m.any fun p => decide (p.1 = k)
def mget (m : List (κ × β)) (k : κ) : Option β := (m.find? fun p => decide (p.1 = k)).map (·.2)
def mputR (m : List (κ × β)) (k : κ) (v : β) : R (List (κ × β)) := if m.length < 100000 then .ok (mput m k v) else .bad
def mgetR (m : List (κ × β)) (k : κ) : R β := ofO (mget m k)
/-- as the dict stands -/
def encM (e : κ → γ) (ev : β → V) (m : List (κ × β)) : List (γ × V) := m.map fun p => (e p.1, ev p.2)
variable [DecidableEq γ] {e : κ → γ} {ev : β → V}
theorem any_enc (he : ∀ a b, e a = e b → a = b) (m : List (κ × β)) (k : κ) : ((encM e ev m).any fun p => decide (p.1 = e k)) = m.any fun p => decide (p.1 = k) := by
  unfold encM
  rw [List.any_map]
  congr 1
  funext p
  show decide (e p.1 = e k) = decide (p.1 = k)
  by_cases h : p.1 = k
  · rw [h]; simp
  · rw [decide_eq_false h, decide_eq_false fun z => h (he _ _ z)]
theorem put_enc (he : ∀ a b, e a = e b → a = b) (m : List (κ × β)) (k : κ) (v : β) : putK (encM e ev m) (e k) (ev v) = encM e ev (mput m k v) := by
  unfold putK mput
  rw [any_enc he]
  by_cases h : (m.any fun p => decide (p.1 = k)) = true
  · rw [if_pos h, if_pos h]
    unfold encM
    rw [List.map_map, List.map_map]
    refine List.map_congr_left fun p _ => ?_
    show (if e p.1 = e k then (e p.1, ev v) else (e p.1, ev p.2)) = (fun q : κ × β => (e q.1, ev q.2)) (if p.1 = k then (p.1, v) else p)
    by_cases h : p.1 = k
    · rw [if_pos h, if_pos (congrArg e h)]
    · rw [if_neg h, if_neg fun z => h (he _ _ z)]
  · rw [if_neg h, if_neg h]
    unfold encM
    rw [List.map_append]
    rfl
theorem val_enc (he : ∀ a b, e a = e b → a = b) (k : κ) : ∀ m : List (κ × β), valV (encM e ev m) (e k) = (mget m k).map ev
  | [] => rfl
  | p :: m => by
    show valV ((e p.1, ev p.2) :: encM e ev m) (e k) = _
    unfold mget
    by_cases h : p.1 = k
    · rw [valV_pos (congrArg e h), List.find?_cons_of_pos (by simpa using h)]
      rfl
    · rw [valV_neg (fun z => h (he _ _ z)), List.find?_cons_of_neg (by simpa using h), val_enc he k m]
      rfl
theorem enc_length (m : List (κ × β)) : (encM e ev m).length = m.length := List.length_map _
end
abbrev kI : Int → Key := .inl
theorem kI_inj : ∀ a b, kI a = kI b → a = b := fun _ _ h => Sum.inl.inj h
section
variable {β : Type} {ev : β → V} {H : Hp} {a b : Addr}
theorem dget_k {m : List (Int × β)} {k : Int} (e : H a = some (.dK (encM kI ev m))) : DGet H a (.int k) ((mget m k).map ev) := by
  rw [← val_enc kI_inj]
  exact DGet.k (k := kI k) e
theorem get_has {κ : Type} [DecidableEq κ] (m : List (κ × β)) (k : κ) (f : β → V) : ((mget m k).map f).isSome = mhas m k := by
  rw [Option.isSome_map]
  unfold mget mhas
  rw [Option.isSome_map, List.isSome_find?]
theorem dput_k {m : List (Int × β)} {k : Int} {v : β} (e : H a = some (.dK (encM kI ev m))) (hl : m.length < sizeLine) : DPut H a (.int k) (ev v) (upd H a (.dK (encM kI ev (mput m k v)))) := by
  rw [← put_enc kI_inj]
  exact DPut.k (k := kI k) e (by rw [enc_length]; exact hl)
end
theorem pn_mput {κ β δ : Type} [DecidableEq κ] {m : List (κ × β)} {k : κ} {v : β} {f : List (κ × β) → R δ} {P : δ → Prop} {E : Exn → Prop} (h : Post (mputR m k v >>= f) P E) : ∃ m', m.length < sizeLine ∧ m' = mput m k v ∧ Post (f m') P E := by
  unfold mputR at h
  by_cases hl : m.length < 100000
  · rw [if_pos hl] at h
    exact ⟨_, Nat.lt_of_lt_of_le hl line5, rfl, h⟩
  · rw [if_neg hl] at h
    exact (show False from h).elim
/-! ### list(range(n)) -/
@[irreducible] def listRng (i j : Int) : R (List Int) := if -(2 ^ 62) ≤ i ∧ i < 2 ^ 62 ∧ -(2 ^ 62) ≤ j ∧ j < 2 ^ 62 ∧ (j - i).toNat ≤ 100000 then .ok (rng i j) else .bad
theorem rgV_eq (i j : Int) : rgV i j = (rng i j).map V.int := by
  unfold rgV rng
  rw [List.map_map]
  rfl
theorem pb_lrng {δ : Type} {i j : Int} {f : List Int → R δ} {P : δ → Prop} {E : Exn → Prop} (h : Post (listRng i j >>= f) P E) : ∃ l, RgOk i j ∧ l = rng i j ∧ Post (f l) P E := by
  unfold listRng at h
  by_cases hl : -(2 ^ 62) ≤ i ∧ i < 2 ^ 62 ∧ -(2 ^ 62) ≤ j ∧ j < 2 ^ 62 ∧ (j - i).toNat ≤ 100000
  · rw [if_pos hl] at h
    obtain ⟨a, b, c, d, e⟩ := hl
    exact ⟨_, ⟨a, b, c, d, by omega⟩, rfl, h⟩
  · rw [if_neg hl] at h
    exact (show False from h).elim
/-! ### a list of perhaps nothing, where nothing is nothing -/
/-! ### pop -/
@[irreducible] def popB {α : Type} (xs : List α) (i : Int) : R (α × List α) := if -(2 ^ 62) ≤ i ∧ i < 2 ^ 62 then popAt xs i else .bad
theorem pn_popB {α β : Type} {xs : List α} {i : Int} {f : α × List α → R β} {Q : β → Prop} {E : Exn → Prop} (h : Post (popB xs i >>= f) Q E) : ∃ j x ys, (-(2 ^ 63) ≤ i ∧ i < 2 ^ 63) ∧ ixN xs.length i = some j ∧ xs[j]? = some x ∧ ys = xs.eraseIdx j ∧ Post (f (x, ys)) Q E := by
  unfold popB at h
  by_cases hi : -(2 ^ 62) ≤ i ∧ i < 2 ^ 62
  · rw [if_pos hi] at h
    obtain ⟨j, x, ys, a, b, c, d⟩ := pn_popAt h
    exact ⟨j, x, ys, by omega, a, b, c, d⟩
  · rw [if_neg hi] at h
    exact (show False from h).elim
/-! ### in, of a dict of scalars -/
def tDNotInH (ty td : TE) : TE := fun σ H Q => ty σ H fun y H1 => td σ H1 fun x H2 => ∃ a o b, x = .ref a ∧ DGet H2 a y o ∧ o.isSome = b ∧ Q (.bl (!b)) H2
section
variable {X : Cx} {o i : Expr} {td ty : TE}
theorem pc_dnotinH (hu : X.A.units + 1 < cLine) (hi : PE X i ty) (ho : PE X o td) : PC X .NotIn i o (tDNotInH ty td) := by
  refine ⟨fun pins s σ H Q I h => ?_⟩
  refine thn (hi.run pins s σ H _ I h) fun iv s1 ⟨y, H1, I1, ry, q1⟩ => thn (ho.run pins s1 σ H1 _ I1 q1) fun u s2 ⟨x, H2, I2, rx, a, ov, b, ex, g, eb, q2⟩ => ?_
  subst ex
  subst eb
  obtain rfl : u = Value.ref a := rx
  exact d_notIn hu I2 g ry fun s3 I3 => ⟨.bl (!ov.isSome), H2, I3, rfl, q2⟩
end
theorem Room.units1 {k : Nat} {A : Around} (r : Room k A) : A.units + 1 < cLine := by
  have := r.un
  omega
end Z
/-! ZX: an exception caught by its class, held behind the suite as a thing of its own -/
namespace L2
open PySem PySem.Spec PyProof.Rows
/-- a caught exception of the class cls at a -/
def ExH (cls : Value) (a : Addr) : HO := .ext fun h => ∃ (oe : Obj), h.get? a = some oe ∧ Zc cls none oe ∧ ∃ vs, oe.data = .fields vs
end L2
namespace Z
open PySem L2
open Rep (rep)
/-- the class that a name of the text names -/
def Nm (K : Fg) (x : Str) (C : Addr) : Prop := PySem.W.nsIn K mainGlobals x = some (some (.ref C))
instance repExn : Rep Exn := ⟨fun K F v e => ∃ a C, v = .ref a ∧ Nm K e.cls C ∧ F a = some (ExH (.ref C) a), fun s ⟨a, C, h, n, q⟩ => ⟨a, C, h, n, s _ _ q⟩⟩
/-- a call that lets no error out -/
def nx {α : Type} (m : R α) : R α := match m with
  | .ok a => .ok a
  | .exc _ => .bad
  | .bad => .bad
theorem kit_ty {K : Fg} {x : Addr} {T : String} {b : Bool} (h1 : PySem.W.kitMeta T = true) (h3 : PySem.W.subIn K (.ref x) (.type T) = some b) : PySem.W.kitOne K (.ref x) (.type T) = some b := by
  have e : PySem.W.kitCls K (.ref x) (.type T) = some b := by
    show (if PySem.W.kitMeta T = true then PySem.W.subIn K (.ref x) (.type T) else none) = some b
    rw [if_pos h1]
    exact h3
  unfold PySem.W.kitOne
  have h4 : (Value.ref x == Value.type T) = false := rfl
  rw [h4, if_neg (by decide)]
  exact e
end Z
/-! Z5: regions: lists of one's own by their number in a store -/
namespace Z
open PySem L2
open Rep (rep)
/-! ### two lists, item by item -/
inductive F2 {α β : Type} (r : α → β → Prop) : List α → List β → Prop
  | nil : F2 r [] []
  | cons {a : α} {b : β} {as : List α} {bs : List β} : r a b → F2 r as bs → F2 r (a :: as) (b :: bs)
section
variable {α β : Type} {r r' : α → β → Prop} {as : List α} {bs : List β}
theorem F2.length : ∀ {as : List α} {bs : List β}, F2 r as bs → as.length = bs.length
  | _, _, .nil => rfl
  | _, _, .cons _ t => by rw [List.length_cons, List.length_cons, F2.length t]
theorem F2.imp (f : ∀ a b, r a b → r' a b) : ∀ {as : List α} {bs : List β}, F2 r as bs → F2 r' as bs
  | _, _, .nil => .nil
  | _, _, .cons h t => .cons (f _ _ h) (F2.imp f t)
theorem F2.get : ∀ {as : List α} {bs : List β} {i : Nat} {b : β}, F2 r as bs → bs[i]? = some b → ∃ a, as[i]? = some a ∧ r a b
  | _, _, _, _, .nil, e => by simp at e
  | _, _, 0, _, .cons h _, e => by simp at e; subst e; exact ⟨_, rfl, h⟩
  | _, _, i + 1, b, .cons _ t, e => by
    obtain ⟨v, h1, h2⟩ := F2.get (i := i) (b := b) t (by simpa using e)
    exact ⟨v, by simpa using h1, h2⟩
theorem F2.set {a : α} {b : β} (h : r a b) : ∀ {as : List α} {bs : List β} (i : Nat), F2 r as bs → F2 r (as.set i a) (bs.set i b)
  | _, _, _, .nil => .nil
  | _, _, 0, .cons _ t => .cons h t
  | _, _, i + 1, .cons q t => .cons q (F2.set h i t)
theorem F2.append : ∀ {as as' : List α} {bs bs' : List β}, F2 r as bs → F2 r as' bs' → F2 r (as ++ as') (bs ++ bs')
  | _, _, _, _, .nil, h => h
  | _, _, _, _, .cons a t, h => .cons a (F2.append t h)
theorem F2.snoc {a : α} {b : β} (h : F2 r as bs) (q : r a b) : F2 r (as ++ [a]) (bs ++ [b]) := h.append (.cons q .nil)
end
/-! ### a store's lists: cells -/
def nz : List Addr → List (List V) → List (Addr × HO)
  | a :: as, vs :: vss => (a, .lst vs) :: nz as vss
  | _, _ => []
theorem nz_split : ∀ {as : List Addr} {vss : List (List V)} {j : Nat} {a : Addr} {vs : List V}, as[j]? = some a → vss[j]? = some vs →
    ∃ x y, nz as vss = x ++ (a, .lst vs) :: y ∧ ∀ us, nz as (vss.set j us) = x ++ (a, .lst us) :: y
  | [], _, j, _, _, h, _ => by simp at h
  | _ :: _, [], j, _, _, _, h => by simp at h
  | b :: as, ws :: vss, 0, a, vs, h1, h2 => by
    simp at h1 h2
    subst h1 h2
    exact ⟨[], nz as vss, rfl, fun _ => rfl⟩
  | b :: as, ws :: vss, j + 1, a, vs, h1, h2 => by
    obtain ⟨x, y, e1, e2⟩ := nz_split (as := as) (vss := vss) (j := j) (a := a) (vs := vs) (by simpa using h1) (by simpa using h2)
    exact ⟨(b, .lst ws) :: x, y, by show (b, HO.lst ws) :: nz as vss = _; rw [e1]; rfl, fun us => by show (b, HO.lst ws) :: nz as (vss.set j us) = _; rw [e2]; rfl⟩
theorem nz_snoc : ∀ {as : List Addr} {vss : List (List V)} {a : Addr} {vs : List V}, as.length = vss.length → nz (as ++ [a]) (vss ++ [vs]) = nz as vss ++ [(a, .lst vs)]
  | [], [], _, _, _ => rfl
  | [], _ :: _, _, _, h => by simp at h
  | _ :: _, [], _, _, h => by simp at h
  | b :: as, ws :: vss, a, vs, h => by
    show (b, HO.lst ws) :: nz (as ++ [a]) (vss ++ [vs]) = (b, HO.lst ws) :: (nz as vss ++ [(a, .lst vs)])
    rw [nz_snoc (by simpa using h)]
section
variable {F H : Hp} {os os' pre post : List (Addr × HO)} {a p : Addr} {o : HO} {as : List Addr} {vss : List (List V)} {j : Nat} {vs : List V}
theorem W.perm (h : os.Perm os') (w : W F H os) : W F H os' where
  same := w.same
  own := fun q hq => w.own q (h.mem_iff.mpr hq)
  nd := h.pairwise_iff (fun e q => e q.symm) |>.mp w.nd
  nt := fun q hq => w.nt q (h.mem_iff.mpr hq)
/-- the j-th list of a store -/
theorem W.nget (w : W F H (pre ++ (nz as vss ++ post))) (h1 : as[j]? = some a) (h2 : vss[j]? = some vs) : H a = some (.lst vs) := by
  obtain ⟨x, y, e, _⟩ := nz_split h1 h2
  rw [e] at w
  exact (w.own (a, .lst vs) (by simp)).1
theorem W.nset (w : W F H (pre ++ (nz as vss ++ post))) (us : List V) (h1 : as[j]? = some a) (h2 : vss[j]? = some vs) : W F (upd H a (.lst us)) (pre ++ (nz as (vss.set j us) ++ post)) := by
  obtain ⟨x, y, e, e2⟩ := nz_split h1 h2
  rw [e] at w
  rw [e2]
  have w' : W F H ((pre ++ x) ++ (a, .lst vs) :: (y ++ post)) := by
    have e3 : pre ++ (x ++ (a, HO.lst vs) :: y ++ post) = (pre ++ x) ++ (a, HO.lst vs) :: (y ++ post) := by simp
    rw [← e3]
    exact w
  have w2 := w'.set (o' := .lst us)
  have e3 : pre ++ (x ++ (a, HO.lst us) :: y ++ post) = (pre ++ x) ++ (a, HO.lst us) :: (y ++ post) := by simp
  rw [e3]
  exact w2
/-- a cell goes into a store -/
theorem W.nadd (w : W F H ((p, .lst vs) :: (pre ++ (nz as vss ++ post)))) (hl : as.length = vss.length) : W F H (pre ++ (nz (as ++ [p]) (vss ++ [vs]) ++ post)) := by
  rw [nz_snoc hl]
  refine w.perm ?_
  have e : pre ++ (nz as vss ++ [(p, HO.lst vs)] ++ post) = (pre ++ nz as vss) ++ (p, HO.lst vs) :: post := by simp
  have e2 : (p, HO.lst vs) :: (pre ++ (nz as vss ++ post)) = (p, HO.lst vs) :: ((pre ++ nz as vss) ++ post) := by simp
  rw [e, e2]
  exact List.perm_middle.symm
theorem W.dropL (w : W F H (pre ++ (os ++ post))) : W F H (pre ++ post) where
  same := w.same
  own := fun q hq => w.own q (by
    rcases List.mem_append.mp hq with h | h
    · exact List.mem_append_left _ h
    · exact List.mem_append_right _ (List.mem_append_right _ h))
  nd := by
    have nd := w.nd
    rw [List.pairwise_append] at nd ⊢
    obtain ⟨n1, n2, n3⟩ := nd
    rw [List.pairwise_append] at n2
    exact ⟨n1, n2.2.1, fun x hx y hy => n3 x hx y (List.mem_append_right _ hy)⟩
  nt := fun q hq => w.nt q (by
    rcases List.mem_append.mp hq with h | h
    · exact List.mem_append_left _ h
    · exact List.mem_append_right _ (List.mem_append_right _ h))
end
/-! ### what stands in a store -/
section
variable {α β δ : Type} [Rep α] [Rep β] {K : Fg} {F F' H : Hp} {as as' : List Addr} {vss : List (List V)} {st : List (List α)}
structure Sto (K : Fg) (F : Hp) (as : List Addr) (vss : List (List V)) (st : List (List α)) : Prop where
  len : as.length = vss.length
  all : F2 (A2 (rep K F)) vss st
theorem Sto.nil : Sto K F [] [] ([] : List (List α)) := ⟨rfl, .nil⟩
theorem Sto.mono (s : Same F F') (h : Sto K F as vss st) : Sto K F' as vss st := ⟨h.len, h.all.imp fun _ _ q => q.mono s⟩
theorem Sto.len2 (h : Sto K F as vss st) : as.length = st.length := h.len.trans h.all.length
theorem Sto.get {j : Nat} {xs : List α} (h : Sto K F as vss st) (e : st[j]? = some xs) : ∃ a vs, as[j]? = some a ∧ vss[j]? = some vs ∧ A2 (rep K F) vs xs := by
  obtain ⟨vs, h1, h2⟩ := h.all.get e
  have hj := (List.getElem?_eq_some_iff.mp e).1
  rw [← h.len2] at hj
  exact ⟨as[j], vs, List.getElem?_eq_getElem hj, h1, h2⟩
theorem Sto.set {j : Nat} {vs : List V} {xs : List α} (h : Sto K F as vss st) (q : A2 (rep K F) vs xs) : Sto K F as (vss.set j vs) (st.set j xs) := ⟨by rw [List.length_set]; exact h.len, h.all.set q j⟩
theorem Sto.snoc {p : Addr} {vs : List V} {xs : List α} (h : Sto K F as vss st) (q : A2 (rep K F) vs xs) : Sto K F (as ++ [p]) (vss ++ [vs]) (st ++ [xs]) := ⟨by simp [h.len], h.all.snoc q⟩
/-- a number in a store -/
abbrev Ix := Nat
def RX (as : List Addr) (v : V) (j : Ix) : Prop := ∃ a, v = .ref a ∧ as[j]? = some a
theorem RX.mono (h : as <+: as') {v : V} {j : Ix} (q : RX as v j) : RX as' v j := by
  obtain ⟨a, e, q⟩ := q
  obtain ⟨t, rfl⟩ := h
  refine ⟨a, e, ?_⟩
  rw [List.getElem?_append_left (List.getElem?_eq_some_iff.mp q).1]
  exact q
theorem RX.new (h : as.length = n) {p : Addr} : RX (as ++ [p]) (.ref p) n := ⟨p, rfl, by rw [List.getElem?_append_right (by omega), ← h]; simp⟩
theorem IQ.mono (h : as <+: as') {a : Addr} {j : Nat} (q : as[j]? = some a) : as'[j]? = some a := by
  obtain ⟨t, rfl⟩ := h
  rw [List.getElem?_append_left (List.getElem?_eq_some_iff.mp q).1]
  exact q
theorem IQ.new {n : Nat} (h : as.length = n) {p : Addr} : (as ++ [p])[n]? = some p := by
  rw [List.getElem?_append_right (by omega), ← h]
  simp
theorem pfx_trans {as2 : List Addr} (h : as <+: as') (h' : as' <+: as2) : as <+: as2 := h.trans h'
theorem Sto.getq {j : Nat} {xs : List α} {a : Addr} (h : Sto K F as vss st) (e : st[j]? = some xs) (q : as[j]? = some a) : ∃ vs, vss[j]? = some vs ∧ A2 (rep K F) vs xs := h.all.get e
theorem pfx_refl : as <+: as := List.prefix_refl _
theorem pfx_snoc {p : Addr} : as <+: as ++ [p] := List.prefix_append _ _
/-- the list of a number -/
def getS (st : List (List α)) (j : Ix) : R (List α) := ofO st[j]?
theorem pb_getS {st : List (List α)} {j : Ix} {f : List α → R δ} {P : δ → Prop} {E : Exn → Prop} (h : Post (getS st j >>= f) P E) : ∃ xs, st[j]? = some xs ∧ Post (f xs) P E := pb_ofO h
/-- .. another list in its place -/
def setS (st : List (List α)) (j : Ix) (ys : List α) : R (List (List α)) := .ok (st.set j ys)
theorem pn_setS {st : List (List α)} {j : Ix} {ys : List α} {f : List (List α) → R δ} {P : δ → Prop} {E : Exn → Prop} (h : Post (setS st j ys >>= f) P E) : ∃ st', st' = st.set j ys ∧ Post (f st') P E := ⟨_, rfl, h⟩
/-- .. a new one -/
def newS (st : List (List α)) (ys : List α) : R (Ix × List (List α)) := .ok (st.length, st ++ [ys])
theorem pn_newS {st : List (List α)} {ys : List α} {f : Ix × List (List α) → R δ} {P : δ → Prop} {E : Exn → Prop} (h : Post (newS st ys >>= f) P E) : ∃ j st', j = st.length ∧ st' = st ++ [ys] ∧ Post (f (j, st')) P E := ⟨_, _, rfl, rfl, h⟩
end
section
variable {K : Fg} {F : Hp} {a : Addr} {β : Type} {vs : List V} {xs : List β} {r : V → β → Prop}
theorem tw_listR (h : A2 r vs xs) : TW (Itl K a) xs (fun H => SqL K H a vs) (fun b H x H' => H' = H ∧ r x b) := ⟨by
  rw [← h.length]
  exact walk_list.mono (fun _ g => g) fun i H x H' _ _ y => by
    obtain ⟨y1, y2⟩ := y
    obtain ⟨b, h1, h2⟩ := h.getV y2
    exact ⟨b, h1, y1, h2⟩⟩
end
/-! ### comprehensions, what is made told by the state -/
section
variable {J : It} {β γ δ ε : Type} {items : List β} {G : Hp → Prop} {Y : β → Hp → V → Hp → Prop} {g : TG} {tt : TT} {te : TE} {P : ε → Prop} {X : Exn → Prop} {K : Fg} {vs : List Nat} {σ : St} {F H1 : Hp} {os : List (Addr × HO)} {D : Addr} {Qd : Hp → Prop}
theorem lcG (tw : TW J items G Y) {f : γ → β → R (Option δ × γ)} {s0 : γ} {k : List δ × γ → R ε} (hm : Post (filStG f s0 items >>= k) P X) (O : γ → Hp → List (Addr × HO) → List V → List δ → Prop) (w : W F H1 os) (o0 : O s0 F os [] []) (nD : H1 D = none)
    (hl : ∀ c F' os' us ys, O c F' os' us ys → us.length = ys.length)
    (hG : ∀ c F' H' os' acc ys, Same F F' → W F' H' ((D, .lst acc) :: os') → O c F' os' acc ys → G H')
    (hs : ∀ (b : β) (c : γ) (x : V) (F' H' H'' : Hp) (os' : List (Addr × HO)) (acc : List V) (ys : List δ) (N : V → Hp → Prop) (N0 : Hp → Prop) (P' : Option δ × γ → Prop), Same F F' → W F' H' ((D, .lst acc) :: os') → O c F' os' acc ys → Y b H' x H'' →
      (∀ d c', P' (some d, c') → ∀ y F'' H'' os'', W F'' H'' ((D, .lst acc) :: os'') → Same F' F'' → O c' F'' os'' (acc ++ [y]) (ys ++ [d]) → N y H'') →
      (∀ c', P' (none, c') → ∀ F'' H'' os'', W F'' H'' ((D, .lst acc) :: os'') → Same F' F'' → O c' F'' os'' acc ys → N0 H'') → Post (f c b) P' X →
      g x (wipe σ vs) H'' fun σ2 H2 => wipe σ2 vs = wipe σ vs ∧ tt σ2 H2 fun b H3 => if b = true then te σ2 H3 N else N0 H3)
    (hd : ∀ c us F' H' os' ys, Same F F' → W F' H' ((D, .lst us) :: os') → O c F' os' us ys → Post (k (ys, c)) P X → Qd H') : LcAsk J g tt te vs σ H1 D Qd := by
  obtain ⟨hlen, hm⟩ := pb_grd (pb_assoc hm)
  have hlen : items.length < sizeLine := Nat.lt_of_lt_of_le (of_decide_eq_true hlen) line5
  refine lc_it tw.walk (fun i H => ∃ c F' os' us ys, i ≤ items.length ∧ Same F F' ∧ W F' H ((D, .lst us) :: os') ∧ O c F' os' us ys ∧ ys.length ≤ i ∧ Post (filSt f c (items.drop i) >>= fun q => k (ys ++ q.1, q.2)) P X) ?_ ?_ ?_ ?_
  · exact ⟨s0, F, os, [], [], Nat.zero_le _, Same.refl _, w.new nD, o0, Nat.le_refl _, hm⟩
  · rintro i H _ ⟨c, F', os', us, ys, _, s, w', o, _⟩
    exact hG c F' H os' us ys s w' o
  · rintro i x H H' hi ⟨c, F', os', us, ys, _, s, w', o, hl2, hm⟩ ⟨b, hb, y⟩
    rw [drop_cons hb] at hm
    have hm' : Post ((f c b >>= fun p => filSt f p.2 (items.drop (i + 1)) >>= fun q => match p.1 with
      | some y => (R.ok (y :: q.1, q.2) : R (List δ × γ))
      | none => R.ok q) >>= fun q => k (ys ++ q.1, q.2)) P X := hm
    rw [bind_bind] at hm'
    have hm2 := post_bind hm'
    have hul : us.length = ys.length := hl _ _ _ _ _ o
    refine hs b c x F' H H' os' us ys (fun y H4 => ∃ acc, H4 D = some (.lst acc) ∧ acc.length < sizeLine ∧ _) _ _ s w' o y ?_ ?_ hm2
    · intro d c' p2 y F'' H'' os'' w2 s2 o2
      refine ⟨us, w2.get (pre := []), by omega, c', F'', os'', us ++ [y], ys ++ [d], hi, s.trans s2, w2.set (pre := []), o2, by rw [List.length_append, List.length_singleton]; omega, ?_⟩
      have p3 : Post ((filSt f c' (items.drop (i + 1)) >>= fun q => (R.ok (d :: q.1, q.2) : R (List δ × γ))) >>= fun q => k (ys ++ q.1, q.2)) P X := p2
      rw [bind_bind] at p3
      have e : (fun q : List δ × γ => (R.ok (d :: q.1, q.2) : R (List δ × γ)) >>= fun q => k (ys ++ q.1, q.2)) = fun q => k (ys ++ [d] ++ q.1, q.2) := by
        funext q
        show k (ys ++ (d :: q.1), q.2) = k (ys ++ [d] ++ q.1, q.2)
        rw [List.append_assoc]
        rfl
      rw [e] at p3
      exact p3
    · intro c' p2 F'' H'' os'' w2 s2 o2
      refine ⟨c', F'', os'', us, ys, hi, s.trans s2, w2, o2, by omega, ?_⟩
      have p3 : Post ((filSt f c' (items.drop (i + 1)) >>= fun q => (R.ok q : R (List δ × γ))) >>= fun q => k (ys ++ q.1, q.2)) P X := p2
      rw [bind_bind] at p3
      exact p3
  · rintro H ⟨c, F', os', us, ys, _, s, w', o, _, hm⟩
    rw [List.drop_length] at hm
    have hm' : Post (k (ys ++ [], c)) P X := hm
    rw [List.append_nil] at hm'
    exact hd c us F' H os' ys s w' o hm'
theorem lcGM (tw : TW J items G Y) {f : γ → β → R (δ × γ)} {s0 : γ} {k : List δ × γ → R ε} (hm : Post (mapStG f s0 items >>= k) P X) (O : γ → Hp → List (Addr × HO) → List V → List δ → Prop) (w : W F H1 os) (o0 : O s0 F os [] []) (nD : H1 D = none)
    (hl : ∀ c F' os' us ys, O c F' os' us ys → us.length = ys.length)
    (hG : ∀ c F' H' os' acc ys, Same F F' → W F' H' ((D, .lst acc) :: os') → O c F' os' acc ys → G H')
    (hs : ∀ (b : β) (c : γ) (x : V) (F' H' H'' : Hp) (os' : List (Addr × HO)) (acc : List V) (ys : List δ) (N : V → Hp → Prop) (P' : δ × γ → Prop), Same F F' → W F' H' ((D, .lst acc) :: os') → O c F' os' acc ys → Y b H' x H'' →
      (∀ d c', P' (d, c') → ∀ y F'' H'' os'', W F'' H'' ((D, .lst acc) :: os'') → Same F' F'' → O c' F'' os'' (acc ++ [y]) (ys ++ [d]) → N y H'') → Post (f c b) P' X →
      g x (wipe σ vs) H'' fun σ2 H2 => wipe σ2 vs = wipe σ vs ∧ te σ2 H2 N)
    (hd : ∀ c us F' H' os' ys, Same F F' → W F' H' ((D, .lst us) :: os') → O c F' os' us ys → Post (k (ys, c)) P X → Qd H') : LcAsk J g tYes te vs σ H1 D Qd := by
  have e : ∀ (s : γ) (l : List β), filSt (fun c b => f c b >>= fun p => R.ok (some p.1, p.2)) s l = mapSt f s l := by
    intro s l
    induction l generalizing s with
    | nil => rfl
    | cons b l ih =>
      show ((f s b >>= fun p => R.ok (some p.1, p.2)) >>= fun p => filSt (fun c b => f c b >>= fun p => R.ok (some p.1, p.2)) p.2 l >>= fun q => match p.1 with
        | some y => (R.ok (y :: q.1, q.2) : R (List δ × γ))
        | none => R.ok q) = (f s b >>= fun p => mapSt f p.2 l >>= fun q => .ok (p.1 :: q.1, q.2))
      rw [bind_bind]
      refine congrArg (f s b >>= ·) ?_
      funext p
      show (filSt (fun c b => f c b >>= fun p => R.ok (some p.1, p.2)) p.2 l >>= fun q => (R.ok (p.1 :: q.1, q.2) : R (List δ × γ))) = _
      rw [ih]
  have hm' : Post (filStG (fun c b => f c b >>= fun p => R.ok (some p.1, p.2)) s0 items >>= k) P X := by
    unfold filStG
    simp only [e]
    exact hm
  refine lcG tw hm' O w o0 nD hl hG (fun b c x F' H' H'' os' acc ys N N0 P' s w' o y hN hN0 hp => ?_) hd
  exact hs b c x F' H' H'' os' acc ys N _ s w' o y (fun d c' p2 y F'' H'' os'' w2 s2 o2 => hN d c' p2 y F'' H'' os'' w2 s2 o2) (post_bind hp)
end
end Z
/-! Z6: constants of the module, things, dicts as written and asked -/
namespace Z
open PySem L2
open Rep (rep)
section
variable {X : Cx}
theorem call_intB : CallR X (.type "int") (fun xs H Q => ∃ k, xs = [.bl k] ∧ Q (.int (if k = true then 1 else 0)) H) := by
  intro pins s σ H xs us Q I r ⟨k, e, q⟩
  exact call_int1 pins s σ H xs us Q I r (.inr ⟨k, e, q⟩)
end
/-- a while's fuel, not to be reckoned with -/
@[irreducible] def fu (n : Nat) : Nat := n
theorem fu_eq (n : Nat) : fu n = n := by
  unfold fu
  rfl
/-- x in l -/
abbrev inB {α : Type} [DecidableEq α] (x : α) (l : List α) : Bool := decide (x ∈ l)
theorem inB_t {α : Type} [DecidableEq α] {x : α} {l : List α} : inB x l = true ↔ x ∈ l := decide_eq_true_iff
def b2i (b : Bool) : Int := if b = true then 1 else 0
/-! ### things -/
def Thing.isPl : Thing → Bool
  | .pl _ => true
  | .ti _ _ => false
def asPl : Thing → R Int
  | .pl i => .ok i
  | .ti _ _ => .bad
def asTi : Thing → R (Int × Int)
  | .pl _ => .bad
  | .ti a b => .ok (a, b)
def mkpl (xs : List Int) : List Thing := xs.map Thing.pl
def mkti (xs : List (Int × Int)) : List Thing := xs.map fun p => Thing.ti p.1 p.2
section
variable {δ : Type} {P : δ → Prop} {E : Exn → Prop} {K : Fg} {F H : Hp}
theorem pb_asPl {t : Thing} {f : Int → R δ} (h : Post (asPl t >>= f) P E) : ∃ i, t = .pl i ∧ Post (f i) P E := by
  cases t with
  | pl i => exact ⟨i, rfl, h⟩
  | ti a b => exact (show False from h).elim
theorem pb_asTi {t : Thing} {f : Int × Int → R δ} (h : Post (asTi t >>= f) P E) : ∃ q : Int × Int, t = .ti q.1 q.2 ∧ Post (f q) P E := by
  cases t with
  | pl i => exact (show False from h).elim
  | ti a b => exact ⟨(a, b), rfl, h⟩
theorem A2.pl : ∀ {vs : List V} {xs : List Int}, A2 (rep K F) vs xs → A2 (rep K F) vs (mkpl xs)
  | _, _, .nil => .nil
  | _, _, .cons h t => .cons h (A2.pl t)
theorem A2.ti : ∀ {vs : List V} {xs : List (Int × Int)}, A2 (rep K F) vs xs → A2 (rep K F) vs (mkti xs)
  | _, _, .nil => .nil
  | _, _, .cons h t => .cons h (A2.ti t)
theorem th_ty (s : Same F H) {v : V} {t : Thing} (r : rep K F v t) : ∃ a, TyOf K H v (.type a) ∧ (a = "int" ∧ t.isPl = true ∨ a = "tuple" ∧ t.isPl = false) := by
  cases t with
  | pl i =>
    have r' : v = V.int i := r
    subst r'
    exact ⟨_, .int i, .inl ⟨rfl, rfl⟩⟩
  | ti a b =>
    obtain ⟨c, u, w, rfl, q, _⟩ := (show rep K F v (a, b) from r)
    exact ⟨_, .tup (s _ _ q), .inr ⟨rfl, rfl⟩⟩
theorem th_tuple (s : Same F H) {v : V} {t : Thing} (r : rep K F v t) : ∃ a, TyOf K H v (.type a) ∧ kitB a "tuple" = some (!t.isPl) := by
  obtain ⟨a, h, z⟩ := th_ty s r
  rcases z with ⟨rfl, e⟩ | ⟨rfl, e⟩
  · exact ⟨_, h, by rw [e]; decide +kernel⟩
  · exact ⟨_, h, by rw [e]; decide +kernel⟩
theorem th_bool (s : Same F H) {v : V} {t : Thing} (r : rep K F v t) : ∃ a, TyOf K H v (.type a) ∧ kitB a "bool" = some false := by
  obtain ⟨a, h, z⟩ := th_ty s r
  rcases z with ⟨rfl, e⟩ | ⟨rfl, e⟩
  · exact ⟨_, h, by decide +kernel⟩
  · exact ⟨_, h, by decide +kernel⟩
end
/-! ### dicts of scalars: as written, asked -/
section
variable {κ β γ : Type} [DecidableEq κ]
/-- as a display makes it -/
def mmk (l : List (κ × β)) : List (κ × β) := l.foldl (fun m p => mput m p.1 p.2) []
theorem merge_enc {ev : β → V} (l m : List (Int × β)) : mergeK (encM kI ev m) (encM kI ev l) = encM kI ev (l.foldl (fun m p => mput m p.1 p.2) m) := by
  induction l generalizing m with
  | nil => rfl
  | cons p l ih =>
    show mergeK (putK (encM kI ev m) (kI p.1) (ev p.2)) (encM kI ev l) = _
    rw [put_enc kI_inj, ih]
    rfl
end
section
variable {β δ : Type} {ev : β → V} {H : Hp} {a b : Addr} {P : δ → Prop} {E : Exn → Prop}
theorem dgets_k {m : List (Int × β)} {k : Int} {t : β} (e : H a = some (.dK (encM kI ev m))) (q : mget m k = some t) : DGet H a (.int k) (some (ev t)) := by
  have h := dget_k (k := k) e
  rw [q] at h
  exact h
theorem pb_mget {κ : Type} [DecidableEq κ] {m : List (κ × β)} {k : κ} {f : β → R δ} (h : Post (mgetR m k >>= f) P E) : ∃ t, mget m k = some t ∧ Post (f t) P E := pb_ofO h
end
/-! ### tuples cut and joined -/
end Z
/-! Z7: dicts of tuple keys whose values are lists of a store; their values walked -/
namespace L2
open PySem PySem.Spec PyProof.Rows
end L2
namespace Z
open PySem L2
open Rep (rep)
/-! ### dicts by what their values stand for -/
section
variable {κ β γ : Type} [DecidableEq κ] [DecidableEq γ] {e : κ → γ} {r r' : V → β → Prop}
inductive AD (e : κ → γ) (r : V → β → Prop) : List (γ × V) → List (κ × β) → Prop
  | nil : AD e r [] []
  | cons {k : κ} {v : V} {x : β} {kvs : List (γ × V)} {m : List (κ × β)} : r v x → AD e r kvs m → AD e r ((e k, v) :: kvs) ((k, x) :: m)
theorem AD.length : ∀ {kvs : List (γ × V)} {m : List (κ × β)}, AD e r kvs m → kvs.length = m.length
  | _, _, .nil => rfl
  | _, _, .cons _ t => by rw [List.length_cons, List.length_cons, AD.length t]
theorem AD.imp (f : ∀ v x, r v x → r' v x) : ∀ {kvs : List (γ × V)} {m : List (κ × β)}, AD e r kvs m → AD e r' kvs m
  | _, _, .nil => .nil
  | _, _, .cons h t => .cons (f _ _ h) (AD.imp f t)
theorem AD.no (he : ∀ a b, e a = e b → a = b) {k : κ} : ∀ {kvs : List (γ × V)} {m : List (κ × β)}, AD e r kvs m → (valV kvs (e k)).isSome = mhas m k
  | _, _, .nil => rfl
  | _, _, .cons (k := j) (v := v) (x := x) (kvs := kvs) (m := m) h t => by
    show _ = (decide (j = k) || mhas m k)
    by_cases q : j = k
    · rw [valV_pos (congrArg e q), decide_eq_true q]; rfl
    · rw [valV_neg (fun z => q (he _ _ z)), decide_eq_false q, AD.no he t]; rfl
theorem AD.get (he : ∀ a b, e a = e b → a = b) {k : κ} {y : β} : ∀ {kvs : List (γ × V)} {m : List (κ × β)}, AD e r kvs m → mget m k = some y → ∃ v, valV kvs (e k) = some v ∧ r v y
  | _, _, .nil, h => by cases h
  | _, _, .cons (k := j) (v := v) (x := x) (kvs := kvs) (m := m) h t, g => by
    unfold mget at g
    by_cases q : j = k
    · rw [List.find?_cons_of_pos (by simpa using q)] at g
      cases g
      exact ⟨v, valV_pos (congrArg e q), h⟩
    · rw [List.find?_cons_of_neg (by simpa using q)] at g
      obtain ⟨u, h1, h2⟩ := AD.get he (k := k) t g
      exact ⟨u, by rw [valV_neg (fun z => q (he _ _ z))]; exact h1, h2⟩
theorem AD.snoc {k : κ} {v : V} {x : β} (h : r v x) : ∀ {kvs : List (γ × V)} {m : List (κ × β)}, AD e r kvs m → AD e r (kvs ++ [(e k, v)]) (m ++ [(k, x)])
  | _, _, .nil => .cons h .nil
  | _, _, .cons a t => .cons a (AD.snoc h t)
theorem AD.upd (he : ∀ a b, e a = e b → a = b) {k : κ} {v : V} {x : β} (h : r v x) : ∀ {kvs : List (γ × V)} {m : List (κ × β)}, AD e r kvs m → AD e r (kvs.map fun p => if p.1 = e k then (p.1, v) else p) (m.map fun p => if p.1 = k then (p.1, x) else p)
  | _, _, .nil => .nil
  | _, _, .cons (k := j) (v := u) (x := y) (kvs := kvs) (m := m) a t => by
    rw [List.map_cons, List.map_cons]
    by_cases q : j = k
    · subst q
      rw [if_pos rfl, if_pos rfl]
      exact .cons h (AD.upd he h t)
    · rw [if_neg q, if_neg (fun z => q (he _ _ z))]
      exact .cons a (AD.upd he h t)
theorem AD.any (he : ∀ a b, e a = e b → a = b) {k : κ} : ∀ {kvs : List (γ × V)} {m : List (κ × β)}, AD e r kvs m → (kvs.any fun p => decide (p.1 = e k)) = m.any fun p => decide (p.1 = k)
  | _, _, .nil => rfl
  | _, _, .cons (k := j) (kvs := kvs) (m := m) a t => by
    rw [List.any_cons, List.any_cons, AD.any he t]
    congr 1
    by_cases q : j = k
    · rw [q]; simp
    · rw [decide_eq_false q, decide_eq_false (fun z => q (he _ _ z))]
theorem AD.put (he : ∀ a b, e a = e b → a = b) {k : κ} {v : V} {x : β} {kvs : List (γ × V)} {m : List (κ × β)} (t : AD e r kvs m) (h : r v x) : AD e r (putK kvs (e k) v) (mput m k x) := by
  unfold putK mput
  rw [t.any he]
  by_cases q : (m.any fun p => decide (p.1 = k)) = true
  · rw [if_pos q, if_pos q]
    exact t.upd he h
  · rw [if_neg q, if_neg q]
    exact t.snoc h
end
section
variable {X : Cx} {K : Fg}
/-- l.index(x), of data -/
theorem mt_indexDt (hK : X.K = K) (α : Type) [Dat α] [DecidableEq α] (hd : Dat.dmax α ≤ 50) (hu : X.A.units + 65 < cLine) : MtR X "list.index" (fun x xs H Q => ∃ (a : Addr) (u : V) (ys : List α) (y : α) (j : Nat), x = V.ref a ∧ xs = [u] ∧ rep K H (V.ref a) ys ∧ rep K H u y ∧ fidx y ys = some j ∧ Q (.int (j : Int)) H) := by
  subst hK
  intro pins s σ H x xs v us Q I rx rxs ⟨a, u, ys, y, j, e1, e2, hs, hy, hj, q⟩
  obtain ⟨h1, h2⟩ := fidx_spec hj
  refine mt_indexD hu pins s σ H x xs v us Q I rx rxs ⟨a, u, Dat.toD y, ys.map Dat.toD, j, Dat.toD y, e1, e2, Dat.dp hs, Dat.dp hy, shapedD (α := List α) (by show Dat.dmax α + 1 ≤ 60; omega) ys, shapedD (by omega) y, ?_, ?_, fun m z hm hz => ?_, q⟩
  · rw [List.getElem?_map, h1]
    rfl
  · rw [eqvD]
    exact decide_eq_true rfl
  · rw [List.getElem?_map] at hz
    cases e : ys[m]? with
    | none => rw [e] at hz; cases hz
    | some t =>
      rw [e] at hz
      cases hz
      rw [eqvD]
      exact decide_eq_false (h2 m t hm e)
end
end Z
/-! Z8: set(list of ints), sorted of it; list.count of data; list.insert -/
namespace L2
open PySem PySem.Spec PyProof.Rows
section
variable {P : Program} {w : World} {A : Around} {E : Value → Shared → Prop} {s : Shared}
set_option maxHeartbeats 3200000 in
/-- set(l) of a list of ints (turned from the tuple's, call_set_tupI) -/
theorem set_of_listI {l : Addr} {items : Array Value} (ns : List Int) {Q : Value → Shared → Prop} (hh : A.handled = none) (hl : s.heap.IsList l items) (hit : IntsAre items.toList ns) (hb : ns.length + 1 < scanBound)
    (h : ∀ (h' : Heap) (tk c : Nat), SetR w h' s.heap.objs.size (fun j => decide (j ∈ ns)) c → c ≤ ns.length → (∀ b o, s.heap.get? b = some o → h'.get? b = some o) → Q (.ref s.heap.objs.size) { s with heap := h', toks := tk }) :
    wpAny (model P w) A (call (.type "set") [.ref l]) Q E s := by
  have hisz : items.size = ns.length := by
    have q := IntsAre.length hit
    rw [Array.length_toList] at q
    exact q
  obtain ⟨c, tl, hmro⟩ := F.called_set.mro
  have hmade := F.called_set.made
  have hsub := F.called_set.sub
  refine wpAny_call (codeAny_of_tree ?_)
  show wpAny _ _ (callAny (.type "set") _) _ _ _
  refine wpAny_pure ⟨Code.quiet_builtin _ (by decide +kernel), codeAny_builtin F.entry_type_call ?_⟩
  rw [Around.under_plain (weight_type_call_type "set" [.ref l] []) rfl]
  have h1 := F.called_set.notType
  have h2 := F.called_set.canCreate
  have hct := F.typeCall_set_1 (.ref l)
  repeat (any_goals (first | assumption | wp_step))
  refine codeAny_mono (code_set_led1 (.ref l) (E := E) (Q₁ := fun obj s₁ => obj = .ref s.heap.objs.size ∧ s₁ = { s with heap := s.heap.push { cls := .type "set", dict := none, data := .set #[] 0 (.fresh 0 0 (!w.params.followText "set-order")) } }) ⟨rfl, rfl⟩) fun r s₁ hr => ?_
  cases r with
  | error e => exact hr
  | ok fl =>
    cases fl with
    | ret obj =>
      obtain ⟨rfl, rfl⟩ := hr
      have hS : (s.heap.push { cls := .type "set", dict := none, data := .set #[] 0 (.fresh 0 0 (!w.params.followText "set-order")) }).get? s.heap.objs.size = some { cls := .type "set", dict := none, data := .set #[] 0 (.fresh 0 0 (!w.params.followText "set-order")) } := Heap.get?_push_size _ rfl
      have hT : Shared.TypeIs { s with heap := s.heap.push { cls := .type "set", dict := none, data := .set #[] 0 (.fresh 0 0 (!w.params.followText "set-order")) } } (.ref s.heap.objs.size) "set" := ⟨_, hS, rfl⟩
      have hli := F.called_set.init.lookup
      have hbi := F.called_set.init.bind (.ref s.heap.objs.size)
      repeat (any_goals (first | assumption | wp_step))
      refine codeAny_mono (codeAny_call_builtin (R := wants (fun r s₂ => r = .none ∧ ∃ h' tk c, s₂ = { s with heap := h', toks := tk } ∧ SetR w h' s.heap.objs.size (fun j => decide (j ∈ ns)) c ∧ c ≤ ns.length ∧
          (∀ b o, s.heap.get? b = some o → h'.get? b = some o)) E) F.called_set.init.plain F.entry_set_init (check_set_init_1 hT ?_)) fun r₂ s₂ hr₂ => ?_
      · obtain ⟨ol, hol, hcl, nl, hdl⟩ := hl
        obtain ⟨ocls, odict, odata, oslots⟩ := ol
        simp only at hcl hdl
        subst hcl; subst hdl
        have hol' : (s.heap.push { cls := .type "set", dict := none, data := .set #[] 0 (.fresh 0 0 (!w.params.followText "set-order")) }).get? l = some { cls := .type "list", dict := odict, data := .seq items nl, slots := oslots } := Heap.get?_push_of_some _ hol
        have hsls := F.sub_list_set
        have hslf := F.sub_list_frozenset
        have hne : (Value.type "list" == Value.type "dict") = false := by decide
        have hl1 : (s.heap.push { cls := .type "set", dict := none, data := .set #[] 0 (.fresh 0 0 (!w.params.followText "set-order")) }).IsList l items := ⟨_, hol', rfl, nl, rfl⟩
        unfold Builtin.«set.__init__» noKeywords Builtin.Frozenset.updateFrom
        generalize hPI : pyIter = PI
        wp_walk
        subst hPI
        refine wpAny_pyIter_list hl1 ?_
        refine wpAny_bind (wpAny_runValue ?_)
        have hlS : l < s.heap.objs.size := Heap.lt_size hol
        have hh3 : A.in1.in1.in1.handled = none := by simp [hh]
        have hz1 : (s.heap.push { cls := .type "set", dict := none, data := .set #[] 0 (.fresh 0 0 (!w.params.followText "set-order")) }).objs.size = s.heap.objs.size + 1 := Heap.size_push ..
        have hneI : l ≠ (s.heap.push { cls := .type "set", dict := none, data := .set #[] 0 (.fresh 0 0 (!w.params.followText "set-order")) }).objs.size := by
          rw [Heap.size_push]; exact Nat.ne_of_lt (Nat.lt_succ_of_lt hlS)
        have hSf : s.heap.objs.size ∉ [(s.heap.push { cls := .type "set", dict := none, data := .set #[] 0 (.fresh 0 0 (!w.params.followText "set-order")) }).objs.size, l] := by
          rw [Heap.size_push]; simp only [List.mem_cons, List.mem_singleton, List.not_mem_nil, or_false, not_or]
          exact ⟨Nat.ne_of_lt (Nat.lt_succ_self _), Nat.ne_of_gt hlS⟩
        have hval : ∀ (i : Nat) (v : Value), items[i]? = some v → ∃ k t, ns[i]? = some k ∧ v = .int k t := fun i v hv => by
          have hi : i < ns.length := by rw [← hisz]; exact (Array.getElem?_eq_some_iff.mp hv).1
          obtain ⟨t, e⟩ := PyProof.Rows.IntsAre.int_at hit i v (by rw [Array.getElem?_toList]; exact hv)
          refine ⟨ns[i], t, List.getElem?_eq_getElem hi, ?_⟩
          rw [e, List.getD_eq_getElem?_getD, List.getElem?_eq_getElem hi] <;> rfl
        refine set_update_ints ((Walks.list hh3 _ l hneI items).toS) s.heap.objs.size
          hSf ns hisz hb hval (items.size - 0) 0 _ (by omega) (Nat.zero_le _)
          ⟨⟨_, Heap.get?_push_size _ rfl, rfl, rfl⟩, (hl1.push _)⟩ ?hS0 ?hR
        case hS0 =>
          have hget : ((s.heap.push { cls := .type "set", dict := none, data := .set #[] 0 (.fresh 0 0 (!w.params.followText "set-order")) }).push { cls := .type "list_iterator", data := .fields #[.ref l, .int 0 0] }).get? s.heap.objs.size = some { cls := .type "set", dict := none, data := .set #[] 0 (.fresh 0 0 (!w.params.followText "set-order")) } := Heap.get?_push_of_some _ hS
          exact ⟨0, Nat.le_refl 0, setR_new_at hget⟩
        case hR =>
          intro s' c' hm hc' hS'
          obtain ⟨h', g2, d', tk', os'⟩ := s'
          have eg : g2 = s.gens := hm.gens
          have ed : d' = s.drawn := hm.drawn
          have eo : os' = s.os := hm.os
          subst eg; subst ed; subst eo
          show wpAny _ _ _ _ _ _
          refine wpAny_pure ?_
          show wpAny _ _ (ret Value.none) _ _ _
          rw [hisz] at hc'
          refine wpAny_pure ⟨rfl, h', tk', c', rfl, hS', hc', fun b o e => ?_⟩
          have hb0 : b < s.heap.objs.size := Heap.lt_size e
          have hb1 : b ≠ s.heap.objs.size := Nat.ne_of_lt hb0
          have hb2 : b ≠ (s.heap.push { cls := .type "set", dict := none, data := .set #[] 0 (.fresh 0 0 (!w.params.followText "set-order")) }).objs.size := by
            rw [Heap.size_push]; exact Nat.ne_of_lt (Nat.lt_succ_of_lt hb0)
          exact hm.heap b o (by simp only [List.mem_cons, List.mem_singleton, List.not_mem_nil, or_false, not_or]; exact ⟨hb1, hb2⟩) (Heap.get?_push_of_some _ (Heap.get?_push_of_some _ e))
      · cases r₂ with
        | error e => exact hr₂
        | ok fl₂ =>
          cases fl₂ with
          | ret r =>
            obtain ⟨rfl, h', tk, c', rfl, hS', hc', hk'⟩ := hr₂
            repeat (any_goals (first | assumption | wp_step))
            exact h _ _ _ hS' hc' hk'
          | _ => exact hr₂.elim
    | _ => exact hr.elim
end
end L2
namespace Z
open PySem L2
open Rep (rep)
section
variable {X : Cx} {K : Fg} {w : World}
theorem cr_setLI (hK : X.K = K) (hw : X.w = w) (hc : X.calm = true) : CallR X (.type "set") (fun xs H Q => ∃ (l : Addr) (ns : List Int), xs = [V.ref l] ∧ SqL K H l (ns.map V.int) ∧ ns.length < 4000 ∧ ∀ a, H a = none → Q (.ref a) (upd H a (SetO w a (fun j => decide (j ∈ ns)) (nub ns).length))) := by
  subst hK hw
  intro pins s σ H xs us Q I r h
  obtain ⟨l, ns, rfl, hl, hf, q⟩ := h
  rw [Vals.ref1 r]
  obtain ⟨its, rv, pl, hz⟩ := I.list hl
  have hn : H s.heap.objs.size = none := I.hok.fresh (Nat.le_refl _)
  refine set_of_listI ns (I.ok.hd hc) pl.isList (by simpa using ints_of_vals rv) (by unfold scanBound; omega) fun h' tk c R hcn k => ?_
  have ec : c = (nub ns).length := by
    obtain ⟨o, es, ep, t, ho, hex, hdt, g, nd, hm2, hb, hf, hcs, hr, hl2⟩ := R
    rw [← hcs]
    have e1 : (es.toList.map keyOf).length = (nub ns).length := nodup_len nd (nub_nodup _) fun y => by
      rw [nub_mem, ← hm2 y, decide_eq_true_eq]
    rw [← e1, List.length_map, Array.length_toList]
  subst ec
  exact ⟨.ref s.heap.objs.size, upd H s.heap.objs.size (SetO X.w s.heap.objs.size (fun j => decide (j ∈ ns)) (nub ns).length), I.laid (t' := tk) k (Nat.le_refl _) (setO_new R), rfl, q _ hn⟩
theorem cr_sortSet (hw : X.w = w) (hc : X.calm = true) : CallR X (.builtin "sorted") (rSortedSet w) := by
  subst hw
  exact cr_sortedSet hc
end
/-- sorted(set(xs)) -/
def ssI (xs : List Int) : List Int := sortI (nub xs)
def ssR (xs : List Int) : R (List Int) := grd (decide (xs.length < 4000) && decide ((nub xs).length < 64)) >>= fun _ => .ok (ssI xs)
theorem perm_ints {xs ys : List Int} (h1 : xs.Nodup) (h2 : ys.Nodup) (h : ∀ x, x ∈ xs ↔ x ∈ ys) : xs.Perm ys := by
  rw [List.perm_iff_count]
  intro a
  rw [h1.count, h2.count]
  by_cases q : a ∈ xs
  · rw [if_pos q, if_pos ((h a).mp q)]
  · rw [if_neg q, if_neg (fun z => q ((h a).mpr z))]
theorem ssI_uniq {xs ns : List Int} (h1 : ns.Pairwise (· < ·)) (h2 : ∀ k : Int, k ∈ ns ↔ decide (k ∈ xs) = true) : ns = ssI xs := by
  unfold ssI
  refine sort_uniq ?_ (h1.imp fun h => Int.le_of_lt h) (sortI_sorted _)
  refine List.Perm.trans ?_ (sortI_perm _).symm
  refine perm_ints (h1.imp fun h => Int.ne_of_lt h) (nub_nodup _) fun k => ?_
  rw [h2 k, decide_eq_true_iff, nub_mem]
theorem pb_ss {δ : Type} {xs : List Int} {f : List Int → R δ} {P : δ → Prop} {E : Exn → Prop} (h : Post (ssR xs >>= f) P E) : ∃ l, (xs.length < 4000 ∧ (nub xs).length < 64) ∧ l = ssI xs ∧ Post (f l) P E := by
  unfold ssR at h
  cases q : (decide (xs.length < 4000) && decide ((nub xs).length < 64)) with
  | true =>
    rw [q] at h
    rw [Bool.and_eq_true, decide_eq_true_iff, decide_eq_true_iff] at q
    exact ⟨_, q, rfl, h⟩
  | false =>
    rw [q] at h
    exact (show False from h).elim
theorem A2.ins {α : Type} {r : V → α → Prop} {v : V} {y : α} (n : Nat) {vs : List V} {xs : List α} (h : A2 r vs xs) (g : r v y) : A2 r (vs.take n ++ [v] ++ vs.drop n) (xs.take n ++ [y] ++ xs.drop n) := A2.append (A2.append (A2.take n h) (.cons g .nil)) (A2.drop n h)
end Z
namespace Z
open PySem L2
open Rep (rep)
/-- a dict that stays as it is -/
structure FzD (κ β : Type) where
  m : List (κ × β)
  deriving DecidableEq
instance repFD : Rep (FzD Int Int) := ⟨fun K H v d => ∃ a, v = .ref a ∧ H a = some (.dK (encM kI V.int d.m)), fun s ⟨a, e, q⟩ => ⟨a, e, s _ _ q⟩⟩
end Z
namespace Z
open PySem L2
open Rep (rep)
/-- a text as a key -/
def kS (s : Str) : Key := Sum.inr s
theorem kS_inj : ∀ a b, kS a = kS b → a = b := fun _ _ h => Sum.inr.inj h
theorem AD.merge {κ β : Type} [DecidableEq κ] {e : κ → Key} {r : V → β → Prop} (he : ∀ a b, e a = e b → a = b) : ∀ {more : List (Key × V)} {l : List (κ × β)}, AD e r more l → ∀ {kvs : List (Key × V)} {m : List (κ × β)}, AD e r kvs m → AD e r (mergeK kvs more) (l.foldl (fun m p => mput m p.1 p.2) m)
  | _, _, .nil, _, _, h => h
  | _, _, .cons a t, _, _, h => AD.merge he t (AD.put he h a)
theorem AD.mmk {κ β : Type} [DecidableEq κ] {e : κ → Key} {r : V → β → Prop} (he : ∀ a b, e a = e b → a = b) {more : List (Key × V)} {l : List (κ × β)} (h : AD e r more l) : AD e r (mergeK [] more) (Z.mmk l) := AD.merge he h .nil
theorem dgetsS {H : Hp} {a : Addr} {kvs : List (Key × V)} {s : Str} {v : V} (e : H a = some (.dK kvs)) (q : valV kvs (kS s) = some v) : DGet H a (.str s) (some v) := by
  have h : DGet H a (.str s) (valV kvs (kS s)) := DGet.k (k := kS s) e
  rw [q] at h
  exact h
end Z
namespace Z
open PySem L2
open Rep (rep)
section
variable {X : Cx} {K : Fg} {F H : Hp}
/-- isinstance(x, (b, c)) -/
theorem call_isBT (hK : X.K = K) : CallR X (.builtin "isinstance") (fun xs H Q => ∃ (x : V) (tp : Addr) (a b c : String) (r q : Bool), xs = [x, .ref tp] ∧ H tp = some (.tup [.ty b, .ty c]) ∧ TyOf K H x (.type a) ∧ kitB a b = some r ∧ kitB a c = some q ∧ Q (.bl (r || q)) H) := by
  subst hK
  intro pins s σ H xs us Q I rx ⟨x, tp, a, b, c, r, q, e, ht, h1, h2, h3, k⟩
  refine call_isiT pins s σ H xs us Q I rx ⟨x, tp, _, .type a, [.type b, .type c], r || q, e, ht, .cons (.ty b) (.cons (.ty c) .nil), .base h1, ?_, k⟩
  refine L2.kitAny_cons (L2.kit_ty h2) (fun e => ?_) fun e => by rw [e]; rfl
  rw [e, Bool.false_or]
  refine L2.kitAny_cons (L2.kit_ty h3) (fun e => ?_) fun e => e
  rw [e]
  exact L2.kitAny_nil
theorem th_it (s : Same F H) {v : V} {t : Thing} (r : rep K F v t) : ∃ a, TyOf K H v (.type a) ∧ kitB a "int" = some t.isPl ∧ kitB a "tuple" = some (!t.isPl) := by
  obtain ⟨a, h, z⟩ := th_ty s r
  rcases z with ⟨rfl, e⟩ | ⟨rfl, e⟩
  · exact ⟨_, h, by rw [e]; decide +kernel, by rw [e]; decide +kernel⟩
  · exact ⟨_, h, by rw [e]; decide +kernel, by rw [e]; decide +kernel⟩
theorem A2.some {α : Type} [Rep α] {vs : List V} {xs : List α} (h : A2 (rep K F) vs xs) : A2 (rep K F) vs (xs.map Option.some) := by
  induction h with
  | nil => exact .nil
  | cons a _ ih => exact .cons (rep_some a) ih
end
end Z
/-! ZS: len(set(xs)) where xs holds an int and a tuple: what has different hashes is never compared -/
namespace L2
open PySem PySem.Spec PyProof.Rows
/-- a set that is known by its hashes -/
structure SetH (w : World) (h : Heap) (a : Addr) (hs : List Int) (es : Array (Int × Value)) (ep : Nat) (t : SetTable) : Prop where
  ob : ∃ o, h.get? a = some o ∧ o.ExactSet ∧ o.data = .set es ep t
  rows : es.toList.map (·.1) = hs
  tab : TabOk t hs
  plain : t.plain = true
  m7 : t.mask = 7
  few : hs.length ≤ 3
  sees : t.fill = hs.length
section
variable {P : Program} {w : World} {A : Around} {E : Value → Shared → Prop} {s : Shared}
variable {a : Addr} {hs : List Int} {es : Array (Int × Value)} {ep : Nat} {t : SetTable}
theorem SetH.size (R : SetH w s.heap a hs es ep t) : es.size = hs.length := by
  rw [← R.rows, List.length_map, Array.length_toList]
theorem SetH.fits (R : SetH w s.heap a hs es ep t) : t.fits es.size = true := by
  have h1 := R.tab.sz
  have h2 := R.size
  have h3 := R.few
  have h4 := R.sees
  have h5 := R.m7
  unfold SetTable.fits
  rw [Bool.and_eq_true]
  refine ⟨by rw [h1, h2]; exact beq_self_eq_true _, decide_eq_true ?_⟩
  rw [h4, h5]
  omega
theorem SetH.keep {h h' : Heap} (R : SetH w h a hs es ep t) (ha : ∀ o, h.get? a = some o → h'.get? a = some o) : SetH w h' a hs es ep t := by
  obtain ⟨o, ho, r⟩ := R.ob
  exact ⟨⟨o, ha o ho, r⟩, R.rows, R.tab, R.plain, R.m7, R.few, R.sees⟩
structure GotH (w : World) (h : Heap) (a : Addr) (ks : List (Value × Int)) (i : Nat) : Prop where
  ex : ∃ hs es ep t, SetH w h a hs es ep t ∧ hs.Perm ((ks.take i).map (·.2)) ∧ es.toList.Perm ((ks.take i).map fun p => (p.2, p.1))
theorem GotH.keep {h h' : Heap} {ks : List (Value × Int)} {i : Nat} (g : GotH w h a ks i) (ha : ∀ o, h.get? a = some o → h'.get? a = some o) : GotH w h' a ks i := by
  obtain ⟨hs, es, ep, t, R, p1, p2⟩ := g.ex
  exact ⟨hs, es, ep, t, R.keep ha, p1, p2⟩
end
end L2
/-! ZU: len(set(xs)) of things, of ints -/
namespace Z
open PySem L2
open Rep (rep)
/-- at a: a set of n things -/
def SetN (a : Addr) (n : Nat) : HO := .ext fun h => ∃ (o : Obj) (es : Array (Int × Value)) (ep : Nat) (t : SetTable), h.get? a = some o ∧ o.ExactSet ∧ o.data = .set es ep t ∧ t.fits es.size = true ∧ es.size = n
theorem setN_new {P : Program} {w : World} {H : Hp} {h : Heap} {a : Addr} {n : Nat} (R : ∃ (o : Obj) (es : Array (Int × Value)) (ep : Nat) (t : SetTable), h.get? a = some o ∧ o.ExactSet ∧ o.data = .set es ep t ∧ t.fits es.size = true ∧ es.size = n) : ObjOk P w H h a (SetN a n) := by
  have ⟨o, _, _, _, ho, _⟩ := R
  exact ⟨R, ⟨o, ho⟩, fun h1 h2 z k => by
    obtain ⟨o, es, ep, t, ho, r⟩ := z
    exact ⟨o, es, ep, t, k o ho, r⟩⟩
section
variable {X : Cx} {K : Fg} {w : World}
/-- len of it -/
theorem call_lenSN : CallR X (.builtin "len") (fun xs H Q => ∃ (a : Addr) (n : Nat), xs = [V.ref a] ∧ H a = some (SetN a n) ∧ n < 100000 ∧ Q (.int (n : Int)) H) := by
  intro pins s σ H xs us Q I r ⟨a, n, e, h, hn, q⟩
  subst e
  rw [Vals.ref1 r]
  obtain ⟨o, es, ep, t, ho, hex, hd, hf, hs⟩ := (I.hok a _ h).1
  exact call_len_set ho hex hd hf (by rw [hs]; omega) ⟨.int n, H, I.tok _, ⟨_, by rw [hs]⟩, q⟩
end
end Z
/-! YJ: tables of 512 slots: a search meets each of them -/
namespace Z
open PySem L2 PySem.Spec PyProof.Rows
/-- from each slot the runs' starts come to each other one -/
structure Full (m : Nat) : Prop where
  odd : m % 2 = 1
  all : ∀ {i j : Nat}, i ≤ m → j ≤ m → ∃ k, k ≤ m ∧ lcgI m i k = j
theorem full_few {m : Nat} (h : MaskOk m) : Full m := ⟨mask_odd h, lcgI_all h⟩
/-- the way from x, so many steps of it -/
def orb (m : Nat) : Nat → Nat → List Nat
  | 0, _ => []
  | f + 1, x => x :: orb m f ((x * 5 + 1) % (m + 1))
theorem lcg_shift (m x : Nat) : ∀ k, lcgI m ((x * 5 + 1) % (m + 1)) k = lcgI m x (k + 1)
  | 0 => rfl
  | k + 1 => by
    show (lcgI m ((x * 5 + 1) % (m + 1)) k * 5 + 1) % (m + 1) = (lcgI m x (k + 1) * 5 + 1) % (m + 1)
    rw [lcg_shift m x k]
theorem orb_get (m : Nat) : ∀ (f x k : Nat), k < f → (orb m f x)[k]? = some (lcgI m x k)
  | 0, _, k, h => absurd h (by omega)
  | f + 1, x, 0, _ => rfl
  | f + 1, x, k + 1, h => by
    show (orb m f ((x * 5 + 1) % (m + 1)))[k]? = _
    rw [orb_get m f _ k (by omega), lcg_shift]
theorem orb_len (m : Nat) : ∀ (f x : Nat), (orb m f x).length = f
  | 0, _ => rfl
  | f + 1, x => by
    show (orb m f _).length + 1 = _
    rw [orb_len m f]
/-- twice the round from nought: each slot, and the same again -/
theorem orb511 : ((List.range 512).all fun j => (orb 511 512 0).contains j) = true := by decide +kernel
theorem back511 : lcgI 511 0 512 = 0 := by decide +kernel
theorem lcgI_add (m i a : Nat) : ∀ k, lcgI m (lcgI m i a) k = lcgI m i (a + k)
  | 0 => rfl
  | k + 1 => by
    show (lcgI m (lcgI m i a) k * 5 + 1) % (m + 1) = (lcgI m i (a + k) * 5 + 1) % (m + 1)
    rw [lcgI_add m i a k]
theorem at511 {j : Nat} (hj : j ≤ 511) : ∃ a, a ≤ 511 ∧ lcgI 511 0 a = j := by
  have h := List.all_eq_true.mp orb511 j (List.mem_range.mpr (by omega))
  obtain ⟨a, ha, e⟩ := List.mem_iff_getElem.mp (List.contains_iff_mem.mp h)
  rw [orb_len] at ha
  have g := orb_get 511 512 0 a ha
  rw [List.getElem?_eq_getElem (by rw [orb_len]; exact ha)] at g
  exact ⟨a, by omega, (Option.some.inj g).symm.trans e⟩
theorem full511 : Full 511 := ⟨rfl, fun {i j} hi hj => by
  obtain ⟨a, ha, rfl⟩ := at511 hi
  obtain ⟨b, hb, rfl⟩ := at511 hj
  by_cases c : a ≤ b
  · exact ⟨b - a, by omega, by rw [lcgI_add, show a + (b - a) = b by omega]⟩
  · exact ⟨512 + b - a, by omega, by rw [lcgI_add, show a + (512 + b - a) = 512 + b by omega, ← lcgI_add, back511]⟩⟩
/-- each slot is on the way of a search -/
theorem Full.way {m : Nat} (F : Full m) (h : Int) {j : Nat} (hj : j ≤ m) : ∃ k, k < 10 * SetTable.turns m ∧ way m h k = j := by
  obtain ⟨n, hn, e⟩ := F.all (runI_le m (SetTable.bits h) 12) hj
  rw [← runI_tail (bits_lt h)] at e
  obtain ⟨k, hk, e2⟩ := run_nth m (SetTable.bits h) (12 + n)
  refine ⟨k, by unfold SetTable.turns; omega, ?_⟩
  show (nth m (runAt m (SetTable.bits h % (m + 1)) (SetTable.bits h)) k).j = j
  rw [e2, e]
  rfl
/-! ### a set that grows by tuples that differ -/
theorem full_of {m : Nat} (h : m = 7 ∨ m = 31 ∨ m = 127 ∨ m = 511) : Full m := by
  rcases h with h | h | h | h
  · exact full_few (.inl h)
  · exact full_few (.inr (.inl h))
  · exact full_few (.inr (.inr h))
  · exact h ▸ full511
structure SetD (P : Program) (w : World) (h : Heap) (a : Addr) (L : List (Addr × List Int)) (es : Array (Int × Value)) (ep : Nat) (t : SetTable) : Prop where
  ob : ∃ o, h.get? a = some o ∧ o.ExactSet ∧ o.data = .set es ep t
  rows : es.toList = rowsOf P w L
  ris : Ris t.place.toList
  dm : t.dummies = #[]
  sz : t.place.toList.length = L.length
  mm : t.mask = 7 ∨ t.mask = 31 ∨ t.mask = 127 ∨ t.mask = 511
  bd : ∀ x ∈ t.place.toList, x ≤ t.mask
  tup : ∀ p ∈ L, IsT P w h p.2 p.1
  plain : t.plain = true
  led : w.params.followText "set-order" = true ∨ t.led = true
  room : L.length * 5 < t.mask * 3
section
variable {P : Program} {w : World} {A : Around} {E : Value → Shared → Prop} {s : Shared} {a : Addr} {L : List (Addr × List Int)} {es : Array (Int × Value)} {ep : Nat} {t : SetTable}
theorem SetD.full (R : SetD P w s.heap a L es ep t) : Full t.mask := full_of R.mm
theorem SetD.num (R : SetD P w s.heap a L es ep t) : es.size = L.length := by
  rw [← Array.length_toList, R.rows]
  unfold rowsOf
  rw [List.length_map]
theorem SetD.fit (R : SetD P w s.heap a L es ep t) : t.fits es.size = true := by
  have h1 := R.sz
  have h3 := R.room
  rw [Array.length_toList] at h1
  unfold SetTable.fits SetTable.fill
  rw [R.dm, R.num, h1, Bool.and_eq_true, beq_iff_eq, decide_eq_true_eq]
  exact ⟨rfl, by show L.length + 0 ≤ _; omega⟩
theorem SetD.row (R : SetD P w s.heap a L es ep t) {i : Nat} {p : Addr × List Int} (h : L[i]? = some p) : es[i]? = some (thash P w p.2, Value.ref p.1) := by
  rw [← Array.getElem?_toList, R.rows]
  unfold rowsOf
  rw [List.getElem?_map, h] <;> rfl
/-- a way's first empty slot -/
theorem SetD.empty (R : SetD P w s.heap a L es ep t) (h : Int) : ∃ K, K < 10 * SetTable.turns t.mask ∧ way t.mask h K ∉ t.place.toList ∧ ∀ k, k < K → way t.mask h k ∈ t.place.toList := by
  have hr := R.room
  obtain ⟨j, hj, hn⟩ := st_missing t.place.toList (t.mask + 1) (by rw [R.sz]; omega)
  obtain ⟨k, hk, e⟩ := R.full.way h (show j ≤ t.mask by omega)
  obtain ⟨K, h1, h2, h3⟩ := st_least (p := fun k => way t.mask h k ∉ t.place.toList) k (by rw [e]; exact hn)
  exact ⟨K, by omega, h2, fun c hc => Classical.byContradiction fun z => h3 c hc z⟩
theorem nth_dummy (m : Nat) : ∀ (n : Nat) (p : SetTable.Probe), p.dummy = none → (nth m p n).dummy = none
  | 0, _, h => h
  | n + 1, p, h => nth_dummy m n (adv m p) (by unfold adv; split <;> exact h)
/-- the search for a tuple that is not there -/
theorem SetD.look (R : SetD P w s.heap a L es ep t) {x : Addr} {k : List Int} (hx : IsT P w s.heap k x) (new : ∀ p ∈ L, p.2 ≠ k) (hu : A.units < cLine) {K : Nat} (hKf : K < 10 * SetTable.turns t.mask)
    (hK : way t.mask (thash P w k) K ∉ t.place.toList) (hKb : ∀ c, c < K → way t.mask (thash P w k) c ∈ t.place.toList) {Q : SetFound → Shared → Prop} (q : Q (.free (way t.mask (thash P w k) K) false) s) :
    ∀ (f c : Nat) (st : Option SetTable.Probe), st.getD (t.probeStart (thash P w k)) = nth t.mask (t.probeStart (thash P w k)) c → c ≤ K → K - c < f → wpAny (model P w) A (setSearchFrom a (.ref x) (thash P w k) true f st) Q E s
  | 0, _, _, _, _, hf => absurd hf (Nat.not_lt_zero _)
  | f + 1, c, st, hst, hc, hf => by
    obtain ⟨o, ho, hex, hd⟩ := R.ob
    have way' : ∀ d, (nth t.mask (nth t.mask (t.probeStart (thash P w k)) c) d).j = way t.mask (thash P w k) (c + d) := fun d => congrArg SetTable.Probe.j (nth_add t.mask c _ d).symm
    have spec := go_spec t R.ris R.dm (fun i => (es[i]?.map (·.1)).getD 0) (thash P w k) (10 * SetTable.turns t.mask) (K - c) (nth t.mask (t.probeStart (thash P w k)) c) (nth_dummy _ c _ rfl) (by omega)
      (fun d hd => by rw [way']; exact hKb (c + d) (by omega)) (by rw [way', show c + (K - c) = K by omega]; exact hK)
    rw [setSearchFrom_succ]
    refine wpAny_bind (wpAny_setState_of ho hd R.fit ?_)
    dsimp only
    refine wp_if_neg (by unfold SetTable.gaveWay; rw [R.full.odd]; decide) ?_
    try refine wpAny_bind (wpAny_pure ?_)
    rcases spec with ⟨d, i, hd1, hi, hh, hno, hpr⟩ | ⟨hno, hpr⟩
    · have hpr' : t.probe (fun i => (es[i]?.map (·.1)).getD 0) (thash P w k) (st.getD (t.probeStart (thash P w k))) = some (.candidate (way t.mask (thash P w k) (c + d)) i (nth t.mask (t.probeStart (thash P w k)) (c + (d + 1)))) := by
        rw [hst, ← way', nth_add]
        exact hpr
      rw [hpr']
      dsimp only
      rw [way'] at hi
      have hil : i < L.length := by
        rw [← R.sz]
        exact (List.getElem?_eq_some_iff.mp hi).1
      obtain ⟨p, hp⟩ : ∃ p, L[i]? = some p := ⟨_, List.getElem?_eq_getElem hil⟩
      have hm := List.mem_of_getElem? hp
      have ne := new p hm
      have go : wpAny (model P w) A (searchRest a (.ref x) (thash P w k) true f es t (way t.mask (thash P w k) (c + d)) i (nth t.mask (t.probeStart (thash P w k)) (c + (d + 1)))) Q E s := by
        unfold searchRest
        rw [R.row hp]
        dsimp only
        refine wpAny_bind (wpAny_holding (wpAny_eqBool_tuple hu (R.tup p hm) hx (wpAny_bind (wpAny_setState_of ho hd R.fit ?_))))
        dsimp only
        refine wp_if_neg (by simp [ne]) ?_
        try refine wpAny_bind (wpAny_pure ?_)
        rw [sameMem]
        dsimp only
        simp only [if_true, slot_live R.ris hi, R.row hp]
        refine wpAny_bind (wpAny_isSame_ref_self (wpAny_bind (wpAny_pure ?_)))
        simp only [if_true]
        exact wp_if_neg (by simp [ne]) (SetD.look R hx new hu hKf hK hKb q f (c + (d + 1)) _ rfl (by omega) (by omega))
      by_cases hl : t.led = true
      · refine wp_if_neg (by simp [hl]) ?_
        try refine wpAny_bind (wpAny_pure ?_)
        exact go
      · refine wp_if_pos (by simp [hl]) (wpAny_bind (seen_tup hx (fun y hy => ?_) (wp_if_neg (by decide) ?_)))
        · obtain ⟨e, he, rfl⟩ := List.mem_map.mp hy
          have he2 : e ∈ es.toList := by
            have : e ∈ es ∧ e.1 = thash P w k := by simpa using he
            simpa using this.1
          rw [R.rows] at he2
          obtain ⟨p2, hp2, rfl⟩ := List.mem_map.mp he2
          exact ⟨_, _, rfl, R.tup p2 hp2⟩
        · try refine wpAny_bind (wpAny_pure ?_)
          exact go
    · have hpr' : t.probe (fun i => (es[i]?.map (·.1)).getD 0) (thash P w k) (st.getD (t.probeStart (thash P w k))) = some (.empty (way t.mask (thash P w k) K) none) := by
        rw [hst, show way t.mask (thash P w k) K = (nth t.mask (nth t.mask (t.probeStart (thash P w k)) c) (K - c)).j by rw [way', show c + (K - c) = K by omega]]
        exact hpr
      rw [hpr']
      exact wpAny_pure q
end
/-! ### a table laid anew -/
theorem way_in (m : Nat) (h : Int) (k : Nat) : way m h k ≤ m := by
  have b := runEnd_bd (show SetTable.bits h % (m + 1) ≤ m from Nat.le_of_lt_succ (Nat.mod_lt _ (Nat.succ_pos _)))
  have q := nth_in (m := m) k (runAt m (SetTable.bits h % (m + 1)) (SetTable.bits h)) (by
    show SetTable.bits h % (m + 1) + (SetTable.runEnd m (SetTable.bits h % (m + 1)) - SetTable.bits h % (m + 1)) ≤ m
    omega)
  exact Nat.le_trans (Nat.le_add_right _ _) q
theorem Full.hole {m : Nat} (F : Full m) (owner : Array (Option Nat)) (h : Int) {j : Nat} (hj : j ≤ m) (hf : oAt owner j = none) :
    ∃ i, SetTable.layClean.free m owner (SetTable.turns m) (SetTable.bits h % (m + 1)) (SetTable.bits h) = some i ∧ i ≤ m ∧ oAt owner i = none := by
  obtain ⟨n, hn, e⟩ := F.all (runI_le m (SetTable.bits h) 12) hj
  rw [← runI_tail (bits_lt h)] at e
  have at_ : (nth m (runAt m (SetTable.bits h % (m + 1)) (SetTable.bits h)) (off m (SetTable.bits h % (m + 1)) (SetTable.bits h) (12 + n))).j = j := by
    rw [nth_off, itL_run]
    exact e
  obtain ⟨K, k1, k2, k3⟩ := st_least (p := fun k => oAt owner (nth m (runAt m (SetTable.bits h % (m + 1)) (SetTable.bits h)) k).j = none) _ (show oAt owner (nth m _ (off m (SetTable.bits h % (m + 1)) (SetTable.bits h) (12 + n))).j = none by rw [at_]; exact hf)
  refine ⟨L2.way m h K, free_spec m owner (SetTable.turns m) (12 + n) _ _ K (by unfold SetTable.turns; omega) k1 (fun k hk => ?_) (by rw [k2]; rfl), way_in m h K, k2⟩
  cases z : oAt owner (nth m (runAt m (SetTable.bits h % (m + 1)) (SetTable.bits h)) k).j with
  | none => exact absurd z (k3 k hk)
  | some _ => rfl
/-- n slots are taken, by the numbers below n -/
structure Occ (m n : Nat) (owner : Array (Option Nat)) : Prop where
  sz : owner.size = m + 1
  all : ∀ k, k < n → ∃ j, j ≤ m ∧ oAt owner j = some k
  ps : ∃ ps : List Nat, ps.length = n ∧ ∀ j, j ≤ m → oAt owner j ≠ none → j ∈ ps
theorem Occ.zero (m : Nat) : Occ m 0 (Array.replicate (m + 1) none) :=
  ⟨by simp, fun k hk => absurd hk (Nat.not_lt_zero _), [], rfl, fun j hj e => absurd (oAt_init hj) e⟩
theorem Occ.more {m n : Nat} (F : Full m) {owner : Array (Option Nat)} (W : Occ m n owner) (hn : n ≤ m) (h : Int) :
    ∃ j, SetTable.layClean.free m owner (SetTable.turns m) (SetTable.bits h % (m + 1)) (SetTable.bits h) = some j ∧ Occ m (n + 1) (owner.setIfInBounds j (some n)) := by
  obtain ⟨ps, hl, hin⟩ := W.ps
  obtain ⟨j0, h0, hn0⟩ := st_missing ps (m + 1) (by omega)
  have e0 : oAt owner j0 = none := Classical.byContradiction fun z => hn0 (hin j0 (by omega) z)
  obtain ⟨i, e1, i1, i2⟩ := F.hole owner h (show j0 ≤ m by omega) e0
  have self := oAt_set_self (owner := owner) (some n) (show i < owner.size by rw [W.sz]; omega)
  refine ⟨i, e1, by rw [Array.size_setIfInBounds]; exact W.sz, fun k hk => ?_, i :: ps, by rw [List.length_cons, hl], fun j hj z => ?_⟩
  · by_cases c : k < n
    · obtain ⟨j, hj, e⟩ := W.all k c
      exact ⟨j, hj, by rw [oAt_set_ne _ (fun z => by rw [z, i2] at e; cases e)]; exact e⟩
    · exact ⟨i, i1, by rw [self, show k = n by omega]⟩
  · by_cases c : j = i
    · rw [c]
      exact List.mem_cons_self
    · rw [oAt_set_ne _ c] at z
      exact List.mem_cons_of_mem _ (hin j hj z)
theorem Occ.fold {m : Nat} (F : Full m) : ∀ (hs : List Int) (n : Nat) (owner : Array (Option Nat)), Occ m n owner → n + hs.length ≤ m → ∃ ow, hs.foldl (stepF m) (some (owner, n)) = some (ow, n + hs.length) ∧ Occ m (n + hs.length) ow
  | [], n, owner, W, _ => ⟨owner, rfl, W⟩
  | h :: hs, n, owner, W, hl => by
    rw [List.length_cons] at hl
    obtain ⟨j, e, W'⟩ := W.more F (by omega) h
    obtain ⟨ow, f, W2⟩ := Occ.fold F hs (n + 1) _ W' (by omega)
    refine ⟨ow, ?_, ?_⟩
    · rw [List.foldl_cons, stepF_some e, f, List.length_cons, show n + 1 + hs.length = n + (hs.length + 1) by omega]
    · rw [List.length_cons, show n + (hs.length + 1) = n + 1 + hs.length by omega]
      exact W2
theorem relaidF (t : SetTable) {hs : Array Int} {wanted M : Nat} (hw : SetTable.sizeAbove wanted - 1 = M) (F : Full M) (hn : hs.size ≤ M) : ∃ t' order, t.relaid hs wanted = some (t', order) ∧ order.toList.Perm (List.range hs.size) ∧
    Ris t'.place.toList ∧ t'.dummies = #[] ∧ t'.place.toList.length = hs.size ∧ (∀ x ∈ t'.place.toList, x ≤ M) ∧ t'.mask = M ∧ t'.led = t.led ∧ t'.plain = t.plain := by
  have hz : hs.toList.length = hs.size := Array.length_toList
  obtain ⟨ow, f, W⟩ := Occ.fold F hs.toList 0 _ (Occ.zero M) (by omega)
  rw [Nat.zero_add, hz] at f W
  have lay : SetTable.layClean M hs = some ow := by
    rw [layClean_eq, f]
    rfl
  have e : t.relaid hs wanted = some (tabOf t M ow, ((liveOf M ow).map (·.2)).toArray) := by
    rw [relaid_eq, hw, lay] <;> rfl
  obtain ⟨r1, r2⟩ := ris_live (fun j => ow.getD j none) (List.range (M + 1)) (by
    unfold Ris
    first | exact List.pairwise_lt_range | exact List.pairwise_lt_range _)
  have r1' : Ris ((liveOf M ow).map (·.1)) := r1
  have r2' : ∀ x ∈ (liveOf M ow).map (·.1), x ∈ List.range (M + 1) := r2
  have num : (liveOf M ow).length = hs.size := by
    obtain ⟨ps, p1, p2⟩ := W.ps
    have one : ((liveOf M ow).map (·.1)).Nodup := List.Pairwise.imp (fun h => Nat.ne_of_lt h) r1'
    have up := nat_nodup_len ((liveOf M ow).map (·.1)) ps one fun x hx => by
      obtain ⟨⟨y, k⟩, hq, rfl⟩ := List.mem_map.mp hx
      obtain ⟨b1, b2⟩ := (mem_live W.sz).1 hq
      exact p2 y b1 fun z => by rw [b2] at z; cases z
    have dn := nat_nodup_len (List.range hs.size) ((liveOf M ow).map (·.2)) List.nodup_range fun k hk => by
      obtain ⟨j, b1, b2⟩ := W.all k (List.mem_range.mp hk)
      exact List.mem_map.mpr ⟨(j, k), (mem_live W.sz).2 ⟨b1, b2⟩, rfl⟩
    rw [List.length_map] at up dn
    rw [List.length_range] at dn
    omega
  refine ⟨_, _, e, perm_range hs.size _ (by show ((liveOf M ow).map (·.2)).length = _; rw [List.length_map]; exact num) fun k hk => ?_, r1', rfl, by show ((liveOf M ow).map (·.1)).length = _; rw [List.length_map]; exact num, fun x hx => ?_, rfl, rfl, rfl⟩
  · obtain ⟨j, b1, b2⟩ := W.all k hk
    exact List.mem_map.mpr ⟨(j, k), (mem_live W.sz).2 ⟨b1, b2⟩, rfl⟩
  · exact Nat.le_of_lt_succ (List.mem_range.mp (r2' x hx))
section
variable {P : Program} {w : World} {A : Around} {E : Value → Shared → Prop} {s : Shared} {a : Addr} {L : List (Addr × List Int)} {es : Array (Int × Value)} {ep : Nat} {t : SetTable}
/-- the set behind its table's growth -/
theorem SetD.grow {o : Obj} (ho : s.heap.get? a = some o) (hex : o.ExactSet) (hd : o.data = .set es ep t) (rows : es.toList = rowsOf P w L) (sz : t.place.toList.length = L.length) (dm : t.dummies = #[]) (fl : L.length ≤ t.mask)
    (tup : ∀ p ∈ L, IsT P w s.heap p.2 p.1) (pl : t.plain = true) (ld : w.params.followText "set-order" = true ∨ t.led = true) {wanted M : Nat} (hw : SetTable.sizeAbove wanted - 1 = M) (mk : M = 7 ∨ M = 31 ∨ M = 127 ∨ M = 511) (hM : SetTable.sizeAbove wanted ≤ 512) (hn : L.length * 5 < M * 3) {Q : Unit → Shared → Prop}
    (hQ : ∀ h' L' es' ep' t', Heap.SameBut a s.heap h' → SetD P w h' a L' es' ep' t' → L'.Perm L → Q () { s with heap := h' }) : wpAny (model P w) A (setRelay a wanted) Q E s := by
  have num : es.size = L.length := by
    rw [← Array.length_toList, rows]
    unfold rowsOf
    rw [List.length_map]
  have fit : t.fits es.size = true := by
    rw [Array.length_toList] at sz
    unfold SetTable.fits SetTable.fill
    rw [dm, num, sz, Bool.and_eq_true, beq_iff_eq, decide_eq_true_eq]
    exact ⟨rfl, by show L.length + 0 ≤ _; omega⟩
  obtain ⟨t', order, e, hp, c1, c2, c3, c4, c5, c6, c7⟩ := relaidF t (hs := es.map (·.1)) (wanted := wanted) hw (full_of mk) (by rw [Array.size_map, num]; omega)
  rw [Array.size_map, num] at hp c3
  obtain ⟨L2, r1, r2, _⟩ := order_rows L es order rows hp
  have num2 : (order.filterMap (es[·]?)).size = es.size := by
    rw [← Array.length_toList, r1, num]
    unfold rowsOf
    rw [List.length_map, r2.length_eq]
  rw [setRelay_eq]
  refine wpAny_bind (wpAny_setState_of ho hd fit ?_)
  dsimp only
  refine wp_if_neg (by rw [sizeLine_eq]; omega) ?_
  try refine wpAny_bind (wpAny_pure ?_)
  rw [e]
  dsimp only
  refine wpAny_bind (wp_if_neg (by rw [num2]; simp) ?_)
  try refine wpAny_bind (wpAny_pure ?_)
  refine wpAny_pure ?_
  dsimp only
  refine wpAny_storeSet_of ho hd ?_ (by rw [num2, num, sizeLine_eq]; omega)
  have sb : Heap.SameBut a s.heap (s.heap.update a (Obj.putSet (order.filterMap (es[·]?)) t')) := Heap.SameBut.update ..
  exact hQ _ L2 _ (ep + 1) t' sb ⟨⟨_, store_at ho hd, ⟨hex.1, hex.2.1, hex.2.2⟩, rfl⟩, r1, c1, c2, by rw [c3, r2.length_eq], by rw [c5]; exact mk, by rw [c5]; exact c4, fun p hpm => isT_same (tup p (r2.mem_iff.mp hpm)) ho hd sb, by rw [c7]; exact pl, by rw [c6]; exact ld, by rw [r2.length_eq, c5]; exact hn⟩ r2
theorem size_308 : SetTable.sizeAbove (SetTable.grown 77) = 512 := by decide +kernel
/-- one more tuple -/
theorem SetD.add (R : SetD P w s.heap a L es ep t) {x : Addr} {k : List Int} (hx : IsT P w s.heap k x) (new : ∀ p ∈ L, p.2 ≠ k) (hu : A.units < cLine) (few : L.length + 1 < 300) {Q : Bool → Shared → Prop}
    (hQ : ∀ h' L' es' ep' t', Heap.SameBut a s.heap h' → SetD P w h' a L' es' ep' t' → L'.Perm ((x, k) :: L) → Q true { s with heap := h' }) : wpAny (model P w) A (setAddHashed a (.ref x) (thash P w k)) Q E s := by
  obtain ⟨o, ho, hex, hd⟩ := R.ob
  have num := R.num
  have room := R.room
  obtain ⟨K, hKf, hK, hKb⟩ := R.empty (thash P w k)
  have hbig : K < 100000 := by
    have : 10 * SetTable.turns t.mask ≤ 5260 := by
      unfold SetTable.turns
      rcases R.mm with e | e | e | e <;> omega
    omega
  unfold setAddHashed
  refine wpAny_holding ?_
  rw [show (100000 : Nat) = 99999 + 1 from rfl, setAddHashedIn_succ]
  refine wpAny_bind (wpAny_setState_of ho hd R.fit ?_)
  dsimp only
  refine wp_if_neg (by simp [byScan, Value.scannable]) ?_
  try refine wpAny_bind (wpAny_pure ?_)
  refine wpAny_bind ?_
  unfold setSearch
  refine R.look hx new hu hKf hK hKb ?_ 100000 0 none rfl (Nat.zero_le _) (by omega)
  dsimp only
  refine wpAny_bind (wpAny_setState_of ho hd R.fit ?_)
  dsimp only
  have wi := way_in t.mask (thash P w k) K
  generalize hj : way t.mask (thash P w k) K = j at hK wi ⊢
  obtain ⟨c1, _, _⟩ := below_cut R.ris j
  have hpl : SetTable.below t.place j ≤ t.place.toList.length := by
    rw [Array.length_toList]
    exact c1
  have hnp : t.place[SetTable.below t.place j]? ≠ some j := fun e => hK (List.mem_of_getElem? (by rw [Array.getElem?_toList]; exact e))
  have pp := put_place t j
  have ris1 : Ris (t.put j).1.place.toList := ris_insert R.ris hnp
  have dm1 := put_dm R.dm j
  have sz1 : (t.put j).1.place.toList.length = L.length + 1 := by rw [pp, len_ins _ hpl, R.sz]
  have bd1 : ∀ y ∈ (t.put j).1.place.toList, y ≤ t.mask := fun y hy => by
    rw [pp] at hy
    rcases mem_ins.1 hy with z | z
    · rw [z]; exact wi
    · exact R.bd y z
  have mk1 : (t.put j).1.mask = t.mask := rfl
  have led1 : (t.put j).1.led = t.led := rfl
  have pl1 : (t.put j).1.plain = true := R.plain
  have at1 : (t.put j).2 = SetTable.below t.place j := rfl
  generalize hpt : t.put j = pt at ris1 dm1 sz1 bd1 mk1 led1 pl1 at1 ⊢
  obtain ⟨t1, p⟩ := pt
  dsimp only at ris1 dm1 sz1 bd1 mk1 led1 pl1 at1 ⊢
  subst at1
  first
    | (refine wpAny_bind ?_; refine wp_if_pos pl1 ?_; refine hashBy_tup hx ?_)
    | refine wp_if_pos pl1 (wpAny_bind (hashBy_tup hx ?_))
  simp only [if_true]
  have hin : (SetTable.insertAt es (SetTable.below t.place j) (thash P w k, Value.ref x)).toList = rowsOf P w (L.take (SetTable.below t.place j) ++ (x, k) :: L.drop (SetTable.below t.place j)) := by
    rw [SetTable.toList_insertAt, rows_put, R.rows]
  have pm := put_perm L (SetTable.below t.place j) (x, k)
  generalize L.take (SetTable.below t.place j) ++ (x, k) :: L.drop (SetTable.below t.place j) = L1 at hin pm
  have hlen : L1.length = L.length + 1 := pm.length_eq
  have hes : (SetTable.insertAt es (SetTable.below t.place j) (thash P w k, Value.ref x)).size = L.length + 1 := by
    rw [← Array.length_toList, hin]
    unfold rowsOf
    rw [List.length_map, hlen]
  generalize SetTable.insertAt es (SetTable.below t.place j) (thash P w k, Value.ref x) = es1 at hin hes ⊢
  refine wpAny_bind (wpAny_storeSet_of ho hd ?_ (by rw [hes, sizeLine_eq]; omega))
  have sb : Heap.SameBut a s.heap (s.heap.update a (Obj.putSet es1 t1)) := Heap.SameBut.update ..
  have ho1 := store_at (es' := es1) (t' := t1) ho hd
  generalize s.heap.update a (Obj.putSet es1 t1) = h1 at sb ho1 ⊢
  have tup1 : ∀ p ∈ L1, IsT P w h1 p.2 p.1 := fun p hp => by
    rcases List.mem_cons.mp (pm.mem_iff.mp hp) with e | hp
    · rw [e]; exact isT_same hx ho hd sb
    · exact isT_same (R.tup p hp) ho hd sb
  have ld1 : w.params.followText "set-order" = true ∨ t1.led = true := by rw [led1]; exact R.led
  have fill1 : t1.fill = L.length + 1 := by
    unfold SetTable.fill
    rw [dm1, ← Array.length_toList, sz1]
    rfl
  by_cases hf : t1.tooFull = true
  · first
      | (refine wpAny_bind ?_; refine wp_if_pos (by simp [hf]) ?_)
      | (refine wp_if_pos (by simp [hf]) ?_; refine wpAny_bind ?_)
    have hfull : (L.length + 1) * 5 ≥ t1.mask * 3 := by
      have h := hf
      unfold SetTable.tooFull at h
      rw [decide_eq_true_eq, fill1] at h
      exact h
    rw [mk1] at hfull
    rw [num]
    have go : ∀ M, SetTable.sizeAbove (SetTable.grown (L.length + 1)) - 1 = M → (M = 7 ∨ M = 31 ∨ M = 127 ∨ M = 511) → SetTable.sizeAbove (SetTable.grown (L.length + 1)) ≤ 512 → (L.length + 1) * 5 < M * 3 → L.length + 1 ≤ t.mask →
        wpAny (model P w) A (setRelay a (SetTable.grown (L.length + 1))) (fun _ s' => wpAny (model P w) A (pure true) Q E s') E { s with heap := h1 } := fun M g1 g2 g3 g4 g5 => by
      refine SetD.grow (s := { s with heap := h1 }) ho1 ⟨hex.1, hex.2.1, hex.2.2⟩ rfl hin (by rw [sz1, hlen]) dm1 (by rw [hlen, mk1]; exact g5) tup1 pl1 ld1 g1 g2 g3 (by rw [hlen]; exact g4) ?_
      intro h2 L2 es2 ep2 t2 sb2 R2 pm2
      exact wpAny_pure (hQ h2 L2 es2 ep2 t2 (sb.trans sb2) R2 (pm2.trans pm))
    rcases R.mm with e | e | e | e <;> rw [e] at hfull room
    · have e4 : L.length = 4 := by omega
      exact go 31 (by rw [e4, size_20]) (.inr (.inl rfl)) (by rw [e4, size_20]; decide) (by omega) (by omega)
    · have e4 : L.length = 18 := by omega
      exact go 127 (by rw [e4, size_76]) (.inr (.inr (.inl rfl))) (by rw [e4, size_76]; decide) (by omega) (by omega)
    · have e4 : L.length = 76 := by omega
      exact go 511 (by rw [e4, size_308]) (.inr (.inr (.inr rfl))) (by rw [e4, size_308]; decide) (by omega) (by omega)
    · exact absurd hfull (by omega)
  · first
      | refine wp_if_neg (by simp [hf]) ?_
      | (refine wpAny_bind ?_; refine wp_if_neg (by simp [hf]) ?_; refine wpAny_pure ?_)
    refine wpAny_pure (hQ h1 L1 es1 (ep + 1) t1 sb ⟨⟨_, ho1, ⟨hex.1, hex.2.1, hex.2.2⟩, rfl⟩, hin, ris1, dm1, by rw [sz1, hlen], by rw [mk1]; exact R.mm, by rw [mk1]; exact bd1, tup1, pl1, ld1, ?_⟩ pm)
    have h := hf
    unfold SetTable.tooFull at h
    rw [decide_eq_true_eq, fill1] at h
    rw [hlen]
    omega
end
end Z
/-! YV2: set(xs), xs tuples that differ, up to 299 of them -/
namespace Z
open PySem L2 PySem.Spec PyProof.Rows PySem.Calls
section
variable {P : Program} {w : World} {A : Around} {E : Value → Shared → Prop} {s : Shared} {a : Addr}
theorem setD_fresh {h : Heap} {a : Addr} (ho : h.get? a = some { cls := .type "set", dict := none, data := .set #[] 0 (.fresh 0 0 (!w.params.followText "set-order")) }) : SetD P w h a [] #[] 0 (.fresh 0 0 (!w.params.followText "set-order")) where
  ob := ⟨_, ho, ⟨rfl, rfl, rfl⟩, rfl⟩
  rows := rfl
  ris := List.Pairwise.nil
  dm := rfl
  sz := rfl
  mm := .inl rfl
  bd := fun x hx => by cases hx
  tup := fun p hp => by cases hp
  plain := rfl
  led := by
    cases e : w.params.followText "set-order" with
    | true => exact .inl rfl
    | false => exact .inr rfl
  room := by show 0 * 5 < 7 * 3; decide
structure GotD (P : Program) (w : World) (h : Heap) (a : Addr) (ks : List (Addr × List Int)) (i : Nat) : Prop where
  ex : ∃ L es ep t, SetD P w h a L es ep t ∧ L.Perm (ks.take i)
theorem GotD.keep {h0 h h' : Heap} {ks : List (Addr × List Int)} {i : Nat} (g : GotD P w h a ks i) (hk : ∀ p ∈ ks, IsT P w h0 p.2 p.1) (kp : ∀ b o, h0.get? b = some o → h'.get? b = some o) (ha : ∀ o, h.get? a = some o → h'.get? a = some o) : GotD P w h' a ks i := by
  obtain ⟨L, es, ep, t, R, pm⟩ := g.ex
  obtain ⟨o, ho, r⟩ := R.ob
  exact ⟨L, es, ep, t, ⟨⟨o, ha o ho, r⟩, R.rows, R.ris, R.dm, R.sz, R.mm, R.bd, fun p hp => isT_keep (hk p (List.mem_of_mem_take (pm.mem_iff.mp hp))) kp, R.plain, R.led, R.room⟩, pm⟩
/-- set.add within the loop -/
theorem add_unlike {ks : List (Addr × List Int)} {h0 : Heap} (hfew : ks.length < 300) (hnd : (ks.map (·.2)).Nodup) (hu : A.units < cLine) {i : Nat} {p : Addr × List Int} (hp : ks[i]? = some p) (hk : IsT P w h0 p.2 p.1) (kp : ∀ b o, h0.get? b = some o → s.heap.get? b = some o)
    (g : GotD P w s.heap a ks i) {Q : Bool → Shared → Prop} (hQ : ∀ h' tk, s.toks ≤ tk → Heap.SameBut a s.heap h' → GotD P w h' a ks (i + 1) → Q true { s with heap := h', toks := tk }) : wpAny (model P w) A (setAdd a (.ref p.1)) Q E s := by
  obtain ⟨L, es, ep, t, R, pm⟩ := g.ex
  have hi : i < ks.length := (List.getElem?_eq_some_iff.mp hp).1
  have et : ks.take (i + 1) = ks.take i ++ [p] := take_next hp
  have hl : L.length ≤ i := by
    rw [pm.length_eq, List.length_take]
    omega
  have new : ∀ q ∈ L, q.2 ≠ p.2 := fun q hq z => by
    have z1 := List.mem_map_of_mem (f := fun r : Addr × List Int => r.2) (pm.mem_iff.mp hq)
    have z2 : ks.map (·.2) = (ks.take i).map (·.2) ++ (ks.drop i).map (·.2) := by rw [← List.map_append, List.take_append_drop]
    rw [z2, List.nodup_append] at hnd
    exact hnd.2.2 _ z1 _ (List.mem_map.mpr ⟨p, by rw [List.mem_iff_getElem?]; exact ⟨0, by rw [List.getElem?_drop]; exact hp⟩, rfl⟩) z
  have hT := isT_keep hk kp
  unfold setAdd
  refine wpAny_holding (wpAny_bind (wpAny_pyHash_tuple hu hT ?_))
  exact SetD.add (s := { s with toks := s.toks + (p.2.length + 1) }) (x := p.1) (k := p.2) R hT new hu (by omega) fun h' L' es' ep' t' sb R' pm' => hQ h' (s.toks + (p.2.length + 1)) (Nat.le_add_right _ _) sb ⟨L', es', ep', t', R', by
    rw [et]
    exact pm'.trans ((pm.cons _).trans (List.perm_append_comm (l₁ := [p])))⟩
/-- set.update's loop over tuples that differ -/
theorem update_unlike {I : Addr} {fp wr : List Addr} {G : Array GenState → Array GenState → Prop} {n : Nat} {Pv : Nat → Value → Prop} {St : Nat → Shared → Prop} {R : Result → Shared → Prop}
    (W : WalksS P w A.in1 I fp wr G n Pv St) (S : Addr) (hSf : S ∉ fp) (ks : List (Addr × List Int)) (hn : n = ks.length) (hfew : ks.length < 300) (hnd : (ks.map (·.2)).Nodup) (hval : ∀ i v, Pv i v → ∃ p, ks[i]? = some p ∧ v = Value.ref p.1)
    (h0 : Heap) (hk : ∀ p ∈ ks, IsT P w h0 p.2 p.1) (hS0 : h0.get? S = none) (hw0 : ∀ b ∈ wr, h0.get? b = none) (hu : A.in1.units < cLine) :
    ∀ (k i : Nat) (s : Shared), n - i = k → i ≤ n → St i s → (∀ b o, h0.get? b = some o → s.heap.get? b = some o) → GotD P w s.heap S ks i →
      (∀ s', Moved (S :: wr) G s s' → GotD P w s'.heap S ks n → (∀ b o, h0.get? b = some o → s'.heap.get? b = some o) → R (.ok (.ret .none)) s') →
      codeAny (model P w) A (.builtin "set.update.loop" ⟨[.ref S, .ref I], []⟩) R s := by
  have hSw : S ∉ wr := fun h => hSf (W.sub _ h)
  have hsub : ∀ b ∈ wr, b ∈ S :: wr := fun b hb => List.mem_cons_of_mem _ hb
  have keepM : ∀ {s s' : Shared}, Moved wr G s s' → (∀ b o, h0.get? b = some o → s.heap.get? b = some o) → ∀ b o, h0.get? b = some o → s'.heap.get? b = some o := fun hm hkp b o e =>
    hm.heap b o (fun hb => by rw [hw0 b hb] at e; cases e) (hkp b o e)
  intro k
  induction k with
  | zero =>
    intro i s hk' hi hst hkp g hR
    have hin : i = n := by omega
    subst hin
    refine codeAny_builtin F.entry_set_update_loop ?_
    rw [Around.under_plainId F.plain_set_update_loop _]
    show wpAny _ A.in1 (pyNext (.ref I) >>= _) _ _ s
    refine wpAny_bind (W.done s _ _ hst fun s' hm => ?_)
    show wpAny _ A.in1 (ret Value.none) _ _ s'
    exact wpAny_pure (hR s' (hm.mono hsub) (g.keep hk (keepM hm hkp) fun o e => hm.heap S o hSw e) (keepM hm hkp))
  | succ k ih =>
    intro i s hk' hi hst hkp g hR
    have hlt : i < n := by omega
    refine codeAny_builtin F.entry_set_update_loop ?_
    rw [Around.under_plainId F.plain_set_update_loop _]
    show wpAny _ A.in1 (pyNext (.ref I) >>= _) _ _ s
    refine wpAny_bind (W.item i s _ _ hlt hst fun v s' hP hst' hm => ?_)
    obtain ⟨p, hp, rfl⟩ := hval i v hP
    have hkp' := keepM hm hkp
    show wpAny _ A.in1 (holding [Value.ref p.1] (setAdd S (Value.ref p.1)) >>= _) _ _ s'
    refine wpAny_bind (wpAny_holding ?_)
    refine add_unlike (s := s') hfew hnd hu hp (hk p (List.mem_of_getElem? hp)) hkp' (g.keep hk hkp' fun o e => hm.heap S o hSw e) fun h' tk htk hsb g2 => ?_
    have hkp2 : ∀ b o, h0.get? b = some o → h'.get? b = some o := fun b o e => (hsb.2 b (fun z => by rw [z, hS0] at e; cases e)).trans (hkp' b o e)
    refine wpAny_pure ⟨plainId_quiet F.plain_set_update_loop _, ih (i + 1) _ (by omega) hlt (W.frame _ s' _ _ hst' htk fun b hb o e => ?_) hkp2 g2 fun s'' hm'' g'' hkp'' => ?_⟩
    · rw [hsb.2 b (fun h : b = S => hSf (by rw [← h]; exact hb))]; exact e
    · refine hR s'' (Moved.trans W.gtrans ((hm.mono hsub).then_heap htk fun b o hb e => ?_) hm'') g'' hkp''
      rw [hsb.2 b (fun h : b = S => hb (by rw [h]; exact List.mem_cons_self))]; exact e
set_option maxHeartbeats 3200000 in
/-- set(xs) of tuples that differ (its frame is that of the other texts' set(xs)) -/
theorem set_of_unlike {l : Addr} {items : Array Value} (ks : List (Addr × List Int)) {Q : Value → Shared → Prop} (hh : A.handled = none) (hl : s.heap.IsList l items) (hit : items.toList = ks.map fun p => Value.ref p.1)
    (hk : ∀ p ∈ ks, IsT P w s.heap p.2 p.1) (hfew : ks.length < 300) (hnd : (ks.map (·.2)).Nodup) (hu : A.units + 3 < cLine)
    (h : ∀ (h' : Heap) (tk : Nat), GotD P w h' s.heap.objs.size ks ks.length → (∀ b o, s.heap.get? b = some o → h'.get? b = some o) → Q (.ref s.heap.objs.size) { s with heap := h', toks := tk }) :
    wpAny (model P w) A (call (.type "set") [.ref l]) Q E s := by
  have hisz : items.size = ks.length := by
    have q := congrArg List.length hit
    rw [Array.length_toList, List.length_map] at q
    exact q
  obtain ⟨c, tl, hmro⟩ := F.called_set.mro
  have hmade := F.called_set.made
  have hsub := F.called_set.sub
  refine wpAny_call (codeAny_of_tree ?_)
  show wpAny _ _ (callAny (.type "set") _) _ _ _
  refine wpAny_pure ⟨Code.quiet_builtin _ (by decide +kernel), codeAny_builtin F.entry_type_call ?_⟩
  rw [Around.under_plain (weight_type_call_type "set" [.ref l] []) rfl]
  have h1 := F.called_set.notType
  have h2 := F.called_set.canCreate
  have hct := F.typeCall_set_1 (.ref l)
  repeat (any_goals (first | assumption | wp_step))
  refine codeAny_mono (code_set_led1 (.ref l) (E := E) (Q₁ := fun obj s₁ => obj = .ref s.heap.objs.size ∧ s₁ = { s with heap := s.heap.push { cls := .type "set", dict := none, data := .set #[] 0 (.fresh 0 0 (!w.params.followText "set-order")) } }) ⟨rfl, rfl⟩) fun r s₁ hr => ?_
  cases r with
  | error e => exact hr
  | ok fl =>
    cases fl with
    | ret obj =>
      obtain ⟨rfl, rfl⟩ := hr
      have hS : (s.heap.push { cls := .type "set", dict := none, data := .set #[] 0 (.fresh 0 0 (!w.params.followText "set-order")) }).get? s.heap.objs.size = some { cls := .type "set", dict := none, data := .set #[] 0 (.fresh 0 0 (!w.params.followText "set-order")) } := Heap.get?_push_size _ rfl
      have hT : Shared.TypeIs { s with heap := s.heap.push { cls := .type "set", dict := none, data := .set #[] 0 (.fresh 0 0 (!w.params.followText "set-order")) } } (.ref s.heap.objs.size) "set" := ⟨_, hS, rfl⟩
      have hli := F.called_set.init.lookup
      have hbi := F.called_set.init.bind (.ref s.heap.objs.size)
      repeat (any_goals (first | assumption | wp_step))
      refine codeAny_mono (codeAny_call_builtin (R := wants (fun r s₂ => r = .none ∧ ∃ h' tk, s₂ = { s with heap := h', toks := tk } ∧ GotD P w h' s.heap.objs.size ks ks.length ∧
          (∀ b o, s.heap.get? b = some o → h'.get? b = some o)) E) F.called_set.init.plain F.entry_set_init (check_set_init_1 hT ?_)) fun r₂ s₂ hr₂ => ?_
      · obtain ⟨ol, hol, hcl, nl, hdl⟩ := hl
        obtain ⟨ocls, odict, odata, oslots⟩ := ol
        simp only at hcl hdl
        subst hcl; subst hdl
        have hol' : (s.heap.push { cls := .type "set", dict := none, data := .set #[] 0 (.fresh 0 0 (!w.params.followText "set-order")) }).get? l = some { cls := .type "list", dict := odict, data := .seq items nl, slots := oslots } := Heap.get?_push_of_some _ hol
        have hsls := F.sub_list_set
        have hslf := F.sub_list_frozenset
        have hne : (Value.type "list" == Value.type "dict") = false := by decide
        have hl1 : (s.heap.push { cls := .type "set", dict := none, data := .set #[] 0 (.fresh 0 0 (!w.params.followText "set-order")) }).IsList l items := ⟨_, hol', rfl, nl, rfl⟩
        unfold Builtin.«set.__init__» noKeywords Builtin.Frozenset.updateFrom
        generalize hPI : pyIter = PI
        wp_walk
        subst hPI
        refine wpAny_pyIter_list hl1 ?_
        refine wpAny_bind (wpAny_runValue ?_)
        have hlS : l < s.heap.objs.size := Heap.lt_size hol
        have hh3 : A.in1.in1.in1.handled = none := by simp [hh]
        have hneI : l ≠ (s.heap.push { cls := .type "set", dict := none, data := .set #[] 0 (.fresh 0 0 (!w.params.followText "set-order")) }).objs.size := by
          rw [Heap.size_push]; exact Nat.ne_of_lt (Nat.lt_succ_of_lt hlS)
        have hSf : s.heap.objs.size ∉ [(s.heap.push { cls := .type "set", dict := none, data := .set #[] 0 (.fresh 0 0 (!w.params.followText "set-order")) }).objs.size, l] := by
          rw [Heap.size_push]; simp only [List.mem_cons, List.mem_singleton, List.not_mem_nil, or_false, not_or]
          exact ⟨Nat.ne_of_lt (Nat.lt_succ_self _), Nat.ne_of_gt hlS⟩
        have hval : ∀ (i : Nat) (v : Value), items[i]? = some v → ∃ p, ks[i]? = some p ∧ v = Value.ref p.1 := fun i v hv => by
          have q : items.toList[i]? = some v := by rw [Array.getElem?_toList]; exact hv
          rw [hit, List.getElem?_map] at q
          cases hq : ks[i]? with
          | none => rw [hq] at q; cases q
          | some p =>
            rw [hq] at q
            exact ⟨p, rfl, (Option.some.inj q).symm⟩
        have none_of : ∀ b, s.heap.objs.size ≤ b → s.heap.get? b = none := fun b hb => by
          cases q : s.heap.get? b with
          | none => rfl
          | some o => exact absurd (Nat.lt_of_lt_of_le (Heap.lt_size q) hb) (Nat.lt_irrefl _)
        refine update_unlike ((Walks.list hh3 _ l hneI items).toS) s.heap.objs.size
          hSf ks hisz hfew hnd hval s.heap hk (none_of _ (Nat.le_refl _)) (fun b hb => none_of b (by
            rw [List.mem_singleton.mp hb, Heap.size_push]
            exact Nat.le_succ _)) hu (items.size - 0) 0 _ (by omega) (Nat.zero_le _)
          ⟨⟨_, Heap.get?_push_size _ rfl, rfl, rfl⟩, (hl1.push _)⟩ (fun b o e => Heap.get?_push_of_some _ (Heap.get?_push_of_some _ e)) ?hS0 ?hR
        case hS0 =>
          have hget : ((s.heap.push { cls := .type "set", dict := none, data := .set #[] 0 (.fresh 0 0 (!w.params.followText "set-order")) }).push { cls := .type "list_iterator", data := .fields #[.ref l, .int 0 0] }).get? s.heap.objs.size
              = some { cls := .type "set", dict := none, data := .set #[] 0 (.fresh 0 0 (!w.params.followText "set-order")) } := Heap.get?_push_of_some _ hS
          exact ⟨[], #[], 0, _, setD_fresh hget, List.Perm.refl _⟩
        case hR =>
          intro s' hm g' hkp
          obtain ⟨h', g2, d', tk', os'⟩ := s'
          have eg : g2 = s.gens := hm.gens
          have ed : d' = s.drawn := hm.drawn
          have eo : os' = s.os := hm.os
          subst eg; subst ed; subst eo
          show wpAny _ _ _ _ _ _
          refine wpAny_pure ?_
          show wpAny _ _ (ret Value.none) _ _ _
          rw [hisz] at g'
          exact wpAny_pure ⟨rfl, h', tk', rfl, g', hkp⟩
      · cases r₂ with
        | error e => exact hr₂
        | ok fl₂ =>
          cases fl₂ with
          | ret r =>
            obtain ⟨rfl, h', tk, rfl, g', hk'⟩ := hr₂
            repeat (any_goals (first | assumption | wp_step))
            exact h _ _ g' hk'
          | _ => exact hr₂.elim
    | _ => exact hr.elim
end
end Z
/-! YV3: set(xs), xs tuples of ints that differ: the rule -/
namespace Z
open PySem L2 PySem.Spec PyProof.Rows
open Rep (rep)
def okU (ts : List (Tup Int)) : Bool := decide ts.Nodup && decide (ts.length < 300)
section
variable {K : Fg} {F H : Hp}
theorem all_tu (sm : Same F H) : ∀ {us : List V} {ts : List (Tup Int)}, A2 (rep K F) us ts → ∃ ks : List (Addr × List Int), us = ks.map (fun p => V.ref p.1) ∧ (∀ p ∈ ks, SqT K H p.1 (p.2.map V.int)) ∧ ks.map (·.2) = ts.map (·.l)
  | _, _, .nil => ⟨[], rfl, fun _ z => (nomatch z), rfl⟩
  | _, _, .cons (x := t) a b => by
    obtain ⟨ks, e1, e2, e3⟩ := all_tu sm b
    obtain ⟨c, vs, rfl, q, hv⟩ := a
    refine ⟨(c, t.l) :: ks, by rw [e1]; rfl, fun p hp => ?_, by rw [List.map_cons, e3]; rfl⟩
    rcases List.mem_cons.mp hp with rfl | hp
    · have hq : H c = some (.tup vs) := sm _ _ q
      have ev : vs = t.l.map V.int := hv.ints
      exact .inl (.inl (ev ▸ hq))
    · exact e2 p hp
end
section
variable {X : Cx} {K : Fg}
theorem cr_setU (hK : X.K = K) (hc : X.calm = true) (hu : X.A.units + 64 < cLine) : CallR X (.type "set") (fun xs H Q => ∃ (l : Addr) (us : List V) (ts : List (Tup Int)) (F : Hp), xs = [V.ref l] ∧ SqL K H l us ∧ Same F H ∧ A2 (rep K F) us ts ∧ okU ts = true ∧ ∀ a, H a = none → Q (.ref a) (upd H a (SetN a ts.length))) := by
  subst hK
  intro pins s σ H xs vs Q I r ⟨l, us, ts, F, e, hl, sm, hA, hok, q⟩
  subst e
  rw [Vals.ref1 r]
  obtain ⟨its, rv, pl, hz⟩ := I.list hl
  have hn : H s.heap.objs.size = none := I.hok.fresh (Nat.le_refl _)
  unfold okU at hok
  rw [Bool.and_eq_true, decide_eq_true_eq, decide_eq_true_eq] at hok
  obtain ⟨ks, eu, hks, ek⟩ := all_tu sm hA
  have ekl : ks.length = ts.length := by
    have := congrArg List.length ek
    rw [List.length_map, List.length_map] at this
    exact this
  have hkn : (ks.map (·.2)).Nodup := by
    rw [ek]
    refine List.pairwise_map.mpr (hok.1.imp fun {a b} hne z => hne ?_)
    cases a
    cases b
    exact congrArg Tup.mk z
  subst eu
  refine set_of_unlike ks (I.ok.hd hc) pl.isList (by simpa using refs_of_vals rv) (fun p hp => I.isT (hks p hp)) (by omega) hkn (by omega) fun h' tk g k => ?_
  obtain ⟨L, es, ep, t, R, pm⟩ := g.ex
  obtain ⟨o, ho, hex, hd⟩ := R.ob
  refine ⟨.ref s.heap.objs.size, upd H s.heap.objs.size (SetN s.heap.objs.size ts.length), I.laid (t' := tk) k (Nat.le_refl _) (setN_new ⟨o, es, ep, t, ho, hex, hd, SetD.fit (s := { s with heap := h' }) R, ?_⟩), rfl, q _ hn⟩
  rw [SetD.num (s := { s with heap := h' }) R, pm.length_eq, List.take_length, ekl]
def setLenU (ts : List (Tup Int)) : R Int := if okU ts = true then .ok (ts.length : Int) else .bad
theorem pb_setLenU {δ : Type} {ts : List (Tup Int)} {f : Int → R δ} {P : δ → Prop} {E : Exn → Prop} (h : Post (setLenU ts >>= f) P E) : okU ts = true ∧ Post (f (ts.length : Int)) P E := by
  unfold setLenU at h
  by_cases c : okU ts = true
  · rw [if_pos c] at h
    exact ⟨c, h⟩
  · rw [if_neg c] at h
    exact (show False from h).elim
theorem okU_len {ts : List (Tup Int)} (h : okU ts = true) : ts.length < 100000 := by
  unfold okU at h
  rw [Bool.and_eq_true, decide_eq_true_eq, decide_eq_true_eq] at h
  omega
end
end Z
/-! ZE: tuples item by item (Nt), objects of an own class (Oj), trees of tuples (Tr) -/
namespace Z
open PySem L2 PySem.Spec PyProof.Rows
open Rep (rep)
class RepL (α : Type) where
  repTs : Fg → Hp → List V → α → Prop
  mono : ∀ {K : Fg} {H H' : Hp} {vs : List V} {x : α}, Same H H' → repTs K H vs x → repTs K H' vs x
open RepL (repTs)
instance repLU : RepL Unit := ⟨fun _ _ vs _ => vs = [], fun _ h => h⟩
instance repLP {α β : Type} [Rep α] [RepL β] : RepL (α × β) := ⟨fun K H vs x => ∃ v us, vs = v :: us ∧ rep K H v x.1 ∧ repTs K H us x.2, fun s ⟨v, us, e, h1, h2⟩ => ⟨v, us, e, Rep.mono s h1, RepL.mono s h2⟩⟩
/-- a tuple, item by item -/
structure Nt (α : Type) where
  v : α
  deriving DecidableEq
instance decNtL {α : Type} [DecidableEq α] : DecidableEq (List (Nt α)) := inferInstance
instance repNt {α : Type} [RepL α] : Rep (Nt α) := ⟨fun K H v x => ∃ a vs, v = .ref a ∧ H a = some (.tup vs) ∧ repTs K H vs x.v, fun s ⟨a, vs, e, q, h⟩ => ⟨a, vs, e, s _ _ q, RepL.mono s h⟩⟩
/-! ### as data -/
class DatL (α : Type) extends RepL α where
  toDs : α → List PyData
  dmaxL : Nat
  dpL : ∀ {K : Fg} {H : Hp} {vs : List V} {x : α}, repTs K H vs x → DpAll K H vs (toDs x)
  layL : ∀ x : α, PyData.canLayAll0 (toDs x) = true
  depL : ∀ x : α, PyData.depthAll (toDs x) ≤ dmaxL
  eqvL : ∀ x y : α, PyData.eqvAll (toDs x) (toDs y) = true ↔ x = y
instance datLU : DatL Unit where
  toDs := fun _ => []
  dmaxL := 0
  dpL := fun h => by
    have h' : _ = [] := h
    subst h'
    exact .nil
  layL := fun _ => by simp only [PyData.canLayAll0]
  depL := fun _ => by simp only [PyData.depthAll, Nat.le_refl]
  eqvL := fun _ _ => by simp [PyData.eqvAll]
instance datLP {α β : Type} [Dat α] [DatL β] : DatL (α × β) where
  toDs := fun x => Dat.toD x.1 :: DatL.toDs x.2
  dmaxL := max (Dat.dmax α) (DatL.dmaxL β)
  dpL := fun {K H vs x} h => by
    obtain ⟨v, us, rfl, h1, h2⟩ := h
    exact .cons (Dat.dp h1) (DatL.dpL h2)
  layL := fun x => by simp only [PyData.canLayAll0, Dat.lay, DatL.layL, Bool.and_true]
  depL := fun x => by
    have h1 := Dat.dep x.1
    have h2 := DatL.depL x.2
    simp only [PyData.depthAll]
    omega
  eqvL := fun x y => by
    obtain ⟨x1, x2⟩ := x
    obtain ⟨y1, y2⟩ := y
    simp only [PyData.eqvAll, Bool.and_eq_true, Dat.eqv, DatL.eqvL, Prod.mk.injEq]
instance datNt {α : Type} [DatL α] : Dat (Nt α) where
  toD := fun x => .tuple (DatL.toDs x.v)
  dmax := DatL.dmaxL α + 1
  dp := fun {K H v x} h => by
    obtain ⟨a, vs, rfl, q, h⟩ := h
    exact .tup (SqT.of q) (DatL.dpL h)
  lay := fun x => by
    simp only [PyData.canLay0]
    exact DatL.layL x.v
  dep := fun x => by
    have h := DatL.depL x.v
    simp only [PyData.depth]
    omega
  eqv := fun x y => by
    obtain ⟨x⟩ := x
    obtain ⟨y⟩ := y
    simp only [PyData.eqv, Nt.mk.injEq]
    exact DatL.eqvL x y
/-! ### objects of an own class -/
def mkfs (fs : List Str) (us : List V) : List (Str × V) := (fs.zip us).foldl (fun l p => putF p.1 p.2 l) []
structure Oj (nm : Str) (fs : List Str) (α : Type) where
  v : α
instance repOj {nm : Str} {fs : List Str} {α : Type} [RepL α] : Rep (Oj nm fs α) := ⟨fun K H v x => ∃ a C dx us, v = .ref a ∧ Nm K nm C ∧ H a = some (.ins C dx (mkfs fs us)) ∧ repTs K H us x.v, fun s ⟨a, C, dx, us, e, n, q, h⟩ => ⟨a, C, dx, us, e, n, s _ _ q, RepL.mono s h⟩⟩
/-! ### trees: (a thing, a thing, a tuple of trees) -/
inductive Tr where
  | n (a b : Thing) (ts : List Tr)
def Tr.a : Tr → Thing
  | .n a _ _ => a
def Tr.b : Tr → Thing
  | .n _ b _ => b
def Tr.ts : Tr → List Tr
  | .n _ _ ts => ts
mutual
def trRep (K : Fg) (H : Hp) : Tr → V → Prop
  | .n a b ts, v => ∃ p u w q vs, v = .ref p ∧ H p = some (.tup [u, w, .ref q]) ∧ rep K H u a ∧ rep K H w b ∧ H q = some (.tup vs) ∧ trsRep K H ts vs
def trsRep (K : Fg) (H : Hp) : List Tr → List V → Prop
  | [], vs => vs = []
  | t :: ts, vs => ∃ v us, vs = v :: us ∧ trRep K H t v ∧ trsRep K H ts us
end
mutual
theorem trRep_mono {K : Fg} {H H' : Hp} (s : Same H H') : ∀ (t : Tr) (v : V), trRep K H t v → trRep K H' t v
  | .n a b ts, v, h => by
    rw [trRep] at h ⊢
    obtain ⟨p, u, w, q, vs, e, h1, h2, h3, h4, h5⟩ := h
    exact ⟨p, u, w, q, vs, e, s _ _ h1, Rep.mono s h2, Rep.mono s h3, s _ _ h4, trsRep_mono s ts vs h5⟩
theorem trsRep_mono {K : Fg} {H H' : Hp} (s : Same H H') : ∀ (ts : List Tr) (vs : List V), trsRep K H ts vs → trsRep K H' ts vs
  | [], vs, h => by
    rw [trsRep] at h ⊢
    exact h
  | t :: ts, vs, h => by
    rw [trsRep] at h ⊢
    obtain ⟨v, us, e, h1, h2⟩ := h
    exact ⟨v, us, e, trRep_mono s t v h1, trsRep_mono s ts us h2⟩
end
instance repTr : Rep Tr := ⟨fun K H v t => trRep K H t v, fun {_ _ _ v t} s h => trRep_mono s t v h⟩
abbrev TrN := Nt (Thing × Thing × Tup Tr × Unit)
def Tr.nt (t : Tr) : TrN := ⟨(t.a, t.b, ⟨t.ts⟩, ())⟩
def Tr.of (x : TrN) : Tr := .n x.v.1 x.v.2.1 x.v.2.2.1.l
/-! ### a tuple and the empty one -/
/-! ### great powers and products -/
/-! ### min, max of a tuple of two ints -/
/-! ### a list grows by a tuple's items -/
end Z
/-! YN: plans of asks: ("is", a thing), ("ask", a place, a tuple of pairs of an answer and a plan) -/
namespace Z
open PySem PySem.Spec PyProof.Rows L2
open Rep (rep)
inductive Pl where
  | is (x : Thing)
  | ask (p : Int) (l : List (Int × Pl))
def Pl.w : Pl → Str
  | .is _ => "is"
  | .ask _ _ => "ask"
def Pl.len : Pl → Int
  | .is _ => 2
  | .ask _ _ => 3
mutual
def plRep (K : Fg) (H : Hp) : Pl → V → Prop
  | .is x, v => ∃ p u, v = .ref p ∧ H p = some (.tup [.str ("is" : Str), u]) ∧ rep K H u x
  | .ask i l, v => ∃ p q vs, v = .ref p ∧ H p = some (.tup [.str ("ask" : Str), .int i, .ref q]) ∧ H q = some (.tup vs) ∧ plsRep K H l vs
def plsRep (K : Fg) (H : Hp) : List (Int × Pl) → List V → Prop
  | [], vs => vs = []
  | t :: ts, vs => ∃ v us, vs = v :: us ∧ plpRep K H t v ∧ plsRep K H ts us
def plpRep (K : Fg) (H : Hp) : Int × Pl → V → Prop
  | (j, t), v => ∃ a w, v = .ref a ∧ H a = some (.tup [.int j, w]) ∧ plRep K H t w
end
mutual
theorem plRep_mono {K : Fg} {H H' : Hp} (s : Same H H') : ∀ (t : Pl) (v : V), plRep K H t v → plRep K H' t v
  | .is x, v, h => by
    rw [plRep] at h ⊢
    obtain ⟨p, u, e, h1, h2⟩ := h
    exact ⟨p, u, e, s _ _ h1, Rep.mono s h2⟩
  | .ask i l, v, h => by
    rw [plRep] at h ⊢
    obtain ⟨p, q, vs, e, h1, h2, h3⟩ := h
    exact ⟨p, q, vs, e, s _ _ h1, s _ _ h2, plsRep_mono s l vs h3⟩
theorem plsRep_mono {K : Fg} {H H' : Hp} (s : Same H H') : ∀ (ts : List (Int × Pl)) (vs : List V), plsRep K H ts vs → plsRep K H' ts vs
  | [], vs, h => by
    rw [plsRep] at h ⊢
    exact h
  | t :: ts, vs, h => by
    rw [plsRep] at h ⊢
    obtain ⟨v, us, e, h1, h2⟩ := h
    exact ⟨v, us, e, plpRep_mono s t v h1, plsRep_mono s ts us h2⟩
theorem plpRep_mono {K : Fg} {H H' : Hp} (s : Same H H') : ∀ (t : Int × Pl) (v : V), plpRep K H t v → plpRep K H' t v
  | (j, t), v, h => by
    rw [plpRep] at h ⊢
    obtain ⟨a, w, e, h1, h2⟩ := h
    exact ⟨a, w, e, s _ _ h1, plRep_mono s t w h2⟩
end
instance repPl : Rep Pl := ⟨fun K H v t => plRep K H t v, fun {_ _ _ v t} s h => plRep_mono s t v h⟩
end Z
namespace Z
open PySem L2
end Z
namespace Z
open PySem PySem.Spec PyProof.Rows L2
open Rep (rep)
instance datOptThing : Dat (Option Thing) where
  toD := fun x => match x with
    | none => .none
    | some i => Dat.toD i
  dmax := 1
  dp := fun {K H v x} h => by
    cases x with
    | none =>
      have h' : v = V.non := h
      subst h'
      exact .non
    | some i => exact Dat.dp (show rep K H v i from h)
  lay := fun x => by
    cases x with
    | none => simp only [PyData.canLay0]
    | some i => exact Dat.lay i
  dep := fun x => by
    cases x with
    | none => simp only [PyData.depth]; omega
    | some i => exact Dat.dep i
  eqv := fun x y => by
    cases x with
    | none =>
      cases y with
      | none => simp [PyData.eqv]
      | some j => cases j <;> simp [PyData.eqv, Dat.toD]
    | some i =>
      cases y with
      | none => cases i <;> simp [PyData.eqv, Dat.toD]
      | some j =>
        have := Dat.eqv i j
        show PyData.eqv (Dat.toD i) (Dat.toD j) = true ↔ _
        rw [this, Option.some.injEq]
end Z
/-! ZA: sorted of a tuple of pairs (the list's rules turned to tuples) -/
namespace L2
open PySem PySem.Spec PyProof.Rows
end L2
namespace Z
open PySem PySem.Spec PyProof.Rows L2
open Rep (rep)
instance datOptTup {α : Type} [Dat α] : Dat (Option (Tup α)) where
  toD := fun x => match x with
    | none => .none
    | some i => Dat.toD i
  dmax := Dat.dmax α + 1
  dp := fun {K H v x} h => by
    cases x with
    | none =>
      have h' : v = V.non := h
      subst h'
      exact .non
    | some i => exact Dat.dp (show rep K H v i from h)
  lay := fun x => by
    cases x with
    | none => simp only [PyData.canLay0]
    | some i => exact Dat.lay i
  dep := fun x => by
    cases x with
    | none => simp only [PyData.depth]; omega
    | some i => exact Dat.dep i
  eqv := fun x y => by
    cases x with
    | none =>
      cases y with
      | none => simp [PyData.eqv]
      | some j => simp [PyData.eqv, Dat.toD]
    | some i =>
      cases y with
      | none => simp [PyData.eqv, Dat.toD]
      | some j =>
        have := Dat.eqv i j
        show PyData.eqv (Dat.toD i) (Dat.toD j) = true ↔ _
        rw [this, Option.some.injEq]
end Z
/-! ZM: lemmas about mirrors -/
namespace Z
open PySem L2
section
variable {α β γ : Type}
theorem mapR_ok {f : α → R β} {g : α → β} : ∀ {xs : List α}, (∀ x ∈ xs, f x = R.ok (g x)) → mapR f xs = R.ok (xs.map g)
  | [], _ => rfl
  | x :: xs, h => by
    show (f x >>= fun y => mapR f xs >>= fun ys => R.ok (y :: ys)) = _
    rw [h x List.mem_cons_self, mapR_ok fun y hy => h y (List.mem_cons_of_mem _ hy)]
    rfl
theorem mapG_ok {f : α → R β} {g : α → β} {xs : List α} (hl : xs.length < 100000) (h : ∀ x ∈ xs, f x = R.ok (g x)) : mapG f xs = R.ok (xs.map g) := by
  unfold mapG
  rw [grd_t (decide_eq_true hl)]
  exact mapR_ok h
theorem filR_ok {f : α → R (Option β)} {g : α → Option β} : ∀ {xs : List α}, (∀ x ∈ xs, f x = R.ok (g x)) → filR f xs = R.ok (xs.filterMap g)
  | [], _ => rfl
  | x :: xs, h => by
    show (f x >>= fun o => filR f xs >>= fun ys => match o with
      | some y => R.ok (y :: ys)
      | none => R.ok ys) = _
    rw [h x List.mem_cons_self, filR_ok fun y hy => h y (List.mem_cons_of_mem _ hy)]
    show (match g x with
      | some y => R.ok (y :: xs.filterMap g)
      | none => R.ok (xs.filterMap g)) = R.ok ((x :: xs).filterMap g)
    rw [List.filterMap_cons]
    cases g x <;> rfl
theorem filG_ok {f : α → R (Option β)} {g : α → Option β} {xs : List α} (hl : xs.length < 100000) (h : ∀ x ∈ xs, f x = R.ok (g x)) : filG f xs = R.ok (xs.filterMap g) := by
  unfold filG
  rw [grd_t (decide_eq_true hl)]
  exact filR_ok h
theorem getI_nat {xs : List α} {i : Int} (h0 : 0 ≤ i) (h1 : i < xs.length) : ∃ x, getI xs i = R.ok x ∧ x ∈ xs ∧ xs[i.toNat]? = some x := by
  have hj : i.toNat < xs.length := by omega
  refine ⟨xs[i.toNat], ?_, List.getElem_mem hj, List.getElem?_eq_getElem hj⟩
  unfold getI
  have e : atI xs i = some xs[i.toNat] := by
    have := atI_nat (xs := xs) (j := i.toNat) (v := xs[i.toNat]) (List.getElem?_eq_getElem hj)
    rw [Int.toNat_of_nonneg h0] at this
    exact this
  rw [e]
  rfl
theorem getI_eq {xs : List α} {i : Int} {x : α} (h0 : 0 ≤ i) (h : xs[i.toNat]? = some x) : getI xs i = R.ok x := by
  have h1 := (List.getElem?_eq_some_iff.mp h).1
  obtain ⟨y, e, _, e2⟩ := getI_nat (xs := xs) (i := i) h0 (by omega)
  rw [h] at e2
  cases e2
  exact e
theorem setI_nat {xs : List α} {i : Int} {x : α} (h0 : 0 ≤ i) (h1 : i < xs.length) : setI xs i x = R.ok (xs.set i.toNat x) := by
  have e : ixN xs.length i = some i.toNat := by
    unfold ixN
    rw [if_pos h0, if_pos h1]
  unfold setI
  rw [e]
theorem app_ok {xs : List α} {x : α} (h : xs.length < 100000) : app xs x = R.ok (xs ++ [x]) := by
  unfold app
  rw [if_pos h]
theorem extend_ok {xs ys : List α} (h : xs.length + ys.length < 100000) : extend xs ys = R.ok (xs ++ ys) := by
  unfold extend
  rw [if_pos h]
theorem modI_ok {i j : Int} (h : 0 < j) : modI i j = R.ok (i % j) := by
  unfold modI
  rw [if_pos h]
theorem divI_okW {i j : Int} (h : 0 < j) (h2 : j.natAbs.log2 < 9000) : divI i j = R.ok (i / j) := by
  unfold divI
  rw [if_pos ⟨h, h2⟩]
theorem divI_ok {i j : Int} (h : 0 < j) (h2 : j < 1073741824) : divI i j = R.ok (i / j) := by
  refine divI_okW h (Nat.lt_of_lt_of_le ((Nat.log2_lt (by omega)).mpr (show j.natAbs < 2 ^ 30 by omega)) (by decide))
theorem mulI_ok {i j : Int} (h : (-(2 ^ 64) < i ∧ i < 2 ^ 64) ∨ (-(2 ^ 64) < j ∧ j < 2 ^ 64)) : mulI i j = R.ok (i * j) := by
  unfold mulI
  rw [if_pos h]
theorem rngI_ok {i j : Int} (h1 : -(2 ^ 62) ≤ i) (h2 : i < 2 ^ 62) (h3 : -(2 ^ 62) ≤ j) (h4 : j < 2 ^ 62) : rngI i j = R.ok (rng i j) := by
  unfold rngI
  rw [if_pos ⟨h1, h2, h3, h4⟩]
theorem rng_mem {i j k : Int} : k ∈ rng i j ↔ i ≤ k ∧ k < j := by
  unfold rng
  rw [List.mem_map]
  constructor
  · rintro ⟨n, hn, rfl⟩
    have := List.mem_range.mp hn
    omega
  · intro h
    exact ⟨(k - i).toNat, List.mem_range.mpr (by omega), by omega⟩
/-! ### what holds of a result, step by step -/
section
variable {P Q : α → Prop} {S : β → Prop} {X : Exn → Prop}
theorem po_bind {m : R α} {k : α → R β} (h : Post m Q X) (hk : ∀ a, Q a → Post (k a) S X) : Post (m >>= k) S X := by
  cases m with
  | ok a => exact hk a h
  | exc e => exact h
  | bad => exact h
theorem po_eq {m : R α} {a : α} (h : m = R.ok a) (hp : P a) : Post m P X := by
  rw [h]
  exact hp
theorem po_if {c : Prop} [Decidable c] {m n : R α} (h1 : c → Post m P X) (h2 : ¬ c → Post n P X) : Post (if c then m else n) P X := by
  by_cases h : c
  · rw [if_pos h]
    exact h1 h
  · rw [if_neg h]
    exact h2 h
theorem po_ex {m : R α} (h : Post m P noX) : ∃ a, m = R.ok a ∧ P a := by
  cases m with
  | ok a => exact ⟨a, rfl, h⟩
  | exc e => exact (show False from h).elim
  | bad => exact (show False from h).elim
theorem po_iff {m : R α} {a : α} (h : Post m (· = a) noX) : m = R.ok a := by
  obtain ⟨b, e, rfl⟩ := po_ex h
  exact e
theorem po_get {xs : List α} {i : Int} {k : α → R β} (h0 : 0 ≤ i) (h1 : i < xs.length) (hk : ∀ x, x ∈ xs → xs[i.toNat]? = some x → Post (k x) S X) : Post (getI xs i >>= k) S X := by
  obtain ⟨x, e, h2, h3⟩ := getI_nat h0 h1
  rw [e]
  exact hk x h2 h3
theorem po_getE {xs : List α} {i : Int} {x : α} {k : α → R β} (h : getI xs i = R.ok x) (hk : Post (k x) S X) : Post (getI xs i >>= k) S X := by
  rw [h]
  exact hk
theorem po_set {xs : List α} {i : Int} {x : α} {k : List α → R β} (h0 : 0 ≤ i) (h1 : i < xs.length) (hk : Post (k (xs.set i.toNat x)) S X) : Post (setI xs i x >>= k) S X := by
  rw [setI_nat h0 h1]
  exact hk
theorem po_app {xs : List α} {x : α} {k : List α → R β} (h : xs.length < 100000) (hk : Post (k (xs ++ [x])) S X) : Post (app xs x >>= k) S X := by
  rw [app_ok h]
  exact hk
theorem po_extend {xs ys : List α} {k : List α → R β} (h : xs.length + ys.length < 100000) (hk : Post (k (xs ++ ys)) S X) : Post (extend xs ys >>= k) S X := by
  rw [extend_ok h]
  exact hk
theorem po_mod {i j : Int} {k : Int → R β} (h : 0 < j) (hk : 0 ≤ i % j → i % j < j → Post (k (i % j)) S X) : Post (modI i j >>= k) S X := by
  rw [modI_ok h]
  exact hk (Int.emod_nonneg _ (by omega)) (Int.emod_lt_of_pos _ h)
theorem po_div {i j : Int} {k : Int → R β} (h : 0 < j) (h2 : j < 1073741824) (hk : Post (k (i / j)) S X) : Post (divI i j >>= k) S X := by
  rw [divI_ok h h2]
  exact hk
theorem po_mul {i j : Int} {k : Int → R β} (h : (-(2 ^ 64) < i ∧ i < 2 ^ 64) ∨ (-(2 ^ 64) < j ∧ j < 2 ^ 64)) (hk : Post (k (i * j)) S X) : Post (mulI i j >>= k) S X := by
  rw [mulI_ok h]
  exact hk
theorem po_rng {i j : Int} {k : List Int → R β} (h1 : -(2 ^ 62) ≤ i) (h2 : i < 2 ^ 62) (h3 : -(2 ^ 62) ≤ j) (h4 : j < 2 ^ 62) (hk : Post (k (rng i j)) S X) : Post (rngI i j >>= k) S X := by
  rw [rngI_ok h1 h2 h3 h4]
  exact hk
theorem po_fold {f : β → α → R β} {s : β} {xs : List α} (I : β → Prop) (h0 : I s) (hf : ∀ s x, I s → x ∈ xs → Post (f s x) I X) : Post (foldR f s xs) I X := by
  induction xs generalizing s with
  | nil => exact h0
  | cons x xs ih =>
    show Post (f s x >>= fun s' => foldR f s' xs) I X
    exact po_bind (hf s x h0 List.mem_cons_self) fun s' h' => ih h' fun s y hs hy => hf s y hs (List.mem_cons_of_mem _ hy)
theorem po_foldX {ρ : Type} {f : β → α → R (Sum ρ (Bool × β))} {s : β} {xs : List α} (I : β → Prop) (h0 : I s) (hf : ∀ s x, I s → x ∈ xs → Post (f s x) (fun r => ∃ s', r = .inr (true, s') ∧ I s') X) : Post (foldX f s xs) (fun r => ∃ s', r = .inr s' ∧ I s') X := by
  induction xs generalizing s with
  | nil => exact ⟨s, rfl, h0⟩
  | cons x xs ih =>
    refine po_bind (S := fun r => ∃ s', r = Sum.inr s' ∧ I s') (k := fun r => match r with
      | .inl z => (R.ok (.inl z) : R (Sum ρ β))
      | .inr (true, s') => foldX f s' xs
      | .inr (false, s') => R.ok (.inr s')) (hf s x h0 List.mem_cons_self) fun r hr => ?_
    obtain ⟨s', rfl, h'⟩ := hr
    exact ih h' fun s y hs hy => hf s y hs (List.mem_cons_of_mem _ hy)
end
end
section
variable {α : Type}
theorem cut_take (xs : List α) (n : Nat) : cutL xs none (some (n : Int)) = xs.take n := by
  unfold cutL
  have e : HT.sIx xs.length xs.length (some (n : Int)) = min n xs.length := HT.sIx_nat xs.length xs.length n
  have e0 : HT.sIx xs.length 0 none = 0 := rfl
  rw [e, e0, List.drop_zero, Nat.sub_zero]
  by_cases h : n ≤ xs.length
  · rw [Nat.min_eq_left h]
  · rw [Nat.min_eq_right (by omega), List.take_of_length_le (Nat.le_refl _), List.take_of_length_le (by omega)]
theorem cut_mid (xs : List α) (m n : Nat) : cutL xs (some (m : Int)) (some (n : Int)) = (xs.drop m).take (n - m) := by
  unfold cutL
  have e : HT.sIx xs.length xs.length (some (n : Int)) = min n xs.length := HT.sIx_nat xs.length xs.length n
  have e0 : HT.sIx xs.length 0 (some (m : Int)) = min m xs.length := HT.sIx_nat xs.length 0 m
  rw [e, e0]
  by_cases h : m ≤ xs.length
  · rw [Nat.min_eq_left h]
    by_cases h2 : n ≤ xs.length
    · rw [Nat.min_eq_left h2]
    · rw [Nat.min_eq_right (by omega), List.take_of_length_le (by rw [List.length_drop]; exact Nat.le_refl _), List.take_of_length_le (by rw [List.length_drop]; omega)]
  · rw [List.drop_of_length_le (by omega), List.drop_of_length_le (by omega), List.take_nil, List.take_nil]
end
/-! ### dicts -/
section
variable {κ β : Type} [DecidableEq κ]
theorem mhas_iff {m : List (κ × β)} {k : κ} : mhas m k = true ↔ ∃ p ∈ m, p.1 = k := by
  unfold mhas
  rw [List.any_eq_true]
  constructor
  · rintro ⟨p, h, e⟩
    exact ⟨p, h, of_decide_eq_true e⟩
  · rintro ⟨p, h, e⟩
    exact ⟨p, h, decide_eq_true e⟩
theorem mput_new {m : List (κ × β)} {k : κ} {v : β} (h : mhas m k = false) : mput m k v = m ++ [(k, v)] := by
  unfold mput
  have h' : (m.any fun p => decide (p.1 = k)) = false := h
  rw [h', if_neg (by decide)]
theorem mput_old {m : List (κ × β)} {k : κ} {v : β} (h : mhas m k = true) : mput m k v = m.map (fun p => if p.1 = k then (p.1, v) else p) := by
  unfold mput
  have h' : (m.any fun p => decide (p.1 = k)) = true := h
  rw [h', if_pos rfl]
theorem po_mput {δ : Type} {m : List (κ × β)} {k : κ} {v : β} {f : List (κ × β) → R δ} {S : δ → Prop} {X : Exn → Prop} (h : m.length < 100000) (hk : Post (f (mput m k v)) S X) : Post (mputR m k v >>= f) S X := by
  unfold mputR
  rw [if_pos h]
  exact hk
end
end Z
/-! ZG: webs: joined, how far; no program in sight -/
namespace Z
open PySem L2
/-! ### more steps -/
section
variable {α β γ δ : Type} {P Q : α → Prop} {S : β → Prop} {X : Exn → Prop}
/-- a fold, by what is gone through -/
theorem po_foldP {f : β → α → R β} {s : β} {xs : List α} (I : List α → β → Prop) (h0 : I [] s) (hf : ∀ pre s x post, xs = pre ++ x :: post → I pre s → Post (f s x) (I (pre ++ [x])) X) : Post (foldR f s xs) (I xs) X := by
  have key : ∀ (l pre : List α) (s : β), xs = pre ++ l → I pre s → Post (foldR f s l) (I xs) X := by
    intro l
    induction l with
    | nil =>
      intro pre s e h
      rw [List.append_nil] at e
      rw [e]
      exact h
    | cons x l ih =>
      intro pre s e h
      show Post (f s x >>= fun s' => foldR f s' l) _ X
      exact po_bind (hf pre s x l e h) fun s' h' => ih (pre ++ [x]) s' (by rw [e, List.append_assoc]; rfl) h'
  exact key xs [] s rfl h0
/-- items for items with a state, by what is made -/
theorem po_mapStA {f : γ → α → R (β × γ)} {s : γ} {xs : List α} (I : List α → List β → γ → Prop) (hl : xs.length < 100000) (h0 : I [] [] s)
    (hf : ∀ pre acc s x post, xs = pre ++ x :: post → I pre acc s → Post (f s x) (fun r => I (pre ++ [x]) (acc ++ [r.1]) r.2) X) : Post (mapStG f s xs) (fun r => I xs r.1 r.2) X := by
  unfold mapStG
  rw [grd_t (decide_eq_true hl), ok_bind]
  have key : ∀ (l pre : List α) (acc : List β) (s : γ), xs = pre ++ l → I pre acc s → Post (mapSt f s l) (fun r => I xs (acc ++ r.1) r.2) X := by
    intro l
    induction l with
    | nil =>
      intro pre acc s e h
      rw [List.append_nil] at e
      show I xs (acc ++ []) s
      rw [List.append_nil, e]
      exact h
    | cons x l ih =>
      intro pre acc s e h
      refine po_bind (hf pre acc s x l e h) fun r hr => po_bind (ih (pre ++ [x]) (acc ++ [r.1]) r.2 (by rw [e, List.append_assoc]; rfl) hr) fun q hq => ?_
      show I xs (acc ++ (r.1 :: q.1)) q.2
      rw [List.append_assoc] at hq
      exact hq
  exact key xs [] [] s rfl h0
theorem po_mapGE {f : α → R β} {g : α → β} {xs : List α} {k : List β → R γ} {T : γ → Prop} (hl : xs.length < 100000) (h : ∀ x ∈ xs, f x = R.ok (g x)) (hk : Post (k (xs.map g)) T X) : Post (mapG f xs >>= k) T X := by
  rw [mapG_ok hl h]
  exact hk
theorem po_filGE {f : α → R (Option β)} {g : α → Option β} {xs : List α} {k : List β → R γ} {T : γ → Prop} (hl : xs.length < 100000) (h : ∀ x ∈ xs, f x = R.ok (g x)) (hk : Post (k (xs.filterMap g)) T X) : Post (filG f xs >>= k) T X := by
  rw [filG_ok hl h]
  exact hk
/-- a while: an invariant, a measure -/
theorem po_while {c : γ → R Bool} {b : γ → R γ} {T : γ → Prop} (I : γ → Prop) (μ : γ → Nat)
    (hs : ∀ s, I s → Post (c s) (fun t => (t = true → Post (b s) (fun s' => I s' ∧ μ s' < μ s) X) ∧ (t = false → T s)) X) : ∀ {n : Nat} {s : γ}, I s → μ s < n → Post (whileR c b n s) T X
  | 0, s, _, h => absurd h (Nat.not_lt_zero _)
  | n + 1, s, hi, h => by
    refine po_bind (hs s hi) fun t ⟨h1, h2⟩ => ?_
    cases t with
    | false => exact h2 rfl
    | true => exact po_bind (h1 rfl) fun s' ⟨a, d⟩ => po_while I μ hs a (by omega)
theorem po_getS {st : List (List α)} {j : Nat} {xs : List α} {k : List α → R γ} {T : γ → Prop} (h : st[j]? = some xs) (hk : Post (k xs) T X) : Post (getS st j >>= k) T X := by
  unfold getS
  rw [h]
  exact hk
theorem po_setS {st : List (List α)} {j : Nat} {xs : List α} {k : List (List α) → R γ} {T : γ → Prop} (hk : Post (k (st.set j xs)) T X) : Post (setS st j xs >>= k) T X := hk
theorem po_newS {st : List (List α)} {xs : List α} {k : Nat × List (List α) → R γ} {T : γ → Prop} (hk : Post (k (st.length, st ++ [xs])) T X) : Post (newS st xs >>= k) T X := hk
theorem po_listRng {i j : Int} {k : List Int → R γ} {T : γ → Prop} (h1 : -(2 ^ 62) ≤ i) (h2 : i < 2 ^ 62) (h3 : -(2 ^ 62) ≤ j) (h4 : j < 2 ^ 62) (h5 : (j - i).toNat ≤ 100000) (hk : Post (k (rng i j)) T X) : Post (listRng i j >>= k) T X := by
  unfold listRng
  rw [if_pos ⟨h1, h2, h3, h4, h5⟩]
  exact hk
theorem po_ofO {o : Option α} {x : α} {k : α → R γ} {T : γ → Prop} (h : o = some x) (hk : Post (k x) T X) : Post (ofO o >>= k) T X := by
  rw [h]
  exact hk
theorem po_mgetE {κ : Type} [DecidableEq κ] {m : List (κ × α)} {j : κ} {x : α} {k : α → R γ} {T : γ → Prop} (h : mget m j = some x) (hk : Post (k x) T X) : Post (mgetR m j >>= k) T X := po_ofO h hk
theorem po_popB {xs : List α} {i : Int} {k : α × List α → R γ} {T : γ → Prop} (h0 : 0 ≤ i) (h1 : i < xs.length) (h2 : i < 2 ^ 62) (hk : ∀ x, xs[i.toNat]? = some x → Post (k (x, xs.eraseIdx i.toNat)) T X) : Post (popB xs i >>= k) T X := by
  have hj : i.toNat < xs.length := by omega
  have e : popB xs i = R.ok (xs[i.toNat], xs.eraseIdx i.toNat) := by
    unfold popB popAt
    rw [if_pos (by omega)]
    have ei : ixN xs.length i = some i.toNat := by
      unfold ixN
      rw [if_pos h0, if_pos h1]
    rw [ei]
    dsimp only
    rw [List.getElem?_eq_getElem hj]
  rw [e]
  exact hk _ (List.getElem?_eq_getElem hj)
end
theorem rng_atE {i j : Int} {k : Nat} (h : k < (j - i).toNat) : (rng i j)[k]? = some (i + k) := rng_get h
theorem rng_nodup (i j : Int) : (rng i j).Nodup := by
  unfold rng
  refine List.Pairwise.map _ (fun a b h => ?_) List.nodup_range
  intro e
  exact h (by omega)
theorem rng_pre {i j x : Int} {pre post : List Int} (h : rng i j = pre ++ x :: post) : x = i + pre.length := by
  have h1 : (rng i j)[pre.length]? = some x := by rw [h]; simp
  have hl : pre.length < (rng i j).length := by rw [h]; simp
  rw [rng_length] at hl
  rw [rng_atE hl] at h1
  cases h1
  rfl
theorem rng_split {i j x : Int} {pre post : List Int} (h : rng i j = pre ++ x :: post) : pre = rng i x ∧ i ≤ x ∧ x < j := by
  have e := rng_pre h
  have hl : (rng i j).length = pre.length + (post.length + 1) := by rw [h]; simp
  rw [rng_length] at hl
  refine ⟨?_, by omega, by omega⟩
  apply List.ext_getElem?
  intro k
  by_cases hk : k < pre.length
  · have h1 : (rng i j)[k]? = pre[k]? := by rw [h, List.getElem?_append_left hk]
    rw [← h1, rng_atE (by omega), rng_atE (by omega)]
  · rw [List.getElem?_eq_none (by omega), List.getElem?_eq_none (by rw [rng_length]; omega)]
/-! ### joined -/
def Adj (ts : List (Int × Int)) (a b : Int) : Prop := (a, b) ∈ ts ∨ (b, a) ∈ ts
theorem Adj.symm {ts : List (Int × Int)} {a b : Int} (h : Adj ts a b) : Adj ts b a := h.elim .inr .inl
/-- what holds of a place and goes along all ties holds of all places -/
def Conn (n : Int) (ts : List (Int × Int)) : Prop := ∀ S : Int → Prop, S 0 → (∀ p ∈ ts, S p.1 ↔ S p.2) → ∀ k, 0 ≤ k → k < n → S k
theorem Conn.any {n : Int} {ts : List (Int × Int)} (h : Conn n ts) {S : Int → Prop} {r : Int} (r0 : 0 ≤ r) (r1 : r < n) (hr : S r) (hc : ∀ p ∈ ts, S p.1 ↔ S p.2) : ∀ k, 0 ≤ k → k < n → S k := by
  by_cases h0 : S 0
  · exact h S h0 hc
  · exact absurd hr (h (fun k => ¬ S k) h0 (fun p hp => not_congr (hc p hp)) r r0 r1)
theorem Conn.mono {n : Int} {ts us : List (Int × Int)} (h : Conn n ts) (hs : ∀ p ∈ ts, p ∈ us) : Conn n us := fun S h0 hc => h S h0 fun p hp => hc p (hs p hp)
theorem conn_tree {n : Int} {ts : List (Int × Int)} (h : ∀ k, 1 ≤ k → k < n → ∃ j, 0 ≤ j ∧ j < k ∧ Adj ts j k) : Conn n ts := by
  intro S h0 hc
  have key : ∀ (m : Nat) (k : Int), k.toNat ≤ m → 0 ≤ k → k < n → S k := by
    intro m
    induction m with
    | zero =>
      intro k hk k0 _
      rw [show k = 0 by omega]
      exact h0
    | succ m ih =>
      intro k hk k0 k1
      by_cases hz : k = 0
      · rw [hz]; exact h0
      · obtain ⟨j, j0, jk, hj⟩ := h k (by omega) k1
        have hj' := ih j (by omega) j0 (by omega)
        rcases hj with hj | hj
        · exact (hc _ hj).mp hj'
        · exact (hc _ hj).mpr hj'
  exact fun k k0 k1 => key k.toNat k (Nat.le_refl _) k0 k1
/-! ### how far -/
structure IsDist (n : Int) (ts : List (Int × Int)) (p : Int) (f : Int → Int) : Prop where
  zero : f p = 0
  nn : ∀ v, 0 ≤ v → v < n → 0 ≤ f v
  lip : ∀ a b, Adj ts a b → f b ≤ f a + 1
  desc : ∀ v, 0 ≤ v → v < n → v ≠ p → ∃ w, 0 ≤ w ∧ w < n ∧ Adj ts w v ∧ f w + 1 = f v
theorem IsDist.level {n : Int} {ts : List (Int × Int)} {p : Int} {f : Int → Int} (hf : IsDist n ts p f) : ∀ (m : Nat) (v : Int), 0 ≤ v → v < n → (f v).toNat = m → ∀ k : Nat, k ≤ m → ∃ w, 0 ≤ w ∧ w < n ∧ f w = k := by
  intro m
  induction m with
  | zero =>
    intro v v0 v1 e k hk
    have := hf.nn v v0 v1
    exact ⟨v, v0, v1, by omega⟩
  | succ m ih =>
    intro v v0 v1 e k hk
    have hv := hf.nn v v0 v1
    by_cases hk2 : k = m + 1
    · exact ⟨v, v0, v1, by omega⟩
    · have hne : v ≠ p := by
        intro e2
        rw [e2, hf.zero] at e
        simp at e
      obtain ⟨w, w0, w1, _, e2⟩ := hf.desc v v0 v1 hne
      exact ih w w0 w1 (by omega) k (by omega)
/-- how far places are from one, in a web that hangs together -/
noncomputable def dst (n : Int) (ts : List (Int × Int)) (p : Int) : Int → Int := by
  classical
  exact if h : ∃ f, IsDist n ts p f then Classical.choose h else fun _ => 0
theorem dst_is {n : Int} {ts : List (Int × Int)} {p : Int} {f : Int → Int} (h : IsDist n ts p f) : IsDist n ts p (dst n ts p) := by
  have e : ∃ f, IsDist n ts p f := ⟨f, h⟩
  unfold dst
  rw [dif_pos e]
  exact Classical.choose_spec e
/-! ### there is a distance -/
inductive Rch (ts : List (Int × Int)) (p : Int) : Nat → Int → Prop
  | here : Rch ts p 0 p
  | step {k : Nat} {a b : Int} : Rch ts p k a → Adj ts a b → Rch ts p (k + 1) b
theorem least {P : Nat → Prop} (h : ∃ k, P k) : ∃ k, P k ∧ ∀ j, j < k → ¬ P j := by
  obtain ⟨k, hk⟩ := h
  induction k using Nat.strongRecOn with
  | _ k ih =>
    by_cases q : ∃ j, j < k ∧ P j
    · obtain ⟨j, h1, h2⟩ := q
      exact ih j h1 h2
    · exact ⟨k, hk, fun j hj hp => q ⟨j, hj, hp⟩⟩
theorem conn_ex {n : Int} {ts : List (Int × Int)} {p : Int} (hr : ∀ q ∈ ts, 0 ≤ q.1 ∧ q.1 < n ∧ 0 ≤ q.2 ∧ q.2 < n) (hc : Conn n ts) (p0 : 0 ≤ p) (p1 : p < n) : IsDist n ts p (dst n ts p) := by
  classical
  have all : ∀ v, 0 ≤ v → v < n → ∃ k, Rch ts p k v := hc.any (S := fun v => ∃ k, Rch ts p k v) p0 p1 ⟨0, .here⟩ fun q hq => ⟨fun ⟨k, h⟩ => ⟨k + 1, h.step (.inl hq)⟩, fun ⟨k, h⟩ => ⟨k + 1, h.step (.inr hq)⟩⟩
  have adj : ∀ a b, Adj ts a b → (0 ≤ a ∧ a < n) ∧ (0 ≤ b ∧ b < n) := fun a b h => by
    rcases h with h | h
    · have := hr _ h
      exact ⟨⟨this.1, this.2.1⟩, ⟨this.2.2.1, this.2.2.2⟩⟩
    · have := hr _ h
      exact ⟨⟨this.2.2.1, this.2.2.2⟩, ⟨this.1, this.2.1⟩⟩
  have key : ∀ v, ∃ d : Int, 0 ≤ d ∧ (0 ≤ v → v < n → ∃ k : Nat, d = k ∧ Rch ts p k v ∧ ∀ j, j < k → ¬ Rch ts p j v) := fun v => by
    by_cases hv : 0 ≤ v ∧ v < n
    · obtain ⟨k, h1, h2⟩ := least (all v hv.1 hv.2)
      exact ⟨k, by omega, fun _ _ => ⟨k, rfl, h1, h2⟩⟩
    · exact ⟨0, Int.le_refl 0, fun a b => absurd ⟨a, b⟩ hv⟩
  have hf : ∃ f : Int → Int, ∀ v, 0 ≤ f v ∧ (0 ≤ v → v < n → ∃ k : Nat, f v = k ∧ Rch ts p k v ∧ ∀ j, j < k → ¬ Rch ts p j v) := ⟨fun v => Classical.choose (key v), fun v => Classical.choose_spec (key v)⟩
  obtain ⟨f, hf⟩ := hf
  have lip : ∀ a b, Adj ts a b → f b ≤ f a + 1 := fun a b h => by
    obtain ⟨⟨a0, a1⟩, ⟨b0, b1⟩⟩ := adj a b h
    obtain ⟨k, e1, h1, _⟩ := (hf a).2 a0 a1
    obtain ⟨j, e2, _, h2⟩ := (hf b).2 b0 b1
    have : ¬ k + 1 < j := fun q => h2 (k + 1) q (h1.step h)
    omega
  refine dst_is (f := f) ⟨?_, fun v _ _ => (hf v).1, lip, fun v v0 v1 hne => ?_⟩
  · obtain ⟨k, e, _, h2⟩ := (hf p).2 p0 p1
    have : ¬ 0 < k := fun q => h2 0 q .here
    omega
  · obtain ⟨k, e, h1, h2⟩ := (hf v).2 v0 v1
    cases h1 with
    | here => exact absurd rfl hne
    | step h3 h4 =>
      rename_i j w
      obtain ⟨⟨w0, w1⟩, _⟩ := adj _ _ h4
      refine ⟨w, w0, w1, h4, ?_⟩
      obtain ⟨i, e2, _, h5⟩ := (hf w).2 w0 w1
      have h6 : ¬ j < i := fun q => h5 j q h3
      have := lip w v h4
      omega
end Z
/-! ZN: dicts as lists of pairs -/
namespace Z
open PySem L2
section
variable {κ β γ : Type} [DecidableEq κ]
def mkeys (m : List (κ × β)) : List κ := m.map (·.1)
theorem mget_nil (j : κ) : mget ([] : List (κ × β)) j = none := rfl
theorem mget_cons (p : κ × β) (m : List (κ × β)) (j : κ) : mget (p :: m) j = if p.1 = j then some p.2 else mget m j := by
  unfold mget
  by_cases h : p.1 = j
  · rw [List.find?_cons_of_pos (by simpa using h), if_pos h]
    rfl
  · rw [List.find?_cons_of_neg (by simpa using h), if_neg h]
theorem mget_append (m m' : List (κ × β)) (j : κ) : mget (m ++ m') j = (mget m j).or (mget m' j) := by
  induction m with
  | nil => rfl
  | cons p m ih =>
    rw [List.cons_append, mget_cons, mget_cons, ih]
    by_cases h : p.1 = j
    · rw [if_pos h, if_pos h]; rfl
    · rw [if_neg h, if_neg h]
theorem mhas_mget (m : List (κ × β)) (j : κ) : mhas m j = (mget m j).isSome := by
  unfold mhas mget
  rw [Option.isSome_map, List.isSome_find?]
theorem mhas_keys {m : List (κ × β)} {j : κ} : mhas m j = true ↔ j ∈ mkeys m := by
  rw [mhas_iff]
  unfold mkeys
  rw [List.mem_map]
theorem mget_mput (m : List (κ × β)) (k : κ) (v : β) (j : κ) : mget (mput m k v) j = if j = k then some v else mget m j := by
  cases h : mhas m k with
  | false =>
    rw [mput_new h, mget_append, mget_cons, mget_nil]
    by_cases e : j = k
    · subst e
      rw [if_pos rfl, if_pos rfl]
      rw [mhas_mget] at h
      cases q : mget m j with
      | none => rfl
      | some x => rw [q] at h; cases h
    · rw [if_neg (fun q => e q.symm), if_neg e]
      cases mget m j <;> rfl
  | true =>
    rw [mput_old h]
    by_cases e : j = k
    · subst e
      rw [if_pos rfl]
      induction m with
      | nil => cases h
      | cons p m ih =>
        rw [List.map_cons, mget_cons]
        by_cases q : p.1 = j
        · rw [if_pos q, if_pos q]
        · rw [if_neg q, if_neg q]
          refine ih ?_
          rw [mhas_mget, mget_cons, if_neg q, ← mhas_mget] at h
          exact h
    · rw [if_neg e]
      clear h
      induction m with
      | nil => rfl
      | cons p m ih =>
        rw [List.map_cons, mget_cons, mget_cons, ih]
        by_cases q : p.1 = k
        · rw [if_pos q, if_neg (by rw [q]; exact fun z => e z.symm), if_neg (by rw [q]; exact fun z => e z.symm)]
        · rw [if_neg q]
theorem mkeys_mput (m : List (κ × β)) (k : κ) (v : β) : mkeys (mput m k v) = if k ∈ mkeys m then mkeys m else mkeys m ++ [k] := by
  cases h : mhas m k with
  | false =>
    rw [mput_new h, if_neg (fun q => by rw [mhas_keys.mpr q] at h; cases h)]
    unfold mkeys
    rw [List.map_append]
    rfl
  | true =>
    rw [mput_old h, if_pos (mhas_keys.mp h)]
    unfold mkeys
    rw [List.map_map]
    refine List.map_congr_left fun p _ => ?_
    show (if p.1 = k then (p.1, v) else p).1 = p.1
    split <;> rfl
theorem mkeys_length (m : List (κ × β)) : (mkeys m).length = m.length := List.length_map _
end
end Z
namespace G
open PySem L2 Z
open Rep (rep)
open RepL (repTs)
def top (i : Nat) : Stmt := PySem.Challenge.pw_farhail_k19_tree_likes_told.main.body.getD i (.Pass ⟨0, 0, 0, 0⟩)
abbrev s_near_lists : Stmt := top 6
abbrev s_place_asked : Stmt := top 7
abbrev s_neighbours_of : Stmt := top 8
abbrev s_is_tree : Stmt := top 10
abbrev s_tree_asked : Stmt := top 11
abbrev s_rising_asked : Stmt := top 12
abbrev s_all_near : Stmt := top 13
abbrev s_piece_from : Stmt := top 14
abbrev s_pieces_by : Stmt := top 15
abbrev s_looks_in : Stmt := top 16
abbrev s_tie_of : Stmt := top 17
abbrev s_likes_at : Stmt := top 18
abbrev s_tree_likes : Stmt := top 19
abbrev s_law_cells : Stmt := top 21
abbrev s_law_pool : Stmt := top 22
abbrev s_law_take : Stmt := top 23
abbrev s_law_some : Stmt := top 24
abbrev s_law_named : Stmt := top 25
abbrev s_law_tree : Stmt := top 26
abbrev s_law_near : Stmt := top 27
abbrev s_law_steps : Stmt := top 28
abbrev s_law_things : Stmt := top 29
abbrev s_law_code : Stmt := top 30
abbrev s_law_codes : Stmt := top 31
abbrev s_law_looks : Stmt := top 32
abbrev s_law_ends : Stmt := top 33
abbrev s_law_right : Stmt := top 34
abbrev s_law : Stmt := top 35
/-! ### the mirrors -/
/-! near_lists -/
def near_lists (x_web : (Int × (Tup (Int × Int)))) : R (List (List Int)) := do
  let l4 ← rngI 0 x_web.1
  let l5 ← mapStG (fun (g5 : (List (List Int))) (b5 : Int) => do
      let r9 ← newS g5 ([] : (List Int))
      R.ok (r9.1, r9.2)) ([] : List (List Int)) l4
  let g11 ← foldR (fun (g11 : (List (List Int))) (b11 : (Int × Int)) => do
      let t14 ← getI l5.1 b11.1
      let x16 ← getS g11 t14
      let l17 ← app x16 b11.2
      let r17 ← setS g11 t14 l17
      let t18 ← getI l5.1 b11.2
      let x20 ← getS r17 t18
      let l21 ← app x20 b11.1
      let r21 ← setS r17 t18 l21
      R.ok r21) l5.2 x_web.2.l
  let l22 ← mapG (fun (b22 : Ix) => do
      let x26 ← getS g11 b22
      R.ok (sortI x26)) l5.1
  R.ok l22
/-! place_asked -/
def place_asked (x_web : (Int × (Tup (Int × Int)))) (x_place : Int) : R Unit := do
  if (!((decide ((0 : Int) ≤ x_place)) && (decide (x_place < x_web.1)))) = true then do
    R.bad
  else do
    R.ok ()
/-! neighbours_of -/
def neighbours_of (x_web : (Int × (Tup (Int × Int)))) (x_place : Int) : R (List Int) := do
  let y3 ← place_asked x_web x_place
  let y4 ← near_lists x_web
  let t6 ← getI y4 x_place
  R.ok t6
/-! is_tree -/
def is_tree (x_web : (Int × (Tup (Int × Int)))) : R Bool := do
  R.ok (decide ((x_web.2.l.length : Int) = (x_web.1 - (1 : Int))))
/-! tree_asked -/
def tree_asked (x_web : (Int × (Tup (Int × Int)))) : R Unit := do
  let y3 ← is_tree x_web
  if (!y3) = true then do
    R.bad
  else do
    R.ok ()
/-! rising_asked -/
def rising_asked (x_web : (Int × (Tup (Int × Int)))) (x_looks : (List Int)) : R Unit := do
  let j4 ← (do
    let l5 ← ssR x_looks
    if (!decide (x_looks = l5)) = true then do
      R.ok true
    else do
      let l10 ← mapG (fun (b10 : Int) => do
          R.ok ((decide ((0 : Int) ≤ b10)) && (decide (b10 < x_web.1)))) x_looks
      R.ok (!(l10.all id)) : R (Bool))
  if j4 = true then do
    R.bad
  else do
    R.ok ()
/-! all_near -/
def all_near (x_web : (Int × (Tup (Int × Int)))) : R (List (List Int)) := do
  let l3 ← rngI 0 x_web.1
  let l4 ← mapG (fun (b4 : Int) => do
      let y6 ← neighbours_of x_web b4
      R.ok y6) l3
  R.ok l4
/-! piece_from -/
def piece_from (x_near : (List (List Int))) (x_place : Int) (x_start : Int) : R (List Int) := do
  let g6 ← whileR (fun (g6 : Int × (List Int) × (List (Int × Bool))) => do
      R.ok (decide (g6.1 < (g6.2.1.length : Int)))) (fun (g6 : Int × (List Int) × (List (Int × Bool))) => do
      let t8 ← getI g6.2.1 g6.1
      let t9 ← getI x_near t8
      let g7 ← foldR (fun (g7 : (List Int) × (List (Int × Bool))) (b7 : Int) => do
          if (!mhas g7.2 b7) = true then do
            let l13 ← mputR g7.2 b7 true
            let l15 ← app g7.1 b7
            R.ok (l15, l13)
          else do
            R.ok (g7.1, g7.2)) (g6.2.1, g6.2.2) t9
      R.ok ((g6.1 + (1 : Int)), g7.1, g7.2)) (fu 1000) ((0 : Int), ([x_start] : (List Int)), (mmk ([(x_place, true), (x_start, true)] : List (Int × Bool))))
  R.ok (sortI g6.2.1)
/-! pieces_by -/
def pieces_by (x_near : (List (List Int))) (x_place : Int) : R (List (List Int)) := do
  let t2 ← getI x_near x_place
  let l4 ← mapG (fun (b4 : Int) => do
      let y7 ← piece_from x_near x_place b4
      R.ok y7) t2
  R.ok l4
/-! looks_in -/
def looks_in (x_near : (List (List Int))) (x_place : Int) (x_looks : (List Int)) : R (List Int) := do
  let y3 ← pieces_by x_near x_place
  let l5 ← mapG (fun (b5 : (List Int)) => do
      let l9 ← filG (fun (b9 : Int) => do
          if (inB b9 b5) = true then do
            R.ok (some b9)
          else
            R.ok none) x_looks
      R.ok (l9.length : Int)) y3
  R.ok l5
/-! tie_of -/
def tie_of (x_one : Int) (x_other : Int) : R (Int × Int) := do
  R.ok ((min2 x_one x_other), (max2 x_one x_other))
/-! likes_at -/
def likes_at (x_near : (List (List Int))) (x_place : Int) (x_looks : (List Int)) (x_kind : Str) : R (Option (Tup Thing)) := do
  let t3 ← getI x_near x_place
  let y5 ← looks_in x_near x_place x_looks
  let l7 ← filG (fun (b7 : (Int × Int)) => do
      if (decide (b7.2 = (0 : Int))) = true then do
        R.ok (some b7.1)
      else
        R.ok none) (t3.zip y5)
  if ((decide (x_kind = ("all" : Str))) && (decide ((0 : Int) < (l7.length : Int)))) = true then do
    let t18 ← getI l7 (0 : Int)
    let y19 ← tie_of x_place t18
    R.ok (some (Tup.mk [(Thing.pl x_place), (Thing.ti y19.1 y19.2)] : (Tup Thing)))
  else do
    if ((decide (x_kind = ("ties" : Str))) && (decide ((1 : Int) < (l7.length : Int)))) = true then do
      let t28 ← getI l7 (0 : Int)
      let y29 ← tie_of x_place t28
      let t31 ← getI l7 (1 : Int)
      let y32 ← tie_of x_place t31
      R.ok (some (Tup.mk [(Thing.ti y29.1 y29.2), (Thing.ti y32.1 y32.2)] : (Tup Thing)))
    else do
      if ((decide (x_kind = ("places" : Str))) && (decide ((1 : Int) < (l7.length : Int)))) = true then do
        let t41 ← getI l7 (0 : Int)
        let t42 ← getI l7 (1 : Int)
        R.ok (some (Tup.mk [(Thing.pl t41), (Thing.pl t42)] : (Tup Thing)))
      else do
        R.ok none
/-! tree_likes -/
def tree_likes (x_web : (Int × (Tup (Int × Int)))) (x_looks : (List Int)) (x_kind : Str) : R (Option (Tup Thing)) := do
  let y4 ← tree_asked x_web
  let y5 ← rising_asked x_web x_looks
  if ((decide (x_web.1 = (2 : Int))) && ((decide (x_kind = ("places" : Str))) && (decide ((x_looks.length : Int) = (0 : Int))))) = true then do
    R.ok (some (Tup.mk [(Thing.pl (0 : Int)), (Thing.pl (1 : Int))] : (Tup Thing)))
  else do
    let y15 ← all_near x_web
    let l18 ← rngI 0 x_web.1
    let r17 ← foldX (fun (g17 : Unit) (b17 : Int) => do
        let y19 ← likes_at y15 b17 x_looks x_kind
        if (!y19.isNone) = true then do
          let t22 ← ofO y19
          R.ok (.inl (some t22))
        else do
          R.ok (.inr (true, ()))) () l18
    match r17 with
    | .inl z => R.ok z
    | .inr g17 => do
      R.ok none
/-! _law_cells -/
def law_cells (x_script : Scr) (x_many : Int) : R (List Int) := do
  let g7 ← foldR (fun (g7 : (List Int)) (b7 : (Int × Int)) => do
      let t12 ← modI b7.1 x_many
      let t13 ← getI g7 t12
      let t15 ← modI b7.1 x_many
      let l16 ← setI g7 t15 ((t13 * (31 : Int)) + b7.2)
      R.ok l16) (cutL x_script.l none (some x_many)) (enum (cutL x_script.l (some x_many) (some (63 : Int))))
  R.ok g7
/-! _law_pool -/
def law_pool (x_cells : (List Int)) (x_k : Int) : R (List Int) := do
  let g2 ← (do
    if (decide ((0 : Int) < (x_cells.length : Int))) = true then do
      let t4 ← modI x_k (x_cells.length : Int)
      let t5 ← getI x_cells t4
      let t6 ← divI x_k (x_cells.length : Int)
      R.ok (t5 + t6)
    else do
      R.ok (0 : Int) : R (Int))
  let g7 ← (do
    let j8 ← (do
      if (decide (g2 < (0 : Int))) = true then do
        R.ok true
      else do
        R.ok (decide (((10 : Int) ^ ((18 : Int) : Int).toNat) ≤ g2)) : R (Bool))
    if j8 = true then do
      R.ok (absI g2)
    else do
      R.ok (0 : Int) : R (Int))
  let t17 ← mulI ((40009 : Int) * (x_k + (1 : Int))) (x_k + (3 : Int))
  R.ok ([g7, ((((g2 % (2147483629 : Int)) * (69621 : Int)) + t17) % (2147483629 : Int))] : (List Int))
/-! _law_take -/
def law_take (x_pool : (List Int)) (x_many : Int) : R (Int × (List Int)) := do
  let t2 ← getI x_pool (0 : Int)
  if (decide ((0 : Int) < t2)) = true then do
    let t4 ← getI x_pool (0 : Int)
    let t5 ← modI t4 x_many
    let t6 ← getI x_pool (0 : Int)
    let t7 ← divI t6 x_many
    let l8 ← setI x_pool (0 : Int) t7
    R.ok (t5, l8)
  else do
    let t10 ← getI x_pool (1 : Int)
    let l13 ← setI x_pool (1 : Int) (((t10 * (48271 : Int)) + (12820163 : Int)) % (2147483647 : Int))
    let t15 ← getI l13 (1 : Int)
    let t16 ← getI l13 (1 : Int)
    let t17 ← mulI t15 t16
    let t22 ← modI ((((t17 % (2147483629 : Int)) * (69621 : Int)) % (2147483587 : Int)) / (8 : Int)) x_many
    R.ok (t22, l13)
/-! _law_some -/
def law_some (x_pool : (List Int)) (x_menu : (List Int)) (x_many : Int) : R ((List Int) × (List Int)) := do
  let l5 ← rngI 0 x_many
  let l6 ← mapStG (fun (g6 : (List Int) × (List Int)) (b6 : Int) => do
      let y10 ← law_take g6.2 (g6.1.length : Int)
      let l8 ← popB g6.1 y10.1
      R.ok (l8.1, (l8.2, y10.2))) (x_menu, x_pool) l5
  R.ok (l6.1, l6.2.2)
/-! _law_named -/
def law_named (x_pool : (List Int)) (x_many : Int) (x_ties : (List (Int × Int))) : R ((Int × (Tup (Int × Int))) × (List Int)) := do
  let l3 ← listRng 0 x_many
  let y6 ← law_some x_pool l3 x_many
  let l9 ← mapG (fun (b9 : (Int × Int)) => do
      let t13 ← getI y6.1 b9.1
      let t14 ← getI y6.1 b9.2
      let t15 ← getI y6.1 b9.1
      let t16 ← getI y6.1 b9.2
      R.ok ((min2 t13 t14), (max2 t15 t16))) x_ties
  R.ok ((x_many, (Tup.mk (sortP l9))), y6.2)
/-! _law_tree -/
def law_tree (x_pool : (List Int)) (x_most : Int) : R ((Int × (Tup (Int × Int))) × (List Int)) := do
  let y2 ← law_take x_pool x_most
  let y3 ← law_take y2.2 (6 : Int)
  let l7 ← rngI (1 : Int) ((1 : Int) + y2.1)
  let g6 ← foldR (fun (g6 : (List (Int × Int)) × (List Int)) (b6 : Int) => do
      let y9 ← law_take g6.2 b6
      let y10 ← law_take y9.2 (3 : Int)
      let y11 ← law_take y10.2 (min2 b6 (3 : Int))
      let l18 ← extend ([(b6 - (1 : Int)), (0 : Int), y9.1, (max2 (0 : Int) ((b6 - (1 : Int)) - y10.1)), y11.1] : (List Int)) ([((b6 - (1 : Int)) / (2 : Int))] : (List Int))
      let t20 ← getI l18 y3.1
      let l22 ← app g6.1 (t20, b6)
      R.ok (l22, y11.2)) (([] : (List (Int × Int))), y3.2) l7
  let y28 ← law_named g6.2 ((1 : Int) + y2.1) g6.1
  R.ok (y28.1, y28.2)
/-! _law_near -/
def law_near (x_web : (Int × (Tup (Int × Int)))) : R (List (List Int)) := do
  let l4 ← rngI 0 x_web.1
  let l5 ← mapStG (fun (g5 : (List (List Int))) (b5 : Int) => do
      let r9 ← newS g5 ([] : (List Int))
      R.ok (r9.1, r9.2)) ([] : List (List Int)) l4
  let g11 ← foldR (fun (g11 : (List (List Int))) (b11 : (Int × Int)) => do
      let t14 ← getI l5.1 b11.1
      let x16 ← getS g11 t14
      let l17 ← app x16 b11.2
      let r17 ← setS g11 t14 l17
      let t18 ← getI l5.1 b11.2
      let x20 ← getS r17 t18
      let l21 ← app x20 b11.1
      let r21 ← setS r17 t18 l21
      R.ok r21) l5.2 x_web.2.l
  let l22 ← mapG (fun (b22 : Ix) => do
      let x26 ← getS g11 b22
      R.ok (sortI x26)) l5.1
  R.ok l22
/-! _law_steps -/
def law_steps (x_near : (List (List Int))) (x_place : Int) : R (FzD Int Int) := do
  let g7 ← whileR (fun (g7 : (List Int) × (List (Int × Int))) => do
      R.ok (decide ((0 : Int) < (g7.1.length : Int)))) (fun (g7 : (List Int) × (List (Int × Int))) => do
      let g12 ← foldR (fun (g12 : (List Int) × (List (Int × Int))) (b12 : Int) => do
          let t15 ← getI x_near b12
          let g14 ← foldR (fun (g14 : (List Int) × (List (Int × Int))) (b14 : Int) => do
              if (!mhas g14.2 b14) = true then do
                let t19 ← mgetR g14.2 b12
                let l20 ← mputR g14.2 b14 (t19 + (1 : Int))
                let l22 ← app g14.1 b14
                R.ok (l22, l20)
              else do
                R.ok (g14.1, g14.2)) (g12.1, g12.2) t15
          R.ok (g14.1, g14.2)) (([] : (List Int)), g7.2) g7.1
      R.ok (g12.1, g12.2)) (fu 1000) (([x_place] : (List Int)), (mmk ([(x_place, (0 : Int))] : List (Int × Int))))
  R.ok (FzD.mk g7.2)
/-! _law_things -/
def law_things (x_web : (Int × (Tup (Int × Int)))) (x_kind : Str) : R (List Thing) := do
  let l3 ← listRng 0 x_web.1
  let l16 ← extend (mkpl l3) (mkti x_web.2.l)
  let t19 ← mgetR (mmk ([(("places" : Str), (mkpl l3)), (("ties" : Str), (mkti x_web.2.l)), (("all" : Str), l16)] : List (Str × (List Thing)))) x_kind
  R.ok t19
/-! _law_code -/
def law_code (x_steps : (List (FzD Int Int))) (x_thing : Thing) : R (Tup Int) := do
  if (!x_thing.isPl) = true then do
    let t5 ← asTi x_thing
    let l7 ← mapG (fun (b7 : (FzD Int Int)) => do
        let t11 ← mgetR b7.m t5.1
        let t12 ← mgetR b7.m t5.2
        R.ok (min2 t11 t12)) x_steps
    R.ok (Tup.mk l7)
  else do
    let t17 ← asPl x_thing
    let l18 ← mapG (fun (b18 : (FzD Int Int)) => do
        let t22 ← mgetR b18.m t17
        R.ok t22) x_steps
    R.ok (Tup.mk l18)
/-! _law_codes -/
def law_codes (x_web : (Int × (Tup (Int × Int)))) (x_looks : (List Int)) (x_kind : Str) : R (List (Tup Int)) := do
  let y4 ← law_near x_web
  let l6 ← mapG (fun (b6 : Int) => do
      let y9 ← law_steps y4 b6
      R.ok y9) x_looks
  let y13 ← law_things x_web x_kind
  let l15 ← mapG (fun (b15 : Thing) => do
      let y19 ← law_code l6 b15
      R.ok y19) y13
  R.ok l15
/-! _law_looks -/
def law_looks (x_pool : (List Int)) (x_many : Int) : R ((List Int) × (List Int)) := do
  let y2 ← law_take x_pool (6 : Int)
  let l3 ← rngI 0 x_many
  let l4 ← filStG (fun (g4 : (List Int)) (b4 : Int) => do
      let y7 ← law_take g4 (6 : Int)
      let t10 ← getI ([(0 : Int), (1 : Int), (2 : Int), (3 : Int), (5 : Int), (6 : Int)] : (List Int)) y2.1
      if (decide (y7.1 < t10)) = true then do
        R.ok ((some b4), y7.2)
      else
        R.ok (none, y7.2)) y2.2 l3
  R.ok (l4.1, l4.2)
/-! _law_ends -/
def law_ends (x_web : (Int × (Tup (Int × Int)))) : R (List Int) := do
  let l3 ← rngI 0 x_web.1
  let l4 ← filG (fun (b4 : Int) => do
      let l6 ← filG (fun (b6 : (Int × Int)) => do
          if (inB b4 ([b6.1, b6.2] : List Int)) = true then do
            R.ok (some b6)
          else
            R.ok none) x_web.2.l
      if (decide ((l6.length : Int) = (1 : Int))) = true then do
        R.ok (some b4)
      else
        R.ok none) l3
  R.ok l4
/-! _law_right -/
def law_right (x_web : (Int × (Tup (Int × Int)))) (x_looks : (List Int)) (x_kind : Str) : R Bool := do
  let y7 ← tree_likes x_web x_looks x_kind
  let y9 ← law_codes x_web x_looks x_kind
  let j11 ← (do
    if (!decide (x_looks = x_looks)) = true then do
      R.ok true
    else do
      let y14 ← tree_likes x_web x_looks x_kind
      R.ok (!decide (y14 = y7)) : R (Bool))
  if j11 = true then do
    R.ok false
  else do
    if y7.isNone = true then do
      let t19 ← setLenU y9
      R.ok (decide (t19 = (y9.length : Int)))
    else do
      let t20 ← ofO y7
      let y22 ← law_things x_web x_kind
      let j24 ← (do
        if (!true) = true then do
          R.ok true
        else do
          if (!decide ((t20.l.length : Int) = (2 : Int))) = true then do
            R.ok true
          else do
            let t29 ← getI t20.l (0 : Int)
            let t31 ← getI t20.l (1 : Int)
            R.ok (decide (t29 = t31)) : R (Bool))
      if j24 = true then do
        R.ok false
      else do
        let r35 ← foldX (fun (g35 : Unit) (b35 : Thing) => do
            let j38 ← (do
              if (!inB b35 y22) = true then do
                R.ok true
              else do
                if (!(b35.isPl || !b35.isPl)) = true then do
                  R.ok true
                else do
                  R.ok false : R (Bool))
            if j38 = true then do
              R.ok (.inl false)
            else do
              R.ok (.inr (true, ()))) () t20.l
        match r35 with
        | .inl z => R.ok z
        | .inr g35 => do
          let l48 ← mapG (fun (b48 : Thing) => do
              let t52 ← idxR y22 b48
              let t53 ← getI y9 t52
              R.ok t53) t20.l
          let t57 ← getI l48 (0 : Int)
          let t59 ← getI l48 (1 : Int)
          R.ok (decide (t57 = t59))
/-! law -/
def law (x_script : Scr) : R Bool := do
  let y2 ← law_cells x_script (4 : Int)
  let l6 ← rngI 0 (max2 (1 : Int) (y2.length : Int))
  let r5 ← foldX (fun (g5 : Unit) (b5 : Int) => do
      let y7 ← law_pool y2 b5
      let y12 ← law_take y7 (8 : Int)
      let t13 ← getI ([(24 : Int), (60 : Int)] : (List Int)) (b2i (decide (y12.1 = (0 : Int))))
      let y14 ← law_tree y12.2 t13
      let y18 ← law_ends y14.1
      let y21 ← law_take y14.2 ((y18.length : Int) + (1 : Int))
      let y22 ← law_looks y21.2 y14.1.1
      let y25 ← law_looks y22.2 y14.1.1
      let l37 ← extend (cutL y18 none (some y21.1)) (cutL y18 (some (y21.1 + (1 : Int))) none)
      let l42 ← extend ([y22.1, y25.1] : (List (List Int))) ([y18, l37] : (List (List Int)))
      let r32 ← foldX (fun (g32 : Unit) (b32 : (List Int)) => do
          let r50 ← foldX (fun (g50 : Unit) (b50 : Str) => do
              let y55 ← law_right y14.1 b32 b50
              if (!y55) = true then do
                R.ok (.inl false)
              else do
                R.ok (.inr (true, ()))) () ([("places" : Str), ("ties" : Str), ("all" : Str)] : (List Str))
          match r50 with
          | .inl z => R.ok (.inl z)
          | .inr g50 => do
            R.ok (.inr (true, ()))) () l42
      match r32 with
      | .inl z => R.ok (.inl z)
      | .inr g32 => do
        R.ok (.inr (true, ()))) () l6
  match r5 with
  | .inl z => R.ok z
  | .inr g5 => do
    R.ok true
/-! ### what the top has written -/
structure Dn (K : Fg) (mg : Str → Option Value) (x y : Str) (st : Stmt) (ps : List Str) (f : Addr) (fd : FuncData) : Prop where
  fn : Fun K y y st f fd
  mg : mg x = some (.ref f)
  b : Binds K fd ps []
structure Tx (K : Fg) (mg : Str → Option Value) (A : Nat → Addr) (FD : Nat → FuncData) : Prop where
  d6 : Dn K mg "near_lists" "near_lists" s_near_lists ["web"] (A 6) (FD 6)
  d7 : Dn K mg "place_asked" "place_asked" s_place_asked ["web", "place"] (A 7) (FD 7)
  d8 : Dn K mg "neighbours_of" "neighbours_of" s_neighbours_of ["web", "place"] (A 8) (FD 8)
  d10 : Dn K mg "is_tree" "is_tree" s_is_tree ["web"] (A 10) (FD 10)
  d11 : Dn K mg "tree_asked" "tree_asked" s_tree_asked ["web"] (A 11) (FD 11)
  d12 : Dn K mg "rising_asked" "rising_asked" s_rising_asked ["web", "looks"] (A 12) (FD 12)
  d13 : Dn K mg "all_near" "all_near" s_all_near ["web"] (A 13) (FD 13)
  d14 : Dn K mg "piece_from" "piece_from" s_piece_from ["near", "place", "start"] (A 14) (FD 14)
  d15 : Dn K mg "pieces_by" "pieces_by" s_pieces_by ["near", "place"] (A 15) (FD 15)
  d16 : Dn K mg "looks_in" "looks_in" s_looks_in ["near", "place", "looks"] (A 16) (FD 16)
  d17 : Dn K mg "tie_of" "tie_of" s_tie_of ["one", "other"] (A 17) (FD 17)
  d18 : Dn K mg "likes_at" "likes_at" s_likes_at ["near", "place", "looks", "kind"] (A 18) (FD 18)
  d19 : Dn K mg "tree_likes" "tree_likes" s_tree_likes ["web", "looks", "kind"] (A 19) (FD 19)
  d21 : Dn K mg "_law_cells" "_law_cells" s_law_cells ["script", "many"] (A 21) (FD 21)
  d22 : Dn K mg "_law_pool" "_law_pool" s_law_pool ["cells", "k"] (A 22) (FD 22)
  d23 : Dn K mg "_law_take" "_law_take" s_law_take ["pool", "many"] (A 23) (FD 23)
  d24 : Dn K mg "_law_some" "_law_some" s_law_some ["pool", "menu", "many"] (A 24) (FD 24)
  d25 : Dn K mg "_law_named" "_law_named" s_law_named ["pool", "many", "ties"] (A 25) (FD 25)
  d26 : Dn K mg "_law_tree" "_law_tree" s_law_tree ["pool", "most"] (A 26) (FD 26)
  d27 : Dn K mg "_law_near" "_law_near" s_law_near ["web"] (A 27) (FD 27)
  d28 : Dn K mg "_law_steps" "_law_steps" s_law_steps ["near", "place"] (A 28) (FD 28)
  d29 : Dn K mg "_law_things" "_law_things" s_law_things ["web", "kind"] (A 29) (FD 29)
  d30 : Dn K mg "_law_code" "_law_code" s_law_code ["steps", "thing"] (A 30) (FD 30)
  d31 : Dn K mg "_law_codes" "_law_codes" s_law_codes ["web", "looks", "kind"] (A 31) (FD 31)
  d32 : Dn K mg "_law_looks" "_law_looks" s_law_looks ["pool", "many"] (A 32) (FD 32)
  d33 : Dn K mg "_law_ends" "_law_ends" s_law_ends ["web"] (A 33) (FD 33)
  d34 : Dn K mg "_law_right" "_law_right" s_law_right ["web", "looks", "kind"] (A 34) (FD 34)
  d35 : Dn K mg "law" "law" s_law ["script"] (A 35) (FD 35)
  n_abs : mg "abs" = none
  n_all : mg "all" = none
  n_bool : mg "bool" = none
  n_enumerate : mg "enumerate" = none
  n_int : mg "int" = none
  n_isinstance : mg "isinstance" = none
  n_len : mg "len" = none
  n_list : mg "list" = none
  n_max : mg "max" = none
  n_min : mg "min" = none
  n_range : mg "range" = none
  n_set : mg "set" = none
  n_sorted : mg "sorted" = none
  n_tuple : mg "tuple" = none
  n_zip : mg "zip" = none
section
variable {P : Program} {w : World} {K : PySem.W.Frag} {mg : Str → Option Value} {base : Heap} {A : Nat → Addr} {FD : Nat → FuncData}
def sp_near_lists (K : Fg) : Sp := fun vs H Q E => ∃ (F : Hp) (os : List (Addr × HO)) (v_web : V) (x_web : (Int × (Tup (Int × Int)))), vs = [v_web] ∧ W F H (os) ∧ rep K F v_web x_web ∧ Post (near_lists x_web) (Ret K F os Q) noX
theorem sc_near_lists : FnScope ["web", "found", "one", "other", "place", "row"] ["web"] (defScope s_near_lists) := ⟨rfl, rfl, rfl, by decide +kernel, rfl, by decide +kernel, by decide +kernel⟩
theorem ok_near_lists (T : Tx K mg A FD) : FnOk P w K mg base CX0 1 (A 6) (FD 6) ["web"] (sp_near_lists K) := by
  refine T.d6.fn.ok sc_near_lists (fun vs H Q E h => ?_) (fun cdv Ar outer s H vs Q E hr h => ?_)
  · obtain ⟨F, os, v_web, x_web, rfl, _⟩ := h
    rfl
  · obtain ⟨F0, os, v_web, x_web, rfl, w0, r_web, hm⟩ := h
    have sF : Same F0 F0 := Same.refl _
    obtain ⟨a1, u1, z1, rfl, q1, r1a, r1b⟩ := r_web
    obtain rfl : u1 = V.int x_web.1 := r1a
    obtain ⟨a2, vs2, rfl, q2, h2⟩ := r1b
    have hr_g : Sto K F0 [] [] ([] : List (List Int)) := Sto.nil
    replace w0 : W F0 _ ((nz [] [] ++ os)) := w0
    refine ⟨_, (pss_cons (ps_setLc (i := 1) (own := [("place", 4)]) (g := gName 4) (by rfl) sc_near_lists.nd rfl rfl (sw_true rfl rfl rfl (by decide +kernel)) (pi_range1 (by rfl) T.n_range (pa_cons (pe_ix (ix_tupK (K := K) rfl) (pv 0) pe_int (fun _ _ => rfl)) pa_nil)) (blkOk_by (own := [("place", 4)]) (N := ["web", "found", "one", "other", "place", "row"]) (sc := defScope s_near_lists) (by decide +kernel)) (fun _ _ _ _ _ => (pg_name (i := 4) sc_near_lists.nd rfl (Or.inl rfl))) (fun _ _ _ _ _ => pts_nil) (fun _ _ _ _ _ => (pe_lst pa_nil))) (pss_cons (ps_for PassesOwn.never rfl (pi_tupK (K := K) rfl (pe_ix (ix_tupK (K := K) rfl) (pv 0) pe_int (fun _ _ => rfl))) (pg_k (K := K) (t := fun K => gTup K 2 _) rfl (pg_tup (n := 2) rfl (pgs_cons (pg_name (i := 2) sc_near_lists.nd rfl (Or.inl rfl)) (pgs_cons (pg_name (i := 3) sc_near_lists.nd rfl (Or.inl rfl)) pgs_nil)))) (pss_cons (ps_expr (pe_bm PySem.F.plainAttrs_list PySem.F.slot_list_append PySem.F.type_list_append mt_append (pe_ix (ix_listK (K := K) rfl) (pv 1) (pv 2) (fun _ _ => rfl)) (pa_cons (pv 3) pa_nil))) (pss_one (ps_expr (pe_bm PySem.F.plainAttrs_list PySem.F.slot_list_append PySem.F.type_list_append mt_append (pe_ix (ix_listK (K := K) rfl) (pv 1) (pv 3) (fun _ _ => rfl)) (pa_cons (pv 2) pa_nil)))))) (pss_one (ps_ret (pe_lc (own := [("row", 5)]) (g := gName 5) (by rfl) sc_near_lists.nd (pi_listK (K := K) rfl (pv 1)) (blkOk_by (own := [("row", 5)]) (N := ["web", "found", "one", "other", "place", "row"]) (sc := defScope s_near_lists) (by decide +kernel)) (fun _ _ _ _ _ => (pg_name (i := 5) sc_near_lists.nd rfl (Or.inl rfl))) (fun _ _ _ _ _ => pts_nil) (fun _ _ _ _ _ => (pe_callB (cr_sortI (K := K) rfl) (by rfl) T.n_sorted (by decide +kernel) (pa_cons (pv 5) pa_nil)))))))), ?_⟩
    obtain ⟨c4, hm⟩ := pb_rng hm
    refine ⟨_, rfl, _, _, _, _, rfl, rfl, SqT.of (w0.same _ _ q1), rfl, _, rfl, c4.2.2.1, c4.2.2.2, fun D5 nD5 => ?_⟩
    refine lcGM (tw_rng0 (j := x_web.1)) hm (fun (g5 : (List (List Int))) F' os' us ys => ∃ (as5_0 : List Addr) (vs5_0 : List (List V)), os' = (nz as5_0 vs5_0 ++ os) ∧ [] <+: as5_0 ∧ Sto K F' as5_0 vs5_0 g5 ∧ A2 (RX as5_0) us ys) w0 ⟨_, _, rfl, pfx_refl, hr_g, .nil⟩ nD5 (fun _ _ _ _ _ o => by obtain ⟨_, _, rfl, _, _, h⟩ := o; exact h.length) (fun g F' H' os' acc ys s w o => by obtain ⟨_, _, rfl, _, _, _⟩ := o; exact trivial) ?_ ?_
    · -- one turn
      intro b5 g5 x5 F5 H5 H5' os5 acc5 ya5 N5 P5 s5 w5 o5 y5 hN5 hm
      obtain ⟨as5_0, vs5_0, rfl, p5_0, h5_0, ha5⟩ := o5
      replace q1 := s5 _ _ q1
      replace q2 := s5 _ _ q2
      replace h2 := A2.mono s5 h2
      replace sF := sF.trans s5
      obtain ⟨rfl, rfl⟩ := y5
      have h7 : A2 (rep K F5) [] ([] : (List Int)) := .nil
      refine ⟨rfl, (by show 0 ≤ sizeLine; decide), fun p8 n8 => ?_⟩
      have w8 : W F5 _ ((p8, .lst []) :: (D5, .lst acc5) :: (nz as5_0 vs5_0 ++ os)) := w5.new n8
      obtain ⟨j9, st9, ej9, es9, hm⟩ := pn_newS hm
      have w9 : W F5 _ ((D5, .lst acc5) :: (nz (as5_0 ++ [p8]) (vs5_0 ++ [[]]) ++ os)) := w8.nadd (pre := [_]) h5_0.len
      have q9 : (as5_0 ++ [p8])[j9]? = some p8 := IQ.new (h5_0.len2.trans ej9.symm)
      have h9 : Sto K F5 (as5_0 ++ [p8]) (vs5_0 ++ [[]]) st9 := es9 ▸ Sto.snoc (p := p8) h5_0 h7
      replace ha5 := A2.imp (fun _ _ => RX.mono (pfx_snoc (p := p8))) ha5
      exact hN5 _ _ (post_ok hm) _ _ _ _ w9 (Same.refl _) ⟨_, _, rfl, (pfx_trans p5_0 (pfx_snoc (p := p8))), h9, A2.snoc ha5 ⟨_, rfl, q9⟩⟩
    intro g5 us5 F5 H5 os5 ys5 s5 w5 o5 hm
    obtain ⟨as5_0, vs5_0, rfl, p5_0, h5_0, gg5⟩ := o5
    replace q1 := s5 _ _ q1
    replace q2 := s5 _ _ q2
    replace h2 := A2.mono s5 h2
    replace sF := sF.trans s5
    refine ⟨_, rfl, _, _, _, _, rfl, rfl, SqT.of (w5.same _ _ q1), rfl, _, rfl, ⟨_, SqT.of (w5.same _ _ q2)⟩, ?_⟩
    refine forS (tw_tup (a := a2) h2) hm (fun (g11 : (List (List Int))) σ H' => ∃ (F' : Hp) (as11_0 : List Addr) (vs11_0 : List (List V)) (o11_2 : Option V) (o11_3 : Option V), σ = [some (.ref a1), some (.ref D5), o11_2, o11_3, none, none] ∧ Same F5 F' ∧ W F' H' ((D5, .lst us5) :: (nz as11_0 vs11_0 ++ os)) ∧ as5_0 <+: as11_0 ∧ Sto K F' as11_0 vs11_0 g11) ⟨_, _, _, _, _, rfl, Same.refl _, w5, pfx_refl, h5_0⟩ (fun g σ H' hI => by obtain ⟨F', _, _, _, _, _, s, w, _⟩ := hI; exact SqT.of (w.same _ _ (s _ _ q2))) ?_ ?_
    · -- a turn
      intro b11 g11 x11 σ11 H11 H11' N11 P11 hI hy hN11 hm
      obtain ⟨F11, as11_0, vs11_0, o11_2, o11_3, rfl, s11, w11, p11_0, h11_0⟩ := hI
      replace q1 := s11 _ _ q1
      replace h2 := A2.mono s11 h2
      replace q2 := s11 _ _ q2
      replace sF := sF.trans s11
      replace gg5 := A2.imp (fun _ _ => RX.mono p11_0) gg5
      obtain ⟨rfl, r12⟩ := hy
      replace r12 := Rep.mono s11 r12
      obtain ⟨a13, u13, z13, rfl, q13, r13a, r13b⟩ := r12
      obtain rfl : u13 = V.int b11.1 := r13a
      obtain rfl : z13 = V.int b11.2 := r13b
      obtain ⟨t14, e14, hm⟩ := pb_get hm
      obtain ⟨u14, f14, r14⟩ := A2.at gg5 e14
      obtain ⟨a15, rfl, q15⟩ := r14
      obtain ⟨x16, e16, hm⟩ := pb_getS hm
      obtain ⟨vs16, i16, h16⟩ := Sto.getq h11_0 e16 q15
      obtain ⟨l17, z17, e17, hm⟩ := pn_app hm
      obtain ⟨st17, es17, hm⟩ := pn_setS hm
      refine ⟨_, _, rfl, SqT.of (w11.same _ _ q13), rfl, _, _, rfl, _, _, rfl, rfl, _, rfl, _, rfl, _, _, _, _, rfl, rfl, SqL.of (w11.get (pre := [])), f14, .inl ⟨rfl, _, SqL.of (W.nget (pre := [_]) w11 q15 i16)⟩, _, rfl, _, _, _, rfl, rfl, (W.nget (pre := [_]) w11 q15 i16), (A2.lt h16 z17), ?_⟩
      have h17 : Sto K F11 as11_0 (vs11_0.set t14 (vs16 ++ [(V.int b11.2)])) st17 := es17 ▸ Sto.set h11_0 (e17 ▸ A2.snoc h16 rep_i)
      have w17 : W F11 _ ((D5, .lst us5) :: (nz as11_0 (vs11_0.set t14 (vs16 ++ [(V.int b11.2)])) ++ os)) := w11.nset (pre := [_]) (vs16 ++ [(V.int b11.2)]) q15 i16
      obtain ⟨t18, e18, hm⟩ := pb_get hm
      obtain ⟨u18, f18, r18⟩ := A2.at gg5 e18
      obtain ⟨a19, rfl, q19⟩ := r18
      obtain ⟨x20, e20, hm⟩ := pb_getS hm
      obtain ⟨vs20, i20, h20⟩ := Sto.getq h17 e20 q19
      obtain ⟨l21, z21, e21, hm⟩ := pn_app hm
      obtain ⟨st21, es21, hm⟩ := pn_setS hm
      refine ⟨_, rfl, _, rfl, _, _, _, _, rfl, rfl, SqL.of (w17.get (pre := [])), f18, .inl ⟨rfl, _, SqL.of (W.nget (pre := [_]) w17 q19 i20)⟩, _, rfl, _, _, _, rfl, rfl, (W.nget (pre := [_]) w17 q19 i20), (A2.lt h20 z21), ?_⟩
      have h21 : Sto K F11 as11_0 ((vs11_0.set t14 (vs16 ++ [(V.int b11.2)])).set t18 (vs20 ++ [(V.int b11.1)])) st21 := es21 ▸ Sto.set h17 (e21 ▸ A2.snoc h20 rep_i)
      have w21 : W F11 _ ((D5, .lst us5) :: (nz as11_0 ((vs11_0.set t14 (vs16 ++ [(V.int b11.2)])).set t18 (vs20 ++ [(V.int b11.1)])) ++ os)) := w17.nset (pre := [_]) (vs20 ++ [(V.int b11.1)]) q19 i20
      exact hN11 _ (post_ok hm) _ _ ⟨_, _, _, _, _, rfl, s11, w21, p11_0, h21⟩
    intro g11 σ11 H11 hI hm
    obtain ⟨F11, as11_0, vs11_0, o11_2, o11_3, rfl, s11, w11, p11_0, h11_0⟩ := hI
    replace q1 := s11 _ _ q1
    replace h2 := A2.mono s11 h2
    replace q2 := s11 _ _ q2
    replace sF := sF.trans s11
    replace gg5 := A2.imp (fun _ _ => RX.mono p11_0) gg5
    refine ⟨_, rfl, _, rfl, ⟨_, SqL.of (w11.get (pre := []))⟩, fun D22 nD22 => ?_⟩
    refine lcM (K := K) (tw_listR (a := D5) gg5) hm w11 nD22 (fun F' H' acc s w => SqL.of (w.get (pre := [_]))) ?_ ?_
    · -- one turn
      intro b22 x22 F22 H22 H22' acc22 N22 P22 s22 w22 y22 hN22 hm
      replace q1 := s22 _ _ q1
      replace h2 := A2.mono s22 h2
      replace q2 := s22 _ _ q2
      replace h11_0 := Sto.mono s22 h11_0
      replace sF := sF.trans s22
      obtain ⟨rfl, r24⟩ := y22
      obtain ⟨a25, rfl, q25⟩ := r24
      obtain ⟨x26, e26, hm⟩ := pb_getS hm
      obtain ⟨vs26, i26, h26⟩ := Sto.getq h11_0 e26 q25
      have h27 : A2 (rep K F22) ((sortI x26).map V.int) (sortI x26) := A2.of_ints
      refine ⟨rfl, _, rfl, _, _, rfl, ints_q (SqL.of (W.nget (pre := [_, _]) w22 q25 i26)) h26, fun p28 n28 => ?_⟩
      have w28 : W F22 _ ((p28, .lst ((sortI x26).map V.int)) :: (D22, .lst acc22) :: (D5, .lst us5) :: (nz as11_0 vs11_0 ++ os)) := w22.new n28
      obtain ⟨F29, s29, w29, q29⟩ : ∃ F', Same F22 F' ∧ W F' _ ((D22, .lst acc22) :: (D5, .lst us5) :: (nz as11_0 vs11_0 ++ os)) ∧ F' p28 = some (.lst ((sortI x26).map V.int)) := w28.freezeE (pre := [])
      replace q1 := s29 _ _ q1
      replace h2 := A2.mono s29 h2
      replace q2 := s29 _ _ q2
      replace h11_0 := Sto.mono s29 h11_0
      replace h26 := A2.mono s29 h26
      replace h27 := A2.mono s29 h27
      replace sF := sF.trans s29
      exact hN22 _ (post_ok hm) _ _ _ w29 s29 (rep_lst q29 h27)
    intro us22 F22 H22 ys22 s22 w22 gg22 hm
    replace q1 := s22 _ _ q1
    replace h2 := A2.mono s22 h2
    replace q2 := s22 _ _ q2
    replace h11_0 := Sto.mono s22 h11_0
    replace sF := sF.trans s22
    obtain ⟨F31, s31, w31, q31⟩ : ∃ F', Same F22 F' ∧ W F' _ ((D5, .lst us5) :: (nz as11_0 vs11_0 ++ os)) ∧ F' D22 = some (.lst us22) := w22.freezeE (pre := [])
    replace q1 := s31 _ _ q1
    replace h2 := A2.mono s31 h2
    replace q2 := s31 _ _ q2
    replace h11_0 := Sto.mono s31 h11_0
    replace gg22 := A2.mono s31 gg22
    replace sF := sF.trans s31
    have w32 : W F31 _ ((nz as11_0 vs11_0 ++ os)) := w31.drop (pre := [])
    have w33 : W F31 _ (os) := w32.dropL (pre := [])
    exact (post_ok hm) _ _ _ w33 sF (rep_lst q31 gg22)
def sp_place_asked (K : Fg) : Sp := fun vs H Q E => ∃ (F : Hp) (os : List (Addr × HO)) (v_web : V) (x_web : (Int × (Tup (Int × Int)))) (x_place : Int), vs = [v_web, .int x_place] ∧ W F H (os) ∧ rep K F v_web x_web ∧ Post (place_asked x_web x_place) (Ret K F os Q) noX
theorem sc_place_asked : FnScope ["web", "place"] ["web", "place"] (defScope s_place_asked) := ⟨rfl, rfl, rfl, by decide +kernel, rfl, by decide +kernel, by decide +kernel⟩
theorem ok_place_asked (T : Tx K mg A FD) : FnOk P w K mg base CX0 1 (A 7) (FD 7) ["web", "place"] (sp_place_asked K) := by
  refine T.d7.fn.ok sc_place_asked (fun vs H Q E h => ?_) (fun cdv Ar outer s H vs Q E hr h => ?_)
  · obtain ⟨F, os, v_web, x_web, x_place, rfl, _⟩ := h
    rfl
  · obtain ⟨F0, os, v_web, x_web, x_place, rfl, w0, r_web, hm⟩ := h
    have sF : Same F0 F0 := Same.refl _
    obtain ⟨a1, u1, z1, rfl, q1, r1a, r1b⟩ := r_web
    obtain rfl : u1 = V.int x_web.1 := r1a
    obtain ⟨a2, vs2, rfl, q2, h2⟩ := r1b
    refine ⟨_, (pss_one (ps_if (pt_not (pt_chain op_le op_lt pe_int (pv 1) (pe_ix (ix_tupK (K := K) rfl) (pv 0) pe_int (fun _ _ => rfl)))) (pss_one ps_absurd) pss_nil)), ?_⟩
    try dsimp only
    refine stepIf ?_
    refine stepNot ?_
    refine cutT (fun c H' => c = ((decide ((0 : Int) ≤ x_place)) && (decide (x_place < x_web.1))) ∧ ∃ F', Same F0 F' ∧ W F' H' (os)) (fun Q3 q3 => ?_) (fun c3 H3 hc3 => ?_)
    · -- the ways
      refine ⟨_, rfl, _, _, rfl, rfl, _, rfl, ?_⟩
      refine ifB (fun k4 => ?_) (fun k4 => ?_)
      · skip
        exact ⟨_, rfl, _, _, _, _, rfl, rfl, SqT.of (w0.same _ _ q1), rfl, _, _, rfl, rfl, _, rfl, q3 _ _ ⟨(by first | rfl | exact absurd k4 (by decide) | (simp [k4]; done) | ((try simp only [Bool.not_eq_true] at k4); simp only [k4, Bool.true_or, Bool.false_or, Bool.or_false, Bool.or_true, Bool.true_and, Bool.false_and, Bool.and_true, Bool.and_false])), _, Same.refl _, w0⟩⟩
      · skip
        exact ⟨_, rfl, q3 _ _ ⟨(by first | rfl | exact absurd k4 (by decide) | (simp [k4]; done) | ((try simp only [Bool.not_eq_true] at k4); simp only [k4, Bool.true_or, Bool.false_or, Bool.or_false, Bool.or_true, Bool.true_and, Bool.false_and, Bool.and_true, Bool.and_false])), _, Same.refl _, w0⟩⟩
    obtain ⟨rfl, F3, s3, w3⟩ := hc3
    replace q1 := s3 _ _ q1
    replace q2 := s3 _ _ q2
    replace h2 := A2.mono s3 h2
    replace sF := sF.trans s3
    refine post_ite hm (fun k7 hm => ?_) (fun k7 hm => ?_)
    · skip
      try dsimp only
      exact hm
    · skip
      exact (post_ok hm) _ _ _ w3 sF rep_n
def sp_neighbours_of (K : Fg) : Sp := fun vs H Q E => ∃ (F : Hp) (os : List (Addr × HO)) (v_web : V) (x_web : (Int × (Tup (Int × Int)))) (x_place : Int), vs = [v_web, .int x_place] ∧ W F H (os) ∧ rep K F v_web x_web ∧ Post (neighbours_of x_web x_place) (Ret K F os Q) noX
theorem sc_neighbours_of : FnScope ["web", "place"] ["web", "place"] (defScope s_neighbours_of) := ⟨rfl, rfl, rfl, by decide +kernel, rfl, by decide +kernel, by decide +kernel⟩
theorem ok_neighbours_of (T : Tx K mg A FD) : FnOk P w K mg base CX0 2 (A 8) (FD 8) ["web", "place"] (sp_neighbours_of K) := by
  refine T.d8.fn.ok sc_neighbours_of (fun vs H Q E h => ?_) (fun cdv Ar outer s H vs Q E hr h => ?_)
  · obtain ⟨F, os, v_web, x_web, x_place, rfl, _⟩ := h
    rfl
  · obtain ⟨F0, os, v_web, x_web, x_place, rfl, w0, r_web, hm⟩ := h
    have sF : Same F0 F0 := Same.refl _
    obtain ⟨a1, u1, z1, rfl, q1, r1a, r1b⟩ := r_web
    obtain rfl : u1 = V.int x_web.1 := r1a
    obtain ⟨a2, vs2, rfl, q2, h2⟩ := r1b
    refine ⟨_, (pss_cons (ps_expr (pe_call (ok_place_asked T) (hr.mono (by decide)) (by rfl) T.d7.mg T.d7.fn.kp T.d7.b .nil pass0 (pa_cons (pv 0) (pa_cons (pv 1) pa_nil)))) (pss_one (ps_ret (pe_ix (ix_listK (K := K) rfl) (pe_call (ok_near_lists T) (hr.mono (by decide)) (by rfl) T.d6.mg T.d6.fn.kp T.d6.b .nil pass0 (pa_cons (pv 0) pa_nil)) (pv 1) (fun _ _ => rfl))))), ?_⟩
    refine ⟨_, rfl, _, rfl, _, _, _, (x_web : (Int × (Tup (Int × Int)))), _, rfl, w0, (rep_pair q1 rep_i (rep_tup q2 h2)), ?_⟩
    refine (post_bind hm).mono (fun y3 hm v3 F3 H3 w3 s3 r3 => ?_) (fun _ z => z)
    replace q1 := s3 _ _ q1
    replace q2 := s3 _ _ q2
    replace h2 := A2.mono s3 h2
    replace sF := sF.trans s3
    obtain rfl : v3 = V.non := r3
    refine ⟨_, rfl, _, _, _, (x_web : (Int × (Tup (Int × Int)))), rfl, w3, (rep_pair q1 rep_i (rep_tup q2 h2)), ?_⟩
    refine (post_bind hm).mono (fun y4 hm v4 F4 H4 w4 s4 r4 => ?_) (fun _ z => z)
    replace q1 := s4 _ _ q1
    replace h2 := A2.mono s4 h2
    replace q2 := s4 _ _ q2
    replace sF := sF.trans s4
    obtain ⟨a5, vs5, rfl, q5, h5⟩ := r4
    obtain ⟨t6, e6, hm⟩ := pb_get hm
    obtain ⟨u6, f6, r6⟩ := A2.at h5 e6
    obtain ⟨a7, vs7, rfl, q7, h7⟩ := r6
    exact ⟨_, rfl, _, _, _, _, rfl, rfl, SqL.of (w4.same _ _ q5), f6, (post_ok hm) _ _ _ w4 sF (rep_lst q7 h7)⟩
def sp_is_tree (K : Fg) : Sp := fun vs H Q E => ∃ (F : Hp) (os : List (Addr × HO)) (v_web : V) (x_web : (Int × (Tup (Int × Int)))), vs = [v_web] ∧ W F H (os) ∧ rep K F v_web x_web ∧ Post (is_tree x_web) (Ret K F os Q) noX
theorem sc_is_tree : FnScope ["web"] ["web"] (defScope s_is_tree) := ⟨rfl, rfl, rfl, by decide +kernel, rfl, by decide +kernel, by decide +kernel⟩
theorem ok_is_tree (T : Tx K mg A FD) : FnOk P w K mg base CX0 1 (A 10) (FD 10) ["web"] (sp_is_tree K) := by
  refine T.d10.fn.ok sc_is_tree (fun vs H Q E h => ?_) (fun cdv Ar outer s H vs Q E hr h => ?_)
  · obtain ⟨F, os, v_web, x_web, rfl, _⟩ := h
    rfl
  · obtain ⟨F0, os, v_web, x_web, rfl, w0, r_web, hm⟩ := h
    have sF : Same F0 F0 := Same.refl _
    obtain ⟨a1, u1, z1, rfl, q1, r1a, r1b⟩ := r_web
    obtain rfl : u1 = V.int x_web.1 := r1a
    obtain ⟨a2, vs2, rfl, q2, h2⟩ := r1b
    refine ⟨_, (pss_one (ps_ret (pe_cmp (pc_eqI (pe_callB (call_lenN (K := K) rfl) (by rfl) T.n_len (by decide +kernel) (pa_cons (pe_ix (ix_tupK (K := K) rfl) (pv 0) pe_int (fun _ _ => rfl)) pa_nil)) (pe_op op_sub (pe_ix (ix_tupK (K := K) rfl) (pv 0) pe_int (fun _ _ => rfl)) pe_int))))), ?_⟩
    exact ⟨_, rfl, _, _, _, _, rfl, rfl, SqT.of (w0.same _ _ q1), rfl, _, _, _, rfl, .inr (SqT.of (w0.same _ _ q2)), h2.length, _, rfl, _, _, _, _, rfl, rfl, SqT.of (w0.same _ _ q1), rfl, _, _, rfl, rfl, _, _, rfl, rfl, (post_ok hm) _ _ _ w0 sF rep_b⟩
def sp_tree_asked (K : Fg) : Sp := fun vs H Q E => ∃ (F : Hp) (os : List (Addr × HO)) (v_web : V) (x_web : (Int × (Tup (Int × Int)))), vs = [v_web] ∧ W F H (os) ∧ rep K F v_web x_web ∧ Post (tree_asked x_web) (Ret K F os Q) noX
theorem sc_tree_asked : FnScope ["web"] ["web"] (defScope s_tree_asked) := ⟨rfl, rfl, rfl, by decide +kernel, rfl, by decide +kernel, by decide +kernel⟩
theorem ok_tree_asked (T : Tx K mg A FD) : FnOk P w K mg base CX0 2 (A 11) (FD 11) ["web"] (sp_tree_asked K) := by
  refine T.d11.fn.ok sc_tree_asked (fun vs H Q E h => ?_) (fun cdv Ar outer s H vs Q E hr h => ?_)
  · obtain ⟨F, os, v_web, x_web, rfl, _⟩ := h
    rfl
  · obtain ⟨F0, os, v_web, x_web, rfl, w0, r_web, hm⟩ := h
    have sF : Same F0 F0 := Same.refl _
    obtain ⟨a1, u1, z1, rfl, q1, r1a, r1b⟩ := r_web
    obtain rfl : u1 = V.int x_web.1 := r1a
    obtain ⟨a2, vs2, rfl, q2, h2⟩ := r1b
    refine ⟨_, (pss_one (ps_if (pt_not (pt_val (pe_call (ok_is_tree T) (hr.mono (by decide)) (by rfl) T.d10.mg T.d10.fn.kp T.d10.b .nil pass0 (pa_cons (pv 0) pa_nil)))) (pss_one ps_absurd) pss_nil)), ?_⟩
    refine ⟨_, rfl, _, _, _, (x_web : (Int × (Tup (Int × Int)))), rfl, w0, (rep_pair q1 rep_i (rep_tup q2 h2)), ?_⟩
    refine (post_bind hm).mono (fun y3 hm v3 F3 H3 w3 s3 r3 => ?_) (fun _ z => z)
    replace q1 := s3 _ _ q1
    replace q2 := s3 _ _ q2
    replace h2 := A2.mono s3 h2
    replace sF := sF.trans s3
    obtain rfl : v3 = V.bl y3 := r3
    refine ⟨_, rfl, ?_⟩
    refine post_ite hm (fun k4 hm => ?_) (fun k4 hm => ?_)
    · skip
      try dsimp only
      exact hm
    · skip
      exact (post_ok hm) _ _ _ w3 sF rep_n
def sp_rising_asked (K : Fg) : Sp := fun vs H Q E => ∃ (F : Hp) (os : List (Addr × HO)) (v_web : V) (x_web : (Int × (Tup (Int × Int)))) (v_looks : V) (x_looks : (List Int)), vs = [v_web, v_looks] ∧ W F H (os) ∧ rep K F v_web x_web ∧ rep K F v_looks x_looks ∧ Post (rising_asked x_web x_looks) (Ret K F os Q) noX
theorem sc_rising_asked : FnScope ["web", "looks", "look"] ["web", "looks"] (defScope s_rising_asked) := ⟨rfl, rfl, rfl, by decide +kernel, rfl, by decide +kernel, by decide +kernel⟩
theorem ok_rising_asked (T : Tx K mg A FD) : FnOk P w K mg base CX0 1 (A 12) (FD 12) ["web", "looks"] (sp_rising_asked K) := by
  refine T.d12.fn.ok sc_rising_asked (fun vs H Q E h => ?_) (fun cdv Ar outer s H vs Q E hr h => ?_)
  · obtain ⟨F, os, v_web, x_web, v_looks, x_looks, rfl, _⟩ := h
    rfl
  · obtain ⟨F0, os, v_web, x_web, v_looks, x_looks, rfl, w0, r_web, r_looks, hm⟩ := h
    have sF : Same F0 F0 := Same.refl _
    obtain ⟨a1, u1, z1, rfl, q1, r1a, r1b⟩ := r_web
    obtain rfl : u1 = V.int x_web.1 := r1a
    obtain ⟨a2, vs2, rfl, q2, h2⟩ := r1b
    obtain ⟨a3, vs3, rfl, q3, h3⟩ := r_looks
    refine ⟨_, (pss_one (ps_if (PW.pt (pw_or (pt_cmpR (op_neDt (K := K) rfl (List Int) (by decide) hr.units) (pv 1) (pe_callB (cr_sortSet (w := w) rfl rfl) (by rfl) T.n_sorted (by decide +kernel) (pa_cons (pe_callTy (cr_setLI (K := K) (w := w) rfl rfl rfl) (by rfl) T.n_set (by decide +kernel) (pa_cons (pv 1) pa_nil)) pa_nil)) (nomark _)) (pw_or1 (pt_not (pt_val (pe_callB (cr_allK (K := K) rfl rfl) (by rfl) T.n_all (by decide +kernel) (pa_cons (pe_lc (own := [("look", 2)]) (g := gName 2) (by rfl) sc_rising_asked.nd (pi_listK (K := K) rfl (pv 1)) (blkOk_by (own := [("look", 2)]) (N := ["web", "looks", "look"]) (sc := defScope s_rising_asked) (by decide +kernel)) (fun _ _ _ _ _ => (pg_name (i := 2) sc_rising_asked.nd rfl (Or.inl rfl))) (fun _ _ _ _ _ => pts_nil) (fun _ _ _ _ _ => (pe_chain op_le op_lt pe_int (pv 2) (pe_ix (ix_tupK (K := K) rfl) (pv 0) pe_int (fun _ _ => rfl))))) pa_nil))))))) (pss_one ps_absurd) pss_nil)), ?_⟩
    try dsimp only
    refine stepIf ?_
    refine joinT hm (fun (j4 : Bool) c H' => c = j4 ∧ ∃ (F' : Hp), Same F0 F' ∧ W F' H' (os)) ?_ ?_
    · intro Q4 P4 q4 hm
      obtain ⟨l5, c5, e5, hm⟩ := pb_ss hm
      refine ⟨_, rfl, _, rfl, _, _, rfl, ints_q (SqL.of (w0.same _ _ q3)) h3, c5.1, fun p5 n5 => ?_⟩
      obtain ⟨F5, s5, w5, q5⟩ := w0.frzE (o := SetO w p5 (fun j => decide (j ∈ x_looks)) (nub x_looks).length) n5
      replace q1 := s5 _ _ q1
      replace q2 := s5 _ _ q2
      replace h2 := A2.mono s5 h2
      replace q3 := s5 _ _ q3
      replace h3 := A2.mono s5 h3
      replace sF := sF.trans s5
      refine ⟨_, _, _, rfl, w5.same _ _ q5, c5.2, fun ns6 p6 u6 i6 j6 n6 => ?_⟩
      obtain rfl : ns6 = l5 := (ssI_uniq u6 i6).trans e5.symm
      have h6 : A2 (rep K F5) (ns6.map V.int) ns6 := A2.of_ints
      have w6 : W F5 _ ((p6, .lst (ns6.map V.int)) :: os) := w5.new n6
      refine ⟨(x_looks : (List Int)), (ns6 : (List Int)), (Rep.mono w6.same (rep_lst q3 h3)), (rep_own (pre := []) w6 h6), _, rfl, ?_⟩
      refine post_ite hm (fun k7 hm => ?_) (fun k7 hm => ?_)
      · skip
        have w9 : W F5 _ (os) := w6.drop (pre := [])
        exact q4 _ (post_ok hm) _ _ ⟨rfl, _, s5, w9⟩
      · skip
        refine ⟨_, rfl, _, rfl, ⟨_, SqL.of (w6.same _ _ q3)⟩, fun D10 nD10 => ?_⟩
        refine lcM (K := K) (tw_list (a := a3) h3) hm w6 nD10 (fun F' H' acc s w => SqL.of (w.same _ _ (s _ _ q3))) ?_ ?_
        · -- one turn
          intro b10 x10 F10 H10 H10' acc10 N10 P10 s10 w10 y10 hN10 hm
          replace q1 := s10 _ _ q1
          replace q2 := s10 _ _ q2
          replace h2 := A2.mono s10 h2
          replace q3 := s10 _ _ q3
          replace h3 := A2.mono s10 h3
          replace h6 := A2.mono s10 h6
          replace sF := sF.trans s10
          obtain ⟨rfl, r12⟩ := y10
          obtain rfl : x10 = V.int b10 := r12
          refine ⟨rfl, ?_⟩
          refine cutE (fun c H' => c = V.bl ((decide ((0 : Int) ≤ b10)) && (decide (b10 < x_web.1))) ∧ ∃ F', Same F10 F' ∧ W F' H' ((D10, .lst acc10) :: (p6, .lst (ns6.map V.int)) :: os)) (fun Q13 q13 => ?_) (fun c13 H13 hc13 => ?_)
          · -- the ways
            refine ⟨_, rfl, _, _, rfl, rfl, _, rfl, ?_⟩
            refine ifB (fun k14 => ?_) (fun k14 => ?_)
            · skip
              exact ⟨_, rfl, _, _, _, _, rfl, rfl, SqT.of (w10.same _ _ q1), rfl, _, _, rfl, rfl, q13 _ _ ⟨(by first | rfl | exact absurd k14 (by decide) | (simp [k14]; done) | ((try simp only [Bool.not_eq_true] at k14); simp only [k14, Bool.true_or, Bool.false_or, Bool.or_false, Bool.or_true, Bool.true_and, Bool.false_and, Bool.and_true, Bool.and_false])), _, Same.refl _, w10⟩⟩
            · skip
              exact q13 _ _ ⟨(by first | rfl | exact absurd k14 (by decide) | (simp [k14]; done) | ((try simp only [Bool.not_eq_true] at k14); simp only [k14, Bool.true_or, Bool.false_or, Bool.or_false, Bool.or_true, Bool.true_and, Bool.false_and, Bool.and_true, Bool.and_false])), _, Same.refl _, w10⟩
          obtain ⟨rfl, F13, s13, w13⟩ := hc13
          replace q1 := s13 _ _ q1
          replace q2 := s13 _ _ q2
          replace h2 := A2.mono s13 h2
          replace q3 := s13 _ _ q3
          replace h3 := A2.mono s13 h3
          replace h6 := A2.mono s13 h6
          replace sF := sF.trans s13
          exact hN10 _ (post_ok hm) _ _ _ w13 s13 rep_b
        intro us10 F10 H10 ys10 s10 w10 gg10 hm
        replace q1 := s10 _ _ q1
        replace q2 := s10 _ _ q2
        replace h2 := A2.mono s10 h2
        replace q3 := s10 _ _ q3
        replace h3 := A2.mono s10 h3
        replace h6 := A2.mono s10 h6
        replace sF := sF.trans s10
        have w19 : W F10 _ ((p6, .lst (ns6.map V.int)) :: os) := w10.drop (pre := [])
        have w20 : W F10 _ (os) := w19.drop (pre := [])
        exact ⟨_, _, rfl, bools_q (SqL.of (w10.get (pre := []))) gg10, _, rfl, q4 _ (post_ok hm) _ _ ⟨rfl, _, (s5.trans s10), w20⟩⟩
    intro j4 c4 H4 hc4 hm
    obtain ⟨rfl, F4, s4, w4⟩ := hc4
    replace q1 := s4 _ _ q1
    replace q2 := s4 _ _ q2
    replace h2 := A2.mono s4 h2
    replace q3 := s4 _ _ q3
    replace h3 := A2.mono s4 h3
    replace sF := sF.trans s4
    refine post_ite hm (fun k21 hm => ?_) (fun k21 hm => ?_)
    · skip
      try dsimp only
      exact hm
    · skip
      exact (post_ok hm) _ _ _ w4 sF rep_n
def sp_all_near (K : Fg) : Sp := fun vs H Q E => ∃ (F : Hp) (os : List (Addr × HO)) (v_web : V) (x_web : (Int × (Tup (Int × Int)))), vs = [v_web] ∧ W F H (os) ∧ rep K F v_web x_web ∧ Post (all_near x_web) (Ret K F os Q) noX
theorem sc_all_near : FnScope ["web", "place"] ["web"] (defScope s_all_near) := ⟨rfl, rfl, rfl, by decide +kernel, rfl, by decide +kernel, by decide +kernel⟩
theorem ok_all_near (T : Tx K mg A FD) : FnOk P w K mg base CX0 3 (A 13) (FD 13) ["web"] (sp_all_near K) := by
  refine T.d13.fn.ok sc_all_near (fun vs H Q E h => ?_) (fun cdv Ar outer s H vs Q E hr h => ?_)
  · obtain ⟨F, os, v_web, x_web, rfl, _⟩ := h
    rfl
  · obtain ⟨F0, os, v_web, x_web, rfl, w0, r_web, hm⟩ := h
    have sF : Same F0 F0 := Same.refl _
    obtain ⟨a1, u1, z1, rfl, q1, r1a, r1b⟩ := r_web
    obtain rfl : u1 = V.int x_web.1 := r1a
    obtain ⟨a2, vs2, rfl, q2, h2⟩ := r1b
    refine ⟨_, (pss_one (ps_ret (pe_lc (own := [("place", 1)]) (g := gName 1) (by rfl) sc_all_near.nd (pi_range1 (by rfl) T.n_range (pa_cons (pe_ix (ix_tupK (K := K) rfl) (pv 0) pe_int (fun _ _ => rfl)) pa_nil)) (blkOk_by (own := [("place", 1)]) (N := ["web", "place"]) (sc := defScope s_all_near) (by decide +kernel)) (fun _ _ _ _ _ => (pg_name (i := 1) sc_all_near.nd rfl (Or.inl rfl))) (fun _ _ _ _ _ => pts_nil) (fun _ _ _ _ _ => (pe_call (ok_neighbours_of T) (hr.mono (by decide)) (by rfl) T.d8.mg T.d8.fn.kp T.d8.b .nil pass0 (pa_cons (pv 0) (pa_cons (pv 1) pa_nil))))))), ?_⟩
    obtain ⟨c3, hm⟩ := pb_rng hm
    refine ⟨_, rfl, _, _, _, _, rfl, rfl, SqT.of (w0.same _ _ q1), rfl, _, rfl, c3.2.2.1, c3.2.2.2, fun D4 nD4 => ?_⟩
    refine lcM (K := K) (tw_rng0 (j := x_web.1)) hm w0 nD4 (fun F' H' acc s w => trivial) ?_ ?_
    · -- one turn
      intro b4 x4 F4 H4 H4' acc4 N4 P4 s4 w4 y4 hN4 hm
      replace q1 := s4 _ _ q1
      replace q2 := s4 _ _ q2
      replace h2 := A2.mono s4 h2
      replace sF := sF.trans s4
      obtain ⟨rfl, rfl⟩ := y4
      refine ⟨rfl, _, rfl, _, rfl, _, _, _, (x_web : (Int × (Tup (Int × Int)))), _, rfl, w4, (rep_pair q1 rep_i (rep_tup q2 h2)), ?_⟩
      refine (post_bind hm).mono (fun y6 hm v6 F6 H6 w6 s6 r6 => ?_) (fun _ z => z)
      replace q1 := s6 _ _ q1
      replace q2 := s6 _ _ q2
      replace h2 := A2.mono s6 h2
      replace sF := sF.trans s6
      obtain ⟨a7, vs7, rfl, q7, h7⟩ := r6
      exact hN4 _ (post_ok hm) _ _ _ w6 s6 (rep_lst q7 h7)
    intro us4 F4 H4 ys4 s4 w4 gg4 hm
    replace q1 := s4 _ _ q1
    replace q2 := s4 _ _ q2
    replace h2 := A2.mono s4 h2
    replace sF := sF.trans s4
    obtain ⟨F9, s9, w9, q9⟩ : ∃ F', Same F4 F' ∧ W F' _ (os) ∧ F' D4 = some (.lst us4) := w4.freezeE (pre := [])
    replace q1 := s9 _ _ q1
    replace q2 := s9 _ _ q2
    replace h2 := A2.mono s9 h2
    replace gg4 := A2.mono s9 gg4
    replace sF := sF.trans s9
    exact (post_ok hm) _ _ _ w9 sF (rep_lst q9 gg4)
def sp_piece_from (K : Fg) : Sp := fun vs H Q E => ∃ (F : Hp) (os : List (Addr × HO)) (v_near : V) (x_near : (List (List Int))) (x_place : Int) (x_start : Int), vs = [v_near, .int x_place, .int x_start] ∧ W F H (os) ∧ rep K F v_near x_near ∧ Post (piece_from x_near x_place x_start) (RetL K F os Q) noX
theorem sc_piece_from : FnScope ["near", "place", "start", "found", "line", "at", "other"] ["near", "place", "start"] (defScope s_piece_from) := ⟨rfl, rfl, rfl, by decide +kernel, rfl, by decide +kernel, by decide +kernel⟩
theorem ok_piece_from (T : Tx K mg A FD) : FnOk P w K mg base CX0 1 (A 14) (FD 14) ["near", "place", "start"] (sp_piece_from K) := by
  refine T.d14.fn.ok sc_piece_from (fun vs H Q E h => ?_) (fun cdv Ar outer s H vs Q E hr h => ?_)
  · obtain ⟨F, os, v_near, x_near, x_place, x_start, rfl, _⟩ := h
    rfl
  · obtain ⟨F0, os, v_near, x_near, x_place, x_start, rfl, w0, r_near, hm⟩ := h
    have sF : Same F0 F0 := Same.refl _
    obtain ⟨a1, vs1, rfl, q1, h1⟩ := r_near
    refine ⟨_, (pss_cons (ps_set (i := 3) sc_piece_from.nd rfl (Or.inl rfl) (pe_disp (pps_cons (pv 1) pe_bl (pps_cons (pv 2) pe_bl pps_nil)) rfl rfl (by simp) (by simp))) (pss_cons (ps_set (i := 4) sc_piece_from.nd rfl (Or.inl rfl) (pe_lst (pa_cons (pv 2) pa_nil))) (pss_cons (ps_set (i := 5) sc_piece_from.nd rfl (Or.inl rfl) pe_int1) (pss_cons (ps_while PassesOwn.never (pt_cmp (pc_lt (pv 5) (pe_callB (call_lenN (K := K) rfl) (by rfl) T.n_len (by decide +kernel) (pa_cons (pv 4) pa_nil)))) (pss_cons (ps_for PassesOwn.never rfl (pi_listK (K := K) rfl (pe_ix (ix_listK (K := K) rfl) (pv 0) (pe_ix (ix_listK (K := K) rfl) (pv 4) (pv 5) (fun _ _ => rfl)) (fun _ _ => rfl))) (pg_name (i := 6) sc_piece_from.nd rfl (Or.inl rfl)) (pss_one (ps_if (pt_cmp (pc_dnotinH (Room.units1 hr) (pv 6) (pv 3))) (pss_cons (ps_dput (Room.units1 hr) (pv 3) (pv 6) pe_bl (by rfl)) (pss_one (ps_expr (pe_bm PySem.F.plainAttrs_list PySem.F.slot_list_append PySem.F.type_list_append mt_append (pv 4) (pa_cons (pv 6) pa_nil))))) pss_nil))) (pss_one (ps_set (i := 5) sc_piece_from.nd rfl (Or.inl rfl) (pe_op op_add (pv 5) pe_int))))) (pss_one (ps_ret (pe_callB (cr_sortI (K := K) rfl) (by rfl) T.n_sorted (by decide +kernel) (pa_cons (pv 4) pa_nil)))))))), ?_⟩
    refine fun p2 n2 => ?_
    have w2 : W F0 _ ((p2, .dK []) :: os) := w0.new n2
    refine ⟨_, rfl, _, rfl, (w2.get (pre := [])), encM kI V.bl ([(x_place, true), (x_start, true)] : List (Int × Bool)), rfl, (by show 2 ≤ 15; decide), ?_⟩
    have w3 : W F0 _ ((p2, .dK (mergeK [] (encM kI V.bl ([(x_place, true), (x_start, true)] : List (Int × Bool))))) :: os) := w2.set (pre := [])
    have h2 : (mergeK [] (encM kI V.bl ([(x_place, true), (x_start, true)] : List (Int × Bool)))) = encM kI V.bl (mmk ([(x_place, true), (x_start, true)] : List (Int × Bool))) := merge_enc _ []
    have h4 : A2 (rep K F0) [(.int x_start)] ([x_start] : (List Int)) := .cons rep_i (.nil)
    refine ⟨_, rfl, (by show 1 ≤ sizeLine; decide), fun p5 n5 => ?_⟩
    have w5 : W F0 _ ((p5, .lst [(.int x_start)]) :: (p2, .dK (mergeK [] (encM kI V.bl ([(x_place, true), (x_start, true)] : List (Int × Bool))))) :: os) := w3.new n5
    refine ⟨trivial, ?_⟩
    refine stepN ?_
    try dsimp only
    refine stepSeq (whileS hm (fun (g6 : Int × (List Int) × (List (Int × Bool))) σ H' => ∃ (F' : Hp) (vs6_0 : List V) (vs6_1 : List (Key × V)) (o6_6 : Option V), σ = [some (.ref a1), some (.int x_place), some (.int x_start), some (.ref p2), some (.ref p5), some (.int g6.1), o6_6] ∧ Same F0 F' ∧ W F' H' ((p5, .lst vs6_0) :: (p2, .dK vs6_1) :: os) ∧ A2 (rep K F') vs6_0 g6.2.1 ∧ vs6_1 = encM kI V.bl g6.2.2) ⟨_, _, _, _, rfl, Same.refl _, w5, h4, h2⟩ ?_ ?_ ?_)
    · intro g6 σ6 H6 N6 P6 hI hN6 hm
      obtain ⟨F6, vs6_0, vs6_1, o6_6, rfl, s6, w6, h6_0, h6_1⟩ := hI
      replace h1 := A2.mono s6 h1
      replace q1 := s6 _ _ q1
      replace sF := sF.trans s6
      exact ⟨_, rfl, _, rfl, _, _, _, rfl, .inl (SqL.of (w6.get (pre := []))), h6_0.length, _, _, rfl, rfl, _, rfl, hN6 _ (post_ok hm) _ ⟨_, _, _, _, rfl, s6, w6, h6_0, h6_1⟩⟩
    · intro g6 σ6 H6 N6 P6 hI hN6 hm
      obtain ⟨F6, vs6_0, vs6_1, o6_6, rfl, s6, w6, h6_0, h6_1⟩ := hI
      replace h1 := A2.mono s6 h1
      replace q1 := s6 _ _ q1
      replace sF := sF.trans s6
      obtain ⟨t8, e8, hm⟩ := pb_get hm
      obtain ⟨u8, f8, r8⟩ := A2.at h6_0 e8
      obtain rfl : u8 = V.int t8 := r8
      obtain ⟨t9, e9, hm⟩ := pb_get hm
      obtain ⟨u9, f9, r9⟩ := A2.at h1 e9
      obtain ⟨a10, vs10, rfl, q10, h10⟩ := r9
      refine ⟨_, rfl, _, rfl, _, rfl, _, _, _, _, rfl, rfl, SqL.of (w6.get (pre := [])), f8, _, _, _, _, rfl, rfl, SqL.of (w6.same _ _ q1), f9, _, rfl, ⟨_, SqL.of (w6.same _ _ q10)⟩, ?_⟩
      refine forS (tw_list (a := a10) h10) hm (fun (g7 : (List Int) × (List (Int × Bool))) σ H' => ∃ (F' : Hp) (vs7_0 : List V) (vs7_1 : List (Key × V)) (o7_6 : Option V), σ = [some (.ref a1), some (.int x_place), some (.int x_start), some (.ref p2), some (.ref p5), some (.int g6.1), o7_6] ∧ Same F6 F' ∧ W F' H' ((p5, .lst vs7_0) :: (p2, .dK vs7_1) :: os) ∧ A2 (rep K F') vs7_0 g7.1 ∧ vs7_1 = encM kI V.bl g7.2) ⟨_, _, _, _, rfl, Same.refl _, w6, h6_0, h6_1⟩ (fun g σ H' hI => by obtain ⟨F', _, _, _, _, s, w, _⟩ := hI; exact SqL.of (w.same _ _ (s _ _ q10))) ?_ ?_
      · -- a turn
        intro b7 g7 x7 σ7 H7 H7' N7 P7 hI hy hN7 hm
        obtain ⟨F7, vs7_0, vs7_1, o7_6, rfl, s7, w7, h7_0, h7_1⟩ := hI
        replace h1 := A2.mono s7 h1
        replace q1 := s7 _ _ q1
        replace q10 := s7 _ _ q10
        replace h10 := A2.mono s7 h10
        replace sF := sF.trans s7
        obtain ⟨rfl, r11⟩ := hy
        obtain rfl : x7 = V.int b7 := r11
        refine ⟨_, rfl, _, rfl, _, _, _, rfl, dget_k (ev := V.bl) (m := g7.2) (k := b7) ((w7.get (pre := [_])).trans (congrArg (fun z => some (HO.dK z)) h7_1)), get_has _ _ _, _, rfl, ?_⟩
        refine post_ite hm (fun k12 hm => ?_) (fun k12 hm => ?_)
        · skip
          obtain ⟨l13, z13, e13, hm⟩ := pn_mput hm
          refine ⟨_, rfl, _, rfl, _, _, rfl, dput_k (ev := V.bl) (m := g7.2) (k := b7) (v := true) ((w7.get (pre := [_])).trans (congrArg (fun z => some (HO.dK z)) h7_1)) z13, ?_⟩
          have h13 : (encM kI V.bl (mput g7.2 b7 true)) = encM kI V.bl l13 := by rw [e13]
          have w14 : W F7 _ ((p5, .lst vs7_0) :: (p2, .dK (encM kI V.bl (mput g7.2 b7 true))) :: os) := w7.set (pre := [_])
          obtain ⟨l15, z15, e15, hm⟩ := pn_app hm
          refine ⟨_, rfl, .inl ⟨rfl, _, SqL.of (w14.get (pre := []))⟩, _, rfl, _, _, _, rfl, rfl, (w14.get (pre := [])), (A2.lt h7_0 z15), ?_⟩
          have h15 : A2 (rep K F7) (vs7_0 ++ [(V.int b7)]) l15 := e15 ▸ A2.snoc h7_0 rep_i
          have w16 : W F7 _ ((p5, .lst (vs7_0 ++ [(V.int b7)])) :: (p2, .dK (encM kI V.bl (mput g7.2 b7 true))) :: os) := w14.set (pre := [])
          exact hN7 _ (post_ok hm) _ _ ⟨_, _, _, _, rfl, s7, w16, h15, h13⟩
        · skip
          exact hN7 _ (post_ok hm) _ _ ⟨_, _, _, _, rfl, s7, w7, h7_0, h7_1⟩
      intro g7 σ7 H7 hI hm
      obtain ⟨F7, vs7_0, vs7_1, o7_6, rfl, s7, w7, h7_0, h7_1⟩ := hI
      replace h1 := A2.mono s7 h1
      replace q1 := s7 _ _ q1
      replace q10 := s7 _ _ q10
      replace h10 := A2.mono s7 h10
      replace sF := sF.trans s7
      exact ⟨_, rfl, _, _, rfl, rfl, hN6 _ (post_ok hm) _ _ ⟨_, _, _, _, rfl, (s6.trans s7), w7, h7_0, h7_1⟩⟩
    intro g6 σ6 H6 hI hm
    obtain ⟨F6, vs6_0, vs6_1, o6_6, rfl, s6, w6, h6_0, h6_1⟩ := hI
    replace h1 := A2.mono s6 h1
    replace q1 := s6 _ _ q1
    replace sF := sF.trans s6
    have h17 : A2 (rep K F6) ((sortI g6.2.1).map V.int) (sortI g6.2.1) := A2.of_ints
    refine ⟨_, rfl, _, _, rfl, ints_q (SqL.of (w6.get (pre := []))) h6_0, fun p18 n18 => ?_⟩
    have w18 : W F6 _ ((p18, .lst ((sortI g6.2.1).map V.int)) :: (p5, .lst vs6_0) :: (p2, .dK vs6_1) :: os) := w6.new n18
    have w19 : W F6 _ ((p18, .lst ((sortI g6.2.1).map V.int)) :: (p2, .dK vs6_1) :: os) := w18.drop (pre := [_])
    have w20 : W F6 _ ((p18, .lst ((sortI g6.2.1).map V.int)) :: os) := w19.drop (pre := [_])
    exact (post_ok hm) _ _ _ _ w20 sF h17
def sp_pieces_by (K : Fg) : Sp := fun vs H Q E => ∃ (F : Hp) (os : List (Addr × HO)) (v_near : V) (x_near : (List (List Int))) (x_place : Int), vs = [v_near, .int x_place] ∧ W F H (os) ∧ rep K F v_near x_near ∧ Post (pieces_by x_near x_place) (Ret K F os Q) noX
theorem sc_pieces_by : FnScope ["near", "place", "start"] ["near", "place"] (defScope s_pieces_by) := ⟨rfl, rfl, rfl, by decide +kernel, rfl, by decide +kernel, by decide +kernel⟩
theorem ok_pieces_by (T : Tx K mg A FD) : FnOk P w K mg base CX0 2 (A 15) (FD 15) ["near", "place"] (sp_pieces_by K) := by
  refine T.d15.fn.ok sc_pieces_by (fun vs H Q E h => ?_) (fun cdv Ar outer s H vs Q E hr h => ?_)
  · obtain ⟨F, os, v_near, x_near, x_place, rfl, _⟩ := h
    rfl
  · obtain ⟨F0, os, v_near, x_near, x_place, rfl, w0, r_near, hm⟩ := h
    have sF : Same F0 F0 := Same.refl _
    obtain ⟨a1, vs1, rfl, q1, h1⟩ := r_near
    refine ⟨_, (pss_one (ps_ret (pe_lc (own := [("start", 2)]) (g := gName 2) (by rfl) sc_pieces_by.nd (pi_listK (K := K) rfl (pe_ix (ix_listK (K := K) rfl) (pv 0) (pv 1) (fun _ _ => rfl))) (blkOk_by (own := [("start", 2)]) (N := ["near", "place", "start"]) (sc := defScope s_pieces_by) (by decide +kernel)) (fun _ _ _ _ _ => (pg_name (i := 2) sc_pieces_by.nd rfl (Or.inl rfl))) (fun _ _ _ _ _ => pts_nil) (fun _ _ _ _ _ => (pe_call (ok_piece_from T) (hr.mono (by decide)) (by rfl) T.d14.mg T.d14.fn.kp T.d14.b .nil pass0 (pa_cons (pv 0) (pa_cons (pv 1) (pa_cons (pv 2) pa_nil)))))))), ?_⟩
    obtain ⟨t2, e2, hm⟩ := pb_get hm
    obtain ⟨u2, f2, r2⟩ := A2.at h1 e2
    obtain ⟨a3, vs3, rfl, q3, h3⟩ := r2
    refine ⟨_, rfl, _, rfl, _, _, _, _, rfl, rfl, SqL.of (w0.same _ _ q1), f2, _, rfl, ⟨_, SqL.of (w0.same _ _ q3)⟩, fun D4 nD4 => ?_⟩
    refine lcM (K := K) (tw_list (a := a3) h3) hm w0 nD4 (fun F' H' acc s w => SqL.of (w.same _ _ (s _ _ q3))) ?_ ?_
    · -- one turn
      intro b4 x4 F4 H4 H4' acc4 N4 P4 s4 w4 y4 hN4 hm
      replace q1 := s4 _ _ q1
      replace h1 := A2.mono s4 h1
      replace q3 := s4 _ _ q3
      replace h3 := A2.mono s4 h3
      replace sF := sF.trans s4
      obtain ⟨rfl, r6⟩ := y4
      obtain rfl : x4 = V.int b4 := r6
      refine ⟨rfl, _, rfl, _, rfl, _, rfl, _, _, _, (x_near : (List (List Int))), _, _, rfl, w4, (rep_lst q1 h1), ?_⟩
      refine (post_bind hm).mono (fun y7 hm p7 us7 F7 H7 w7 s7 g7 => ?_) (fun _ z => z)
      replace q1 := s7 _ _ q1
      replace h1 := A2.mono s7 h1
      replace q3 := s7 _ _ q3
      replace h3 := A2.mono s7 h3
      replace sF := sF.trans s7
      obtain ⟨F9, s9, w9, q9⟩ : ∃ F', Same F7 F' ∧ W F' _ ((D4, .lst acc4) :: os) ∧ F' p7 = some (.lst us7) := w7.freezeE (pre := [])
      replace q1 := s9 _ _ q1
      replace h1 := A2.mono s9 h1
      replace q3 := s9 _ _ q3
      replace h3 := A2.mono s9 h3
      replace g7 := A2.mono s9 g7
      replace sF := sF.trans s9
      exact hN4 _ (post_ok hm) _ _ _ w9 (s7.trans s9) (rep_lst q9 g7)
    intro us4 F4 H4 ys4 s4 w4 gg4 hm
    replace q1 := s4 _ _ q1
    replace h1 := A2.mono s4 h1
    replace q3 := s4 _ _ q3
    replace h3 := A2.mono s4 h3
    replace sF := sF.trans s4
    obtain ⟨F11, s11, w11, q11⟩ : ∃ F', Same F4 F' ∧ W F' _ (os) ∧ F' D4 = some (.lst us4) := w4.freezeE (pre := [])
    replace q1 := s11 _ _ q1
    replace h1 := A2.mono s11 h1
    replace q3 := s11 _ _ q3
    replace h3 := A2.mono s11 h3
    replace gg4 := A2.mono s11 gg4
    replace sF := sF.trans s11
    exact (post_ok hm) _ _ _ w11 sF (rep_lst q11 gg4)
def sp_looks_in (K : Fg) : Sp := fun vs H Q E => ∃ (F : Hp) (os : List (Addr × HO)) (v_near : V) (x_near : (List (List Int))) (x_place : Int) (v_looks : V) (x_looks : (List Int)), vs = [v_near, .int x_place, v_looks] ∧ W F H (os) ∧ rep K F v_near x_near ∧ rep K F v_looks x_looks ∧ Post (looks_in x_near x_place x_looks) (Ret K F os Q) noX
theorem sc_looks_in : FnScope ["near", "place", "looks", "piece", "look"] ["near", "place", "looks"] (defScope s_looks_in) := ⟨rfl, rfl, rfl, by decide +kernel, rfl, by decide +kernel, by decide +kernel⟩
theorem ok_looks_in (T : Tx K mg A FD) : FnOk P w K mg base CX0 3 (A 16) (FD 16) ["near", "place", "looks"] (sp_looks_in K) := by
  refine T.d16.fn.ok sc_looks_in (fun vs H Q E h => ?_) (fun cdv Ar outer s H vs Q E hr h => ?_)
  · obtain ⟨F, os, v_near, x_near, x_place, v_looks, x_looks, rfl, _⟩ := h
    rfl
  · obtain ⟨F0, os, v_near, x_near, x_place, v_looks, x_looks, rfl, w0, r_near, r_looks, hm⟩ := h
    have sF : Same F0 F0 := Same.refl _
    obtain ⟨a1, vs1, rfl, q1, h1⟩ := r_near
    obtain ⟨a2, vs2, rfl, q2, h2⟩ := r_looks
    refine ⟨_, (pss_one (ps_ret (pe_lc (own := [("piece", 3)]) (g := gName 3) (by rfl) sc_looks_in.nd (pi_listK (K := K) rfl (pe_call (ok_pieces_by T) (hr.mono (by decide)) (by rfl) T.d15.mg T.d15.fn.kp T.d15.b .nil pass0 (pa_cons (pv 0) (pa_cons (pv 1) pa_nil)))) (blkOk_by (own := [("piece", 3)]) (N := ["near", "place", "looks", "piece", "look"]) (sc := defScope s_looks_in) (by decide +kernel)) (fun _ _ _ _ _ => (pg_name (i := 3) sc_looks_in.nd rfl (Or.inr rfl))) (fun _ _ _ _ _ => pts_nil) (fun _ _ _ _ _ => (pe_callB (call_lenN (K := K) rfl) (by rfl) T.n_len (by decide +kernel) (pa_cons (pe_lc (own := [("look", 4)]) (g := gName 4) (by rfl) sc_looks_in.nd (pi_listK (K := K) rfl (pv 2)) (blkOk_by (own := [("look", 4)]) (N := ["near", "place", "looks", "piece", "look"]) (sc := _) (by kernel_rfl)) (fun _ _ _ _ _ => (pg_name (i := 4) sc_looks_in.nd rfl (Or.inl rfl))) (fun _ _ _ _ _ => (pts_one (pt_cmpR (op_inL (K := K) rfl Int (by decide) (Room.units65 hr)) (pv 4) (pv 3) (by rfl)))) (fun _ _ _ _ _ => (pv 4))) pa_nil)))))), ?_⟩
    refine ⟨_, rfl, _, rfl, _, _, _, (x_near : (List (List Int))), _, rfl, w0, (rep_lst q1 h1), ?_⟩
    refine (post_bind hm).mono (fun y3 hm v3 F3 H3 w3 s3 r3 => ?_) (fun _ z => z)
    replace q1 := s3 _ _ q1
    replace h1 := A2.mono s3 h1
    replace q2 := s3 _ _ q2
    replace h2 := A2.mono s3 h2
    replace sF := sF.trans s3
    obtain ⟨a4, vs4, rfl, q4, h4⟩ := r3
    refine ⟨_, rfl, ⟨_, SqL.of (w3.same _ _ q4)⟩, fun D5 nD5 => ?_⟩
    refine lcM (K := K) (tw_list (a := a4) h4) hm w3 nD5 (fun F' H' acc s w => SqL.of (w.same _ _ (s _ _ q4))) ?_ ?_
    · -- one turn
      intro b5 x5 F5 H5 H5' acc5 N5 P5 s5 w5 y5 hN5 hm
      replace q1 := s5 _ _ q1
      replace h1 := A2.mono s5 h1
      replace q2 := s5 _ _ q2
      replace h2 := A2.mono s5 h2
      replace q4 := s5 _ _ q4
      replace h4 := A2.mono s5 h4
      replace sF := sF.trans s5
      obtain ⟨rfl, r7⟩ := y5
      replace r7 := Rep.mono s5 r7
      obtain ⟨a8, vs8, rfl, q8, h8⟩ := r7
      refine ⟨rfl, _, rfl, _, rfl, ⟨_, SqL.of (w5.same _ _ q2)⟩, fun D9 nD9 => ?_⟩
      refine lcF (K := K) (tw_list (a := a2) h2) hm w5 nD9 (fun F' H' acc s w => SqL.of (w.same _ _ (s _ _ q2))) ?_ ?_
      · -- one turn
        intro b9 x9 F9 H9 H9' acc9 N9 M9 P9 s9 w9 y9 hN9 hM9 hm
        replace q1 := s9 _ _ q1
        replace h1 := A2.mono s9 h1
        replace q2 := s9 _ _ q2
        replace h2 := A2.mono s9 h2
        replace q4 := s9 _ _ q4
        replace h4 := A2.mono s9 h4
        replace q8 := s9 _ _ q8
        replace h8 := A2.mono s9 h8
        replace sF := sF.trans s9
        obtain ⟨rfl, r11⟩ := y9
        obtain rfl : x9 = V.int b9 := r11
        refine ⟨rfl, _, rfl, _, rfl, (b9 : Int), _, rep_i, (Rep.mono w9.same (rep_lst q8 h8)), _, rfl, ?_⟩
        refine post_ite hm (fun k12 hm => ?_) (fun k12 hm => ?_)
        · skip
          exact ⟨_, rfl, hN9 _ (post_ok hm) _ _ _ w9 (Same.refl _) rep_i⟩
        · skip
          exact hM9 (post_ok hm) _ _ w9 (Same.refl _)
      intro us9 F9 H9 ys9 s9 w9 gg9 hm
      replace q1 := s9 _ _ q1
      replace h1 := A2.mono s9 h1
      replace q2 := s9 _ _ q2
      replace h2 := A2.mono s9 h2
      replace q4 := s9 _ _ q4
      replace h4 := A2.mono s9 h4
      replace q8 := s9 _ _ q8
      replace h8 := A2.mono s9 h8
      replace sF := sF.trans s9
      have w14 : W F9 _ ((D5, .lst acc5) :: os) := w9.drop (pre := [])
      exact ⟨_, _, _, rfl, .inl (SqL.of (w9.get (pre := []))), gg9.length, hN5 _ (post_ok hm) _ _ _ w14 s9 rep_i⟩
    intro us5 F5 H5 ys5 s5 w5 gg5 hm
    replace q1 := s5 _ _ q1
    replace h1 := A2.mono s5 h1
    replace q2 := s5 _ _ q2
    replace h2 := A2.mono s5 h2
    replace q4 := s5 _ _ q4
    replace h4 := A2.mono s5 h4
    replace sF := sF.trans s5
    obtain ⟨F16, s16, w16, q16⟩ : ∃ F', Same F5 F' ∧ W F' _ (os) ∧ F' D5 = some (.lst us5) := w5.freezeE (pre := [])
    replace q1 := s16 _ _ q1
    replace h1 := A2.mono s16 h1
    replace q2 := s16 _ _ q2
    replace h2 := A2.mono s16 h2
    replace q4 := s16 _ _ q4
    replace h4 := A2.mono s16 h4
    replace gg5 := A2.mono s16 gg5
    replace sF := sF.trans s16
    exact (post_ok hm) _ _ _ w16 sF (rep_lst q16 gg5)
def sp_tie_of (K : Fg) : Sp := fun vs H Q E => ∃ (F : Hp) (os : List (Addr × HO)) (x_one : Int) (x_other : Int), vs = [.int x_one, .int x_other] ∧ W F H (os) ∧ Post (tie_of x_one x_other) (Ret K F os Q) noX
theorem sc_tie_of : FnScope ["one", "other"] ["one", "other"] (defScope s_tie_of) := ⟨rfl, rfl, rfl, by decide +kernel, rfl, by decide +kernel, by decide +kernel⟩
theorem ok_tie_of (T : Tx K mg A FD) : FnOk P w K mg base CX0 1 (A 17) (FD 17) ["one", "other"] (sp_tie_of K) := by
  refine T.d17.fn.ok sc_tie_of (fun vs H Q E h => ?_) (fun cdv Ar outer s H vs Q E hr h => ?_)
  · obtain ⟨F, os, x_one, x_other, rfl, _⟩ := h
    rfl
  · obtain ⟨F0, os, x_one, x_other, rfl, w0, hm⟩ := h
    have sF : Same F0 F0 := Same.refl _
    refine ⟨_, (pss_one (ps_ret (pe_tup (pa_cons (pe_callB (call_min2 rfl) (by rfl) T.n_min (by decide +kernel) (pa_cons (pv 0) (pa_cons (pv 1) pa_nil))) (pa_cons (pe_callB (call_max2 rfl) (by rfl) T.n_max (by decide +kernel) (pa_cons (pv 0) (pa_cons (pv 1) pa_nil))) pa_nil))))), ?_⟩
    refine ⟨_, rfl, _, rfl, _, _, rfl, _, rfl, _, rfl, _, _, rfl, (by show 2 ≤ sizeLine; decide), fun p1 n1 => ?_⟩
    obtain ⟨F1, s1, w1, q1⟩ := w0.frzE (o := .tup [(.int (min2 x_one x_other)), (.int (max2 x_one x_other))]) n1
    replace sF := sF.trans s1
    exact (post_ok hm) _ _ _ w1 sF (rep_pair q1 rep_i rep_i)
def sp_likes_at (K : Fg) : Sp := fun vs H Q E => ∃ (F : Hp) (os : List (Addr × HO)) (v_near : V) (x_near : (List (List Int))) (x_place : Int) (v_looks : V) (x_looks : (List Int)) (x_kind : Str), vs = [v_near, .int x_place, v_looks, .str x_kind] ∧ W F H (os) ∧ rep K F v_near x_near ∧ rep K F v_looks x_looks ∧ Post (likes_at x_near x_place x_looks x_kind) (Ret K F os Q) noX
theorem sc_likes_at : FnScope ["near", "place", "looks", "kind", "bare", "start", "many"] ["near", "place", "looks", "kind"] (defScope s_likes_at) := ⟨rfl, rfl, rfl, by decide +kernel, rfl, by decide +kernel, by decide +kernel⟩
theorem ok_likes_at (T : Tx K mg A FD) : FnOk P w K mg base CX0 4 (A 18) (FD 18) ["near", "place", "looks", "kind"] (sp_likes_at K) := by
  refine T.d18.fn.ok sc_likes_at (fun vs H Q E h => ?_) (fun cdv Ar outer s H vs Q E hr h => ?_)
  · obtain ⟨F, os, v_near, x_near, x_place, v_looks, x_looks, x_kind, rfl, _⟩ := h
    rfl
  · obtain ⟨F0, os, v_near, x_near, x_place, v_looks, x_looks, x_kind, rfl, w0, r_near, r_looks, hm⟩ := h
    have sF : Same F0 F0 := Same.refl _
    obtain ⟨a1, vs1, rfl, q1, h1⟩ := r_near
    obtain ⟨a2, vs2, rfl, q2, h2⟩ := r_looks
    refine ⟨_, (pss_cons (ps_setLc (i := 4) (own := [("start", 5), ("many", 6)]) (g := _) (by rfl) sc_likes_at.nd rfl rfl (sw_true rfl rfl rfl (by decide +kernel)) (pi_k (K := K) (wi := fun K => iZip K _) rfl (pi_zip (by rfl) T.n_zip (pa_cons (pe_ix (ix_listK (K := K) rfl) (pv 0) (pv 1) (fun _ _ => rfl)) (pa_cons (pe_call (ok_looks_in T) (hr.mono (by decide)) (by rfl) T.d16.mg T.d16.fn.kp T.d16.b .nil pass0 (pa_cons (pv 0) (pa_cons (pv 1) (pa_cons (pv 2) pa_nil)))) pa_nil)))) (blkOk_by (own := [("start", 5), ("many", 6)]) (N := ["near", "place", "looks", "kind", "bare", "start", "many"]) (sc := defScope s_likes_at) (by decide +kernel)) (fun _ _ _ _ _ => (pg_k (K := K) (t := fun K => gTup K 2 _) rfl (pg_tup (n := 2) rfl (pgs_cons (pg_name (i := 5) sc_likes_at.nd rfl (Or.inl rfl)) (pgs_cons (pg_name (i := 6) sc_likes_at.nd rfl (Or.inl rfl)) pgs_nil))))) (fun _ _ _ _ _ => (pts_one (pt_cmp (pc_eqI (pv 6) pe_int)))) (fun _ _ _ _ _ => (pv 5))) (pss_cons (ps_if (PW.pt (pw_and (pt_cmpR op_eqS (pv 3) pe_str (nomark _)) (pw_and1 (pt_cmp (pc_gt (pe_callB (call_lenN (K := K) rfl) (by rfl) T.n_len (by decide +kernel) (pa_cons (pv 4) pa_nil)) pe_int))))) (pss_one (ps_ret (pe_tup (pa_cons (pv 1) (pa_cons (pe_call (ok_tie_of T) (hr.mono (by decide)) (by rfl) T.d17.mg T.d17.fn.kp T.d17.b .nil pass0 (pa_cons (pv 1) (pa_cons (pe_ix (ix_listK (K := K) rfl) (pv 4) pe_int (fun _ _ => rfl)) pa_nil))) pa_nil))))) pss_nil) (pss_cons (ps_if (PW.pt (pw_and (pt_cmpR op_eqS (pv 3) pe_str (nomark _)) (pw_and1 (pt_cmp (pc_gt (pe_callB (call_lenN (K := K) rfl) (by rfl) T.n_len (by decide +kernel) (pa_cons (pv 4) pa_nil)) pe_int))))) (pss_one (ps_ret (pe_tup (pa_cons (pe_call (ok_tie_of T) (hr.mono (by decide)) (by rfl) T.d17.mg T.d17.fn.kp T.d17.b .nil pass0 (pa_cons (pv 1) (pa_cons (pe_ix (ix_listK (K := K) rfl) (pv 4) pe_int (fun _ _ => rfl)) pa_nil))) (pa_cons (pe_call (ok_tie_of T) (hr.mono (by decide)) (by rfl) T.d17.mg T.d17.fn.kp T.d17.b .nil pass0 (pa_cons (pv 1) (pa_cons (pe_ix (ix_listK (K := K) rfl) (pv 4) pe_int (fun _ _ => rfl)) pa_nil))) pa_nil))))) pss_nil) (pss_cons (ps_if (PW.pt (pw_and (pt_cmpR op_eqS (pv 3) pe_str (nomark _)) (pw_and1 (pt_cmp (pc_gt (pe_callB (call_lenN (K := K) rfl) (by rfl) T.n_len (by decide +kernel) (pa_cons (pv 4) pa_nil)) pe_int))))) (pss_one (ps_ret (pe_tup (pa_cons (pe_ix (ix_listK (K := K) rfl) (pv 4) pe_int (fun _ _ => rfl)) (pa_cons (pe_ix (ix_listK (K := K) rfl) (pv 4) pe_int (fun _ _ => rfl)) pa_nil))))) pss_nil) (pss_one (ps_ret pe_non)))))), ?_⟩
    obtain ⟨t3, e3, hm⟩ := pb_get hm
    obtain ⟨u3, f3, r3⟩ := A2.at h1 e3
    obtain ⟨a4, vs4, rfl, q4, h4⟩ := r3
    refine ⟨_, rfl, _, rfl, _, _, _, _, rfl, rfl, SqL.of (w0.same _ _ q1), f3, _, rfl, _, rfl, _, rfl, _, _, _, (x_near : (List (List Int))), _, _, (x_looks : (List Int)), rfl, w0, (rep_lst q1 h1), (rep_lst q2 h2), ?_⟩
    refine (post_bind hm).mono (fun y5 hm v5 F5 H5 w5 s5 r5 => ?_) (fun _ z => z)
    replace q1 := s5 _ _ q1
    replace h1 := A2.mono s5 h1
    replace q2 := s5 _ _ q2
    replace h2 := A2.mono s5 h2
    replace q4 := s5 _ _ q4
    replace h4 := A2.mono s5 h4
    replace sF := sF.trans s5
    obtain ⟨a6, vs6, rfl, q6, h6⟩ := r5
    refine ⟨_, _, _, _, rfl, SqL.of (w5.same _ _ q4), SqL.of (w5.same _ _ q6), fun D7 nD7 => ?_⟩
    refine lcF (K := K) (tw_zip (a := a4) (b := a6) h4 h6) hm w5 nD7 (fun F' H' acc s w => ⟨SqL.of (w.same _ _ (s _ _ q4)), SqL.of (w.same _ _ (s _ _ q6))⟩) ?_ ?_
    · -- one turn
      intro b7 x7 F7 H7 H7' acc7 N7 M7 P7 s7 w7 y7 hN7 hM7 hm
      replace q1 := s7 _ _ q1
      replace h1 := A2.mono s7 h1
      replace q2 := s7 _ _ q2
      replace h2 := A2.mono s7 h2
      replace q4 := s7 _ _ q4
      replace h4 := A2.mono s7 h4
      replace q6 := s7 _ _ q6
      replace h6 := A2.mono s7 h6
      replace sF := sF.trans s7
      obtain ⟨T9, z9, u9, rfl, n9, rfl, r9a, r9b⟩ := y7
      obtain ⟨F9, s9, w9, q9⟩ := w7.frzE (o := .tup [z9, u9]) n9
      replace r9a := Rep.mono s7 r9a
      replace r9b := Rep.mono s7 r9b
      replace q1 := s9 _ _ q1
      replace h1 := A2.mono s9 h1
      replace q2 := s9 _ _ q2
      replace h2 := A2.mono s9 h2
      replace q4 := s9 _ _ q4
      replace h4 := A2.mono s9 h4
      replace q6 := s9 _ _ q6
      replace h6 := A2.mono s9 h6
      replace sF := sF.trans s9
      replace r9a := Rep.mono s9 r9a
      replace r9b := Rep.mono s9 r9b
      obtain rfl : z9 = V.int b7.1 := r9a
      obtain rfl : u9 = V.int b7.2 := r9b
      refine ⟨_, _, rfl, SqT.of (w9.same _ _ q9), rfl, _, _, rfl, _, _, rfl, rfl, rfl, _, rfl, _, _, rfl, rfl, _, rfl, ?_⟩
      refine post_ite hm (fun k10 hm => ?_) (fun k10 hm => ?_)
      · skip
        exact ⟨_, rfl, hN7 _ (post_ok hm) _ _ _ w9 s9 rep_i⟩
      · skip
        exact hM7 (post_ok hm) _ _ w9 s9
    intro us7 F7 H7 ys7 s7 w7 gg7 hm
    replace q1 := s7 _ _ q1
    replace h1 := A2.mono s7 h1
    replace q2 := s7 _ _ q2
    replace h2 := A2.mono s7 h2
    replace q4 := s7 _ _ q4
    replace h4 := A2.mono s7 h4
    replace q6 := s7 _ _ q6
    replace h6 := A2.mono s7 h6
    replace sF := sF.trans s7
    obtain ⟨F12, s12, w12, q12⟩ : ∃ F', Same F7 F' ∧ W F' _ (os) ∧ F' D7 = some (.lst us7) := w7.freezeE (pre := [])
    replace q1 := s12 _ _ q1
    replace h1 := A2.mono s12 h1
    replace q2 := s12 _ _ q2
    replace h2 := A2.mono s12 h2
    replace q4 := s12 _ _ q4
    replace h4 := A2.mono s12 h4
    replace q6 := s12 _ _ q6
    replace h6 := A2.mono s12 h6
    replace gg7 := A2.mono s12 gg7
    replace sF := sF.trans s12
    refine stepN ?_
    try dsimp only
    refine stepSeq (stepIf ?_)
    refine cutT (fun c H' => c = (((decide (x_kind = ("all" : Str))) && (decide ((0 : Int) < (ys7.length : Int))))) ∧ ∃ F', Same F12 F' ∧ W F' H' (os)) (fun Q13 q13 => ?_) (fun c13 H13 hc13 => ?_)
    · -- the ways
      refine ⟨_, rfl, _, _, rfl, rfl, _, rfl, ?_⟩
      refine ifB (fun k14 => ?_) (fun k14 => ?_)
      · skip
        exact ⟨_, rfl, _, _, _, rfl, .inl (SqL.of (w12.same _ _ q12)), gg7.length, _, _, rfl, rfl, _, rfl, q13 _ _ ⟨(by first | rfl | exact absurd k14 (by decide) | (simp [k14]; done) | ((try simp only [Bool.not_eq_true] at k14); simp only [k14, Bool.true_or, Bool.false_or, Bool.or_false, Bool.or_true, Bool.true_and, Bool.false_and, Bool.and_true, Bool.and_false])), _, Same.refl _, w12⟩⟩
      · skip
        exact q13 _ _ ⟨(by first | rfl | exact absurd k14 (by decide) | (simp [k14]; done) | ((try simp only [Bool.not_eq_true] at k14); simp only [k14, Bool.true_or, Bool.false_or, Bool.or_false, Bool.or_true, Bool.true_and, Bool.false_and, Bool.and_true, Bool.and_false])), _, Same.refl _, w12⟩
    obtain ⟨rfl, F13, s13, w13⟩ := hc13
    replace h1 := A2.mono s13 h1
    replace q1 := s13 _ _ q1
    replace h2 := A2.mono s13 h2
    replace q2 := s13 _ _ q2
    replace gg7 := A2.mono s13 gg7
    replace q12 := s13 _ _ q12
    replace sF := sF.trans s13
    refine post_ite hm (fun k17 hm => ?_) (fun k17 hm => ?_)
    · skip
      obtain ⟨t18, e18, hm⟩ := pb_get hm
      obtain ⟨u18, f18, r18⟩ := A2.at gg7 e18
      obtain rfl : u18 = V.int t18 := r18
      refine ⟨_, rfl, _, rfl, _, rfl, _, _, _, _, rfl, rfl, SqL.of (w13.same _ _ q12), f18, _, _, _, _, rfl, w13, ?_⟩
      refine (post_bind hm).mono (fun y19 hm v19 F19 H19 w19 s19 r19 => ?_) (fun _ z => z)
      replace h1 := A2.mono s19 h1
      replace q1 := s19 _ _ q1
      replace h2 := A2.mono s19 h2
      replace q2 := s19 _ _ q2
      replace gg7 := A2.mono s19 gg7
      replace q12 := s19 _ _ q12
      replace sF := sF.trans s19
      obtain ⟨a20, u20, z20, rfl, q20, r20a, r20b⟩ := r19
      obtain rfl : u20 = V.int y19.1 := r20a
      obtain rfl : z20 = V.int y19.2 := r20b
      have h21 : A2 (rep K F19) [(.int x_place), (.ref a20)] (Tup.mk [(Thing.pl x_place), (Thing.ti y19.1 y19.2)] : (Tup Thing)).l := .cons rep_pl (.cons (rep_ti (rep_pair q20 rep_i rep_i)) (.nil))
      refine ⟨(by show 2 ≤ sizeLine; decide), fun p22 n22 => ?_⟩
      obtain ⟨F22, s22, w22, q22⟩ := w19.frzE (o := .tup [(.int x_place), (.ref a20)]) n22
      replace h1 := A2.mono s22 h1
      replace q1 := s22 _ _ q1
      replace h2 := A2.mono s22 h2
      replace q2 := s22 _ _ q2
      replace gg7 := A2.mono s22 gg7
      replace q12 := s22 _ _ q12
      replace q20 := s22 _ _ q20
      replace h21 := A2.mono s22 h21
      replace sF := sF.trans s22
      exact (post_ok hm) _ _ _ w22 sF (rep_some (rep_tup q22 h21))
    · skip
      refine stepX ?_
      try dsimp only
      refine stepSeq (stepIf ?_)
      refine cutT (fun c H' => c = (((decide (x_kind = ("ties" : Str))) && (decide ((1 : Int) < (ys7.length : Int))))) ∧ ∃ F', Same F13 F' ∧ W F' H' (os)) (fun Q23 q23 => ?_) (fun c23 H23 hc23 => ?_)
      · -- the ways
        refine ⟨_, rfl, _, _, rfl, rfl, _, rfl, ?_⟩
        refine ifB (fun k24 => ?_) (fun k24 => ?_)
        · skip
          exact ⟨_, rfl, _, _, _, rfl, .inl (SqL.of (w13.same _ _ q12)), gg7.length, _, _, rfl, rfl, _, rfl, q23 _ _ ⟨(by first | rfl | exact absurd k24 (by decide) | (simp [k24]; done) | ((try simp only [Bool.not_eq_true] at k24); simp only [k24, Bool.true_or, Bool.false_or, Bool.or_false, Bool.or_true, Bool.true_and, Bool.false_and, Bool.and_true, Bool.and_false])), _, Same.refl _, w13⟩⟩
        · skip
          exact q23 _ _ ⟨(by first | rfl | exact absurd k24 (by decide) | (simp [k24]; done) | ((try simp only [Bool.not_eq_true] at k24); simp only [k24, Bool.true_or, Bool.false_or, Bool.or_false, Bool.or_true, Bool.true_and, Bool.false_and, Bool.and_true, Bool.and_false])), _, Same.refl _, w13⟩
      obtain ⟨rfl, F23, s23, w23⟩ := hc23
      replace h1 := A2.mono s23 h1
      replace q1 := s23 _ _ q1
      replace h2 := A2.mono s23 h2
      replace q2 := s23 _ _ q2
      replace gg7 := A2.mono s23 gg7
      replace q12 := s23 _ _ q12
      replace sF := sF.trans s23
      refine post_ite hm (fun k27 hm => ?_) (fun k27 hm => ?_)
      · skip
        obtain ⟨t28, e28, hm⟩ := pb_get hm
        obtain ⟨u28, f28, r28⟩ := A2.at gg7 e28
        obtain rfl : u28 = V.int t28 := r28
        refine ⟨_, rfl, _, rfl, _, _, _, _, rfl, rfl, SqL.of (w23.same _ _ q12), f28, _, _, _, _, rfl, w23, ?_⟩
        refine (post_bind hm).mono (fun y29 hm v29 F29 H29 w29 s29 r29 => ?_) (fun _ z => z)
        replace h1 := A2.mono s29 h1
        replace q1 := s29 _ _ q1
        replace h2 := A2.mono s29 h2
        replace q2 := s29 _ _ q2
        replace gg7 := A2.mono s29 gg7
        replace q12 := s29 _ _ q12
        replace sF := sF.trans s29
        obtain ⟨a30, u30, z30, rfl, q30, r30a, r30b⟩ := r29
        obtain rfl : u30 = V.int y29.1 := r30a
        obtain rfl : z30 = V.int y29.2 := r30b
        obtain ⟨t31, e31, hm⟩ := pb_get hm
        obtain ⟨u31, f31, r31⟩ := A2.at gg7 e31
        obtain rfl : u31 = V.int t31 := r31
        refine ⟨_, rfl, _, rfl, _, _, _, _, rfl, rfl, SqL.of (w29.same _ _ q12), f31, _, _, _, _, rfl, w29, ?_⟩
        refine (post_bind hm).mono (fun y32 hm v32 F32 H32 w32 s32 r32 => ?_) (fun _ z => z)
        replace h1 := A2.mono s32 h1
        replace q1 := s32 _ _ q1
        replace h2 := A2.mono s32 h2
        replace q2 := s32 _ _ q2
        replace gg7 := A2.mono s32 gg7
        replace q12 := s32 _ _ q12
        replace q30 := s32 _ _ q30
        replace sF := sF.trans s32
        obtain ⟨a33, u33, z33, rfl, q33, r33a, r33b⟩ := r32
        obtain rfl : u33 = V.int y32.1 := r33a
        obtain rfl : z33 = V.int y32.2 := r33b
        have h34 : A2 (rep K F32) [(.ref a30), (.ref a33)] (Tup.mk [(Thing.ti y29.1 y29.2), (Thing.ti y32.1 y32.2)] : (Tup Thing)).l := .cons (rep_ti (rep_pair q30 rep_i rep_i)) (.cons (rep_ti (rep_pair q33 rep_i rep_i)) (.nil))
        refine ⟨(by show 2 ≤ sizeLine; decide), fun p35 n35 => ?_⟩
        obtain ⟨F35, s35, w35, q35⟩ := w32.frzE (o := .tup [(.ref a30), (.ref a33)]) n35
        replace h1 := A2.mono s35 h1
        replace q1 := s35 _ _ q1
        replace h2 := A2.mono s35 h2
        replace q2 := s35 _ _ q2
        replace gg7 := A2.mono s35 gg7
        replace q12 := s35 _ _ q12
        replace q30 := s35 _ _ q30
        replace q33 := s35 _ _ q33
        replace h34 := A2.mono s35 h34
        replace sF := sF.trans s35
        exact (post_ok hm) _ _ _ w35 sF (rep_some (rep_tup q35 h34))
      · skip
        refine stepX ?_
        try dsimp only
        refine stepSeq (stepIf ?_)
        refine cutT (fun c H' => c = (((decide (x_kind = ("places" : Str))) && (decide ((1 : Int) < (ys7.length : Int))))) ∧ ∃ F', Same F23 F' ∧ W F' H' (os)) (fun Q36 q36 => ?_) (fun c36 H36 hc36 => ?_)
        · -- the ways
          refine ⟨_, rfl, _, _, rfl, rfl, _, rfl, ?_⟩
          refine ifB (fun k37 => ?_) (fun k37 => ?_)
          · skip
            exact ⟨_, rfl, _, _, _, rfl, .inl (SqL.of (w23.same _ _ q12)), gg7.length, _, _, rfl, rfl, _, rfl, q36 _ _ ⟨(by first | rfl | exact absurd k37 (by decide) | (simp [k37]; done) | ((try simp only [Bool.not_eq_true] at k37); simp only [k37, Bool.true_or, Bool.false_or, Bool.or_false, Bool.or_true, Bool.true_and, Bool.false_and, Bool.and_true, Bool.and_false])), _, Same.refl _, w23⟩⟩
          · skip
            exact q36 _ _ ⟨(by first | rfl | exact absurd k37 (by decide) | (simp [k37]; done) | ((try simp only [Bool.not_eq_true] at k37); simp only [k37, Bool.true_or, Bool.false_or, Bool.or_false, Bool.or_true, Bool.true_and, Bool.false_and, Bool.and_true, Bool.and_false])), _, Same.refl _, w23⟩
        obtain ⟨rfl, F36, s36, w36⟩ := hc36
        replace h1 := A2.mono s36 h1
        replace q1 := s36 _ _ q1
        replace h2 := A2.mono s36 h2
        replace q2 := s36 _ _ q2
        replace gg7 := A2.mono s36 gg7
        replace q12 := s36 _ _ q12
        replace sF := sF.trans s36
        refine post_ite hm (fun k40 hm => ?_) (fun k40 hm => ?_)
        · skip
          obtain ⟨t41, e41, hm⟩ := pb_get hm
          obtain ⟨u41, f41, r41⟩ := A2.at gg7 e41
          obtain rfl : u41 = V.int t41 := r41
          obtain ⟨t42, e42, hm⟩ := pb_get hm
          obtain ⟨u42, f42, r42⟩ := A2.at gg7 e42
          obtain rfl : u42 = V.int t42 := r42
          have h43 : A2 (rep K F36) [(.int t41), (.int t42)] (Tup.mk [(Thing.pl t41), (Thing.pl t42)] : (Tup Thing)).l := .cons rep_pl (.cons rep_pl (.nil))
          refine ⟨_, rfl, _, _, _, _, rfl, rfl, SqL.of (w36.same _ _ q12), f41, _, rfl, _, _, _, _, rfl, rfl, SqL.of (w36.same _ _ q12), f42, (by show 2 ≤ sizeLine; decide), fun p44 n44 => ?_⟩
          obtain ⟨F44, s44, w44, q44⟩ := w36.frzE (o := .tup [(.int t41), (.int t42)]) n44
          replace h1 := A2.mono s44 h1
          replace q1 := s44 _ _ q1
          replace h2 := A2.mono s44 h2
          replace q2 := s44 _ _ q2
          replace gg7 := A2.mono s44 gg7
          replace q12 := s44 _ _ q12
          replace h43 := A2.mono s44 h43
          replace sF := sF.trans s44
          exact (post_ok hm) _ _ _ w44 sF (rep_some (rep_tup q44 h43))
        · skip
          exact (post_ok hm) _ _ _ w36 sF rep_none
def sp_tree_likes (K : Fg) : Sp := fun vs H Q E => ∃ (F : Hp) (os : List (Addr × HO)) (v_web : V) (x_web : (Int × (Tup (Int × Int)))) (v_looks : V) (x_looks : (List Int)) (x_kind : Str), vs = [v_web, v_looks, .str x_kind] ∧ W F H (os) ∧ rep K F v_web x_web ∧ rep K F v_looks x_looks ∧ Post (tree_likes x_web x_looks x_kind) (Ret K F os Q) noX
theorem sc_tree_likes : FnScope ["web", "looks", "kind", "near", "place", "found"] ["web", "looks", "kind"] (defScope s_tree_likes) := ⟨rfl, rfl, rfl, by decide +kernel, rfl, by decide +kernel, by decide +kernel⟩
theorem ok_tree_likes (T : Tx K mg A FD) : FnOk P w K mg base CX0 5 (A 19) (FD 19) ["web", "looks", "kind"] (sp_tree_likes K) := by
  refine T.d19.fn.ok sc_tree_likes (fun vs H Q E h => ?_) (fun cdv Ar outer s H vs Q E hr h => ?_)
  · obtain ⟨F, os, v_web, x_web, v_looks, x_looks, x_kind, rfl, _⟩ := h
    rfl
  · obtain ⟨F0, os, v_web, x_web, v_looks, x_looks, x_kind, rfl, w0, r_web, r_looks, hm⟩ := h
    have sF : Same F0 F0 := Same.refl _
    obtain ⟨a1, u1, z1, rfl, q1, r1a, r1b⟩ := r_web
    obtain rfl : u1 = V.int x_web.1 := r1a
    obtain ⟨a2, vs2, rfl, q2, h2⟩ := r1b
    obtain ⟨a3, vs3, rfl, q3, h3⟩ := r_looks
    refine ⟨_, (pss_cons (ps_expr (pe_call (ok_tree_asked T) (hr.mono (by decide)) (by rfl) T.d11.mg T.d11.fn.kp T.d11.b .nil pass0 (pa_cons (pv 0) pa_nil))) (pss_cons (ps_expr (pe_call (ok_rising_asked T) (hr.mono (by decide)) (by rfl) T.d12.mg T.d12.fn.kp T.d12.b .nil pass0 (pa_cons (pv 0) (pa_cons (pv 1) pa_nil)))) (pss_cons (ps_if (PW.pt (pw_and (pt_cmp (pc_eqI (pe_ix (ix_tupK (K := K) rfl) (pv 0) pe_int (fun _ _ => rfl)) pe_int)) (pw_and (pt_cmpR op_eqS (pv 2) pe_str (nomark _)) (pw_and1 (pt_cmp (pc_eqI (pe_callB (call_lenN (K := K) rfl) (by rfl) T.n_len (by decide +kernel) (pa_cons (pv 1) pa_nil)) pe_int)))))) (pss_one (ps_ret (pe_tup (pa_cons pe_int (pa_cons pe_int pa_nil))))) pss_nil) (pss_cons (ps_set (i := 3) sc_tree_likes.nd rfl (Or.inl rfl) (pe_call (ok_all_near T) (hr.mono (by decide)) (by rfl) T.d13.mg T.d13.fn.kp T.d13.b .nil pass0 (pa_cons (pv 0) pa_nil))) (pss_cons (ps_for PassesOwn.never rfl (pi_range1 (by rfl) T.n_range (pa_cons (pe_ix (ix_tupK (K := K) rfl) (pv 0) pe_int (fun _ _ => rfl)) pa_nil)) (pg_name (i := 4) sc_tree_likes.nd rfl (Or.inl rfl)) (pss_cons (ps_set (i := 5) sc_tree_likes.nd rfl (Or.inl rfl) (pe_call (ok_likes_at T) (hr.mono (by decide)) (by rfl) T.d18.mg T.d18.fn.kp T.d18.b .nil pass0 (pa_cons (pv 3) (pa_cons (pv 4) (pa_cons (pv 1) (pa_cons (pv 2) pa_nil)))))) (pss_one (ps_if (pt_cmpR op_notN2 (pv 5) pe_non (nomark _)) (pss_one (ps_ret (pv 5))) pss_nil)))) (pss_one (ps_ret pe_non))))))), ?_⟩
    refine ⟨_, rfl, _, _, _, (x_web : (Int × (Tup (Int × Int)))), rfl, w0, (rep_pair q1 rep_i (rep_tup q2 h2)), ?_⟩
    refine (post_bind hm).mono (fun y4 hm v4 F4 H4 w4 s4 r4 => ?_) (fun _ z => z)
    replace q1 := s4 _ _ q1
    replace q2 := s4 _ _ q2
    replace h2 := A2.mono s4 h2
    replace q3 := s4 _ _ q3
    replace h3 := A2.mono s4 h3
    replace sF := sF.trans s4
    obtain rfl : v4 = V.non := r4
    refine ⟨_, rfl, _, rfl, _, _, _, (x_web : (Int × (Tup (Int × Int)))), _, (x_looks : (List Int)), rfl, w4, (rep_pair q1 rep_i (rep_tup q2 h2)), (rep_lst q3 h3), ?_⟩
    refine (post_bind hm).mono (fun y5 hm v5 F5 H5 w5 s5 r5 => ?_) (fun _ z => z)
    replace q1 := s5 _ _ q1
    replace h2 := A2.mono s5 h2
    replace q2 := s5 _ _ q2
    replace h3 := A2.mono s5 h3
    replace q3 := s5 _ _ q3
    replace sF := sF.trans s5
    obtain rfl : v5 = V.non := r5
    try dsimp only
    refine stepSeq (stepIf ?_)
    refine cutT (fun c H' => c = (((decide (x_web.1 = (2 : Int))) && ((decide (x_kind = ("places" : Str))) && (decide ((x_looks.length : Int) = (0 : Int)))))) ∧ ∃ F', Same F5 F' ∧ W F' H' (os)) (fun Q6 q6 => ?_) (fun c6 H6 hc6 => ?_)
    · -- the ways
      refine ⟨_, rfl, _, _, _, _, rfl, rfl, SqT.of (w5.same _ _ q1), rfl, _, _, rfl, rfl, _, rfl, ?_⟩
      refine ifB (fun k7 => ?_) (fun k7 => ?_)
      · skip
        refine ⟨_, rfl, _, _, rfl, rfl, _, rfl, ?_⟩
        refine ifB (fun k8 => ?_) (fun k8 => ?_)
        · skip
          exact ⟨_, rfl, _, _, _, rfl, .inl (SqL.of (w5.same _ _ q3)), h3.length, _, _, rfl, rfl, _, rfl, q6 _ _ ⟨(by first | rfl | exact absurd k7 (by decide) | exact absurd k8 (by decide) | (simp [k7, k8]; done) | ((try simp only [Bool.not_eq_true] at k7); (try simp only [Bool.not_eq_true] at k8); simp only [k7, k8, Bool.true_or, Bool.false_or, Bool.or_false, Bool.or_true, Bool.true_and, Bool.false_and, Bool.and_true, Bool.and_false])), _, Same.refl _, w5⟩⟩
        · skip
          exact q6 _ _ ⟨(by first | rfl | exact absurd k7 (by decide) | exact absurd k8 (by decide) | (simp [k7, k8]; done) | ((try simp only [Bool.not_eq_true] at k7); (try simp only [Bool.not_eq_true] at k8); simp only [k7, k8, Bool.true_or, Bool.false_or, Bool.or_false, Bool.or_true, Bool.true_and, Bool.false_and, Bool.and_true, Bool.and_false])), _, Same.refl _, w5⟩
      · skip
        exact q6 _ _ ⟨(by first | rfl | exact absurd k7 (by decide) | (simp [k7]; done) | ((try simp only [Bool.not_eq_true] at k7); simp only [k7, Bool.true_or, Bool.false_or, Bool.or_false, Bool.or_true, Bool.true_and, Bool.false_and, Bool.and_true, Bool.and_false])), _, Same.refl _, w5⟩
    obtain ⟨rfl, F6, s6, w6⟩ := hc6
    replace q1 := s6 _ _ q1
    replace h2 := A2.mono s6 h2
    replace q2 := s6 _ _ q2
    replace h3 := A2.mono s6 h3
    replace q3 := s6 _ _ q3
    replace sF := sF.trans s6
    refine post_ite hm (fun k12 hm => ?_) (fun k12 hm => ?_)
    · skip
      have h13 : A2 (rep K F6) [(.int 0), (.int 1)] (Tup.mk [(Thing.pl (0 : Int)), (Thing.pl (1 : Int))] : (Tup Thing)).l := .cons rep_pl (.cons rep_pl (.nil))
      refine ⟨(by show 2 ≤ sizeLine; decide), fun p14 n14 => ?_⟩
      obtain ⟨F14, s14, w14, q14⟩ := w6.frzE (o := .tup [(.int 0), (.int 1)]) n14
      replace q1 := s14 _ _ q1
      replace h2 := A2.mono s14 h2
      replace q2 := s14 _ _ q2
      replace h3 := A2.mono s14 h3
      replace q3 := s14 _ _ q3
      replace h13 := A2.mono s14 h13
      replace sF := sF.trans s14
      exact (post_ok hm) _ _ _ w14 sF (rep_some (rep_tup q14 h13))
    · skip
      refine ⟨_, rfl, _, _, _, (x_web : (Int × (Tup (Int × Int)))), rfl, w6, (rep_pair q1 rep_i (rep_tup q2 h2)), ?_⟩
      refine (post_bind hm).mono (fun y15 hm v15 F15 H15 w15 s15 r15 => ?_) (fun _ z => z)
      replace q1 := s15 _ _ q1
      replace h2 := A2.mono s15 h2
      replace q2 := s15 _ _ q2
      replace h3 := A2.mono s15 h3
      replace q3 := s15 _ _ q3
      replace sF := sF.trans s15
      obtain ⟨a16, vs16, rfl, q16, h16⟩ := r15
      obtain ⟨c18, hm⟩ := pb_rng hm
      refine ⟨_, rfl, _, _, _, _, rfl, rfl, SqT.of (w15.same _ _ q1), rfl, _, rfl, c18.2.2.1, c18.2.2.2, ?_⟩
      refine forX (tw_rng0 (j := x_web.1)) hm (fun (g17 : Unit) σ H' => ∃ (F' : Hp) (o17_5 : Option V) (o17_4 : Option V), σ = [some (.ref a1), some (.ref a3), some (.str x_kind), some (.ref a16), o17_4, o17_5] ∧ Same F15 F' ∧ W F' H' (os)) ⟨_, _, _, rfl, Same.refl _, w15⟩ (fun _ _ _ _ => trivial) ?_ ?_
      · -- a turn
        intro b17 g17 x17 σ17 H17 H17' N17 B17 P17 hI hy hN17 hB17 hZ17 hm
        obtain ⟨F17, o17_5, o17_4, rfl, s17, w17⟩ := hI
        replace q1 := s17 _ _ q1
        replace h2 := A2.mono s17 h2
        replace q2 := s17 _ _ q2
        replace h3 := A2.mono s17 h3
        replace q3 := s17 _ _ q3
        replace h16 := A2.mono s17 h16
        replace q16 := s17 _ _ q16
        replace sF := sF.trans s17
        obtain ⟨rfl, rfl⟩ := hy
        refine ⟨_, rfl, _, rfl, _, rfl, _, rfl, _, _, _, (y15 : (List (List Int))), _, _, (x_looks : (List Int)), _, rfl, w17, (rep_lst q16 h16), (rep_lst q3 h3), ?_⟩
        refine (post_bind hm).mono (fun y19 hm v19 F19 H19 w19 s19 r19 => ?_) (fun _ z => z)
        replace q1 := s19 _ _ q1
        replace h2 := A2.mono s19 h2
        replace q2 := s19 _ _ q2
        replace h3 := A2.mono s19 h3
        replace q3 := s19 _ _ q3
        replace h16 := A2.mono s19 h16
        replace q16 := s19 _ _ q16
        replace sF := sF.trans s19
        refine ⟨_, rfl, rfl, _, isN_eq r19, _, rfl, ?_⟩
        refine post_ite hm (fun k21 hm => ?_) (fun k21 hm => ?_)
        · skip
          obtain ⟨t22, e22, hm⟩ := pb_ofO hm
          have r22 : rep K F19 v19 t22 := (show rep K F19 v19 (some t22) from e22 ▸ r19)
          obtain ⟨a23, vs23, rfl, q23, h23⟩ := r22
          have hm := hZ17 _ (post_ok hm)
          exact ⟨_, rfl, (post_ok hm) _ _ _ w19 sF (rep_some (rep_tup q23 h23))⟩
        · skip
          exact hN17 _ (post_ok hm) _ _ ⟨_, _, _, rfl, (s17.trans s19), w19⟩
      intro g17 σ17 H17 hI hm
      obtain ⟨F17, o17_5, o17_4, rfl, s17, w17⟩ := hI
      replace q1 := s17 _ _ q1
      replace h2 := A2.mono s17 h2
      replace q2 := s17 _ _ q2
      replace h3 := A2.mono s17 h3
      replace q3 := s17 _ _ q3
      replace h16 := A2.mono s17 h16
      replace q16 := s17 _ _ q16
      replace sF := sF.trans s17
      exact (post_ok hm) _ _ _ w17 sF rep_none
def sp_law_cells (K : Fg) : Sp := fun vs H Q E => ∃ (F : Hp) (os : List (Addr × HO)) (v_script : V) (x_script : Scr) (x_many : Int), vs = [v_script, .int x_many] ∧ W F H (os) ∧ rep K F v_script x_script ∧ Post (law_cells x_script x_many) (RetL K F os Q) noX
theorem sc_law_cells : FnScope ["script", "many", "cells", "k", "cell"] ["script", "many"] (defScope s_law_cells) := ⟨rfl, rfl, rfl, by decide +kernel, rfl, by decide +kernel, by decide +kernel⟩
theorem ok_law_cells (T : Tx K mg A FD) : FnOk P w K mg base CX0 1 (A 21) (FD 21) ["script", "many"] (sp_law_cells K) := by
  refine T.d21.fn.ok sc_law_cells (fun vs H Q E h => ?_) (fun cdv Ar outer s H vs Q E hr h => ?_)
  · obtain ⟨F, os, v_script, x_script, x_many, rfl, _⟩ := h
    rfl
  · obtain ⟨F0, os, v_script, x_script, x_many, rfl, w0, r_script, hm⟩ := h
    have sF : Same F0 F0 := Same.refl _
    obtain ⟨a1, rfl, q1⟩ := r_script
    have h1 : A2 (rep K F0) (x_script.l.map V.int) x_script.l := A2.of_ints
    refine ⟨_, (pss_cons (ps_set (i := 2) sc_law_cells.nd rfl (Or.inl rfl) (pe_callTy (call_list_ofK (K := K) rfl) (by rfl) T.n_list (by decide +kernel) (pa_cons (pe_slice (sl_listK (K := K) rfl) (pv 0) po_none (po_some (pv 1))) pa_nil))) (pss_cons (ps_for PassesOwn.never rfl (pi_k (K := K) (wi := fun K => iEnum K _) rfl (pi_enum (by rfl) T.n_enumerate (pa_cons (pe_slice (sl_listK (K := K) rfl) (pv 0) (po_some (pv 1)) (po_some pe_int)) pa_nil))) (pg_k (K := K) (t := fun K => gTup K 2 _) rfl (pg_tup (n := 2) rfl (pgs_cons (pg_name (i := 3) sc_law_cells.nd rfl (Or.inl rfl)) (pgs_cons (pg_name (i := 4) sc_law_cells.nd rfl (Or.inl rfl)) pgs_nil)))) (pss_one (ps_asg (pe_op op_add (pe_op op_mul (pe_ix (ix_listK (K := K) rfl) (pv 2) (pe_op op_mod (pv 3) (pv 1)) (fun _ _ => rfl)) pe_int) (pv 4)) (pg_sub (pv 2) (pe_op op_mod (pv 3) (pv 1)) set_list)))) (pss_one (ps_ret (pv 2))))), ?_⟩
    have h2 : A2 (rep K F0) (cutV (x_script.l.map V.int) none (some x_many)) (cutL x_script.l none (some x_many)) := sl_cut h1 _ _
    refine ⟨_, rfl, _, rfl, _, rfl, _, _, rfl, w0.same.seq q1, fun p3 n3 => ?_⟩
    have w3 : W F0 _ ((p3, .lst (cutV (x_script.l.map V.int) none (some x_many))) :: os) := w0.new n3
    have h4 : A2 (rep K F0) (cutV (x_script.l.map V.int) none (some x_many)) (cutL x_script.l none (some x_many)) := h2
    refine ⟨_, _, rfl, .inl (SqL.of (w3.get (pre := []))), fun p5 n5 => ?_⟩
    have w5 : W F0 _ ((p5, .lst (cutV (x_script.l.map V.int) none (some x_many))) :: (p3, .lst (cutV (x_script.l.map V.int) none (some x_many))) :: os) := w3.new n5
    have w6 : W F0 _ ((p5, .lst (cutV (x_script.l.map V.int) none (some x_many))) :: os) := w5.drop (pre := [_])
    have h8 : A2 (rep K F0) (cutV (x_script.l.map V.int) (some x_many) (some (63 : Int))) (cutL x_script.l (some x_many) (some (63 : Int))) := sl_cut h1 _ _
    refine ⟨_, rfl, _, rfl, _, rfl, _, rfl, _, _, rfl, w6.same.seq q1, fun p9 n9 => ?_⟩
    have w9 : W F0 _ ((p9, .lst (cutV (x_script.l.map V.int) (some x_many) (some (63 : Int)))) :: (p5, .lst (cutV (x_script.l.map V.int) none (some x_many))) :: os) := w6.new n9
    obtain ⟨F10, s10, w10, q10⟩ : ∃ F', Same F0 F' ∧ W F' _ ((p5, .lst (cutV (x_script.l.map V.int) none (some x_many))) :: os) ∧ F' p9 = some (.lst (cutV (x_script.l.map V.int) (some x_many) (some (63 : Int)))) := w9.freezeE (pre := [])
    replace h1 := A2.mono s10 h1
    replace q1 := s10.seq q1
    replace h4 := A2.mono s10 h4
    replace h8 := A2.mono s10 h8
    replace sF := sF.trans s10
    refine ⟨_, _, rfl, SqL.of (w10.same _ _ q10), ?_⟩
    refine forS (tw_enum (a := p9) h8) hm (fun (g7 : (List Int)) σ H' => ∃ (F' : Hp) (vs7_0 : List V) (o7_3 : Option V) (o7_4 : Option V), σ = [some (.ref a1), some (.int x_many), some (.ref p5), o7_3, o7_4] ∧ Same F10 F' ∧ W F' H' ((p5, .lst vs7_0) :: os) ∧ A2 (rep K F') vs7_0 g7) ⟨_, _, _, _, rfl, Same.refl _, w10, h4⟩ (fun g σ H' hI => by obtain ⟨F', _, _, _, _, s, w, _⟩ := hI; exact SqL.of (w.same _ _ (s _ _ q10))) ?_ ?_
    · -- a turn
      intro b7 g7 x7 σ7 H7 H7' N7 P7 hI hy hN7 hm
      obtain ⟨F7, vs7_0, o7_3, o7_4, rfl, s7, w7, h7_0⟩ := hI
      replace h1 := A2.mono s7 h1
      replace q1 := s7.seq q1
      replace h8 := A2.mono s7 h8
      replace q10 := s7 _ _ q10
      replace sF := sF.trans s7
      obtain ⟨T11, u11, rfl, n11, rfl, r11⟩ := hy
      obtain ⟨F11, s11, w11, q11⟩ := w7.frzE (o := .tup [.int b7.1, u11]) n11
      replace r11 := Rep.mono s7 r11
      replace h1 := A2.mono s11 h1
      replace q1 := s11.seq q1
      replace h8 := A2.mono s11 h8
      replace q10 := s11 _ _ q10
      replace h7_0 := A2.mono s11 h7_0
      replace sF := sF.trans s11
      replace r11 := Rep.mono s11 r11
      obtain rfl : u11 = V.int b7.2 := r11
      obtain ⟨c12, hm⟩ := pb_mod hm
      obtain ⟨t13, e13, hm⟩ := pb_get hm
      obtain ⟨u13, f13, r13⟩ := A2.at h7_0 e13
      obtain rfl : u13 = V.int t13 := r13
      obtain ⟨c15, hm⟩ := pb_mod hm
      obtain ⟨j16, l16, z16, e16, hm⟩ := pn_set hm
      refine ⟨_, _, rfl, SqT.of (w11.same _ _ q11), rfl, _, _, rfl, _, _, rfl, rfl, _, rfl, _, rfl, _, rfl, _, _, rfl, rfl, c12, _, _, _, _, rfl, rfl, SqL.of (w11.get (pre := [])), f13, _, _, rfl, rfl, (.inr (by constructor <;> decide)), _, rfl, _, _, rfl, rfl, _, rfl, _, rfl, _, rfl, _, _, rfl, rfl, c15, _, _, _, _, rfl, rfl, (w11.get (pre := [])), (A2.ix h7_0 z16), ?_⟩
      have h16 : A2 (rep K F11) (vs7_0.set j16 (V.int ((t13 * (31 : Int)) + b7.2))) l16 := e16 ▸ A2.set rep_i j16 h7_0
      have w17 : W F11 _ ((p5, .lst (vs7_0.set j16 (V.int ((t13 * (31 : Int)) + b7.2)))) :: os) := w11.set (pre := [])
      exact hN7 _ (post_ok hm) _ _ ⟨_, _, _, _, rfl, (s7.trans s11), w17, h16⟩
    intro g7 σ7 H7 hI hm
    obtain ⟨F7, vs7_0, o7_3, o7_4, rfl, s7, w7, h7_0⟩ := hI
    replace h1 := A2.mono s7 h1
    replace q1 := s7.seq q1
    replace h8 := A2.mono s7 h8
    replace q10 := s7 _ _ q10
    replace sF := sF.trans s7
    exact ⟨_, rfl, (post_ok hm) _ _ _ _ w7 sF h7_0⟩
def sp_law_pool (K : Fg) : Sp := fun vs H Q E => ∃ (F : Hp) (os : List (Addr × HO)) (v_cells : V) (x_cells : (List Int)) (x_k : Int), vs = [v_cells, .int x_k] ∧ W F H (os) ∧ rep K F v_cells x_cells ∧ Post (law_pool x_cells x_k) (RetL K F os Q) noX
theorem sc_law_pool : FnScope ["cells", "k", "cell", "rest"] ["cells", "k"] (defScope s_law_pool) := ⟨rfl, rfl, rfl, by decide +kernel, rfl, by decide +kernel, by decide +kernel⟩
theorem ok_law_pool (T : Tx K mg A FD) : FnOk P w K mg base CX0 1 (A 22) (FD 22) ["cells", "k"] (sp_law_pool K) := by
  refine T.d22.fn.ok sc_law_pool (fun vs H Q E h => ?_) (fun cdv Ar outer s H vs Q E hr h => ?_)
  · obtain ⟨F, os, v_cells, x_cells, x_k, rfl, _⟩ := h
    rfl
  · obtain ⟨F0, os, v_cells, x_cells, x_k, rfl, w0, r_cells, hm⟩ := h
    have sF : Same F0 F0 := Same.refl _
    obtain ⟨a1, vs1, rfl, q1, h1⟩ := r_cells
    refine ⟨_, (pss_cons (ps_set (i := 2) sc_law_pool.nd rfl (Or.inl rfl) pe_int1) (pss_cons (ps_if (pt_cmp (pc_gt (pe_callB (call_lenN (K := K) rfl) (by rfl) T.n_len (by decide +kernel) (pa_cons (pv 0) pa_nil)) pe_int)) (pss_one (ps_set (i := 2) sc_law_pool.nd rfl (Or.inl rfl) (pe_op op_add (pe_ix (ix_listK (K := K) rfl) (pv 0) (pe_op op_mod (pv 1) (pe_callB (call_lenN (K := K) rfl) (by rfl) T.n_len (by decide +kernel) (pa_cons (pv 0) pa_nil))) (fun _ _ => rfl)) (pe_op op_fdivW (pv 1) (pe_callB (call_lenN (K := K) rfl) (by rfl) T.n_len (by decide +kernel) (pa_cons (pv 0) pa_nil)))))) pss_nil) (pss_cons (ps_set (i := 3) sc_law_pool.nd rfl (Or.inl rfl) pe_int1) (pss_cons (ps_if (PW.pt (pw_or (pt_cmp (pc_lt (pv 2) pe_int)) (pw_or1 (pt_cmp (pc_ge (pv 2) (pe_op op_pow pe_int pe_int)))))) (pss_one (ps_set (i := 3) sc_law_pool.nd rfl (Or.inl rfl) (pe_callB call_abs (by rfl) T.n_abs (by decide +kernel) (pa_cons (pv 2) pa_nil)))) pss_nil) (pss_one (ps_ret (pe_lst (pa_cons (pv 3) (pa_cons (pe_op op_mod (pe_op op_add (pe_op op_mul (pe_op op_mod (pv 2) pe_int) pe_int) (pe_op op_mul (pe_op op_mul pe_int (pe_op op_add (pv 1) pe_int)) (pe_op op_add (pv 1) pe_int))) pe_int) pa_nil))))))))), ?_⟩
    refine ⟨trivial, ?_⟩
    refine stepN ?_
    try dsimp only
    refine joinS hm (fun (g2 : Int) σ H' => ∃ (F' : Hp), σ = [some (.ref a1), some (.int x_k), some (.int g2), none] ∧ Same F0 F' ∧ W F' H' (os)) ?_ ?_
    · intro N2 P2 hN2 hm
      refine ⟨_, rfl, _, _, _, rfl, .inl (SqL.of (w0.same _ _ q1)), h1.length, _, _, rfl, rfl, _, rfl, ?_⟩
      refine post_ite hm (fun k3 hm => ?_) (fun k3 hm => ?_)
      · skip
        obtain ⟨c4, hm⟩ := pb_mod hm
        obtain ⟨t5, e5, hm⟩ := pb_get hm
        obtain ⟨u5, f5, r5⟩ := A2.at h1 e5
        obtain rfl : u5 = V.int t5 := r5
        obtain ⟨c6, hm⟩ := pb_div hm
        exact ⟨_, rfl, _, rfl, _, rfl, _, _, _, rfl, .inl (SqL.of (w0.same _ _ q1)), h1.length, _, _, rfl, rfl, c4, _, _, _, _, rfl, rfl, SqL.of (w0.same _ _ q1), f5, _, rfl, _, rfl, _, _, _, rfl, .inl (SqL.of (w0.same _ _ q1)), h1.length, _, _, rfl, rfl, c6, _, _, rfl, rfl, hN2 _ (post_ok hm) _ _ ⟨_, rfl, Same.refl _, w0⟩⟩
      · skip
        exact hN2 _ (post_ok hm) _ _ ⟨_, rfl, Same.refl _, w0⟩
    intro g2 σ2 H2 hI hm
    obtain ⟨F2, rfl, s2, w2⟩ := hI
    replace h1 := A2.mono s2 h1
    replace q1 := s2 _ _ q1
    replace sF := sF.trans s2
    refine ⟨trivial, ?_⟩
    refine stepN ?_
    try dsimp only
    refine joinS hm (fun (g7 : Int) σ H' => ∃ (F' : Hp), σ = [some (.ref a1), some (.int x_k), some (.int g2), some (.int g7)] ∧ Same F2 F' ∧ W F' H' (os)) ?_ ?_
    · intro N7 P7 hN7 hm
      refine stepIf ?_
      refine joinT hm (fun (j8 : Bool) c H' => c = j8 ∧ ∃ (F' : Hp), Same F2 F' ∧ W F' H' (os)) ?_ ?_
      · intro Q8 P8 q8 hm
        refine ⟨_, rfl, _, _, rfl, rfl, _, rfl, ?_⟩
        refine post_ite hm (fun k9 hm => ?_) (fun k9 hm => ?_)
        · skip
          exact q8 _ (post_ok hm) _ _ ⟨rfl, _, Same.refl _, w2⟩
        · skip
          exact ⟨_, rfl, _, _, rfl, rfl, (by refine ⟨?_, ?_, ?_⟩ <;> decide), _, _, rfl, rfl, _, rfl, q8 _ (post_ok hm) _ _ ⟨rfl, _, Same.refl _, w2⟩⟩
      intro j8 c8 H8 hc8 hm
      obtain ⟨rfl, F8, s8, w8⟩ := hc8
      replace h1 := A2.mono s8 h1
      replace q1 := s8 _ _ q1
      replace sF := sF.trans s8
      refine post_ite hm (fun k13 hm => ?_) (fun k13 hm => ?_)
      · skip
        exact ⟨_, rfl, _, rfl, hN7 _ (post_ok hm) _ _ ⟨_, rfl, s8, w8⟩⟩
      · skip
        exact hN7 _ (post_ok hm) _ _ ⟨_, rfl, s8, w8⟩
    intro g7 σ7 H7 hI hm
    obtain ⟨F7, rfl, s7, w7⟩ := hI
    replace h1 := A2.mono s7 h1
    replace q1 := s7 _ _ q1
    replace sF := sF.trans s7
    obtain ⟨c17, hm⟩ := pb_mul hm
    have h19 : A2 (rep K F7) [(.int g7), (.int ((((g2 % (2147483629 : Int)) * (69621 : Int)) + (((40009 : Int) * (x_k + (1 : Int))) * (x_k + (3 : Int)))) % (2147483629 : Int)))] ([g7, ((((g2 % (2147483629 : Int)) * (69621 : Int)) + (((40009 : Int) * (x_k + (1 : Int))) * (x_k + (3 : Int)))) % (2147483629 : Int))] : (List Int)) := .cons rep_i (.cons rep_i (.nil))
    refine ⟨_, rfl, _, rfl, _, _, rfl, rfl, (by show (0 : Int) < (2147483629 : Int); decide), _, _, rfl, rfl, (.inr (by constructor <;> decide)), _, rfl, _, _, rfl, rfl, _, _, rfl, rfl, (.inl (by constructor <;> decide)), _, rfl, _, _, rfl, rfl, _, _, rfl, rfl, c17, _, _, rfl, rfl, _, _, rfl, rfl, (by show (0 : Int) < (2147483629 : Int); decide), (by show 2 ≤ sizeLine; decide), fun p20 n20 => ?_⟩
    have w20 : W F7 _ ((p20, .lst [(.int g7), (.int ((((g2 % (2147483629 : Int)) * (69621 : Int)) + (((40009 : Int) * (x_k + (1 : Int))) * (x_k + (3 : Int)))) % (2147483629 : Int)))]) :: os) := w7.new n20
    exact (post_ok hm) _ _ _ _ w20 sF h19
def sp_law_take (K : Fg) : Sp := fun vs H Q E => ∃ (F : Hp) (os : List (Addr × HO)) (a_pool : Addr) (vs_pool : List V) (x_pool : (List Int)) (x_many : Int), vs = [.ref a_pool, .int x_many] ∧ W F H ((a_pool, .lst vs_pool) :: os) ∧ A2 (rep K F) vs_pool x_pool ∧ Post (law_take x_pool x_many) (RetM K F a_pool os Q) noX
theorem sc_law_take : FnScope ["pool", "many", "found"] ["pool", "many"] (defScope s_law_take) := ⟨rfl, rfl, rfl, by decide +kernel, rfl, by decide +kernel, by decide +kernel⟩
theorem ok_law_take (T : Tx K mg A FD) : FnOk P w K mg base CX0 1 (A 23) (FD 23) ["pool", "many"] (sp_law_take K) := by
  refine T.d23.fn.ok sc_law_take (fun vs H Q E h => ?_) (fun cdv Ar outer s H vs Q E hr h => ?_)
  · obtain ⟨F, os, a_pool, vs_pool, x_pool, x_many, rfl, _⟩ := h
    rfl
  · obtain ⟨F0, os, a_pool, vs_pool, x_pool, x_many, rfl, w0, h_pool, hm⟩ := h
    have sF : Same F0 F0 := Same.refl _
    refine ⟨_, (pss_cons (ps_if (pt_cmp (pc_gt (pe_ix (ix_listK (K := K) rfl) (pv 0) pe_int (fun _ _ => rfl)) pe_int)) (pss_cons (ps_set (i := 2) sc_law_take.nd rfl (Or.inl rfl) (pe_op op_mod (pe_ix (ix_listK (K := K) rfl) (pv 0) pe_int (fun _ _ => rfl)) (pv 1))) (pss_cons (ps_asg (pe_op op_fdivW (pe_ix (ix_listK (K := K) rfl) (pv 0) pe_int (fun _ _ => rfl)) (pv 1)) (pg_sub (pv 0) pe_int set_list)) (pss_one (ps_ret (pv 2))))) pss_nil) (pss_cons (ps_asg (pe_op op_mod (pe_op op_add (pe_op op_mul (pe_ix (ix_listK (K := K) rfl) (pv 0) pe_int (fun _ _ => rfl)) pe_int) pe_int) pe_int) (pg_sub (pv 0) pe_int set_list)) (pss_one (ps_ret (pe_op op_mod (pe_op op_fdiv (pe_op op_mod (pe_op op_mul (pe_op op_mod (pe_op op_mul (pe_ix (ix_listK (K := K) rfl) (pv 0) pe_int (fun _ _ => rfl)) (pe_ix (ix_listK (K := K) rfl) (pv 0) pe_int (fun _ _ => rfl))) pe_int) pe_int) pe_int) pe_int) (pv 1)))))), ?_⟩
    obtain ⟨t2, e2, hm⟩ := pb_get hm
    obtain ⟨u2, f2, r2⟩ := A2.at h_pool e2
    obtain rfl : u2 = V.int t2 := r2
    refine ⟨_, rfl, _, _, _, _, rfl, rfl, SqL.of (w0.get (pre := [])), f2, _, _, rfl, rfl, _, rfl, ?_⟩
    refine post_ite hm (fun k3 hm => ?_) (fun k3 hm => ?_)
    · skip
      obtain ⟨t4, e4, hm⟩ := pb_get hm
      obtain ⟨u4, f4, r4⟩ := A2.at h_pool e4
      obtain rfl : u4 = V.int t4 := r4
      obtain ⟨c5, hm⟩ := pb_mod hm
      obtain ⟨t6, e6, hm⟩ := pb_get hm
      obtain ⟨u6, f6, r6⟩ := A2.at h_pool e6
      obtain rfl : u6 = V.int t6 := r6
      obtain ⟨c7, hm⟩ := pb_div hm
      obtain ⟨j8, l8, z8, e8, hm⟩ := pn_set hm
      refine ⟨_, rfl, _, _, _, _, rfl, rfl, SqL.of (w0.get (pre := [])), f4, _, rfl, _, _, rfl, rfl, c5, _, rfl, _, _, _, _, rfl, rfl, SqL.of (w0.get (pre := [])), f6, _, rfl, _, _, rfl, rfl, c7, _, rfl, _, _, _, _, rfl, rfl, (w0.get (pre := [])), (A2.ix h_pool z8), ?_⟩
      have h8 : A2 (rep K F0) (vs_pool.set j8 (V.int (t6 / x_many))) l8 := e8 ▸ A2.set rep_i j8 h_pool
      have w9 : W F0 _ ((a_pool, .lst (vs_pool.set j8 (V.int (t6 / x_many)))) :: os) := w0.set (pre := [])
      exact ⟨_, rfl, (post_ok hm) _ _ _ _ w9 sF rep_i h8⟩
    · skip
      obtain ⟨t10, e10, hm⟩ := pb_get hm
      obtain ⟨u10, f10, r10⟩ := A2.at h_pool e10
      obtain rfl : u10 = V.int t10 := r10
      obtain ⟨j13, l13, z13, e13, hm⟩ := pn_set hm
      refine ⟨_, rfl, _, _, _, _, rfl, rfl, SqL.of (w0.get (pre := [])), f10, _, _, rfl, rfl, (.inr (by constructor <;> decide)), _, _, rfl, rfl, _, _, rfl, rfl, (by show (0 : Int) < (2147483647 : Int); decide), _, rfl, _, _, _, _, rfl, rfl, (w0.get (pre := [])), (A2.ix h_pool z13), ?_⟩
      have h13 : A2 (rep K F0) (vs_pool.set j13 (V.int (((t10 * (48271 : Int)) + (12820163 : Int)) % (2147483647 : Int)))) l13 := e13 ▸ A2.set rep_i j13 h_pool
      have w14 : W F0 _ ((a_pool, .lst (vs_pool.set j13 (V.int (((t10 * (48271 : Int)) + (12820163 : Int)) % (2147483647 : Int))))) :: os) := w0.set (pre := [])
      obtain ⟨t15, e15, hm⟩ := pb_get hm
      obtain ⟨u15, f15, r15⟩ := A2.at h13 e15
      obtain rfl : u15 = V.int t15 := r15
      obtain ⟨t16, e16, hm⟩ := pb_get hm
      obtain ⟨u16, f16, r16⟩ := A2.at h13 e16
      obtain rfl : u16 = V.int t16 := r16
      obtain ⟨c17, hm⟩ := pb_mul hm
      obtain ⟨c22, hm⟩ := pb_mod hm
      exact ⟨_, rfl, _, _, _, _, rfl, rfl, SqL.of (w14.get (pre := [])), f15, _, rfl, _, _, _, _, rfl, rfl, SqL.of (w14.get (pre := [])), f16, _, _, rfl, rfl, c17, _, _, rfl, rfl, (by show (0 : Int) < (2147483629 : Int); decide), _, _, rfl, rfl, (.inr (by constructor <;> decide)), _, _, rfl, rfl, (by show (0 : Int) < (2147483587 : Int); decide), _, _, rfl, rfl, (by constructor <;> decide), _, rfl, _, _, rfl, rfl, c22, (post_ok hm) _ _ _ _ w14 sF rep_i h13⟩
def sp_law_some (K : Fg) : Sp := fun vs H Q E => ∃ (F : Hp) (os : List (Addr × HO)) (a_pool : Addr) (vs_pool : List V) (x_pool : (List Int)) (v_menu : V) (x_menu : (List Int)) (x_many : Int), vs = [.ref a_pool, v_menu, .int x_many] ∧ W F H ((a_pool, .lst vs_pool) :: os) ∧ A2 (rep K F) vs_pool x_pool ∧ rep K F v_menu x_menu ∧ Post (law_some x_pool x_menu x_many) (RetLM K F a_pool os Q) noX
theorem sc_law_some : FnScope ["pool", "menu", "many", "rest", "k"] ["pool", "menu", "many"] (defScope s_law_some) := ⟨rfl, rfl, rfl, by decide +kernel, rfl, by decide +kernel, by decide +kernel⟩
theorem ok_law_some (T : Tx K mg A FD) : FnOk P w K mg base CX0 2 (A 24) (FD 24) ["pool", "menu", "many"] (sp_law_some K) := by
  refine T.d24.fn.ok sc_law_some (fun vs H Q E h => ?_) (fun cdv Ar outer s H vs Q E hr h => ?_)
  · obtain ⟨F, os, a_pool, vs_pool, x_pool, v_menu, x_menu, x_many, rfl, _⟩ := h
    rfl
  · obtain ⟨F0, os, a_pool, vs_pool, x_pool, v_menu, x_menu, x_many, rfl, w0, h_pool, r_menu, hm⟩ := h
    have sF : Same F0 F0 := Same.refl _
    obtain ⟨a2, vs2, rfl, q2, h2⟩ := r_menu
    refine ⟨_, (pss_cons (ps_set (i := 3) sc_law_some.nd rfl (Or.inr rfl) (pe_callTy (call_list_ofK (K := K) rfl) (by rfl) T.n_list (by decide +kernel) (pa_cons (pv 1) pa_nil))) (pss_one (ps_ret (pe_lc (own := [("k", 4)]) (g := gName 4) (by rfl) sc_law_some.nd (pi_range1 (by rfl) T.n_range (pa_cons (pv 2) pa_nil)) (blkOk_by (own := [("k", 4)]) (N := ["pool", "menu", "many", "rest", "k"]) (sc := defScope s_law_some) (by decide +kernel)) (fun _ _ _ _ _ => (pg_name (i := 4) sc_law_some.nd rfl (Or.inl rfl))) (fun _ _ _ _ _ => pts_nil) (fun _ _ _ _ _ => (pe_k (K := K) (t := fun K => tBM K _ _ _ _) rfl (pe_bm PySem.F.plainAttrs_list PySem.F.slot_list_pop PySem.F.type_list_pop mt_popAt (pv 3) (pa_cons (pe_call (ok_law_take T) (hr.mono (by decide)) (by rfl) T.d23.mg T.d23.fn.kp T.d23.b .nil pass0 (pa_cons (pv 0) (pa_cons (pe_callB (call_lenN (K := K) rfl) (by rfl) T.n_len (by decide +kernel) (pa_cons (pv 3) pa_nil)) pa_nil))) pa_nil)))))))), ?_⟩
    have h3 : A2 (rep K F0) vs2 x_menu := h2
    refine ⟨_, rfl, _, _, rfl, .inl (SqL.of (w0.same _ _ q2)), fun p4 n4 => ?_⟩
    have w4 : W F0 _ ((p4, .lst vs2) :: (a_pool, .lst vs_pool) :: os) := w0.new n4
    obtain ⟨c5, hm⟩ := pb_rng hm
    refine ⟨_, rfl, _, rfl, c5.2.2.1, c5.2.2.2, fun D6 nD6 => ?_⟩
    refine lcMap (K := K) (tw_rng0 (j := x_many)) hm (fun (g6 : (List Int) × (List Int)) F' os' => ∃ (vs6_0 : List V) (vs6_1 : List V), os' = (p4, .lst vs6_0) :: (a_pool, .lst vs6_1) :: os ∧ A2 (rep K F') vs6_0 g6.1 ∧ A2 (rep K F') vs6_1 g6.2) w4 ⟨_, _, rfl, h3, h_pool⟩ nD6 (fun g F' H' os' acc s w o => by obtain ⟨_, _, rfl, _, _⟩ := o; exact trivial) ?_ ?_
    · -- one turn
      intro b6 g6 x6 F6 H6 H6' os6 acc6 N6 P6 s6 w6 o6 y6 hN6 hm
      obtain ⟨vs6_0, vs6_1, rfl, h6_0, h6_1⟩ := o6
      replace h2 := A2.mono s6 h2
      replace q2 := s6 _ _ q2
      replace sF := sF.trans s6
      obtain ⟨rfl, rfl⟩ := y6
      have w9 : W F6 _ ((a_pool, .lst vs6_1) :: (D6, .lst acc6) :: (p4, .lst vs6_0) :: os) := w6.front (pre := [_, _])
      refine ⟨rfl, _, rfl, .inl ⟨rfl, _, SqL.of (w6.get (pre := [_]))⟩, _, rfl, _, rfl, _, _, _, rfl, .inl (SqL.of (w6.get (pre := [_]))), h6_0.length, _, _, _, _, _, _, rfl, w9, h6_1, ?_⟩
      refine (post_bind hm).mono (fun y10 hm v10 vs10 F10 H10 w10 s10 r10 h10 => ?_) (fun _ z => z)
      replace h2 := A2.mono s10 h2
      replace q2 := s10 _ _ q2
      replace h6_0 := A2.mono s10 h6_0
      replace sF := sF.trans s10
      obtain rfl : v10 = V.int y10.1 := r10
      obtain ⟨j8, x8, l8, z8, i8, y8, e8, hm⟩ := pn_popB hm
      obtain ⟨u8, f8, r8⟩ := A2.get h6_0 y8
      refine ⟨_, _, _, _, _, rfl, rfl, (w10.get (pre := [_, _])), z8.1, z8.2, (ixN_seq (A2.ix h6_0 i8)).1, f8, ?_⟩
      have h8 : A2 (rep K F10) (vs6_0.eraseIdx j8) l8 := e8 ▸ A2.eraseIdx j8 h6_0
      obtain rfl : u8 = V.int x8 := r8
      have w11 : W F10 _ ((a_pool, .lst vs10) :: (D6, .lst acc6) :: (p4, .lst (vs6_0.eraseIdx j8)) :: os) := w10.set (pre := [_, _])
      have w12 : W F10 _ ((p4, .lst (vs6_0.eraseIdx j8)) :: (a_pool, .lst vs10) :: (D6, .lst acc6) :: os) := w11.front (pre := [_, _])
      have w13 : W F10 _ ((D6, .lst acc6) :: (p4, .lst (vs6_0.eraseIdx j8)) :: (a_pool, .lst vs10) :: os) := w12.front (pre := [_, _])
      exact hN6 _ _ (post_ok hm) _ _ _ _ w13 s10 ⟨_, _, rfl, h8, h10⟩ rep_i
    intro g6 us6 F6 H6 os6 ys6 s6 w6 o6 gg6 hm
    obtain ⟨vs6_0, vs6_1, rfl, h6_0, h6_1⟩ := o6
    replace h2 := A2.mono s6 h2
    replace q2 := s6 _ _ q2
    replace sF := sF.trans s6
    have w15 : W F6 _ ((D6, .lst us6) :: (a_pool, .lst vs6_1) :: os) := w6.drop (pre := [_])
    exact (post_ok hm) _ _ _ _ _ w15 sF gg6 h6_1
def sp_law_named (K : Fg) : Sp := fun vs H Q E => ∃ (F : Hp) (os : List (Addr × HO)) (a_pool : Addr) (vs_pool : List V) (x_pool : (List Int)) (x_many : Int) (v_ties : V) (x_ties : (List (Int × Int))), vs = [.ref a_pool, .int x_many, v_ties] ∧ W F H ((a_pool, .lst vs_pool) :: os) ∧ A2 (rep K F) vs_pool x_pool ∧ rep K F v_ties x_ties ∧ Post (law_named x_pool x_many x_ties) (RetM K F a_pool os Q) noX
theorem sc_law_named : FnScope ["pool", "many", "ties", "names", "a", "b"] ["pool", "many", "ties"] (defScope s_law_named) := ⟨rfl, rfl, rfl, by decide +kernel, rfl, by decide +kernel, by decide +kernel⟩
theorem ok_law_named (T : Tx K mg A FD) : FnOk P w K mg base CX0 3 (A 25) (FD 25) ["pool", "many", "ties"] (sp_law_named K) := by
  refine T.d25.fn.ok sc_law_named (fun vs H Q E h => ?_) (fun cdv Ar outer s H vs Q E hr h => ?_)
  · obtain ⟨F, os, a_pool, vs_pool, x_pool, x_many, v_ties, x_ties, rfl, _⟩ := h
    rfl
  · obtain ⟨F0, os, a_pool, vs_pool, x_pool, x_many, v_ties, x_ties, rfl, w0, h_pool, r_ties, hm⟩ := h
    have sF : Same F0 F0 := Same.refl _
    obtain ⟨a2, vs2, rfl, q2, h2⟩ := r_ties
    refine ⟨_, (pss_cons (ps_set (i := 3) sc_law_named.nd rfl (Or.inr rfl) (pe_call (ok_law_some T) (hr.mono (by decide)) (by rfl) T.d24.mg T.d24.fn.kp T.d24.b .nil pass0 (pa_cons (pv 0) (pa_cons (pe_listRg rfl (by rfl) T.n_list (prg_1 (by rfl) T.n_range (pv 1))) (pa_cons (pv 1) pa_nil))))) (pss_one (ps_ret (pe_tup (pa_cons (pv 1) (pa_cons (pe_callTy (call_tuple_ofK (K := K) rfl) (by rfl) T.n_tuple (by decide +kernel) (pa_cons (pe_callB (cr_sortP (K := K) rfl) (by rfl) T.n_sorted (by decide +kernel) (pa_cons (pe_lc (own := [("a", 4), ("b", 5)]) (g := _) (by rfl) sc_law_named.nd (pi_listK (K := K) rfl (pv 2)) (blkOk_by (own := [("a", 4), ("b", 5)]) (N := ["pool", "many", "ties", "names", "a", "b"]) (sc := defScope s_law_named) (by decide +kernel)) (fun _ _ _ _ _ => (pg_k (K := K) (t := fun K => gTup K 2 _) rfl (pg_tup (n := 2) rfl (pgs_cons (pg_name (i := 4) sc_law_named.nd rfl (Or.inl rfl)) (pgs_cons (pg_name (i := 5) sc_law_named.nd rfl (Or.inl rfl)) pgs_nil))))) (fun _ _ _ _ _ => pts_nil) (fun _ _ _ _ _ => (pe_tup (pa_cons (pe_callB (call_min2 rfl) (by rfl) T.n_min (by decide +kernel) (pa_cons (pe_ix (ix_listK (K := K) rfl) (pv 3) (pv 4) (fun _ _ => rfl)) (pa_cons (pe_ix (ix_listK (K := K) rfl) (pv 3) (pv 5) (fun _ _ => rfl)) pa_nil))) (pa_cons (pe_callB (call_max2 rfl) (by rfl) T.n_max (by decide +kernel) (pa_cons (pe_ix (ix_listK (K := K) rfl) (pv 3) (pv 4) (fun _ _ => rfl)) (pa_cons (pe_ix (ix_listK (K := K) rfl) (pv 3) (pv 5) (fun _ _ => rfl)) pa_nil))) pa_nil))))) pa_nil)) pa_nil)) pa_nil)))))), ?_⟩
    obtain ⟨l3, z3, e3, hm⟩ := pb_lrng hm
    have h3 : A2 (rep K F0) (rgV 0 x_many) l3 := by rw [e3, rgV_eq]; exact A2.of_ints
    refine ⟨_, rfl, _, rfl, _, rfl, z3, fun p4 n4 => ?_⟩
    have w4 : W F0 _ ((p4, .lst (rgV 0 x_many)) :: (a_pool, .lst vs_pool) :: os) := w0.new n4
    obtain ⟨F5, s5, w5, q5⟩ : ∃ F', Same F0 F' ∧ W F' _ ((a_pool, .lst vs_pool) :: os) ∧ F' p4 = some (.lst (rgV 0 x_many)) := w4.freezeE (pre := [])
    replace h_pool := A2.mono s5 h_pool
    replace q2 := s5 _ _ q2
    replace h2 := A2.mono s5 h2
    replace h3 := A2.mono s5 h3
    replace sF := sF.trans s5
    refine ⟨_, rfl, _, _, _, _, _, _, (l3 : (List Int)), _, rfl, w5, h_pool, (rep_lst q5 h3), ?_⟩
    refine (post_bind hm).mono (fun y6 hm p6 us6 vs6 F6 H6 w6 s6 g6 h6 => ?_) (fun _ z => z)
    replace q2 := s6 _ _ q2
    replace h2 := A2.mono s6 h2
    replace h3 := A2.mono s6 h3
    replace q5 := s6 _ _ q5
    replace sF := sF.trans s6
    obtain ⟨F8, s8, w8, q8⟩ : ∃ F', Same F6 F' ∧ W F' _ ((a_pool, .lst vs6) :: os) ∧ F' p6 = some (.lst us6) := w6.freezeE (pre := [])
    replace q2 := s8 _ _ q2
    replace h2 := A2.mono s8 h2
    replace h3 := A2.mono s8 h3
    replace q5 := s8 _ _ q5
    replace h6 := A2.mono s8 h6
    replace g6 := A2.mono s8 g6
    replace sF := sF.trans s8
    refine ⟨_, rfl, _, rfl, _, rfl, ⟨_, SqL.of (w8.same _ _ q2)⟩, fun D9 nD9 => ?_⟩
    refine lcM (K := K) (tw_list (a := a2) h2) hm w8 nD9 (fun F' H' acc s w => SqL.of (w.same _ _ (s _ _ q2))) ?_ ?_
    · -- one turn
      intro b9 x9 F9 H9 H9' acc9 N9 P9 s9 w9 y9 hN9 hm
      replace h2 := A2.mono s9 h2
      replace q2 := s9 _ _ q2
      replace g6 := A2.mono s9 g6
      replace q8 := s9 _ _ q8
      replace h6 := A2.mono s9 h6
      replace sF := sF.trans s9
      obtain ⟨rfl, r11⟩ := y9
      replace r11 := Rep.mono s9 r11
      obtain ⟨a12, u12, z12, rfl, q12, r12a, r12b⟩ := r11
      obtain rfl : u12 = V.int b9.1 := r12a
      obtain rfl : z12 = V.int b9.2 := r12b
      obtain ⟨t13, e13, hm⟩ := pb_get hm
      obtain ⟨u13, f13, r13⟩ := A2.at g6 e13
      obtain rfl : u13 = V.int t13 := r13
      obtain ⟨t14, e14, hm⟩ := pb_get hm
      obtain ⟨u14, f14, r14⟩ := A2.at g6 e14
      obtain rfl : u14 = V.int t14 := r14
      obtain ⟨t15, e15, hm⟩ := pb_get hm
      obtain ⟨u15, f15, r15⟩ := A2.at g6 e15
      obtain rfl : u15 = V.int t15 := r15
      obtain ⟨t16, e16, hm⟩ := pb_get hm
      obtain ⟨u16, f16, r16⟩ := A2.at g6 e16
      obtain rfl : u16 = V.int t16 := r16
      refine ⟨_, _, rfl, SqT.of (w9.same _ _ q12), rfl, _, _, rfl, _, _, rfl, rfl, rfl, _, rfl, _, rfl, _, _, _, _, rfl, rfl, SqL.of (w9.same _ _ q8), f13, _, rfl, _, rfl, _, _, _, _, rfl, rfl, SqL.of (w9.same _ _ q8), f14, _, _, rfl, _, rfl, _, rfl, _, _, _, _, rfl, rfl, SqL.of (w9.same _ _ q8), f15, _, rfl, _, rfl, _, _, _, _, rfl, rfl, SqL.of (w9.same _ _ q8), f16, _, _, rfl, (by show 2 ≤ sizeLine; decide), fun p17 n17 => ?_⟩
      obtain ⟨F17, s17, w17, q17⟩ := w9.frzE (o := .tup [(.int (min2 t13 t14)), (.int (max2 t15 t16))]) n17
      replace h2 := A2.mono s17 h2
      replace q2 := s17 _ _ q2
      replace g6 := A2.mono s17 g6
      replace q8 := s17 _ _ q8
      replace h6 := A2.mono s17 h6
      replace q12 := s17 _ _ q12
      replace sF := sF.trans s17
      exact hN9 _ (post_ok hm) _ _ _ w17 s17 (rep_pair q17 rep_i rep_i)
    intro us9 F9 H9 ys9 s9 w9 gg9 hm
    replace h2 := A2.mono s9 h2
    replace q2 := s9 _ _ q2
    replace g6 := A2.mono s9 g6
    replace q8 := s9 _ _ q8
    replace h6 := A2.mono s9 h6
    replace sF := sF.trans s9
    refine ⟨_, _, F9, ys9, rfl, SqL.of (w9.get (pre := [])), w9.same, gg9, fun p19 us19 n19 h19 => ?_⟩
    have w19 : W F9 _ ((p19, .lst us19) :: (D9, .lst us9) :: (a_pool, .lst vs6) :: os) := w9.new n19
    have h21 : A2 (rep K F9) us19 (sortP ys9) := h19
    refine ⟨_, _, rfl, .inl ⟨SqL.of (w19.get (pre := [])), fun p22 n22 => ?_⟩⟩
    obtain ⟨F22, s22, w22, q22⟩ := w19.frzE (o := .tup us19) n22
    replace h2 := A2.mono s22 h2
    replace q2 := s22 _ _ q2
    replace g6 := A2.mono s22 g6
    replace q8 := s22 _ _ q8
    replace h6 := A2.mono s22 h6
    replace gg9 := A2.mono s22 gg9
    replace h19 := A2.mono s22 h19
    replace h21 := A2.mono s22 h21
    replace sF := sF.trans s22
    refine ⟨(by show 2 ≤ sizeLine; decide), fun p23 n23 => ?_⟩
    obtain ⟨F23, s23, w23, q23⟩ := w22.frzE (o := .tup [(.int x_many), (.ref p22)]) n23
    replace h2 := A2.mono s23 h2
    replace q2 := s23 _ _ q2
    replace g6 := A2.mono s23 g6
    replace q8 := s23 _ _ q8
    replace h6 := A2.mono s23 h6
    replace gg9 := A2.mono s23 gg9
    replace h19 := A2.mono s23 h19
    replace h21 := A2.mono s23 h21
    replace q22 := s23 _ _ q22
    replace sF := sF.trans s23
    have w24 : W F23 _ ((D9, .lst us9) :: (a_pool, .lst vs6) :: os) := w23.drop (pre := [])
    have w25 : W F23 _ ((a_pool, .lst vs6) :: os) := w24.drop (pre := [])
    exact (post_ok hm) _ _ _ _ w25 sF (rep_pair q23 rep_i (rep_tup q22 h21)) h6
def sp_law_tree (K : Fg) : Sp := fun vs H Q E => ∃ (F : Hp) (os : List (Addr × HO)) (a_pool : Addr) (vs_pool : List V) (x_pool : (List Int)) (x_most : Int), vs = [.ref a_pool, .int x_most] ∧ W F H ((a_pool, .lst vs_pool) :: os) ∧ A2 (rep K F) vs_pool x_pool ∧ Post (law_tree x_pool x_most) (RetM K F a_pool os Q) noX
theorem sc_law_tree : FnScope ["pool", "most", "many", "shape", "ties", "k", "ahead"] ["pool", "most"] (defScope s_law_tree) := ⟨rfl, rfl, rfl, by decide +kernel, rfl, by decide +kernel, by decide +kernel⟩
theorem ok_law_tree (T : Tx K mg A FD) : FnOk P w K mg base CX0 4 (A 26) (FD 26) ["pool", "most"] (sp_law_tree K) := by
  refine T.d26.fn.ok sc_law_tree (fun vs H Q E h => ?_) (fun cdv Ar outer s H vs Q E hr h => ?_)
  · obtain ⟨F, os, a_pool, vs_pool, x_pool, x_most, rfl, _⟩ := h
    rfl
  · obtain ⟨F0, os, a_pool, vs_pool, x_pool, x_most, rfl, w0, h_pool, hm⟩ := h
    have sF : Same F0 F0 := Same.refl _
    refine ⟨_, (pss_cons (ps_set (i := 2) sc_law_tree.nd rfl (Or.inl rfl) (pe_op op_add pe_int (pe_call (ok_law_take T) (hr.mono (by decide)) (by rfl) T.d23.mg T.d23.fn.kp T.d23.b .nil pass0 (pa_cons (pv 0) (pa_cons (pv 1) pa_nil))))) (pss_cons (ps_set (i := 3) sc_law_tree.nd rfl (Or.inl rfl) (pe_call (ok_law_take T) (hr.mono (by decide)) (by rfl) T.d23.mg T.d23.fn.kp T.d23.b .nil pass0 (pa_cons (pv 0) (pa_cons pe_int pa_nil)))) (pss_cons (ps_set (i := 4) sc_law_tree.nd rfl (Or.inl rfl) (pe_lst pa_nil)) (pss_cons (ps_for PassesOwn.never rfl (pi_range2 (by rfl) T.n_range (pa_cons pe_int (pa_cons (pv 2) pa_nil))) (pg_name (i := 5) sc_law_tree.nd rfl (Or.inl rfl)) (pss_cons (ps_set (i := 6) sc_law_tree.nd rfl (Or.inl rfl) (pe_lst (pa_cons (pe_op op_sub (pv 5) pe_int) (pa_cons pe_int (pa_cons (pe_call (ok_law_take T) (hr.mono (by decide)) (by rfl) T.d23.mg T.d23.fn.kp T.d23.b .nil pass0 (pa_cons (pv 0) (pa_cons (pv 5) pa_nil))) (pa_cons (pe_callB (call_max2 rfl) (by rfl) T.n_max (by decide +kernel) (pa_cons pe_int (pa_cons (pe_op op_sub (pe_op op_sub (pv 5) pe_int) (pe_call (ok_law_take T) (hr.mono (by decide)) (by rfl) T.d23.mg T.d23.fn.kp T.d23.b .nil pass0 (pa_cons (pv 0) (pa_cons pe_int pa_nil)))) pa_nil))) (pa_cons (pe_call (ok_law_take T) (hr.mono (by decide)) (by rfl) T.d23.mg T.d23.fn.kp T.d23.b .nil pass0 (pa_cons (pv 0) (pa_cons (pe_callB (call_min2 rfl) (by rfl) T.n_min (by decide +kernel) (pa_cons (pv 5) (pa_cons pe_int pa_nil))) pa_nil))) pa_nil))))))) (pss_one (ps_expr (pe_bm PySem.F.plainAttrs_list PySem.F.slot_list_append PySem.F.type_list_append mt_append (pv 4) (pa_cons (pe_tup (pa_cons (pe_ix (ix_listK (K := K) rfl) (pe_op op_cat (pv 6) (pe_lst (pa_cons (pe_op op_fdiv (pe_op op_sub (pv 5) pe_int) pe_int) pa_nil))) (pv 3) (fun _ _ => rfl)) (pa_cons (pv 5) pa_nil))) pa_nil)))))) (pss_one (ps_ret (pe_call (ok_law_named T) (hr.mono (by decide)) (by rfl) T.d25.mg T.d25.fn.kp T.d25.b .nil pass0 (pa_cons (pv 0) (pa_cons (pv 2) (pa_cons (pv 4) pa_nil)))))))))), ?_⟩
    refine ⟨_, rfl, _, rfl, _, _, _, _, _, _, rfl, w0, h_pool, ?_⟩
    refine (post_bind hm).mono (fun y2 hm v2 vs2 F2 H2 w2 s2 r2 h2 => ?_) (fun _ z => z)
    replace sF := sF.trans s2
    obtain rfl : v2 = V.int y2.1 := r2
    refine ⟨_, _, rfl, rfl, _, rfl, _, _, _, _, _, _, rfl, w2, h2, ?_⟩
    refine (post_bind hm).mono (fun y3 hm v3 vs3 F3 H3 w3 s3 r3 h3 => ?_) (fun _ z => z)
    replace sF := sF.trans s3
    obtain rfl : v3 = V.int y3.1 := r3
    have h4 : A2 (rep K F3) [] ([] : (List (Int × Int))) := .nil
    refine ⟨(by show 0 ≤ sizeLine; decide), fun p5 n5 => ?_⟩
    have w5 : W F3 _ ((p5, .lst []) :: (a_pool, .lst vs3) :: os) := w3.new n5
    obtain ⟨c7, hm⟩ := pb_rng hm
    refine ⟨_, rfl, _, _, rfl, c7, ?_⟩
    refine forS (tw_rng (i := (1 : Int)) (j := ((1 : Int) + y2.1))) hm (fun (g6 : (List (Int × Int)) × (List Int)) σ H' => ∃ (F' : Hp) (vs6_0 : List V) (vs6_1 : List V) (o6_6 : Option V) (o6_5 : Option V), σ = [some (.ref a_pool), some (.int x_most), some (.int ((1 : Int) + y2.1)), some (.int y3.1), some (.ref p5), o6_5, o6_6] ∧ Same F3 F' ∧ W F' H' ((p5, .lst vs6_0) :: (a_pool, .lst vs6_1) :: os) ∧ A2 (rep K F') vs6_0 g6.1 ∧ A2 (rep K F') vs6_1 g6.2) ⟨_, _, _, _, _, rfl, Same.refl _, w5, h4, h3⟩ (fun _ _ _ _ => trivial) ?_ ?_
    · -- a turn
      intro b6 g6 x6 σ6 H6 H6' N6 P6 hI hy hN6 hm
      obtain ⟨F6, vs6_0, vs6_1, o6_6, o6_5, rfl, s6, w6, h6_0, h6_1⟩ := hI
      replace sF := sF.trans s6
      obtain ⟨rfl, rfl⟩ := hy
      have w8 : W F6 _ ((a_pool, .lst vs6_1) :: (p5, .lst vs6_0) :: os) := w6.front (pre := [_])
      refine ⟨_, rfl, _, _, rfl, rfl, _, rfl, _, rfl, _, _, _, _, _, _, rfl, w8, h6_1, ?_⟩
      refine (post_bind hm).mono (fun y9 hm v9 vs9 F9 H9 w9 s9 r9 h9 => ?_) (fun _ z => z)
      replace h6_0 := A2.mono s9 h6_0
      replace sF := sF.trans s9
      obtain rfl : v9 = V.int y9.1 := r9
      refine ⟨_, rfl, _, _, rfl, rfl, _, rfl, _, _, _, _, _, _, rfl, w9, h9, ?_⟩
      refine (post_bind hm).mono (fun y10 hm v10 vs10 F10 H10 w10 s10 r10 h10 => ?_) (fun _ z => z)
      replace h6_0 := A2.mono s10 h6_0
      replace sF := sF.trans s10
      obtain rfl : v10 = V.int y10.1 := r10
      refine ⟨_, _, rfl, rfl, _, _, rfl, _, rfl, _, rfl, _, _, rfl, _, _, _, _, _, _, rfl, w10, h10, ?_⟩
      refine (post_bind hm).mono (fun y11 hm v11 vs11 F11 H11 w11 s11 r11 h11 => ?_) (fun _ z => z)
      replace h6_0 := A2.mono s11 h6_0
      replace sF := sF.trans s11
      obtain rfl : v11 = V.int y11.1 := r11
      have h12 : A2 (rep K F11) [(.int (b6 - (1 : Int))), (.int 0), (.int y9.1), (.int (max2 (0 : Int) ((b6 - (1 : Int)) - y10.1))), (.int y11.1)] ([(b6 - (1 : Int)), (0 : Int), y9.1, (max2 (0 : Int) ((b6 - (1 : Int)) - y10.1)), y11.1] : (List Int)) := .cons rep_i (.cons rep_i (.cons rep_i (.cons rep_i (.cons rep_i (.nil)))))
      refine ⟨(by show 5 ≤ sizeLine; decide), fun p13 n13 => ?_⟩
      have w13 : W F11 _ ((p13, .lst [(.int (b6 - (1 : Int))), (.int 0), (.int y9.1), (.int (max2 (0 : Int) ((b6 - (1 : Int)) - y10.1))), (.int y11.1)]) :: (a_pool, .lst vs11) :: (p5, .lst vs6_0) :: os) := w11.new n13
      obtain ⟨F14, s14, w14, q14⟩ : ∃ F', Same F11 F' ∧ W F' _ ((a_pool, .lst vs11) :: (p5, .lst vs6_0) :: os) ∧ F' p13 = some (.lst [(.int (b6 - (1 : Int))), (.int 0), (.int y9.1), (.int (max2 (0 : Int) ((b6 - (1 : Int)) - y10.1))), (.int y11.1)]) := w13.freezeE (pre := [])
      replace h6_0 := A2.mono s14 h6_0
      replace h11 := A2.mono s14 h11
      replace h12 := A2.mono s14 h12
      replace sF := sF.trans s14
      have h16 : A2 (rep K F14) [(.int ((b6 - (1 : Int)) / (2 : Int)))] ([((b6 - (1 : Int)) / (2 : Int))] : (List Int)) := .cons rep_i (.nil)
      refine ⟨_, rfl, .inl ⟨rfl, _, SqL.of (w14.get (pre := [_]))⟩, _, rfl, _, rfl, _, _, rfl, rfl, _, _, rfl, rfl, (by constructor <;> decide), (by show 1 ≤ sizeLine; decide), fun p17 n17 => ?_⟩
      have w17 : W F14 _ ((p17, .lst [(.int ((b6 - (1 : Int)) / (2 : Int)))]) :: (a_pool, .lst vs11) :: (p5, .lst vs6_0) :: os) := w14.new n17
      obtain ⟨l18, z18, e18, hm⟩ := pn_extend hm
      have h18 : A2 (rep K F14) ([(.int (b6 - (1 : Int))), (.int 0), (.int y9.1), (.int (max2 (0 : Int) ((b6 - (1 : Int)) - y10.1))), (.int y11.1)] ++ [(.int ((b6 - (1 : Int)) / (2 : Int)))]) l18 := e18 ▸ A2.append h12 h16
      refine ⟨_, _, _, _, rfl, rfl, (w17.same _ _ q14), (w17.get (pre := [])), (A2.le2 h12 h16 z18), fun p19 n19 => ?_⟩
      generalize (([(.int (b6 - (1 : Int))), (.int 0), (.int y9.1), (.int (max2 (0 : Int) ((b6 - (1 : Int)) - y10.1))), (.int y11.1)] ++ [(.int ((b6 - (1 : Int)) / (2 : Int)))]) : List V) = u19 at h18 ⊢
      have w19 : W F14 _ ((p19, .lst u19) :: (p17, .lst [(.int ((b6 - (1 : Int)) / (2 : Int)))]) :: (a_pool, .lst vs11) :: (p5, .lst vs6_0) :: os) := w17.new n19
      obtain ⟨t20, e20, hm⟩ := pb_get hm
      obtain ⟨u20, f20, r20⟩ := A2.at h18 e20
      obtain rfl : u20 = V.int t20 := r20
      refine ⟨_, rfl, _, _, _, _, rfl, rfl, SqL.of (w19.get (pre := [])), f20, _, rfl, (by show 2 ≤ sizeLine; decide), fun p21 n21 => ?_⟩
      obtain ⟨F21, s21, w21, q21⟩ := w19.frzE (o := .tup [(.int t20), (.int b6)]) n21
      replace h12 := A2.mono s21 h12
      replace q14 := s21 _ _ q14
      replace h11 := A2.mono s21 h11
      replace h6_0 := A2.mono s21 h6_0
      replace h16 := A2.mono s21 h16
      replace h18 := A2.mono s21 h18
      replace sF := sF.trans s21
      obtain ⟨l22, z22, e22, hm⟩ := pn_app hm
      refine ⟨_, _, _, rfl, rfl, (w21.get (pre := [_, _, _])), (A2.lt h6_0 z22), ?_⟩
      have h22 : A2 (rep K F21) (vs6_0 ++ [(V.ref p21)]) l22 := e22 ▸ A2.snoc h6_0 (rep_pair q21 rep_i rep_i)
      have w23 : W F21 _ ((p19, .lst u19) :: (p17, .lst [(.int ((b6 - (1 : Int)) / (2 : Int)))]) :: (a_pool, .lst vs11) :: (p5, .lst (vs6_0 ++ [(V.ref p21)])) :: os) := w21.set (pre := [_, _, _])
      have w24 : W F21 _ ((p17, .lst [(.int ((b6 - (1 : Int)) / (2 : Int)))]) :: (a_pool, .lst vs11) :: (p5, .lst (vs6_0 ++ [(V.ref p21)])) :: os) := w23.drop (pre := [])
      have w25 : W F21 _ ((a_pool, .lst vs11) :: (p5, .lst (vs6_0 ++ [(V.ref p21)])) :: os) := w24.drop (pre := [])
      have w26 : W F21 _ ((p5, .lst (vs6_0 ++ [(V.ref p21)])) :: (a_pool, .lst vs11) :: os) := w25.front (pre := [_])
      exact hN6 _ (post_ok hm) _ _ ⟨_, _, _, _, _, rfl, (s6.trans (s9.trans (s10.trans (s11.trans (s14.trans s21))))), w26, h22, h11⟩
    intro g6 σ6 H6 hI hm
    obtain ⟨F6, vs6_0, vs6_1, o6_6, o6_5, rfl, s6, w6, h6_0, h6_1⟩ := hI
    replace sF := sF.trans s6
    obtain ⟨F27, s27, w27, q27⟩ : ∃ F', Same F6 F' ∧ W F' _ ((a_pool, .lst vs6_1) :: os) ∧ F' p5 = some (.lst vs6_0) := w6.freezeE (pre := [])
    replace h6_0 := A2.mono s27 h6_0
    replace h6_1 := A2.mono s27 h6_1
    replace sF := sF.trans s27
    refine ⟨_, rfl, _, rfl, _, rfl, _, _, _, _, _, _, _, (g6.1 : (List (Int × Int))), rfl, w27, h6_1, (rep_lst q27 h6_0), ?_⟩
    refine (post_bind hm).mono (fun y28 hm v28 vs28 F28 H28 w28 s28 r28 h28 => ?_) (fun _ z => z)
    replace h6_0 := A2.mono s28 h6_0
    replace q27 := s28 _ _ q27
    replace sF := sF.trans s28
    obtain ⟨a29, u29, z29, rfl, q29, r29a, r29b⟩ := r28
    obtain rfl : u29 = V.int y28.1.1 := r29a
    obtain ⟨a30, vs30, rfl, q30, h30⟩ := r29b
    exact (post_ok hm) _ _ _ _ w28 sF (rep_pair q29 rep_i (rep_tup q30 h30)) h28
def sp_law_near (K : Fg) : Sp := fun vs H Q E => ∃ (F : Hp) (os : List (Addr × HO)) (v_web : V) (x_web : (Int × (Tup (Int × Int)))), vs = [v_web] ∧ W F H (os) ∧ rep K F v_web x_web ∧ Post (law_near x_web) (Ret K F os Q) noX
theorem sc_law_near : FnScope ["web", "found", "a", "b", "place", "row"] ["web"] (defScope s_law_near) := ⟨rfl, rfl, rfl, by decide +kernel, rfl, by decide +kernel, by decide +kernel⟩
theorem ok_law_near (T : Tx K mg A FD) : FnOk P w K mg base CX0 1 (A 27) (FD 27) ["web"] (sp_law_near K) := by
  refine T.d27.fn.ok sc_law_near (fun vs H Q E h => ?_) (fun cdv Ar outer s H vs Q E hr h => ?_)
  · obtain ⟨F, os, v_web, x_web, rfl, _⟩ := h
    rfl
  · obtain ⟨F0, os, v_web, x_web, rfl, w0, r_web, hm⟩ := h
    have sF : Same F0 F0 := Same.refl _
    obtain ⟨a1, u1, z1, rfl, q1, r1a, r1b⟩ := r_web
    obtain rfl : u1 = V.int x_web.1 := r1a
    obtain ⟨a2, vs2, rfl, q2, h2⟩ := r1b
    have hr_g : Sto K F0 [] [] ([] : List (List Int)) := Sto.nil
    replace w0 : W F0 _ ((nz [] [] ++ os)) := w0
    refine ⟨_, (pss_cons (ps_setLc (i := 1) (own := [("place", 4)]) (g := gName 4) (by rfl) sc_law_near.nd rfl rfl (sw_true rfl rfl rfl (by decide +kernel)) (pi_range1 (by rfl) T.n_range (pa_cons (pe_ix (ix_tupK (K := K) rfl) (pv 0) pe_int (fun _ _ => rfl)) pa_nil)) (blkOk_by (own := [("place", 4)]) (N := ["web", "found", "a", "b", "place", "row"]) (sc := defScope s_law_near) (by decide +kernel)) (fun _ _ _ _ _ => (pg_name (i := 4) sc_law_near.nd rfl (Or.inl rfl))) (fun _ _ _ _ _ => pts_nil) (fun _ _ _ _ _ => (pe_lst pa_nil))) (pss_cons (ps_for PassesOwn.never rfl (pi_tupK (K := K) rfl (pe_ix (ix_tupK (K := K) rfl) (pv 0) pe_int (fun _ _ => rfl))) (pg_k (K := K) (t := fun K => gTup K 2 _) rfl (pg_tup (n := 2) rfl (pgs_cons (pg_name (i := 2) sc_law_near.nd rfl (Or.inl rfl)) (pgs_cons (pg_name (i := 3) sc_law_near.nd rfl (Or.inl rfl)) pgs_nil)))) (pss_cons (ps_expr (pe_bm PySem.F.plainAttrs_list PySem.F.slot_list_append PySem.F.type_list_append mt_append (pe_ix (ix_listK (K := K) rfl) (pv 1) (pv 2) (fun _ _ => rfl)) (pa_cons (pv 3) pa_nil))) (pss_one (ps_expr (pe_bm PySem.F.plainAttrs_list PySem.F.slot_list_append PySem.F.type_list_append mt_append (pe_ix (ix_listK (K := K) rfl) (pv 1) (pv 3) (fun _ _ => rfl)) (pa_cons (pv 2) pa_nil)))))) (pss_one (ps_ret (pe_lc (own := [("row", 5)]) (g := gName 5) (by rfl) sc_law_near.nd (pi_listK (K := K) rfl (pv 1)) (blkOk_by (own := [("row", 5)]) (N := ["web", "found", "a", "b", "place", "row"]) (sc := defScope s_law_near) (by decide +kernel)) (fun _ _ _ _ _ => (pg_name (i := 5) sc_law_near.nd rfl (Or.inl rfl))) (fun _ _ _ _ _ => pts_nil) (fun _ _ _ _ _ => (pe_callB (cr_sortI (K := K) rfl) (by rfl) T.n_sorted (by decide +kernel) (pa_cons (pv 5) pa_nil)))))))), ?_⟩
    obtain ⟨c4, hm⟩ := pb_rng hm
    refine ⟨_, rfl, _, _, _, _, rfl, rfl, SqT.of (w0.same _ _ q1), rfl, _, rfl, c4.2.2.1, c4.2.2.2, fun D5 nD5 => ?_⟩
    refine lcGM (tw_rng0 (j := x_web.1)) hm (fun (g5 : (List (List Int))) F' os' us ys => ∃ (as5_0 : List Addr) (vs5_0 : List (List V)), os' = (nz as5_0 vs5_0 ++ os) ∧ [] <+: as5_0 ∧ Sto K F' as5_0 vs5_0 g5 ∧ A2 (RX as5_0) us ys) w0 ⟨_, _, rfl, pfx_refl, hr_g, .nil⟩ nD5 (fun _ _ _ _ _ o => by obtain ⟨_, _, rfl, _, _, h⟩ := o; exact h.length) (fun g F' H' os' acc ys s w o => by obtain ⟨_, _, rfl, _, _, _⟩ := o; exact trivial) ?_ ?_
    · -- one turn
      intro b5 g5 x5 F5 H5 H5' os5 acc5 ya5 N5 P5 s5 w5 o5 y5 hN5 hm
      obtain ⟨as5_0, vs5_0, rfl, p5_0, h5_0, ha5⟩ := o5
      replace q1 := s5 _ _ q1
      replace q2 := s5 _ _ q2
      replace h2 := A2.mono s5 h2
      replace sF := sF.trans s5
      obtain ⟨rfl, rfl⟩ := y5
      have h7 : A2 (rep K F5) [] ([] : (List Int)) := .nil
      refine ⟨rfl, (by show 0 ≤ sizeLine; decide), fun p8 n8 => ?_⟩
      have w8 : W F5 _ ((p8, .lst []) :: (D5, .lst acc5) :: (nz as5_0 vs5_0 ++ os)) := w5.new n8
      obtain ⟨j9, st9, ej9, es9, hm⟩ := pn_newS hm
      have w9 : W F5 _ ((D5, .lst acc5) :: (nz (as5_0 ++ [p8]) (vs5_0 ++ [[]]) ++ os)) := w8.nadd (pre := [_]) h5_0.len
      have q9 : (as5_0 ++ [p8])[j9]? = some p8 := IQ.new (h5_0.len2.trans ej9.symm)
      have h9 : Sto K F5 (as5_0 ++ [p8]) (vs5_0 ++ [[]]) st9 := es9 ▸ Sto.snoc (p := p8) h5_0 h7
      replace ha5 := A2.imp (fun _ _ => RX.mono (pfx_snoc (p := p8))) ha5
      exact hN5 _ _ (post_ok hm) _ _ _ _ w9 (Same.refl _) ⟨_, _, rfl, (pfx_trans p5_0 (pfx_snoc (p := p8))), h9, A2.snoc ha5 ⟨_, rfl, q9⟩⟩
    intro g5 us5 F5 H5 os5 ys5 s5 w5 o5 hm
    obtain ⟨as5_0, vs5_0, rfl, p5_0, h5_0, gg5⟩ := o5
    replace q1 := s5 _ _ q1
    replace q2 := s5 _ _ q2
    replace h2 := A2.mono s5 h2
    replace sF := sF.trans s5
    refine ⟨_, rfl, _, _, _, _, rfl, rfl, SqT.of (w5.same _ _ q1), rfl, _, rfl, ⟨_, SqT.of (w5.same _ _ q2)⟩, ?_⟩
    refine forS (tw_tup (a := a2) h2) hm (fun (g11 : (List (List Int))) σ H' => ∃ (F' : Hp) (as11_0 : List Addr) (vs11_0 : List (List V)) (o11_2 : Option V) (o11_3 : Option V), σ = [some (.ref a1), some (.ref D5), o11_2, o11_3, none, none] ∧ Same F5 F' ∧ W F' H' ((D5, .lst us5) :: (nz as11_0 vs11_0 ++ os)) ∧ as5_0 <+: as11_0 ∧ Sto K F' as11_0 vs11_0 g11) ⟨_, _, _, _, _, rfl, Same.refl _, w5, pfx_refl, h5_0⟩ (fun g σ H' hI => by obtain ⟨F', _, _, _, _, _, s, w, _⟩ := hI; exact SqT.of (w.same _ _ (s _ _ q2))) ?_ ?_
    · -- a turn
      intro b11 g11 x11 σ11 H11 H11' N11 P11 hI hy hN11 hm
      obtain ⟨F11, as11_0, vs11_0, o11_2, o11_3, rfl, s11, w11, p11_0, h11_0⟩ := hI
      replace q1 := s11 _ _ q1
      replace h2 := A2.mono s11 h2
      replace q2 := s11 _ _ q2
      replace sF := sF.trans s11
      replace gg5 := A2.imp (fun _ _ => RX.mono p11_0) gg5
      obtain ⟨rfl, r12⟩ := hy
      replace r12 := Rep.mono s11 r12
      obtain ⟨a13, u13, z13, rfl, q13, r13a, r13b⟩ := r12
      obtain rfl : u13 = V.int b11.1 := r13a
      obtain rfl : z13 = V.int b11.2 := r13b
      obtain ⟨t14, e14, hm⟩ := pb_get hm
      obtain ⟨u14, f14, r14⟩ := A2.at gg5 e14
      obtain ⟨a15, rfl, q15⟩ := r14
      obtain ⟨x16, e16, hm⟩ := pb_getS hm
      obtain ⟨vs16, i16, h16⟩ := Sto.getq h11_0 e16 q15
      obtain ⟨l17, z17, e17, hm⟩ := pn_app hm
      obtain ⟨st17, es17, hm⟩ := pn_setS hm
      refine ⟨_, _, rfl, SqT.of (w11.same _ _ q13), rfl, _, _, rfl, _, _, rfl, rfl, _, rfl, _, rfl, _, _, _, _, rfl, rfl, SqL.of (w11.get (pre := [])), f14, .inl ⟨rfl, _, SqL.of (W.nget (pre := [_]) w11 q15 i16)⟩, _, rfl, _, _, _, rfl, rfl, (W.nget (pre := [_]) w11 q15 i16), (A2.lt h16 z17), ?_⟩
      have h17 : Sto K F11 as11_0 (vs11_0.set t14 (vs16 ++ [(V.int b11.2)])) st17 := es17 ▸ Sto.set h11_0 (e17 ▸ A2.snoc h16 rep_i)
      have w17 : W F11 _ ((D5, .lst us5) :: (nz as11_0 (vs11_0.set t14 (vs16 ++ [(V.int b11.2)])) ++ os)) := w11.nset (pre := [_]) (vs16 ++ [(V.int b11.2)]) q15 i16
      obtain ⟨t18, e18, hm⟩ := pb_get hm
      obtain ⟨u18, f18, r18⟩ := A2.at gg5 e18
      obtain ⟨a19, rfl, q19⟩ := r18
      obtain ⟨x20, e20, hm⟩ := pb_getS hm
      obtain ⟨vs20, i20, h20⟩ := Sto.getq h17 e20 q19
      obtain ⟨l21, z21, e21, hm⟩ := pn_app hm
      obtain ⟨st21, es21, hm⟩ := pn_setS hm
      refine ⟨_, rfl, _, rfl, _, _, _, _, rfl, rfl, SqL.of (w17.get (pre := [])), f18, .inl ⟨rfl, _, SqL.of (W.nget (pre := [_]) w17 q19 i20)⟩, _, rfl, _, _, _, rfl, rfl, (W.nget (pre := [_]) w17 q19 i20), (A2.lt h20 z21), ?_⟩
      have h21 : Sto K F11 as11_0 ((vs11_0.set t14 (vs16 ++ [(V.int b11.2)])).set t18 (vs20 ++ [(V.int b11.1)])) st21 := es21 ▸ Sto.set h17 (e21 ▸ A2.snoc h20 rep_i)
      have w21 : W F11 _ ((D5, .lst us5) :: (nz as11_0 ((vs11_0.set t14 (vs16 ++ [(V.int b11.2)])).set t18 (vs20 ++ [(V.int b11.1)])) ++ os)) := w17.nset (pre := [_]) (vs20 ++ [(V.int b11.1)]) q19 i20
      exact hN11 _ (post_ok hm) _ _ ⟨_, _, _, _, _, rfl, s11, w21, p11_0, h21⟩
    intro g11 σ11 H11 hI hm
    obtain ⟨F11, as11_0, vs11_0, o11_2, o11_3, rfl, s11, w11, p11_0, h11_0⟩ := hI
    replace q1 := s11 _ _ q1
    replace h2 := A2.mono s11 h2
    replace q2 := s11 _ _ q2
    replace sF := sF.trans s11
    replace gg5 := A2.imp (fun _ _ => RX.mono p11_0) gg5
    refine ⟨_, rfl, _, rfl, ⟨_, SqL.of (w11.get (pre := []))⟩, fun D22 nD22 => ?_⟩
    refine lcM (K := K) (tw_listR (a := D5) gg5) hm w11 nD22 (fun F' H' acc s w => SqL.of (w.get (pre := [_]))) ?_ ?_
    · -- one turn
      intro b22 x22 F22 H22 H22' acc22 N22 P22 s22 w22 y22 hN22 hm
      replace q1 := s22 _ _ q1
      replace h2 := A2.mono s22 h2
      replace q2 := s22 _ _ q2
      replace h11_0 := Sto.mono s22 h11_0
      replace sF := sF.trans s22
      obtain ⟨rfl, r24⟩ := y22
      obtain ⟨a25, rfl, q25⟩ := r24
      obtain ⟨x26, e26, hm⟩ := pb_getS hm
      obtain ⟨vs26, i26, h26⟩ := Sto.getq h11_0 e26 q25
      have h27 : A2 (rep K F22) ((sortI x26).map V.int) (sortI x26) := A2.of_ints
      refine ⟨rfl, _, rfl, _, _, rfl, ints_q (SqL.of (W.nget (pre := [_, _]) w22 q25 i26)) h26, fun p28 n28 => ?_⟩
      have w28 : W F22 _ ((p28, .lst ((sortI x26).map V.int)) :: (D22, .lst acc22) :: (D5, .lst us5) :: (nz as11_0 vs11_0 ++ os)) := w22.new n28
      obtain ⟨F29, s29, w29, q29⟩ : ∃ F', Same F22 F' ∧ W F' _ ((D22, .lst acc22) :: (D5, .lst us5) :: (nz as11_0 vs11_0 ++ os)) ∧ F' p28 = some (.lst ((sortI x26).map V.int)) := w28.freezeE (pre := [])
      replace q1 := s29 _ _ q1
      replace h2 := A2.mono s29 h2
      replace q2 := s29 _ _ q2
      replace h11_0 := Sto.mono s29 h11_0
      replace h26 := A2.mono s29 h26
      replace h27 := A2.mono s29 h27
      replace sF := sF.trans s29
      exact hN22 _ (post_ok hm) _ _ _ w29 s29 (rep_lst q29 h27)
    intro us22 F22 H22 ys22 s22 w22 gg22 hm
    replace q1 := s22 _ _ q1
    replace h2 := A2.mono s22 h2
    replace q2 := s22 _ _ q2
    replace h11_0 := Sto.mono s22 h11_0
    replace sF := sF.trans s22
    obtain ⟨F31, s31, w31, q31⟩ : ∃ F', Same F22 F' ∧ W F' _ ((D5, .lst us5) :: (nz as11_0 vs11_0 ++ os)) ∧ F' D22 = some (.lst us22) := w22.freezeE (pre := [])
    replace q1 := s31 _ _ q1
    replace h2 := A2.mono s31 h2
    replace q2 := s31 _ _ q2
    replace h11_0 := Sto.mono s31 h11_0
    replace gg22 := A2.mono s31 gg22
    replace sF := sF.trans s31
    have w32 : W F31 _ ((nz as11_0 vs11_0 ++ os)) := w31.drop (pre := [])
    have w33 : W F31 _ (os) := w32.dropL (pre := [])
    exact (post_ok hm) _ _ _ w33 sF (rep_lst q31 gg22)
def sp_law_steps (K : Fg) : Sp := fun vs H Q E => ∃ (F : Hp) (os : List (Addr × HO)) (v_near : V) (x_near : (List (List Int))) (x_place : Int), vs = [v_near, .int x_place] ∧ W F H (os) ∧ rep K F v_near x_near ∧ Post (law_steps x_near x_place) (Ret K F os Q) noX
theorem sc_law_steps : FnScope ["near", "place", "found", "edge", "beyond", "one", "other"] ["near", "place"] (defScope s_law_steps) := ⟨rfl, rfl, rfl, by decide +kernel, rfl, by decide +kernel, by decide +kernel⟩
theorem ok_law_steps (T : Tx K mg A FD) : FnOk P w K mg base CX0 1 (A 28) (FD 28) ["near", "place"] (sp_law_steps K) := by
  refine T.d28.fn.ok sc_law_steps (fun vs H Q E h => ?_) (fun cdv Ar outer s H vs Q E hr h => ?_)
  · obtain ⟨F, os, v_near, x_near, x_place, rfl, _⟩ := h
    rfl
  · obtain ⟨F0, os, v_near, x_near, x_place, rfl, w0, r_near, hm⟩ := h
    have sF : Same F0 F0 := Same.refl _
    obtain ⟨a1, vs1, rfl, q1, h1⟩ := r_near
    refine ⟨_, (pss_cons (ps_set (i := 2) sc_law_steps.nd rfl (Or.inl rfl) (pe_disp (pps_cons (pv 1) pe_int pps_nil) rfl rfl (by simp) (by simp))) (pss_cons (ps_set (i := 3) sc_law_steps.nd rfl (Or.inl rfl) (pe_lst (pa_cons (pv 1) pa_nil))) (pss_cons (ps_while PassesOwn.never (pt_cmp (pc_gt (pe_callB (call_lenN (K := K) rfl) (by rfl) T.n_len (by decide +kernel) (pa_cons (pv 3) pa_nil)) pe_int)) (pss_cons (ps_set (i := 4) sc_law_steps.nd rfl (Or.inl rfl) (pe_lst pa_nil)) (pss_cons (ps_for PassesOwn.never rfl (pi_listK (K := K) rfl (pv 3)) (pg_name (i := 5) sc_law_steps.nd rfl (Or.inl rfl)) (pss_one (ps_for PassesOwn.never rfl (pi_listK (K := K) rfl (pe_ix (ix_listK (K := K) rfl) (pv 0) (pv 5) (fun _ _ => rfl))) (pg_name (i := 6) sc_law_steps.nd rfl (Or.inl rfl)) (pss_one (ps_if (pt_cmp (pc_dnotinH (Room.units1 hr) (pv 6) (pv 2))) (pss_cons (ps_dput (Room.units1 hr) (pv 2) (pv 6) (pe_op op_add (pe_dget (Room.units1 hr) (pv 2) (pv 5) (fun _ _ => rfl)) pe_int) (by rfl)) (pss_one (ps_expr (pe_bm PySem.F.plainAttrs_list PySem.F.slot_list_append PySem.F.type_list_append mt_append (pv 4) (pa_cons (pv 6) pa_nil))))) pss_nil))))) (pss_one (ps_set (i := 3) sc_law_steps.nd rfl (Or.inl rfl) (pv 4)))))) (pss_one (ps_ret (pv 2)))))), ?_⟩
    refine fun p2 n2 => ?_
    have w2 : W F0 _ ((p2, .dK []) :: os) := w0.new n2
    refine ⟨_, rfl, (w2.get (pre := [])), encM kI V.int ([(x_place, (0 : Int))] : List (Int × Int)), rfl, (by show 1 ≤ 15; decide), ?_⟩
    have w3 : W F0 _ ((p2, .dK (mergeK [] (encM kI V.int ([(x_place, (0 : Int))] : List (Int × Int))))) :: os) := w2.set (pre := [])
    have h2 : (mergeK [] (encM kI V.int ([(x_place, (0 : Int))] : List (Int × Int)))) = encM kI V.int (mmk ([(x_place, (0 : Int))] : List (Int × Int))) := merge_enc _ []
    have h4 : A2 (rep K F0) [(.int x_place)] ([x_place] : (List Int)) := .cons rep_i (.nil)
    refine ⟨_, rfl, (by show 1 ≤ sizeLine; decide), fun p5 n5 => ?_⟩
    have w5 : W F0 _ ((p5, .lst [(.int x_place)]) :: (p2, .dK (mergeK [] (encM kI V.int ([(x_place, (0 : Int))] : List (Int × Int))))) :: os) := w3.new n5
    obtain ⟨F6, s6, w6, q6⟩ : ∃ F', Same F0 F' ∧ W F' _ ((p2, .dK (mergeK [] (encM kI V.int ([(x_place, (0 : Int))] : List (Int × Int))))) :: os) ∧ F' p5 = some (.lst [(.int x_place)]) := w5.freezeE (pre := [])
    replace h1 := A2.mono s6 h1
    replace q1 := s6 _ _ q1
    replace h4 := A2.mono s6 h4
    replace sF := sF.trans s6
    refine stepN ?_
    try dsimp only
    refine stepSeq (whileS hm (fun (g7 : (List Int) × (List (Int × Int))) σ H' => ∃ (F' : Hp) (v7_3 : V) (vs7_0 : List (Key × V)) (o7_4 : Option V) (o7_5 : Option V) (o7_6 : Option V), σ = [some (.ref a1), some (.int x_place), some (.ref p2), some v7_3, o7_4, o7_5, o7_6] ∧ Same F6 F' ∧ W F' H' ((p2, .dK vs7_0) :: os) ∧ rep K F' v7_3 (g7.1 : (List Int)) ∧ vs7_0 = encM kI V.int g7.2) ⟨_, _, _, _, _, _, rfl, Same.refl _, w6, (rep_lst q6 h4), h2⟩ ?_ ?_ ?_)
    · intro g7 σ7 H7 N7 P7 hI hN7 hm
      obtain ⟨F7, v7_3, vs7_0, o7_4, o7_5, o7_6, rfl, s7, w7, r7_3, h7_0⟩ := hI
      replace h1 := A2.mono s7 h1
      replace q1 := s7 _ _ q1
      replace h4 := A2.mono s7 h4
      replace q6 := s7 _ _ q6
      replace sF := sF.trans s7
      obtain ⟨a8, vs8, rfl, q8, h8⟩ := r7_3
      exact ⟨_, rfl, _, _, _, rfl, .inl (SqL.of (w7.same _ _ q8)), h8.length, _, _, rfl, rfl, _, rfl, hN7 _ (post_ok hm) _ ⟨_, _, _, _, _, _, rfl, s7, w7, (rep_lst q8 h8), h7_0⟩⟩
    · intro g7 σ7 H7 N7 P7 hI hN7 hm
      obtain ⟨F7, v7_3, vs7_0, o7_4, o7_5, o7_6, rfl, s7, w7, r7_3, h7_0⟩ := hI
      replace h1 := A2.mono s7 h1
      replace q1 := s7 _ _ q1
      replace h4 := A2.mono s7 h4
      replace q6 := s7 _ _ q6
      replace sF := sF.trans s7
      obtain ⟨a9, vs9, rfl, q9, h9⟩ := r7_3
      have h10 : A2 (rep K F7) [] ([] : (List Int)) := .nil
      refine ⟨(by show 0 ≤ sizeLine; decide), fun p11 n11 => ?_⟩
      have w11 : W F7 _ ((p11, .lst []) :: (p2, .dK vs7_0) :: os) := w7.new n11
      refine ⟨_, rfl, _, rfl, ⟨_, SqL.of (w11.same _ _ q9)⟩, ?_⟩
      refine forS (tw_list (a := a9) h9) hm (fun (g12 : (List Int) × (List (Int × Int))) σ H' => ∃ (F' : Hp) (vs12_0 : List V) (vs12_1 : List (Key × V)) (o12_6 : Option V) (o12_5 : Option V), σ = [some (.ref a1), some (.int x_place), some (.ref p2), some (.ref a9), some (.ref p11), o12_5, o12_6] ∧ Same F7 F' ∧ W F' H' ((p11, .lst vs12_0) :: (p2, .dK vs12_1) :: os) ∧ A2 (rep K F') vs12_0 g12.1 ∧ vs12_1 = encM kI V.int g12.2) ⟨_, _, _, _, _, rfl, Same.refl _, w11, h10, h7_0⟩ (fun g σ H' hI => by obtain ⟨F', _, _, _, _, _, s, w, _⟩ := hI; exact SqL.of (w.same _ _ (s _ _ q9))) ?_ ?_
      · -- a turn
        intro b12 g12 x12 σ12 H12 H12' N12 P12 hI hy hN12 hm
        obtain ⟨F12, vs12_0, vs12_1, o12_6, o12_5, rfl, s12, w12, h12_0, h12_1⟩ := hI
        replace h1 := A2.mono s12 h1
        replace q1 := s12 _ _ q1
        replace h9 := A2.mono s12 h9
        replace q9 := s12 _ _ q9
        replace sF := sF.trans s12
        obtain ⟨rfl, r13⟩ := hy
        obtain rfl : x12 = V.int b12 := r13
        obtain ⟨t15, e15, hm⟩ := pb_get hm
        obtain ⟨u15, f15, r15⟩ := A2.at h1 e15
        obtain ⟨a16, vs16, rfl, q16, h16⟩ := r15
        refine ⟨_, rfl, _, rfl, _, _, _, _, rfl, rfl, SqL.of (w12.same _ _ q1), f15, _, rfl, ⟨_, SqL.of (w12.same _ _ q16)⟩, ?_⟩
        refine forS (tw_list (a := a16) h16) hm (fun (g14 : (List Int) × (List (Int × Int))) σ H' => ∃ (F' : Hp) (vs14_0 : List V) (vs14_1 : List (Key × V)) (o14_6 : Option V), σ = [some (.ref a1), some (.int x_place), some (.ref p2), some (.ref a9), some (.ref p11), some (.int b12), o14_6] ∧ Same F12 F' ∧ W F' H' ((p11, .lst vs14_0) :: (p2, .dK vs14_1) :: os) ∧ A2 (rep K F') vs14_0 g14.1 ∧ vs14_1 = encM kI V.int g14.2) ⟨_, _, _, _, rfl, Same.refl _, w12, h12_0, h12_1⟩ (fun g σ H' hI => by obtain ⟨F', _, _, _, _, s, w, _⟩ := hI; exact SqL.of (w.same _ _ (s _ _ q16))) ?_ ?_
        · -- a turn
          intro b14 g14 x14 σ14 H14 H14' N14 P14 hI hy hN14 hm
          obtain ⟨F14, vs14_0, vs14_1, o14_6, rfl, s14, w14, h14_0, h14_1⟩ := hI
          replace h1 := A2.mono s14 h1
          replace q1 := s14 _ _ q1
          replace h9 := A2.mono s14 h9
          replace q9 := s14 _ _ q9
          replace q16 := s14 _ _ q16
          replace h16 := A2.mono s14 h16
          replace sF := sF.trans s14
          obtain ⟨rfl, r17⟩ := hy
          obtain rfl : x14 = V.int b14 := r17
          refine ⟨_, rfl, _, rfl, _, _, _, rfl, dget_k (ev := V.int) (m := g14.2) (k := b14) ((w14.get (pre := [_])).trans (congrArg (fun z => some (HO.dK z)) h14_1)), get_has _ _ _, _, rfl, ?_⟩
          refine post_ite hm (fun k18 hm => ?_) (fun k18 hm => ?_)
          · skip
            obtain ⟨t19, e19, hm⟩ := pb_mget hm
            obtain ⟨l20, z20, e20, hm⟩ := pn_mput hm
            refine ⟨_, rfl, _, rfl, _, _, rfl, dgets_k (ev := V.int) ((w14.get (pre := [_])).trans (congrArg (fun z => some (HO.dK z)) h14_1)) e19, _, _, rfl, rfl, _, rfl, _, rfl, _, _, rfl, dput_k (ev := V.int) (m := g14.2) (k := b14) (v := (t19 + (1 : Int))) ((w14.get (pre := [_])).trans (congrArg (fun z => some (HO.dK z)) h14_1)) z20, ?_⟩
            have h20 : (encM kI V.int (mput g14.2 b14 (t19 + (1 : Int)))) = encM kI V.int l20 := by rw [e20]
            have w21 : W F14 _ ((p11, .lst vs14_0) :: (p2, .dK (encM kI V.int (mput g14.2 b14 (t19 + (1 : Int))))) :: os) := w14.set (pre := [_])
            obtain ⟨l22, z22, e22, hm⟩ := pn_app hm
            refine ⟨_, rfl, .inl ⟨rfl, _, SqL.of (w21.get (pre := []))⟩, _, rfl, _, _, _, rfl, rfl, (w21.get (pre := [])), (A2.lt h14_0 z22), ?_⟩
            have h22 : A2 (rep K F14) (vs14_0 ++ [(V.int b14)]) l22 := e22 ▸ A2.snoc h14_0 rep_i
            have w23 : W F14 _ ((p11, .lst (vs14_0 ++ [(V.int b14)])) :: (p2, .dK (encM kI V.int (mput g14.2 b14 (t19 + (1 : Int))))) :: os) := w21.set (pre := [])
            exact hN14 _ (post_ok hm) _ _ ⟨_, _, _, _, rfl, s14, w23, h22, h20⟩
          · skip
            exact hN14 _ (post_ok hm) _ _ ⟨_, _, _, _, rfl, s14, w14, h14_0, h14_1⟩
        intro g14 σ14 H14 hI hm
        obtain ⟨F14, vs14_0, vs14_1, o14_6, rfl, s14, w14, h14_0, h14_1⟩ := hI
        replace h1 := A2.mono s14 h1
        replace q1 := s14 _ _ q1
        replace h9 := A2.mono s14 h9
        replace q9 := s14 _ _ q9
        replace q16 := s14 _ _ q16
        replace h16 := A2.mono s14 h16
        replace sF := sF.trans s14
        exact hN12 _ (post_ok hm) _ _ ⟨_, _, _, _, _, rfl, (s12.trans s14), w14, h14_0, h14_1⟩
      intro g12 σ12 H12 hI hm
      obtain ⟨F12, vs12_0, vs12_1, o12_6, o12_5, rfl, s12, w12, h12_0, h12_1⟩ := hI
      replace h1 := A2.mono s12 h1
      replace q1 := s12 _ _ q1
      replace h9 := A2.mono s12 h9
      replace q9 := s12 _ _ q9
      replace sF := sF.trans s12
      obtain ⟨F24, s24, w24, q24⟩ : ∃ F', Same F12 F' ∧ W F' _ ((p2, .dK vs12_1) :: os) ∧ F' p11 = some (.lst vs12_0) := w12.freezeE (pre := [])
      replace h1 := A2.mono s24 h1
      replace q1 := s24 _ _ q1
      replace h9 := A2.mono s24 h9
      replace q9 := s24 _ _ q9
      replace h12_0 := A2.mono s24 h12_0
      replace sF := sF.trans s24
      exact ⟨_, rfl, hN7 _ (post_ok hm) _ _ ⟨_, _, _, _, _, _, rfl, (s7.trans (s12.trans s24)), w24, (rep_lst q24 h12_0), h12_1⟩⟩
    intro g7 σ7 H7 hI hm
    obtain ⟨F7, v7_3, vs7_0, o7_4, o7_5, o7_6, rfl, s7, w7, r7_3, h7_0⟩ := hI
    replace h1 := A2.mono s7 h1
    replace q1 := s7 _ _ q1
    replace h4 := A2.mono s7 h4
    replace q6 := s7 _ _ q6
    replace sF := sF.trans s7
    obtain ⟨a25, vs25, rfl, q25, h25⟩ := r7_3
    obtain ⟨F26, s26, w26, q26⟩ : ∃ F', Same F7 F' ∧ W F' _ (os) ∧ F' p2 = some (.dK vs7_0) := w7.freezeE (pre := [])
    replace q26 : F26 p2 = some (.dK (encM kI V.int g7.2)) := q26.trans (congrArg (fun z => some (HO.dK z)) h7_0)
    replace h1 := A2.mono s26 h1
    replace q1 := s26 _ _ q1
    replace h25 := A2.mono s26 h25
    replace q25 := s26 _ _ q25
    replace sF := sF.trans s26
    exact ⟨_, rfl, (post_ok hm) _ _ _ w26 sF ⟨_, rfl, q26⟩⟩
def sp_law_things (K : Fg) : Sp := fun vs H Q E => ∃ (F : Hp) (os : List (Addr × HO)) (v_web : V) (x_web : (Int × (Tup (Int × Int)))) (x_kind : Str), vs = [v_web, .str x_kind] ∧ W F H (os) ∧ rep K F v_web x_web ∧ Post (law_things x_web x_kind) (Ret K F os Q) noX
theorem sc_law_things : FnScope ["web", "kind", "places"] ["web", "kind"] (defScope s_law_things) := ⟨rfl, rfl, rfl, by decide +kernel, rfl, by decide +kernel, by decide +kernel⟩
theorem ok_law_things (T : Tx K mg A FD) : FnOk P w K mg base CX0 1 (A 29) (FD 29) ["web", "kind"] (sp_law_things K) := by
  refine T.d29.fn.ok sc_law_things (fun vs H Q E h => ?_) (fun cdv Ar outer s H vs Q E hr h => ?_)
  · obtain ⟨F, os, v_web, x_web, x_kind, rfl, _⟩ := h
    rfl
  · obtain ⟨F0, os, v_web, x_web, x_kind, rfl, w0, r_web, hm⟩ := h
    have sF : Same F0 F0 := Same.refl _
    obtain ⟨a1, u1, z1, rfl, q1, r1a, r1b⟩ := r_web
    obtain rfl : u1 = V.int x_web.1 := r1a
    obtain ⟨a2, vs2, rfl, q2, h2⟩ := r1b
    refine ⟨_, (pss_cons (ps_set (i := 2) sc_law_things.nd rfl (Or.inl rfl) (pe_listRg rfl (by rfl) T.n_list (prg_1 (by rfl) T.n_range (pe_ix (ix_tupK (K := K) rfl) (pv 0) pe_int (fun _ _ => rfl))))) (pss_one (ps_ret (pe_dget (Room.units1 hr) (pe_disp (pps_cons pe_str (pv 2) (pps_cons pe_str (pe_callTy (call_list_ofK (K := K) rfl) (by rfl) T.n_list (by decide +kernel) (pa_cons (pe_ix (ix_tupK (K := K) rfl) (pv 0) pe_int (fun _ _ => rfl)) pa_nil)) (pps_cons pe_str (pe_op op_cat (pv 2) (pe_callTy (call_list_ofK (K := K) rfl) (by rfl) T.n_list (by decide +kernel) (pa_cons (pe_ix (ix_tupK (K := K) rfl) (pv 0) pe_int (fun _ _ => rfl)) pa_nil))) pps_nil))) rfl rfl (by simp) (by simp)) (pv 1) (fun _ _ => rfl))))), ?_⟩
    obtain ⟨l3, z3, e3, hm⟩ := pb_lrng hm
    have h3 : A2 (rep K F0) (rgV 0 x_web.1) l3 := by rw [e3, rgV_eq]; exact A2.of_ints
    refine ⟨_, rfl, _, _, _, _, rfl, rfl, SqT.of (w0.same _ _ q1), rfl, _, rfl, z3, fun p4 n4 => ?_⟩
    have w4 : W F0 _ ((p4, .lst (rgV 0 x_web.1)) :: os) := w0.new n4
    obtain ⟨F5, s5, w5, q5⟩ : ∃ F', Same F0 F' ∧ W F' _ (os) ∧ F' p4 = some (.lst (rgV 0 x_web.1)) := w4.freezeE (pre := [])
    replace q1 := s5 _ _ q1
    replace q2 := s5 _ _ q2
    replace h2 := A2.mono s5 h2
    replace h3 := A2.mono s5 h3
    replace sF := sF.trans s5
    refine fun p6 n6 => ?_
    have w6 : W F5 _ ((p6, (.dK [])) :: os) := w5.new n6
    have h7 : A2 (rep K F5) (rgV 0 x_web.1) (mkpl l3) := A2.pl h3
    have h8 : A2 (rep K F5) vs2 x_web.2.l := h2
    refine ⟨_, rfl, _, rfl, _, _, _, _, rfl, rfl, SqT.of (w6.same _ _ q1), rfl, _, _, rfl, .inr (SqT.of (w6.same _ _ q2)), fun p9 n9 => ?_⟩
    have w9 : W F5 _ ((p9, .lst vs2) :: (p6, (.dK [])) :: os) := w6.new n9
    have h10 : A2 (rep K F5) vs2 (mkti x_web.2.l) := A2.ti h8
    obtain ⟨F11, s11, w11, q11⟩ : ∃ F', Same F5 F' ∧ W F' _ ((p6, (.dK [])) :: os) ∧ F' p9 = some (.lst vs2) := w9.freezeE (pre := [])
    replace q1 := s11 _ _ q1
    replace h2 := A2.mono s11 h2
    replace q2 := s11 _ _ q2
    replace h3 := A2.mono s11 h3
    replace q5 := s11 _ _ q5
    replace h7 := A2.mono s11 h7
    replace h10 := A2.mono s11 h10
    replace sF := sF.trans s11
    have h12 : A2 (rep K F11) vs2 x_web.2.l := h2
    refine ⟨_, rfl, _, rfl, _, _, _, _, rfl, rfl, SqT.of (w11.same _ _ q1), rfl, _, _, rfl, .inr (SqT.of (w11.same _ _ q2)), fun p13 n13 => ?_⟩
    have w13 : W F11 _ ((p13, .lst vs2) :: (p6, (.dK [])) :: os) := w11.new n13
    have h14 : A2 (rep K F11) (rgV 0 x_web.1) (mkpl l3) := A2.pl h3
    have h15 : A2 (rep K F11) vs2 (mkti x_web.2.l) := A2.ti h12
    obtain ⟨l16, z16, e16, hm⟩ := pn_extend hm
    have h16 : A2 (rep K F11) ((rgV 0 x_web.1) ++ vs2) l16 := e16 ▸ A2.append h14 h15
    refine ⟨_, _, _, _, rfl, rfl, (w13.same _ _ q5), (w13.get (pre := [])), (A2.le2 h14 h15 z16), fun p17 n17 => ?_⟩
    have w17 : W F11 _ ((p17, .lst ((rgV 0 x_web.1) ++ vs2)) :: (p13, .lst vs2) :: (p6, (.dK [])) :: os) := w13.new n17
    obtain ⟨F18, s18, w18, q18⟩ : ∃ F', Same F11 F' ∧ W F' _ ((p13, .lst vs2) :: (p6, (.dK [])) :: os) ∧ F' p17 = some (.lst ((rgV 0 x_web.1) ++ vs2)) := w17.freezeE (pre := [])
    replace q1 := s18 _ _ q1
    replace h2 := A2.mono s18 h2
    replace q2 := s18 _ _ q2
    replace h3 := A2.mono s18 h3
    replace q5 := s18 _ _ q5
    replace h7 := A2.mono s18 h7
    replace h10 := A2.mono s18 h10
    replace q11 := s18 _ _ q11
    replace h14 := A2.mono s18 h14
    replace h15 := A2.mono s18 h15
    replace h16 := A2.mono s18 h16
    replace sF := sF.trans s18
    refine ⟨(w18.get (pre := [_])), [(kS ("places" : Str), (.ref p4)), (kS ("ties" : Str), (.ref p9)), (kS ("all" : Str), (.ref p17))], rfl, (by show 3 ≤ 15; decide), ?_⟩
    have w19 : W F18 _ ((p13, .lst vs2) :: (p6, (.dK (mergeK [] [(kS ("places" : Str), (.ref p4)), (kS ("ties" : Str), (.ref p9)), (kS ("all" : Str), (.ref p17))]))) :: os) := w18.set (pre := [_])
    have h19 : AD kS (rep K F18) (mergeK [] [(kS ("places" : Str), (.ref p4)), (kS ("ties" : Str), (.ref p9)), (kS ("all" : Str), (.ref p17))]) (mmk ([(("places" : Str), (mkpl l3)), (("ties" : Str), (mkti x_web.2.l)), (("all" : Str), l16)] : List (Str × (List Thing)))) := AD.mmk kS_inj (.cons (rep_lst q5 h7) (.cons (rep_lst q11 h10) (.cons (rep_lst q18 h16) (.nil))))
    obtain ⟨t19, e19, hm⟩ := pb_mget hm
    obtain ⟨u19, f19, r19⟩ := AD.get kS_inj h19 e19
    obtain ⟨a20, vs20, rfl, q20, h20⟩ := r19
    have w21 : W F18 _ ((p13, .lst vs2) :: os) := w19.drop (pre := [_])
    have w22 : W F18 _ (os) := w21.drop (pre := [])
    exact ⟨_, rfl, _, _, rfl, dgetsS (v := (.ref a20)) (w19.get (pre := [_])) f19, (post_ok hm) _ _ _ w22 sF (rep_lst q20 h20)⟩
def sp_law_code (K : Fg) : Sp := fun vs H Q E => ∃ (F : Hp) (os : List (Addr × HO)) (v_steps : V) (x_steps : (List (FzD Int Int))) (v_thing : V) (x_thing : Thing), vs = [v_steps, v_thing] ∧ W F H (os) ∧ rep K F v_steps x_steps ∧ rep K F v_thing x_thing ∧ Post (law_code x_steps x_thing) (Ret K F os Q) noX
theorem sc_law_code : FnScope ["steps", "thing", "row"] ["steps", "thing"] (defScope s_law_code) := ⟨rfl, rfl, rfl, by decide +kernel, rfl, by decide +kernel, by decide +kernel⟩
theorem ok_law_code (T : Tx K mg A FD) : FnOk P w K mg base CX0 1 (A 30) (FD 30) ["steps", "thing"] (sp_law_code K) := by
  refine T.d30.fn.ok sc_law_code (fun vs H Q E h => ?_) (fun cdv Ar outer s H vs Q E hr h => ?_)
  · obtain ⟨F, os, v_steps, x_steps, v_thing, x_thing, rfl, _⟩ := h
    rfl
  · obtain ⟨F0, os, v_steps, x_steps, v_thing, x_thing, rfl, w0, r_steps, r_thing, hm⟩ := h
    have sF : Same F0 F0 := Same.refl _
    obtain ⟨a1, vs1, rfl, q1, h1⟩ := r_steps
    refine ⟨_, (pss_cons (ps_if (pt_val (pe_callB (call_isB (K := K) rfl) (by rfl) T.n_isinstance (by decide +kernel) (pa_cons (pv 1) (pa_cons (pe_bltn (v := .ty "tuple") (by rfl) T.n_tuple (by decide +kernel) rfl) pa_nil)))) (pss_one (ps_ret (pe_callTy (call_tuple_ofK (K := K) rfl) (by rfl) T.n_tuple (by decide +kernel) (pa_cons (pe_lc (own := [("row", 2)]) (g := gName 2) (by rfl) sc_law_code.nd (pi_listK (K := K) rfl (pv 0)) (blkOk_by (own := [("row", 2)]) (N := ["steps", "thing", "row"]) (sc := defScope s_law_code) (by decide +kernel)) (fun _ _ _ _ _ => (pg_name (i := 2) sc_law_code.nd rfl (Or.inl rfl))) (fun _ _ _ _ _ => pts_nil) (fun _ _ _ _ _ => (pe_callB (call_min2 rfl) (by rfl) T.n_min (by decide +kernel) (pa_cons (pe_dget (Room.units1 hr) (pv 2) (pe_ix (ix_tupK (K := K) rfl) (pv 1) pe_int (fun _ _ => rfl)) (fun _ _ => rfl)) (pa_cons (pe_dget (Room.units1 hr) (pv 2) (pe_ix (ix_tupK (K := K) rfl) (pv 1) pe_int (fun _ _ => rfl)) (fun _ _ => rfl)) pa_nil))))) pa_nil)))) pss_nil) (pss_one (ps_ret (pe_callTy (call_tuple_ofK (K := K) rfl) (by rfl) T.n_tuple (by decide +kernel) (pa_cons (pe_lc (own := [("row", 2)]) (g := gName 2) (by rfl) sc_law_code.nd (pi_listK (K := K) rfl (pv 0)) (blkOk_by (own := [("row", 2)]) (N := ["steps", "thing", "row"]) (sc := defScope s_law_code) (by decide +kernel)) (fun _ _ _ _ _ => (pg_name (i := 2) sc_law_code.nd rfl (Or.inl rfl))) (fun _ _ _ _ _ => pts_nil) (fun _ _ _ _ _ => (pe_dget (Room.units1 hr) (pv 2) (pv 1) (fun _ _ => rfl)))) pa_nil))))), ?_⟩
    obtain ⟨a3, y3, k3⟩ := th_tuple w0.same r_thing
    refine ⟨_, rfl, _, _, _, (!x_thing.isPl), rfl, y3, k3, _, rfl, ?_⟩
    refine post_ite hm (fun k4 hm => ?_) (fun k4 hm => ?_)
    · skip
      obtain ⟨t5, e5, hm⟩ := pb_asTi hm
      have r5 : rep K F0 v_thing (t5 : Int × Int) := (show rep K F0 v_thing (Thing.ti t5.1 t5.2) from e5 ▸ r_thing)
      obtain ⟨a6, u6, z6, rfl, q6, r6a, r6b⟩ := r5
      obtain rfl : u6 = V.int t5.1 := r6a
      obtain rfl : z6 = V.int t5.2 := r6b
      refine ⟨_, rfl, _, rfl, ⟨_, SqL.of (w0.same _ _ q1)⟩, fun D7 nD7 => ?_⟩
      refine lcM (K := K) (tw_list (a := a1) h1) hm w0 nD7 (fun F' H' acc s w => SqL.of (w.same _ _ (s _ _ q1))) ?_ ?_
      · -- one turn
        intro b7 x7 F7 H7 H7' acc7 N7 P7 s7 w7 y7 hN7 hm
        replace q1 := s7 _ _ q1
        replace h1 := A2.mono s7 h1
        replace r_thing := Rep.mono s7 r_thing
        replace q6 := s7 _ _ q6
        replace sF := sF.trans s7
        obtain ⟨rfl, r9⟩ := y7
        replace r9 := Rep.mono s7 r9
        obtain ⟨a10, rfl, q10⟩ := r9
        obtain ⟨t11, e11, hm⟩ := pb_mget hm
        obtain ⟨t12, e12, hm⟩ := pb_mget hm
        exact ⟨rfl, _, rfl, _, rfl, _, _, _, _, rfl, rfl, SqT.of (w7.same _ _ q6), rfl, _, _, rfl, dgets_k (ev := V.int) (w7.same _ _ q10) e11, _, rfl, _, rfl, _, _, _, _, rfl, rfl, SqT.of (w7.same _ _ q6), rfl, _, _, rfl, dgets_k (ev := V.int) (w7.same _ _ q10) e12, _, _, rfl, hN7 _ (post_ok hm) _ _ _ w7 (Same.refl _) rep_i⟩
      intro us7 F7 H7 ys7 s7 w7 gg7 hm
      replace q1 := s7 _ _ q1
      replace h1 := A2.mono s7 h1
      replace r_thing := Rep.mono s7 r_thing
      replace q6 := s7 _ _ q6
      replace sF := sF.trans s7
      have h14 : A2 (rep K F7) us7 ys7 := gg7
      refine ⟨_, _, rfl, .inl ⟨SqL.of (w7.get (pre := [])), fun p15 n15 => ?_⟩⟩
      obtain ⟨F15, s15, w15, q15⟩ := w7.frzE (o := .tup us7) n15
      replace q1 := s15 _ _ q1
      replace h1 := A2.mono s15 h1
      replace r_thing := Rep.mono s15 r_thing
      replace q6 := s15 _ _ q6
      replace gg7 := A2.mono s15 gg7
      replace h14 := A2.mono s15 h14
      replace sF := sF.trans s15
      have w16 : W F15 _ (os) := w15.drop (pre := [])
      exact (post_ok hm) _ _ _ w16 sF (rep_tup q15 h14)
    · skip
      obtain ⟨t17, e17, hm⟩ := pb_asPl hm
      have r17 : v_thing = V.int t17 := (show rep K F0 v_thing (Thing.pl t17) from e17 ▸ r_thing)
      subst r17
      refine ⟨_, rfl, _, rfl, ⟨_, SqL.of (w0.same _ _ q1)⟩, fun D18 nD18 => ?_⟩
      refine lcM (K := K) (tw_list (a := a1) h1) hm w0 nD18 (fun F' H' acc s w => SqL.of (w.same _ _ (s _ _ q1))) ?_ ?_
      · -- one turn
        intro b18 x18 F18 H18 H18' acc18 N18 P18 s18 w18 y18 hN18 hm
        replace q1 := s18 _ _ q1
        replace h1 := A2.mono s18 h1
        replace r_thing := Rep.mono s18 r_thing
        replace sF := sF.trans s18
        obtain ⟨rfl, r20⟩ := y18
        replace r20 := Rep.mono s18 r20
        obtain ⟨a21, rfl, q21⟩ := r20
        obtain ⟨t22, e22, hm⟩ := pb_mget hm
        exact ⟨rfl, _, rfl, _, rfl, _, _, rfl, dgets_k (ev := V.int) (w18.same _ _ q21) e22, hN18 _ (post_ok hm) _ _ _ w18 (Same.refl _) rep_i⟩
      intro us18 F18 H18 ys18 s18 w18 gg18 hm
      replace q1 := s18 _ _ q1
      replace h1 := A2.mono s18 h1
      replace r_thing := Rep.mono s18 r_thing
      replace sF := sF.trans s18
      have h24 : A2 (rep K F18) us18 ys18 := gg18
      refine ⟨_, _, rfl, .inl ⟨SqL.of (w18.get (pre := [])), fun p25 n25 => ?_⟩⟩
      obtain ⟨F25, s25, w25, q25⟩ := w18.frzE (o := .tup us18) n25
      replace q1 := s25 _ _ q1
      replace h1 := A2.mono s25 h1
      replace r_thing := Rep.mono s25 r_thing
      replace gg18 := A2.mono s25 gg18
      replace h24 := A2.mono s25 h24
      replace sF := sF.trans s25
      have w26 : W F25 _ (os) := w25.drop (pre := [])
      exact (post_ok hm) _ _ _ w26 sF (rep_tup q25 h24)
def sp_law_codes (K : Fg) : Sp := fun vs H Q E => ∃ (F : Hp) (os : List (Addr × HO)) (v_web : V) (x_web : (Int × (Tup (Int × Int)))) (v_looks : V) (x_looks : (List Int)) (x_kind : Str), vs = [v_web, v_looks, .str x_kind] ∧ W F H (os) ∧ rep K F v_web x_web ∧ rep K F v_looks x_looks ∧ Post (law_codes x_web x_looks x_kind) (Ret K F os Q) noX
theorem sc_law_codes : FnScope ["web", "looks", "kind", "near", "steps", "look", "thing"] ["web", "looks", "kind"] (defScope s_law_codes) := ⟨rfl, rfl, rfl, by decide +kernel, rfl, by decide +kernel, by decide +kernel⟩
theorem ok_law_codes (T : Tx K mg A FD) : FnOk P w K mg base CX0 2 (A 31) (FD 31) ["web", "looks", "kind"] (sp_law_codes K) := by
  refine T.d31.fn.ok sc_law_codes (fun vs H Q E h => ?_) (fun cdv Ar outer s H vs Q E hr h => ?_)
  · obtain ⟨F, os, v_web, x_web, v_looks, x_looks, x_kind, rfl, _⟩ := h
    rfl
  · obtain ⟨F0, os, v_web, x_web, v_looks, x_looks, x_kind, rfl, w0, r_web, r_looks, hm⟩ := h
    have sF : Same F0 F0 := Same.refl _
    obtain ⟨a1, u1, z1, rfl, q1, r1a, r1b⟩ := r_web
    obtain rfl : u1 = V.int x_web.1 := r1a
    obtain ⟨a2, vs2, rfl, q2, h2⟩ := r1b
    obtain ⟨a3, vs3, rfl, q3, h3⟩ := r_looks
    refine ⟨_, (pss_cons (ps_set (i := 3) sc_law_codes.nd rfl (Or.inr rfl) (pe_call (ok_law_near T) (hr.mono (by decide)) (by rfl) T.d27.mg T.d27.fn.kp T.d27.b .nil pass0 (pa_cons (pv 0) pa_nil))) (pss_cons (ps_set (i := 4) sc_law_codes.nd rfl (Or.inr rfl) (pe_lc (own := [("look", 5)]) (g := gName 5) (by rfl) sc_law_codes.nd (pi_listK (K := K) rfl (pv 1)) (blkOk_by (own := [("look", 5)]) (N := ["web", "looks", "kind", "near", "steps", "look", "thing"]) (sc := defScope s_law_codes) (by decide +kernel)) (fun _ _ _ _ _ => (pg_name (i := 5) sc_law_codes.nd rfl (Or.inl rfl))) (fun _ _ _ _ _ => pts_nil) (fun _ _ _ _ _ => (pe_call (ok_law_steps T) (hr.mono (by decide)) (by rfl) T.d28.mg T.d28.fn.kp T.d28.b .nil pass0 (pa_cons (pv 3) (pa_cons (pv 5) pa_nil)))))) (pss_one (ps_ret (pe_lc (own := [("thing", 6)]) (g := gName 6) (by rfl) sc_law_codes.nd (pi_listK (K := K) rfl (pe_call (ok_law_things T) (hr.mono (by decide)) (by rfl) T.d29.mg T.d29.fn.kp T.d29.b .nil pass0 (pa_cons (pv 0) (pa_cons (pv 2) pa_nil)))) (blkOk_by (own := [("thing", 6)]) (N := ["web", "looks", "kind", "near", "steps", "look", "thing"]) (sc := defScope s_law_codes) (by decide +kernel)) (fun _ _ _ _ _ => (pg_name (i := 6) sc_law_codes.nd rfl (Or.inl rfl))) (fun _ _ _ _ _ => pts_nil) (fun _ _ _ _ _ => (pe_call (ok_law_code T) (hr.mono (by decide)) (by rfl) T.d30.mg T.d30.fn.kp T.d30.b .nil pass0 (pa_cons (pv 4) (pa_cons (pv 6) pa_nil))))))))), ?_⟩
    refine ⟨_, rfl, _, _, _, (x_web : (Int × (Tup (Int × Int)))), rfl, w0, (rep_pair q1 rep_i (rep_tup q2 h2)), ?_⟩
    refine (post_bind hm).mono (fun y4 hm v4 F4 H4 w4 s4 r4 => ?_) (fun _ z => z)
    replace q1 := s4 _ _ q1
    replace q2 := s4 _ _ q2
    replace h2 := A2.mono s4 h2
    replace q3 := s4 _ _ q3
    replace h3 := A2.mono s4 h3
    replace sF := sF.trans s4
    obtain ⟨a5, vs5, rfl, q5, h5⟩ := r4
    refine ⟨_, rfl, _, rfl, ⟨_, SqL.of (w4.same _ _ q3)⟩, fun D6 nD6 => ?_⟩
    refine lcM (K := K) (tw_list (a := a3) h3) hm w4 nD6 (fun F' H' acc s w => SqL.of (w.same _ _ (s _ _ q3))) ?_ ?_
    · -- one turn
      intro b6 x6 F6 H6 H6' acc6 N6 P6 s6 w6 y6 hN6 hm
      replace q1 := s6 _ _ q1
      replace h2 := A2.mono s6 h2
      replace q2 := s6 _ _ q2
      replace h3 := A2.mono s6 h3
      replace q3 := s6 _ _ q3
      replace h5 := A2.mono s6 h5
      replace q5 := s6 _ _ q5
      replace sF := sF.trans s6
      obtain ⟨rfl, r8⟩ := y6
      obtain rfl : x6 = V.int b6 := r8
      refine ⟨rfl, _, rfl, _, rfl, _, _, _, (y4 : (List (List Int))), _, rfl, w6, (rep_lst q5 h5), ?_⟩
      refine (post_bind hm).mono (fun y9 hm v9 F9 H9 w9 s9 r9 => ?_) (fun _ z => z)
      replace q1 := s9 _ _ q1
      replace h2 := A2.mono s9 h2
      replace q2 := s9 _ _ q2
      replace h3 := A2.mono s9 h3
      replace q3 := s9 _ _ q3
      replace h5 := A2.mono s9 h5
      replace q5 := s9 _ _ q5
      replace sF := sF.trans s9
      obtain ⟨a10, rfl, q10⟩ := r9
      exact hN6 _ (post_ok hm) _ _ _ w9 s9 ⟨_, rfl, q10⟩
    intro us6 F6 H6 ys6 s6 w6 gg6 hm
    replace q1 := s6 _ _ q1
    replace h2 := A2.mono s6 h2
    replace q2 := s6 _ _ q2
    replace h3 := A2.mono s6 h3
    replace q3 := s6 _ _ q3
    replace h5 := A2.mono s6 h5
    replace q5 := s6 _ _ q5
    replace sF := sF.trans s6
    obtain ⟨F12, s12, w12, q12⟩ : ∃ F', Same F6 F' ∧ W F' _ (os) ∧ F' D6 = some (.lst us6) := w6.freezeE (pre := [])
    replace q1 := s12 _ _ q1
    replace h2 := A2.mono s12 h2
    replace q2 := s12 _ _ q2
    replace h3 := A2.mono s12 h3
    replace q3 := s12 _ _ q3
    replace h5 := A2.mono s12 h5
    replace q5 := s12 _ _ q5
    replace gg6 := A2.mono s12 gg6
    replace sF := sF.trans s12
    refine ⟨_, rfl, _, rfl, _, _, _, (x_web : (Int × (Tup (Int × Int)))), _, rfl, w12, (rep_pair q1 rep_i (rep_tup q2 h2)), ?_⟩
    refine (post_bind hm).mono (fun y13 hm v13 F13 H13 w13 s13 r13 => ?_) (fun _ z => z)
    replace q1 := s13 _ _ q1
    replace h2 := A2.mono s13 h2
    replace q2 := s13 _ _ q2
    replace h3 := A2.mono s13 h3
    replace q3 := s13 _ _ q3
    replace h5 := A2.mono s13 h5
    replace q5 := s13 _ _ q5
    replace gg6 := A2.mono s13 gg6
    replace q12 := s13 _ _ q12
    replace sF := sF.trans s13
    obtain ⟨a14, vs14, rfl, q14, h14⟩ := r13
    refine ⟨_, rfl, ⟨_, SqL.of (w13.same _ _ q14)⟩, fun D15 nD15 => ?_⟩
    refine lcM (K := K) (tw_list (a := a14) h14) hm w13 nD15 (fun F' H' acc s w => SqL.of (w.same _ _ (s _ _ q14))) ?_ ?_
    · -- one turn
      intro b15 x15 F15 H15 H15' acc15 N15 P15 s15 w15 y15 hN15 hm
      replace q1 := s15 _ _ q1
      replace h2 := A2.mono s15 h2
      replace q2 := s15 _ _ q2
      replace h3 := A2.mono s15 h3
      replace q3 := s15 _ _ q3
      replace h5 := A2.mono s15 h5
      replace q5 := s15 _ _ q5
      replace gg6 := A2.mono s15 gg6
      replace q12 := s15 _ _ q12
      replace q14 := s15 _ _ q14
      replace h14 := A2.mono s15 h14
      replace sF := sF.trans s15
      obtain ⟨rfl, r17⟩ := y15
      replace r17 := Rep.mono s15 r17
      refine ⟨rfl, _, rfl, _, rfl, _, _, _, (ys6 : (List (FzD Int Int))), _, (b15 : Thing), rfl, w15, (rep_lst q12 gg6), r17, ?_⟩
      refine (post_bind hm).mono (fun y19 hm v19 F19 H19 w19 s19 r19 => ?_) (fun _ z => z)
      replace q1 := s19 _ _ q1
      replace h2 := A2.mono s19 h2
      replace q2 := s19 _ _ q2
      replace h3 := A2.mono s19 h3
      replace q3 := s19 _ _ q3
      replace h5 := A2.mono s19 h5
      replace q5 := s19 _ _ q5
      replace gg6 := A2.mono s19 gg6
      replace q12 := s19 _ _ q12
      replace q14 := s19 _ _ q14
      replace h14 := A2.mono s19 h14
      replace r17 := Rep.mono s19 r17
      replace sF := sF.trans s19
      obtain ⟨a20, vs20, rfl, q20, h20⟩ := r19
      exact hN15 _ (post_ok hm) _ _ _ w19 s19 (rep_tup q20 h20)
    intro us15 F15 H15 ys15 s15 w15 gg15 hm
    replace q1 := s15 _ _ q1
    replace h2 := A2.mono s15 h2
    replace q2 := s15 _ _ q2
    replace h3 := A2.mono s15 h3
    replace q3 := s15 _ _ q3
    replace h5 := A2.mono s15 h5
    replace q5 := s15 _ _ q5
    replace gg6 := A2.mono s15 gg6
    replace q12 := s15 _ _ q12
    replace q14 := s15 _ _ q14
    replace h14 := A2.mono s15 h14
    replace sF := sF.trans s15
    obtain ⟨F22, s22, w22, q22⟩ : ∃ F', Same F15 F' ∧ W F' _ (os) ∧ F' D15 = some (.lst us15) := w15.freezeE (pre := [])
    replace q1 := s22 _ _ q1
    replace h2 := A2.mono s22 h2
    replace q2 := s22 _ _ q2
    replace h3 := A2.mono s22 h3
    replace q3 := s22 _ _ q3
    replace h5 := A2.mono s22 h5
    replace q5 := s22 _ _ q5
    replace gg6 := A2.mono s22 gg6
    replace q12 := s22 _ _ q12
    replace q14 := s22 _ _ q14
    replace h14 := A2.mono s22 h14
    replace gg15 := A2.mono s22 gg15
    replace sF := sF.trans s22
    exact (post_ok hm) _ _ _ w22 sF (rep_lst q22 gg15)
def sp_law_looks (K : Fg) : Sp := fun vs H Q E => ∃ (F : Hp) (os : List (Addr × HO)) (a_pool : Addr) (vs_pool : List V) (x_pool : (List Int)) (x_many : Int), vs = [.ref a_pool, .int x_many] ∧ W F H ((a_pool, .lst vs_pool) :: os) ∧ A2 (rep K F) vs_pool x_pool ∧ Post (law_looks x_pool x_many) (RetLM K F a_pool os Q) noX
theorem sc_law_looks : FnScope ["pool", "many", "part", "place"] ["pool", "many"] (defScope s_law_looks) := ⟨rfl, rfl, rfl, by decide +kernel, rfl, by decide +kernel, by decide +kernel⟩
theorem ok_law_looks (T : Tx K mg A FD) : FnOk P w K mg base CX0 2 (A 32) (FD 32) ["pool", "many"] (sp_law_looks K) := by
  refine T.d32.fn.ok sc_law_looks (fun vs H Q E h => ?_) (fun cdv Ar outer s H vs Q E hr h => ?_)
  · obtain ⟨F, os, a_pool, vs_pool, x_pool, x_many, rfl, _⟩ := h
    rfl
  · obtain ⟨F0, os, a_pool, vs_pool, x_pool, x_many, rfl, w0, h_pool, hm⟩ := h
    have sF : Same F0 F0 := Same.refl _
    refine ⟨_, (pss_cons (ps_set (i := 2) sc_law_looks.nd rfl (Or.inr rfl) (pe_call (ok_law_take T) (hr.mono (by decide)) (by rfl) T.d23.mg T.d23.fn.kp T.d23.b .nil pass0 (pa_cons (pv 0) (pa_cons pe_int pa_nil)))) (pss_one (ps_ret (pe_lc (own := [("place", 3)]) (g := gName 3) (by rfl) sc_law_looks.nd (pi_range1 (by rfl) T.n_range (pa_cons (pv 1) pa_nil)) (blkOk_by (own := [("place", 3)]) (N := ["pool", "many", "part", "place"]) (sc := defScope s_law_looks) (by decide +kernel)) (fun _ _ _ _ _ => (pg_name (i := 3) sc_law_looks.nd rfl (Or.inl rfl))) (fun _ _ _ _ _ => (pts_one (pt_cmp (pc_lt (pe_call (ok_law_take T) (hr.mono (by decide)) (by rfl) T.d23.mg T.d23.fn.kp T.d23.b .nil pass0 (pa_cons (pv 0) (pa_cons pe_int pa_nil))) (pe_ix (ix_listK (K := K) rfl) (pe_lst (pa_cons pe_int (pa_cons pe_int (pa_cons pe_int (pa_cons pe_int (pa_cons pe_int (pa_cons pe_int pa_nil))))))) (pv 2) (fun _ _ => rfl)))))) (fun _ _ _ _ _ => (pv 3)))))), ?_⟩
    refine ⟨_, rfl, _, _, _, _, _, _, rfl, w0, h_pool, ?_⟩
    refine (post_bind hm).mono (fun y2 hm v2 vs2 F2 H2 w2 s2 r2 h2 => ?_) (fun _ z => z)
    replace sF := sF.trans s2
    obtain rfl : v2 = V.int y2.1 := r2
    obtain ⟨c3, hm⟩ := pb_rng hm
    refine ⟨_, rfl, _, rfl, c3.2.2.1, c3.2.2.2, fun D4 nD4 => ?_⟩
    refine lcFil (K := K) (tw_rng0 (j := x_many)) hm (fun (g4 : (List Int)) F' os' => ∃ (vs4_0 : List V), os' = (a_pool, .lst vs4_0) :: os ∧ A2 (rep K F') vs4_0 g4) w2 ⟨_, rfl, h2⟩ nD4 (fun g F' H' os' acc s w o => by obtain ⟨_, rfl, _⟩ := o; exact trivial) ?_ ?_
    · -- one turn
      intro b4 g4 x4 F4 H4 H4' os4 acc4 N4 M4 P4 s4 w4 o4 y4 hN4 hM4 hm
      obtain ⟨vs4_0, rfl, h4_0⟩ := o4
      replace sF := sF.trans s4
      obtain ⟨rfl, rfl⟩ := y4
      have w6 : W F4 _ ((a_pool, .lst vs4_0) :: (D4, .lst acc4) :: os) := w4.front (pre := [_])
      refine ⟨rfl, _, rfl, _, _, _, _, _, _, rfl, w6, h4_0, ?_⟩
      refine (post_bind hm).mono (fun y7 hm v7 vs7 F7 H7 w7 s7 r7 h7 => ?_) (fun _ z => z)
      replace sF := sF.trans s7
      obtain rfl : v7 = V.int y7.1 := r7
      have h8 : A2 (rep K F7) [(.int 0), (.int 1), (.int 2), (.int 3), (.int 5), (.int 6)] ([(0 : Int), (1 : Int), (2 : Int), (3 : Int), (5 : Int), (6 : Int)] : (List Int)) := .cons rep_i (.cons rep_i (.cons rep_i (.cons rep_i (.cons rep_i (.cons rep_i (.nil))))))
      refine ⟨(by show 6 ≤ sizeLine; decide), fun p9 n9 => ?_⟩
      have w9 : W F7 _ ((p9, .lst [(.int 0), (.int 1), (.int 2), (.int 3), (.int 5), (.int 6)]) :: (a_pool, .lst vs7) :: (D4, .lst acc4) :: os) := w7.new n9
      obtain ⟨t10, e10, hm⟩ := pb_get hm
      obtain ⟨u10, f10, r10⟩ := A2.at h8 e10
      obtain rfl : u10 = V.int t10 := r10
      refine ⟨_, rfl, _, _, _, _, rfl, rfl, SqL.of (w9.get (pre := [])), f10, _, _, rfl, rfl, _, rfl, ?_⟩
      refine post_ite hm (fun k11 hm => ?_) (fun k11 hm => ?_)
      · skip
        have w12 : W F7 _ ((a_pool, .lst vs7) :: (D4, .lst acc4) :: os) := w9.drop (pre := [])
        have w13 : W F7 _ ((D4, .lst acc4) :: (a_pool, .lst vs7) :: os) := w12.front (pre := [_])
        exact ⟨_, rfl, hN4 _ _ (post_ok hm) _ _ _ _ w13 s7 ⟨_, rfl, h7⟩ rep_i⟩
      · skip
        have w14 : W F7 _ ((a_pool, .lst vs7) :: (D4, .lst acc4) :: os) := w9.drop (pre := [])
        have w15 : W F7 _ ((D4, .lst acc4) :: (a_pool, .lst vs7) :: os) := w14.front (pre := [_])
        exact hM4 _ (post_ok hm) _ _ _ w15 s7 ⟨_, rfl, h7⟩
    intro g4 us4 F4 H4 os4 ys4 s4 w4 o4 gg4 hm
    obtain ⟨vs4_0, rfl, h4_0⟩ := o4
    replace sF := sF.trans s4
    exact (post_ok hm) _ _ _ _ _ w4 sF gg4 h4_0
def sp_law_ends (K : Fg) : Sp := fun vs H Q E => ∃ (F : Hp) (os : List (Addr × HO)) (v_web : V) (x_web : (Int × (Tup (Int × Int)))), vs = [v_web] ∧ W F H (os) ∧ rep K F v_web x_web ∧ Post (law_ends x_web) (RetL K F os Q) noX
theorem sc_law_ends : FnScope ["web", "place", "tie"] ["web"] (defScope s_law_ends) := ⟨rfl, rfl, rfl, by decide +kernel, rfl, by decide +kernel, by decide +kernel⟩
theorem ok_law_ends (T : Tx K mg A FD) : FnOk P w K mg base CX0 1 (A 33) (FD 33) ["web"] (sp_law_ends K) := by
  refine T.d33.fn.ok sc_law_ends (fun vs H Q E h => ?_) (fun cdv Ar outer s H vs Q E hr h => ?_)
  · obtain ⟨F, os, v_web, x_web, rfl, _⟩ := h
    rfl
  · obtain ⟨F0, os, v_web, x_web, rfl, w0, r_web, hm⟩ := h
    have sF : Same F0 F0 := Same.refl _
    obtain ⟨a1, u1, z1, rfl, q1, r1a, r1b⟩ := r_web
    obtain rfl : u1 = V.int x_web.1 := r1a
    obtain ⟨a2, vs2, rfl, q2, h2⟩ := r1b
    refine ⟨_, (pss_one (ps_ret (pe_lc (own := [("place", 1)]) (g := gName 1) (by rfl) sc_law_ends.nd (pi_range1 (by rfl) T.n_range (pa_cons (pe_ix (ix_tupK (K := K) rfl) (pv 0) pe_int (fun _ _ => rfl)) pa_nil)) (blkOk_by (own := [("place", 1)]) (N := ["web", "place", "tie"]) (sc := defScope s_law_ends) (by decide +kernel)) (fun _ _ _ _ _ => (pg_name (i := 1) sc_law_ends.nd rfl (Or.inr rfl))) (fun _ _ _ _ _ => (pts_one (pt_cmp (pc_eqI (pe_callB (call_lenN (K := K) rfl) (by rfl) T.n_len (by decide +kernel) (pa_cons (pe_lc (own := [("tie", 2)]) (g := gName 2) (by rfl) sc_law_ends.nd (pi_tupK (K := K) rfl (pe_ix (ix_tupK (K := K) rfl) (pv 0) pe_int (fun _ _ => rfl))) (blkOk_by (own := [("tie", 2)]) (N := ["web", "place", "tie"]) (sc := _) (by kernel_rfl)) (fun _ _ _ _ _ => (pg_name (i := 2) sc_law_ends.nd rfl (Or.inl rfl))) (fun _ _ _ _ _ => (pts_one (pt_cmpR (op_inT (K := K) rfl Int (by decide) (Room.units65 hr)) (pv 1) (pv 2) (by rfl)))) (fun _ _ _ _ _ => (pv 2))) pa_nil)) pe_int)))) (fun _ _ _ _ _ => (pv 1))))), ?_⟩
    obtain ⟨c3, hm⟩ := pb_rng hm
    refine ⟨_, rfl, _, _, _, _, rfl, rfl, SqT.of (w0.same _ _ q1), rfl, _, rfl, c3.2.2.1, c3.2.2.2, fun D4 nD4 => ?_⟩
    refine lcF (K := K) (tw_rng0 (j := x_web.1)) hm w0 nD4 (fun F' H' acc s w => trivial) ?_ ?_
    · -- one turn
      intro b4 x4 F4 H4 H4' acc4 N4 M4 P4 s4 w4 y4 hN4 hM4 hm
      replace q1 := s4 _ _ q1
      replace q2 := s4 _ _ q2
      replace h2 := A2.mono s4 h2
      replace sF := sF.trans s4
      obtain ⟨rfl, rfl⟩ := y4
      refine ⟨rfl, _, rfl, _, _, _, _, rfl, rfl, SqT.of (w4.same _ _ q1), rfl, _, rfl, ⟨_, SqT.of (w4.same _ _ q2)⟩, fun D6 nD6 => ?_⟩
      refine lcF (K := K) (tw_tup (a := a2) h2) hm w4 nD6 (fun F' H' acc s w => SqT.of (w.same _ _ (s _ _ q2))) ?_ ?_
      · -- one turn
        intro b6 x6 F6 H6 H6' acc6 N6 M6 P6 s6 w6 y6 hN6 hM6 hm
        replace q1 := s6 _ _ q1
        replace q2 := s6 _ _ q2
        replace h2 := A2.mono s6 h2
        replace sF := sF.trans s6
        obtain ⟨rfl, r8⟩ := y6
        replace r8 := Rep.mono s6 r8
        obtain ⟨a9, u9, z9, rfl, q9, r9a, r9b⟩ := r8
        obtain rfl : u9 = V.int b6.1 := r9a
        obtain rfl : z9 = V.int b6.2 := r9b
        have h10 : A2 (rep K F6) [(.int b6.1), (.int b6.2)] ([b6.1, b6.2] : List Int) := .cons rep_i (.cons rep_i .nil)
        refine ⟨rfl, _, rfl, _, rfl, (b4 : Int), _, rep_i, (Rep.mono w6.same (rep_tup q9 h10)), _, rfl, ?_⟩
        refine post_ite hm (fun k11 hm => ?_) (fun k11 hm => ?_)
        · skip
          exact ⟨_, rfl, hN6 _ (post_ok hm) _ _ _ w6 (Same.refl _) (rep_pair q9 rep_i rep_i)⟩
        · skip
          exact hM6 (post_ok hm) _ _ w6 (Same.refl _)
      intro us6 F6 H6 ys6 s6 w6 gg6 hm
      replace q1 := s6 _ _ q1
      replace q2 := s6 _ _ q2
      replace h2 := A2.mono s6 h2
      replace sF := sF.trans s6
      refine ⟨_, _, _, rfl, .inl (SqL.of (w6.get (pre := []))), gg6.length, _, _, rfl, rfl, _, rfl, ?_⟩
      refine post_ite hm (fun k13 hm => ?_) (fun k13 hm => ?_)
      · skip
        have w14 : W F6 _ ((D4, .lst acc4) :: os) := w6.drop (pre := [])
        exact ⟨_, rfl, hN4 _ (post_ok hm) _ _ _ w14 s6 rep_i⟩
      · skip
        have w15 : W F6 _ ((D4, .lst acc4) :: os) := w6.drop (pre := [])
        exact hM4 (post_ok hm) _ _ w15 s6
    intro us4 F4 H4 ys4 s4 w4 gg4 hm
    replace q1 := s4 _ _ q1
    replace q2 := s4 _ _ q2
    replace h2 := A2.mono s4 h2
    replace sF := sF.trans s4
    exact (post_ok hm) _ _ _ _ w4 sF gg4
def sp_law_right (K : Fg) : Sp := fun vs H Q E => ∃ (F : Hp) (os : List (Addr × HO)) (v_web : V) (x_web : (Int × (Tup (Int × Int)))) (v_looks : V) (x_looks : (List Int)) (x_kind : Str), vs = [v_web, v_looks, .str x_kind] ∧ W F H (os) ∧ rep K F v_web x_web ∧ rep K F v_looks x_looks ∧ Post (law_right x_web x_looks x_kind) (Ret K F os Q) noX
theorem sc_law_right : FnScope ["web", "looks", "kind", "handed", "found", "codes", "things", "one", "both"] ["web", "looks", "kind"] (defScope s_law_right) := ⟨rfl, rfl, rfl, by decide +kernel, rfl, by decide +kernel, by decide +kernel⟩
set_option maxHeartbeats 40000000 in
theorem ok_law_right (T : Tx K mg A FD) : FnOk P w K mg base CX0 6 (A 34) (FD 34) ["web", "looks", "kind"] (sp_law_right K) := by
  refine T.d34.fn.ok sc_law_right (fun vs H Q E h => ?_) (fun cdv Ar outer s H vs Q E hr h => ?_)
  · obtain ⟨F, os, v_web, x_web, v_looks, x_looks, x_kind, rfl, _⟩ := h
    rfl
  · obtain ⟨F0, os, v_web, x_web, v_looks, x_looks, x_kind, rfl, w0, r_web, r_looks, hm⟩ := h
    have sF : Same F0 F0 := Same.refl _
    obtain ⟨a1, u1, z1, rfl, q1, r1a, r1b⟩ := r_web
    obtain rfl : u1 = V.int x_web.1 := r1a
    obtain ⟨a2, vs2, rfl, q2, h2⟩ := r1b
    obtain ⟨a3, vs3, rfl, q3, h3⟩ := r_looks
    refine ⟨_, (pss_cons (ps_set (i := 3) sc_law_right.nd rfl (Or.inl rfl) (pe_callTy (call_list_ofK (K := K) rfl) (by rfl) T.n_list (by decide +kernel) (pa_cons (pv 1) pa_nil))) (pss_cons (ps_set (i := 4) sc_law_right.nd rfl (Or.inl rfl) (pe_call (ok_tree_likes T) (hr.mono (by decide)) (by rfl) T.d19.mg T.d19.fn.kp T.d19.b .nil pass0 (pa_cons (pv 0) (pa_cons (pv 3) (pa_cons (pv 2) pa_nil))))) (pss_cons (ps_set (i := 5) sc_law_right.nd rfl (Or.inr rfl) (pe_call (ok_law_codes T) (hr.mono (by decide)) (by rfl) T.d31.mg T.d31.fn.kp T.d31.b .nil pass0 (pa_cons (pv 0) (pa_cons (pv 1) (pa_cons (pv 2) pa_nil))))) (pss_cons (ps_if (PW.pt (pw_or (pt_cmpR (op_neDt (K := K) rfl (List Int) (by decide) hr.units) (pv 3) (pv 1) (nomark _)) (pw_or1 (pt_cmpR (op_neDt (K := K) rfl (Option (Tup Thing)) (by decide) hr.units) (pe_call (ok_tree_likes T) (hr.mono (by decide)) (by rfl) T.d19.mg T.d19.fn.kp T.d19.b .nil pass0 (pa_cons (pv 0) (pa_cons (pv 3) (pa_cons (pv 2) pa_nil)))) (pv 4) (nomark _))))) (pss_one (ps_ret pe_bl)) pss_nil) (pss_cons (ps_if (pt_cmpR op_isN2 (pv 4) pe_non (nomark _)) (pss_one (ps_ret (pe_cmp (pc_eqI (pe_callB call_lenSN (by rfl) T.n_len (by decide +kernel) (pa_cons (pe_callTy (cr_setU (K := K) rfl rfl hr.units) (by rfl) T.n_set (by decide +kernel) (pa_cons (pv 5) pa_nil)) pa_nil)) (pe_callB (call_lenN (K := K) rfl) (by rfl) T.n_len (by decide +kernel) (pa_cons (pv 5) pa_nil)))))) pss_nil) (pss_cons (ps_set (i := 6) sc_law_right.nd rfl (Or.inr rfl) (pe_call (ok_law_things T) (hr.mono (by decide)) (by rfl) T.d29.mg T.d29.fn.kp T.d29.b .nil pass0 (pa_cons (pv 0) (pa_cons (pv 2) pa_nil)))) (pss_cons (ps_if (PW.pt (pw_or (pt_not (pt_val (pe_callB (call_isB (K := K) rfl) (by rfl) T.n_isinstance (by decide +kernel) (pa_cons (pv 4) (pa_cons (pe_bltn (v := .ty "tuple") (by rfl) T.n_tuple (by decide +kernel) rfl) pa_nil))))) (pw_or (pt_cmp (pc_neI (pe_callB (call_lenN (K := K) rfl) (by rfl) T.n_len (by decide +kernel) (pa_cons (pv 4) pa_nil)) pe_int)) (pw_or1 (pt_cmpR (op_eqDt (K := K) rfl Thing (by decide) hr.units) (pe_ix (ix_tupK (K := K) rfl) (pv 4) pe_int (fun _ _ => rfl)) (pe_ix (ix_tupK (K := K) rfl) (pv 4) pe_int (fun _ _ => rfl)) (nomark _)))))) (pss_one (ps_ret pe_bl)) pss_nil) (pss_cons (ps_for PassesOwn.never rfl (pi_tupK (K := K) rfl (pv 4)) (pg_name (i := 7) sc_law_right.nd rfl (Or.inl rfl)) (pss_one (ps_if (PW.pt (pw_or (pt_cmpR (op_notInL (K := K) rfl Thing (by decide) (Room.units65 hr)) (pv 7) (pv 6) (by rfl)) (pw_or (pt_not (pt_val (pe_callB (call_isBT (K := K) rfl) (by rfl) T.n_isinstance (by decide +kernel) (pa_cons (pv 7) (pa_cons (pe_tup (pa_cons (pe_bltn (v := .ty "int") (by rfl) T.n_int (by decide +kernel) rfl) (pa_cons (pe_bltn (v := .ty "tuple") (by rfl) T.n_tuple (by decide +kernel) rfl) pa_nil))) pa_nil))))) (pw_or1 (pt_val (pe_callB (call_isB (K := K) rfl) (by rfl) T.n_isinstance (by decide +kernel) (pa_cons (pv 7) (pa_cons (pe_bltn (v := .ty "bool") (by rfl) T.n_bool (by decide +kernel) rfl) pa_nil)))))))) (pss_one (ps_ret pe_bl)) pss_nil))) (pss_cons (ps_setLc (i := 8) (own := [("one", 7)]) (g := gName 7) (by rfl) sc_law_right.nd rfl rfl (sw_true rfl rfl rfl (by decide +kernel)) (pi_tupK (K := K) rfl (pv 4)) (blkOk_by (own := [("one", 7)]) (N := ["web", "looks", "kind", "handed", "found", "codes", "things", "one", "both"]) (sc := defScope s_law_right) (by decide +kernel)) (fun _ _ _ _ _ => (pg_name (i := 7) sc_law_right.nd rfl (Or.inl rfl))) (fun _ _ _ _ _ => pts_nil) (fun _ _ _ _ _ => (pe_ix (ix_listK (K := K) rfl) (pv 5) (pe_k (K := K) (t := fun K => tBM K _ _ _ _) rfl (pe_bm PySem.F.plainAttrs_list PySem.F.slot_list_index PySem.F.type_list_index (mt_indexDt (K := K) rfl Thing (by decide) (by have z := Room.units65 hr; exact z)) (pv 6) (pa_cons (pv 7) pa_nil))) (fun _ _ => rfl)))) (pss_one (ps_ret (pe_cmpR (op_eqDt (K := K) rfl (Tup Int) (by decide) hr.units) (pe_ix (ix_listK (K := K) rfl) (pv 8) pe_int (fun _ _ => rfl)) (pe_ix (ix_listK (K := K) rfl) (pv 8) pe_int (fun _ _ => rfl)) (nomark _))))))))))))), ?_⟩
    have h4 : A2 (rep K F0) vs3 x_looks := h3
    refine ⟨_, rfl, _, _, rfl, .inl (SqL.of (w0.same _ _ q3)), fun p5 n5 => ?_⟩
    have w5 : W F0 _ ((p5, .lst vs3) :: os) := w0.new n5
    obtain ⟨F6, s6, w6, q6⟩ : ∃ F', Same F0 F' ∧ W F' _ (os) ∧ F' p5 = some (.lst vs3) := w5.freezeE (pre := [])
    replace q1 := s6 _ _ q1
    replace q2 := s6 _ _ q2
    replace h2 := A2.mono s6 h2
    replace q3 := s6 _ _ q3
    replace h3 := A2.mono s6 h3
    replace h4 := A2.mono s6 h4
    replace sF := sF.trans s6
    refine ⟨_, rfl, _, rfl, _, rfl, _, _, _, (x_web : (Int × (Tup (Int × Int)))), _, (x_looks : (List Int)), _, rfl, w6, (rep_pair q1 rep_i (rep_tup q2 h2)), (rep_lst q6 h4), ?_⟩
    refine (post_bind hm).mono (fun y7 hm v7 F7 H7 w7 s7 r7 => ?_) (fun _ z => z)
    replace q1 := s7 _ _ q1
    replace h2 := A2.mono s7 h2
    replace q2 := s7 _ _ q2
    replace h3 := A2.mono s7 h3
    replace q3 := s7 _ _ q3
    replace h4 := A2.mono s7 h4
    replace q6 := s7 _ _ q6
    replace sF := sF.trans s7
    refine ⟨_, rfl, _, rfl, _, rfl, _, _, _, (x_web : (Int × (Tup (Int × Int)))), _, (x_looks : (List Int)), _, rfl, w7, (rep_pair q1 rep_i (rep_tup q2 h2)), (rep_lst q3 h3), ?_⟩
    refine (post_bind hm).mono (fun y9 hm v9 F9 H9 w9 s9 r9 => ?_) (fun _ z => z)
    replace q1 := s9 _ _ q1
    replace h2 := A2.mono s9 h2
    replace q2 := s9 _ _ q2
    replace h3 := A2.mono s9 h3
    replace q3 := s9 _ _ q3
    replace h4 := A2.mono s9 h4
    replace q6 := s9 _ _ q6
    replace r7 := Rep.mono s9 r7
    replace sF := sF.trans s9
    obtain ⟨a10, vs10, rfl, q10, h10⟩ := r9
    refine stepN ?_
    try dsimp only
    refine stepSeq (stepIf ?_)
    refine joinT hm (fun (j11 : Bool) c H' => c = j11 ∧ ∃ (F' : Hp), Same F9 F' ∧ W F' H' (os)) ?_ ?_
    · intro Q11 P11 q11 hm
      refine ⟨_, rfl, _, rfl, (x_looks : (List Int)), (x_looks : (List Int)), (Rep.mono w9.same (rep_lst q6 h4)), (Rep.mono w9.same (rep_lst q3 h3)), _, rfl, ?_⟩
      refine post_ite hm (fun k12 hm => ?_) (fun k12 hm => ?_)
      · skip
        exact q11 _ (post_ok hm) _ _ ⟨rfl, _, Same.refl _, w9⟩
      · skip
        refine ⟨_, rfl, _, rfl, _, rfl, _, _, _, (x_web : (Int × (Tup (Int × Int)))), _, (x_looks : (List Int)), _, rfl, w9, (rep_pair q1 rep_i (rep_tup q2 h2)), (rep_lst q6 h4), ?_⟩
        refine (post_bind hm).mono (fun y14 hm v14 F14 H14 w14 s14 r14 => ?_) (fun _ z => z)
        replace q1 := s14 _ _ q1
        replace h2 := A2.mono s14 h2
        replace q2 := s14 _ _ q2
        replace h3 := A2.mono s14 h3
        replace q3 := s14 _ _ q3
        replace h4 := A2.mono s14 h4
        replace q6 := s14 _ _ q6
        replace r7 := Rep.mono s14 r7
        replace h10 := A2.mono s14 h10
        replace q10 := s14 _ _ q10
        replace sF := sF.trans s14
        exact ⟨_, rfl, (y14 : (Option (Tup Thing))), (y7 : (Option (Tup Thing))), (Rep.mono w14.same r14), (Rep.mono w14.same r7), _, rfl, q11 _ (post_ok hm) _ _ ⟨rfl, _, s14, w14⟩⟩
    intro j11 c11 H11 hc11 hm
    obtain ⟨rfl, F11, s11, w11⟩ := hc11
    replace q1 := s11 _ _ q1
    replace h2 := A2.mono s11 h2
    replace q2 := s11 _ _ q2
    replace h3 := A2.mono s11 h3
    replace q3 := s11 _ _ q3
    replace h4 := A2.mono s11 h4
    replace q6 := s11 _ _ q6
    replace r7 := Rep.mono s11 r7
    replace h10 := A2.mono s11 h10
    replace q10 := s11 _ _ q10
    replace sF := sF.trans s11
    refine post_ite hm (fun k17 hm => ?_) (fun k17 hm => ?_)
    · skip
      exact (post_ok hm) _ _ _ w11 sF rep_b
    · skip
      refine ⟨_, rfl, rfl, _, isN_eq r7, _, rfl, ?_⟩
      refine post_ite hm (fun k18 hm => ?_) (fun k18 hm => ?_)
      · skip
        obtain ⟨c19, hm⟩ := pb_setLenU hm
        refine ⟨_, rfl, _, _, _, _, rfl, SqL.of (w11.same _ _ q10), w11.same, h10, c19, fun p19 n19 => ?_⟩
        obtain ⟨F19, s19, w19, q19⟩ := w11.frzE (o := SetN p19 y9.length) n19
        replace q1 := s19 _ _ q1
        replace h2 := A2.mono s19 h2
        replace q2 := s19 _ _ q2
        replace h3 := A2.mono s19 h3
        replace q3 := s19 _ _ q3
        replace h4 := A2.mono s19 h4
        replace q6 := s19 _ _ q6
        replace r7 := Rep.mono s19 r7
        replace h10 := A2.mono s19 h10
        replace q10 := s19 _ _ q10
        replace sF := sF.trans s19
        exact ⟨_, _, rfl, w19.same _ _ q19, (okU_len c19), _, rfl, _, _, _, rfl, .inl (SqL.of (w19.same _ _ q10)), h10.length, _, _, rfl, rfl, (post_ok hm) _ _ _ w19 sF rep_b⟩
      · skip
        obtain ⟨t20, e20, hm⟩ := pb_ofO hm
        have r20 : rep K F11 v7 t20 := (show rep K F11 v7 (some t20) from e20 ▸ r7)
        obtain ⟨a21, vs21, rfl, q21, h21⟩ := r20
        refine ⟨_, rfl, _, rfl, _, _, _, (x_web : (Int × (Tup (Int × Int)))), _, rfl, w11, (rep_pair q1 rep_i (rep_tup q2 h2)), ?_⟩
        refine (post_bind hm).mono (fun y22 hm v22 F22 H22 w22 s22 r22 => ?_) (fun _ z => z)
        replace q1 := s22 _ _ q1
        replace h2 := A2.mono s22 h2
        replace q2 := s22 _ _ q2
        replace h3 := A2.mono s22 h3
        replace q3 := s22 _ _ q3
        replace h4 := A2.mono s22 h4
        replace q6 := s22 _ _ q6
        replace r7 := Rep.mono s22 r7
        replace h10 := A2.mono s22 h10
        replace q10 := s22 _ _ q10
        replace q21 := s22 _ _ q21
        replace h21 := A2.mono s22 h21
        replace sF := sF.trans s22
        obtain ⟨a23, vs23, rfl, q23, h23⟩ := r22
        refine stepN ?_
        try dsimp only
        refine stepSeq (stepIf ?_)
        refine joinT hm (fun (j24 : Bool) c H' => c = j24 ∧ ∃ (F' : Hp), Same F22 F' ∧ W F' H' (os)) ?_ ?_
        · intro Q24 P24 q24 hm
          refine ⟨_, rfl, _, _, _, true, rfl, (.tup (w22.same _ _ q21)), (by decide +kernel), _, rfl, ?_⟩
          refine post_ite hm (fun k25 hm => ?_) (fun k25 hm => ?_)
          · skip
            exact q24 _ (post_ok hm) _ _ ⟨rfl, _, Same.refl _, w22⟩
          · skip
            refine ⟨_, rfl, _, _, _, rfl, .inr (SqT.of (w22.same _ _ q21)), h21.length, _, _, rfl, rfl, _, rfl, ?_⟩
            refine post_ite hm (fun k27 hm => ?_) (fun k27 hm => ?_)
            · skip
              exact q24 _ (post_ok hm) _ _ ⟨rfl, _, Same.refl _, w22⟩
            · skip
              obtain ⟨t29, e29, hm⟩ := pb_get hm
              obtain ⟨u29, f29, r29⟩ := A2.at h21 e29
              obtain ⟨t31, e31, hm⟩ := pb_get hm
              obtain ⟨u31, f31, r31⟩ := A2.at h21 e31
              exact ⟨_, rfl, _, _, _, _, rfl, rfl, SqT.of (w22.same _ _ q21), f29, _, rfl, _, _, _, _, rfl, rfl, SqT.of (w22.same _ _ q21), f31, (t29 : Thing), (t31 : Thing), (Rep.mono w22.same r29), (Rep.mono w22.same r31), _, rfl, q24 _ (post_ok hm) _ _ ⟨rfl, _, Same.refl _, w22⟩⟩
        intro j24 c24 H24 hc24 hm
        obtain ⟨rfl, F24, s24, w24⟩ := hc24
        replace q1 := s24 _ _ q1
        replace h2 := A2.mono s24 h2
        replace q2 := s24 _ _ q2
        replace h3 := A2.mono s24 h3
        replace q3 := s24 _ _ q3
        replace h4 := A2.mono s24 h4
        replace q6 := s24 _ _ q6
        replace h21 := A2.mono s24 h21
        replace q21 := s24 _ _ q21
        replace h10 := A2.mono s24 h10
        replace q10 := s24 _ _ q10
        replace h23 := A2.mono s24 h23
        replace q23 := s24 _ _ q23
        replace sF := sF.trans s24
        refine post_ite hm (fun k34 hm => ?_) (fun k34 hm => ?_)
        · skip
          exact (post_ok hm) _ _ _ w24 sF rep_b
        · skip
          refine ⟨_, rfl, _, rfl, ⟨_, SqT.of (w24.same _ _ q21)⟩, ?_⟩
          refine forX (tw_tup (a := a21) h21) hm (fun (g35 : Unit) σ H' => ∃ (F' : Hp) (o35_7 : Option V), σ = [some (.ref a1), some (.ref a3), some (.str x_kind), some (.ref p5), some (.ref a21), some (.ref a10), some (.ref a23), o35_7, none] ∧ Same F24 F' ∧ W F' H' (os)) ⟨_, _, rfl, Same.refl _, w24⟩ (fun g σ H' hI => by obtain ⟨F', _, _, s, w⟩ := hI; exact SqT.of (w.same _ _ (s _ _ q21))) ?_ ?_
          · -- a turn
            intro b35 g35 x35 σ35 H35 H35' N35 B35 P35 hI hy hN35 hB35 hZ35 hm
            obtain ⟨F35, o35_7, rfl, s35, w35⟩ := hI
            replace q1 := s35 _ _ q1
            replace h2 := A2.mono s35 h2
            replace q2 := s35 _ _ q2
            replace h3 := A2.mono s35 h3
            replace q3 := s35 _ _ q3
            replace h4 := A2.mono s35 h4
            replace q6 := s35 _ _ q6
            replace h21 := A2.mono s35 h21
            replace q21 := s35 _ _ q21
            replace h10 := A2.mono s35 h10
            replace q10 := s35 _ _ q10
            replace h23 := A2.mono s35 h23
            replace q23 := s35 _ _ q23
            replace sF := sF.trans s35
            obtain ⟨rfl, r36⟩ := hy
            replace r36 := Rep.mono s35 r36
            refine stepN ?_
            try dsimp only
            refine stepIf ?_
            refine joinT hm (fun (j38 : Bool) c H' => c = j38 ∧ ∃ (F' : Hp), Same F35 F' ∧ W F' H' (os)) ?_ ?_
            · intro Q38 P38 q38 hm
              refine ⟨_, rfl, _, rfl, (b35 : Thing), _, (Rep.mono w35.same r36), (Rep.mono w35.same (rep_lst q23 h23)), _, rfl, ?_⟩
              refine post_ite hm (fun k39 hm => ?_) (fun k39 hm => ?_)
              · skip
                exact q38 _ (post_ok hm) _ _ ⟨rfl, _, Same.refl _, w35⟩
              · skip
                refine ⟨_, rfl, (by show 2 ≤ sizeLine; decide), fun p42 n42 => ?_⟩
                obtain ⟨F42, s42, w42, q42⟩ := w35.frzE (o := .tup [V.ty "int", V.ty "tuple"]) n42
                replace q1 := s42 _ _ q1
                replace h2 := A2.mono s42 h2
                replace q2 := s42 _ _ q2
                replace h3 := A2.mono s42 h3
                replace q3 := s42 _ _ q3
                replace h4 := A2.mono s42 h4
                replace q6 := s42 _ _ q6
                replace h21 := A2.mono s42 h21
                replace q21 := s42 _ _ q21
                replace h10 := A2.mono s42 h10
                replace q10 := s42 _ _ q10
                replace h23 := A2.mono s42 h23
                replace q23 := s42 _ _ q23
                replace r36 := Rep.mono s42 r36
                replace sF := sF.trans s42
                obtain ⟨a41, y41, k41, l41⟩ := th_it w42.same r36
                refine ⟨_, _, _, _, _, _, _, rfl, w42.same _ _ q42, y41, k41, l41, _, rfl, ?_⟩
                refine post_ite hm (fun k43 hm => ?_) (fun k43 hm => ?_)
                · skip
                  exact q38 _ (post_ok hm) _ _ ⟨rfl, _, s42, w42⟩
                · skip
                  obtain ⟨a45, y45, k45⟩ := th_bool w42.same r36
                  exact ⟨_, rfl, _, _, _, false, rfl, y45, k45, _, rfl, q38 _ (post_ok hm) _ _ ⟨rfl, _, s42, w42⟩⟩
            intro j38 c38 H38 hc38 hm
            obtain ⟨rfl, F38, s38, w38⟩ := hc38
            replace q1 := s38 _ _ q1
            replace h2 := A2.mono s38 h2
            replace q2 := s38 _ _ q2
            replace h3 := A2.mono s38 h3
            replace q3 := s38 _ _ q3
            replace h4 := A2.mono s38 h4
            replace q6 := s38 _ _ q6
            replace h21 := A2.mono s38 h21
            replace q21 := s38 _ _ q21
            replace h10 := A2.mono s38 h10
            replace q10 := s38 _ _ q10
            replace h23 := A2.mono s38 h23
            replace q23 := s38 _ _ q23
            replace r36 := Rep.mono s38 r36
            replace sF := sF.trans s38
            refine post_ite hm (fun k47 hm => ?_) (fun k47 hm => ?_)
            · skip
              have hm := hZ35 _ (post_ok hm)
              exact (post_ok hm) _ _ _ w38 sF rep_b
            · skip
              exact hN35 _ (post_ok hm) _ _ ⟨_, _, rfl, (s35.trans s38), w38⟩
          intro g35 σ35 H35 hI hm
          obtain ⟨F35, o35_7, rfl, s35, w35⟩ := hI
          replace q1 := s35 _ _ q1
          replace h2 := A2.mono s35 h2
          replace q2 := s35 _ _ q2
          replace h3 := A2.mono s35 h3
          replace q3 := s35 _ _ q3
          replace h4 := A2.mono s35 h4
          replace q6 := s35 _ _ q6
          replace h21 := A2.mono s35 h21
          replace q21 := s35 _ _ q21
          replace h10 := A2.mono s35 h10
          replace q10 := s35 _ _ q10
          replace h23 := A2.mono s35 h23
          replace q23 := s35 _ _ q23
          replace sF := sF.trans s35
          refine ⟨_, rfl, _, rfl, ⟨_, SqT.of (w35.same _ _ q21)⟩, fun D48 nD48 => ?_⟩
          refine lcM (K := K) (tw_tup (a := a21) h21) hm w35 nD48 (fun F' H' acc s w => SqT.of (w.same _ _ (s _ _ q21))) ?_ ?_
          · -- one turn
            intro b48 x48 F48 H48 H48' acc48 N48 P48 s48 w48 y48 hN48 hm
            replace q1 := s48 _ _ q1
            replace h2 := A2.mono s48 h2
            replace q2 := s48 _ _ q2
            replace h3 := A2.mono s48 h3
            replace q3 := s48 _ _ q3
            replace h4 := A2.mono s48 h4
            replace q6 := s48 _ _ q6
            replace h21 := A2.mono s48 h21
            replace q21 := s48 _ _ q21
            replace h10 := A2.mono s48 h10
            replace q10 := s48 _ _ q10
            replace h23 := A2.mono s48 h23
            replace q23 := s48 _ _ q23
            replace sF := sF.trans s48
            obtain ⟨rfl, r50⟩ := y48
            replace r50 := Rep.mono s48 r50
            obtain ⟨t52, e52, hm⟩ := pb_idx hm
            obtain ⟨t53, e53, hm⟩ := pb_get hm
            obtain ⟨u53, f53, r53⟩ := A2.at h10 e53
            obtain ⟨a54, vs54, rfl, q54, h54⟩ := r53
            exact ⟨rfl, _, rfl, _, rfl, .inl ⟨rfl, _, SqL.of (w48.same _ _ q23)⟩, _, rfl, _, _, (y22 : (List Thing)), (b48 : Thing), _, rfl, rfl, (Rep.mono w48.same (rep_lst q23 h23)), (Rep.mono w48.same r50), e52, _, _, _, _, rfl, rfl, SqL.of (w48.same _ _ q10), f53, hN48 _ (post_ok hm) _ _ _ w48 (Same.refl _) (rep_tup q54 h54)⟩
          intro us48 F48 H48 ys48 s48 w48 gg48 hm
          replace q1 := s48 _ _ q1
          replace h2 := A2.mono s48 h2
          replace q2 := s48 _ _ q2
          replace h3 := A2.mono s48 h3
          replace q3 := s48 _ _ q3
          replace h4 := A2.mono s48 h4
          replace q6 := s48 _ _ q6
          replace h21 := A2.mono s48 h21
          replace q21 := s48 _ _ q21
          replace h10 := A2.mono s48 h10
          replace q10 := s48 _ _ q10
          replace h23 := A2.mono s48 h23
          replace q23 := s48 _ _ q23
          replace sF := sF.trans s48
          obtain ⟨F56, s56, w56, q56⟩ : ∃ F', Same F48 F' ∧ W F' _ (os) ∧ F' D48 = some (.lst us48) := w48.freezeE (pre := [])
          replace q1 := s56 _ _ q1
          replace h2 := A2.mono s56 h2
          replace q2 := s56 _ _ q2
          replace h3 := A2.mono s56 h3
          replace q3 := s56 _ _ q3
          replace h4 := A2.mono s56 h4
          replace q6 := s56 _ _ q6
          replace h21 := A2.mono s56 h21
          replace q21 := s56 _ _ q21
          replace h10 := A2.mono s56 h10
          replace q10 := s56 _ _ q10
          replace h23 := A2.mono s56 h23
          replace q23 := s56 _ _ q23
          replace gg48 := A2.mono s56 gg48
          replace sF := sF.trans s56
          obtain ⟨t57, e57, hm⟩ := pb_get hm
          obtain ⟨u57, f57, r57⟩ := A2.at gg48 e57
          obtain ⟨a58, vs58, rfl, q58, h58⟩ := r57
          obtain ⟨t59, e59, hm⟩ := pb_get hm
          obtain ⟨u59, f59, r59⟩ := A2.at gg48 e59
          obtain ⟨a60, vs60, rfl, q60, h60⟩ := r59
          exact ⟨_, rfl, _, _, _, _, rfl, rfl, SqL.of (w56.same _ _ q56), f57, _, rfl, _, _, _, _, rfl, rfl, SqL.of (w56.same _ _ q56), f59, (t57 : (Tup Int)), (t59 : (Tup Int)), (Rep.mono w56.same (rep_tup q58 h58)), (Rep.mono w56.same (rep_tup q60 h60)), (post_ok hm) _ _ _ w56 sF rep_b⟩
def sp_law (K : Fg) : Sp := fun vs H Q E => ∃ (F : Hp) (os : List (Addr × HO)) (v_script : V) (x_script : Scr), vs = [v_script] ∧ W F H (os) ∧ rep K F v_script x_script ∧ Post (law x_script) (Ret K F os Q) noX
theorem sc_law : FnScope ["script", "cells", "k", "pool", "web", "ends", "at", "some", "looks", "kind"] ["script"] (defScope s_law) := ⟨rfl, rfl, rfl, by decide +kernel, rfl, by decide +kernel, by decide +kernel⟩
set_option maxHeartbeats 40000000 in
theorem ok_law (T : Tx K mg A FD) : FnOk P w K mg base CX0 7 (A 35) (FD 35) ["script"] (sp_law K) := by
  refine T.d35.fn.ok sc_law (fun vs H Q E h => ?_) (fun cdv Ar outer s H vs Q E hr h => ?_)
  · obtain ⟨F, os, v_script, x_script, rfl, _⟩ := h
    rfl
  · obtain ⟨F0, os, v_script, x_script, rfl, w0, r_script, hm⟩ := h
    have sF : Same F0 F0 := Same.refl _
    obtain ⟨a1, rfl, q1⟩ := r_script
    have h1 : A2 (rep K F0) (x_script.l.map V.int) x_script.l := A2.of_ints
    refine ⟨_, (pss_cons (ps_set (i := 1) sc_law.nd rfl (Or.inl rfl) (pe_call (ok_law_cells T) (hr.mono (by decide)) (by rfl) T.d21.mg T.d21.fn.kp T.d21.b .nil pass0 (pa_cons (pv 0) (pa_cons pe_int pa_nil)))) (pss_cons (ps_for PassesOwn.never rfl (pi_range1 (by rfl) T.n_range (pa_cons (pe_callB (call_max2 rfl) (by rfl) T.n_max (by decide +kernel) (pa_cons pe_int (pa_cons (pe_callB (call_lenN (K := K) rfl) (by rfl) T.n_len (by decide +kernel) (pa_cons (pv 1) pa_nil)) pa_nil))) pa_nil)) (pg_name (i := 2) sc_law.nd rfl (Or.inl rfl)) (pss_cons (ps_set (i := 3) sc_law.nd rfl (Or.inl rfl) (pe_call (ok_law_pool T) (hr.mono (by decide)) (by rfl) T.d22.mg T.d22.fn.kp T.d22.b .nil pass0 (pa_cons (pv 1) (pa_cons (pv 2) pa_nil)))) (pss_cons (ps_set (i := 4) sc_law.nd rfl (Or.inl rfl) (pe_call (ok_law_tree T) (hr.mono (by decide)) (by rfl) T.d26.mg T.d26.fn.kp T.d26.b .nil pass0 (pa_cons (pv 3) (pa_cons (pe_ix (ix_listK (K := K) rfl) (pe_lst (pa_cons pe_int (pa_cons pe_int pa_nil))) (pe_callTy call_intB (by rfl) T.n_int (by decide +kernel) (pa_cons (pe_cmp (pc_eqI (pe_call (ok_law_take T) (hr.mono (by decide)) (by rfl) T.d23.mg T.d23.fn.kp T.d23.b .nil pass0 (pa_cons (pv 3) (pa_cons pe_int pa_nil))) pe_int)) pa_nil)) (fun _ _ => rfl)) pa_nil)))) (pss_cons (ps_set (i := 5) sc_law.nd rfl (Or.inl rfl) (pe_call (ok_law_ends T) (hr.mono (by decide)) (by rfl) T.d33.mg T.d33.fn.kp T.d33.b .nil pass0 (pa_cons (pv 4) pa_nil))) (pss_cons (ps_set (i := 6) sc_law.nd rfl (Or.inl rfl) (pe_call (ok_law_take T) (hr.mono (by decide)) (by rfl) T.d23.mg T.d23.fn.kp T.d23.b .nil pass0 (pa_cons (pv 3) (pa_cons (pe_op op_add (pe_callB (call_lenN (K := K) rfl) (by rfl) T.n_len (by decide +kernel) (pa_cons (pv 5) pa_nil)) pe_int) pa_nil)))) (pss_cons (ps_set (i := 7) sc_law.nd rfl (Or.inl rfl) (pe_lst (pa_cons (pe_call (ok_law_looks T) (hr.mono (by decide)) (by rfl) T.d32.mg T.d32.fn.kp T.d32.b .nil pass0 (pa_cons (pv 3) (pa_cons (pe_ix (ix_tupK (K := K) rfl) (pv 4) pe_int (fun _ _ => rfl)) pa_nil))) (pa_cons (pe_call (ok_law_looks T) (hr.mono (by decide)) (by rfl) T.d32.mg T.d32.fn.kp T.d32.b .nil pass0 (pa_cons (pv 3) (pa_cons (pe_ix (ix_tupK (K := K) rfl) (pv 4) pe_int (fun _ _ => rfl)) pa_nil))) pa_nil)))) (pss_one (ps_for PassesOwn.never rfl (pi_listK (K := K) rfl (pe_op op_cat (pv 7) (pe_lst (pa_cons (pv 5) (pa_cons (pe_op op_cat (pe_slice (sl_listK (K := K) rfl) (pv 5) po_none (po_some (pv 6))) (pe_slice (sl_listK (K := K) rfl) (pv 5) (po_some (pe_op op_add (pv 6) pe_int)) po_none)) pa_nil))))) (pg_name (i := 8) sc_law.nd rfl (Or.inl rfl)) (pss_one (ps_for PassesOwn.never rfl (pi_listK (K := K) rfl (pe_lst (pa_cons pe_str (pa_cons pe_str (pa_cons pe_str pa_nil))))) (pg_name (i := 9) sc_law.nd rfl (Or.inl rfl)) (pss_one (ps_if (pt_not (pt_val (pe_call (ok_law_right T) (hr.mono (by decide)) (by rfl) T.d34.mg T.d34.fn.kp T.d34.b .nil pass0 (pa_cons (pv 4) (pa_cons (pv 8) (pa_cons (pv 9) pa_nil)))))) (pss_one (ps_ret pe_bl)) pss_nil)))))))))))) (pss_one (ps_ret pe_bl)))), ?_⟩
    refine ⟨_, rfl, _, _, _, (x_script : Scr), _, rfl, w0, ⟨_, rfl, q1⟩, ?_⟩
    refine (post_bind hm).mono (fun y2 hm p2 us2 F2 H2 w2 s2 g2 => ?_) (fun _ z => z)
    replace q1 := s2.seq q1
    replace h1 := A2.mono s2 h1
    replace sF := sF.trans s2
    obtain ⟨F4, s4, w4, q4⟩ : ∃ F', Same F2 F' ∧ W F' _ (os) ∧ F' p2 = some (.lst us2) := w2.freezeE (pre := [])
    replace q1 := s4.seq q1
    replace h1 := A2.mono s4 h1
    replace g2 := A2.mono s4 g2
    replace sF := sF.trans s4
    obtain ⟨c6, hm⟩ := pb_rng hm
    refine ⟨_, rfl, _, _, _, rfl, .inl (SqL.of (w4.same _ _ q4)), g2.length, _, _, rfl, _, rfl, c6.2.2.1, c6.2.2.2, ?_⟩
    refine forX (tw_rng0 (j := (max2 (1 : Int) (y2.length : Int)))) hm (fun (g5 : Unit) σ H' => ∃ (F' : Hp) (o5_3 : Option V) (o5_4 : Option V) (o5_5 : Option V) (o5_6 : Option V) (o5_7 : Option V) (o5_8 : Option V) (o5_9 : Option V) (o5_2 : Option V), σ = [some (.ref a1), some (.ref p2), o5_2, o5_3, o5_4, o5_5, o5_6, o5_7, o5_8, o5_9] ∧ Same F4 F' ∧ W F' H' (os)) ⟨_, _, _, _, _, _, _, _, _, rfl, Same.refl _, w4⟩ (fun _ _ _ _ => trivial) ?_ ?_
    · -- a turn
      intro b5 g5 x5 σ5 H5 H5' N5 B5 P5 hI hy hN5 hB5 hZ5 hm
      obtain ⟨F5, o5_3, o5_4, o5_5, o5_6, o5_7, o5_8, o5_9, o5_2, rfl, s5, w5⟩ := hI
      replace h1 := A2.mono s5 h1
      replace q1 := s5.seq q1
      replace g2 := A2.mono s5 g2
      replace q4 := s5 _ _ q4
      replace sF := sF.trans s5
      obtain ⟨rfl, rfl⟩ := hy
      refine ⟨_, rfl, _, rfl, _, _, _, (y2 : (List Int)), _, rfl, w5, (rep_lst q4 g2), ?_⟩
      refine (post_bind hm).mono (fun y7 hm p7 us7 F7 H7 w7 s7 g7 => ?_) (fun _ z => z)
      replace h1 := A2.mono s7 h1
      replace q1 := s7.seq q1
      replace g2 := A2.mono s7 g2
      replace q4 := s7 _ _ q4
      replace sF := sF.trans s7
      have h9 : A2 (rep K F7) [(.int 24), (.int 60)] ([(24 : Int), (60 : Int)] : (List Int)) := .cons rep_i (.cons rep_i (.nil))
      refine ⟨_, rfl, (by show 2 ≤ sizeLine; decide), fun p10 n10 => ?_⟩
      have w10 : W F7 _ ((p10, .lst [(.int 24), (.int 60)]) :: (p7, .lst us7) :: os) := w7.new n10
      have w11 : W F7 _ ((p7, .lst us7) :: (p10, .lst [(.int 24), (.int 60)]) :: os) := w10.front (pre := [_])
      refine ⟨_, rfl, _, _, _, _, _, _, rfl, w11, g7, ?_⟩
      refine (post_bind hm).mono (fun y12 hm v12 vs12 F12 H12 w12 s12 r12 h12 => ?_) (fun _ z => z)
      replace h1 := A2.mono s12 h1
      replace q1 := s12.seq q1
      replace g2 := A2.mono s12 g2
      replace q4 := s12 _ _ q4
      replace h9 := A2.mono s12 h9
      replace sF := sF.trans s12
      obtain rfl : v12 = V.int y12.1 := r12
      obtain ⟨t13, e13, hm⟩ := pb_get hm
      obtain ⟨u13, f13, r13⟩ := A2.at h9 e13
      obtain rfl : u13 = V.int t13 := r13
      refine ⟨_, _, rfl, rfl, _, rfl, _, _, _, _, rfl, rfl, SqL.of (w12.get (pre := [_])), f13, _, _, _, _, _, _, rfl, w12, h12, ?_⟩
      refine (post_bind hm).mono (fun y14 hm v14 vs14 F14 H14 w14 s14 r14 h14 => ?_) (fun _ z => z)
      replace h1 := A2.mono s14 h1
      replace q1 := s14.seq q1
      replace g2 := A2.mono s14 g2
      replace q4 := s14 _ _ q4
      replace h9 := A2.mono s14 h9
      replace sF := sF.trans s14
      obtain ⟨a15, u15, z15, rfl, q15, r15a, r15b⟩ := r14
      obtain rfl : u15 = V.int y14.1.1 := r15a
      obtain ⟨a16, vs16, rfl, q16, h16⟩ := r15b
      have w17 : W F14 _ ((p7, .lst vs14) :: os) := w14.drop (pre := [_])
      refine ⟨_, rfl, _, _, _, (y14.1 : (Int × (Tup (Int × Int)))), rfl, w17, (rep_pair q15 rep_i (rep_tup q16 h16)), ?_⟩
      refine (post_bind hm).mono (fun y18 hm p18 us18 F18 H18 w18 s18 g18 => ?_) (fun _ z => z)
      replace h1 := A2.mono s18 h1
      replace q1 := s18.seq q1
      replace g2 := A2.mono s18 g2
      replace q4 := s18 _ _ q4
      replace q15 := s18 _ _ q15
      replace h16 := A2.mono s18 h16
      replace q16 := s18 _ _ q16
      replace h14 := A2.mono s18 h14
      replace sF := sF.trans s18
      obtain ⟨F20, s20, w20, q20⟩ : ∃ F', Same F18 F' ∧ W F' _ ((p7, .lst vs14) :: os) ∧ F' p18 = some (.lst us18) := w18.freezeE (pre := [])
      replace h1 := A2.mono s20 h1
      replace q1 := s20.seq q1
      replace g2 := A2.mono s20 g2
      replace q4 := s20 _ _ q4
      replace q15 := s20 _ _ q15
      replace h16 := A2.mono s20 h16
      replace q16 := s20 _ _ q16
      replace h14 := A2.mono s20 h14
      replace g18 := A2.mono s20 g18
      replace sF := sF.trans s20
      refine ⟨_, rfl, _, rfl, _, _, _, rfl, .inl (SqL.of (w20.same _ _ q20)), g18.length, _, _, rfl, rfl, _, _, _, _, _, _, rfl, w20, h14, ?_⟩
      refine (post_bind hm).mono (fun y21 hm v21 vs21 F21 H21 w21 s21 r21 h21 => ?_) (fun _ z => z)
      replace h1 := A2.mono s21 h1
      replace q1 := s21.seq q1
      replace g2 := A2.mono s21 g2
      replace q4 := s21 _ _ q4
      replace q15 := s21 _ _ q15
      replace h16 := A2.mono s21 h16
      replace q16 := s21 _ _ q16
      replace g18 := A2.mono s21 g18
      replace q20 := s21 _ _ q20
      replace sF := sF.trans s21
      obtain rfl : v21 = V.int y21.1 := r21
      refine ⟨_, rfl, _, rfl, _, _, _, _, rfl, rfl, SqT.of (w21.same _ _ q15), rfl, _, _, _, _, _, _, rfl, w21, h21, ?_⟩
      refine (post_bind hm).mono (fun y22 hm p22 us22 vs22 F22 H22 w22 s22 g22 h22 => ?_) (fun _ z => z)
      replace h1 := A2.mono s22 h1
      replace q1 := s22.seq q1
      replace g2 := A2.mono s22 g2
      replace q4 := s22 _ _ q4
      replace q15 := s22 _ _ q15
      replace h16 := A2.mono s22 h16
      replace q16 := s22 _ _ q16
      replace g18 := A2.mono s22 g18
      replace q20 := s22 _ _ q20
      replace sF := sF.trans s22
      have w24 : W F22 _ ((p7, .lst vs22) :: (p22, .lst us22) :: os) := w22.front (pre := [_])
      refine ⟨_, rfl, _, rfl, _, _, _, _, rfl, rfl, SqT.of (w22.same _ _ q15), rfl, _, _, _, _, _, _, rfl, w24, h22, ?_⟩
      refine (post_bind hm).mono (fun y25 hm p25 us25 vs25 F25 H25 w25 s25 g25 h25 => ?_) (fun _ z => z)
      replace h1 := A2.mono s25 h1
      replace q1 := s25.seq q1
      replace g2 := A2.mono s25 g2
      replace q4 := s25 _ _ q4
      replace q15 := s25 _ _ q15
      replace h16 := A2.mono s25 h16
      replace q16 := s25 _ _ q16
      replace g18 := A2.mono s25 g18
      replace q20 := s25 _ _ q20
      replace g22 := A2.mono s25 g22
      replace sF := sF.trans s25
      obtain ⟨F27, s27, w27, q27⟩ : ∃ F', Same F25 F' ∧ W F' _ ((p25, .lst us25) :: (p7, .lst vs25) :: os) ∧ F' p22 = some (.lst us22) := w25.freezeE (pre := [_, _])
      replace h1 := A2.mono s27 h1
      replace q1 := s27.seq q1
      replace g2 := A2.mono s27 g2
      replace q4 := s27 _ _ q4
      replace q15 := s27 _ _ q15
      replace h16 := A2.mono s27 h16
      replace q16 := s27 _ _ q16
      replace g18 := A2.mono s27 g18
      replace q20 := s27 _ _ q20
      replace g22 := A2.mono s27 g22
      replace h25 := A2.mono s27 h25
      replace g25 := A2.mono s27 g25
      replace sF := sF.trans s27
      obtain ⟨F28, s28, w28, q28⟩ : ∃ F', Same F27 F' ∧ W F' _ ((p7, .lst vs25) :: os) ∧ F' p25 = some (.lst us25) := w27.freezeE (pre := [])
      replace h1 := A2.mono s28 h1
      replace q1 := s28.seq q1
      replace g2 := A2.mono s28 g2
      replace q4 := s28 _ _ q4
      replace q15 := s28 _ _ q15
      replace h16 := A2.mono s28 h16
      replace q16 := s28 _ _ q16
      replace g18 := A2.mono s28 g18
      replace q20 := s28 _ _ q20
      replace g22 := A2.mono s28 g22
      replace h25 := A2.mono s28 h25
      replace g25 := A2.mono s28 g25
      replace q27 := s28 _ _ q27
      replace sF := sF.trans s28
      have h29 : A2 (rep K F28) [(.ref p22), (.ref p25)] ([y22.1, y25.1] : (List (List Int))) := .cons (rep_lst q27 g22) (.cons (rep_lst q28 g25) (.nil))
      refine ⟨(by show 2 ≤ sizeLine; decide), fun p30 n30 => ?_⟩
      have w30 : W F28 _ ((p30, .lst [(.ref p22), (.ref p25)]) :: (p7, .lst vs25) :: os) := w28.new n30
      obtain ⟨F31, s31, w31, q31⟩ : ∃ F', Same F28 F' ∧ W F' _ ((p7, .lst vs25) :: os) ∧ F' p30 = some (.lst [(.ref p22), (.ref p25)]) := w30.freezeE (pre := [])
      replace h1 := A2.mono s31 h1
      replace q1 := s31.seq q1
      replace g2 := A2.mono s31 g2
      replace q4 := s31 _ _ q4
      replace q15 := s31 _ _ q15
      replace h16 := A2.mono s31 h16
      replace q16 := s31 _ _ q16
      replace g18 := A2.mono s31 g18
      replace q20 := s31 _ _ q20
      replace g22 := A2.mono s31 g22
      replace h25 := A2.mono s31 h25
      replace g25 := A2.mono s31 g25
      replace q27 := s31 _ _ q27
      replace q28 := s31 _ _ q28
      replace h29 := A2.mono s31 h29
      replace sF := sF.trans s31
      have h33 : A2 (rep K F31) (cutV us18 none (some y21.1)) (cutL y18 none (some y21.1)) := sl_cut g18 _ _
      refine ⟨_, rfl, _, rfl, _, rfl, _, rfl, _, rfl, _, _, rfl, SqL.of (w31.same _ _ q20), fun p34 n34 => ?_⟩
      have w34 : W F31 _ ((p34, .lst (cutV us18 none (some y21.1))) :: (p7, .lst vs25) :: os) := w31.new n34
      have h35 : A2 (rep K F31) (cutV us18 (some (y21.1 + (1 : Int))) none) (cutL y18 (some (y21.1 + (1 : Int))) none) := sl_cut g18 _ _
      refine ⟨_, rfl, _, rfl, _, _, rfl, rfl, _, rfl, _, _, rfl, SqL.of (w34.same _ _ q20), fun p36 n36 => ?_⟩
      have w36 : W F31 _ ((p36, .lst (cutV us18 (some (y21.1 + (1 : Int))) none)) :: (p34, .lst (cutV us18 none (some y21.1))) :: (p7, .lst vs25) :: os) := w34.new n36
      obtain ⟨l37, z37, e37, hm⟩ := pn_extend hm
      have h37 : A2 (rep K F31) ((cutV us18 none (some y21.1)) ++ (cutV us18 (some (y21.1 + (1 : Int))) none)) l37 := e37 ▸ A2.append h33 h35
      refine ⟨_, _, _, _, rfl, rfl, (w36.get (pre := [_])), (w36.get (pre := [])), (A2.le2 h33 h35 z37), fun p38 n38 => ?_⟩
      have w38 : W F31 _ ((p38, .lst ((cutV us18 none (some y21.1)) ++ (cutV us18 (some (y21.1 + (1 : Int))) none))) :: (p36, .lst (cutV us18 (some (y21.1 + (1 : Int))) none)) :: (p34, .lst (cutV us18 none (some y21.1))) :: (p7, .lst vs25) :: os) := w36.new n38
      obtain ⟨F39, s39, w39, q39⟩ : ∃ F', Same F31 F' ∧ W F' _ ((p36, .lst (cutV us18 (some (y21.1 + (1 : Int))) none)) :: (p34, .lst (cutV us18 none (some y21.1))) :: (p7, .lst vs25) :: os) ∧ F' p38 = some (.lst ((cutV us18 none (some y21.1)) ++ (cutV us18 (some (y21.1 + (1 : Int))) none))) := w38.freezeE (pre := [])
      replace h1 := A2.mono s39 h1
      replace q1 := s39.seq q1
      replace g2 := A2.mono s39 g2
      replace q4 := s39 _ _ q4
      replace q15 := s39 _ _ q15
      replace h16 := A2.mono s39 h16
      replace q16 := s39 _ _ q16
      replace g18 := A2.mono s39 g18
      replace q20 := s39 _ _ q20
      replace h29 := A2.mono s39 h29
      replace q31 := s39 _ _ q31
      replace h25 := A2.mono s39 h25
      replace h33 := A2.mono s39 h33
      replace h35 := A2.mono s39 h35
      replace h37 := A2.mono s39 h37
      replace sF := sF.trans s39
      have h40 : A2 (rep K F39) [(.ref p18), (.ref p38)] ([y18, l37] : (List (List Int))) := .cons (rep_lst q20 g18) (.cons (rep_lst q39 h37) (.nil))
      refine ⟨(by show 2 ≤ sizeLine; decide), fun p41 n41 => ?_⟩
      have w41 : W F39 _ ((p41, .lst [(.ref p18), (.ref p38)]) :: (p36, .lst (cutV us18 (some (y21.1 + (1 : Int))) none)) :: (p34, .lst (cutV us18 none (some y21.1))) :: (p7, .lst vs25) :: os) := w39.new n41
      obtain ⟨l42, z42, e42, hm⟩ := pn_extend hm
      have h42 : A2 (rep K F39) ([(.ref p22), (.ref p25)] ++ [(.ref p18), (.ref p38)]) l42 := e42 ▸ A2.append h29 h40
      refine ⟨_, _, _, _, rfl, rfl, (w41.same _ _ q31), (w41.get (pre := [])), (A2.le2 h29 h40 z42), fun p43 n43 => ?_⟩
      have w43 : W F39 _ ((p43, .lst ([(.ref p22), (.ref p25)] ++ [(.ref p18), (.ref p38)])) :: (p41, .lst [(.ref p18), (.ref p38)]) :: (p36, .lst (cutV us18 (some (y21.1 + (1 : Int))) none)) :: (p34, .lst (cutV us18 none (some y21.1))) :: (p7, .lst vs25) :: os) := w41.new n43
      obtain ⟨F44, s44, w44, q44⟩ : ∃ F', Same F39 F' ∧ W F' _ ((p41, .lst [(.ref p18), (.ref p38)]) :: (p36, .lst (cutV us18 (some (y21.1 + (1 : Int))) none)) :: (p34, .lst (cutV us18 none (some y21.1))) :: (p7, .lst vs25) :: os) ∧ F' p43 = some (.lst ([(.ref p22), (.ref p25)] ++ [(.ref p18), (.ref p38)])) := w43.freezeE (pre := [])
      replace h1 := A2.mono s44 h1
      replace q1 := s44.seq q1
      replace g2 := A2.mono s44 g2
      replace q4 := s44 _ _ q4
      replace q15 := s44 _ _ q15
      replace h16 := A2.mono s44 h16
      replace q16 := s44 _ _ q16
      replace g18 := A2.mono s44 g18
      replace q20 := s44 _ _ q20
      replace h29 := A2.mono s44 h29
      replace q31 := s44 _ _ q31
      replace h25 := A2.mono s44 h25
      replace h33 := A2.mono s44 h33
      replace h35 := A2.mono s44 h35
      replace h37 := A2.mono s44 h37
      replace q39 := s44 _ _ q39
      replace h40 := A2.mono s44 h40
      replace h42 := A2.mono s44 h42
      replace sF := sF.trans s44
      refine ⟨_, rfl, ⟨_, SqL.of (w44.same _ _ q44)⟩, ?_⟩
      have w45 : W F44 _ ((p36, .lst (cutV us18 (some (y21.1 + (1 : Int))) none)) :: (p34, .lst (cutV us18 none (some y21.1))) :: (p7, .lst vs25) :: os) := w44.drop (pre := [])
      have w46 : W F44 _ ((p34, .lst (cutV us18 none (some y21.1))) :: (p7, .lst vs25) :: os) := w45.drop (pre := [])
      have w47 : W F44 _ ((p7, .lst vs25) :: os) := w46.drop (pre := [])
      refine forX (tw_list (a := p43) h42) hm (fun (g32 : Unit) σ H' => ∃ (F' : Hp) (o32_9 : Option V) (o32_8 : Option V), σ = [some (.ref a1), some (.ref p2), some (.int b5), some (.ref p7), some (.ref a15), some (.ref p18), some (.int y21.1), some (.ref p30), o32_8, o32_9] ∧ Same F44 F' ∧ W F' H' ((p7, .lst vs25) :: os)) ⟨_, _, _, rfl, Same.refl _, w47⟩ (fun g σ H' hI => by obtain ⟨F', _, _, _, s, w⟩ := hI; exact SqL.of (w.same _ _ (s _ _ q44))) ?_ ?_
      · -- a turn
        intro b32 g32 x32 σ32 H32 H32' N32 B32 P32 hI hy hN32 hB32 hZ32 hm
        obtain ⟨F32, o32_9, o32_8, rfl, s32, w32⟩ := hI
        replace h1 := A2.mono s32 h1
        replace q1 := s32.seq q1
        replace g2 := A2.mono s32 g2
        replace q4 := s32 _ _ q4
        replace q15 := s32 _ _ q15
        replace h16 := A2.mono s32 h16
        replace q16 := s32 _ _ q16
        replace g18 := A2.mono s32 g18
        replace q20 := s32 _ _ q20
        replace h29 := A2.mono s32 h29
        replace q31 := s32 _ _ q31
        replace h25 := A2.mono s32 h25
        replace h37 := A2.mono s32 h37
        replace q39 := s32 _ _ q39
        replace h42 := A2.mono s32 h42
        replace q44 := s32 _ _ q44
        replace sF := sF.trans s32
        obtain ⟨rfl, r48⟩ := hy
        replace r48 := Rep.mono s32 r48
        obtain ⟨a49, vs49, rfl, q49, h49⟩ := r48
        have h51 : A2 (rep K F32) [(.str "places"), (.str "ties"), (.str "all")] ([("places" : Str), ("ties" : Str), ("all" : Str)] : (List Str)) := .cons rep_s (.cons rep_s (.cons rep_s (.nil)))
        refine ⟨(by show 3 ≤ sizeLine; decide), fun p52 n52 => ?_⟩
        have w52 : W F32 _ ((p52, .lst [(.str "places"), (.str "ties"), (.str "all")]) :: (p7, .lst vs25) :: os) := w32.new n52
        obtain ⟨F53, s53, w53, q53⟩ : ∃ F', Same F32 F' ∧ W F' _ ((p7, .lst vs25) :: os) ∧ F' p52 = some (.lst [(.str "places"), (.str "ties"), (.str "all")]) := w52.freezeE (pre := [])
        replace h1 := A2.mono s53 h1
        replace q1 := s53.seq q1
        replace g2 := A2.mono s53 g2
        replace q4 := s53 _ _ q4
        replace q15 := s53 _ _ q15
        replace h16 := A2.mono s53 h16
        replace q16 := s53 _ _ q16
        replace g18 := A2.mono s53 g18
        replace q20 := s53 _ _ q20
        replace h29 := A2.mono s53 h29
        replace q31 := s53 _ _ q31
        replace h49 := A2.mono s53 h49
        replace q49 := s53 _ _ q49
        replace h25 := A2.mono s53 h25
        replace h51 := A2.mono s53 h51
        replace sF := sF.trans s53
        refine ⟨_, rfl, ⟨_, SqL.of (w53.same _ _ q53)⟩, ?_⟩
        refine forX (tw_list (a := p52) h51) hm (fun (g50 : Unit) σ H' => ∃ (F' : Hp) (o50_9 : Option V), σ = [some (.ref a1), some (.ref p2), some (.int b5), some (.ref p7), some (.ref a15), some (.ref p18), some (.int y21.1), some (.ref p30), some (.ref a49), o50_9] ∧ Same F53 F' ∧ W F' H' ((p7, .lst vs25) :: os)) ⟨_, _, rfl, Same.refl _, w53⟩ (fun g σ H' hI => by obtain ⟨F', _, _, s, w⟩ := hI; exact SqL.of (w.same _ _ (s _ _ q53))) ?_ ?_
        · -- a turn
          intro b50 g50 x50 σ50 H50 H50' N50 B50 P50 hI hy hN50 hB50 hZ50 hm
          obtain ⟨F50, o50_9, rfl, s50, w50⟩ := hI
          replace h1 := A2.mono s50 h1
          replace q1 := s50.seq q1
          replace g2 := A2.mono s50 g2
          replace q4 := s50 _ _ q4
          replace q15 := s50 _ _ q15
          replace h16 := A2.mono s50 h16
          replace q16 := s50 _ _ q16
          replace g18 := A2.mono s50 g18
          replace q20 := s50 _ _ q20
          replace h29 := A2.mono s50 h29
          replace q31 := s50 _ _ q31
          replace h49 := A2.mono s50 h49
          replace q49 := s50 _ _ q49
          replace h25 := A2.mono s50 h25
          replace h51 := A2.mono s50 h51
          replace q53 := s50 _ _ q53
          replace sF := sF.trans s50
          obtain ⟨rfl, r54⟩ := hy
          obtain rfl : x50 = V.str b50 := r54
          refine ⟨_, rfl, _, rfl, _, rfl, _, _, _, (y14.1 : (Int × (Tup (Int × Int)))), _, (b32 : (List Int)), _, rfl, w50, (rep_pair q15 rep_i (rep_tup q16 h16)), (rep_lst q49 h49), ?_⟩
          refine (post_bind hm).mono (fun y55 hm v55 F55 H55 w55 s55 r55 => ?_) (fun _ z => z)
          replace h1 := A2.mono s55 h1
          replace q1 := s55.seq q1
          replace g2 := A2.mono s55 g2
          replace q4 := s55 _ _ q4
          replace q15 := s55 _ _ q15
          replace h16 := A2.mono s55 h16
          replace q16 := s55 _ _ q16
          replace g18 := A2.mono s55 g18
          replace q20 := s55 _ _ q20
          replace h29 := A2.mono s55 h29
          replace q31 := s55 _ _ q31
          replace h49 := A2.mono s55 h49
          replace q49 := s55 _ _ q49
          replace h25 := A2.mono s55 h25
          replace sF := sF.trans s55
          obtain rfl : v55 = V.bl y55 := r55
          refine ⟨_, rfl, ?_⟩
          refine post_ite hm (fun k56 hm => ?_) (fun k56 hm => ?_)
          · skip
            have hm := hZ50 _ (post_ok hm)
            have hm := hZ32 _ (post_ok hm)
            have hm := hZ5 _ (post_ok hm)
            have w57 : W F55 _ (os) := w55.drop (pre := [])
            exact (post_ok hm) _ _ _ w57 sF rep_b
          · skip
            exact hN50 _ (post_ok hm) _ _ ⟨_, _, rfl, (s50.trans s55), w55⟩
        intro g50 σ50 H50 hI hm
        obtain ⟨F50, o50_9, rfl, s50, w50⟩ := hI
        replace h1 := A2.mono s50 h1
        replace q1 := s50.seq q1
        replace g2 := A2.mono s50 g2
        replace q4 := s50 _ _ q4
        replace q15 := s50 _ _ q15
        replace h16 := A2.mono s50 h16
        replace q16 := s50 _ _ q16
        replace g18 := A2.mono s50 g18
        replace q20 := s50 _ _ q20
        replace h29 := A2.mono s50 h29
        replace q31 := s50 _ _ q31
        replace h49 := A2.mono s50 h49
        replace q49 := s50 _ _ q49
        replace h25 := A2.mono s50 h25
        replace h51 := A2.mono s50 h51
        replace q53 := s50 _ _ q53
        replace sF := sF.trans s50
        exact hN32 _ (post_ok hm) _ _ ⟨_, _, _, rfl, (s32.trans (s53.trans s50)), w50⟩
      intro g32 σ32 H32 hI hm
      obtain ⟨F32, o32_9, o32_8, rfl, s32, w32⟩ := hI
      replace h1 := A2.mono s32 h1
      replace q1 := s32.seq q1
      replace g2 := A2.mono s32 g2
      replace q4 := s32 _ _ q4
      replace q15 := s32 _ _ q15
      replace h16 := A2.mono s32 h16
      replace q16 := s32 _ _ q16
      replace g18 := A2.mono s32 g18
      replace q20 := s32 _ _ q20
      replace h29 := A2.mono s32 h29
      replace q31 := s32 _ _ q31
      replace h25 := A2.mono s32 h25
      replace h37 := A2.mono s32 h37
      replace q39 := s32 _ _ q39
      replace h42 := A2.mono s32 h42
      replace q44 := s32 _ _ q44
      replace sF := sF.trans s32
      have w58 : W F32 _ (os) := w32.drop (pre := [])
      exact hN5 _ (post_ok hm) _ _ ⟨_, _, _, _, _, _, _, _, _, rfl, (s5.trans (s7.trans (s12.trans (s14.trans (s18.trans (s20.trans (s21.trans (s22.trans (s25.trans (s27.trans (s28.trans (s31.trans (s39.trans (s44.trans s32)))))))))))))), w58⟩
    intro g5 σ5 H5 hI hm
    obtain ⟨F5, o5_3, o5_4, o5_5, o5_6, o5_7, o5_8, o5_9, o5_2, rfl, s5, w5⟩ := hI
    replace h1 := A2.mono s5 h1
    replace q1 := s5.seq q1
    replace g2 := A2.mono s5 g2
    replace q4 := s5 _ _ q4
    replace sF := sF.trans s5
    exact (post_ok hm) _ _ _ w5 sF rep_b
end
end G
/-! MA2: webs drawn from a pool -/
namespace G
open PySem L2 Z
structure TiesOk (b : Nat) (n : Int) (ts : List (Int × Int)) : Prop where
  rg : ∀ p ∈ ts, 0 ≤ p.1 ∧ p.1 < p.2 ∧ p.2 < n
  nd : ts.Nodup
  conn : Conn n ts
  len : ts.length ≤ b
theorem TiesOk.up {b c : Nat} {n : Int} {ts : List (Int × Int)} (h : TiesOk b n ts) (hl : b ≤ c) : TiesOk c n ts := ⟨h.rg, h.nd, h.conn, Nat.le_trans h.len hl⟩
structure WebOk (n : Int) (ts : List (Int × Int)) : Prop where
  n1 : 1 ≤ n
  n60 : n ≤ 60
  rg : ∀ p ∈ ts, 0 ≤ p.1 ∧ p.1 < p.2 ∧ p.2 < n
  nd : ts.Nodup
  conn : Conn n ts
  len : ts.length ≤ 700
  srt : sortP ts = ts
theorem WebOk.rg4 {n : Int} {ts : List (Int × Int)} (h : WebOk n ts) : ∀ q ∈ ts, 0 ≤ q.1 ∧ q.1 < n ∧ 0 ≤ q.2 ∧ q.2 < n := fun q hq => by
  have := h.rg q hq
  omega
def moved (o : List Int) (p : Int × Int) : Int × Int := (min2 (o.getD p.1.toNat 0) (o.getD p.2.toNat 0), max2 (o.getD p.1.toNat 0) (o.getD p.2.toNat 0))
theorem perm_get {o : List Int} {n : Int} (h : o.Perm (rng 0 n)) (n0 : 0 ≤ n) {k : Int} (k0 : 0 ≤ k) (k1 : k < n) : ∃ x, o[k.toNat]? = some x ∧ 0 ≤ x ∧ x < n := by
  have hl := h.length_eq
  rw [rng_length] at hl
  have hk : k.toNat < o.length := by omega
  refine ⟨o[k.toNat], List.getElem?_eq_getElem hk, ?_⟩
  exact rng_mem.mp (h.mem_iff.mp (List.getElem_mem hk))
theorem perm_getD {o : List Int} {n : Int} (h : o.Perm (rng 0 n)) (n0 : 0 ≤ n) {k : Int} (k0 : 0 ≤ k) (k1 : k < n) : 0 ≤ o.getD k.toNat 0 ∧ o.getD k.toNat 0 < n := by
  obtain ⟨x, e, x0, x1⟩ := perm_get h n0 k0 k1
  rw [List.getD_eq_getElem?_getD, e]
  exact ⟨x0, x1⟩
theorem perm_inj {o : List Int} {n : Int} (h : o.Perm (rng 0 n)) (n0 : 0 ≤ n) {j k : Int} (j0 : 0 ≤ j) (j1 : j < n) (k0 : 0 ≤ k) (k1 : k < n) (e : o.getD j.toNat 0 = o.getD k.toNat 0) : j = k := by
  have hl := h.length_eq
  rw [rng_length] at hl
  have hnd : o.Nodup := (h.nodup_iff).mpr (rng_nodup 0 n)
  have hj : j.toNat < o.length := by omega
  have hk : k.toNat < o.length := by omega
  rw [List.getD_eq_getElem?_getD, List.getD_eq_getElem?_getD, List.getElem?_eq_getElem hj, List.getElem?_eq_getElem hk] at e
  have e' : o[j.toNat] = o[k.toNat] := e
  have hpw := List.pairwise_iff_getElem.mp hnd
  rcases Nat.lt_trichotomy j.toNat k.toNat with q | q | q
  · exact absurd e' (hpw _ _ hj hk q)
  · omega
  · exact absurd e'.symm (hpw _ _ hk hj q)
theorem perm_surj {o : List Int} {n : Int} (h : o.Perm (rng 0 n)) (n0 : 0 ≤ n) {x : Int} (x0 : 0 ≤ x) (x1 : x < n) : ∃ k, 0 ≤ k ∧ k < n ∧ o.getD k.toNat 0 = x := by
  have hx : x ∈ o := h.mem_iff.mpr (rng_mem.mpr ⟨x0, x1⟩)
  obtain ⟨i, hi⟩ := List.mem_iff_getElem?.mp hx
  have hl := h.length_eq
  rw [rng_length] at hl
  have hil := (List.getElem?_eq_some_iff.mp hi).1
  refine ⟨i, by omega, by omega, ?_⟩
  rw [List.getD_eq_getElem?_getD, Int.toNat_natCast, hi]
  rfl
theorem mm_cases (a b : Int) : (min2 a b = a ∧ max2 a b = b ∧ a ≤ b) ∨ (min2 a b = b ∧ max2 a b = a ∧ b ≤ a) := by
  unfold min2 max2
  by_cases h : b < a
  · rw [if_pos h, if_neg (by omega)]
    exact .inr ⟨rfl, rfl, by omega⟩
  · rw [if_neg h]
    by_cases h2 : b > a
    · rw [if_pos h2]
      exact .inl ⟨rfl, rfl, by omega⟩
    · rw [if_neg h2]
      have : a = b := by omega
      subst this
      exact .inl ⟨rfl, rfl, by omega⟩
theorem moved_inj {o : List Int} {n : Int} (h : o.Perm (rng 0 n)) (n0 : 0 ≤ n) {p q : Int × Int} (hp : 0 ≤ p.1 ∧ p.1 < p.2 ∧ p.2 < n) (hq : 0 ≤ q.1 ∧ q.1 < q.2 ∧ q.2 < n) (e : moved o p = moved o q) : p = q := by
  unfold moved at e
  injection e with e1 e2
  have i1 := fun e => perm_inj h n0 (j := p.1) (k := q.1) hp.1 (by omega) hq.1 (by omega) e
  have i2 := fun e => perm_inj h n0 (j := p.2) (k := q.2) (by omega) hp.2.2 (by omega) hq.2.2 e
  have i3 := fun e => perm_inj h n0 (j := p.1) (k := q.2) hp.1 (by omega) (by omega) hq.2.2 e
  have i4 := fun e => perm_inj h n0 (j := p.2) (k := q.1) (by omega) hp.2.2 hq.1 (by omega) e
  rcases mm_cases (o.getD p.1.toNat 0) (o.getD p.2.toNat 0) with ⟨a1, a2, _⟩ | ⟨a1, a2, _⟩ <;> rcases mm_cases (o.getD q.1.toNat 0) (o.getD q.2.toNat 0) with ⟨b1, b2, _⟩ | ⟨b1, b2, _⟩ <;> rw [a1, b1] at e1 <;> rw [a2, b2] at e2
  · exact Prod.ext (i1 e1) (i2 e2)
  · have := i3 e1
    have := i4 e2
    omega
  · have := i4 e1
    have := i3 e2
    omega
  · exact Prod.ext (i1 e2) (i2 e1)
theorem moved_ok {o : List Int} {n : Int} {ts : List (Int × Int)} (ho : o.Perm (rng 0 n)) (n0 : 1 ≤ n) (n1 : n ≤ 60) (h : TiesOk 700 n ts) : WebOk n (sortP (ts.map (moved o))) := by
  have hperm := sortP_perm (ts.map (moved o))
  refine ⟨n0, n1, fun p hp => ?_, ?_, ?_, ?_, ?_⟩
  · obtain ⟨q, hq, rfl⟩ := List.mem_map.mp (hperm.mem_iff.mp hp)
    have hr := h.rg q hq
    have r1 := perm_getD ho (by omega) (k := q.1) hr.1 (by omega)
    have r2 := perm_getD ho (by omega) (k := q.2) (by omega) hr.2.2
    have ne : o.getD q.1.toNat 0 ≠ o.getD q.2.toNat 0 := fun e => by
      have := perm_inj ho (by omega) hr.1 (by omega) (by omega) hr.2.2 e
      omega
    unfold moved
    dsimp only
    rcases mm_cases (o.getD q.1.toNat 0) (o.getD q.2.toNat 0) with ⟨a1, a2, _⟩ | ⟨a1, a2, _⟩ <;> rw [a1, a2] <;> omega
  · refine hperm.nodup_iff.mpr ?_
    refine List.Pairwise.map (R := fun p q => p ≠ q ∧ p ∈ ts ∧ q ∈ ts) _ (fun p q hpq e => hpq.1 (moved_inj ho (by omega) (h.rg p hpq.2.1) (h.rg q hpq.2.2) e)) ?_
    exact h.nd.imp_of_mem fun hp hq hne => ⟨hne, hp, hq⟩
  · intro S h0 hc
    obtain ⟨r, r0, r1, er⟩ := perm_surj ho (by omega) (x := 0) (by omega) (by omega)
    have key := h.conn.any (S := fun k => S (o.getD k.toNat 0)) r0 r1 (by show S (o.getD r.toNat 0); rw [er]; exact h0) fun p hp => by
      have hm : moved o p ∈ sortP (ts.map (moved o)) := hperm.mem_iff.mpr (List.mem_map.mpr ⟨p, hp, rfl⟩)
      have := hc _ hm
      unfold moved at this
      dsimp only at this
      rcases mm_cases (o.getD p.1.toNat 0) (o.getD p.2.toNat 0) with ⟨a1, a2, _⟩ | ⟨a1, a2, _⟩
      · rw [a1, a2] at this
        exact this
      · rw [a1, a2] at this
        exact this.symm
    intro k k0 k1
    obtain ⟨j, j0, j1, ej⟩ := perm_surj ho (by omega) k0 k1
    rw [← ej]
    exact key j j0 j1
  · rw [hperm.length_eq, List.length_map]
    exact h.len
  · exact (sortP_eq (List.Perm.refl _) (sortP_sorted _)).symm
/-! ### the pool -/
def PoolOk (s : List Int) : Prop := ∃ a b : Int, s = [a, b] ∧ 0 ≤ a ∧ 0 ≤ b ∧ b < 2147483647
theorem take_ok {s : List Int} {m : Int} (h : PoolOk s) (h0 : 0 < m) (h1 : m < 1073741824) : Post (law_take s m) (fun r => 0 ≤ r.1 ∧ r.1 < m ∧ PoolOk r.2) noX := by
  obtain ⟨a, b, rfl, a0, b0, b1⟩ := h
  unfold law_take
  refine po_getE (x := a) rfl (po_if (fun c => ?_) fun c => ?_)
  · refine po_getE (x := a) rfl (po_mod h0 fun r0 r1 => po_getE (x := a) rfl (po_div h0 h1 (po_set (Int.le_refl _) (by show (0 : Int) < 2; decide) ?_)))
    exact ⟨r0, r1, a / m, b, rfl, Int.ediv_nonneg a0 (by omega), b0, b1⟩
  · have c0 : 0 ≤ (b * 48271 + 12820163) % 2147483647 := Int.emod_nonneg _ (by decide)
    have c1 : (b * 48271 + 12820163) % 2147483647 < 2147483647 := Int.emod_lt_of_pos _ (by decide)
    refine po_getE (x := b) rfl (po_set (by decide) (by show (1 : Int) < 2; decide) ?_)
    show Post (getI [a, (b * 48271 + 12820163) % 2147483647] 1 >>= _) _ _
    generalize (b * 48271 + 12820163) % 2147483647 = d at c0 c1
    refine po_getE (x := d) rfl (po_getE (x := d) rfl (po_mul (.inl ⟨by omega, by omega⟩) (po_mod h0 fun r0 r1 => ?_)))
    exact ⟨r0, r1, a, d, rfl, a0, c0, c1⟩
theorem pool_ok {cs : List Int} {k : Int} (k0 : 0 ≤ k) (k1 : k < 1000) (hl : cs.length < 1000) : Post (law_pool cs k) PoolOk noX := by
  unfold law_pool
  refine po_bind (Q := fun _ => True) (po_if (fun c => ?_) fun _ => trivial) fun g2 _ => ?_
  · have c' := of_decide_eq_true c
    exact po_mod c' fun r0 r1 => po_get r0 r1 fun t _ _ => po_div c' (by omega) trivial
  · refine po_bind (Q := fun g : Int => 0 ≤ g) (po_bind (Q := fun _ => True) (po_if (fun _ => trivial) fun _ => trivial) fun j _ => po_if (fun _ => ?_) fun _ => Int.le_refl _) fun g7 h7 => ?_
    · show 0 ≤ absI g2
      unfold absI
      split <;> omega
    · refine po_mul (.inr ⟨by omega, by omega⟩) ?_
      exact ⟨_, _, rfl, h7, Int.emod_nonneg _ (by decide), Int.lt_trans (Int.emod_lt_of_pos _ (by decide)) (by decide)⟩
theorem cells_ok {sc : Scr} {m : Nat} (h : sc.l.length ≤ 63) (m0 : 0 < m) (m1 : m < 60) : Post (law_cells sc m) (fun l => l.length ≤ m) noX := by
  unfold law_cells
  rw [cut_take, show (some (63 : Int)) = some ((63 : Nat) : Int) from rfl, cut_mid]
  refine po_bind (Q := fun l => l.length ≤ m) ?_ fun _ h => h
  refine Post.mono (po_fold (fun g => g.length = (sc.l.take m).length) rfl fun g x hg hx => ?_) (fun g hg => by rw [hg, List.length_take]; omega) fun _ z => z
  have hlen : (sc.l.take m).length = m := by
    obtain ⟨i, hi⟩ := List.mem_iff_getElem?.mp hx
    have := (List.getElem?_eq_some_iff.mp hi).1
    rw [enum_length, List.length_take, List.length_drop] at this
    rw [List.length_take]
    omega
  have hm : (0 : Int) < (m : Int) := by omega
  refine po_mod hm fun r0 r1 => po_get r0 (by omega) fun _ _ _ => po_mod hm fun s0 s1 => po_set s0 (by omega) ?_
  show (List.set _ _ _).length = _
  rw [List.length_set]
  exact hg
theorem some_ok {s menu : List Int} {m : Int} (h : PoolOk s) (m0 : 0 ≤ m) (m1 : m ≤ menu.length) (m2 : menu.length < 10000) : Post (law_some s menu m) (fun r => (∃ left, (r.1 ++ left).Perm menu) ∧ (r.1.length : Int) = m ∧ PoolOk r.2) noX := by
  unfold law_some
  have hl : (rng 0 m).length = m.toNat := by rw [rng_length]; omega
  refine po_rng (by decide) (by decide) (by omega) (by omega) ?_
  refine po_bind (po_mapStA (fun pre acc g => (acc ++ g.1).Perm menu ∧ pre.length = acc.length ∧ PoolOk g.2) (by omega) ⟨List.Perm.refl _, rfl, h⟩ ?_) ?_
  · rintro pre acc ⟨left, pot⟩ x post e ⟨h1, h2, h3⟩
    have h1' : (acc ++ left).Perm menu := h1
    have hlen := h1'.length_eq
    rw [List.length_append] at hlen
    have hxl : pre.length + (post.length + 1) = m.toNat := by
      have := congrArg List.length e
      rw [hl] at this
      simp at this
      omega
    have h2' : pre.length = acc.length := h2
    refine po_bind (take_ok h3 (by show (0 : Int) < left.length; omega) (by show (left.length : Int) < _; omega)) fun y ⟨y0, y1, hy⟩ => ?_
    have y1' : y.1 < (left.length : Int) := y1
    refine po_popB y0 y1' (by omega) fun z hz => ?_
    refine ⟨?_, by show (pre ++ [x]).length = (acc ++ [z]).length; rw [List.length_append, List.length_append, h2']; rfl, hy⟩
    show ((acc ++ [z]) ++ left.eraseIdx y.1.toNat).Perm _
    refine List.Perm.trans ?_ h1'
    rw [List.append_assoc]
    refine List.Perm.append_left _ ?_
    have hj := (List.getElem?_eq_some_iff.mp hz)
    obtain ⟨hj1, hj2⟩ := hj
    have : left.Perm (z :: left.eraseIdx y.1.toNat) := by
      have e1 : left = left.take y.1.toNat ++ z :: left.drop (y.1.toNat + 1) := by
        rw [← hj2, ← List.drop_eq_getElem_cons hj1, List.take_append_drop]
      have e2 : left.eraseIdx y.1.toNat = left.take y.1.toNat ++ left.drop (y.1.toNat + 1) := List.eraseIdx_eq_take_drop_succ _ _
      rw [e2]
      conv => lhs; rw [e1]
      exact List.perm_middle
    exact this.symm
  · rintro ⟨acc, left, pot⟩ ⟨h1, h2, h3⟩
    have h2' : (rng 0 m).length = acc.length := h2
    exact ⟨⟨left, h1⟩, by show (acc.length : Int) = m; omega, h3⟩
/-! ### ties in a dict -/
/-- ties below k, each place from 1 on tied to a lesser one -/
structure DOk (k : Int) (g : List ((Int × Int) × Bool)) : Prop where
  rg : ∀ p ∈ mkeys g, 0 ≤ p.1 ∧ p.1 < p.2 ∧ p.2 < k
  nd : (mkeys g).Nodup
  dn : ∀ j, 1 ≤ j → j < k → ∃ i, 0 ≤ i ∧ i < j ∧ (i, j) ∈ mkeys g
theorem keys_put {g : List ((Int × Int) × Bool)} {p q : Int × Int} : q ∈ mkeys (mput g p true) ↔ q ∈ mkeys g ∨ q = p := by
  rw [mkeys_mput]
  split
  · rename_i h
    exact ⟨.inl, fun z => z.elim id fun e => e ▸ h⟩
  · rw [List.mem_append, List.mem_singleton]
theorem keys_put_nd {g : List ((Int × Int) × Bool)} {p : Int × Int} (h : (mkeys g).Nodup) : (mkeys (mput g p true)).Nodup := by
  rw [mkeys_mput]
  split
  · exact h
  · rename_i q
    rw [List.nodup_append]
    refine ⟨h, by simp, fun a ha b hb e => ?_⟩
    simp at hb
    subst hb
    exact q (e ▸ ha)
theorem DOk.put {k : Int} {g : List ((Int × Int) × Bool)} {p : Int × Int} (h : DOk k g) (hp : 0 ≤ p.1 ∧ p.1 < p.2 ∧ p.2 < k) : DOk k (mput g p true) :=
  ⟨fun q hq => (keys_put.mp hq).elim (h.rg q) fun e => e ▸ hp, keys_put_nd h.nd, fun j j1 jk => by
    obtain ⟨i, i0, ij, hi⟩ := h.dn j j1 jk
    exact ⟨i, i0, ij, keys_put.mpr (.inl hi)⟩⟩
/-- ties below k, and some of k -/
structure EOk (k : Int) (g : List ((Int × Int) × Bool)) : Prop where
  rg : ∀ p ∈ mkeys g, 0 ≤ p.1 ∧ p.1 < p.2 ∧ p.2 ≤ k
  nd : (mkeys g).Nodup
  dn : ∀ j, 1 ≤ j → j < k → ∃ i, 0 ≤ i ∧ i < j ∧ (i, j) ∈ mkeys g
theorem EOk.put {k i : Int} {g : List ((Int × Int) × Bool)} (h : EOk k g) (i0 : 0 ≤ i) (ik : i < k) : EOk k (mput g (i, k) true) :=
  ⟨fun q hq => (keys_put.mp hq).elim (h.rg q) fun e => by rw [e]; exact ⟨i0, ik, Int.le_refl _⟩, keys_put_nd h.nd, fun j j1 jk => by
    obtain ⟨x, x0, xj, hx⟩ := h.dn j j1 jk
    exact ⟨x, x0, xj, keys_put.mpr (.inl hx)⟩⟩
theorem DOk.e {k : Int} {g : List ((Int × Int) × Bool)} (h : DOk k g) : EOk k g := ⟨fun p hp => by have := h.rg p hp; omega, h.nd, h.dn⟩
/-- a tree: a web of one tie less than places -/
structure TreeOk (n : Int) (ts : List (Int × Int)) : Prop where
  web : WebOk n ts
  len : (ts.length : Int) = n - 1
theorem sortP_len (ts : List (Int × Int)) : (sortP ts).length = ts.length := (sortP_perm ts).length_eq
theorem named_tree {s : List Int} {n : Int} {ts : List (Int × Int)} (h : PoolOk s) (n0 : 1 ≤ n) (n1 : n ≤ 60) (ht : TiesOk 700 n ts) (hlen : (ts.length : Int) = n - 1) : Post (law_named s n ts) (fun r => r.1.1 = n ∧ TreeOk r.1.1 r.1.2.l ∧ PoolOk r.2) noX := by
  unfold law_named
  have hln : (rng 0 n).length = n.toNat := by rw [rng_length]; omega
  refine po_listRng (by decide) (by decide) (by omega) (by omega) (by omega) ?_
  refine po_bind (some_ok h (by omega) (by omega) (by omega)) fun y6 ⟨⟨left, hp⟩, hl, h6⟩ => ?_
  have ho : y6.1.Perm (rng 0 n) := by
    have := hp.length_eq
    rw [List.length_append, hln] at this
    have e : left = [] := List.eq_nil_of_length_eq_zero (by omega)
    rw [e, List.append_nil] at hp
    exact hp
  have hlt := ht.len
  refine po_mapGE (g := moved y6.1) (by omega) (fun x hx => ?_) ?_
  · have hr := ht.rg x hx
    obtain ⟨u, eu, _⟩ := perm_get ho (by omega) (k := x.1) hr.1 (by omega)
    obtain ⟨v, ev, _⟩ := perm_get ho (by omega) (k := x.2) (by omega) hr.2.2
    rw [getI_eq hr.1 eu, ok_bind, getI_eq (by omega) ev, ok_bind, ok_bind, ok_bind]
    unfold moved
    rw [List.getD_eq_getElem?_getD, List.getD_eq_getElem?_getD, eu, ev]
    rfl
  · refine ⟨rfl, ⟨moved_ok ho n0 n1 ht, ?_⟩, h6⟩
    show ((sortP (ts.map (moved y6.1))).length : Int) = n - 1
    rw [sortP_len, List.length_map]
    exact hlen
theorem tree_ok {s : List Int} {m : Int} (h : PoolOk s) (m0 : 1 ≤ m) (m1 : m ≤ 60) : Post (law_tree s m) (fun r => TreeOk r.1.1 r.1.2.l ∧ r.1.1 ≤ m ∧ PoolOk r.2) noX := by
  unfold law_tree
  refine po_bind (take_ok h (by omega) (by omega)) fun y2 ⟨a0, a1, h2⟩ => ?_
  refine po_bind (take_ok h2 (by decide) (by decide)) fun y3 ⟨b0, b1, h3⟩ => ?_
  generalize hn : (1 : Int) + y2.1 = n
  refine po_rng (by decide) (by decide) (by omega) (by omega) ?_
  refine po_bind (po_foldP (fun pre (g : List (Int × Int) × List Int) => (∀ p ∈ g.1, 0 ≤ p.1 ∧ p.1 < p.2) ∧ g.1.map (·.2) = pre ∧ PoolOk g.2) ⟨fun _ h => (nomatch h), rfl, h3⟩ fun pre g k post e ⟨q1, q2, q3⟩ => ?_) fun g6 ⟨q1, q2, q3⟩ => ?_
  · obtain ⟨e1, k1, kn⟩ := rng_split e
    have hgl : g.1.length = pre.length := by rw [← q2, List.length_map]
    have hpl : pre.length < 100 := by
      have := congrArg List.length e
      rw [rng_length] at this
      simp at this
      omega
    refine po_bind (take_ok q3 (by omega) (by omega)) fun y9 ⟨c0, c1, h9⟩ => ?_
    refine po_bind (take_ok h9 (by decide) (by decide)) fun y10 ⟨d0, d1, h10⟩ => ?_
    have hmm : 0 < min2 k 3 ∧ min2 k 3 ≤ 3 ∧ min2 k 3 ≤ k := by
      rcases mm_cases k 3 with ⟨w1, _⟩ | ⟨w1, _⟩ <;> rw [w1] <;> omega
    refine po_bind (take_ok h10 hmm.1 (by omega)) fun y11 ⟨f0, f1, h11⟩ => ?_
    refine po_extend (by show 5 + 1 < 100000; omega) (po_get b0 (by show y3.1 < ((5 + 1 : Nat) : Int); omega) fun t20 ht _ => ?_)
    have ht' : 0 ≤ t20 ∧ t20 < k := by
      have hmx : 0 ≤ max2 0 (k - 1 - y10.1) ∧ max2 0 (k - 1 - y10.1) < k := by
        rcases mm_cases 0 (k - 1 - y10.1) with ⟨_, w2, _⟩ | ⟨_, w2, _⟩ <;> rw [w2] <;> omega
      have hdv : 0 ≤ (k - 1) / 2 ∧ (k - 1) / 2 < k := by omega
      have ht2 : t20 ∈ ([k - 1, 0, y9.1, max2 0 (k - 1 - y10.1), y11.1, (k - 1) / 2] : List Int) := ht
      simp only [List.mem_cons, List.not_mem_nil, or_false] at ht2
      omega
    refine po_app (by omega) ⟨fun p hp => ?_, ?_, h11⟩
    · rcases List.mem_append.mp hp with hp | hp
      · exact q1 p hp
      · rw [List.mem_singleton.mp hp]
        exact ht'
    · show (g.1 ++ [(t20, k)]).map (·.2) = pre ++ [k]
      rw [List.map_append, q2]
      rfl
  · have hlen : g6.1.length = (n - 1).toNat := by
      have := congrArg List.length q2
      rw [List.length_map, rng_length] at this
      exact this
    have hk : ∀ p ∈ g6.1, 1 ≤ p.2 ∧ p.2 < n := fun p hp => rng_mem.mp (q2 ▸ List.mem_map_of_mem (f := fun p : Int × Int => p.2) hp)
    have hT : TiesOk 700 n g6.1 := by
      refine ⟨fun p hp => ⟨(q1 p hp).1, (q1 p hp).2, (hk p hp).2⟩, ?_, conn_tree fun k k1 kn => ?_, by omega⟩
      · have : (g6.1.map (·.2)).Nodup := by rw [q2]; exact rng_nodup 1 n
        exact (List.pairwise_map.mp this).imp fun h e => h (by rw [e])
      · have : k ∈ g6.1.map (·.2) := by rw [q2]; exact rng_mem.mpr ⟨k1, kn⟩
        obtain ⟨p, hp, e⟩ := List.mem_map.mp this
        have := q1 p hp
        exact ⟨p.1, this.1, by rw [← e]; exact this.2, .inl (by rw [← e]; exact hp)⟩
    refine po_bind (named_tree q3 (by omega) (by omega) hT (by omega)) fun y28 ⟨e1, u1, u2⟩ => ?_
    exact ⟨u1, by show y28.1.1 ≤ m; omega, u2⟩
end G
/-! MB: neighbours and fars, as the program reckons them -/
namespace G
open PySem L2 Z
/-- the places tied to one, in the ties' order -/
def nbs (ts : List (Int × Int)) (i : Int) : List Int := ts.flatMap fun p => (if p.1 = i then [p.2] else []) ++ (if p.2 = i then [p.1] else [])
theorem nbs_snoc (ts : List (Int × Int)) (x : Int × Int) (i : Int) : nbs (ts ++ [x]) i = nbs ts i ++ ((if x.1 = i then [x.2] else []) ++ (if x.2 = i then [x.1] else [])) := by
  unfold nbs
  rw [List.flatMap_append]
  simp
theorem nbs_mem {ts : List (Int × Int)} {i j : Int} : j ∈ nbs ts i ↔ Adj ts i j := by
  unfold nbs Adj
  rw [List.mem_flatMap]
  constructor
  · rintro ⟨p, hp, h⟩
    rcases List.mem_append.mp h with h | h
    · split at h
      · rename_i e
        rw [List.mem_singleton] at h
        rw [← e, h]
        exact .inl hp
      · cases h
    · split at h
      · rename_i e
        rw [List.mem_singleton] at h
        rw [← e, h]
        exact .inr hp
      · cases h
  · rintro (h | h)
    · exact ⟨_, h, List.mem_append_left _ (by simp)⟩
    · exact ⟨_, h, List.mem_append_right _ (by simp)⟩
theorem nbs_len (ts : List (Int × Int)) (i : Int) : (nbs ts i).length ≤ 2 * ts.length := by
  induction ts with
  | nil => exact Nat.le_refl _
  | cons p ts ih =>
    have e : nbs (p :: ts) i = ((if p.1 = i then [p.2] else []) ++ (if p.2 = i then [p.1] else [])) ++ nbs ts i := rfl
    rw [e, List.length_append, List.length_append, List.length_cons]
    have h1 : (if p.1 = i then [p.2] else []).length ≤ 1 := by split <;> simp
    have h2 : (if p.2 = i then [p.1] else []).length ≤ 1 := by split <;> simp
    omega
theorem map_rng_get {α : Type} {n : Int} {F : Int → α} {j : Int} (h0 : 0 ≤ j) (h1 : j < n) : ((rng 0 n).map F)[j.toNat]? = some (F j) := by
  rw [List.getElem?_map, rng_atE (by omega)]
  show some (F (0 + (j.toNat : Int))) = _
  rw [show (0 : Int) + (j.toNat : Int) = j by omega]
theorem map_rng_set {α : Type} {n : Int} {F : Int → α} {j : Int} {y : α} (h0 : 0 ≤ j) : ((rng 0 n).map F).set j.toNat y = (rng 0 n).map fun i => if i = j then y else F i := by
  apply List.ext_getElem?
  intro k
  rw [List.getElem?_set, List.getElem?_map, List.getElem?_map, List.length_map]
  by_cases hk : k < (n - 0).toNat
  · rw [rng_atE hk]
    by_cases e : j.toNat = k
    · rw [if_pos e, if_pos (by rw [rng_length]; omega)]
      show some y = some (if (0 : Int) + (k : Int) = j then y else F (0 + k))
      rw [if_pos (by omega)]
    · rw [if_neg e]
      show some (F (0 + k)) = some (if (0 : Int) + (k : Int) = j then y else F (0 + k))
      rw [if_neg (by omega)]
  · rw [List.getElem?_eq_none (by rw [rng_length]; omega)]
    by_cases e : j.toNat = k
    · rw [if_pos e, if_neg (by rw [rng_length]; omega)]; rfl
    · rw [if_neg e]
      rfl
theorem map_rng_congr {α : Type} {n : Int} {F G : Int → α} (h : ∀ i, 0 ≤ i → i < n → F i = G i) : (rng 0 n).map F = (rng 0 n).map G := List.map_congr_left fun i hi => h i (rng_mem.mp hi).1 (rng_mem.mp hi).2
theorem range_get {N : Nat} {j : Int} (h0 : 0 ≤ j) (h1 : j < N) : getI (List.range N) j = R.ok j.toNat := by
  refine getI_eq h0 ?_
  rw [List.getElem?_range (by omega)]
def nears (n : Int) (ts : List (Int × Int)) : List (List Int) := (rng 0 n).map fun i => sortI (nbs ts i)
theorem near_lists_ok {n : Int} {ts : List (Int × Int)} (n0 : 0 ≤ n) (n1 : n < 1000) (hl : ts.length < 40000) (hr : ∀ p ∈ ts, 0 ≤ p.1 ∧ p.1 < n ∧ 0 ≤ p.2 ∧ p.2 < n) : near_lists (n, ⟨ts⟩) = R.ok (nears n ts) := by
  refine po_iff ?_
  unfold near_lists
  refine po_rng (by decide) (by decide) (by show -(2 ^ 62) ≤ n; omega) (by show n < 2 ^ 62; omega) ?_
  have hN : (rng 0 n).length = n.toNat := by rw [rng_length]; omega
  refine po_bind (po_mapStA (fun pre acc s => acc = List.range pre.length ∧ s = List.replicate pre.length []) (by show (rng 0 n).length < 100000; omega) ⟨rfl, rfl⟩ fun pre acc s x post e ⟨h1, h2⟩ => ?_) fun l5 ⟨a1, a2⟩ => ?_
  · refine po_newS ⟨?_, ?_⟩
    · show acc ++ [s.length] = _
      rw [h1, h2, List.length_replicate, List.length_append, List.length_singleton, List.range_succ]
    · show s ++ [[]] = _
      rw [h2, List.length_append, List.length_singleton, List.replicate_succ']
  · rw [hN] at a1 a2
    refine po_bind (po_foldP (fun pre g => g = (rng 0 n).map fun i => nbs pre i) ?_ fun pre g x post e hg => ?_) fun g11 hg => ?_
    · rw [a2]
      apply List.ext_getElem?
      intro k
      rw [List.getElem?_replicate, List.getElem?_map]
      by_cases hk : k < n.toNat
      · rw [if_pos hk, rng_atE (by omega)]; rfl
      · rw [if_neg hk, List.getElem?_eq_none (by rw [rng_length]; omega)]; rfl
    · obtain ⟨x1, x2, x3, x4⟩ := hr x (by rw [show ts = pre ++ x :: post from e]; simp)
      have hpl : pre.length < 40000 := by
        have : ts.length = pre.length + (post.length + 1) := by rw [show ts = pre ++ x :: post from e]; simp
        omega
      have hl1 := nbs_len pre x.1
      have hl2 := nbs_len pre x.2
      rw [a1]
      refine po_getE (range_get x1 (by omega)) (po_getS (by rw [hg]; exact map_rng_get x1 x2) (po_app (by omega) (po_setS ?_)))
      rw [hg, map_rng_set x1]
      refine po_getE (range_get x3 (by omega)) (po_getS (map_rng_get x3 x4) (po_app ?_ (po_setS ?_)))
      · split
        · rw [List.length_append, List.length_singleton]; omega
        · omega
      · rw [map_rng_set x3]
        show _ = _
        refine map_rng_congr fun i i0 i1 => ?_
        rw [nbs_snoc]
        by_cases e1 : x.1 = i
        · by_cases e2 : x.2 = i
          · subst e1
            rw [e2]
            simp
          · subst e1
            rw [if_neg (fun q => e2 q.symm), if_pos rfl, if_pos rfl, if_neg e2, List.append_nil]
        · by_cases e2 : x.2 = i
          · subst e2
            rw [if_pos rfl, if_neg (fun q => e1 q.symm), if_neg e1, if_pos rfl, List.nil_append]
          · rw [if_neg (fun q => e2 q.symm), if_neg (fun q => e1 q.symm), if_neg e1, if_neg e2, List.append_nil, List.append_nil]
    · have hg' : g11 = (rng 0 n).map fun i => nbs ts i := hg
      rw [a1]
      refine po_bind (Q := fun l => l = nears n ts) (po_eq (mapG_ok (g := fun b => sortI (nbs ts (b : Nat))) (by rw [List.length_range]; omega) fun b hb => ?_) ?_) fun l h => h
      · have hb' := List.mem_range.mp hb
        refine po_iff (po_getS (xs := nbs ts (b : Nat)) ?_ rfl)
        rw [hg']
        have := map_rng_get (n := n) (F := fun i => nbs ts i) (j := (b : Int)) (by omega) (by omega)
        rw [Int.toNat_natCast] at this
        exact this
      · unfold nears
        apply List.ext_getElem?
        intro k
        rw [List.getElem?_map, List.getElem?_map]
        by_cases hk : k < n.toNat
        · rw [rng_atE (by omega), List.getElem?_range hk]
          show some (sortI (nbs ts (k : Nat))) = some (sortI (nbs ts (0 + (k : Nat))))
          rw [Int.zero_add]
        · rw [List.getElem?_eq_none (by rw [List.length_range]; omega), List.getElem?_eq_none (by rw [rng_length]; omega)]; rfl
theorem sortI_mem {xs : List Int} {x : Int} : x ∈ sortI xs ↔ x ∈ xs := (sortI_perm xs).mem_iff
end G
/-! MC: drawn webs: neighbours, fars -/
namespace G
open PySem L2 Z
theorem web_near {n : Int} {ts : List (Int × Int)} (h : WebOk n ts) : near_lists (n, ⟨ts⟩) = R.ok (nears n ts) := near_lists_ok (by have := h.n1; omega) (by have := h.n60; omega) (by have := h.len; omega) h.rg4
theorem web_dist {n : Int} {ts : List (Int × Int)} {p : Int} (h : WebOk n ts) (p0 : 0 ≤ p) (p1 : p < n) : IsDist n ts p (dst n ts p) := conn_ex h.rg4 h.conn p0 p1
theorem WebOk.adj {n : Int} {ts : List (Int × Int)} (h : WebOk n ts) {a b : Int} (q : Adj ts a b) : 0 ≤ a ∧ a < n ∧ 0 ≤ b ∧ b < n ∧ a ≠ b := by
  rcases q with q | q <;> have := h.rg _ q <;> dsimp only at this <;> omega
section
variable {n : Int} {ts : List (Int × Int)} (h : WebOk n ts)
include h
theorem dst_zero {p v : Int} (p0 : 0 ≤ p) (p1 : p < n) (v0 : 0 ≤ v) (v1 : v < n) : dst n ts p v = 0 ↔ v = p := by
  have d := web_dist h p0 p1
  constructor
  · intro e
    apply Classical.byContradiction
    intro hne
    obtain ⟨w, w0, w1, _, ew⟩ := d.desc v v0 v1 hne
    have := d.nn w w0 w1
    omega
  · rintro rfl
    exact d.zero
theorem dst_nn {p v : Int} (p0 : 0 ≤ p) (p1 : p < n) (v0 : 0 ≤ v) (v1 : v < n) : 0 ≤ dst n ts p v := (web_dist h p0 p1).nn v v0 v1
theorem dst_tri {a b x : Int} (q : Adj ts a b) (x0 : 0 ≤ x) (x1 : x < n) : dst n ts a x ≤ dst n ts b x + 1 := by
  obtain ⟨a0, a1, b0, b1, _⟩ := h.adj q
  have da := web_dist h a0 a1
  have db := web_dist h b0 b1
  have key : ∀ (m : Nat) (x : Int), (dst n ts b x).toNat ≤ m → 0 ≤ x → x < n → dst n ts a x ≤ dst n ts b x + 1 := by
    intro m
    induction m with
    | zero =>
      intro x hm x0 x1
      have hx := db.nn x x0 x1
      have e : x = b := (dst_zero h b0 b1 x0 x1).mp (by omega)
      subst e
      have := da.lip a x q
      rw [da.zero] at this
      rw [db.zero]
      exact this
    | succ m ih =>
      intro x hm x0 x1
      by_cases e : x = b
      · subst e
        have := da.lip a x q
        rw [da.zero] at this
        rw [db.zero]
        exact this
      · obtain ⟨y, y0, y1, hy, ey⟩ := db.desc x x0 x1 e
        have := db.nn y y0 y1
        have h1 := ih y (by omega) y0 y1
        have h2 := da.lip y x hy
        omega
  exact key _ x (Nat.le_refl _) x0 x1
theorem dst_le_symm {p v : Int} (p0 : 0 ≤ p) (p1 : p < n) (v0 : 0 ≤ v) (v1 : v < n) : dst n ts v p ≤ dst n ts p v := by
  have dp := web_dist h p0 p1
  have key : ∀ (m : Nat) (v : Int), (dst n ts p v).toNat ≤ m → 0 ≤ v → v < n → dst n ts v p ≤ dst n ts p v := by
    intro m
    induction m with
    | zero =>
      intro v hm v0 v1
      have hx := dp.nn v v0 v1
      have e : v = p := (dst_zero h p0 p1 v0 v1).mp (by omega)
      subst e
      exact Int.le_refl _
    | succ m ih =>
      intro v hm v0 v1
      by_cases e : v = p
      · subst e
        exact Int.le_refl _
      · obtain ⟨w, w0, w1, hw, ew⟩ := dp.desc v v0 v1 e
        have := dp.nn w w0 w1
        have h1 := ih w (by omega) w0 w1
        have h2 := dst_tri h hw.symm p0 p1
        omega
  exact key _ v (Nat.le_refl _) v0 v1
theorem dst_symm {p v : Int} (p0 : 0 ≤ p) (p1 : p < n) (v0 : 0 ≤ v) (v1 : v < n) : dst n ts v p = dst n ts p v := Int.le_antisymm (dst_le_symm h p0 p1 v0 v1) (dst_le_symm h v0 v1 p0 p1)
/-- neighbours are just one far -/
theorem dst_one {p v : Int} (p0 : 0 ≤ p) (p1 : p < n) (v0 : 0 ≤ v) (v1 : v < n) : dst n ts p v = 1 ↔ Adj ts p v := by
  have d := web_dist h p0 p1
  constructor
  · intro e
    obtain ⟨w, w0, w1, hw, ew⟩ := d.desc v v0 v1 (fun q => by
      have := (dst_zero h p0 p1 v0 v1).mpr q
      omega)
    have : w = p := (dst_zero h p0 p1 w0 w1).mp (by omega)
    rw [← this]
    exact hw
  · intro q
    have h1 := d.lip p v q
    rw [d.zero] at h1
    have h2 := d.nn v v0 v1
    have h3 : dst n ts p v ≠ 0 := fun e => (h.adj q).2.2.2.2 ((dst_zero h p0 p1 v0 v1).mp e).symm
    omega
end
theorem perm_nodup {xs ys : List Int} (h1 : xs.Nodup) (h2 : ys.Nodup) (h : ∀ x, x ∈ xs ↔ x ∈ ys) : xs.Perm ys := by
  rw [List.perm_iff_count]
  intro a
  rw [h1.count, h2.count]
  by_cases q : a ∈ xs
  · rw [if_pos q, if_pos ((h a).mp q)]
  · rw [if_neg q, if_neg (fun z => q ((h a).mpr z))]
theorem nbs_nodup {ts : List (Int × Int)} (hn : ts.Nodup) (hr : ∀ p ∈ ts, p.1 < p.2) (i : Int) : (nbs ts i).Nodup := by
  induction ts with
  | nil => exact List.nodup_nil
  | cons p ts ih =>
    have e : nbs (p :: ts) i = ((if p.1 = i then [p.2] else []) ++ (if p.2 = i then [p.1] else [])) ++ nbs ts i := rfl
    obtain ⟨hn1, hn2⟩ := List.nodup_cons.mp hn
    have ih' := ih hn2 fun q hq => hr q (List.mem_cons_of_mem _ hq)
    have hp := hr p List.mem_cons_self
    rw [e]
    by_cases h1 : p.1 = i
    · have h2 : p.2 ≠ i := by omega
      rw [if_pos h1, if_neg h2, List.append_nil]
      refine List.nodup_cons.mpr ⟨fun q => ?_, ih'⟩
      rcases nbs_mem.mp q with q | q
      · exact hn1 (by rw [← h1] at q; exact q)
      · have := hr _ (List.mem_cons_of_mem _ q)
        dsimp only at this
        omega
    · by_cases h2 : p.2 = i
      · rw [if_neg h1, if_pos h2, List.nil_append]
        refine List.nodup_cons.mpr ⟨fun q => ?_, ih'⟩
        rcases nbs_mem.mp q with q | q
        · have := hr _ (List.mem_cons_of_mem _ q)
          dsimp only at this
          omega
        · exact hn1 (by rw [← h2] at q; exact q)
      · rw [if_neg h1, if_neg h2, List.append_nil, List.nil_append]
        exact ih'
theorem rng_sorted (i j : Int) : (rng i j).Pairwise (· < ·) := by
  unfold rng
  refine List.Pairwise.map _ (fun a b h => ?_) List.pairwise_lt_range
  show i + (a : Int) < i + b
  omega
theorem nears_get {n p : Int} {ts : List (Int × Int)} (p0 : 0 ≤ p) (p1 : p < n) : getI (nears n ts) p = R.ok (sortI (nbs ts p)) := getI_eq p0 (map_rng_get p0 p1)
theorem nbs_len_n {n : Int} {ts : List (Int × Int)} (h : WebOk n ts) (i : Int) : (nbs ts i).length ≤ n.toNat := by
  have := nodup_le (nbs_nodup h.nd (fun p hp => (h.rg p hp).2.1) i) (ys := rng 0 n) fun x hx => by
    have := h.adj (nbs_mem.mp hx)
    exact rng_mem.mpr ⟨this.2.2.1, this.2.2.2.1⟩
  rw [rng_length] at this
  omega
theorem fil_ite {α : Type} (l : List α) (P : α → Bool) : l.filterMap (fun b => if P b = true then some b else none) = l.filter P := by
  induction l with
  | nil => rfl
  | cons a l ih =>
    rw [List.filterMap_cons, List.filter_cons]
    cases P a
    · exact ih
    · show a :: _ = a :: _
      rw [ih]
end G
/-! MT: trees: which places lie beyond a neighbour, and what looks tell two things apart -/
namespace G
open PySem L2 Z
theorem all_of_len {α : Type} [DecidableEq α] {xs ys : List α} (hx : xs.Nodup) (hs : ∀ x ∈ xs, x ∈ ys) (hl : ys.length ≤ xs.length) : ∀ y ∈ ys, y ∈ xs := fun y hy => by
  apply Classical.byContradiction
  intro hno
  have := nodup_le (xs := y :: xs) (ys := ys) (List.nodup_cons.mpr ⟨hno, hx⟩) fun z hz => by
    rcases List.mem_cons.mp hz with rfl | hz
    · exact hy
    · exact hs z hz
  rw [List.length_cons] at this
  omega
section
variable {n : Int} {ts : List (Int × Int)}
theorem dst_lip (h : WebOk n ts) {r a b : Int} (r0 : 0 ≤ r) (r1 : r < n) (q : Adj ts a b) : dst n ts r b ≤ dst n ts r a + 1 := (web_dist h r0 r1).lip a b q
theorem dst_self (h : WebOk n ts) {r : Int} (r0 : 0 ≤ r) (r1 : r < n) : dst n ts r r = 0 := (web_dist h r0 r1).zero
theorem dst_near (h : WebOk n ts) {r v : Int} (r0 : 0 ≤ r) (r1 : r < n) (v0 : 0 ≤ v) (v1 : v < n) (hv : v ≠ r) : ∃ w, 0 ≤ w ∧ w < n ∧ Adj ts w v ∧ dst n ts r w + 1 = dst n ts r v := (web_dist h r0 r1).desc v v0 v1 hv
theorem tri (h : WebOk n ts) {a b : Int} (a0 : 0 ≤ a) (a1 : a < n) (b0 : 0 ≤ b) (b1 : b < n) : ∀ (m : Nat) (c : Int), (dst n ts b c).toNat ≤ m → 0 ≤ c → c < n → dst n ts a c ≤ dst n ts a b + dst n ts b c := by
  intro m
  induction m with
  | zero =>
    intro c hm c0 c1
    have := dst_nn h b0 b1 c0 c1
    have e : c = b := (dst_zero h b0 b1 c0 c1).mp (by omega)
    subst e
    omega
  | succ m ih =>
    intro c hm c0 c1
    by_cases e : c = b
    · subst e
      have := dst_nn h b0 b1 c0 c1
      omega
    · obtain ⟨w, w0, w1, qa, ew⟩ := dst_near h b0 b1 c0 c1 e
      have := ih w (by omega) w0 w1
      have := dst_lip h a0 a1 qa
      omega
theorem dtri (h : WebOk n ts) {a b c : Int} (a0 : 0 ≤ a) (a1 : a < n) (b0 : 0 ≤ b) (b1 : b < n) (c0 : 0 ≤ c) (c1 : c < n) : dst n ts a c ≤ dst n ts a b + dst n ts b c := tri h a0 a1 b0 b1 _ c (Nat.le_refl _) c0 c1
theorem adj_one (h : WebOk n ts) {a b : Int} (q : Adj ts a b) : dst n ts a b = 1 := by
  obtain ⟨a0, a1, b0, b1, _⟩ := h.adj q
  exact (dst_one h a0 a1 b0 b1).mpr q
end
section
variable {n : Int} {ts : List (Int × Int)} (t : TreeOk n ts)
include t
/-- each tie of a tree leads from a place to the one ahead of it -/
theorem tree_par {r : Int} (r0 : 0 ≤ r) (r1 : r < n) : ∃ w : Int → Int, ∀ a b, Adj ts a b → (b ≠ r ∧ a = w b ∧ dst n ts r a + 1 = dst n ts r b) ∨ (a ≠ r ∧ b = w a ∧ dst n ts r b + 1 = dst n ts r a) := by
  have h := t.web
  have hw : ∀ v, ∃ w, 0 ≤ v → v < n → v ≠ r → Adj ts w v ∧ dst n ts r w + 1 = dst n ts r v := fun v => by
    by_cases c : 0 ≤ v ∧ v < n ∧ v ≠ r
    · obtain ⟨w, _, _, q, e⟩ := dst_near h r0 r1 c.1 c.2.1 c.2.2
      exact ⟨w, fun _ _ _ => ⟨q, e⟩⟩
    · exact ⟨0, fun c1 c2 c3 => absurd ⟨c1, c2, c3⟩ c⟩
  obtain ⟨w, hw⟩ := Classical.axiomOfChoice hw
  refine ⟨w, ?_⟩
  -- the tie ahead of each place
  let E : Int → Int × Int := fun v => if (w v, v) ∈ ts then (w v, v) else (v, w v)
  have hE : ∀ v, 0 ≤ v → v < n → v ≠ r → E v ∈ ts := fun v v0 v1 v2 => by
    show (if (w v, v) ∈ ts then (w v, v) else (v, w v)) ∈ ts
    by_cases c : (w v, v) ∈ ts
    · rw [if_pos c]; exact c
    · rw [if_neg c]
      exact (hw v v0 v1 v2).1.resolve_left c
  have hEc : ∀ v, E v = (w v, v) ∨ E v = (v, w v) := fun v => by
    show (if (w v, v) ∈ ts then (w v, v) else (v, w v)) = _ ∨ (if (w v, v) ∈ ts then (w v, v) else (v, w v)) = _
    by_cases c : (w v, v) ∈ ts
    · rw [if_pos c]; exact .inl rfl
    · rw [if_neg c]; exact .inr rfl
  have hV : ∀ v, v ∈ (rng 0 n).filter (fun v => !decide (v = r)) ↔ (0 ≤ v ∧ v < n) ∧ v ≠ r := fun v => by
    rw [List.mem_filter, rng_mem]
    simp
  have hinj : ∀ u v, (0 ≤ u ∧ u < n) ∧ u ≠ r → (0 ≤ v ∧ v < n) ∧ v ≠ r → E u = E v → u = v := fun u v hu hv e => by
    have e1 := (hw u hu.1.1 hu.1.2 hu.2).2
    have e2 := (hw v hv.1.1 hv.1.2 hv.2).2
    rcases hEc u with a | a <;> rcases hEc v with b | b <;> rw [a, b] at e <;> injection e with x y
    · rw [x, y] at e1
      omega
    · rw [y, x] at e1
      omega
  have hnd : (((rng 0 n).filter fun v => !decide (v = r)).map E).Nodup := by
    refine List.pairwise_map.mpr ?_
    have := (rng_nodup 0 n).filter fun v => !decide (v = r)
    refine List.Pairwise.imp_of_mem ?_ this
    intro u v hu hv hne e
    exact hne (hinj u v ((hV u).mp hu) ((hV v).mp hv) e)
  have hlen : ts.length ≤ (((rng 0 n).filter fun v => !decide (v = r)).map E).length := by
    rw [List.length_map]
    have h1 := nodup_le (xs := rng 0 n) (ys := r :: (rng 0 n).filter fun v => !decide (v = r)) (rng_nodup 0 n) fun v hv => by
      by_cases c : v = r
      · rw [c]; exact List.mem_cons_self
      · exact List.mem_cons_of_mem _ ((hV v).mpr ⟨rng_mem.mp hv, c⟩)
    rw [List.length_cons, rng_length] at h1
    have := t.len
    omega
  have hall := all_of_len hnd (fun p hp => by
    obtain ⟨v, hv, rfl⟩ := List.mem_map.mp hp
    have hv := (hV v).mp hv
    exact hE v hv.1.1 hv.1.2 hv.2) hlen
  have one : ∀ a b, (a, b) ∈ ts → (b ≠ r ∧ a = w b ∧ dst n ts r a + 1 = dst n ts r b) ∨ (a ≠ r ∧ b = w a ∧ dst n ts r b + 1 = dst n ts r a) := fun a b hab => by
    obtain ⟨v, hv, e⟩ := List.mem_map.mp (hall _ hab)
    have hv := (hV v).mp hv
    have e1 := (hw v hv.1.1 hv.1.2 hv.2).2
    rcases hEc v with c | c <;> rw [c] at e <;> injection e with x y
    · subst y
      subst x
      exact .inl ⟨hv.2, rfl, e1⟩
    · subst x
      subst y
      exact .inr ⟨hv.2, rfl, e1⟩
  intro a b q
  rcases q with q | q
  · exact one a b q
  · exact (one b a q).symm
theorem edge_one {r a b : Int} (r0 : 0 ≤ r) (r1 : r < n) (q : Adj ts a b) : dst n ts r a + 1 = dst n ts r b ∨ dst n ts r b + 1 = dst n ts r a := by
  obtain ⟨w, hw⟩ := tree_par t r0 r1
  exact (hw a b q).imp (fun z => z.2.2) fun z => z.2.2
theorem near_uniq {r a c b : Int} (r0 : 0 ≤ r) (r1 : r < n) (q : Adj ts a b) (q' : Adj ts c b) (e : dst n ts r a + 1 = dst n ts r b) (e' : dst n ts r c + 1 = dst n ts r b) : a = c := by
  obtain ⟨w, hw⟩ := tree_par t r0 r1
  rcases hw a b q with ⟨_, h1, _⟩ | ⟨_, _, h1⟩
  · rcases hw c b q' with ⟨_, h2, _⟩ | ⟨_, _, h2⟩
    · rw [h1, h2]
    · omega
  · omega
/-- no place beyond s leads back but by p -/
theorem side_up {p s y z : Int} (q : Adj ts p s) (y0 : 0 ≤ y) (y1 : y < n) (hy : dst n ts p y + 1 = dst n ts s y) (qz : Adj ts z y) (ez : dst n ts p z + 1 = dst n ts p y) : dst n ts p z + 1 = dst n ts s z := by
  have h := t.web
  obtain ⟨p0, p1, s0, s1, _⟩ := h.adj q
  obtain ⟨z0, z1, _⟩ := h.adj qz
  have e1 := edge_one t z0 z1 q
  rw [dst_symm h p0 p1 z0 z1, dst_symm h s0 s1 z0 z1] at e1
  rcases e1 with e1 | e1
  · exact e1
  · have := dst_lip h s0 s1 qz
    omega
/-- the way from a place beyond s to one that is not goes by p -/
theorem path_ok {p s l : Int} (q : Adj ts p s) (l0 : 0 ≤ l) (l1 : l < n) (hl : dst n ts l s + 1 = dst n ts l p) : ∀ (m : Nat) (y : Int), (dst n ts p y).toNat ≤ m → 0 ≤ y → y < n → dst n ts p y + 1 = dst n ts s y → dst n ts l y = dst n ts l p + dst n ts p y := by
  have h := t.web
  obtain ⟨p0, p1, s0, s1, _⟩ := h.adj q
  intro m
  induction m with
  | zero =>
    intro y hm y0 y1 hy
    have := dst_nn h p0 p1 y0 y1
    have e : y = p := (dst_zero h p0 p1 y0 y1).mp (by omega)
    subst e
    omega
  | succ m ih =>
    intro y hm y0 y1 hy
    have hn := dst_nn h p0 p1 y0 y1
    by_cases e : y = p
    · subst e
      have := dst_self h p0 p1
      omega
    · obtain ⟨z, z0, z1, qz, ez⟩ := dst_near h p0 p1 y0 y1 e
      have hzs := side_up t q y0 y1 hy qz ez
      have iz := ih z (by omega) z0 z1 hzs
      rcases edge_one t l0 l1 qz with c | c
      · omega
      · exfalso
        by_cases e2 : z = p
        · subst e2
          have := near_uniq t l0 l1 qz.symm q.symm c hl
          subst this
          have := dst_self h s0 s1
          omega
        · obtain ⟨z', z0', z1', qz', ez'⟩ := dst_near h p0 p1 z0 z1 e2
          have iz' := ih z' (by omega) z0' z1' (side_up t q z0 z1 hzs qz' ez')
          have := near_uniq t l0 l1 qz.symm qz' c (by omega)
          subst this
          omega
theorem path_eq {p s l y : Int} (q : Adj ts p s) (l0 : 0 ≤ l) (l1 : l < n) (hl : dst n ts l s + 1 = dst n ts l p) (y0 : 0 ≤ y) (y1 : y < n) (hy : dst n ts y p + 1 = dst n ts y s) : dst n ts l y = dst n ts l p + dst n ts p y := by
  have h := t.web
  obtain ⟨p0, p1, s0, s1, _⟩ := h.adj q
  refine path_ok t q l0 l1 hl _ y (Nat.le_refl _) y0 y1 ?_
  rw [dst_symm h p0 p1 y0 y1, dst_symm h s0 s1 y0 y1] at hy
  exact hy
/-- a place on the way -/
theorem mid_ex {x y : Int} (x0 : 0 ≤ x) (x1 : x < n) (y0 : 0 ≤ y) (y1 : y < n) : ∀ (k : Nat), (k : Int) ≤ dst n ts x y → ∃ m, 0 ≤ m ∧ m < n ∧ dst n ts x m = dst n ts x y - k ∧ dst n ts m y = k := by
  have h := t.web
  intro k
  induction k with
  | zero =>
    intro _
    exact ⟨y, y0, y1, by omega, dst_self h y0 y1⟩
  | succ k ih =>
    intro hk
    obtain ⟨m, m0, m1, e1, e2⟩ := ih (by omega)
    have hne : m ≠ x := fun e => by
      subst e
      have := dst_self h m0 m1
      omega
    obtain ⟨z, z0, z1, qz, ez⟩ := dst_near h x0 x1 m0 m1 hne
    have a1 := dst_tri h qz y0 y1
    have a2 := dtri h x0 x1 z0 z1 y0 y1
    exact ⟨z, z0, z1, by omega, by omega⟩
end
end G
namespace G
open PySem L2 Z
theorem place_ok {n p : Int} {t : Tup (Int × Int)} (p0 : 0 ≤ p) (p1 : p < n) : place_asked (n, t) p = R.ok () := by
  unfold place_asked
  dsimp only
  rw [decide_eq_true p0, decide_eq_true p1]
  rfl
theorem nbr_ok {n p : Int} {ts : List (Int × Int)} (h : WebOk n ts) (p0 : 0 ≤ p) (p1 : p < n) : neighbours_of (n, ⟨ts⟩) p = R.ok (sortI (nbs ts p)) := by
  unfold neighbours_of
  rw [place_ok p0 p1, ok_bind, web_near h, ok_bind, nears_get p0 p1]
  rfl
theorem law_near_ok {n : Int} {ts : List (Int × Int)} (h : WebOk n ts) : law_near (n, ⟨ts⟩) = R.ok (nears n ts) := web_near h
section
variable {n L p : Int} {ts : List (Int × Int)}
/-- behind a round: what is at L, what is found -/
structure LI (n p : Int) (ts : List (Int × Int)) (L : Int) (e : List Int) (m : List (Int × Int)) : Prop where
  e1 : ∀ v ∈ e, 0 ≤ v ∧ v < n ∧ dst n ts p v = L
  e2 : ∀ v, 0 ≤ v → v < n → dst n ts p v = L → v ∈ e
  m1 : ∀ v, 0 ≤ v → v < n → dst n ts p v ≤ L → mget m v = some (dst n ts p v)
  m2 : ∀ v x, mget m v = some x → 0 ≤ v ∧ v < n ∧ dst n ts p v ≤ L
  nd : (mkeys m).Nodup
  L0 : 0 ≤ L
/-- within a round -/
structure LJ (n p : Int) (ts : List (Int × Int)) (L : Int) (m : List (Int × Int)) (b : List Int) (m' : List (Int × Int)) : Prop where
  ja : ∀ v ∈ b, 0 ≤ v ∧ v < n ∧ dst n ts p v = L + 1 ∧ mget m' v = some (dst n ts p v)
  jb : ∀ v, 0 ≤ v → v < n → dst n ts p v ≤ L → mget m' v = some (dst n ts p v)
  jc : ∀ v x, mget m' v = some x → 0 ≤ v ∧ v < n ∧ (dst n ts p v ≤ L ∨ v ∈ b)
  nd : (mkeys m').Nodup
  ln : m'.length = m.length + b.length
theorem mkeys_nd {m : List (Int × Int)} {k v : Int} (h : (mkeys m).Nodup) : (mkeys (mput m k v)).Nodup := by
  rw [mkeys_mput]
  split
  · exact h
  · rename_i q
    rw [List.nodup_append]
    refine ⟨h, by simp, fun a ha b hb e => ?_⟩
    simp at hb
    subst hb
    exact q (e ▸ ha)
theorem keys_few {m : List (Int × Int)} (n0 : 0 ≤ n) (hd : (mkeys m).Nodup) (hr : ∀ v x, mget m v = some x → 0 ≤ v ∧ v < n) : m.length ≤ n.toNat := by
  have h1 := nodup_le hd (ys := rng 0 n) fun k hk => by
    have hh := mhas_keys.mpr hk
    rw [mhas_mget] at hh
    cases e : mget m k with
    | none => rw [e] at hh; cases hh
    | some x => exact rng_mem.mpr (hr k x e)
  rw [rng_length] at h1
  have : (mkeys m).length = m.length := by unfold mkeys; rw [List.length_map]
  omega
theorem LJ.put (h : WebOk n ts) (d : IsDist n ts p (dst n ts p)) {m : List (Int × Int)} {b : List Int} {m' : List (Int × Int)} {w u : Int} (j : LJ n p ts L m b m') (hw : dst n ts p w = L) (q : Adj ts w u) (hu : mget m' u = none) : LJ n p ts L m (b ++ [u]) (mput m' u (L + 1)) := by
  obtain ⟨_, _, u0, u1, _⟩ := h.adj q
  have hl := d.lip w u q
  have hf : dst n ts p u = L + 1 := by
    by_cases z : dst n ts p u ≤ L
    · rw [j.jb u u0 u1 z] at hu; cases hu
    · omega
  have hne : ∀ v, mget m' v = some (dst n ts p v) → v ≠ u := fun v hv e => by rw [e, hu] at hv; cases hv
  refine ⟨fun v hv => ?_, fun v v0 v1 hv => ?_, fun v x hx => ?_, mkeys_nd j.nd, ?_⟩
  · rcases List.mem_append.mp hv with hv | hv
    · obtain ⟨a1, a2, a3, a4⟩ := j.ja v hv
      exact ⟨a1, a2, a3, by rw [mget_mput, if_neg (hne v a4)]; exact a4⟩
    · rw [List.mem_singleton.mp hv]
      exact ⟨u0, u1, hf, by rw [mget_mput, if_pos rfl, hf]⟩
  · have := j.jb v v0 v1 hv
    rw [mget_mput, if_neg (hne v this)]
    exact this
  · rw [mget_mput] at hx
    by_cases e : v = u
    · rw [e]
      exact ⟨u0, u1, .inr (by simp)⟩
    · rw [if_neg e] at hx
      obtain ⟨a1, a2, a3⟩ := j.jc v x hx
      exact ⟨a1, a2, a3.imp id fun z => List.mem_append_left _ z⟩
  · have hno : mhas m' u = false := by rw [mhas_mget, hu]; rfl
    rw [mput_new hno, List.length_append, List.length_append, List.length_singleton, List.length_singleton, j.ln]
    omega
theorem steps_post (h : WebOk n ts) (p0 : 0 ≤ p) (p1 : p < n) : Post (law_steps (nears n ts) p) (fun d => ∀ v, 0 ≤ v → v < n → mget d.m v = some (dst n ts p v)) noX := by
  have d := web_dist h p0 p1
  have hn := h.n60
  have hn1 := h.n1
  unfold law_steps
  rw [fu_eq]
  refine po_bind (Q := fun (s : List Int × List (Int × Int)) => ∀ v, 0 ≤ v → v < n → mget s.2 v = some (dst n ts p v)) (po_while (fun (s : List Int × List (Int × Int)) => ∃ L, LI n p ts L s.1 s.2) (fun s => 2 * (n.toNat - s.2.length) + (if s.1 = [] then 0 else 1)) (fun s ⟨L, hI⟩ => ?_) ⟨0, ?_⟩ ?_) fun s hs => hs
  · have hfew := keys_few (by omega) hI.nd fun v x hx => ⟨(hI.m2 v x hx).1, (hI.m2 v x hx).2.1⟩
    refine ⟨fun c => ?_, fun c => ?_⟩
    · have hne : s.1 ≠ [] := by
        have := of_decide_eq_true c
        intro e
        rw [e] at this
        simp at this
      refine po_bind (Q := fun (g : List Int × List (Int × Int)) => LJ n p ts L s.2 g.1 g.2 ∧ ∀ w ∈ s.1, ∀ u, Adj ts w u → mhas g.2 u = true) (po_foldP (fun pre (g : List Int × List (Int × Int)) => LJ n p ts L s.2 g.1 g.2 ∧ ∀ w ∈ pre, ∀ u, Adj ts w u → mhas g.2 u = true) ⟨⟨fun _ h => (nomatch h), hI.m1, fun v x hx => ⟨(hI.m2 v x hx).1, (hI.m2 v x hx).2.1, .inl (hI.m2 v x hx).2.2⟩, hI.nd, rfl⟩, fun _ h => (nomatch h)⟩ fun pre g w post e ⟨hJ, hD⟩ => ?_) fun g ⟨hJ, hD⟩ => ?_
      · obtain ⟨w0, w1, hw⟩ := hI.e1 w (by rw [e]; simp)
        refine po_getE (nears_get w0 w1) ?_
        refine po_bind (Q := fun (g' : List Int × List (Int × Int)) => LJ n p ts L s.2 g'.1 g'.2 ∧ (∀ u, mhas g.2 u = true → mhas g'.2 u = true) ∧ ∀ u ∈ sortI (nbs ts w), mhas g'.2 u = true) (po_foldP (fun pr (g' : List Int × List (Int × Int)) => LJ n p ts L s.2 g'.1 g'.2 ∧ (∀ u, mhas g.2 u = true → mhas g'.2 u = true) ∧ ∀ u ∈ pr, mhas g'.2 u = true) ⟨hJ, fun _ h => h, fun _ h => (nomatch h)⟩ fun pr g' u po e2 ⟨q1, q2, q3⟩ => ?_) fun g' ⟨q1, q2, q3⟩ => ⟨q1, fun w' hw' u hu => ?_⟩
        · have hu : Adj ts w u := nbs_mem.mp ((sortI_perm _).mem_iff.mp (by rw [e2]; simp))
          have hfew2 := keys_few (by omega) q1.nd fun v x hx => ⟨(q1.jc v x hx).1, (q1.jc v x hx).2.1⟩
          have hbl := q1.ln
          refine po_if (fun c => ?_) fun c => ⟨q1, q2, fun z hz => ?_⟩
          · have hno : mget g'.2 u = none := by
              rw [Bool.not_eq_true', mhas_mget] at c
              cases e3 : mget g'.2 u with
              | none => rfl
              | some x => rw [e3] at c; cases c
            refine po_mgetE (x := L) (by rw [q1.jb w w0 w1 (by omega), hw]) (po_mput (by omega) (po_app (by omega) ⟨q1.put h d hw hu hno, fun z hz => ?_, fun z hz => ?_⟩))
            · rw [mhas_mget] at hz ⊢
              rw [mget_mput]
              split
              · rfl
              · rw [← mhas_mget] at hz ⊢
                exact q2 z hz
            · rw [mhas_mget, mget_mput]
              split
              · rfl
              · rcases List.mem_append.mp hz with hz | hz
                · rw [← mhas_mget]; exact q3 z hz
                · rename_i hzu
                  exact absurd (List.mem_singleton.mp hz) hzu
          · rcases List.mem_append.mp hz with hz | hz
            · exact q3 z hz
            · rw [List.mem_singleton.mp hz]
              cases e3 : mhas g'.2 u with
              | true => rfl
              | false => exact absurd (by show (!mhas g'.2 u) = true; rw [e3]; rfl) c
        · rcases List.mem_append.mp hw' with hw' | hw'
          · exact q2 u (hD w' hw' u hu)
          · rw [List.mem_singleton.mp hw'] at hu
            exact q3 u ((sortI_perm _).mem_iff.mpr (nbs_mem.mpr hu))
      · have hfew2 := keys_few (by omega) hJ.nd fun v x hx => ⟨(hJ.jc v x hx).1, (hJ.jc v x hx).2.1⟩
        have L0 := hI.L0
        have hmem : ∀ v, 0 ≤ v → v < n → dst n ts p v = L + 1 → v ∈ g.1 := fun v v0 v1 hv => by
          have hvp : v ≠ p := fun z => by rw [z, d.zero] at hv; omega
          obtain ⟨w, w0, w1, hq, ew⟩ := d.desc v v0 v1 hvp
          have hh := hD w (hI.e2 w w0 w1 (by omega)) v hq
          rw [mhas_mget] at hh
          cases e3 : mget g.2 v with
          | none => rw [e3] at hh; cases hh
          | some x =>
            rcases (hJ.jc v x e3).2.2 with z | z
            · omega
            · exact z
        refine ⟨⟨L + 1, ⟨fun v hv => ⟨(hJ.ja v hv).1, (hJ.ja v hv).2.1, (hJ.ja v hv).2.2.1⟩, hmem, fun v v0 v1 hv => ?_, fun v x hx => ⟨(hJ.jc v x hx).1, (hJ.jc v x hx).2.1, ?_⟩, hJ.nd, by omega⟩⟩, ?_⟩
        · by_cases z : dst n ts p v ≤ L
          · exact hJ.jb v v0 v1 z
          · exact (hJ.ja v (hmem v v0 v1 (by omega))).2.2.2
        · rcases (hJ.jc v x hx).2.2 with z | z
          · omega
          · have := (hJ.ja v z).2.2.1
            omega
        · have hln := hJ.ln
          show 2 * (n.toNat - g.2.length) + (if g.1 = [] then 0 else 1) < 2 * (n.toNat - s.2.length) + (if s.1 = [] then 0 else 1)
          rw [if_neg hne]
          by_cases z : g.1 = []
          · rw [if_pos z, hln, z]
            simp
          · have := List.length_pos_iff.mpr z
            rw [if_neg z]
            omega
    · intro v v0 v1
      have he : s.1 = [] := by
        have := of_decide_eq_false c
        exact List.eq_nil_of_length_eq_zero (by omega)
      have L0 := hI.L0
      refine hI.m1 v v0 v1 ?_
      apply Classical.byContradiction
      intro z
      obtain ⟨w, w0, w1, hw⟩ := d.level _ v v0 v1 rfl L.toNat (by omega)
      have := hI.e2 w w0 w1 (by omega)
      rw [he] at this
      cases this
  · have hz : ∀ v, 0 ≤ v → v < n → dst n ts p v = 0 → v = p := fun v v0 v1 hv => by
      apply Classical.byContradiction
      intro z
      obtain ⟨w, w0, w1, _, ew⟩ := d.desc v v0 v1 z
      have := d.nn w w0 w1
      omega
    refine ⟨fun v hv => ?_, fun v v0 v1 hv => by rw [hz v v0 v1 hv]; exact List.mem_singleton.mpr rfl, fun v v0 v1 hv => ?_, fun v x hx => ?_, List.pairwise_singleton _ _, Int.le_refl _⟩
    · rw [List.mem_singleton.mp hv]
      exact ⟨p0, p1, d.zero⟩
    · have := d.nn v v0 v1
      rw [hz v v0 v1 (by omega)]
      show mget [(p, (0 : Int))] p = _
      rw [mget_cons, if_pos rfl, d.zero]
    · have hx' : mget [(p, (0 : Int))] v = some x := hx
      rw [mget_cons] at hx'
      by_cases z : p = v
      · rw [← z]
        exact ⟨p0, p1, by rw [d.zero]; exact Int.le_refl _⟩
      · rw [if_neg z] at hx'
        cases hx'
  · show 2 * (n.toNat - 1) + (if ([p] : List Int) = [] then 0 else 1) < 1000
    rw [if_neg (by simp)]
    omega
end
/-- how far a thing is -/
noncomputable def farT (n : Int) (ts : List (Int × Int)) (p : Int) : Thing → Int
  | .pl i => dst n ts p i
  | .ti a b => min2 (dst n ts p a) (dst n ts p b)
def ThOk (n : Int) (ts : List (Int × Int)) : Thing → Prop
  | .pl i => 0 ≤ i ∧ i < n
  | .ti a b => (a, b) ∈ ts
def allT (n : Int) (ts : List (Int × Int)) : List Thing := mkpl (rng 0 n) ++ mkti ts
def kindT (n : Int) (ts : List (Int × Int)) (k : Str) : List Thing := if decide (k = "places") = true then mkpl (rng 0 n) else if decide (k = "ties") = true then mkti ts else allT n ts
theorem pl_mem {n : Int} {t : Thing} : t ∈ mkpl (rng 0 n) ↔ ∃ i, t = .pl i ∧ 0 ≤ i ∧ i < n := by
  unfold mkpl
  rw [List.mem_map]
  constructor
  · rintro ⟨i, hi, rfl⟩
    exact ⟨i, rfl, rng_mem.mp hi⟩
  · rintro ⟨i, rfl, hi⟩
    exact ⟨i, rng_mem.mpr hi, rfl⟩
theorem ti_mem {ts : List (Int × Int)} {t : Thing} : t ∈ mkti ts ↔ ∃ a b, t = .ti a b ∧ (a, b) ∈ ts := by
  unfold mkti
  rw [List.mem_map]
  constructor
  · rintro ⟨p, hp, rfl⟩
    exact ⟨p.1, p.2, rfl, hp⟩
  · rintro ⟨a, b, rfl, h⟩
    exact ⟨(a, b), h, rfl⟩
theorem allT_mem {n : Int} {ts : List (Int × Int)} {t : Thing} : t ∈ allT n ts ↔ ThOk n ts t := by
  unfold allT
  rw [List.mem_append, pl_mem, ti_mem]
  cases t with
  | pl i =>
    constructor
    · rintro (⟨j, e, h⟩ | ⟨a, b, e, _⟩)
      · cases e; exact h
      · cases e
    · intro h
      exact .inl ⟨i, rfl, h⟩
  | ti a b =>
    constructor
    · rintro (⟨j, e, h⟩ | ⟨c, d, e, h⟩)
      · cases e
      · cases e; exact h
    · intro h
      exact .inr ⟨a, b, rfl, h⟩
theorem kindT_ok {n : Int} {ts : List (Int × Int)} {k : Str} {t : Thing} (h : t ∈ kindT n ts k) : ThOk n ts t := by
  unfold kindT at h
  split at h
  · exact allT_mem.mp (List.mem_append_left _ h)
  · split at h
    · exact allT_mem.mp (List.mem_append_right _ h)
    · exact allT_mem.mp h
theorem allT_len {n : Int} {ts : List (Int × Int)} (n0 : 0 ≤ n) : ((allT n ts).length : Int) = n + ts.length := by
  unfold allT mkpl mkti
  rw [List.length_append, List.length_map, List.length_map, rng_length]
  omega
/-- two lists, item by item -/
inductive PW2 {α β : Type} (r : α → β → Prop) : List α → List β → Prop
  | nil : PW2 r [] []
  | cons {a : α} {b : β} {as : List α} {bs : List β} : r a b → PW2 r as bs → PW2 r (a :: as) (b :: bs)
theorem PW2.length {α β : Type} {r : α → β → Prop} {as : List α} {bs : List β} (h : PW2 r as bs) : as.length = bs.length := by
  induction h with
  | nil => rfl
  | cons _ _ ih => rw [List.length_cons, List.length_cons, ih]
theorem kind_len {n : Int} {ts : List (Int × Int)} {k : Str} (h : WebOk n ts) : (kindT n ts k).length ≤ 800 := by
  have hn1 := h.n1
  have hn := h.n60
  have hl := h.len
  have : (kindT n ts k).length ≤ (allT n ts).length := by
    unfold kindT allT
    rw [List.length_append]
    split
    · omega
    · split
      · omega
      · rw [List.length_append]; omega
  have := allT_len (ts := ts) (show 0 ≤ n by omega)
  omega
/-- a rising list of places -/
structure LooksOk (n : Int) (ls : List Int) : Prop where
  rg : ∀ l ∈ ls, 0 ≤ l ∧ l < n
  up : ls.Pairwise (· < ·)
theorem LooksOk.len {n : Int} {ls : List Int} (h : LooksOk n ls) : ls.length ≤ n.toNat := by
  have := nodup_le (h.up.imp fun z => Int.ne_of_lt z) (ys := rng 0 n) fun v hv => rng_mem.mpr (h.rg v hv)
  rw [rng_length] at this
  omega
theorem kind3 {n : Int} {ts : List (Int × Int)} {k : Str} (hk : k = "places" ∨ k = "ties" ∨ k = "all") : mgetR (mmk ([(("places" : Str), (mkpl (rng 0 n))), (("ties" : Str), (mkti ts)), (("all" : Str), mkpl (rng 0 n) ++ mkti ts)] : List (Str × (List Thing)))) k = R.ok (kindT n ts k) := by
  rcases hk with rfl | rfl | rfl
  · rfl
  · rfl
  · rfl
theorem law_things_ok {n : Int} {ts : List (Int × Int)} {k : Str} (h : WebOk n ts) (hk : k = "places" ∨ k = "ties" ∨ k = "all") : law_things (n, ⟨ts⟩) k = R.ok (kindT n ts k) := by
  have hn1 := h.n1
  have hn := h.n60
  have hl := h.len
  refine po_iff ?_
  unfold law_things
  refine po_listRng (by decide) (by decide) (by show -(2 ^ 62) ≤ n; omega) (by show n < 2 ^ 62; omega) (by show (n - 0).toNat ≤ 100000; omega) (po_extend ?_ ?_)
  · show (mkpl (rng 0 n)).length + (mkti ts).length < 100000
    unfold mkpl mkti
    rw [List.length_map, List.length_map, rng_length]
    omega
  · show Post (mgetR (mmk ([(("places" : Str), (mkpl (rng 0 n))), (("ties" : Str), (mkti ts)), (("all" : Str), mkpl (rng 0 n) ++ mkti ts)] : List (Str × (List Thing)))) k >>= _) _ _
    rw [kind3 hk, ok_bind]
    rfl
noncomputable def codeT (n : Int) (ts : List (Int × Int)) (ls : List Int) (t : Thing) : List Int := ls.map fun l => farT n ts l t
theorem law_code_ok {n : Int} {ts : List (Int × Int)} {ls : List Int} {ds : List (FzD Int Int)} {t : Thing} (h : WebOk n ts) (hl : ls.length < 1000) (hd : PW2 (fun d l => ∀ v, 0 ≤ v → v < n → mget d.m v = some (dst n ts l v)) ds ls) (ht : ThOk n ts t) : law_code ds t = R.ok (Tup.mk (codeT n ts ls t)) := by
  have key : ∀ {f : FzD Int Int → R Int}, (∀ d l, (∀ v, 0 ≤ v → v < n → mget d.m v = some (dst n ts l v)) → f d = R.ok (farT n ts l t)) → mapR f ds = R.ok (codeT n ts ls t) := by
    intro f hf
    clear hl
    induction hd with
    | nil => rfl
    | cons h1 _ ih =>
      unfold mapR
      rw [hf _ _ h1, ok_bind, ih]
      rfl
  have hlen : ds.length < 100000 := by rw [hd.length]; omega
  have keyG : ∀ {f : FzD Int Int → R Int}, (∀ d l, (∀ v, 0 ≤ v → v < n → mget d.m v = some (dst n ts l v)) → f d = R.ok (farT n ts l t)) → mapG f ds = R.ok (codeT n ts ls t) := by
    intro f hf
    unfold mapG
    rw [grd_t (decide_eq_true hlen), ok_bind]
    exact key hf
  unfold law_code
  cases t with
  | pl i =>
    show (asPl (.pl i) >>= _) = _
    rw [show asPl (.pl i) = R.ok i from rfl, ok_bind]
    rw [keyG fun d l hd => by
      show (ofO (mget d.m i) >>= _) = _
      rw [hd i ht.1 ht.2, ofO_some]
      rfl]
    rfl
  | ti a b =>
    have hr := h.rg4 _ (show (a, b) ∈ ts from ht)
    show (asTi (.ti a b) >>= _) = _
    rw [show asTi (.ti a b) = R.ok (a, b) from rfl, ok_bind]
    rw [keyG fun d l hd => by
      show (ofO (mget d.m a) >>= fun t11 => ofO (mget d.m b) >>= _) = _
      rw [hd a hr.1 hr.2.1, hd b hr.2.2.1 hr.2.2.2, ofO_some, ofO_some]
      rfl]
    rfl
theorem law_codes_ok {n : Int} {ts : List (Int × Int)} {ls : List Int} {k : Str} (h : WebOk n ts) (hl : LooksOk n ls) (hk : k = "places" ∨ k = "ties" ∨ k = "all") : law_codes (n, ⟨ts⟩) ls k = R.ok ((kindT n ts k).map fun t => Tup.mk (codeT n ts ls t)) := by
  have hlen := hl.len
  have hn := h.n60
  have hkl := kind_len (k := k) h
  unfold law_codes
  rw [law_near_ok h, ok_bind]
  have hs : ∃ ds, mapR (fun (b6 : Int) => do
      let y9 ← law_steps (nears n ts) b6
      R.ok y9) ls = R.ok ds ∧ PW2 (fun d l => ∀ v, 0 ≤ v → v < n → mget d.m v = some (dst n ts l v)) ds ls := by
    have hrg := hl.rg
    clear hl hlen
    induction ls with
    | nil => exact ⟨[], rfl, .nil⟩
    | cons l ls ih =>
      obtain ⟨ds, e, hd⟩ := ih fun x hx => hrg x (List.mem_cons_of_mem _ hx)
      obtain ⟨d, e2, hd2⟩ := po_ex (steps_post h (hrg l List.mem_cons_self).1 (hrg l List.mem_cons_self).2)
      refine ⟨d :: ds, ?_, .cons hd2 hd⟩
      unfold mapR
      rw [e2, e]
      rfl
  obtain ⟨ds, e, hd⟩ := hs
  unfold mapG
  rw [grd_t (decide_eq_true (by omega)), ok_bind, e, ok_bind, law_things_ok h hk, ok_bind, grd_t (decide_eq_true (by omega)), ok_bind]
  rw [mapR_ok (g := fun t => Tup.mk (codeT n ts ls t)) fun t ht => by
    rw [law_code_ok h (by omega) hd (kindT_ok ht)]
    rfl]
  rfl
theorem looks_ok42 {s : List Int} {m : Int} (h : PoolOk s) (m0 : 0 ≤ m) (m1 : m < 10000) : Post (law_looks s m) (fun r => LooksOk m r.1 ∧ PoolOk r.2) noX := by
  unfold law_looks
  refine po_bind (take_ok h (by decide) (by decide)) fun y ⟨a0, a1, hy⟩ => po_rng (by decide) (by decide) (by omega) (by omega) ?_
  refine po_bind (Q := fun r => r.1.Sublist (rng 0 m) ∧ PoolOk r.2) ?_ fun r ⟨h1, h2⟩ => ⟨⟨fun l hl => rng_mem.mp (h1.subset hl), (rng_sorted 0 m).sublist h1⟩, h2⟩
  unfold filStG
  rw [grd_t (decide_eq_true (by rw [rng_length]; omega)), ok_bind]
  generalize rng 0 m = l
  clear h
  have key : ∀ (l : List Int) (s : List Int), PoolOk s → Post (filSt (fun (g4 : (List Int)) (b4 : Int) => do
      let y7 ← law_take g4 (6 : Int)
      let t10 ← getI ([(0 : Int), (1 : Int), (2 : Int), (3 : Int), (5 : Int), (6 : Int)] : (List Int)) y.1
      if (decide (y7.1 < t10)) = true then do
        R.ok ((some b4), y7.2)
      else
        R.ok (none, y7.2)) s l) (fun r => r.1.Sublist l ∧ PoolOk r.2) noX := by
    intro l
    induction l with
    | nil => exact fun s hs => ⟨List.Sublist.refl _, hs⟩
    | cons b l ih =>
      intro s hs
      refine po_bind (Q := fun p => (p.1 = some b ∨ p.1 = none) ∧ PoolOk p.2) (po_bind (take_ok hs (by decide) (by decide)) fun z ⟨_, _, hz⟩ => po_get a0 a1 fun t _ _ => po_if (fun _ => ⟨.inl rfl, hz⟩) fun _ => ⟨.inr rfl, hz⟩) fun p ⟨h1, h2⟩ => po_bind (ih p.2 h2) fun q ⟨h3, h4⟩ => ?_
      rcases h1 with h1 | h1
      · rw [h1]
        exact ⟨h3.cons₂ b, h4⟩
      · rw [h1]
        exact ⟨h3.cons b, h4⟩
  exact key l y.2 hy
/-- at how many places two codes are unlike -/
def unl (a b : List Int) : Int := (((a.zip b).filter fun p => !decide (p.1 = p.2)).length : Int)
abbrev Sd (n : Int) (ts : List (Int × Int)) (p s v : Int) : Prop := dst n ts v s + 1 = dst n ts v p
noncomputable def pieceL (n : Int) (ts : List (Int × Int)) (p s : Int) : List Int := (rng 0 n).filter fun v => decide (Sd n ts p s v)
theorem pieceL_mem {n : Int} {ts : List (Int × Int)} {p s v : Int} : v ∈ pieceL n ts p s ↔ (0 ≤ v ∧ v < n) ∧ Sd n ts p s v := by
  unfold pieceL
  rw [List.mem_filter, rng_mem, decide_eq_true_iff]
theorem side_adj {n : Int} {ts : List (Int × Int)} (t : TreeOk n ts) {p s u w : Int} (q : Adj ts p s) (hu : Sd n ts p s u) (qa : Adj ts u w) (hw : w ≠ p) : Sd n ts p s w := by
  have h := t.web
  obtain ⟨p0, p1, s0, s1, _⟩ := h.adj q
  obtain ⟨u0, u1, w0, w1, _⟩ := h.adj qa
  rcases edge_one t w0 w1 q with c | c
  · exfalso
    have := path_eq t q u0 u1 hu w0 w1 c
    have e1 := adj_one h qa
    have e2 := dst_nn h u0 u1 s0 s1
    have e3 := dst_nn h p0 p1 w0 w1
    unfold Sd at hu
    exact hw ((dst_zero h p0 p1 w0 w1).mp (by omega))
  · exact c
theorem side_self {n : Int} {ts : List (Int × Int)} (h : WebOk n ts) {p s : Int} (q : Adj ts p s) : Sd n ts p s s := by
  obtain ⟨p0, p1, s0, s1, _⟩ := h.adj q
  unfold Sd
  rw [dst_self h s0 s1, adj_one h q.symm]
  rfl
theorem side_not {n : Int} {ts : List (Int × Int)} (h : WebOk n ts) {p s : Int} (q : Adj ts p s) : ¬ Sd n ts p s p := by
  obtain ⟨p0, p1, s0, s1, _⟩ := h.adj q
  unfold Sd
  rw [dst_self h p0 p1, adj_one h q]
  decide
/-- what holds of a neighbour and goes from place to place beyond it holds of all of them -/
theorem side_ind {n : Int} {ts : List (Int × Int)} (t : TreeOk n ts) {p s : Int} (q : Adj ts p s) (S : Int → Prop) (h0 : S s) (hs : ∀ z v, S z → Adj ts z v → z ≠ p → v ≠ p → S v) : ∀ (m : Nat) (v : Int), (dst n ts s v).toNat ≤ m → 0 ≤ v → v < n → Sd n ts p s v → S v := by
  have h := t.web
  obtain ⟨p0, p1, s0, s1, _⟩ := h.adj q
  intro m
  induction m with
  | zero =>
    intro v hm v0 v1 _
    have := dst_nn h s0 s1 v0 v1
    have e : v = s := (dst_zero h s0 s1 v0 v1).mp (by omega)
    rw [e]
    exact h0
  | succ m ih =>
    intro v hm v0 v1 hv
    by_cases e : v = s
    · rw [e]; exact h0
    · obtain ⟨z, z0, z1, qz, ez⟩ := dst_near h s0 s1 v0 v1 e
      have hvp : v ≠ p := fun e => by rw [e] at hv; exact side_not h q hv
      have hzp : z ≠ p := fun e => by
        subst e
        have e1 := adj_one h q.symm
        have e2 := adj_one h qz.symm
        have e3 := dst_symm h s0 s1 v0 v1
        unfold Sd at hv
        omega
      exact hs z v (ih z (by omega) z0 z1 (side_adj t q hv qz.symm hzp)) qz hzp hvp
theorem piece_ok {n p s : Int} {ts : List (Int × Int)} (t : TreeOk n ts) (q : Adj ts p s) : piece_from (nears n ts) p s = R.ok (pieceL n ts p s) := by
  have h := t.web
  have hn1 := h.n1
  have hn := h.n60
  obtain ⟨p0, p1, s0, s1, hps⟩ := h.adj q
  refine po_iff ?_
  unfold piece_from
  have hk0 : ∀ v, v ∈ mkeys (mmk ([(p, true), (s, true)] : List (Int × Bool))) ↔ v = p ∨ v ∈ [s] := fun v => by
    show v ∈ mkeys (mput (mput ([] : List (Int × Bool)) p true) s true) ↔ _
    rw [mkeys_mput, mkeys_mput]
    show v ∈ (if s ∈ [p] then [p] else [p] ++ [s]) ↔ _
    rw [if_neg fun z => hps (List.mem_singleton.mp z).symm]
    simp
  refine po_bind (Q := fun g : Int × List Int × List (Int × Bool) => g.2.1.Nodup ∧ (∀ v, v ∈ g.2.1 ↔ (0 ≤ v ∧ v < n) ∧ Sd n ts p s v)) (po_while (fun g => 0 ≤ g.1 ∧ g.1 ≤ (g.2.1.length : Int) ∧ g.2.1.Nodup ∧ s ∈ g.2.1 ∧ (∀ v ∈ g.2.1, (0 ≤ v ∧ v < n) ∧ Sd n ts p s v) ∧ (∀ v, v ∈ mkeys g.2.2 ↔ v = p ∨ v ∈ g.2.1) ∧ g.2.2.length ≤ g.2.1.length + 1 ∧ ∀ i u, i < g.1.toNat → g.2.1[i]? = some u → ∀ w, Adj ts u w → w ∈ mkeys g.2.2) (fun g => n.toNat + 1 - g.1.toNat) ?_ (n := fu 1000) ?_ ?_) fun g ⟨g1, g2⟩ => ?_
  · rintro ⟨a, line, fd⟩ ⟨a0, a1, nd, hs, hm, hk, hl, hd⟩
    have a0' : 0 ≤ a := a0
    have a1' : a ≤ (line.length : Int) := a1
    have nd' : line.Nodup := nd
    have hs' : s ∈ line := hs
    have hm' : ∀ v ∈ line, (0 ≤ v ∧ v < n) ∧ Sd n ts p s v := hm
    have hk' : ∀ v, v ∈ mkeys fd ↔ v = p ∨ v ∈ line := hk
    have hl' : fd.length ≤ line.length + 1 := hl
    have hd' : ∀ i u, i < a.toNat → line[i]? = some u → ∀ w, Adj ts u w → w ∈ mkeys fd := hd
    clear a0 a1 nd hs hm hk hl hd
    have few : ∀ l : List Int, l.Nodup → (∀ v ∈ l, (0 ≤ v ∧ v < n) ∧ Sd n ts p s v) → l.length ≤ n.toNat := fun l h1 h2 => by
      have := nodup_le h1 (ys := rng 0 n) fun v hv => rng_mem.mpr (h2 v hv).1
      rw [rng_length] at this
      omega
    refine ⟨fun ht => ?_, fun hf => ?_⟩
    · have ht : a < (line.length : Int) := of_decide_eq_true ht
      refine po_get a0' ht fun u hu e2 => ?_
      have hu' := hm' u hu
      have hup : u ≠ p := fun e => by rw [e] at hu'; exact side_not h q hu'.2
      refine po_getE (nears_get hu'.1.1 hu'.1.2) ?_
      refine po_bind (po_foldP (fun pre (g : List Int × List (Int × Bool)) => (∃ more, g.1 = line ++ more) ∧ g.1.Nodup ∧ (∀ v ∈ g.1, (0 ≤ v ∧ v < n) ∧ Sd n ts p s v) ∧ (∀ v, v ∈ mkeys g.2 ↔ v = p ∨ v ∈ g.1) ∧ g.2.length ≤ g.1.length + 1 ∧ ∀ w ∈ pre, w ∈ mkeys g.2) ⟨⟨[], by rw [List.append_nil]⟩, nd', hm', hk', hl', fun _ h => nomatch h⟩ ?_) ?_
      · rintro pre ⟨ln, fd2⟩ w post ew ⟨⟨more, em⟩, k1, k2, k3, k4, k5⟩
        have em' : ln = line ++ more := em
        have k1' : ln.Nodup := k1
        have k2' : ∀ v ∈ ln, (0 ≤ v ∧ v < n) ∧ Sd n ts p s v := k2
        have k3' : ∀ v, v ∈ mkeys fd2 ↔ v = p ∨ v ∈ ln := k3
        have k4' : fd2.length ≤ ln.length + 1 := k4
        have k5' : ∀ w ∈ pre, w ∈ mkeys fd2 := k5
        clear em k1 k2 k3 k4 k5
        have hln := few ln k1' k2'
        have hw : w ∈ sortI (nbs ts u) := by rw [show sortI (nbs ts u) = pre ++ w :: post from ew]; simp
        have hw := nbs_mem.mp (sortI_mem.mp hw)
        obtain ⟨_, _, w0, w1, _⟩ := h.adj hw
        refine po_if (fun c => ?_) fun c => ?_
        · have hno : w ∉ mkeys fd2 := fun z => by
            rw [mhas_keys.mpr z] at c
            exact absurd c (by decide)
          have hwp : w ≠ p := fun e => hno ((k3' w).mpr (.inl e))
          have hwl : w ∉ ln := fun z => hno ((k3' w).mpr (.inr z))
          have hmk : mkeys (mput fd2 w true) = mkeys fd2 ++ [w] := by rw [mkeys_mput, if_neg hno]
          refine po_mput (by show fd2.length < 100000; omega) (po_app (by show ln.length < 100000; omega) ⟨⟨more ++ [w], ?_⟩, ?_, fun v hv => ?_, fun v => ?_, ?_, fun v hv => ?_⟩)
          · show ln ++ [w] = _
            rw [em', List.append_assoc]
          · refine List.nodup_append.mpr ⟨k1', List.nodup_cons.mpr ⟨by simp, List.nodup_nil⟩, fun x hx y hy e => ?_⟩
            rw [List.mem_singleton] at hy
            rw [hy] at e
            exact hwl (e ▸ hx)
          · rcases List.mem_append.mp hv with hv | hv
            · exact k2' v hv
            · rw [List.mem_singleton.mp hv]
              exact ⟨⟨w0, w1⟩, side_adj t q hu'.2 hw hwp⟩
          · show v ∈ mkeys (mput fd2 w true) ↔ v = p ∨ v ∈ ln ++ [w]
            rw [hmk, List.mem_append, List.mem_append, k3' v, or_assoc]
          · show (mput fd2 w true).length ≤ (ln ++ [w]).length + 1
            have := congrArg List.length hmk
            rw [mkeys_length, List.length_append, mkeys_length] at this
            rw [this, List.length_append]
            simp only [List.length_singleton]
            omega
          · show v ∈ mkeys (mput fd2 w true)
            rw [hmk]
            rcases List.mem_append.mp hv with hv | hv
            · exact List.mem_append_left _ (k5' v hv)
            · rw [List.mem_singleton.mp hv]
              simp
        · have hyes : w ∈ mkeys fd2 := by
            refine mhas_keys.mp ?_
            cases e : mhas fd2 w with
            | true => rfl
            | false => exact absurd (by rw [e]; rfl) c
          refine ⟨⟨more, em'⟩, k1', k2', k3', k4', fun v hv => ?_⟩
          rcases List.mem_append.mp hv with hv | hv
          · exact k5' v hv
          · rw [List.mem_singleton.mp hv]
            exact hyes
      · rintro ⟨ln, fd2⟩ ⟨⟨more, em⟩, k1, k2, k3, k4, k5⟩
        have em' : ln = line ++ more := em
        have k5' : ∀ w ∈ sortI (nbs ts u), w ∈ mkeys fd2 := k5
        have k3' : ∀ v, v ∈ mkeys fd2 ↔ v = p ∨ v ∈ ln := k3
        have hln := few ln k1 k2
        have hll : ln.length = line.length + more.length := by rw [em', List.length_append]
        refine ⟨⟨by show 0 ≤ a + 1; omega, by show a + 1 ≤ (ln.length : Int); omega, k1, ?_, k2, k3, k4, fun i v hi hv w qw => ?_⟩, ?_⟩
        · show s ∈ ln
          rw [em']
          exact List.mem_append_left _ hs'
        · show w ∈ mkeys fd2
          have hi' : i < (a + 1).toNat := hi
          have hv' : ln[i]? = some v := hv
          rw [em', List.getElem?_append_left (by omega)] at hv'
          by_cases hia : i < a.toNat
          · have := (hk' w).mp (hd' i v hia hv' w qw)
            refine (k3' w).mpr (this.imp id fun z => ?_)
            rw [em']
            exact List.mem_append_left _ z
          · have : i = a.toNat := by omega
            subst this
            rw [e2] at hv'
            cases hv'
            exact k5' w (sortI_mem.mpr (nbs_mem.mpr qw))
        · show n.toNat + 1 - (a + 1).toNat < n.toNat + 1 - a.toNat
          have := few line nd' hm'
          omega
    · have hf : ¬ a < (line.length : Int) := of_decide_eq_false hf
      have ea : a.toNat = line.length := by omega
      refine ⟨nd', fun v => ⟨hm' v, fun ⟨hv, hsd⟩ => ?_⟩⟩
      refine side_ind t q (fun v => v ∈ line) hs' (fun z v hz qz hzp hvp => ?_) _ v (Nat.le_refl _) hv.1 hv.2 hsd
      obtain ⟨i, hi, e⟩ := List.mem_iff_getElem.mp hz
      have := hd' i z (by omega) (by rw [List.getElem?_eq_getElem hi, e]) v qz
      exact ((hk' v).mp this).resolve_left hvp
  · refine ⟨Int.le_refl _, by show (0 : Int) ≤ ((1 : Nat) : Int); decide, List.nodup_cons.mpr ⟨by simp, List.nodup_nil⟩, List.mem_singleton.mpr rfl, fun v hv => ?_, hk0, ?_, fun i u hi => absurd hi (Nat.not_lt_zero _)⟩
    · rw [List.mem_singleton.mp hv]
      exact ⟨⟨s0, s1⟩, side_self h q⟩
    · have e : mkeys (mmk ([(p, true), (s, true)] : List (Int × Bool))) = [p] ++ [s] := by
        show mkeys (mput (mput ([] : List (Int × Bool)) p true) s true) = _
        rw [mkeys_mput, mkeys_mput]
        show (if s ∈ [p] then [p] else [p] ++ [s]) = _
        rw [if_neg fun z => hps (List.mem_singleton.mp z).symm]
      have := congrArg List.length e
      rw [mkeys_length] at this
      show (mmk ([(p, true), (s, true)] : List (Int × Bool))).length ≤ _
      rw [this]
      exact Nat.le_refl 2
  · rw [fu_eq]
    show n.toNat + 1 - 0 < 1000
    omega
  · show sortI g.2.1 = pieceL n ts p s
    refine (sortI_eq (perm_nodup ((rng_nodup 0 n).filter _) g1 fun x => ?_) (((rng_sorted 0 n).sublist List.filter_sublist).imp fun h => Int.le_of_lt h)).symm
    rw [g2 x]
    exact pieceL_mem
theorem all_near_ok {n : Int} {ts : List (Int × Int)} (h : WebOk n ts) : all_near (n, ⟨ts⟩) = R.ok (nears n ts) := by
  have hn1 := h.n1
  have hn := h.n60
  refine po_iff ?_
  unfold all_near
  refine po_rng (by decide) (by decide) (by show -(2 ^ 62) ≤ n; omega) (by show n < 2 ^ 62; omega) ?_
  refine po_mapGE (g := fun p => sortI (nbs ts p)) (by show (rng 0 n).length < 100000; rw [rng_length]; omega) (fun p hp => by rw [nbr_ok h (rng_mem.mp hp).1 (rng_mem.mp hp).2]; rfl) rfl
section
variable {n : Int} {ts : List (Int × Int)}
def isEnd (v : Int) : Thing → Prop
  | .pl i => i = v
  | .ti a b => a = v ∨ b = v
/-- v is the end of a thing that is the nearer one, from m -/
def NearEnd (n : Int) (ts : List (Int × Int)) (m v : Int) : Thing → Prop
  | .pl i => i = v
  | .ti a b => (a = v ∧ dst n ts m v + 1 = dst n ts m b) ∨ (b = v ∧ dst n ts m v + 1 = dst n ts m a)
theorem end_rg (h : WebOk n ts) {v : Int} {Y : Thing} (hY : ThOk n ts Y) (e : isEnd v Y) : 0 ≤ v ∧ v < n := by
  cases Y with
  | pl i =>
    have e' : i = v := e
    rw [← e']; exact hY
  | ti a b =>
    have hab : (a, b) ∈ ts := hY
    have := h.rg4 _ hab
    rcases (show a = v ∨ b = v from e) with e | e <;> rw [← e]
    · exact ⟨this.1, this.2.1⟩
    · exact this.2.2
theorem far_le {l v : Int} {Y : Thing} (e : isEnd v Y) : farT n ts l Y ≤ dst n ts l v := by
  cases Y with
  | pl i =>
    have e' : i = v := e
    rw [← e']; exact Int.le_refl _
  | ti a b =>
    show min2 (dst n ts l a) (dst n ts l b) ≤ _
    rcases (show a = v ∨ b = v from e) with e | e <;> rw [← e] <;> rcases mm_cases (dst n ts l a) (dst n ts l b) with ⟨w, _⟩ | ⟨w, _⟩ <;> rw [w] <;> omega
theorem near_end {m v : Int} {Y : Thing} (e : NearEnd n ts m v Y) : isEnd v Y := by
  cases Y with
  | pl i => exact e
  | ti a b => exact e.imp (fun z => z.1) fun z => z.1
end
section
variable {n : Int} {ts : List (Int × Int)} (t : TreeOk n ts)
include t
theorem far_out {m s v l : Int} {Y : Thing} (hY : ThOk n ts Y) (e : NearEnd n ts m v Y) (q : Adj ts m s) (hv : Sd n ts m s v) (l0 : 0 ≤ l) (l1 : l < n) (hl : dst n ts l m + 1 = dst n ts l s) : farT n ts l Y = dst n ts l m + dst n ts m v := by
  have h := t.web
  obtain ⟨m0, m1, s0, s1, _⟩ := h.adj q
  obtain ⟨v0, v1⟩ := end_rg h hY (near_end e)
  have p1 := path_eq t q v0 v1 hv l0 l1 hl
  rw [dst_symm h l0 l1 v0 v1, dst_symm h m0 m1 v0 v1, dst_symm h l0 l1 m0 m1] at p1
  have other : ∀ w, 0 ≤ w → w < n → Adj ts v w → dst n ts m v + 1 = dst n ts m w → dst n ts l w = dst n ts l m + dst n ts m v + 1 := fun w w0 w1 qw ew => by
    have hw : Sd n ts m s w := by
      rcases edge_one t w0 w1 q with c | c
      · exfalso
        have := path_eq t q v0 v1 hv w0 w1 c
        rw [adj_one h qw, dst_symm h m0 m1 v0 v1] at this
        unfold Sd at hv
        rw [dst_symm h m0 m1 v0 v1] at hv
        have := dst_nn h v0 v1 s0 s1
        omega
      · exact c
    have p2 := path_eq t q w0 w1 hw l0 l1 hl
    rw [dst_symm h l0 l1 w0 w1, dst_symm h m0 m1 w0 w1, dst_symm h l0 l1 m0 m1] at p2
    omega
  cases Y with
  | pl i =>
    have e' : i = v := e
    subst e'
    show dst n ts l i = _
    omega
  | ti a b =>
    have hab : (a, b) ∈ ts := hY
    have hr := h.rg4 _ hab
    show min2 (dst n ts l a) (dst n ts l b) = _
    rcases (show (a = v ∧ dst n ts m v + 1 = dst n ts m b) ∨ (b = v ∧ dst n ts m v + 1 = dst n ts m a) from e) with ⟨e1, e2⟩ | ⟨e1, e2⟩
    · subst e1
      have := other b hr.2.2.1 hr.2.2.2 (.inl hab) e2
      rcases mm_cases (dst n ts l a) (dst n ts l b) with ⟨w, _⟩ | ⟨w, _⟩ <;> rw [w] <;> omega
    · subst e1
      have := other a hr.1 hr.2.1 (.inr hab) e2
      rcases mm_cases (dst n ts l a) (dst n ts l b) with ⟨w, _⟩ | ⟨w, _⟩ <;> rw [w] <;> omega
theorem far_in {m s v l : Int} {Y : Thing} (hY : ThOk n ts Y) (e : isEnd v Y) (q : Adj ts m s) (hv : Sd n ts m s v) (l0 : 0 ≤ l) (l1 : l < n) (hl : Sd n ts m s l) : farT n ts l Y ≤ dst n ts l m + dst n ts m v - 2 := by
  have h := t.web
  obtain ⟨m0, m1, s0, s1, _⟩ := h.adj q
  obtain ⟨v0, v1⟩ := end_rg h hY e
  have e1 := far_le (n := n) (ts := ts) (l := l) e
  have e2 := dtri h l0 l1 s0 s1 v0 v1
  unfold Sd at hv hl
  rw [dst_symm h s0 s1 v0 v1, dst_symm h m0 m1 v0 v1] at hv
  omega
theorem near_of {u v m k : Int} {Y : Thing} (hY : ThOk n ts Y) (e : isEnd v Y) (u0 : 0 ≤ u) (u1 : u < n) (m0 : 0 ≤ m) (m1 : m < n) (hk : ∀ w, isEnd w Y → k ≤ dst n ts u w) (hm : dst n ts u m + dst n ts m v = k) : NearEnd n ts m v Y := by
  have h := t.web
  cases Y with
  | pl i => exact e
  | ti a b =>
    have hab : (a, b) ∈ ts := hY
    have hr := h.rg4 _ hab
    rcases (show a = v ∨ b = v from e) with e1 | e1
    · subst e1
      refine .inl ⟨rfl, ?_⟩
      rcases edge_one t m0 m1 (.inl hab : Adj ts a b) with c | c
      · exact c
      · exfalso
        have h1 := hk b (.inr rfl)
        have h2 := dtri h u0 u1 m0 m1 (c := b) hr.2.2.1 hr.2.2.2
        omega
    · subst e1
      refine .inr ⟨rfl, ?_⟩
      rcases edge_one t m0 m1 (.inr hab : Adj ts b a) with c | c
      · exact c
      · exfalso
        have h1 := hk a (.inl rfl)
        have h2 := dtri h u0 u1 m0 m1 (c := a) hr.1 hr.2.1
        omega
/-- a place has one neighbour alone towards another one -/
theorem side_one {m s s' l : Int} (l0 : 0 ≤ l) (l1 : l < n) (q : Adj ts m s) (q' : Adj ts m s') (h1 : Sd n ts m s l) (h2 : Sd n ts m s' l) : s = s' := near_uniq t l0 l1 q.symm q'.symm h1 h2
theorem not_side {m s l : Int} (l0 : 0 ≤ l) (l1 : l < n) (q : Adj ts m s) (h1 : ¬ Sd n ts m s l) : dst n ts l m + 1 = dst n ts l s := (edge_one t l0 l1 q).resolve_right h1
theorem parted {X Y : Thing} (hX : ThOk n ts X) (hY : ThOk n ts Y) (hne : X ≠ Y) :
    (∀ l, 0 ≤ l → l < n → farT n ts l X ≠ farT n ts l Y) ∨
    (∃ m s s', Adj ts m s ∧ Adj ts m s' ∧ s ≠ s' ∧ ∀ l, 0 ≤ l → l < n → Sd n ts m s l ∨ Sd n ts m s' l → farT n ts l X ≠ farT n ts l Y) ∨
    (∃ m s, Adj ts m s ∧ ((∃ i a b, X = .pl i ∧ Y = .ti a b) ∨ (∃ i a b, X = .ti a b ∧ Y = .pl i)) ∧ ∀ l, 0 ≤ l → l < n → Sd n ts m s l → farT n ts l X ≠ farT n ts l Y) := by
  have h := t.web
  -- the nearest ends
  have hex : ∀ Z : Thing, ∃ v, isEnd v Z := fun Z => by
    cases Z with
    | pl i => exact ⟨i, rfl⟩
    | ti a b => exact ⟨a, .inl rfl⟩
  obtain ⟨k, ⟨u, v, hu, hv, ek⟩, hmin⟩ := least (P := fun k : Nat => ∃ u v, isEnd u X ∧ isEnd v Y ∧ dst n ts u v = (k : Int)) (by
    obtain ⟨u, hu⟩ := hex X
    obtain ⟨v, hv⟩ := hex Y
    obtain ⟨u0, u1⟩ := end_rg h hX hu
    obtain ⟨v0, v1⟩ := end_rg h hY hv
    have := dst_nn h u0 u1 v0 v1
    exact ⟨(dst n ts u v).toNat, u, v, hu, hv, by omega⟩)
  obtain ⟨u0, u1⟩ := end_rg h hX hu
  obtain ⟨v0, v1⟩ := end_rg h hY hv
  have hmin' : ∀ u' v', isEnd u' X → isEnd v' Y → (k : Int) ≤ dst n ts u' v' := fun u' v' hu' hv' => by
    apply Classical.byContradiction
    intro hc
    obtain ⟨a0, a1⟩ := end_rg h hX hu'
    obtain ⟨b0, b1⟩ := end_rg h hY hv'
    have := dst_nn h a0 a1 b0 b1
    exact hmin (dst n ts u' v').toNat (by omega) ⟨u', v', hu', hv', by omega⟩
  have hminY : ∀ w, isEnd w Y → (k : Int) ≤ dst n ts u w := fun w hw => hmin' u w hu hw
  have hminX : ∀ w, isEnd w X → (k : Int) ≤ dst n ts v w := fun w hw => by
    obtain ⟨w0, w1⟩ := end_rg h hX hw
    rw [dst_symm h w0 w1 v0 v1]
    exact hmin' w v hw hv
  have ek' : dst n ts v u = (k : Int) := by rw [dst_symm h u0 u1 v0 v1]; exact ek
  obtain ⟨j, hj⟩ : ∃ j, k = 2 * j ∨ k = 2 * j + 1 := ⟨k / 2, by omega⟩
  rcases hj with hj | hj
  · by_cases j0 : j = 0
    · -- a common end
      have euv : v = u := (dst_zero h u0 u1 v0 v1).mp (by omega)
      subst euv
      cases X with
      | pl i =>
        have ei : i = v := hu
        subst ei
        cases Y with
        | pl i' =>
          have ei' : i' = i := hv
          subst ei'
          exact absurd rfl hne
        | ti a b =>
          have hab : (a, b) ∈ ts := hY
          have key : ∀ w, Adj ts i w → (∀ l, farT n ts l (.ti a b) = min2 (dst n ts l i) (dst n ts l w) ∨ farT n ts l (.ti a b) = min2 (dst n ts l w) (dst n ts l i)) → _ := fun w qw hf => (.inr (.inr ⟨i, w, qw, .inl ⟨i, a, b, rfl, rfl⟩, fun l l0 l1 hs => by
            unfold Sd at hs
            show dst n ts l i ≠ _
            rcases hf l with e | e <;> rw [e]
            · rcases mm_cases (dst n ts l i) (dst n ts l w) with ⟨z, _⟩ | ⟨z, _⟩ <;> rw [z] <;> omega
            · rcases mm_cases (dst n ts l w) (dst n ts l i) with ⟨z, _⟩ | ⟨z, _⟩ <;> rw [z] <;> omega⟩) : (∀ l, 0 ≤ l → l < n → farT n ts l (.pl i) ≠ farT n ts l (.ti a b)) ∨
    (∃ m s s', Adj ts m s ∧ Adj ts m s' ∧ s ≠ s' ∧ ∀ l, 0 ≤ l → l < n → Sd n ts m s l ∨ Sd n ts m s' l → farT n ts l (.pl i) ≠ farT n ts l (.ti a b)) ∨
    (∃ m s, Adj ts m s ∧ ((∃ i' a' b', Thing.pl i = .pl i' ∧ Thing.ti a b = .ti a' b') ∨ (∃ i' a' b', Thing.pl i = .ti a' b' ∧ Thing.ti a b = .pl i')) ∧ ∀ l, 0 ≤ l → l < n → Sd n ts m s l → farT n ts l (.pl i) ≠ farT n ts l (.ti a b)))
          rcases (show a = i ∨ b = i from hv) with e | e
          · subst e
            exact key b (.inl hab) fun l => .inl rfl
          · subst e
            exact key a (.inr hab) fun l => .inr rfl
      | ti a b =>
        have hab : (a, b) ∈ ts := hX
        cases Y with
        | pl i =>
          have ei : i = v := hv
          subst ei
          rcases (show a = i ∨ b = i from hu) with e | e
          · subst e
            refine .inr (.inr ⟨a, b, .inl hab, .inr ⟨a, a, b, rfl, rfl⟩, fun l l0 l1 hs => ?_⟩)
            unfold Sd at hs
            show min2 (dst n ts l a) (dst n ts l b) ≠ dst n ts l a
            rcases mm_cases (dst n ts l a) (dst n ts l b) with ⟨z, _⟩ | ⟨z, _⟩ <;> rw [z] <;> omega
          · subst e
            refine .inr (.inr ⟨b, a, .inr hab, .inr ⟨b, a, b, rfl, rfl⟩, fun l l0 l1 hs => ?_⟩)
            unfold Sd at hs
            show min2 (dst n ts l a) (dst n ts l b) ≠ dst n ts l b
            rcases mm_cases (dst n ts l a) (dst n ts l b) with ⟨z, _⟩ | ⟨z, _⟩ <;> rw [z] <;> omega
        | ti c d =>
          have hcd : (c, d) ∈ ts := hY
          have far2 : ∀ x y l, (x, y) ∈ ts → ∀ w, (x = v ∧ y = w) ∨ (y = v ∧ x = w) → Adj ts v w ∧ ((farT n ts l (.ti x y) = dst n ts l v ∨ farT n ts l (.ti x y) = dst n ts l w) ∧ farT n ts l (.ti x y) ≤ dst n ts l v ∧ farT n ts l (.ti x y) ≤ dst n ts l w) := fun x y l hxy w e => by
            show _ ∧ ((min2 (dst n ts l x) (dst n ts l y) = _ ∨ min2 (dst n ts l x) (dst n ts l y) = _) ∧ min2 (dst n ts l x) (dst n ts l y) ≤ _ ∧ min2 (dst n ts l x) (dst n ts l y) ≤ _)
            rcases e with ⟨e1, e2⟩ | ⟨e1, e2⟩
            · rw [← e1, ← e2]
              refine ⟨.inl hxy, ?_⟩
              rcases mm_cases (dst n ts l x) (dst n ts l y) with ⟨z, _⟩ | ⟨z, _⟩ <;> rw [z] <;> omega
            · rw [← e1, ← e2]
              refine ⟨.inr hxy, ?_⟩
              rcases mm_cases (dst n ts l x) (dst n ts l y) with ⟨z, _⟩ | ⟨z, _⟩ <;> rw [z] <;> omega
          obtain ⟨w, hw⟩ : ∃ w, (a = v ∧ b = w) ∨ (b = v ∧ a = w) := (show a = v ∨ b = v from hu).elim (fun z => ⟨b, .inl ⟨z, rfl⟩⟩) fun z => ⟨a, .inr ⟨z, rfl⟩⟩
          obtain ⟨w', hw'⟩ : ∃ w', (c = v ∧ d = w') ∨ (d = v ∧ c = w') := (show c = v ∨ d = v from hv).elim (fun z => ⟨d, .inl ⟨z, rfl⟩⟩) fun z => ⟨c, .inr ⟨z, rfl⟩⟩
          have q1 := (far2 a b v hab w hw).1
          have q2 := (far2 c d v hcd w' hw').1
          have r1 := h.rg _ hab
          have r2 := h.rg _ hcd
          have hww : w ≠ w' := fun e => by
            refine hne ?_
            have : a = c ∧ b = d := by
              dsimp only at r1 r2
              omega
            rw [this.1, this.2]
          refine .inr (.inl ⟨v, w, w', q1, q2, hww, fun l l0 l1 hs => ?_⟩)
          have f1 := (far2 a b l hab w hw).2
          have f2 := (far2 c d l hcd w' hw').2
          have g1 : Sd n ts v w l ∨ dst n ts l v + 1 = dst n ts l w := (edge_one t l0 l1 q1).symm
          have g2 : Sd n ts v w' l ∨ dst n ts l v + 1 = dst n ts l w' := (edge_one t l0 l1 q2).symm
          have g3 : ¬ (Sd n ts v w l ∧ Sd n ts v w' l) := fun z => hww (side_one t l0 l1 q1 q2 z.1 z.2)
          unfold Sd at g1 g2 g3 hs
          omega
    · -- a place in the middle
      obtain ⟨m, m0, m1, e1, e2⟩ := mid_ex t u0 u1 v0 v1 j (by omega)
      have hmu : m ≠ u := fun e => by
        subst e
        have := dst_self h m0 m1
        omega
      have hmv : m ≠ v := fun e => by
        subst e
        have := dst_self h m0 m1
        omega
      obtain ⟨s, s0, s1, qs, es⟩ := dst_near h u0 u1 m0 m1 hmu
      obtain ⟨s', s0', s1', qs', es'⟩ := dst_near h v0 v1 m0 m1 hmv
      have e2' : dst n ts v m = (j : Int) := by rw [dst_symm h m0 m1 v0 v1]; exact e2
      have e1' : dst n ts m u = (j : Int) := by rw [dst_symm h u0 u1 m0 m1]; omega
      have hss : s ≠ s' := fun e => by
        subst e
        have := dtri h u0 u1 s0 s1 v0 v1
        rw [dst_symm h v0 v1 s0 s1] at this
        omega
      have nY := near_of t (m := m) hY hv u0 u1 m0 m1 hminY (by omega)
      have nX := near_of t (m := m) hX hu v0 v1 m0 m1 hminX (by omega)
      have sv : Sd n ts m s' v := es'
      have su : Sd n ts m s u := es
      refine .inr (.inl ⟨m, s, s', qs.symm, qs'.symm, hss, fun l l0 l1 hs => ?_⟩)
      rcases hs with hs | hs
      · have hn : ¬ Sd n ts m s' l := fun z => hss (side_one t l0 l1 qs.symm qs'.symm hs z)
        have f1 := far_in t hX hu qs.symm su l0 l1 hs
        have f2 := far_out t hY nY qs'.symm sv l0 l1 (not_side t l0 l1 qs'.symm hn)
        omega
      · have hn : ¬ Sd n ts m s l := fun z => hss (side_one t l0 l1 qs.symm qs'.symm z hs)
        have f1 := far_in t hY hv qs'.symm sv l0 l1 hs
        have f2 := far_out t hX nX qs.symm su l0 l1 (not_side t l0 l1 qs.symm hn)
        omega
  · -- a tie in the middle
    obtain ⟨p, p0, p1, e1, e2⟩ := mid_ex t u0 u1 v0 v1 (j + 1) (by omega)
    have hpv : p ≠ v := fun e => by
      subst e
      have := dst_self h p0 p1
      omega
    obtain ⟨q, q0, q1, qq, eq⟩ := dst_near h v0 v1 p0 p1 hpv
    have e2' : dst n ts v p = (j : Int) + 1 := by rw [dst_symm h p0 p1 v0 v1]; omega
    have e1' : dst n ts u p = (j : Int) := by omega
    have t1 := dtri h u0 u1 q0 q1 v0 v1
    rw [dst_symm h v0 v1 q0 q1] at t1
    have t2 := dst_lip h u0 u1 qq.symm
    have euq : dst n ts u q = (j : Int) + 1 := by omega
    have evq : dst n ts v q = (j : Int) := by omega
    have nY := near_of t (m := p) hY hv u0 u1 p0 p1 hminY (by omega)
    have nX := near_of t (m := q) hX hu v0 v1 q0 q1 hminX (by rw [dst_symm h u0 u1 q0 q1]; omega)
    refine .inl fun l l0 l1 => ?_
    rcases edge_one t l0 l1 qq.symm with c | c
    · have f2 := far_out t hY nY qq.symm (show dst n ts v q + 1 = dst n ts v p by omega) l0 l1 c
      have f1 := far_le (n := n) (ts := ts) (l := l) hu
      have f3 := dtri h l0 l1 p0 p1 u0 u1
      rw [dst_symm h u0 u1 p0 p1] at f3
      omega
    · have f2 := far_out t hX nX qq (show dst n ts u p + 1 = dst n ts u q by omega) l0 l1 c
      have f1 := far_le (n := n) (ts := ts) (l := l) hv
      have f3 := dtri h l0 l1 q0 q1 v0 v1
      rw [dst_symm h v0 v1 q0 q1] at f3
      rw [dst_symm h u0 u1 q0 q1] at f2
      omega
end
theorem fil_mono {α : Type} {p r : α → Bool} : ∀ {xs : List α}, (∀ x ∈ xs, p x = true → r x = true) → (xs.filter p).length ≤ (xs.filter r).length
  | [], _ => Nat.le_refl _
  | x :: xs, h => by
    have ih := fil_mono fun y hy => h y (List.mem_cons_of_mem _ hy)
    rw [List.filter_cons, List.filter_cons]
    by_cases c : p x = true
    · rw [if_pos c, if_pos (h x List.mem_cons_self c), List.length_cons, List.length_cons]
      omega
    · rw [if_neg c]
      split
      · rw [List.length_cons]; omega
      · exact ih
theorem fil_or {α : Type} {p q : α → Bool} : ∀ {xs : List α}, (∀ x ∈ xs, ¬ (p x = true ∧ q x = true)) → (xs.filter fun x => p x || q x).length = (xs.filter p).length + (xs.filter q).length
  | [], _ => rfl
  | x :: xs, h => by
    have ih := fil_or fun y hy => h y (List.mem_cons_of_mem _ hy)
    have hx := h x List.mem_cons_self
    rw [List.filter_cons, List.filter_cons, List.filter_cons]
    cases ep : p x <;> cases eq : q x
    · exact ih
    · show _ + 1 = _ + (_ + 1)
      rw [ih]
      rfl
    · show _ + 1 = _ + 1 + (xs.filter q).length
      rw [ih]
      omega
    · exact absurd ⟨ep, eq⟩ hx
section
variable {n : Int} {ts : List (Int × Int)} {ls : List Int}
/-- how many looks lie beyond a neighbour -/
noncomputable def cnt (n : Int) (ts : List (Int × Int)) (ls : List Int) (m s : Int) : Int := ((ls.filter fun l => decide (Sd n ts m s l)).length : Int)
theorem cnt_nn {m s : Int} : 0 ≤ cnt n ts ls m s := by unfold cnt; omega
theorem unl_code {X Y : Thing} : unl (codeT n ts ls X) (codeT n ts ls Y) = ((ls.filter fun l => !decide (farT n ts l X = farT n ts l Y)).length : Int) := by
  unfold unl codeT
  rw [List.zip_map', List.filter_map, List.length_map]
  rfl
theorem unl_all {X Y : Thing} (hl : LooksOk n ls) (h : ∀ l, 0 ≤ l → l < n → farT n ts l X ≠ farT n ts l Y) : unl (codeT n ts ls X) (codeT n ts ls Y) = (ls.length : Int) := by
  rw [unl_code]
  congr 2
  refine List.filter_eq_self.mpr fun l hm => ?_
  rw [decide_eq_false (h l (hl.rg l hm).1 (hl.rg l hm).2)]
  rfl
theorem cnt_one_le {m s : Int} {X Y : Thing} (hl : LooksOk n ls) (h : ∀ l, 0 ≤ l → l < n → Sd n ts m s l → farT n ts l X ≠ farT n ts l Y) : cnt n ts ls m s ≤ unl (codeT n ts ls X) (codeT n ts ls Y) := by
  rw [unl_code]
  unfold cnt
  have := fil_mono (xs := ls) (p := fun l => decide (Sd n ts m s l)) (r := fun l => !decide (farT n ts l X = farT n ts l Y)) fun l hm hs => by
    rw [decide_eq_false (h l (hl.rg l hm).1 (hl.rg l hm).2 (of_decide_eq_true hs))]
    rfl
  omega
theorem cnt_one_eq {m s : Int} {X Y : Thing} (hl : LooksOk n ls) (h : ∀ l, 0 ≤ l → l < n → (Sd n ts m s l ↔ farT n ts l X ≠ farT n ts l Y)) : unl (codeT n ts ls X) (codeT n ts ls Y) = cnt n ts ls m s := by
  rw [unl_code]
  unfold cnt
  congr 2
  refine List.filter_congr fun l hm => ?_
  have := h l (hl.rg l hm).1 (hl.rg l hm).2
  by_cases c : farT n ts l X = farT n ts l Y
  · rw [decide_eq_true c, decide_eq_false fun z => this.mp z c]
    rfl
  · rw [decide_eq_false c, decide_eq_true (this.mpr c)]
    rfl
end
section
variable {n : Int} {ts : List (Int × Int)} {ls : List Int} (t : TreeOk n ts) (hl : LooksOk n ls)
include t hl
theorem cnt_sum {m s s' : Int} (q : Adj ts m s) (q' : Adj ts m s') (hne : s ≠ s') : cnt n ts ls m s + cnt n ts ls m s' = ((ls.filter fun l => decide (Sd n ts m s l) || decide (Sd n ts m s' l)).length : Int) := by
  unfold cnt
  rw [fil_or fun l hm z => hne (side_one t (hl.rg l hm).1 (hl.rg l hm).2 q q' (of_decide_eq_true z.1) (of_decide_eq_true z.2))]
  omega
theorem cnt_two_le {m s s' : Int} {X Y : Thing} (q : Adj ts m s) (q' : Adj ts m s') (hne : s ≠ s') (h : ∀ l, 0 ≤ l → l < n → Sd n ts m s l ∨ Sd n ts m s' l → farT n ts l X ≠ farT n ts l Y) : cnt n ts ls m s + cnt n ts ls m s' ≤ unl (codeT n ts ls X) (codeT n ts ls Y) := by
  rw [cnt_sum t hl q q' hne, unl_code]
  have := fil_mono (xs := ls) (p := fun l => decide (Sd n ts m s l) || decide (Sd n ts m s' l)) (r := fun l => !decide (farT n ts l X = farT n ts l Y)) fun l hm hs => by
    rw [Bool.or_eq_true, decide_eq_true_iff, decide_eq_true_iff] at hs
    rw [decide_eq_false (h l (hl.rg l hm).1 (hl.rg l hm).2 hs)]
    rfl
  omega
theorem cnt_two_eq {m s s' : Int} {X Y : Thing} (q : Adj ts m s) (q' : Adj ts m s') (hne : s ≠ s') (h : ∀ l, 0 ≤ l → l < n → (Sd n ts m s l ∨ Sd n ts m s' l ↔ farT n ts l X ≠ farT n ts l Y)) : unl (codeT n ts ls X) (codeT n ts ls Y) = cnt n ts ls m s + cnt n ts ls m s' := by
  rw [cnt_sum t hl q q' hne, unl_code]
  congr 2
  refine List.filter_congr fun l hm => ?_
  have := h l (hl.rg l hm).1 (hl.rg l hm).2
  by_cases c : farT n ts l X = farT n ts l Y
  · rw [decide_eq_true c, decide_eq_false fun z => this.mp (.inl z) c, decide_eq_false fun z => this.mp (.inr z) c]
    rfl
  · rw [decide_eq_false c]
    rcases this.mpr c with z | z
    · rw [decide_eq_true z]; rfl
    · rw [decide_eq_true z, Bool.or_true]; rfl
omit t hl
/-- the tie of two neighbours -/
def tieT (m s : Int) : Thing := .ti (min2 m s) (max2 m s)
theorem tieT_ok (h : WebOk n ts) {m s : Int} (q : Adj ts m s) : ThOk n ts (tieT m s) := by
  show (min2 m s, max2 m s) ∈ ts
  rcases q with q | q
  · have := h.rg _ q
    rcases mm_cases m s with ⟨w1, w2, w3⟩ | ⟨w1, w2, w3⟩ <;> rw [w1, w2]
    · exact q
    · dsimp only at this; omega
  · have := h.rg _ q
    rcases mm_cases m s with ⟨w1, w2, w3⟩ | ⟨w1, w2, w3⟩ <;> rw [w1, w2]
    · dsimp only at this; omega
    · exact q
theorem tieT_far {m s l : Int} : farT n ts l (tieT m s) ≤ dst n ts l m ∧ farT n ts l (tieT m s) ≤ dst n ts l s ∧ (farT n ts l (tieT m s) = dst n ts l m ∨ farT n ts l (tieT m s) = dst n ts l s) := by
  show min2 (dst n ts l (min2 m s)) (dst n ts l (max2 m s)) ≤ _ ∧ min2 (dst n ts l (min2 m s)) (dst n ts l (max2 m s)) ≤ _ ∧ (min2 (dst n ts l (min2 m s)) (dst n ts l (max2 m s)) = _ ∨ min2 (dst n ts l (min2 m s)) (dst n ts l (max2 m s)) = _)
  rcases mm_cases m s with ⟨w1, w2, _⟩ | ⟨w1, w2, _⟩ <;> rw [w1, w2]
  · rcases mm_cases (dst n ts l m) (dst n ts l s) with ⟨w, _⟩ | ⟨w, _⟩ <;> rw [w] <;> omega
  · rcases mm_cases (dst n ts l s) (dst n ts l m) with ⟨w, _⟩ | ⟨w, _⟩ <;> rw [w] <;> omega
theorem tieT_inj {m s s' : Int} (h : tieT m s = tieT m s') (h1 : m ≠ s) (h2 : m ≠ s') : s = s' := by
  unfold tieT at h
  injection h with a b
  rcases mm_cases m s with ⟨w1, w2, _⟩ | ⟨w1, w2, _⟩ <;> rcases mm_cases m s' with ⟨w1', w2', _⟩ | ⟨w1', w2', _⟩ <;> rw [w1, w1'] at a <;> rw [w2, w2'] at b <;> omega
include t
theorem sides {m s l : Int} (l0 : 0 ≤ l) (l1 : l < n) (q : Adj ts m s) : (Sd n ts m s l ∧ dst n ts l s + 1 = dst n ts l m) ∨ (¬ Sd n ts m s l ∧ dst n ts l m + 1 = dst n ts l s) := by
  rcases edge_one t l0 l1 q with c | c
  · exact .inr ⟨fun z => by unfold Sd at z; omega, c⟩
  · exact .inl ⟨c, c⟩
theorem parts_places {m s s' l : Int} (l0 : 0 ≤ l) (l1 : l < n) (q : Adj ts m s) (q' : Adj ts m s') (hne : s ≠ s') : Sd n ts m s l ∨ Sd n ts m s' l ↔ farT n ts l (.pl s) ≠ farT n ts l (.pl s') := by
  show _ ↔ dst n ts l s ≠ dst n ts l s'
  have h1 := sides t l0 l1 q
  have h2 := sides t l0 l1 q'
  have h3 : ¬ (Sd n ts m s l ∧ Sd n ts m s' l) := fun z => hne (side_one t l0 l1 q q' z.1 z.2)
  rcases h1 with ⟨a, b⟩ | ⟨a, b⟩ <;> rcases h2 with ⟨c, d⟩ | ⟨c, d⟩
  · exact absurd ⟨a, c⟩ h3
  · exact ⟨fun _ => by omega, fun _ => .inl a⟩
  · exact ⟨fun _ => by omega, fun _ => .inr c⟩
  · exact ⟨fun z => absurd z (fun z => z.elim a c), fun z => by omega⟩
theorem parts_ties {m s s' l : Int} (l0 : 0 ≤ l) (l1 : l < n) (q : Adj ts m s) (q' : Adj ts m s') (hne : s ≠ s') : Sd n ts m s l ∨ Sd n ts m s' l ↔ farT n ts l (tieT m s) ≠ farT n ts l (tieT m s') := by
  have h1 := sides t l0 l1 q
  have h2 := sides t l0 l1 q'
  have h3 : ¬ (Sd n ts m s l ∧ Sd n ts m s' l) := fun z => hne (side_one t l0 l1 q q' z.1 z.2)
  have f1 := tieT_far (n := n) (ts := ts) (m := m) (s := s) (l := l)
  have f2 := tieT_far (n := n) (ts := ts) (m := m) (s := s') (l := l)
  rcases h1 with ⟨a, b⟩ | ⟨a, b⟩ <;> rcases h2 with ⟨c, d⟩ | ⟨c, d⟩
  · exact absurd ⟨a, c⟩ h3
  · exact ⟨fun _ => by omega, fun _ => .inl a⟩
  · exact ⟨fun _ => by omega, fun _ => .inr c⟩
  · exact ⟨fun z => absurd z (fun z => z.elim a c), fun z => by omega⟩
theorem parts_both {m s l : Int} (l0 : 0 ≤ l) (l1 : l < n) (q : Adj ts m s) : Sd n ts m s l ↔ farT n ts l (.pl m) ≠ farT n ts l (tieT m s) := by
  show _ ↔ dst n ts l m ≠ _
  have h1 := sides t l0 l1 q
  have f1 := tieT_far (n := n) (ts := ts) (m := m) (s := s) (l := l)
  rcases h1 with ⟨a, b⟩ | ⟨a, b⟩
  · exact ⟨fun _ => by omega, fun _ => a⟩
  · exact ⟨fun z => absurd z a, fun z => by omega⟩
omit t
include t hl
omit hl
/-- three places: one of them, or another one, has two neighbours -/
theorem fork_ex (n3 : 3 ≤ n) : ∃ m s s', Adj ts m s ∧ Adj ts m s' ∧ s ≠ s' := by
  have h := t.web
  have far : ∀ x y, 0 ≤ x → x < n → 0 ≤ y → y < n → 2 ≤ dst n ts x y → ∃ m s s', Adj ts m s ∧ Adj ts m s' ∧ s ≠ s' := fun x y x0 x1 y0 y1 hd => by
    have hyx : y ≠ x := fun e => by
      subst e
      have := dst_self h y0 y1
      omega
    obtain ⟨z, z0, z1, qz, ez⟩ := dst_near h x0 x1 y0 y1 hyx
    have hzx : z ≠ x := fun e => by
      subst e
      have := dst_self h z0 z1
      omega
    obtain ⟨w, w0, w1, qw, ew⟩ := dst_near h x0 x1 z0 z1 hzx
    exact ⟨z, y, w, qz, qw.symm, fun e => by subst e; omega⟩
  by_cases c1 : 2 ≤ dst n ts 0 1
  · exact far 0 1 (by omega) (by omega) (by omega) (by omega) c1
  by_cases c2 : 2 ≤ dst n ts 0 2
  · exact far 0 2 (by omega) (by omega) (by omega) (by omega) c2
  have adj : ∀ y, 0 < y → y < n → ¬ 2 ≤ dst n ts 0 y → Adj ts 0 y := fun y y0 y1 hc => by
    have e1 := dst_nn h (p := 0) (v := y) (by omega) (by omega) (by omega) y1
    have e2 : dst n ts 0 y ≠ 0 := fun z => by
      have := (dst_zero h (p := 0) (v := y) (by omega) (by omega) (by omega) y1).mp z
      omega
    exact (dst_one h (by omega) (by omega) (by omega) y1).mp (by omega)
  exact ⟨0, 1, 2, adj 1 (by omega) (by omega) c1, adj 2 (by omega) (by omega) c2, by decide⟩
theorem nb_ex (n2 : 2 ≤ n) {m : Int} (m0 : 0 ≤ m) (m1 : m < n) : ∃ s, Adj ts m s := by
  have h := t.web
  obtain ⟨v, v0, v1, hv⟩ : ∃ v, 0 ≤ v ∧ v < n ∧ m ≠ v := by
    by_cases c : m = 0
    · exact ⟨1, by omega, by omega, by omega⟩
    · exact ⟨0, by omega, by omega, c⟩
  obtain ⟨w, _, _, q, _⟩ := dst_near h v0 v1 m0 m1 hv
  exact ⟨w, q.symm⟩
end
theorem kind_pl {n : Int} {ts : List (Int × Int)} : kindT n ts "places" = mkpl (rng 0 n) := rfl
theorem kind_ti {n : Int} {ts : List (Int × Int)} : kindT n ts "ties" = mkti ts := rfl
theorem kind_all {n : Int} {ts : List (Int × Int)} : kindT n ts "all" = allT n ts := rfl
theorem asked_ok {n : Int} {ts : List (Int × Int)} (h : (ts.length : Int) = n - 1) : tree_asked (n, ⟨ts⟩) = R.ok () := by
  show (if (!decide ((ts.length : Int) = n - 1)) = true then (R.bad : R Unit) else R.ok ()) = _
  rw [decide_eq_true h]
  rfl
theorem po_ssL {δ : Type} {xs : List Int} {f : List Int → R δ} {S : δ → Prop} {X : Exn → Prop} (hl : xs.length < 64) (hk : Post (f (ssI xs)) S X) : Post (ssR xs >>= f) S X := by
  have h2 : (nub xs).length < 64 := Nat.lt_of_le_of_lt (nodup_le (nub_nodup xs) fun x hx => nub_mem.mp hx) hl
  unfold ssR
  rw [decide_eq_true (show xs.length < 4000 by omega), decide_eq_true h2]
  exact hk
theorem rising_asked_ok {n : Int} {t : Tup (Int × Int)} {ls : List Int} (h : LooksOk n ls) (hl : ls.length < 64) : rising_asked (n, t) ls = R.ok () := by
  refine po_iff ?_
  unfold rising_asked
  have e : ls = ssI ls := ssI_uniq h.up fun k => by rw [decide_eq_true_iff]
  refine po_bind (Q := fun j => j = false) (po_ssL hl (po_if (fun c => ?_) fun _ => ?_)) fun j hj => ?_
  · rw [decide_eq_true e] at c
    exact absurd c (by decide)
  · refine po_mapGE (g := fun _ => true) (by omega) (fun l hm => ?_) ?_
    · rw [decide_eq_true (h.rg l hm).1, decide_eq_true (show l < (n, t).1 from (h.rg l hm).2)]
      rfl
    · have : ((ls.map fun _ => true).all id) = true := by
        rw [List.all_eq_true]
        intro x hx
        obtain ⟨_, _, rfl⟩ := List.mem_map.mp hx
        rfl
      show (!(ls.map fun _ => true).all id) = false
      rw [this]
      rfl
  · subst hj
    exact rfl
theorem nb_adj {n p : Int} {ts : List (Int × Int)} {s : Int} : s ∈ sortI (nbs ts p) ↔ Adj ts p s := by
  rw [sortI_mem, nbs_mem]
theorem nb_nodup {n p : Int} {ts : List (Int × Int)} (h : WebOk n ts) : (sortI (nbs ts p)).Nodup := (sortI_perm _).nodup_iff.mpr (nbs_nodup h.nd (fun q hq => (h.rg q hq).2.1) p)
theorem nb_len {n p : Int} {ts : List (Int × Int)} (h : WebOk n ts) : (sortI (nbs ts p)).length ≤ 60 := by
  have := nbs_len_n h p
  have hn := h.n60
  rw [(sortI_perm _).length_eq]
  omega
theorem pieces_by_ok {n p : Int} {ts : List (Int × Int)} (t : TreeOk n ts) (p0 : 0 ≤ p) (p1 : p < n) : pieces_by (nears n ts) p = R.ok ((sortI (nbs ts p)).map (pieceL n ts p)) := by
  have hl := nb_len (p := p) t.web
  unfold pieces_by
  rw [nears_get p0 p1, ok_bind, mapG_ok (g := pieceL n ts p) (by omega) fun s hs => by rw [piece_ok t ((nb_adj (n := n)).mp hs)]; rfl]
  rfl
theorem looks_in_ok {n p : Int} {ts : List (Int × Int)} {ls : List Int} (t : TreeOk n ts) (hl : LooksOk n ls) (p0 : 0 ≤ p) (p1 : p < n) : looks_in (nears n ts) p ls = R.ok ((sortI (nbs ts p)).map (cnt n ts ls p)) := by
  have hll := hl.len
  have hn := t.web.n60
  have hnl := nb_len (p := p) t.web
  refine po_iff ?_
  unfold looks_in
  rw [pieces_by_ok t p0 p1, ok_bind]
  have key : ∀ s, (do
      let l9 ← filG (fun (b9 : Int) => do
          if (inB b9 (pieceL n ts p s)) = true then do
            R.ok (some b9)
          else
            R.ok none) ls
      R.ok (l9.length : Int)) = R.ok (cnt n ts ls p s) := fun s => by
    refine po_iff (po_filGE (g := fun l => if decide (Sd n ts p s l) = true then some l else none) (by omega) (fun l hm => ?_) ?_)
    · have hb : inB l (pieceL n ts p s) = decide (Sd n ts p s l) := by
        by_cases c : Sd n ts p s l
        · rw [decide_eq_true c]
          exact inB_t.mpr (pieceL_mem.mpr ⟨hl.rg l hm, c⟩)
        · rw [decide_eq_false c]
          cases e : inB l (pieceL n ts p s) with
          | false => rfl
          | true => exact absurd (pieceL_mem.mp (inB_t.mp e)).2 c
      rw [hb]
      by_cases c : decide (Sd n ts p s l) = true
      · rw [if_pos c, if_pos c]
      · rw [if_neg c, if_neg c]
    · rw [fil_ite]
      rfl
  have e2 : ∀ S : List Int, S.length < 1000 → mapG (fun (b5 : (List Int)) => do
      let l9 ← filG (fun (b9 : Int) => do
          if (inB b9 b5) = true then do
            R.ok (some b9)
          else
            R.ok none) ls
      R.ok (l9.length : Int)) (S.map (pieceL n ts p)) = R.ok (S.map (cnt n ts ls p)) := fun S hS => by
    unfold mapG
    rw [grd_t (decide_eq_true (by rw [List.length_map]; omega)), ok_bind]
    clear hS
    induction S with
    | nil => rfl
    | cons s S ih =>
      rw [List.map_cons, List.map_cons]
      unfold mapR
      rw [key s, ok_bind, ih]
      rfl
  rw [e2 _ (by omega), ok_bind]
  exact rfl
/-- of a web of one place, and of the tie of two -/
theorem kind_few {n : Int} {ts : List (Int × Int)} {k : Str} (t : TreeOk n ts) (h : n = 1 ∨ n = 2 ∧ k = "ties") : (kindT n ts k).length ≤ 1 := by
  have hl := t.len
  have hn1 := t.web.n1
  have h1 : (mkpl (rng 0 n)).length = n.toNat := by unfold mkpl; rw [List.length_map, rng_length]; omega
  have h2 : (mkti ts).length = ts.length := by unfold mkti; rw [List.length_map]
  rcases h with h | ⟨h, rfl⟩
  · unfold kindT
    split
    · omega
    · split
      · omega
      · unfold allT
        rw [List.length_append]
        omega
  · rw [kind_ti]
    omega
theorem zip_self {α β : Type} (f : α → β) (xs : List α) : xs.zip (xs.map f) = xs.map fun x => (x, f x) := by
  induction xs with
  | nil => rfl
  | cons x xs ih => rw [List.map_cons, List.zip_cons_cons, ih]; rfl
theorem po_foldXu {α ρ : Type} {f : Unit → α → R (Sum ρ (Bool × Unit))} {P : ρ → Prop} {N : α → Prop} {X : Exn → Prop} : ∀ {xs : List α}, (∀ b ∈ xs, Post (f () b) (fun r => (∃ z, r = .inl z ∧ P z) ∨ (r = .inr (true, ()) ∧ N b)) X) → Post (foldX f () xs) (fun r => (∃ z, r = .inl z ∧ P z) ∨ (r = .inr () ∧ ∀ b ∈ xs, N b)) X
  | [], _ => .inr ⟨rfl, fun _ h => nomatch h⟩
  | x :: xs, hf => by
    refine po_bind (hf x List.mem_cons_self) fun r hr => ?_
    rcases hr with ⟨z, rfl, hz⟩ | ⟨rfl, hn⟩
    · exact .inl ⟨z, rfl, hz⟩
    · refine Post.mono (po_foldXu fun b hb => hf b (List.mem_cons_of_mem _ hb)) (fun r hr => hr.imp id fun ⟨e, h⟩ => ⟨e, fun b hb => ?_⟩) fun _ z => z
      rcases List.mem_cons.mp hb with rfl | hb
      · exact hn
      · exact h b hb
theorem at_tie {m s : Int} : tie_of m s = R.ok (min2 m s, max2 m s) := rfl
theorem unl_zero {n : Int} {ts : List (Int × Int)} {ls : List Int} {X Y : Thing} : unl (codeT n ts ls X) (codeT n ts ls Y) = 0 ↔ codeT n ts ls X = codeT n ts ls Y := by
  rw [unl_code]
  constructor
  · intro h
    have e : ls.filter (fun l => !decide (farT n ts l X = farT n ts l Y)) = [] := List.eq_nil_of_length_eq_zero (by omega)
    unfold codeT
    refine List.map_congr_left fun l hm => ?_
    apply Classical.byContradiction
    intro hne
    have : l ∈ ls.filter (fun l => !decide (farT n ts l X = farT n ts l Y)) := List.mem_filter.mpr ⟨hm, by rw [decide_eq_false hne]; rfl⟩
    rw [e] at this
    cases this
  · intro h
    have hf : ∀ l ∈ ls, farT n ts l X = farT n ts l Y := List.map_inj_left.mp h
    have : ls.filter (fun l => !decide (farT n ts l X = farT n ts l Y)) = [] := List.filter_eq_nil_iff.mpr fun l hm => by
      rw [decide_eq_true (hf l hm)]
      decide
    rw [this]
    rfl
/-- two things of one kind that have one code -/
def Alike (n : Int) (ts : List (Int × Int)) (ls : List Int) (k : Str) (z : Tup Thing) : Prop := ∃ X ∈ kindT n ts k, ∃ Y ∈ kindT n ts k, X ≠ Y ∧ z = ⟨[X, Y]⟩ ∧ codeT n ts ls X = codeT n ts ls Y
theorem likes_at_ok {n p : Int} {ts : List (Int × Int)} {ls : List Int} {k : Str} (t : TreeOk n ts) (hl : LooksOk n ls) (hk : k = "places" ∨ k = "ties" ∨ k = "all") (p0 : 0 ≤ p) (p1 : p < n) : Post (likes_at (nears n ts) p ls k) (fun o => (o = none → (k = "all" → ∀ s, Adj ts p s → cnt n ts ls p s ≠ 0) ∧ (k ≠ "all" → ∀ s s', Adj ts p s → Adj ts p s' → s ≠ s' → ¬ (cnt n ts ls p s = 0 ∧ cnt n ts ls p s' = 0))) ∧ ∀ z, o = some z → Alike n ts ls k z) noX := by
  have h := t.web
  have hnl := nb_len (p := p) h
  unfold likes_at
  rw [nears_get p0 p1, ok_bind, looks_in_ok t hl p0 p1, ok_bind, zip_self]
  have hzl : ((sortI (nbs ts p)).map fun s => (s, cnt n ts ls p s)).length ≤ 60 := by rw [List.length_map]; exact hnl
  refine po_filGE (g := fun b : Int × Int => if decide (b.2 = (0 : Int)) = true then some b.1 else none) (by omega) (fun b _ => by
    by_cases c : decide (b.2 = (0 : Int)) = true
    · rw [if_pos c, if_pos c]
    · rw [if_neg c, if_neg c]) ?_
  have eB : (((sortI (nbs ts p)).map fun s => (s, cnt n ts ls p s)).filterMap fun b : Int × Int => if decide (b.2 = (0 : Int)) = true then some b.1 else none) = (sortI (nbs ts p)).filter fun s => decide (cnt n ts ls p s = 0) := by
    rw [List.filterMap_map]
    exact fil_ite _ _
  rw [eB]
  generalize hB : (sortI (nbs ts p)).filter (fun s => decide (cnt n ts ls p s = 0)) = B
  have hm : ∀ s, s ∈ B ↔ Adj ts p s ∧ cnt n ts ls p s = 0 := fun s => by
    rw [← hB, List.mem_filter, nb_adj (n := n), decide_eq_true_iff]
  have hd : B.Nodup := hB ▸ (nb_nodup (n := n) h).filter _
  have two : 1 < B.length → ∃ s s', getI B 0 = R.ok s ∧ getI B 1 = R.ok s' ∧ s ≠ s' ∧ (Adj ts p s ∧ cnt n ts ls p s = 0) ∧ (Adj ts p s' ∧ cnt n ts ls p s' = 0) := fun hB2 => by
    match B, hB2, hm, hd with
    | s :: s' :: B', _, hm, hd =>
      exact ⟨s, s', getI_eq (by decide) rfl, getI_eq (by decide) rfl, fun e => (List.nodup_cons.mp hd).1 (by rw [e]; exact List.mem_cons_self), (hm s).mp List.mem_cons_self, (hm s').mp (List.mem_cons_of_mem _ List.mem_cons_self)⟩
  refine po_if (fun c => ?_) fun c => po_if (fun c2 => ?_) fun c2 => po_if (fun c3 => ?_) fun c3 => ?_
  · rw [Bool.and_eq_true, decide_eq_true_iff, decide_eq_true_iff] at c
    obtain ⟨rfl, c⟩ := c
    refine po_get (by decide) c fun s hs _ => ?_
    obtain ⟨q, ec⟩ := (hm s).mp hs
    rw [at_tie, ok_bind]
    refine ⟨fun z => (nomatch z), fun z hz => ?_⟩
    cases hz
    refine ⟨.pl p, ?_, tieT p s, ?_, (fun e => by unfold tieT at e; cases e), rfl, unl_zero.mp ?_⟩
    · rw [kind_all]; exact allT_mem.mpr ⟨p0, p1⟩
    · rw [kind_all]; exact allT_mem.mpr (tieT_ok h q)
    · rw [cnt_one_eq hl fun l l0 l1 => parts_both t l0 l1 q, ec]
  · rw [Bool.and_eq_true, decide_eq_true_iff, decide_eq_true_iff] at c2
    obtain ⟨rfl, c2⟩ := c2
    obtain ⟨s, s', e0, e1, hne, ⟨q, ec⟩, q', ec'⟩ := two (by omega)
    refine po_getE e0 ?_
    rw [at_tie, ok_bind]
    refine po_getE e1 ?_
    rw [at_tie, ok_bind]
    refine ⟨fun z => (nomatch z), fun z hz => ?_⟩
    cases hz
    refine ⟨tieT p s, ?_, tieT p s', ?_, fun e => hne (tieT_inj e (h.adj q).2.2.2.2 (h.adj q').2.2.2.2), rfl, unl_zero.mp ?_⟩
    · rw [kind_ti]; exact ti_mem.mpr ⟨_, _, rfl, tieT_ok h q⟩
    · rw [kind_ti]; exact ti_mem.mpr ⟨_, _, rfl, tieT_ok h q'⟩
    · rw [cnt_two_eq t hl q q' hne fun l l0 l1 => parts_ties t l0 l1 q q' hne, ec, ec']
      rfl
  · rw [Bool.and_eq_true, decide_eq_true_iff, decide_eq_true_iff] at c3
    obtain ⟨rfl, c3⟩ := c3
    obtain ⟨s, s', e0, e1, hne, ⟨q, ec⟩, q', ec'⟩ := two (by omega)
    refine po_getE e0 (po_getE e1 ?_)
    refine ⟨fun z => (nomatch z), fun z hz => ?_⟩
    cases hz
    have a := h.adj q
    have b := h.adj q'
    refine ⟨.pl s, ?_, .pl s', ?_, fun e => by cases e; exact hne rfl, rfl, unl_zero.mp ?_⟩
    · rw [kind_pl]; exact pl_mem.mpr ⟨_, rfl, a.2.2.1, a.2.2.2.1⟩
    · rw [kind_pl]; exact pl_mem.mpr ⟨_, rfl, b.2.2.1, b.2.2.2.1⟩
    · rw [cnt_two_eq t hl q q' hne fun l l0 l1 => parts_places t l0 l1 q q' hne, ec, ec']
      rfl
  · have few : k ≠ "all" → ¬ 1 < B.length := fun ka hB2 => by
      rcases hk with rfl | rfl | z
      · exact c3 (by rw [Bool.and_eq_true, decide_eq_true_iff, decide_eq_true_iff]; exact ⟨rfl, by omega⟩)
      · exact c2 (by rw [Bool.and_eq_true, decide_eq_true_iff, decide_eq_true_iff]; exact ⟨rfl, by omega⟩)
      · exact ka z
    refine ⟨fun _ => ⟨fun ka s q ec => ?_, fun ka s s' q q' hne z => few ka ?_⟩, fun z hz => nomatch hz⟩
    · have := List.length_pos_of_mem ((hm s).mpr ⟨q, ec⟩)
      exact c (by rw [Bool.and_eq_true, decide_eq_true_iff, decide_eq_true_iff]; exact ⟨ka, by omega⟩)
    · have := nodup_le (xs := [s, s']) (ys := B) (by simp [hne]) fun x hx => by
        rcases List.mem_cons.mp hx with rfl | hx
        · exact (hm _).mpr ⟨q, z.1⟩
        · rw [List.mem_singleton.mp hx]
          exact (hm _).mpr ⟨q', z.2⟩
      exact this
theorem few_no {α : Type} {xs : List α} {x y : α} (hx : x ∈ xs) (hy : y ∈ xs) (h : xs.length ≤ 1) : x = y := by
  match xs, hx, hy, h with
  | [a], hx, hy, _ => rw [List.mem_singleton.mp hx, List.mem_singleton.mp hy]
theorem likes_tree {n : Int} {ts : List (Int × Int)} {ls : List Int} {k : Str} (t : TreeOk n ts) (hl : LooksOk n ls) (hk : k = "places" ∨ k = "ties" ∨ k = "all") : ∃ o, tree_likes (n, ⟨ts⟩) ls k = R.ok o ∧ (o = none → ∀ X ∈ kindT n ts k, ∀ Y ∈ kindT n ts k, X ≠ Y → codeT n ts ls X ≠ codeT n ts ls Y) ∧ ∀ z, o = some z → Alike n ts ls k z := by
  have h := t.web
  have hn1 := h.n1
  have hn := h.n60
  have hll := hl.len
  refine po_ex ?_
  unfold tree_likes
  rw [asked_ok t.len, ok_bind, rising_asked_ok hl (by omega), ok_bind]
  refine po_if (fun c => ?_) fun c => ?_
  · rw [Bool.and_eq_true, Bool.and_eq_true, decide_eq_true_iff, decide_eq_true_iff, decide_eq_true_iff] at c
    obtain ⟨c1, rfl, c2⟩ := c
    have c1' : n = 2 := c1
    have e : ls = [] := List.eq_nil_of_length_eq_zero (by omega)
    subst e
    refine ⟨fun z => (nomatch z), fun z hz => ?_⟩
    cases hz
    refine ⟨.pl 0, ?_, .pl 1, ?_, (fun e => by cases e), rfl, rfl⟩
    · rw [kind_pl]; exact pl_mem.mpr ⟨0, rfl, by omega, by omega⟩
    · rw [kind_pl]; exact pl_mem.mpr ⟨1, rfl, by omega, by omega⟩
  · rw [all_near_ok h, ok_bind]
    refine po_rng (by decide) (by decide) (by show -(2 ^ 62) ≤ n; omega) (by show n < 2 ^ 62; omega) ?_
    refine po_bind (po_foldXu (P := fun o : Option (Tup Thing) => ∃ z, o = some z ∧ Alike n ts ls k z) (N := fun p => (k = "all" → ∀ s, Adj ts p s → cnt n ts ls p s ≠ 0) ∧ (k ≠ "all" → ∀ s s', Adj ts p s → Adj ts p s' → s ≠ s' → ¬ (cnt n ts ls p s = 0 ∧ cnt n ts ls p s' = 0))) fun p hp => ?_) fun r hr => ?_
    · obtain ⟨p0, p1⟩ := rng_mem.mp hp
      refine po_bind (likes_at_ok t hl hk p0 p1) fun o ⟨o1, o2⟩ => ?_
      cases o with
      | none => exact .inr ⟨rfl, o1 rfl⟩
      | some z => exact .inl ⟨some z, rfl, z, rfl, o2 z rfl⟩
    · rcases hr with ⟨o, rfl, z, rfl, hz⟩ | ⟨rfl, hno⟩
      · refine ⟨fun w => (nomatch w), fun w hw => ?_⟩
        cases hw
        exact hz
      · refine ⟨fun _ X hX Y hY hne he => ?_, fun w hw => (nomatch hw)⟩
        have hno' : ∀ m s, Adj ts m s → (k = "all" → ∀ s, Adj ts m s → cnt n ts ls m s ≠ 0) ∧ (k ≠ "all" → ∀ s s', Adj ts m s → Adj ts m s' → s ≠ s' → ¬ (cnt n ts ls m s = 0 ∧ cnt n ts ls m s' = 0)) := fun m s q => by
          obtain ⟨m0, m1, _⟩ := h.adj q
          exact hno m (rng_mem.mpr ⟨m0, m1⟩)
        have hu := unl_zero.mpr he
        rcases parted t (kindT_ok hX) (kindT_ok hY) hne with c' | ⟨m, s, s', q, q', hss, c'⟩ | ⟨m, s, q, c1, c'⟩
        · have e : ls = [] := by
            rw [unl_all hl c'] at hu
            exact List.eq_nil_of_length_eq_zero (by omega)
          subst e
          have hc0 : ∀ m s, cnt n ts [] m s = 0 := fun _ _ => rfl
          by_cases n1 : n = 1 ∨ n = 2 ∧ k = "ties"
          · exact hne (few_no hX hY (kind_few t n1))
          · by_cases ka : k = "all"
            · obtain ⟨s, q⟩ := nb_ex t (show 2 ≤ n by omega) (m := 0) (by omega) (by omega)
              exact (hno' 0 s q).1 ka s q (hc0 _ _)
            · have n3 : 3 ≤ n := by
                apply Classical.byContradiction
                intro z
                have n2 : n = 2 := by omega
                rcases hk with rfl | rfl | w
                · exact c (by rw [Bool.and_eq_true, Bool.and_eq_true, decide_eq_true_iff, decide_eq_true_iff, decide_eq_true_iff]; exact ⟨n2, rfl, rfl⟩)
                · exact n1 (.inr ⟨n2, rfl⟩)
                · exact ka w
              obtain ⟨m, s, s', q, q', hss⟩ := fork_ex t n3
              exact (hno' m s q).2 ka s s' q q' hss ⟨hc0 _ _, hc0 _ _⟩
        · have e1 := cnt_two_le t hl q q' hss c'
          have e2 := cnt_nn (n := n) (ts := ts) (ls := ls) (m := m) (s := s)
          have e3 := cnt_nn (n := n) (ts := ts) (ls := ls) (m := m) (s := s')
          by_cases ka : k = "all"
          · exact (hno' m s q).1 ka s q (by omega)
          · exact (hno' m s q).2 ka s s' q q' hss ⟨by omega, by omega⟩
        · have e1 := cnt_one_le hl c'
          have e2 := cnt_nn (n := n) (ts := ts) (ls := ls) (m := m) (s := s)
          have ka : k = "all" := by
            rcases hk with rfl | rfl | w
            · rw [kind_pl] at hX hY
              obtain ⟨i, rfl, _⟩ := pl_mem.mp hX
              obtain ⟨j, rfl, _⟩ := pl_mem.mp hY
              rcases c1 with ⟨_, _, _, _, e⟩ | ⟨_, _, _, e, _⟩ <;> cases e
            · rw [kind_ti] at hX hY
              obtain ⟨a, b, rfl, _⟩ := ti_mem.mp hX
              obtain ⟨c, d, rfl, _⟩ := ti_mem.mp hY
              rcases c1 with ⟨_, _, _, e, _⟩ | ⟨_, _, _, _, e⟩ <;> cases e
            · exact w
          exact (hno' m s q).1 ka s q (by omega)
theorem fidx_ex {α : Type} [DecidableEq α] {y : α} : ∀ {xs : List α}, y ∈ xs → ∃ j, fidx y xs = some j
  | [], h => nomatch h
  | x :: xs, h => by
    unfold fidx
    by_cases e : x = y
    · rw [if_pos e]
      exact ⟨_, rfl⟩
    · rw [if_neg e]
      rcases List.mem_cons.mp h with rfl | h
      · exact absurd rfl e
      · obtain ⟨j, hj⟩ := fidx_ex h
        rw [hj]
        exact ⟨_, rfl⟩
theorem idx_at {α : Type} [DecidableEq α] {y : α} {xs : List α} (h : y ∈ xs) : ∃ j : Nat, idxR xs y = R.ok (j : Int) ∧ xs[j]? = some y := by
  obtain ⟨j, e⟩ := fidx_ex h
  refine ⟨j, ?_, (fidx_spec e).1⟩
  unfold idxR
  rw [e]
  rfl
theorem kind119 {n : Int} {ts : List (Int × Int)} {k : Str} (t : TreeOk n ts) : (kindT n ts k).length < 200 := by
  have h := t.web
  have hn1 := h.n1
  have hn := h.n60
  have hl := t.len
  unfold kindT
  split
  · unfold mkpl
    rw [List.length_map, rng_length]
    omega
  · split
    · unfold mkti
      rw [List.length_map]
      omega
    · unfold allT mkpl mkti
      rw [List.length_append, List.length_map, List.length_map, rng_length]
      omega
theorem kind_nd {n : Int} {ts : List (Int × Int)} {k : Str} (h : WebOk n ts) : (kindT n ts k).Nodup := by
  have h1 : (mkpl (rng 0 n)).Nodup := List.pairwise_map.mpr ((rng_nodup 0 n).imp fun hne z => hne (by injection z))
  have h2 : (mkti ts).Nodup := by
    refine List.pairwise_map.mpr (h.nd.imp fun {a b} hne z => hne ?_)
    injection z with z1 z2
    exact Prod.ext z1 z2
  unfold kindT
  split
  · exact h1
  · split
    · exact h2
    · unfold allT
      rw [List.nodup_append]
      refine ⟨h1, h2, fun a ha b hb e => ?_⟩
      obtain ⟨i, rfl, _⟩ := pl_mem.mp ha
      obtain ⟨c, d, rfl, _⟩ := ti_mem.mp hb
      cases e
theorem right_ok {n : Int} {ts : List (Int × Int)} {ls : List Int} {k : Str} (t : TreeOk n ts) (hl : LooksOk n ls) (hk : k = "places" ∨ k = "ties" ∨ k = "all") : law_right (n, ⟨ts⟩) ls k = .ok true := by
  have h := t.web
  have kl := kind119 (k := k) t
  obtain ⟨o, eo, o1, o2⟩ := likes_tree t hl hk
  refine po_iff ?_
  unfold law_right
  rw [eo, ok_bind, law_codes_ok h hl hk, ok_bind]
  refine po_bind (Q := fun j => j = false) (po_if (fun c => ?_) fun _ => ?_) fun j hj => ?_
  · rw [decide_eq_true rfl] at c
    cases c
  · rw [ok_bind]
    show (!decide (o = o)) = false
    rw [decide_eq_true rfl]
    rfl
  · subst hj
    refine po_if (fun c => absurd c (by decide)) fun _ => ?_
    cases o with
    | none =>
      refine po_if (fun _ => ?_) fun c => absurd rfl c
      have hu : okU ((kindT n ts k).map fun t => Tup.mk (codeT n ts ls t)) = true := by
        unfold okU
        rw [Bool.and_eq_true, decide_eq_true_eq, decide_eq_true_eq]
        refine ⟨List.pairwise_map.mpr ((kind_nd h).imp_of_mem fun {a b} ha hb hne z => o1 rfl a ha b hb hne (by injection z)), ?_⟩
        rw [List.length_map]
        omega
      unfold setLenU
      rw [if_pos hu, ok_bind]
      exact decide_eq_true rfl
    | some z =>
      refine po_if (fun c => absurd (show (false : Bool) = true from c) (by decide)) fun _ => ?_
      obtain ⟨X, hX, Y, hY, hne, ez, he⟩ := o2 z rfl
      have g0 : getI z.l 0 = R.ok X := by rw [ez]; exact getI_eq (by decide) rfl
      have g1 : getI z.l 1 = R.ok Y := by rw [ez]; exact getI_eq (by decide) rfl
      have el : z.l = [X, Y] := by rw [ez]
      refine po_ofO rfl ?_
      rw [law_things_ok h hk, ok_bind]
      refine po_bind (Q := fun j => j = false) (po_if (fun c => absurd c (by decide)) fun _ => po_if (fun c => ?_) fun _ => po_getE g0 (po_getE g1 (decide_eq_false hne))) fun j hj => ?_
      · rw [el] at c
        exact absurd c (by show ¬ (!decide (((2 : Nat) : Int) = 2)) = true; decide)
      · subst hj
        refine po_if (fun c => absurd c (by decide)) fun _ => ?_
        refine po_bind (po_foldX (fun _ => True) trivial fun _ b _ hb => ?_) fun r ⟨_, e, _⟩ => ?_
        · have hb' : b ∈ kindT n ts k := by
            rw [el] at hb
            rcases List.mem_cons.mp hb with rfl | hb
            · exact hX
            · rw [List.mem_singleton.mp hb]; exact hY
          refine po_bind (Q := fun j => j = false) (po_if (fun c => ?_) fun _ => po_if (fun c => ?_) fun _ => rfl) fun j hj => ?_
          · rw [inB_t.mpr hb'] at c
            cases c
          · cases b <;> simp [Thing.isPl] at c
          · subst hj
            exact ⟨_, rfl, trivial⟩
        · rw [e]
          obtain ⟨i, i1, i2⟩ := idx_at hX
          obtain ⟨j, j1, j2⟩ := idx_at hY
          have gi : getI ((kindT n ts k).map fun t => Tup.mk (codeT n ts ls t)) (i : Int) = R.ok (Tup.mk (codeT n ts ls X)) := getI_eq (by omega) (by rw [Int.toNat_natCast, List.getElem?_map, i2]; rfl)
          have gj : getI ((kindT n ts k).map fun t => Tup.mk (codeT n ts ls t)) (j : Int) = R.ok (Tup.mk (codeT n ts ls Y)) := getI_eq (by omega) (by rw [Int.toNat_natCast, List.getElem?_map, j2]; rfl)
          have em : mapG (fun (b48 : Thing) => do
              let t52 ← idxR (kindT n ts k) b48
              let t53 ← getI ((kindT n ts k).map fun t => Tup.mk (codeT n ts ls t)) t52
              R.ok t53) z.l = R.ok [Tup.mk (codeT n ts ls X), Tup.mk (codeT n ts ls Y)] := by
            rw [el]
            show mapG _ [X, Y] = _
            unfold mapG
            rw [grd_t (decide_eq_true (by show 2 < 100000; decide)), ok_bind]
            unfold mapR
            rw [i1, ok_bind, gi, ok_bind, ok_bind]
            unfold mapR
            rw [j1, ok_bind, gj, ok_bind, ok_bind]
            rfl
          show Post (mapG _ z.l >>= _) _ _
          rw [em, ok_bind]
          refine po_getE (x := Tup.mk (codeT n ts ls X)) rfl (po_getE (x := Tup.mk (codeT n ts ls Y)) rfl ?_)
          exact decide_eq_true (by rw [he])
theorem law_ends_ok {n : Int} {ts : List (Int × Int)} (h : WebOk n ts) : Post (law_ends (n, ⟨ts⟩)) (fun r => LooksOk n r) noX := by
  have hn1 := h.n1
  have hn := h.n60
  have hlen := h.len
  unfold law_ends
  refine po_rng (by decide) (by decide) (by show -(2 ^ 62) ≤ n; omega) (by show n < 2 ^ 62; omega) ?_
  refine po_filGE (g := fun v => if decide (((ts.filter fun q => inB v ([q.1, q.2] : List Int)).length : Int) = 1) = true then some v else none) (by show (rng 0 n).length < 100000; rw [rng_length]; omega) (fun v _ => ?_) ?_
  · refine po_iff (po_filGE (g := fun q : Int × Int => if inB v ([q.1, q.2] : List Int) = true then some q else none) (by show ts.length < 100000; omega) (fun q _ => by
      by_cases c : inB v ([q.1, q.2] : List Int) = true
      · rw [if_pos c, if_pos c]
      · rw [if_neg c, if_neg c]) ?_)
    rw [fil_ite]
    by_cases c : decide (((ts.filter fun q => inB v ([q.1, q.2] : List Int)).length : Int) = 1) = true
    · rw [if_pos c]
      exact (if_pos c).symm
    · rw [if_neg c]
      exact (if_neg c).symm
  · rw [fil_ite]
    exact ⟨fun l hm => rng_mem.mp (List.mem_filter.mp hm).1, (rng_sorted 0 n).sublist List.filter_sublist⟩
theorem cut_from {α : Type} (xs : List α) (k : Nat) : cutL xs (some (k : Int)) none = xs.drop k := by
  unfold cutL
  have e0 : HT.sIx xs.length 0 (some (k : Int)) = min k xs.length := HT.sIx_nat xs.length 0 k
  have e : HT.sIx xs.length xs.length none = xs.length := rfl
  rw [e, e0]
  by_cases h : k ≤ xs.length
  · rw [Nat.min_eq_left h, List.take_of_length_le (by rw [List.length_drop]; exact Nat.le_refl _)]
  · rw [Nat.min_eq_right (by omega), List.drop_of_length_le (Nat.le_refl _), List.drop_of_length_le (by omega), List.take_nil]
theorem less_ok {n : Int} {L : List Int} (h : LooksOk n L) (k : Nat) : LooksOk n (L.take k ++ L.drop (k + 1)) := by
  have hs : (L.take k ++ L.drop (k + 1)).Sublist L := by
    have h1 : (L.take k ++ L.drop (k + 1)).Sublist (L.take k ++ L.drop k) := List.Sublist.append_left (by rw [show L.drop (k + 1) = (L.drop k).drop 1 by rw [List.drop_drop]]; exact List.drop_sublist _ _) _
    rwa [List.take_append_drop] at h1
  exact ⟨fun l hm => h.rg l (hs.subset hm), h.up.sublist hs⟩
theorem pick2 {c : Bool} {a b : Int} : ∃ t, getI ([a, b] : List Int) (b2i c) = R.ok t ∧ (t = a ∨ t = b) := by
  cases c with
  | true => exact ⟨b, rfl, .inr rfl⟩
  | false => exact ⟨a, rfl, .inl rfl⟩
theorem law_true (ns : List Int) (h : ns.length ≤ 63) : law ⟨ns⟩ = R.ok true := by
  refine po_iff ?_
  unfold law
  refine po_bind (cells_ok (m := 4) h (by decide) (by decide)) fun y2 hy2 => ?_
  have hm : 0 ≤ max2 1 (y2.length : Int) ∧ max2 1 (y2.length : Int) ≤ 4 := by
    rcases mm_cases 1 (y2.length : Int) with ⟨_, w, _⟩ | ⟨_, w, _⟩ <;> rw [w] <;> omega
  refine po_rng (by decide) (by decide) (by omega) (by omega) ?_
  refine po_bind (po_foldX (fun _ => True) trivial fun s x _ hx => ?_) fun r ⟨s, e, _⟩ => ?_
  · obtain ⟨k0, k1⟩ := rng_mem.mp hx
    refine po_bind (pool_ok k0 (by omega) (by omega)) fun y7 h7 => ?_
    refine po_bind (take_ok h7 (by decide) (by decide)) fun y12 ⟨_, _, h12⟩ => ?_
    obtain ⟨t13, e13, c13⟩ := pick2 (c := decide (y12.1 = 0)) (a := 24) (b := 60)
    refine po_getE e13 ?_
    refine po_bind (tree_ok h12 (by omega) (by omega)) fun y14 ⟨ht, _, p14⟩ => ?_
    obtain ⟨⟨n, ⟨ts⟩⟩, q14⟩ := y14
    have ht' : TreeOk n ts := ht
    have p14' : PoolOk q14 := p14
    clear ht p14
    have hw := ht'.web
    have hn1 := hw.n1
    have hn := hw.n60
    refine po_bind (law_ends_ok hw) fun y18 h18 => ?_
    have hl18 := h18.len
    refine po_bind (take_ok p14' (by omega) (by omega)) fun y21 ⟨a0, a1, h21⟩ => ?_
    refine po_bind (looks_ok42 (m := n) h21 (by omega) (by omega)) fun y23 ⟨h23, p23⟩ => ?_
    refine po_bind (looks_ok42 (m := n) p23 (by omega) (by omega)) fun y25 ⟨h25, p25⟩ => ?_
    obtain ⟨at_, hat⟩ : ∃ m : Nat, y21.1 = (m : Int) := ⟨y21.1.toNat, by omega⟩
    have e1 : cutL y18 none (some y21.1) = y18.take at_ := by rw [hat]; exact cut_take _ _
    have e2 : cutL y18 (some (y21.1 + 1)) none = y18.drop (at_ + 1) := by rw [hat]; exact cut_from _ (at_ + 1)
    rw [e1, e2]
    refine po_extend (by rw [List.length_take, List.length_drop]; omega) (po_extend (by show 2 + 2 < 100000; decide) ?_)
    refine po_bind (po_foldX (fun _ => True) trivial fun s ls _ hls => ?_) fun r ⟨s, e, hs⟩ => ?_
    · have hlo : LooksOk n ls := by
        rcases List.mem_append.mp hls with hls | hls
        · rcases List.mem_cons.mp hls with rfl | hls
          · exact h23
          · rw [List.mem_singleton.mp hls]
            exact h25
        · rcases List.mem_cons.mp hls with rfl | hls
          · exact h18
          · rw [List.mem_singleton.mp hls]
            exact less_ok h18 at_
      refine po_bind (po_foldX (fun _ => True) trivial fun _ kd _ hk => ?_) fun r ⟨_, e, _⟩ => ?_
      · have hk' : kd = "places" ∨ kd = "ties" ∨ kd = "all" := by simpa using hk
        rw [right_ok ht' hlo hk', ok_bind]
        exact po_if (fun c => absurd c (by decide)) fun _ => ⟨_, rfl, trivial⟩
      · rw [e]
        exact ⟨_, rfl, trivial⟩
    · rw [e]
      exact ⟨_, rfl, trivial⟩
  · rw [e]
    rfl
end G
namespace HD
open PySem (PyData Obj Params Str)
@[reducible] noncomputable def en (P : PySem.Params) (k : PySem.Str) (t : Nat) (v : PySem.Value) : PySem.DictEntry := .mk (PyData.keyHash P k) (.str k t) v
@[reducible] noncomputable def ob (c : PySem.Value) (d : PySem.Data) : PySem.Obj := .mk c none d (Array.mk [])
@[reducible] noncomputable def fO (c : PySem.Value) (n : PySem.Str) (s : PySem.Stmt) (pm cd : PySem.Value) : PySem.Obj := .mk c none (.func (PySem.W.fnOf n n (L2.defArgs s) (L2.defBody s) (L2.defScope s) .none .none .none pm none cd .none)) (Array.mk [])
@[reducible] noncomputable def cO (n : PySem.Str) (s : PySem.Stmt) : PySem.Obj := .mk .none none (.func (.mk n n (L2.defArgs s) (.stmts (L2.defBody s)) (L2.defScope s) 0 [] .none .none .none .none none .none .none 0)) (Array.mk [])
@[reducible] noncomputable def i (x : Int) : PySem.Value := .int x 0
@[reducible] noncomputable def n (o : PySem.Obj) (x y : PySem.W.BT) : PySem.W.BT := .node o x y
@[reducible] noncomputable def l (o : PySem.Obj) : PySem.W.BT := .node o .nil .nil
noncomputable def a0 : Str := ⟨⟨[95,95,110,97,109,101,95,95]⟩⟩
noncomputable def a1 : Str := ⟨⟨[72,97,105,108,69,114,114,111,114]⟩⟩
noncomputable def a2 : Str := ⟨⟨[86,97,108,117,101,69,114,114,111,114]⟩⟩
noncomputable def a3 : Str := ⟨⟨[78,111,80,108,97,99,101]⟩⟩
noncomputable def a4 : Str := ⟨⟨[78,111,76,111,111,107,115]⟩⟩
noncomputable def a5 : Str := ⟨⟨[78,111,84,114,101,101]⟩⟩
noncomputable def a6 : Str := ⟨⟨[110,101,97,114,95,108,105,115,116,115]⟩⟩
noncomputable def a7 : Str := ⟨⟨[112,108,97,99,101,95,97,115,107,101,100]⟩⟩
noncomputable def a8 : Str := ⟨⟨[110,101,105,103,104,98,111,117,114,115,95,111,102]⟩⟩
noncomputable def a9 : Str := ⟨⟨[105,115,95,116,114,101,101]⟩⟩
noncomputable def a10 : Str := ⟨⟨[116,114,101,101,95,97,115,107,101,100]⟩⟩
noncomputable def a11 : Str := ⟨⟨[114,105,115,105,110,103,95,97,115,107,101,100]⟩⟩
noncomputable def a12 : Str := ⟨⟨[97,108,108,95,110,101,97,114]⟩⟩
noncomputable def a13 : Str := ⟨⟨[112,105,101,99,101,95,102,114,111,109]⟩⟩
noncomputable def a14 : Str := ⟨⟨[112,105,101,99,101,115,95,98,121]⟩⟩
noncomputable def a15 : Str := ⟨⟨[108,111,111,107,115,95,105,110]⟩⟩
noncomputable def a16 : Str := ⟨⟨[116,105,101,95,111,102]⟩⟩
noncomputable def a17 : Str := ⟨⟨[108,105,107,101,115,95,97,116]⟩⟩
noncomputable def a18 : Str := ⟨⟨[116,114,101,101,95,108,105,107,101,115]⟩⟩
noncomputable def a19 : Str := ⟨⟨[95,108,97,119,95,99,101,108,108,115]⟩⟩
noncomputable def a20 : Str := ⟨⟨[95,108,97,119,95,112,111,111,108]⟩⟩
noncomputable def a21 : Str := ⟨⟨[95,108,97,119,95,116,97,107,101]⟩⟩
noncomputable def a22 : Str := ⟨⟨[95,108,97,119,95,115,111,109,101]⟩⟩
noncomputable def a23 : Str := ⟨⟨[95,108,97,119,95,110,97,109,101,100]⟩⟩
noncomputable def a24 : Str := ⟨⟨[95,108,97,119,95,116,114,101,101]⟩⟩
noncomputable def a25 : Str := ⟨⟨[95,108,97,119,95,110,101,97,114]⟩⟩
noncomputable def a26 : Str := ⟨⟨[95,108,97,119,95,115,116,101,112,115]⟩⟩
noncomputable def a27 : Str := ⟨⟨[95,108,97,119,95,116,104,105,110,103,115]⟩⟩
noncomputable def a28 : Str := ⟨⟨[95,108,97,119,95,99,111,100,101]⟩⟩
noncomputable def a29 : Str := ⟨⟨[95,108,97,119,95,99,111,100,101,115]⟩⟩
noncomputable def a30 : Str := ⟨⟨[95,108,97,119,95,108,111,111,107,115]⟩⟩
noncomputable def a31 : Str := ⟨⟨[95,108,97,119,95,101,110,100,115]⟩⟩
noncomputable def a32 : Str := ⟨⟨[95,108,97,119,95,114,105,103,104,116]⟩⟩
noncomputable def a33 : Str := ⟨⟨[108,97,119]⟩⟩
noncomputable def env : PySem.Env := ⟨(.mk .module [(a0, .local),(a1, .local),(a2, .globalImplicit),(a3, .local),(a4, .local),(a5, .local),(a6, .local),(a7, .local),(a8, .local),(a9, .local),(a10, .local),(a11, .local),(a12, .local),(a13, .local),(a14, .local),(a15, .local),(a16, .local),(a17, .local),(a18, .local),(a19, .local),(a20, .local),(a21, .local),(a22, .local),(a23, .local),(a24, .local),(a25, .local),(a26, .local),(a27, .local),(a28, .local),(a29, .local),(a30, .local),(a31, .local),(a32, .local),(a33, .local)] .false .false []), PySem.mainNs, PySem.mainNs, [], PySem.Str.empty, none, (.ref 13), (some 14), 0⟩
noncomputable abbrev q0 (P : Params) : Obj := PySem.W.boot_o_0 P
noncomputable abbrev q1 (P : Params) : Obj := PySem.W.boot_o_1 P
noncomputable abbrev q2 (P : Params) : Obj := PySem.W.boot_o_2 P
noncomputable abbrev q3 (P : Params) : Obj := PySem.W.boot_o_3 P
noncomputable abbrev q4 (P : Params) : Obj := PySem.W.boot_o_4 P
noncomputable abbrev q5 (P : Params) : Obj := PySem.W.boot_o_5 P
noncomputable abbrev q6 (P : Params) : Obj := PySem.W.boot_o_6 P
noncomputable abbrev q7 (P : Params) : Obj := PySem.W.boot_o_7 P
noncomputable abbrev q8 (P : Params) : Obj := PySem.W.boot_o_8 P
noncomputable abbrev q9 (P : Params) : Obj := PySem.W.boot_o_9 P
noncomputable abbrev q10 (P : Params) : Obj := PySem.W.boot_o_10 P
noncomputable abbrev b0 : String := PySem.W.SL.s2766695959194262286x5
noncomputable def o0 : Obj := (ob (.type b0) (.seq ⟨[]⟩ 0))
noncomputable def o1 : Obj := (ob .none (.fields ⟨[]⟩))
noncomputable abbrev b1 : String := PySem.W.SL.s5856160107412720595x4
noncomputable def a34 : Str := ⟨⟨[60,109,111,100,117,108,101,62]⟩⟩
noncomputable def a35 : Str := ⟨⟨[47,99,108,97,105,109,47,99,117,116,46,112,121]⟩⟩
noncomputable def o2 : Obj := (ob (.type b1) (.fields ⟨[(.str a34 182),(.str a34 183),(.str a35 184),(i 1),(i 0),(i 0),(i 0),(i 0),(.ref 11),(.bool .false),(i 181),(.ref 12),.none,.none,.none,.none,(i 185),(i 1),(.str a35 186)]⟩))
noncomputable abbrev b2 : String := PySem.W.SL.s658472552662922059x5
noncomputable def a36 : Str := ⟨⟨[95,95,109,97,105,110,95,95]⟩⟩
noncomputable def o3 : Obj := (.mk (.type b2) none .plain ⟨[(some (.ref 13)),(some (.ref 3)),(some (.ref 3)),none,(some (.str a36 164)),none,(some (.ref 0))]⟩)
noncomputable def hA (P : PySem.Params) : PySem.Heap := ⟨⟨[(q0 P), (q1 P), (q2 P), (q3 P), (q4 P), (q5 P), (q6 P), (q7 P), (q8 P), (q9 P), (q10 P), o0, o1, o2, o3]⟩, (.mk [] [] [] 0 [] [] .false ⟨[]⟩ [] 0 .false .false .false 0 [2000,10,10] .false 0 .true [] [] 0 .false)⟩
noncomputable def tB (P : PySem.Params) : PySem.W.BT := (n (q0 P) (n (q1 P) (n (q3 P) (l (q7 P)) (l o0)) (n (q5 P) (l (q9 P)) (l o2))) (n (q2 P) (n (q4 P) (l (q8 P)) (l o1)) (n (q6 P) (l (q10 P)) (l o3))))
noncomputable abbrev code : PySem.Code := .body (PySem.W.behindTheImports PySem.Challenge.pw_farhail_k19_tree_likes_told) env
noncomputable abbrev B : List PySem.Frame := [PySem.W.topFrame (.mk 0 0 0 0)]
theorem pre0 (w : PySem.World) : (fun os : PySem.OsState => PySem.W.Fast.tw15667345088766844465 PySem.W.Fast.tw14364793385576792824 PySem.Challenge.pw_farhail_k19_tree_likes_told w 11 (some (.ref 6)) 12 (PySem.Shared.mk (PySem.W.boot_heap w.params) (Array.mk ([] : List PySem.GenState)) PySem.W.boot_drawn PySem.W.boot_toks os) (PySem.W.topStub PySem.Challenge.pw_farhail_k19_tree_likes_told)) = fun os => some ((PySem.Shared.mk (hA w.params) (Array.mk ([] : List PySem.GenState)) (.mk 0 0 0 0) 187 os), PySem.Thread.mk (PySem.W.Fast.tw11892475500146522536 PySem.W.Fast.tw14364793385576792824 code) code (.mk 0 0 0 0) B) := by kernel_rfl
theorem pre (w : PySem.World) (os : PySem.OsState) : PySem.W.topGo PySem.treeTable PySem.Challenge.pw_farhail_k19_tree_likes_told w 11 (some (.ref 6)) 12 (PySem.Shared.mk (PySem.W.boot_heap w.params) (Array.mk ([] : List PySem.GenState)) PySem.W.boot_drawn PySem.W.boot_toks os) (PySem.W.topStub PySem.Challenge.pw_farhail_k19_tree_likes_told) = some ((PySem.Shared.mk (hA w.params) (Array.mk ([] : List PySem.GenState)) (.mk 0 0 0 0) 187 os), PySem.Thread.mk (PySem.denote PySem.treeTable code) code (.mk 0 0 0 0) B) := by rw [PySem.W.Fast.te15667345088766844465, PySem.W.Fast.te14364793385576792824, PySem.W.Fast.te11892475500146522536]; exact congrFun (pre0 w) os
theorem block0 (w : PySem.World) : (fun os : PySem.OsState => PySem.W.Fast.tw14374325043358763698 PySem.W.Fast.tw14364793385576792824 PySem.Challenge.pw_farhail_k19_tree_likes_told w 11 (some (.ref 6)) 1 1 (PySem.Shared.mk (hA w.params) (Array.mk ([] : List PySem.GenState)) (.mk 0 0 0 0) 187 os) (PySem.W.blockOf (PySem.W.behindTheImports PySem.Challenge.pw_farhail_k19_tree_likes_told) env code (.mk 0 0 0 0) B)) = fun os => some (PySem.Flow.next, (PySem.W.SharedT.mk (tB w.params) 15 (.mk [] [] [] 0 [] [] .false ⟨[]⟩ [] 0 .false .false .false 0 [2000,10,10] .false 0 .true [] [] 0 .false) (Array.mk ([] : List PySem.GenState)) (.mk 0 0 0 0) 187 os).abs, code, (.mk 0 0 0 0)) := by kernel_rfl
theorem block (w : PySem.World) (os : PySem.OsState) : PySem.W.segRun PySem.treeTable PySem.Challenge.pw_farhail_k19_tree_likes_told w 11 (some (.ref 6)) 1 1 (PySem.Shared.mk (hA w.params) (Array.mk ([] : List PySem.GenState)) (.mk 0 0 0 0) 187 os) (PySem.W.blockOf (PySem.W.behindTheImports PySem.Challenge.pw_farhail_k19_tree_likes_told) env code (.mk 0 0 0 0) B) = some (PySem.Flow.next, (PySem.W.SharedT.mk (tB w.params) 15 (.mk [] [] [] 0 [] [] .false ⟨[]⟩ [] 0 .false .false .false 0 [2000,10,10] .false 0 .true [] [] 0 .false) (Array.mk ([] : List PySem.GenState)) (.mk 0 0 0 0) 187 os).abs, code, (.mk 0 0 0 0)) := by rw [PySem.W.Fast.te14374325043358763698, PySem.W.Fast.te14364793385576792824]; exact congrFun (block0 w) os
noncomputable def a37 : Str := ⟨⟨[102,97,114,104,97,105,108,46,101,114,114,111,114,115]⟩⟩
noncomputable def a38 : Str := ⟨⟨[102,97,114,104,97,105,108,46,119,101,98,115]⟩⟩
noncomputable def a39 : Str := ⟨⟨[102,97,114,104,97,105,108,46,116,114,101,101,115]⟩⟩
noncomputable def a40 : Str := ⟨⟨[108,97,119,95,102,97,114,104,97,105,108,95,107,49,57,95,116,114,101,101,95,108,105,107,101,115,95,116,111,108,100]⟩⟩
noncomputable def sts0 : List PySem.Stmt := [(.Assign [(.Name a0 (.mk 1 0 1 8))] (.Constant (.str a37) 0 (.mk 1 11 1 27)) (.mk 1 0 1 27)), (.ClassDef a1 [(.Name a2 (.mk 2 16 2 26))] [] [(.Pass (.mk 3 4 3 8))] [] [] (.mk .class [] .false .false []) none a1 [] (.mk 2 0 3 8)), (.ClassDef a3 [(.Name a1 (.mk 4 14 4 23))] [] [(.Pass (.mk 5 4 5 8))] [] [] (.mk .class [] .false .false []) none a3 [] (.mk 4 0 5 8)), (.ClassDef a4 [(.Name a1 (.mk 6 14 6 23))] [] [(.Pass (.mk 7 4 7 8))] [] [] (.mk .class [] .false .false []) none a4 [] (.mk 6 0 7 8)), (.ClassDef a5 [(.Name a1 (.mk 8 13 8 22))] [] [(.Pass (.mk 9 4 9 8))] [] [] (.mk .class [] .false .false []) none a5 [] (.mk 8 0 9 8)), (.Assign [(.Name a0 (.mk 10 0 10 8))] (.Constant (.str a38) 0 (.mk 10 11 10 25)) (.mk 10 0 10 25)), (.FunctionDef a6 (L2.defArgs (G.top 6)) (L2.defBody (G.top 6)) [] none [] (L2.defScope (G.top 6)) none a6 (.mk 11 0 16 41)), (.FunctionDef a7 (L2.defArgs (G.top 7)) (L2.defBody (G.top 7)) [] none [] (L2.defScope (G.top 7)) none a7 (.mk 17 0 19 33)), (.FunctionDef a8 (L2.defArgs (G.top 8)) (L2.defBody (G.top 8)) [] none [] (L2.defScope (G.top 8)) none a8 (.mk 20 0 22 33)), (.Assign [(.Name a0 (.mk 23 0 23 8))] (.Constant (.str a39) 0 (.mk 23 11 23 26)) (.mk 23 0 23 26)), (.FunctionDef a9 (L2.defArgs (G.top 10)) (L2.defBody (G.top 10)) [] none [] (L2.defScope (G.top 10)) none a9 (.mk 24 0 25 36)), (.FunctionDef a10 (L2.defArgs (G.top 11)) (L2.defBody (G.top 11)) [] none [] (L2.defScope (G.top 11)) none a10 (.mk 26 0 28 45)), (.FunctionDef a11 (L2.defArgs (G.top 12)) (L2.defBody (G.top 12)) [] none [] (L2.defScope (G.top 12)) none a11 (.mk 29 0 31 49)), (.FunctionDef a12 (L2.defArgs (G.top 13)) (L2.defBody (G.top 13)) [] none [] (L2.defScope (G.top 13)) none a12 (.mk 32 0 33 65)), (.FunctionDef a13 (L2.defArgs (G.top 14)) (L2.defBody (G.top 14)) [] none [] (L2.defScope (G.top 14)) none a13 (.mk 34 0 44 23)), (.FunctionDef a14 (L2.defArgs (G.top 15)) (L2.defBody (G.top 15)) [] none [] (L2.defScope (G.top 15)) none a14 (.mk 45 0 46 68)), (.FunctionDef a15 (L2.defArgs (G.top 16)) (L2.defBody (G.top 16)) [] none [] (L2.defScope (G.top 16)) none a15 (.mk 47 0 48 95)), (.FunctionDef a16 (L2.defArgs (G.top 17)) (L2.defBody (G.top 17)) [] none [] (L2.defScope (G.top 17)) none a16 (.mk 49 0 50 45)), (.FunctionDef a17 (L2.defArgs (G.top 18)) (L2.defBody (G.top 18)) [] none [] (L2.defScope (G.top 18)) none a17 (.mk 51 0 59 15)), (.FunctionDef a18 (L2.defArgs (G.top 19)) (L2.defBody (G.top 19)) [] none [] (L2.defScope (G.top 19)) none a18 (.mk 60 0 70 15)), (.Assign [(.Name a0 (.mk 71 0 71 8))] (.Constant (.str a40) 0 (.mk 71 11 71 44)) (.mk 71 0 71 44)), (.FunctionDef a19 (L2.defArgs (G.top 21)) (L2.defBody (G.top 21)) [] none [] (L2.defScope (G.top 21)) none a19 (.mk 72 0 76 16)), (.FunctionDef a20 (L2.defArgs (G.top 22)) (L2.defBody (G.top 22)) [] none [] (L2.defScope (G.top 22)) none a20 (.mk 77 0 84 87)), (.FunctionDef a21 (L2.defArgs (G.top 23)) (L2.defBody (G.top 23)) [] none [] (L2.defScope (G.top 23)) none a21 (.mk 85 0 91 74)), (.FunctionDef a22 (L2.defArgs (G.top 24)) (L2.defBody (G.top 24)) [] none [] (L2.defScope (G.top 24)) none a22 (.mk 92 0 94 70)), (.FunctionDef a23 (L2.defArgs (G.top 25)) (L2.defBody (G.top 25)) [] none [] (L2.defScope (G.top 25)) none a23 (.mk 95 0 97 103)), (.FunctionDef a24 (L2.defArgs (G.top 26)) (L2.defBody (G.top 26)) [] none [] (L2.defScope (G.top 26)) none a24 (.mk 98 0 105 39)), (.FunctionDef a25 (L2.defArgs (G.top 27)) (L2.defBody (G.top 27)) [] none [] (L2.defScope (G.top 27)) none a25 (.mk 106 0 111 41)), (.FunctionDef a26 (L2.defArgs (G.top 28)) (L2.defBody (G.top 28)) [] none [] (L2.defScope (G.top 28)) none a26 (.mk 112 0 123 16)), (.FunctionDef a27 (L2.defArgs (G.top 29)) (L2.defBody (G.top 29)) [] none [] (L2.defScope (G.top 29)) none a27 (.mk 124 0 126 87)), (.FunctionDef a28 (L2.defArgs (G.top 30)) (L2.defBody (G.top 30)) [] none [] (L2.defScope (G.top 30)) none a28 (.mk 127 0 130 47)), (.FunctionDef a29 (L2.defArgs (G.top 31)) (L2.defBody (G.top 31)) [] none [] (L2.defScope (G.top 31)) none a29 (.mk 131 0 134 72)), (.FunctionDef a30 (L2.defArgs (G.top 32)) (L2.defBody (G.top 32)) [] none [] (L2.defScope (G.top 32)) none a30 (.mk 135 0 137 92)), (.FunctionDef a31 (L2.defArgs (G.top 33)) (L2.defBody (G.top 33)) [] none [] (L2.defScope (G.top 33)) none a31 (.mk 138 0 139 98)), (.FunctionDef a32 (L2.defArgs (G.top 34)) (L2.defBody (G.top 34)) [] none [] (L2.defScope (G.top 34)) none a32 (.mk 140 0 155 29)), (.FunctionDef a33 (L2.defArgs (G.top 35)) (L2.defBody (G.top 35)) [] none [] (L2.defScope (G.top 35)) none a33 (.mk 156 0 168 15))]
noncomputable abbrev b3 : String := PySem.W.SL.s14018661285674007319x4
noncomputable def c0 (P : PySem.Params) (t : List PySem.DictEntry) : List PySem.DictEntry := (en P a33 488 (.ref 231))::t
noncomputable def c1 (P : PySem.Params) (t : List PySem.DictEntry) : List PySem.DictEntry := (en P a25 420 (.ref 185))::(en P a26 433 (.ref 192))::(en P a27 442 (.ref 199))::(en P a28 448 (.ref 204))::(en P a29 454 (.ref 209))::(en P a30 460 (.ref 214))::(en P a31 466 (.ref 219))::(en P a32 472 (.ref 224))::t
noncomputable def c2 (P : PySem.Params) (t : List PySem.DictEntry) : List PySem.DictEntry := (en P a17 345 (.ref 135))::(en P a18 357 (.ref 142))::(en P a19 370 (.ref 149))::(en P a20 380 (.ref 156))::(en P a21 389 (.ref 163))::(en P a22 395 (.ref 168))::(en P a23 401 (.ref 173))::(en P a24 414 (.ref 180))::t
noncomputable def c3 (P : PySem.Params) (t : List PySem.DictEntry) : List PySem.DictEntry := (en P a9 287 (.ref 89))::(en P a10 294 (.ref 96))::(en P a11 300 (.ref 101))::(en P a12 306 (.ref 106))::(en P a13 319 (.ref 113))::(en P a14 325 (.ref 118))::(en P a15 331 (.ref 123))::(en P a16 339 (.ref 130))::t
noncomputable def a41 : Str := ⟨⟨[95,95,99,97,99,104,101,100,95,95]⟩⟩
noncomputable def c4 (P : PySem.Params) (t : List PySem.DictEntry) : List PySem.DictEntry := (en P a41 174 .none)::(en P a1 206 (.ref 24))::(en P a3 222 (.ref 37))::(en P a4 238 (.ref 49))::(en P a5 254 (.ref 61))::(en P a6 262 (.ref 68))::(en P a7 270 (.ref 75))::(en P a8 278 (.ref 82))::t
noncomputable def a42 : Str := ⟨⟨[95,95,100,111,99,95,95]⟩⟩
noncomputable def a43 : Str := ⟨⟨[95,95,112,97,99,107,97,103,101,95,95]⟩⟩
noncomputable def a44 : Str := ⟨⟨[95,95,108,111,97,100,101,114,95,95]⟩⟩
noncomputable abbrev b4 : String := PySem.W.SL.s7097527257260152453x26
noncomputable def a45 : Str := ⟨⟨[95,95,115,112,101,99,95,95]⟩⟩
noncomputable def a46 : Str := ⟨⟨[95,95,97,110,110,111,116,97,116,105,111,110,115,95,95]⟩⟩
noncomputable def a47 : Str := ⟨⟨[95,95,98,117,105,108,116,105,110,115,95,95]⟩⟩
noncomputable def a48 : Str := ⟨⟨[95,95,102,105,108,101,95,95]⟩⟩
noncomputable def c5 (P : PySem.Params) (t : List PySem.DictEntry) : List PySem.DictEntry := (en P a0 165 (.str a40 358))::(en P a42 166 .none)::(en P a43 167 .none)::(en P a44 168 (.builtin b4))::(en P a45 169 .none)::(en P a46 170 (.ref 6))::(en P a47 171 (.ref 4))::(en P a48 173 (.str a35 172))::t
noncomputable def o4 (P : Params) : Obj := (ob (.type b3) (.dict ⟨(c5 P (c4 P (c3 P (c2 P (c1 P (c0 P []))))))⟩ 41))
noncomputable def c6 (t : List PySem.Value) : List PySem.Value := (i 0)::(.ref 218)::(i 140)::(i 0)::(.ref 223)::(i 156)::(i 0)::(.ref 230)::t
noncomputable def c7 (t : List PySem.Value) : List PySem.Value := (.ref 203)::(i 131)::(i 0)::(.ref 208)::(i 135)::(i 0)::(.ref 213)::(i 138)::t
noncomputable def c8 (t : List PySem.Value) : List PySem.Value := (i 112)::(i 0)::(.ref 191)::(i 124)::(i 0)::(.ref 198)::(i 127)::(i 0)::t
noncomputable def c9 (t : List PySem.Value) : List PySem.Value := (i 0)::(.ref 172)::(i 98)::(i 0)::(.ref 179)::(i 106)::(i 0)::(.ref 184)::t
noncomputable def c10 (t : List PySem.Value) : List PySem.Value := (.ref 155)::(i 85)::(i 0)::(.ref 162)::(i 92)::(i 0)::(.ref 167)::(i 95)::t
noncomputable def c11 (t : List PySem.Value) : List PySem.Value := (i 60)::(i 0)::(.ref 141)::(i 72)::(i 0)::(.ref 148)::(i 77)::(i 0)::t
noncomputable def c12 (t : List PySem.Value) : List PySem.Value := (i 0)::(.ref 122)::(i 49)::(i 0)::(.ref 129)::(i 51)::(i 0)::(.ref 134)::t
noncomputable def c13 (t : List PySem.Value) : List PySem.Value := (.ref 105)::(i 34)::(i 0)::(.ref 112)::(i 45)::(i 0)::(.ref 117)::(i 47)::t
noncomputable def c14 (t : List PySem.Value) : List PySem.Value := (i 26)::(i 0)::(.ref 95)::(i 29)::(i 0)::(.ref 100)::(i 32)::(i 0)::t
noncomputable def c15 (t : List PySem.Value) : List PySem.Value := (i 0)::(.ref 74)::(i 20)::(i 0)::(.ref 81)::(i 24)::(i 0)::(.ref 88)::t
noncomputable def c16 (t : List PySem.Value) : List PySem.Value := (.ref 45)::(i 8)::(i 0)::(.ref 57)::(i 11)::(i 0)::(.ref 67)::(i 17)::t
noncomputable def c17 (t : List PySem.Value) : List PySem.Value := (i 2)::(i 0)::(.ref 20)::(i 4)::(i 0)::(.ref 33)::(i 6)::(i 0)::t
noncomputable def o5 : Obj := (ob .none (.fields ⟨(c17 (c16 (c15 (c14 (c13 (c12 (c11 (c10 (c9 (c8 (c7 (c6 []))))))))))))⟩))
noncomputable abbrev b5 : String := PySem.W.SL.s6070975301684473832x10
noncomputable def o6 : Obj := (ob (.type b0) (.seq ⟨[(.type b5)]⟩ 0))
noncomputable abbrev b6 : String := PySem.W.SL.s11030030927630378310x26
noncomputable abbrev b7 : String := PySem.W.SL.s10062305145149207511x16
noncomputable abbrev b8 : String := PySem.W.SL.s17162191345867700912x4
noncomputable def o7 : Obj := (ob (.type b6) (.fields ⟨[(.builtin b7),(.type b8)]⟩))
noncomputable def a49 : Str := ⟨⟨[95,95,109,111,100,117,108,101,95,95]⟩⟩
noncomputable def a50 : Str := ⟨⟨[95,95,113,117,97,108,110,97,109,101,95,95]⟩⟩
noncomputable def a51 : Str := ⟨⟨[95,95,102,105,114,115,116,108,105,110,101,110,111,95,95]⟩⟩
noncomputable def a52 : Str := ⟨⟨[95,95,115,116,97,116,105,99,95,97,116,116,114,105,98,117,116,101,115,95,95]⟩⟩
noncomputable def o8 (P : Params) : Obj := (ob (.type b3) (.dict ⟨[(en P a49 196 (.str a37 187)),(en P a50 198 (.str a1 197)),(en P a51 200 (.int 2 199)),(en P a52 201 (.ref 22))]⟩ 4))
noncomputable def o9 : Obj := (ob (.type b0) (.seq ⟨[]⟩ 0))
noncomputable def o10 : Obj := (ob .none (.fields ⟨[]⟩))
noncomputable def o11 : Obj := (ob (.type b1) (.fields ⟨[(.str a1 191),(.str a1 192),(.str a35 193),(i 2),(i 0),(i 0),(i 0),(i 0),(.ref 18),(.bool .false),(i 181),(.ref 19),.none,.none,.none,.none,(i 194),(i 2),(.str a35 195)]⟩))
noncomputable def o12 : Obj := (.mk (.type b2) none .plain ⟨[(some (.ref 20)),(some (.ref 3)),(some (.ref 17)),none,(some (.str a37 187)),none,(some (.ref 0))]⟩)
noncomputable def o13 : Obj := (ob (.type b0) (.seq ⟨[]⟩ 0))
noncomputable def a53 : Str := ⟨⟨[95,95,119,101,97,107,114,101,102,95,95]⟩⟩
noncomputable def o14 (P : Params) : Obj := (ob (.type b3) (.dict ⟨[(en P a49 196 (.str a37 187)),(en P a51 200 (.int 2 199)),(en P a52 201 (.ref 22)),(en P a53 203 (.ref 25)),(en P a42 204 .none)]⟩ 3))
noncomputable abbrev b9 : String := PySem.W.SL.s5946037652744460706x9
noncomputable abbrev b10 : String := PySem.W.SL.s4278001404047624695x13
noncomputable abbrev b11 : String := PySem.W.SL.s2742458400755230247x6
noncomputable abbrev b12 : String := PySem.W.SL.s4209523147560561109x18
noncomputable def o15 : Obj := (.mk (.type b8) none (.cls (.mk a1 [(.type b5)] [(.ref 24),(.type b5),(.type b9),(.type b10),(.type b11)] 23 a1 .true [] [(.ref 37),(.ref 49),(.ref 61)] .false none .false)) ⟨[(some (.ref 15)),none,(some (.str a1 189)),(some (.str a1 197)),(some (.builtin b12)),(some (.bool .true))]⟩)
noncomputable abbrev b13 : String := PySem.W.SL.s14755015743595814543x17
noncomputable abbrev b14 : String := PySem.W.SL.s10220274742760427390x26
noncomputable def o16 : Obj := (ob (.type b13) (.fields ⟨[(.str a53 202),(.ref 24),(.builtin b14),.none]⟩))
noncomputable abbrev b15 : String := PySem.W.SL.s4290257624100764138x5
noncomputable def o17 : Obj := (ob (.type b15) (.fields ⟨[(.ref 24),(.ref 24),(.ref 24)]⟩))
noncomputable abbrev b16 : String := PySem.W.SL.s4860613602091757760x24
noncomputable def o18 : Obj := (ob (.type b6) (.fields ⟨[(.builtin b16),(.ref 24)]⟩))
noncomputable def o19 : Obj := (ob (.type b0) (.seq ⟨[(.ref 24)]⟩ 0))
noncomputable def o20 : Obj := (ob (.type b6) (.fields ⟨[(.builtin b7),(.type b8)]⟩))
noncomputable def o21 (P : Params) : Obj := (ob (.type b3) (.dict ⟨[(en P a49 214 (.str a37 187)),(en P a50 216 (.str a3 215)),(en P a51 218 (.int 4 217)),(en P a52 219 (.ref 35))]⟩ 4))
noncomputable def o22 : Obj := (ob (.type b0) (.seq ⟨[]⟩ 0))
noncomputable def o23 : Obj := (ob .none (.fields ⟨[]⟩))
noncomputable def o24 : Obj := (ob (.type b1) (.fields ⟨[(.str a3 209),(.str a3 210),(.str a35 211),(i 4),(i 0),(i 0),(i 0),(i 0),(.ref 31),(.bool .false),(i 181),(.ref 32),.none,.none,.none,.none,(i 212),(i 4),(.str a35 213)]⟩))
noncomputable def o25 : Obj := (.mk (.type b2) none .plain ⟨[(some (.ref 33)),(some (.ref 3)),(some (.ref 30)),none,(some (.str a37 187)),none,(some (.ref 0))]⟩)
noncomputable def o26 : Obj := (ob (.type b0) (.seq ⟨[]⟩ 0))
noncomputable def o27 (P : Params) : Obj := (ob (.type b3) (.dict ⟨[(en P a49 214 (.str a37 187)),(en P a51 218 (.int 4 217)),(en P a52 219 (.ref 35)),(en P a42 220 .none)]⟩ 2))
noncomputable def o28 : Obj := (.mk (.type b8) none (.cls (.mk a3 [(.ref 24)] [(.ref 37),(.ref 24),(.type b5),(.type b9),(.type b10),(.type b11)] 36 a3 .true [] [] .false none .false)) ⟨[(some (.ref 28)),none,(some (.str a3 207)),(some (.str a3 215)),(some (.builtin b12)),(some (.bool .true))]⟩)
noncomputable def o29 : Obj := (ob (.type b15) (.fields ⟨[(.ref 37),(.ref 37),(.ref 37)]⟩))
noncomputable def o30 : Obj := (ob (.type b6) (.fields ⟨[(.builtin b16),(.ref 37)]⟩))
noncomputable def o31 : Obj := (ob (.type b0) (.seq ⟨[(.ref 24)]⟩ 0))
noncomputable def o32 : Obj := (ob (.type b6) (.fields ⟨[(.builtin b7),(.type b8)]⟩))
noncomputable def o33 (P : Params) : Obj := (ob (.type b3) (.dict ⟨[(en P a49 230 (.str a37 187)),(en P a50 232 (.str a4 231)),(en P a51 234 (.int 6 233)),(en P a52 235 (.ref 47))]⟩ 4))
noncomputable def o34 : Obj := (ob (.type b0) (.seq ⟨[]⟩ 0))
noncomputable def o35 : Obj := (ob .none (.fields ⟨[]⟩))
noncomputable def o36 : Obj := (ob (.type b1) (.fields ⟨[(.str a4 225),(.str a4 226),(.str a35 227),(i 6),(i 0),(i 0),(i 0),(i 0),(.ref 43),(.bool .false),(i 181),(.ref 44),.none,.none,.none,.none,(i 228),(i 6),(.str a35 229)]⟩))
noncomputable def o37 : Obj := (.mk (.type b2) none .plain ⟨[(some (.ref 45)),(some (.ref 3)),(some (.ref 42)),none,(some (.str a37 187)),none,(some (.ref 0))]⟩)
noncomputable def o38 : Obj := (ob (.type b0) (.seq ⟨[]⟩ 0))
noncomputable def o39 (P : Params) : Obj := (ob (.type b3) (.dict ⟨[(en P a49 230 (.str a37 187)),(en P a51 234 (.int 6 233)),(en P a52 235 (.ref 47)),(en P a42 236 .none)]⟩ 2))
noncomputable def o40 : Obj := (.mk (.type b8) none (.cls (.mk a4 [(.ref 24)] [(.ref 49),(.ref 24),(.type b5),(.type b9),(.type b10),(.type b11)] 48 a4 .true [] [] .false none .false)) ⟨[(some (.ref 40)),none,(some (.str a4 223)),(some (.str a4 231)),(some (.builtin b12)),(some (.bool .true))]⟩)
noncomputable def o41 : Obj := (ob (.type b15) (.fields ⟨[(.ref 49),(.ref 49),(.ref 49)]⟩))
noncomputable def o42 : Obj := (ob (.type b6) (.fields ⟨[(.builtin b16),(.ref 49)]⟩))
noncomputable def o43 : Obj := (ob (.type b0) (.seq ⟨[(.ref 24)]⟩ 0))
noncomputable def o44 : Obj := (ob (.type b6) (.fields ⟨[(.builtin b7),(.type b8)]⟩))
noncomputable def o45 (P : Params) : Obj := (ob (.type b3) (.dict ⟨[(en P a49 246 (.str a37 187)),(en P a50 248 (.str a5 247)),(en P a51 250 (.int 8 249)),(en P a52 251 (.ref 59))]⟩ 4))
noncomputable def o46 : Obj := (ob (.type b0) (.seq ⟨[]⟩ 0))
noncomputable def o47 : Obj := (ob .none (.fields ⟨[]⟩))
noncomputable def o48 : Obj := (ob (.type b1) (.fields ⟨[(.str a5 241),(.str a5 242),(.str a35 243),(i 8),(i 0),(i 0),(i 0),(i 0),(.ref 55),(.bool .false),(i 181),(.ref 56),.none,.none,.none,.none,(i 244),(i 8),(.str a35 245)]⟩))
noncomputable def o49 : Obj := (.mk (.type b2) none .plain ⟨[(some (.ref 57)),(some (.ref 3)),(some (.ref 54)),none,(some (.str a37 187)),none,(some (.ref 0))]⟩)
noncomputable def o50 : Obj := (ob (.type b0) (.seq ⟨[]⟩ 0))
noncomputable def o51 (P : Params) : Obj := (ob (.type b3) (.dict ⟨[(en P a49 246 (.str a37 187)),(en P a51 250 (.int 8 249)),(en P a52 251 (.ref 59)),(en P a42 252 .none)]⟩ 2))
noncomputable def o52 : Obj := (.mk (.type b8) none (.cls (.mk a5 [(.ref 24)] [(.ref 61),(.ref 24),(.type b5),(.type b9),(.type b10),(.type b11)] 60 a5 .true [] [] .false none .false)) ⟨[(some (.ref 52)),none,(some (.str a5 239)),(some (.str a5 247)),(some (.builtin b12)),(some (.bool .true))]⟩)
noncomputable def o53 : Obj := (ob (.type b15) (.fields ⟨[(.ref 61),(.ref 61),(.ref 61)]⟩))
noncomputable def o54 : Obj := (ob (.type b6) (.fields ⟨[(.builtin b16),(.ref 61)]⟩))
noncomputable def o55 : Obj := (ob (.type b0) (.seq ⟨[]⟩ 0))
noncomputable def o56 : Obj := (ob .none (.fields ⟨[]⟩))
noncomputable def o57 : Obj := (cO a6 (G.top 6))
noncomputable def o58 : Obj := (ob (.type b1) (.fields ⟨[(.str a6 257),(.str a6 258),(.str a35 259),(i 11),(i 1),(i 0),(i 0),(i 3),(.ref 64),(.bool .true),(i 181),(.ref 65),.none,.none,.none,(.ref 66),(i 260),(i 11),(.str a35 261)]⟩))
noncomputable abbrev b17 : String := PySem.W.SL.s7174869446012820540x8
noncomputable def o59 : Obj := (fO (.type b17) a6 (G.top 6) (.str a38 255) (.ref 67))
noncomputable def o60 : Obj := (ob (.type b0) (.seq ⟨[]⟩ 0))
noncomputable def o61 : Obj := (ob .none (.fields ⟨[]⟩))
noncomputable def a54 : Str := ⟨⟨[119,101,98]⟩⟩
noncomputable def a55 : Str := ⟨⟨[112,108,97,99,101]⟩⟩
noncomputable def o62 : Obj := (ob (.type b0) (.seq ⟨[(.str a54 266),(.str a55 267)]⟩ 0))
noncomputable def o63 : Obj := (ob (.type b0) (.seq ⟨[]⟩ 0))
noncomputable def o64 : Obj := (cO a7 (G.top 7))
noncomputable def o65 : Obj := (ob (.type b1) (.fields ⟨[(.str a7 263),(.str a7 264),(.str a35 265),(i 17),(i 2),(i 0),(i 0),(i 3),(.ref 69),(.bool .true),(i 181),(.ref 70),.none,(.ref 71),(.ref 72),(.ref 73),(i 268),(i 17),(.str a35 269)]⟩))
noncomputable def o66 : Obj := (fO (.type b17) a7 (G.top 7) (.str a38 255) (.ref 74))
noncomputable def o67 : Obj := (ob (.type b0) (.seq ⟨[]⟩ 0))
noncomputable def o68 : Obj := (ob .none (.fields ⟨[]⟩))
noncomputable def o69 : Obj := (ob (.type b0) (.seq ⟨[(.str a54 274),(.str a55 275)]⟩ 0))
noncomputable def o70 : Obj := (ob (.type b0) (.seq ⟨[]⟩ 0))
noncomputable def o71 : Obj := (cO a8 (G.top 8))
noncomputable def o72 : Obj := (ob (.type b1) (.fields ⟨[(.str a8 271),(.str a8 272),(.str a35 273),(i 20),(i 2),(i 0),(i 0),(i 3),(.ref 76),(.bool .true),(i 181),(.ref 77),.none,(.ref 78),(.ref 79),(.ref 80),(i 276),(i 20),(.str a35 277)]⟩))
noncomputable def o73 : Obj := (fO (.type b17) a8 (G.top 8) (.str a38 255) (.ref 81))
noncomputable def o74 : Obj := (ob (.type b0) (.seq ⟨[]⟩ 0))
noncomputable def o75 : Obj := (ob .none (.fields ⟨[]⟩))
noncomputable def o76 : Obj := (ob (.type b0) (.seq ⟨[(.str a54 284)]⟩ 0))
noncomputable def o77 : Obj := (ob (.type b0) (.seq ⟨[]⟩ 0))
noncomputable def o78 : Obj := (cO a9 (G.top 10))
noncomputable def o79 : Obj := (ob (.type b1) (.fields ⟨[(.str a9 281),(.str a9 282),(.str a35 283),(i 24),(i 1),(i 0),(i 0),(i 3),(.ref 83),(.bool .true),(i 181),(.ref 84),.none,(.ref 85),(.ref 86),(.ref 87),(i 285),(i 24),(.str a35 286)]⟩))
noncomputable def o80 : Obj := (fO (.type b17) a9 (G.top 10) (.str a39 279) (.ref 88))
noncomputable def o81 : Obj := (ob (.type b0) (.seq ⟨[]⟩ 0))
noncomputable def o82 : Obj := (ob .none (.fields ⟨[]⟩))
noncomputable def o83 : Obj := (ob (.type b0) (.seq ⟨[(.str a54 291)]⟩ 0))
noncomputable def o84 : Obj := (ob (.type b0) (.seq ⟨[]⟩ 0))
noncomputable def o85 : Obj := (cO a10 (G.top 11))
noncomputable def o86 : Obj := (ob (.type b1) (.fields ⟨[(.str a10 288),(.str a10 289),(.str a35 290),(i 26),(i 1),(i 0),(i 0),(i 3),(.ref 90),(.bool .true),(i 181),(.ref 91),.none,(.ref 92),(.ref 93),(.ref 94),(i 292),(i 26),(.str a35 293)]⟩))
noncomputable def o87 : Obj := (fO (.type b17) a10 (G.top 11) (.str a39 279) (.ref 95))
noncomputable def o88 : Obj := (ob (.type b0) (.seq ⟨[]⟩ 0))
noncomputable def o89 : Obj := (ob .none (.fields ⟨[]⟩))
noncomputable def o90 : Obj := (cO a11 (G.top 12))
noncomputable def o91 : Obj := (ob (.type b1) (.fields ⟨[(.str a11 295),(.str a11 296),(.str a35 297),(i 29),(i 2),(i 0),(i 0),(i 3),(.ref 97),(.bool .true),(i 181),(.ref 98),.none,.none,.none,(.ref 99),(i 298),(i 29),(.str a35 299)]⟩))
noncomputable def o92 : Obj := (fO (.type b17) a11 (G.top 12) (.str a39 279) (.ref 100))
noncomputable def o93 : Obj := (ob (.type b0) (.seq ⟨[]⟩ 0))
noncomputable def o94 : Obj := (ob .none (.fields ⟨[]⟩))
noncomputable def o95 : Obj := (cO a12 (G.top 13))
noncomputable def o96 : Obj := (ob (.type b1) (.fields ⟨[(.str a12 301),(.str a12 302),(.str a35 303),(i 32),(i 1),(i 0),(i 0),(i 3),(.ref 102),(.bool .true),(i 181),(.ref 103),.none,.none,.none,(.ref 104),(i 304),(i 32),(.str a35 305)]⟩))
noncomputable def o97 : Obj := (fO (.type b17) a12 (G.top 13) (.str a39 279) (.ref 105))
noncomputable def o98 : Obj := (ob (.type b0) (.seq ⟨[]⟩ 0))
noncomputable def o99 : Obj := (ob .none (.fields ⟨[]⟩))
noncomputable def a56 : Str := ⟨⟨[110,101,97,114]⟩⟩
noncomputable def a57 : Str := ⟨⟨[115,116,97,114,116]⟩⟩
noncomputable def a58 : Str := ⟨⟨[102,111,117,110,100]⟩⟩
noncomputable def a59 : Str := ⟨⟨[108,105,110,101]⟩⟩
noncomputable def a60 : Str := ⟨⟨[97,116]⟩⟩
noncomputable def a61 : Str := ⟨⟨[111,116,104,101,114]⟩⟩
noncomputable def o100 : Obj := (ob (.type b0) (.seq ⟨[(.str a56 310),(.str a55 311),(.str a57 312),(.str a58 313),(.str a59 314),(.str a60 315),(.str a61 316)]⟩ 0))
noncomputable def o101 : Obj := (ob (.type b0) (.seq ⟨[]⟩ 0))
noncomputable def o102 : Obj := (cO a13 (G.top 14))
noncomputable def o103 : Obj := (ob (.type b1) (.fields ⟨[(.str a13 307),(.str a13 308),(.str a35 309),(i 34),(i 3),(i 0),(i 0),(i 3),(.ref 107),(.bool .true),(i 181),(.ref 108),.none,(.ref 109),(.ref 110),(.ref 111),(i 317),(i 34),(.str a35 318)]⟩))
noncomputable def o104 : Obj := (fO (.type b17) a13 (G.top 14) (.str a39 279) (.ref 112))
noncomputable def o105 : Obj := (ob (.type b0) (.seq ⟨[]⟩ 0))
noncomputable def o106 : Obj := (ob .none (.fields ⟨[]⟩))
noncomputable def o107 : Obj := (cO a14 (G.top 15))
noncomputable def o108 : Obj := (ob (.type b1) (.fields ⟨[(.str a14 320),(.str a14 321),(.str a35 322),(i 45),(i 2),(i 0),(i 0),(i 3),(.ref 114),(.bool .true),(i 181),(.ref 115),.none,.none,.none,(.ref 116),(i 323),(i 45),(.str a35 324)]⟩))
noncomputable def o109 : Obj := (fO (.type b17) a14 (G.top 15) (.str a39 279) (.ref 117))
noncomputable def o110 : Obj := (ob (.type b0) (.seq ⟨[]⟩ 0))
noncomputable def o111 : Obj := (ob .none (.fields ⟨[]⟩))
noncomputable def o112 : Obj := (cO a15 (G.top 16))
noncomputable def o113 : Obj := (ob (.type b1) (.fields ⟨[(.str a15 326),(.str a15 327),(.str a35 328),(i 47),(i 3),(i 0),(i 0),(i 3),(.ref 119),(.bool .true),(i 181),(.ref 120),.none,.none,.none,(.ref 121),(i 329),(i 47),(.str a35 330)]⟩))
noncomputable def o114 : Obj := (fO (.type b17) a15 (G.top 16) (.str a39 279) (.ref 122))
noncomputable def o115 : Obj := (ob (.type b0) (.seq ⟨[]⟩ 0))
noncomputable def o116 : Obj := (ob .none (.fields ⟨[]⟩))
noncomputable def a62 : Str := ⟨⟨[111,110,101]⟩⟩
noncomputable def o117 : Obj := (ob (.type b0) (.seq ⟨[(.str a62 335),(.str a61 336)]⟩ 0))
noncomputable def o118 : Obj := (ob (.type b0) (.seq ⟨[]⟩ 0))
noncomputable def o119 : Obj := (cO a16 (G.top 17))
noncomputable def o120 : Obj := (ob (.type b1) (.fields ⟨[(.str a16 332),(.str a16 333),(.str a35 334),(i 49),(i 2),(i 0),(i 0),(i 3),(.ref 124),(.bool .true),(i 181),(.ref 125),.none,(.ref 126),(.ref 127),(.ref 128),(i 337),(i 49),(.str a35 338)]⟩))
noncomputable def o121 : Obj := (fO (.type b17) a16 (G.top 17) (.str a39 279) (.ref 129))
noncomputable def o122 : Obj := (ob (.type b0) (.seq ⟨[]⟩ 0))
noncomputable def o123 : Obj := (ob .none (.fields ⟨[]⟩))
noncomputable def o124 : Obj := (cO a17 (G.top 18))
noncomputable def o125 : Obj := (ob (.type b1) (.fields ⟨[(.str a17 340),(.str a17 341),(.str a35 342),(i 51),(i 4),(i 0),(i 0),(i 3),(.ref 131),(.bool .true),(i 181),(.ref 132),.none,.none,.none,(.ref 133),(i 343),(i 51),(.str a35 344)]⟩))
noncomputable def o126 : Obj := (fO (.type b17) a17 (G.top 18) (.str a39 279) (.ref 134))
noncomputable def o127 : Obj := (ob (.type b0) (.seq ⟨[]⟩ 0))
noncomputable def o128 : Obj := (ob .none (.fields ⟨[]⟩))
noncomputable def a63 : Str := ⟨⟨[108,111,111,107,115]⟩⟩
noncomputable def a64 : Str := ⟨⟨[107,105,110,100]⟩⟩
noncomputable def o129 : Obj := (ob (.type b0) (.seq ⟨[(.str a54 349),(.str a63 350),(.str a64 351),(.str a56 352),(.str a55 353),(.str a58 354)]⟩ 0))
noncomputable def o130 : Obj := (ob (.type b0) (.seq ⟨[]⟩ 0))
noncomputable def o131 : Obj := (cO a18 (G.top 19))
noncomputable def o132 : Obj := (ob (.type b1) (.fields ⟨[(.str a18 346),(.str a18 347),(.str a35 348),(i 60),(i 3),(i 0),(i 0),(i 3),(.ref 136),(.bool .true),(i 181),(.ref 137),.none,(.ref 138),(.ref 139),(.ref 140),(i 355),(i 60),(.str a35 356)]⟩))
noncomputable def o133 : Obj := (fO (.type b17) a18 (G.top 19) (.str a39 279) (.ref 141))
noncomputable def o134 : Obj := (ob (.type b0) (.seq ⟨[]⟩ 0))
noncomputable def o135 : Obj := (ob .none (.fields ⟨[]⟩))
noncomputable def a65 : Str := ⟨⟨[115,99,114,105,112,116]⟩⟩
noncomputable def a66 : Str := ⟨⟨[109,97,110,121]⟩⟩
noncomputable def a67 : Str := ⟨⟨[99,101,108,108,115]⟩⟩
noncomputable def a68 : Str := ⟨⟨[107]⟩⟩
noncomputable def a69 : Str := ⟨⟨[99,101,108,108]⟩⟩
noncomputable def o136 : Obj := (ob (.type b0) (.seq ⟨[(.str a65 363),(.str a66 364),(.str a67 365),(.str a68 366),(.str a69 367)]⟩ 0))
noncomputable def o137 : Obj := (ob (.type b0) (.seq ⟨[]⟩ 0))
noncomputable def o138 : Obj := (cO a19 (G.top 21))
noncomputable def o139 : Obj := (ob (.type b1) (.fields ⟨[(.str a19 360),(.str a19 361),(.str a35 362),(i 72),(i 2),(i 0),(i 0),(i 3),(.ref 143),(.bool .true),(i 181),(.ref 144),.none,(.ref 145),(.ref 146),(.ref 147),(i 368),(i 72),(.str a35 369)]⟩))
noncomputable def o140 : Obj := (fO (.type b17) a19 (G.top 21) (.str a40 358) (.ref 148))
noncomputable def o141 : Obj := (ob (.type b0) (.seq ⟨[]⟩ 0))
noncomputable def o142 : Obj := (ob .none (.fields ⟨[]⟩))
noncomputable def a70 : Str := ⟨⟨[114,101,115,116]⟩⟩
noncomputable def o143 : Obj := (ob (.type b0) (.seq ⟨[(.str a67 374),(.str a68 375),(.str a69 376),(.str a70 377)]⟩ 0))
noncomputable def o144 : Obj := (ob (.type b0) (.seq ⟨[]⟩ 0))
noncomputable def o145 : Obj := (cO a20 (G.top 22))
noncomputable def o146 : Obj := (ob (.type b1) (.fields ⟨[(.str a20 371),(.str a20 372),(.str a35 373),(i 77),(i 2),(i 0),(i 0),(i 3),(.ref 150),(.bool .true),(i 181),(.ref 151),.none,(.ref 152),(.ref 153),(.ref 154),(i 378),(i 77),(.str a35 379)]⟩))
noncomputable def o147 : Obj := (fO (.type b17) a20 (G.top 22) (.str a40 358) (.ref 155))
noncomputable def o148 : Obj := (ob (.type b0) (.seq ⟨[]⟩ 0))
noncomputable def o149 : Obj := (ob .none (.fields ⟨[]⟩))
noncomputable def a71 : Str := ⟨⟨[112,111,111,108]⟩⟩
noncomputable def o150 : Obj := (ob (.type b0) (.seq ⟨[(.str a71 384),(.str a66 385),(.str a58 386)]⟩ 0))
noncomputable def o151 : Obj := (ob (.type b0) (.seq ⟨[]⟩ 0))
noncomputable def o152 : Obj := (cO a21 (G.top 23))
noncomputable def o153 : Obj := (ob (.type b1) (.fields ⟨[(.str a21 381),(.str a21 382),(.str a35 383),(i 85),(i 2),(i 0),(i 0),(i 3),(.ref 157),(.bool .true),(i 181),(.ref 158),.none,(.ref 159),(.ref 160),(.ref 161),(i 387),(i 85),(.str a35 388)]⟩))
noncomputable def o154 : Obj := (fO (.type b17) a21 (G.top 23) (.str a40 358) (.ref 162))
noncomputable def o155 : Obj := (ob (.type b0) (.seq ⟨[]⟩ 0))
noncomputable def o156 : Obj := (ob .none (.fields ⟨[]⟩))
noncomputable def o157 : Obj := (cO a22 (G.top 24))
noncomputable def o158 : Obj := (ob (.type b1) (.fields ⟨[(.str a22 390),(.str a22 391),(.str a35 392),(i 92),(i 3),(i 0),(i 0),(i 3),(.ref 164),(.bool .true),(i 181),(.ref 165),.none,.none,.none,(.ref 166),(i 393),(i 92),(.str a35 394)]⟩))
noncomputable def o159 : Obj := (fO (.type b17) a22 (G.top 24) (.str a40 358) (.ref 167))
noncomputable def o160 : Obj := (ob (.type b0) (.seq ⟨[]⟩ 0))
noncomputable def o161 : Obj := (ob .none (.fields ⟨[]⟩))
noncomputable def o162 : Obj := (cO a23 (G.top 25))
noncomputable def o163 : Obj := (ob (.type b1) (.fields ⟨[(.str a23 396),(.str a23 397),(.str a35 398),(i 95),(i 3),(i 0),(i 0),(i 3),(.ref 169),(.bool .true),(i 181),(.ref 170),.none,.none,.none,(.ref 171),(i 399),(i 95),(.str a35 400)]⟩))
noncomputable def o164 : Obj := (fO (.type b17) a23 (G.top 25) (.str a40 358) (.ref 172))
noncomputable def o165 : Obj := (ob (.type b0) (.seq ⟨[]⟩ 0))
noncomputable def o166 : Obj := (ob .none (.fields ⟨[]⟩))
noncomputable def a72 : Str := ⟨⟨[109,111,115,116]⟩⟩
noncomputable def a73 : Str := ⟨⟨[115,104,97,112,101]⟩⟩
noncomputable def a74 : Str := ⟨⟨[116,105,101,115]⟩⟩
noncomputable def a75 : Str := ⟨⟨[97,104,101,97,100]⟩⟩
noncomputable def o167 : Obj := (ob (.type b0) (.seq ⟨[(.str a71 405),(.str a72 406),(.str a66 407),(.str a73 408),(.str a74 409),(.str a68 410),(.str a75 411)]⟩ 0))
noncomputable def o168 : Obj := (ob (.type b0) (.seq ⟨[]⟩ 0))
noncomputable def o169 : Obj := (cO a24 (G.top 26))
noncomputable def o170 : Obj := (ob (.type b1) (.fields ⟨[(.str a24 402),(.str a24 403),(.str a35 404),(i 98),(i 2),(i 0),(i 0),(i 3),(.ref 174),(.bool .true),(i 181),(.ref 175),.none,(.ref 176),(.ref 177),(.ref 178),(i 412),(i 98),(.str a35 413)]⟩))
noncomputable def o171 : Obj := (fO (.type b17) a24 (G.top 26) (.str a40 358) (.ref 179))
noncomputable def o172 : Obj := (ob (.type b0) (.seq ⟨[]⟩ 0))
noncomputable def o173 : Obj := (ob .none (.fields ⟨[]⟩))
noncomputable def o174 : Obj := (cO a25 (G.top 27))
noncomputable def o175 : Obj := (ob (.type b1) (.fields ⟨[(.str a25 415),(.str a25 416),(.str a35 417),(i 106),(i 1),(i 0),(i 0),(i 3),(.ref 181),(.bool .true),(i 181),(.ref 182),.none,.none,.none,(.ref 183),(i 418),(i 106),(.str a35 419)]⟩))
noncomputable def o176 : Obj := (fO (.type b17) a25 (G.top 27) (.str a40 358) (.ref 184))
noncomputable def o177 : Obj := (ob (.type b0) (.seq ⟨[]⟩ 0))
noncomputable def o178 : Obj := (ob .none (.fields ⟨[]⟩))
noncomputable def a76 : Str := ⟨⟨[101,100,103,101]⟩⟩
noncomputable def a77 : Str := ⟨⟨[98,101,121,111,110,100]⟩⟩
noncomputable def o179 : Obj := (ob (.type b0) (.seq ⟨[(.str a56 424),(.str a55 425),(.str a58 426),(.str a76 427),(.str a77 428),(.str a62 429),(.str a61 430)]⟩ 0))
noncomputable def o180 : Obj := (ob (.type b0) (.seq ⟨[]⟩ 0))
noncomputable def o181 : Obj := (cO a26 (G.top 28))
noncomputable def o182 : Obj := (ob (.type b1) (.fields ⟨[(.str a26 421),(.str a26 422),(.str a35 423),(i 112),(i 2),(i 0),(i 0),(i 3),(.ref 186),(.bool .true),(i 181),(.ref 187),.none,(.ref 188),(.ref 189),(.ref 190),(i 431),(i 112),(.str a35 432)]⟩))
noncomputable def o183 : Obj := (fO (.type b17) a26 (G.top 28) (.str a40 358) (.ref 191))
noncomputable def o184 : Obj := (ob (.type b0) (.seq ⟨[]⟩ 0))
noncomputable def o185 : Obj := (ob .none (.fields ⟨[]⟩))
noncomputable def a78 : Str := ⟨⟨[112,108,97,99,101,115]⟩⟩
noncomputable def o186 : Obj := (ob (.type b0) (.seq ⟨[(.str a54 437),(.str a64 438),(.str a78 439)]⟩ 0))
noncomputable def o187 : Obj := (ob (.type b0) (.seq ⟨[]⟩ 0))
noncomputable def o188 : Obj := (cO a27 (G.top 29))
noncomputable def o189 : Obj := (ob (.type b1) (.fields ⟨[(.str a27 434),(.str a27 435),(.str a35 436),(i 124),(i 2),(i 0),(i 0),(i 3),(.ref 193),(.bool .true),(i 181),(.ref 194),.none,(.ref 195),(.ref 196),(.ref 197),(i 440),(i 124),(.str a35 441)]⟩))
noncomputable def o190 : Obj := (fO (.type b17) a27 (G.top 29) (.str a40 358) (.ref 198))
noncomputable def o191 : Obj := (ob (.type b0) (.seq ⟨[]⟩ 0))
noncomputable def o192 : Obj := (ob .none (.fields ⟨[]⟩))
noncomputable def o193 : Obj := (cO a28 (G.top 30))
noncomputable def o194 : Obj := (ob (.type b1) (.fields ⟨[(.str a28 443),(.str a28 444),(.str a35 445),(i 127),(i 2),(i 0),(i 0),(i 3),(.ref 200),(.bool .true),(i 181),(.ref 201),.none,.none,.none,(.ref 202),(i 446),(i 127),(.str a35 447)]⟩))
noncomputable def o195 : Obj := (fO (.type b17) a28 (G.top 30) (.str a40 358) (.ref 203))
noncomputable def o196 : Obj := (ob (.type b0) (.seq ⟨[]⟩ 0))
noncomputable def o197 : Obj := (ob .none (.fields ⟨[]⟩))
noncomputable def o198 : Obj := (cO a29 (G.top 31))
noncomputable def o199 : Obj := (ob (.type b1) (.fields ⟨[(.str a29 449),(.str a29 450),(.str a35 451),(i 131),(i 3),(i 0),(i 0),(i 3),(.ref 205),(.bool .true),(i 181),(.ref 206),.none,.none,.none,(.ref 207),(i 452),(i 131),(.str a35 453)]⟩))
noncomputable def o200 : Obj := (fO (.type b17) a29 (G.top 31) (.str a40 358) (.ref 208))
noncomputable def o201 : Obj := (ob (.type b0) (.seq ⟨[]⟩ 0))
noncomputable def o202 : Obj := (ob .none (.fields ⟨[]⟩))
noncomputable def o203 : Obj := (cO a30 (G.top 32))
noncomputable def o204 : Obj := (ob (.type b1) (.fields ⟨[(.str a30 455),(.str a30 456),(.str a35 457),(i 135),(i 2),(i 0),(i 0),(i 3),(.ref 210),(.bool .true),(i 181),(.ref 211),.none,.none,.none,(.ref 212),(i 458),(i 135),(.str a35 459)]⟩))
noncomputable def o205 : Obj := (fO (.type b17) a30 (G.top 32) (.str a40 358) (.ref 213))
noncomputable def o206 : Obj := (ob (.type b0) (.seq ⟨[]⟩ 0))
noncomputable def o207 : Obj := (ob .none (.fields ⟨[]⟩))
noncomputable def o208 : Obj := (cO a31 (G.top 33))
noncomputable def o209 : Obj := (ob (.type b1) (.fields ⟨[(.str a31 461),(.str a31 462),(.str a35 463),(i 138),(i 1),(i 0),(i 0),(i 3),(.ref 215),(.bool .true),(i 181),(.ref 216),.none,.none,.none,(.ref 217),(i 464),(i 138),(.str a35 465)]⟩))
noncomputable def o210 : Obj := (fO (.type b17) a31 (G.top 33) (.str a40 358) (.ref 218))
noncomputable def o211 : Obj := (ob (.type b0) (.seq ⟨[]⟩ 0))
noncomputable def o212 : Obj := (ob .none (.fields ⟨[]⟩))
noncomputable def o213 : Obj := (cO a32 (G.top 34))
noncomputable def o214 : Obj := (ob (.type b1) (.fields ⟨[(.str a32 467),(.str a32 468),(.str a35 469),(i 140),(i 3),(i 0),(i 0),(i 3),(.ref 220),(.bool .true),(i 181),(.ref 221),.none,.none,.none,(.ref 222),(i 470),(i 140),(.str a35 471)]⟩))
noncomputable def o215 : Obj := (fO (.type b17) a32 (G.top 34) (.str a40 358) (.ref 223))
noncomputable def o216 : Obj := (ob (.type b0) (.seq ⟨[]⟩ 0))
noncomputable def o217 : Obj := (ob .none (.fields ⟨[]⟩))
noncomputable def a79 : Str := ⟨⟨[101,110,100,115]⟩⟩
noncomputable def a80 : Str := ⟨⟨[115,111,109,101]⟩⟩
noncomputable def o218 : Obj := (ob (.type b0) (.seq ⟨[(.str a65 476),(.str a67 477),(.str a68 478),(.str a71 479),(.str a54 480),(.str a79 481),(.str a60 482),(.str a80 483),(.str a63 484),(.str a64 485)]⟩ 0))
noncomputable def o219 : Obj := (ob (.type b0) (.seq ⟨[]⟩ 0))
noncomputable def o220 : Obj := (cO a33 (G.top 35))
noncomputable def o221 : Obj := (ob (.type b1) (.fields ⟨[(.str a33 473),(.str a33 474),(.str a35 475),(i 156),(i 1),(i 0),(i 0),(i 3),(.ref 225),(.bool .true),(i 181),(.ref 226),.none,(.ref 227),(.ref 228),(.ref 229),(i 486),(i 156),(.str a35 487)]⟩))
noncomputable def o222 : Obj := (fO (.type b17) a33 (G.top 35) (.str a40 358) (.ref 230))
noncomputable def t0 (P : PySem.Params) : PySem.W.BT := (n (q0 P) (n (q1 P) (n (o4 P) (n (q7 P) (n o6 (n o22 (n o54 (l o118) (l o182)) (n o86 (l o150) (l o214))) (n o38 (n o70 (l o134) (l o198)) (n o102 (l o166) .nil))) (n (o14 P) (n o30 (n o62 (l o126) (l o190)) (n o94 (l o158) (l o222))) (n o46 (n o78 (l o142) (l o206)) (n o110 (l o174) .nil)))) (n o0 (n o10 (n o26 (n o58 (l o122) (l o186)) (n o90 (l o154) (l o218))) (n o42 (n o74 (l o138) (l o202)) (n o106 (l o170) .nil))) (n o18 (n o34 (n o66 (l o130) (l o194)) (n o98 (l o162) .nil)) (n o50 (n o82 (l o146) (l o210)) (n o114 (l o178) .nil))))) (n (q5 P) (n (q9 P) (n (o8 P) (n o24 (n o56 (l o120) (l o184)) (n o88 (l o152) (l o216))) (n o40 (n o72 (l o136) (l o200)) (n o104 (l o168) .nil))) (n o16 (n o32 (n o64 (l o128) (l o192)) (n o96 (l o160) .nil)) (n o48 (n o80 (l o144) (l o208)) (n o112 (l o176) .nil)))) (n o2 (n o12 (n o28 (n o60 (l o124) (l o188)) (n o92 (l o156) (l o220))) (n o44 (n o76 (l o140) (l o204)) (n o108 (l o172) .nil))) (n o20 (n o36 (n o68 (l o132) (l o196)) (n o100 (l o164) .nil)) (n o52 (n o84 (l o148) (l o212)) (n o116 (l o180) .nil)))))) (n (q2 P) (n (q4 P) (n (q8 P) (n o7 (n o23 (n o55 (l o119) (l o183)) (n o87 (l o151) (l o215))) (n (o39 P) (n o71 (l o135) (l o199)) (n o103 (l o167) .nil))) (n o15 (n o31 (n o63 (l o127) (l o191)) (n o95 (l o159) .nil)) (n o47 (n o79 (l o143) (l o207)) (n o111 (l o175) .nil)))) (n o5 (n o11 (n (o27 P) (n o59 (l o123) (l o187)) (n o91 (l o155) (l o219))) (n o43 (n o75 (l o139) (l o203)) (n o107 (l o171) .nil))) (n o19 (n o35 (n o67 (l o131) (l o195)) (n o99 (l o163) .nil)) (n (o51 P) (n o83 (l o147) (l o211)) (n o115 (l o179) .nil))))) (n (q6 P) (n (q10 P) (n o9 (n o25 (n o57 (l o121) (l o185)) (n o89 (l o153) (l o217))) (n o41 (n o73 (l o137) (l o201)) (n o105 (l o169) .nil))) (n o17 (n (o33 P) (n o65 (l o129) (l o193)) (n o97 (l o161) .nil)) (n o49 (n o81 (l o145) (l o209)) (n o113 (l o177) .nil)))) (n o3 (n o13 (n o29 (n o61 (l o125) (l o189)) (n o93 (l o157) (l o221))) (n (o45 P) (n o77 (l o141) (l o205)) (n o109 (l o173) .nil))) (n (o21 P) (n o37 (n o69 (l o133) (l o197)) (n o101 (l o165) .nil)) (n o53 (n o85 (l o149) (l o213)) (n o117 (l o181) .nil)))))))
theorem pz0 : ∀ w : PySem.World, (fun os : PySem.OsState => PySem.W.Fast.tw10110043849684766642 PySem.W.Fast.tw14364793385576792824 PySem.Challenge.pw_farhail_k19_tree_likes_told w 11 (some (.ref 6)) 1 1678 (PySem.W.SharedT.mk (tB w.params) 15 (.mk [] [] [] 0 [] [] .false ⟨[]⟩ [] 0 .false .false .false 0 [2000,10,10] .false 0 .true [] [] 0 .false) (Array.mk ([] : List PySem.GenState)) (.mk 0 0 0 0) 187 os) (PySem.W.piecesOf sts0 env code (.mk 0 0 0 0) B)) = fun os => some (PySem.Flow.next, (PySem.W.SharedT.mk (t0 w.params) 232 (.mk [] [] [] 0 [] [] .false ⟨[]⟩ [] 0 .false .false .false 0 [2000,10,10] .false 0 .true [] [] 0 .false) (Array.mk ([] : List PySem.GenState)) (.mk 0 0 0 0) 489 os), code, (.mk 156 0 168 15)) := fun w => by kernel_rfl
theorem p0 (w : PySem.World) (os : PySem.OsState) : PySem.W.segRun PySem.treeTable PySem.Challenge.pw_farhail_k19_tree_likes_told w 11 (some (.ref 6)) 1 1678 (PySem.W.SharedT.mk (tB w.params) 15 (.mk [] [] [] 0 [] [] .false ⟨[]⟩ [] 0 .false .false .false 0 [2000,10,10] .false 0 .true [] [] 0 .false) (Array.mk ([] : List PySem.GenState)) (.mk 0 0 0 0) 187 os).abs (PySem.W.piecesOf sts0 env code (.mk 0 0 0 0) B) = some (PySem.Flow.next, (PySem.W.SharedT.mk (t0 w.params) 232 (.mk [] [] [] 0 [] [] .false ⟨[]⟩ [] 0 .false .false .false 0 [2000,10,10] .false 0 .true [] [] 0 .false) (Array.mk ([] : List PySem.GenState)) (.mk 0 0 0 0) 489 os).abs, code, (.mk 156 0 168 15)) := PySem.W.segRun_of (by rw [PySem.W.Fast.te10110043849684766642, PySem.W.Fast.te14364793385576792824]; exact congrFun (pz0 w) os)
noncomputable def hF (P : PySem.Params) : PySem.Heap := ⟨⟨[(q0 P), (q1 P), (q2 P), (o4 P), (q4 P), (q5 P), (q6 P), (q7 P), (q8 P), (q9 P), (q10 P), o0, o5, o2, o3, o6, o7, (o8 P), o9, o10, o11, o12, o13, (o14 P), o15, o16, o17, o18, o19, o20, (o21 P), o22, o23, o24, o25, o26, (o27 P), o28, o29, o30, o31, o32, (o33 P), o34, o35, o36, o37, o38, (o39 P), o40, o41, o42, o43, o44, (o45 P), o46, o47, o48, o49, o50, (o51 P), o52, o53, o54, o55, o56, o57, o58, o59, o60, o61, o62, o63, o64, o65, o66, o67, o68, o69, o70, o71, o72, o73, o74, o75, o76, o77, o78, o79, o80, o81, o82, o83, o84, o85, o86, o87, o88, o89, o90, o91, o92, o93, o94, o95, o96, o97, o98, o99, o100, o101, o102, o103, o104, o105, o106, o107, o108, o109, o110, o111, o112, o113, o114, o115, o116, o117, o118, o119, o120, o121, o122, o123, o124, o125, o126, o127, o128, o129, o130, o131, o132, o133, o134, o135, o136, o137, o138, o139, o140, o141, o142, o143, o144, o145, o146, o147, o148, o149, o150, o151, o152, o153, o154, o155, o156, o157, o158, o159, o160, o161, o162, o163, o164, o165, o166, o167, o168, o169, o170, o171, o172, o173, o174, o175, o176, o177, o178, o179, o180, o181, o182, o183, o184, o185, o186, o187, o188, o189, o190, o191, o192, o193, o194, o195, o196, o197, o198, o199, o200, o201, o202, o203, o204, o205, o206, o207, o208, o209, o210, o211, o212, o213, o214, o215, o216, o217, o218, o219, o220, o221, o222]⟩, (.mk [] [] [] 0 [] [] .false ⟨[]⟩ [] 0 .false .false .false 0 [2000,10,10] .false 0 .true [] [] 0 .false)⟩
theorem fin0 (w : PySem.World) : (fun os : PySem.OsState => PySem.W.Fast.tw14082659384304107361 PySem.W.Fast.tw14364793385576792824 PySem.Challenge.pw_farhail_k19_tree_likes_told w 11 (some (.ref 6)) 2 (PySem.W.SharedT.mk (t0 w.params) 232 (.mk [] [] [] 0 [] [] .false ⟨[]⟩ [] 0 .false .false .false 0 [2000,10,10] .false 0 .true [] [] 0 .false) (Array.mk ([] : List PySem.GenState)) (.mk 0 0 0 0) 489 os).abs (PySem.Thread.mk (PySem.W.doneF PySem.Flow.next) code (.mk 156 0 168 15) B)) = fun os => some (PySem.Shared.mk (hF w.params) (Array.mk ([] : List PySem.GenState)) (.mk 0 0 0 0) 489 os) := by kernel_rfl
theorem fin (w : PySem.World) (os : PySem.OsState) : PySem.W.topRun PySem.treeTable PySem.Challenge.pw_farhail_k19_tree_likes_told w 11 (some (.ref 6)) 2 (PySem.W.SharedT.mk (t0 w.params) 232 (.mk [] [] [] 0 [] [] .false ⟨[]⟩ [] 0 .false .false .false 0 [2000,10,10] .false 0 .true [] [] 0 .false) (Array.mk ([] : List PySem.GenState)) (.mk 0 0 0 0) 489 os).abs (PySem.W.restOf [] env code (.mk 156 0 168 15) B) = some (PySem.Shared.mk (hF w.params) (Array.mk ([] : List PySem.GenState)) (.mk 0 0 0 0) 489 os) := by rw [show PySem.W.restOf [] env code (.mk 156 0 168 15) B = (PySem.Thread.mk (PySem.W.doneF PySem.Flow.next) code (.mk 156 0 168 15) B) by kernel_rfl, PySem.W.Fast.te14082659384304107361, PySem.W.Fast.te14364793385576792824]; exact congrFun (fin0 w) os
theorem parts : PySem.W.behindTheImports PySem.Challenge.pw_farhail_k19_tree_likes_told = (sts0 ++ []) := by kernel_rfl
noncomputable abbrev SF (w : PySem.World) (os : PySem.OsState) : PySem.Shared := (PySem.Shared.mk (hF w.params) (Array.mk ([] : List PySem.GenState)) (.mk 0 0 0 0) 489 os)
theorem with_parts {tb : String → Option PySem.Builtin} {p : PySem.Program} {w : PySem.World} {n₀ : Nat} {a : Option PySem.Value} {N : Nat} {s : PySem.Shared} {r : Option PySem.Shared} {b b' : List PySem.Stmt} {e : PySem.Env} {c : PySem.Code} {q : PySem.Pos} {F : List PySem.Frame} (h : b = b') (k : PySem.W.topRun tb p w n₀ a N s (PySem.W.restOf b' e c q F) = r) : PySem.W.topRun tb p w n₀ a N s (PySem.W.restOf b e c q F) = r := by rw [h]; exact k
theorem run (w : PySem.World) (os : PySem.OsState) : PySem.W.topRun PySem.treeTable PySem.Challenge.pw_farhail_k19_tree_likes_told w 11 (some (.ref 6)) (12 + (1 + (1678 + 2))) (PySem.Shared.mk (PySem.W.boot_heap w.params) (Array.mk ([] : List PySem.GenState)) PySem.W.boot_drawn PySem.W.boot_toks os) (PySem.W.topStub PySem.Challenge.pw_farhail_k19_tree_likes_told) = some (PySem.Shared.mk (hF w.params) (Array.mk ([] : List PySem.GenState)) (.mk 0 0 0 0) 489 os) := PySem.W.go_top (pre w os) (PySem.W.piece_block (block w os) (with_parts parts (PySem.W.piece_app (p0 w os) (fin w os))))
theorem opens : ∀ w : PySem.World, (PySem.W.fencedOpening PySem.treeTable PySem.Challenge.pw_farhail_k19_tree_likes_told w 3480).map (fun s => (s.heap, s.gens, s.drawn, s.toks)) = some (PySem.W.boot_heap w.params, Array.mk [], PySem.W.boot_drawn, PySem.W.boot_toks) := PySem.W.boot_open (by kernel_rfl) (by kernel_rfl) (fun s => by kernel_rfl)
theorem size : ∀ w : PySem.World, ((PySem.W.boot_heap w.params).isNs PySem.mainGlobals && (Array.mk [] : Array PySem.GenState).size == 0, (PySem.W.boot_heap w.params).objs.size, (PySem.W.boot_heap w.params).nsMap PySem.mainGlobals "__annotations__") = (true, 11, (some (.ref 6))) := fun w => by kernel_rfl
noncomputable def K : PySem.Params → PySem.W.Frag := fun P => (nat_lit 2, (ob .none (.dict ⟨[]⟩ 0))) :: (nat_lit 3, (ob (.type "dict") (.dict ⟨[(.mk (PyData.keyHash P "__name__") (.str "__name__" 165) (.str "law_farhail_k19_tree_likes_told" 358)),(.mk (PyData.keyHash P "__doc__") (.str "__doc__" 166) .none),(.mk (PyData.keyHash P "__package__") (.str "__package__" 167) .none),(.mk (PyData.keyHash P "__loader__") (.str "__loader__" 168) (.builtin "__main__.__loader__#opaque")),(.mk (PyData.keyHash P "__spec__") (.str "__spec__" 169) .none),(.mk (PyData.keyHash P "__annotations__") (.str "__annotations__" 170) (.ref 6)),(.mk (PyData.keyHash P "__builtins__") (.str "__builtins__" 171) (.ref 4)),(.mk (PyData.keyHash P "__file__") (.str "__file__" 173) (.str "/claim/cut.py" 172)),(.mk (PyData.keyHash P "__cached__") (.str "__cached__" 174) .none),(.mk (PyData.keyHash P "HailError") (.str "HailError" 206) (.ref 24)),(.mk (PyData.keyHash P "NoPlace") (.str "NoPlace" 222) (.ref 37)),(.mk (PyData.keyHash P "NoLooks") (.str "NoLooks" 238) (.ref 49)),(.mk (PyData.keyHash P "NoTree") (.str "NoTree" 254) (.ref 61)),(.mk (PyData.keyHash P "near_lists") (.str "near_lists" 262) (.ref 68)),(.mk (PyData.keyHash P "place_asked") (.str "place_asked" 270) (.ref 75)),(.mk (PyData.keyHash P "neighbours_of") (.str "neighbours_of" 278) (.ref 82)),(.mk (PyData.keyHash P "is_tree") (.str "is_tree" 287) (.ref 89)),(.mk (PyData.keyHash P "tree_asked") (.str "tree_asked" 294) (.ref 96)),(.mk (PyData.keyHash P "rising_asked") (.str "rising_asked" 300) (.ref 101)),(.mk (PyData.keyHash P "all_near") (.str "all_near" 306) (.ref 106)),(.mk (PyData.keyHash P "piece_from") (.str "piece_from" 319) (.ref 113)),(.mk (PyData.keyHash P "pieces_by") (.str "pieces_by" 325) (.ref 118)),(.mk (PyData.keyHash P "looks_in") (.str "looks_in" 331) (.ref 123)),(.mk (PyData.keyHash P "tie_of") (.str "tie_of" 339) (.ref 130)),(.mk (PyData.keyHash P "likes_at") (.str "likes_at" 345) (.ref 135)),(.mk (PyData.keyHash P "tree_likes") (.str "tree_likes" 357) (.ref 142)),(.mk (PyData.keyHash P "_law_cells") (.str "_law_cells" 370) (.ref 149)),(.mk (PyData.keyHash P "_law_pool") (.str "_law_pool" 380) (.ref 156)),(.mk (PyData.keyHash P "_law_take") (.str "_law_take" 389) (.ref 163)),(.mk (PyData.keyHash P "_law_some") (.str "_law_some" 395) (.ref 168)),(.mk (PyData.keyHash P "_law_named") (.str "_law_named" 401) (.ref 173)),(.mk (PyData.keyHash P "_law_tree") (.str "_law_tree" 414) (.ref 180)),(.mk (PyData.keyHash P "_law_near") (.str "_law_near" 420) (.ref 185)),(.mk (PyData.keyHash P "_law_steps") (.str "_law_steps" 433) (.ref 192)),(.mk (PyData.keyHash P "_law_things") (.str "_law_things" 442) (.ref 199)),(.mk (PyData.keyHash P "_law_code") (.str "_law_code" 448) (.ref 204)),(.mk (PyData.keyHash P "_law_codes") (.str "_law_codes" 454) (.ref 209)),(.mk (PyData.keyHash P "_law_looks") (.str "_law_looks" 460) (.ref 214)),(.mk (PyData.keyHash P "_law_ends") (.str "_law_ends" 466) (.ref 219)),(.mk (PyData.keyHash P "_law_right") (.str "_law_right" 472) (.ref 224)),(.mk (PyData.keyHash P "law") (.str "law" 488) (.ref 231))]⟩ 41))) :: (nat_lit 15, (ob (.type "tuple") (.seq ⟨[(.type "ValueError")]⟩ 0))) :: (nat_lit 22, (ob (.type "tuple") (.seq ⟨[]⟩ 0))) :: (nat_lit 23, (ob (.type "dict") (.dict ⟨[(.mk (PyData.keyHash P "__module__") (.str "__module__" 196) (.str "farhail.errors" 187)),(.mk (PyData.keyHash P "__firstlineno__") (.str "__firstlineno__" 200) (.int 2 199)),(.mk (PyData.keyHash P "__static_attributes__") (.str "__static_attributes__" 201) (.ref 22)),(.mk (PyData.keyHash P "__weakref__") (.str "__weakref__" 203) (.ref 25)),(.mk (PyData.keyHash P "__doc__") (.str "__doc__" 204) .none)]⟩ 3))) :: (nat_lit 24, (.mk (.type "type") none (.cls (.mk "HailError" [(.type "ValueError")] [(.ref 24),(.type "ValueError"),(.type "Exception"),(.type "BaseException"),(.type "object")] 23 "HailError" .true [] [(.ref 37),(.ref 49),(.ref 61)] .false none .false)) ⟨[(some (.ref 15)),none,(some (.str "HailError" 189)),(some (.str "HailError" 197)),(some (.builtin "ValueError.__new__")),(some (.bool .true))]⟩)) :: (nat_lit 25, (ob (.type "getset_descriptor") (.fields ⟨[(.str "__weakref__" 202),(.ref 24),(.builtin "ExceptionGroup.__weakref__"),.none]⟩))) :: (nat_lit 28, (ob (.type "tuple") (.seq ⟨[(.ref 24)]⟩ 0))) :: (nat_lit 35, (ob (.type "tuple") (.seq ⟨[]⟩ 0))) :: (nat_lit 36, (ob (.type "dict") (.dict ⟨[(.mk (PyData.keyHash P "__module__") (.str "__module__" 214) (.str "farhail.errors" 187)),(.mk (PyData.keyHash P "__firstlineno__") (.str "__firstlineno__" 218) (.int 4 217)),(.mk (PyData.keyHash P "__static_attributes__") (.str "__static_attributes__" 219) (.ref 35)),(.mk (PyData.keyHash P "__doc__") (.str "__doc__" 220) .none)]⟩ 2))) :: (nat_lit 37, (.mk (.type "type") none (.cls (.mk "NoPlace" [(.ref 24)] [(.ref 37),(.ref 24),(.type "ValueError"),(.type "Exception"),(.type "BaseException"),(.type "object")] 36 "NoPlace" .true [] [] .false none .false)) ⟨[(some (.ref 28)),none,(some (.str "NoPlace" 207)),(some (.str "NoPlace" 215)),(some (.builtin "ValueError.__new__")),(some (.bool .true))]⟩)) :: (nat_lit 40, (ob (.type "tuple") (.seq ⟨[(.ref 24)]⟩ 0))) :: (nat_lit 47, (ob (.type "tuple") (.seq ⟨[]⟩ 0))) :: (nat_lit 48, (ob (.type "dict") (.dict ⟨[(.mk (PyData.keyHash P "__module__") (.str "__module__" 230) (.str "farhail.errors" 187)),(.mk (PyData.keyHash P "__firstlineno__") (.str "__firstlineno__" 234) (.int 6 233)),(.mk (PyData.keyHash P "__static_attributes__") (.str "__static_attributes__" 235) (.ref 47)),(.mk (PyData.keyHash P "__doc__") (.str "__doc__" 236) .none)]⟩ 2))) :: (nat_lit 49, (.mk (.type "type") none (.cls (.mk "NoLooks" [(.ref 24)] [(.ref 49),(.ref 24),(.type "ValueError"),(.type "Exception"),(.type "BaseException"),(.type "object")] 48 "NoLooks" .true [] [] .false none .false)) ⟨[(some (.ref 40)),none,(some (.str "NoLooks" 223)),(some (.str "NoLooks" 231)),(some (.builtin "ValueError.__new__")),(some (.bool .true))]⟩)) :: (nat_lit 52, (ob (.type "tuple") (.seq ⟨[(.ref 24)]⟩ 0))) :: (nat_lit 59, (ob (.type "tuple") (.seq ⟨[]⟩ 0))) :: (nat_lit 60, (ob (.type "dict") (.dict ⟨[(.mk (PyData.keyHash P "__module__") (.str "__module__" 246) (.str "farhail.errors" 187)),(.mk (PyData.keyHash P "__firstlineno__") (.str "__firstlineno__" 250) (.int 8 249)),(.mk (PyData.keyHash P "__static_attributes__") (.str "__static_attributes__" 251) (.ref 59)),(.mk (PyData.keyHash P "__doc__") (.str "__doc__" 252) .none)]⟩ 2))) :: (nat_lit 61, (.mk (.type "type") none (.cls (.mk "NoTree" [(.ref 24)] [(.ref 61),(.ref 24),(.type "ValueError"),(.type "Exception"),(.type "BaseException"),(.type "object")] 60 "NoTree" .true [] [] .false none .false)) ⟨[(some (.ref 52)),none,(some (.str "NoTree" 239)),(some (.str "NoTree" 247)),(some (.builtin "ValueError.__new__")),(some (.bool .true))]⟩)) :: (nat_lit 64, (ob (.type "tuple") (.seq ⟨[]⟩ 0))) :: (nat_lit 67, (ob (.type "code") (.fields ⟨[(.str "near_lists" 257),(.str "near_lists" 258),(.str "/claim/cut.py" 259),(.int 11 0),(.int 1 0),(.int 0 0),(.int 0 0),(.int 3 0),(.ref 64),(.bool .true),(.int 181 0),(.ref 65),.none,.none,.none,(.ref 66),(.int 260 0),(.int 11 0),(.str "/claim/cut.py" 261)]⟩))) :: (nat_lit 68, (fO (.type "function") "near_lists" (G.top 6) (.str "farhail.webs" 255) (.ref 67))) :: (nat_lit 69, (ob (.type "tuple") (.seq ⟨[]⟩ 0))) :: (nat_lit 71, (ob (.type "tuple") (.seq ⟨[(.str "web" 266),(.str "place" 267)]⟩ 0))) :: (nat_lit 72, (ob (.type "tuple") (.seq ⟨[]⟩ 0))) :: (nat_lit 74, (ob (.type "code") (.fields ⟨[(.str "place_asked" 263),(.str "place_asked" 264),(.str "/claim/cut.py" 265),(.int 17 0),(.int 2 0),(.int 0 0),(.int 0 0),(.int 3 0),(.ref 69),(.bool .true),(.int 181 0),(.ref 70),.none,(.ref 71),(.ref 72),(.ref 73),(.int 268 0),(.int 17 0),(.str "/claim/cut.py" 269)]⟩))) :: (nat_lit 75, (fO (.type "function") "place_asked" (G.top 7) (.str "farhail.webs" 255) (.ref 74))) :: (nat_lit 76, (ob (.type "tuple") (.seq ⟨[]⟩ 0))) :: (nat_lit 78, (ob (.type "tuple") (.seq ⟨[(.str "web" 274),(.str "place" 275)]⟩ 0))) :: (nat_lit 79, (ob (.type "tuple") (.seq ⟨[]⟩ 0))) :: (nat_lit 81, (ob (.type "code") (.fields ⟨[(.str "neighbours_of" 271),(.str "neighbours_of" 272),(.str "/claim/cut.py" 273),(.int 20 0),(.int 2 0),(.int 0 0),(.int 0 0),(.int 3 0),(.ref 76),(.bool .true),(.int 181 0),(.ref 77),.none,(.ref 78),(.ref 79),(.ref 80),(.int 276 0),(.int 20 0),(.str "/claim/cut.py" 277)]⟩))) :: (nat_lit 82, (fO (.type "function") "neighbours_of" (G.top 8) (.str "farhail.webs" 255) (.ref 81))) :: (nat_lit 83, (ob (.type "tuple") (.seq ⟨[]⟩ 0))) :: (nat_lit 85, (ob (.type "tuple") (.seq ⟨[(.str "web" 284)]⟩ 0))) :: (nat_lit 86, (ob (.type "tuple") (.seq ⟨[]⟩ 0))) :: (nat_lit 88, (ob (.type "code") (.fields ⟨[(.str "is_tree" 281),(.str "is_tree" 282),(.str "/claim/cut.py" 283),(.int 24 0),(.int 1 0),(.int 0 0),(.int 0 0),(.int 3 0),(.ref 83),(.bool .true),(.int 181 0),(.ref 84),.none,(.ref 85),(.ref 86),(.ref 87),(.int 285 0),(.int 24 0),(.str "/claim/cut.py" 286)]⟩))) :: (nat_lit 89, (fO (.type "function") "is_tree" (G.top 10) (.str "farhail.trees" 279) (.ref 88))) :: (nat_lit 90, (ob (.type "tuple") (.seq ⟨[]⟩ 0))) :: (nat_lit 92, (ob (.type "tuple") (.seq ⟨[(.str "web" 291)]⟩ 0))) :: (nat_lit 93, (ob (.type "tuple") (.seq ⟨[]⟩ 0))) :: (nat_lit 95, (ob (.type "code") (.fields ⟨[(.str "tree_asked" 288),(.str "tree_asked" 289),(.str "/claim/cut.py" 290),(.int 26 0),(.int 1 0),(.int 0 0),(.int 0 0),(.int 3 0),(.ref 90),(.bool .true),(.int 181 0),(.ref 91),.none,(.ref 92),(.ref 93),(.ref 94),(.int 292 0),(.int 26 0),(.str "/claim/cut.py" 293)]⟩))) :: (nat_lit 96, (fO (.type "function") "tree_asked" (G.top 11) (.str "farhail.trees" 279) (.ref 95))) :: (nat_lit 97, (ob (.type "tuple") (.seq ⟨[]⟩ 0))) :: (nat_lit 100, (ob (.type "code") (.fields ⟨[(.str "rising_asked" 295),(.str "rising_asked" 296),(.str "/claim/cut.py" 297),(.int 29 0),(.int 2 0),(.int 0 0),(.int 0 0),(.int 3 0),(.ref 97),(.bool .true),(.int 181 0),(.ref 98),.none,.none,.none,(.ref 99),(.int 298 0),(.int 29 0),(.str "/claim/cut.py" 299)]⟩))) :: (nat_lit 101, (fO (.type "function") "rising_asked" (G.top 12) (.str "farhail.trees" 279) (.ref 100))) :: (nat_lit 102, (ob (.type "tuple") (.seq ⟨[]⟩ 0))) :: (nat_lit 105, (ob (.type "code") (.fields ⟨[(.str "all_near" 301),(.str "all_near" 302),(.str "/claim/cut.py" 303),(.int 32 0),(.int 1 0),(.int 0 0),(.int 0 0),(.int 3 0),(.ref 102),(.bool .true),(.int 181 0),(.ref 103),.none,.none,.none,(.ref 104),(.int 304 0),(.int 32 0),(.str "/claim/cut.py" 305)]⟩))) :: (nat_lit 106, (fO (.type "function") "all_near" (G.top 13) (.str "farhail.trees" 279) (.ref 105))) :: (nat_lit 107, (ob (.type "tuple") (.seq ⟨[]⟩ 0))) :: (nat_lit 109, (ob (.type "tuple") (.seq ⟨[(.str "near" 310),(.str "place" 311),(.str "start" 312),(.str "found" 313),(.str "line" 314),(.str "at" 315),(.str "other" 316)]⟩ 0))) :: (nat_lit 110, (ob (.type "tuple") (.seq ⟨[]⟩ 0))) :: (nat_lit 112, (ob (.type "code") (.fields ⟨[(.str "piece_from" 307),(.str "piece_from" 308),(.str "/claim/cut.py" 309),(.int 34 0),(.int 3 0),(.int 0 0),(.int 0 0),(.int 3 0),(.ref 107),(.bool .true),(.int 181 0),(.ref 108),.none,(.ref 109),(.ref 110),(.ref 111),(.int 317 0),(.int 34 0),(.str "/claim/cut.py" 318)]⟩))) :: (nat_lit 113, (fO (.type "function") "piece_from" (G.top 14) (.str "farhail.trees" 279) (.ref 112))) :: (nat_lit 114, (ob (.type "tuple") (.seq ⟨[]⟩ 0))) :: (nat_lit 117, (ob (.type "code") (.fields ⟨[(.str "pieces_by" 320),(.str "pieces_by" 321),(.str "/claim/cut.py" 322),(.int 45 0),(.int 2 0),(.int 0 0),(.int 0 0),(.int 3 0),(.ref 114),(.bool .true),(.int 181 0),(.ref 115),.none,.none,.none,(.ref 116),(.int 323 0),(.int 45 0),(.str "/claim/cut.py" 324)]⟩))) :: (nat_lit 118, (fO (.type "function") "pieces_by" (G.top 15) (.str "farhail.trees" 279) (.ref 117))) :: (nat_lit 119, (ob (.type "tuple") (.seq ⟨[]⟩ 0))) :: (nat_lit 122, (ob (.type "code") (.fields ⟨[(.str "looks_in" 326),(.str "looks_in" 327),(.str "/claim/cut.py" 328),(.int 47 0),(.int 3 0),(.int 0 0),(.int 0 0),(.int 3 0),(.ref 119),(.bool .true),(.int 181 0),(.ref 120),.none,.none,.none,(.ref 121),(.int 329 0),(.int 47 0),(.str "/claim/cut.py" 330)]⟩))) :: (nat_lit 123, (fO (.type "function") "looks_in" (G.top 16) (.str "farhail.trees" 279) (.ref 122))) :: (nat_lit 124, (ob (.type "tuple") (.seq ⟨[]⟩ 0))) :: (nat_lit 126, (ob (.type "tuple") (.seq ⟨[(.str "one" 335),(.str "other" 336)]⟩ 0))) :: (nat_lit 127, (ob (.type "tuple") (.seq ⟨[]⟩ 0))) :: (nat_lit 129, (ob (.type "code") (.fields ⟨[(.str "tie_of" 332),(.str "tie_of" 333),(.str "/claim/cut.py" 334),(.int 49 0),(.int 2 0),(.int 0 0),(.int 0 0),(.int 3 0),(.ref 124),(.bool .true),(.int 181 0),(.ref 125),.none,(.ref 126),(.ref 127),(.ref 128),(.int 337 0),(.int 49 0),(.str "/claim/cut.py" 338)]⟩))) :: (nat_lit 130, (fO (.type "function") "tie_of" (G.top 17) (.str "farhail.trees" 279) (.ref 129))) :: (nat_lit 131, (ob (.type "tuple") (.seq ⟨[]⟩ 0))) :: (nat_lit 134, (ob (.type "code") (.fields ⟨[(.str "likes_at" 340),(.str "likes_at" 341),(.str "/claim/cut.py" 342),(.int 51 0),(.int 4 0),(.int 0 0),(.int 0 0),(.int 3 0),(.ref 131),(.bool .true),(.int 181 0),(.ref 132),.none,.none,.none,(.ref 133),(.int 343 0),(.int 51 0),(.str "/claim/cut.py" 344)]⟩))) :: (nat_lit 135, (fO (.type "function") "likes_at" (G.top 18) (.str "farhail.trees" 279) (.ref 134))) :: (nat_lit 136, (ob (.type "tuple") (.seq ⟨[]⟩ 0))) :: (nat_lit 138, (ob (.type "tuple") (.seq ⟨[(.str "web" 349),(.str "looks" 350),(.str "kind" 351),(.str "near" 352),(.str "place" 353),(.str "found" 354)]⟩ 0))) :: (nat_lit 139, (ob (.type "tuple") (.seq ⟨[]⟩ 0))) :: (nat_lit 141, (ob (.type "code") (.fields ⟨[(.str "tree_likes" 346),(.str "tree_likes" 347),(.str "/claim/cut.py" 348),(.int 60 0),(.int 3 0),(.int 0 0),(.int 0 0),(.int 3 0),(.ref 136),(.bool .true),(.int 181 0),(.ref 137),.none,(.ref 138),(.ref 139),(.ref 140),(.int 355 0),(.int 60 0),(.str "/claim/cut.py" 356)]⟩))) :: (nat_lit 142, (fO (.type "function") "tree_likes" (G.top 19) (.str "farhail.trees" 279) (.ref 141))) :: (nat_lit 143, (ob (.type "tuple") (.seq ⟨[]⟩ 0))) :: (nat_lit 145, (ob (.type "tuple") (.seq ⟨[(.str "script" 363),(.str "many" 364),(.str "cells" 365),(.str "k" 366),(.str "cell" 367)]⟩ 0))) :: (nat_lit 146, (ob (.type "tuple") (.seq ⟨[]⟩ 0))) :: (nat_lit 148, (ob (.type "code") (.fields ⟨[(.str "_law_cells" 360),(.str "_law_cells" 361),(.str "/claim/cut.py" 362),(.int 72 0),(.int 2 0),(.int 0 0),(.int 0 0),(.int 3 0),(.ref 143),(.bool .true),(.int 181 0),(.ref 144),.none,(.ref 145),(.ref 146),(.ref 147),(.int 368 0),(.int 72 0),(.str "/claim/cut.py" 369)]⟩))) :: (nat_lit 149, (fO (.type "function") "_law_cells" (G.top 21) (.str "law_farhail_k19_tree_likes_told" 358) (.ref 148))) :: (nat_lit 150, (ob (.type "tuple") (.seq ⟨[]⟩ 0))) :: (nat_lit 152, (ob (.type "tuple") (.seq ⟨[(.str "cells" 374),(.str "k" 375),(.str "cell" 376),(.str "rest" 377)]⟩ 0))) :: (nat_lit 153, (ob (.type "tuple") (.seq ⟨[]⟩ 0))) :: (nat_lit 155, (ob (.type "code") (.fields ⟨[(.str "_law_pool" 371),(.str "_law_pool" 372),(.str "/claim/cut.py" 373),(.int 77 0),(.int 2 0),(.int 0 0),(.int 0 0),(.int 3 0),(.ref 150),(.bool .true),(.int 181 0),(.ref 151),.none,(.ref 152),(.ref 153),(.ref 154),(.int 378 0),(.int 77 0),(.str "/claim/cut.py" 379)]⟩))) :: (nat_lit 156, (fO (.type "function") "_law_pool" (G.top 22) (.str "law_farhail_k19_tree_likes_told" 358) (.ref 155))) :: (nat_lit 157, (ob (.type "tuple") (.seq ⟨[]⟩ 0))) :: (nat_lit 159, (ob (.type "tuple") (.seq ⟨[(.str "pool" 384),(.str "many" 385),(.str "found" 386)]⟩ 0))) :: (nat_lit 160, (ob (.type "tuple") (.seq ⟨[]⟩ 0))) :: (nat_lit 162, (ob (.type "code") (.fields ⟨[(.str "_law_take" 381),(.str "_law_take" 382),(.str "/claim/cut.py" 383),(.int 85 0),(.int 2 0),(.int 0 0),(.int 0 0),(.int 3 0),(.ref 157),(.bool .true),(.int 181 0),(.ref 158),.none,(.ref 159),(.ref 160),(.ref 161),(.int 387 0),(.int 85 0),(.str "/claim/cut.py" 388)]⟩))) :: (nat_lit 163, (fO (.type "function") "_law_take" (G.top 23) (.str "law_farhail_k19_tree_likes_told" 358) (.ref 162))) :: (nat_lit 164, (ob (.type "tuple") (.seq ⟨[]⟩ 0))) :: (nat_lit 167, (ob (.type "code") (.fields ⟨[(.str "_law_some" 390),(.str "_law_some" 391),(.str "/claim/cut.py" 392),(.int 92 0),(.int 3 0),(.int 0 0),(.int 0 0),(.int 3 0),(.ref 164),(.bool .true),(.int 181 0),(.ref 165),.none,.none,.none,(.ref 166),(.int 393 0),(.int 92 0),(.str "/claim/cut.py" 394)]⟩))) :: (nat_lit 168, (fO (.type "function") "_law_some" (G.top 24) (.str "law_farhail_k19_tree_likes_told" 358) (.ref 167))) :: (nat_lit 169, (ob (.type "tuple") (.seq ⟨[]⟩ 0))) :: (nat_lit 172, (ob (.type "code") (.fields ⟨[(.str "_law_named" 396),(.str "_law_named" 397),(.str "/claim/cut.py" 398),(.int 95 0),(.int 3 0),(.int 0 0),(.int 0 0),(.int 3 0),(.ref 169),(.bool .true),(.int 181 0),(.ref 170),.none,.none,.none,(.ref 171),(.int 399 0),(.int 95 0),(.str "/claim/cut.py" 400)]⟩))) :: (nat_lit 173, (fO (.type "function") "_law_named" (G.top 25) (.str "law_farhail_k19_tree_likes_told" 358) (.ref 172))) :: (nat_lit 174, (ob (.type "tuple") (.seq ⟨[]⟩ 0))) :: (nat_lit 176, (ob (.type "tuple") (.seq ⟨[(.str "pool" 405),(.str "most" 406),(.str "many" 407),(.str "shape" 408),(.str "ties" 409),(.str "k" 410),(.str "ahead" 411)]⟩ 0))) :: (nat_lit 177, (ob (.type "tuple") (.seq ⟨[]⟩ 0))) :: (nat_lit 179, (ob (.type "code") (.fields ⟨[(.str "_law_tree" 402),(.str "_law_tree" 403),(.str "/claim/cut.py" 404),(.int 98 0),(.int 2 0),(.int 0 0),(.int 0 0),(.int 3 0),(.ref 174),(.bool .true),(.int 181 0),(.ref 175),.none,(.ref 176),(.ref 177),(.ref 178),(.int 412 0),(.int 98 0),(.str "/claim/cut.py" 413)]⟩))) :: (nat_lit 180, (fO (.type "function") "_law_tree" (G.top 26) (.str "law_farhail_k19_tree_likes_told" 358) (.ref 179))) :: (nat_lit 181, (ob (.type "tuple") (.seq ⟨[]⟩ 0))) :: (nat_lit 184, (ob (.type "code") (.fields ⟨[(.str "_law_near" 415),(.str "_law_near" 416),(.str "/claim/cut.py" 417),(.int 106 0),(.int 1 0),(.int 0 0),(.int 0 0),(.int 3 0),(.ref 181),(.bool .true),(.int 181 0),(.ref 182),.none,.none,.none,(.ref 183),(.int 418 0),(.int 106 0),(.str "/claim/cut.py" 419)]⟩))) :: (nat_lit 185, (fO (.type "function") "_law_near" (G.top 27) (.str "law_farhail_k19_tree_likes_told" 358) (.ref 184))) :: (nat_lit 186, (ob (.type "tuple") (.seq ⟨[]⟩ 0))) :: (nat_lit 188, (ob (.type "tuple") (.seq ⟨[(.str "near" 424),(.str "place" 425),(.str "found" 426),(.str "edge" 427),(.str "beyond" 428),(.str "one" 429),(.str "other" 430)]⟩ 0))) :: (nat_lit 189, (ob (.type "tuple") (.seq ⟨[]⟩ 0))) :: (nat_lit 191, (ob (.type "code") (.fields ⟨[(.str "_law_steps" 421),(.str "_law_steps" 422),(.str "/claim/cut.py" 423),(.int 112 0),(.int 2 0),(.int 0 0),(.int 0 0),(.int 3 0),(.ref 186),(.bool .true),(.int 181 0),(.ref 187),.none,(.ref 188),(.ref 189),(.ref 190),(.int 431 0),(.int 112 0),(.str "/claim/cut.py" 432)]⟩))) :: (nat_lit 192, (fO (.type "function") "_law_steps" (G.top 28) (.str "law_farhail_k19_tree_likes_told" 358) (.ref 191))) :: (nat_lit 193, (ob (.type "tuple") (.seq ⟨[]⟩ 0))) :: (nat_lit 195, (ob (.type "tuple") (.seq ⟨[(.str "web" 437),(.str "kind" 438),(.str "places" 439)]⟩ 0))) :: (nat_lit 196, (ob (.type "tuple") (.seq ⟨[]⟩ 0))) :: (nat_lit 198, (ob (.type "code") (.fields ⟨[(.str "_law_things" 434),(.str "_law_things" 435),(.str "/claim/cut.py" 436),(.int 124 0),(.int 2 0),(.int 0 0),(.int 0 0),(.int 3 0),(.ref 193),(.bool .true),(.int 181 0),(.ref 194),.none,(.ref 195),(.ref 196),(.ref 197),(.int 440 0),(.int 124 0),(.str "/claim/cut.py" 441)]⟩))) :: (nat_lit 199, (fO (.type "function") "_law_things" (G.top 29) (.str "law_farhail_k19_tree_likes_told" 358) (.ref 198))) :: (nat_lit 200, (ob (.type "tuple") (.seq ⟨[]⟩ 0))) :: (nat_lit 203, (ob (.type "code") (.fields ⟨[(.str "_law_code" 443),(.str "_law_code" 444),(.str "/claim/cut.py" 445),(.int 127 0),(.int 2 0),(.int 0 0),(.int 0 0),(.int 3 0),(.ref 200),(.bool .true),(.int 181 0),(.ref 201),.none,.none,.none,(.ref 202),(.int 446 0),(.int 127 0),(.str "/claim/cut.py" 447)]⟩))) :: (nat_lit 204, (fO (.type "function") "_law_code" (G.top 30) (.str "law_farhail_k19_tree_likes_told" 358) (.ref 203))) :: (nat_lit 205, (ob (.type "tuple") (.seq ⟨[]⟩ 0))) :: (nat_lit 208, (ob (.type "code") (.fields ⟨[(.str "_law_codes" 449),(.str "_law_codes" 450),(.str "/claim/cut.py" 451),(.int 131 0),(.int 3 0),(.int 0 0),(.int 0 0),(.int 3 0),(.ref 205),(.bool .true),(.int 181 0),(.ref 206),.none,.none,.none,(.ref 207),(.int 452 0),(.int 131 0),(.str "/claim/cut.py" 453)]⟩))) :: (nat_lit 209, (fO (.type "function") "_law_codes" (G.top 31) (.str "law_farhail_k19_tree_likes_told" 358) (.ref 208))) :: (nat_lit 210, (ob (.type "tuple") (.seq ⟨[]⟩ 0))) :: (nat_lit 213, (ob (.type "code") (.fields ⟨[(.str "_law_looks" 455),(.str "_law_looks" 456),(.str "/claim/cut.py" 457),(.int 135 0),(.int 2 0),(.int 0 0),(.int 0 0),(.int 3 0),(.ref 210),(.bool .true),(.int 181 0),(.ref 211),.none,.none,.none,(.ref 212),(.int 458 0),(.int 135 0),(.str "/claim/cut.py" 459)]⟩))) :: (nat_lit 214, (fO (.type "function") "_law_looks" (G.top 32) (.str "law_farhail_k19_tree_likes_told" 358) (.ref 213))) :: (nat_lit 215, (ob (.type "tuple") (.seq ⟨[]⟩ 0))) :: (nat_lit 218, (ob (.type "code") (.fields ⟨[(.str "_law_ends" 461),(.str "_law_ends" 462),(.str "/claim/cut.py" 463),(.int 138 0),(.int 1 0),(.int 0 0),(.int 0 0),(.int 3 0),(.ref 215),(.bool .true),(.int 181 0),(.ref 216),.none,.none,.none,(.ref 217),(.int 464 0),(.int 138 0),(.str "/claim/cut.py" 465)]⟩))) :: (nat_lit 219, (fO (.type "function") "_law_ends" (G.top 33) (.str "law_farhail_k19_tree_likes_told" 358) (.ref 218))) :: (nat_lit 220, (ob (.type "tuple") (.seq ⟨[]⟩ 0))) :: (nat_lit 223, (ob (.type "code") (.fields ⟨[(.str "_law_right" 467),(.str "_law_right" 468),(.str "/claim/cut.py" 469),(.int 140 0),(.int 3 0),(.int 0 0),(.int 0 0),(.int 3 0),(.ref 220),(.bool .true),(.int 181 0),(.ref 221),.none,.none,.none,(.ref 222),(.int 470 0),(.int 140 0),(.str "/claim/cut.py" 471)]⟩))) :: (nat_lit 224, (fO (.type "function") "_law_right" (G.top 34) (.str "law_farhail_k19_tree_likes_told" 358) (.ref 223))) :: (nat_lit 225, (ob (.type "tuple") (.seq ⟨[]⟩ 0))) :: (nat_lit 227, (ob (.type "tuple") (.seq ⟨[(.str "script" 476),(.str "cells" 477),(.str "k" 478),(.str "pool" 479),(.str "web" 480),(.str "ends" 481),(.str "at" 482),(.str "some" 483),(.str "looks" 484),(.str "kind" 485)]⟩ 0))) :: (nat_lit 228, (ob (.type "tuple") (.seq ⟨[]⟩ 0))) :: (nat_lit 230, (ob (.type "code") (.fields ⟨[(.str "law" 473),(.str "law" 474),(.str "/claim/cut.py" 475),(.int 156 0),(.int 1 0),(.int 0 0),(.int 0 0),(.int 3 0),(.ref 225),(.bool .true),(.int 181 0),(.ref 226),.none,(.ref 227),(.ref 228),(.ref 229),(.int 486 0),(.int 156 0),(.str "/claim/cut.py" 487)]⟩))) :: (nat_lit 231, (fO (.type "function") "law" (G.top 35) (.str "law_farhail_k19_tree_likes_told" 358) (.ref 230))) :: []
noncomputable abbrev as : List PySem.Addr := nat_lit 2 :: nat_lit 3 :: nat_lit 15 :: nat_lit 22 :: nat_lit 23 :: nat_lit 24 :: nat_lit 25 :: nat_lit 28 :: nat_lit 35 :: nat_lit 36 :: nat_lit 37 :: nat_lit 40 :: nat_lit 47 :: nat_lit 48 :: nat_lit 49 :: nat_lit 52 :: nat_lit 59 :: nat_lit 60 :: nat_lit 61 :: nat_lit 64 :: nat_lit 67 :: nat_lit 68 :: nat_lit 69 :: nat_lit 71 :: nat_lit 72 :: nat_lit 74 :: nat_lit 75 :: nat_lit 76 :: nat_lit 78 :: nat_lit 79 :: nat_lit 81 :: nat_lit 82 :: nat_lit 83 :: nat_lit 85 :: nat_lit 86 :: nat_lit 88 :: nat_lit 89 :: nat_lit 90 :: nat_lit 92 :: nat_lit 93 :: nat_lit 95 :: nat_lit 96 :: nat_lit 97 :: nat_lit 100 :: nat_lit 101 :: nat_lit 102 :: nat_lit 105 :: nat_lit 106 :: nat_lit 107 :: nat_lit 109 :: nat_lit 110 :: nat_lit 112 :: nat_lit 113 :: nat_lit 114 :: nat_lit 117 :: nat_lit 118 :: nat_lit 119 :: nat_lit 122 :: nat_lit 123 :: nat_lit 124 :: nat_lit 126 :: nat_lit 127 :: nat_lit 129 :: nat_lit 130 :: nat_lit 131 :: nat_lit 134 :: nat_lit 135 :: nat_lit 136 :: nat_lit 138 :: nat_lit 139 :: nat_lit 141 :: nat_lit 142 :: nat_lit 143 :: nat_lit 145 :: nat_lit 146 :: nat_lit 148 :: nat_lit 149 :: nat_lit 150 :: nat_lit 152 :: nat_lit 153 :: nat_lit 155 :: nat_lit 156 :: nat_lit 157 :: nat_lit 159 :: nat_lit 160 :: nat_lit 162 :: nat_lit 163 :: nat_lit 164 :: nat_lit 167 :: nat_lit 168 :: nat_lit 169 :: nat_lit 172 :: nat_lit 173 :: nat_lit 174 :: nat_lit 176 :: nat_lit 177 :: nat_lit 179 :: nat_lit 180 :: nat_lit 181 :: nat_lit 184 :: nat_lit 185 :: nat_lit 186 :: nat_lit 188 :: nat_lit 189 :: nat_lit 191 :: nat_lit 192 :: nat_lit 193 :: nat_lit 195 :: nat_lit 196 :: nat_lit 198 :: nat_lit 199 :: nat_lit 200 :: nat_lit 203 :: nat_lit 204 :: nat_lit 205 :: nat_lit 208 :: nat_lit 209 :: nat_lit 210 :: nat_lit 213 :: nat_lit 214 :: nat_lit 215 :: nat_lit 218 :: nat_lit 219 :: nat_lit 220 :: nat_lit 223 :: nat_lit 224 :: nat_lit 225 :: nat_lit 227 :: nat_lit 228 :: nat_lit 230 :: nat_lit 231 :: []
noncomputable def view : PySem.Program := { PySem.Challenge.pw_farhail_k19_tree_likes_told with main := { PySem.Challenge.pw_farhail_k19_tree_likes_told.main with body := [G.top 35] } }
noncomputable def loose : List PySem.Str := [a1, a3, a4, a5, a6, a7, a8, a9, a10, a11, a12, a13, a14, a15, a16, a17, a18, a19, a20, a21, a22, a23, a24, a25, a26, a27, a28, a29, a30, a31, a32]
noncomputable def the : PySem.DefRec := ⟨"law", L2.defArgs (G.top 35), L2.defBody (G.top 35), L2.defScope (G.top 35), (.mk 156 0 168 15)⟩
noncomputable abbrev N : Nat := 3480
theorem as_eq : ∀ P, as = (K P).map (·.1) := fun P => by kernel_rfl
noncomputable abbrev hook : PySem.W.Hook := PySem.W.kHook K as as_eq
noncomputable abbrev Xt : PySem.Shared → Bool := fun s => PySem.W.xlAt view [] s && PySem.W.recOk PySem.Challenge.rw_farhail_k19_tree_likes_told.row.toRowW.records s
noncomputable abbrev mods := PySem.importedModules PySem.Challenge.pw_farhail_k19_tree_likes_told.main.body
theorem look1 (w : PySem.World) : (fun os : PySem.OsState => PySem.W.staticsOk mods (PySem.W.boot_heap w.params) (hF w.params) && PySem.W.namesBound PySem.Challenge.pw_farhail_k19_tree_likes_told (hF w.params) && PySem.W.gensDone (SF w os) && PySem.W.laidKept (PySem.W.boot_heap w.params) (hF w.params)) = fun _ => true := by kernel_rfl
theorem look3 (w : PySem.World) : (fun os => hook.obs (SF w os)) = fun _ => hook.val w := by kernel_rfl
theorem look2 (w : PySem.World) : (fun os => PySem.W.openSeen view loose mods Xt true (SF w os)) = fun _ => PySem.W.openGood view loose := by kernel_rfl
theorem left : PySem.W.LeftO PySem.Challenge.rw_farhail_k19_tree_likes_told.row.toRowW.prog view loose Xt hook.obs hook.val N :=
  PySem.W.LeftO.of_pieces opens size run (by decide +kernel) fun w => funext fun os => Prod.ext (congrFun (look1 w) os) (Prod.ext (congrFun (look2 w) os) (congrFun (look3 w) os))
open PySem PySem.W PyProof.Rows in
set_option maxHeartbeats 0 in
theorem whole (hc : WalkO view loose (XL view []) (PySem.W.kHook K as as_eq).says PySem.Challenge.rw_farhail_k19_tree_likes_told.row.toRowW the [] (fun f vs => PySem.call f vs)) : PySem.Challenge.rw_farhail_k19_tree_likes_told.Holds := by
  w_on; o_law
  refine PySem.W.holds_open (r := PySem.Challenge.rw_farhail_k19_tree_likes_told.row) (q := view) (loose := loose) (Xt := Xt) (XP := PySem.W.XL view []) (Yf := hook.obs) (Ya := hook.val) (YP := hook.says) (d := the) (kwd := []) (N := N) left hook.of hook.keeps (fun s e => xl_of s (Bool.and_eq_true_iff.mp e).1) XL.keeps (by kernel_rfl) (by kernel_rfl) (by kernel_rfl) (fun s e => recFacts_of (Bool.and_eq_true_iff.mp e).2) (by rfl) (by first | assumption | decide +kernel) (by decide +kernel) ⟨rfl, rfl, rfl, rfl, rfl, by decide +kernel⟩ ?hw hc
  case hw => w_witness2
end HD
namespace G
open PySem L2 Z
open Rep (rep)
theorem us1 : ∀ {us : List Value}, us.length = 1 → ∃ a0, us = [a0]
  | [a0], _ => ⟨a0, rfl⟩
theorem us2 : ∀ {us : List Value}, us.length = 2 → ∃ a0 a1, us = [a0, a1]
  | [a0, a1], _ => ⟨a0, a1, rfl⟩
theorem us3 : ∀ {us : List Value}, us.length = 3 → ∃ a0 a1 a2, us = [a0, a1, a2]
  | [a0, a1, a2], _ => ⟨a0, a1, a2, rfl⟩
theorem us4 : ∀ {us : List Value}, us.length = 4 → ∃ a0 a1 a2 a3, us = [a0, a1, a2, a3]
  | [a0, a1, a2, a3], _ => ⟨a0, a1, a2, a3, rfl⟩
theorem dn_mk {K : Fg} {h : Heap} {mg : Str → Option Value} (X : K.In h) (G : h.Ns mainGlobals mg) {x y : Str} {st : Stmt} {ps : List Str} {f : Addr} {od an : Option Addr} {sl : Array (Option Value)} {oc kV dc pm cd ct : Value}
    (a : PySem.W.nsIn K mainGlobals x = some (some (.ref f))) (l : K.lookup f = some ⟨oc, od, .func (PySem.W.fnOf y y (defArgs st) (defBody st) (defScope st) .none kV dc pm an cd ct), sl⟩) (c : PySem.W.codeIn K cd y = true) (k : PySem.W.keepIn K (.ref f) = true)
    (b : ∀ (kV doc pm : Value) (an : Option Addr) (cdv ct : Value) (us : List Value), us.length = ps.length → bindArgs (PySem.W.fnOf y y (defArgs st) (defBody st) (defScope st) .none kV doc pm an cdv ct) ⟨us, []⟩ = pure (ps.zip us)) :
    Dn K mg x y st ps f (PySem.W.fnOf y y (defArgs st) (defBody st) (defScope st) .none kV dc pm an cd ct) := ⟨fun_mk l c k, PySem.W.mg_of X G a, (fun_mk l c k).binds b⟩
theorem all_mk {l : PySem.W.OpenLaw} {w : World} {K : PySem.W.Frag} {h : Heap} {mg : Str → Option Value} {fa : Addr} (X : K.In h) (G : h.Ns mainGlobals mg) (hfa : mg "law" = some (.ref fa))
    {f6 : Addr} {od6 an6 : Option Addr} {sl6 : Array (Option Value)} {oc6 kV6 dc6 pm6 cd6 ct6 : Value}
    {f7 : Addr} {od7 an7 : Option Addr} {sl7 : Array (Option Value)} {oc7 kV7 dc7 pm7 cd7 ct7 : Value}
    {f8 : Addr} {od8 an8 : Option Addr} {sl8 : Array (Option Value)} {oc8 kV8 dc8 pm8 cd8 ct8 : Value}
    {f10 : Addr} {od10 an10 : Option Addr} {sl10 : Array (Option Value)} {oc10 kV10 dc10 pm10 cd10 ct10 : Value}
    {f11 : Addr} {od11 an11 : Option Addr} {sl11 : Array (Option Value)} {oc11 kV11 dc11 pm11 cd11 ct11 : Value}
    {f12 : Addr} {od12 an12 : Option Addr} {sl12 : Array (Option Value)} {oc12 kV12 dc12 pm12 cd12 ct12 : Value}
    {f13 : Addr} {od13 an13 : Option Addr} {sl13 : Array (Option Value)} {oc13 kV13 dc13 pm13 cd13 ct13 : Value}
    {f14 : Addr} {od14 an14 : Option Addr} {sl14 : Array (Option Value)} {oc14 kV14 dc14 pm14 cd14 ct14 : Value}
    {f15 : Addr} {od15 an15 : Option Addr} {sl15 : Array (Option Value)} {oc15 kV15 dc15 pm15 cd15 ct15 : Value}
    {f16 : Addr} {od16 an16 : Option Addr} {sl16 : Array (Option Value)} {oc16 kV16 dc16 pm16 cd16 ct16 : Value}
    {f17 : Addr} {od17 an17 : Option Addr} {sl17 : Array (Option Value)} {oc17 kV17 dc17 pm17 cd17 ct17 : Value}
    {f18 : Addr} {od18 an18 : Option Addr} {sl18 : Array (Option Value)} {oc18 kV18 dc18 pm18 cd18 ct18 : Value}
    {f19 : Addr} {od19 an19 : Option Addr} {sl19 : Array (Option Value)} {oc19 kV19 dc19 pm19 cd19 ct19 : Value}
    {f21 : Addr} {od21 an21 : Option Addr} {sl21 : Array (Option Value)} {oc21 kV21 dc21 pm21 cd21 ct21 : Value}
    {f22 : Addr} {od22 an22 : Option Addr} {sl22 : Array (Option Value)} {oc22 kV22 dc22 pm22 cd22 ct22 : Value}
    {f23 : Addr} {od23 an23 : Option Addr} {sl23 : Array (Option Value)} {oc23 kV23 dc23 pm23 cd23 ct23 : Value}
    {f24 : Addr} {od24 an24 : Option Addr} {sl24 : Array (Option Value)} {oc24 kV24 dc24 pm24 cd24 ct24 : Value}
    {f25 : Addr} {od25 an25 : Option Addr} {sl25 : Array (Option Value)} {oc25 kV25 dc25 pm25 cd25 ct25 : Value}
    {f26 : Addr} {od26 an26 : Option Addr} {sl26 : Array (Option Value)} {oc26 kV26 dc26 pm26 cd26 ct26 : Value}
    {f27 : Addr} {od27 an27 : Option Addr} {sl27 : Array (Option Value)} {oc27 kV27 dc27 pm27 cd27 ct27 : Value}
    {f28 : Addr} {od28 an28 : Option Addr} {sl28 : Array (Option Value)} {oc28 kV28 dc28 pm28 cd28 ct28 : Value}
    {f29 : Addr} {od29 an29 : Option Addr} {sl29 : Array (Option Value)} {oc29 kV29 dc29 pm29 cd29 ct29 : Value}
    {f30 : Addr} {od30 an30 : Option Addr} {sl30 : Array (Option Value)} {oc30 kV30 dc30 pm30 cd30 ct30 : Value}
    {f31 : Addr} {od31 an31 : Option Addr} {sl31 : Array (Option Value)} {oc31 kV31 dc31 pm31 cd31 ct31 : Value}
    {f32 : Addr} {od32 an32 : Option Addr} {sl32 : Array (Option Value)} {oc32 kV32 dc32 pm32 cd32 ct32 : Value}
    {f33 : Addr} {od33 an33 : Option Addr} {sl33 : Array (Option Value)} {oc33 kV33 dc33 pm33 cd33 ct33 : Value}
    {f34 : Addr} {od34 an34 : Option Addr} {sl34 : Array (Option Value)} {oc34 kV34 dc34 pm34 cd34 ct34 : Value}
    {f35 : Addr} {od35 an35 : Option Addr} {sl35 : Array (Option Value)} {oc35 kV35 dc35 pm35 cd35 ct35 : Value}
    (a6 : PySem.W.nsIn K mainGlobals "near_lists" = some (some (.ref f6))) (l6 : K.lookup f6 = some ⟨oc6, od6, .func (PySem.W.fnOf "near_lists" "near_lists" (defArgs s_near_lists) (defBody s_near_lists) (defScope s_near_lists) .none kV6 dc6 pm6 an6 cd6 ct6), sl6⟩) (c6 : PySem.W.codeIn K cd6 "near_lists" = true) (k6 : PySem.W.keepIn K (.ref f6) = true)
    (a7 : PySem.W.nsIn K mainGlobals "place_asked" = some (some (.ref f7))) (l7 : K.lookup f7 = some ⟨oc7, od7, .func (PySem.W.fnOf "place_asked" "place_asked" (defArgs s_place_asked) (defBody s_place_asked) (defScope s_place_asked) .none kV7 dc7 pm7 an7 cd7 ct7), sl7⟩) (c7 : PySem.W.codeIn K cd7 "place_asked" = true) (k7 : PySem.W.keepIn K (.ref f7) = true)
    (a8 : PySem.W.nsIn K mainGlobals "neighbours_of" = some (some (.ref f8))) (l8 : K.lookup f8 = some ⟨oc8, od8, .func (PySem.W.fnOf "neighbours_of" "neighbours_of" (defArgs s_neighbours_of) (defBody s_neighbours_of) (defScope s_neighbours_of) .none kV8 dc8 pm8 an8 cd8 ct8), sl8⟩) (c8 : PySem.W.codeIn K cd8 "neighbours_of" = true) (k8 : PySem.W.keepIn K (.ref f8) = true)
    (a10 : PySem.W.nsIn K mainGlobals "is_tree" = some (some (.ref f10))) (l10 : K.lookup f10 = some ⟨oc10, od10, .func (PySem.W.fnOf "is_tree" "is_tree" (defArgs s_is_tree) (defBody s_is_tree) (defScope s_is_tree) .none kV10 dc10 pm10 an10 cd10 ct10), sl10⟩) (c10 : PySem.W.codeIn K cd10 "is_tree" = true) (k10 : PySem.W.keepIn K (.ref f10) = true)
    (a11 : PySem.W.nsIn K mainGlobals "tree_asked" = some (some (.ref f11))) (l11 : K.lookup f11 = some ⟨oc11, od11, .func (PySem.W.fnOf "tree_asked" "tree_asked" (defArgs s_tree_asked) (defBody s_tree_asked) (defScope s_tree_asked) .none kV11 dc11 pm11 an11 cd11 ct11), sl11⟩) (c11 : PySem.W.codeIn K cd11 "tree_asked" = true) (k11 : PySem.W.keepIn K (.ref f11) = true)
    (a12 : PySem.W.nsIn K mainGlobals "rising_asked" = some (some (.ref f12))) (l12 : K.lookup f12 = some ⟨oc12, od12, .func (PySem.W.fnOf "rising_asked" "rising_asked" (defArgs s_rising_asked) (defBody s_rising_asked) (defScope s_rising_asked) .none kV12 dc12 pm12 an12 cd12 ct12), sl12⟩) (c12 : PySem.W.codeIn K cd12 "rising_asked" = true) (k12 : PySem.W.keepIn K (.ref f12) = true)
    (a13 : PySem.W.nsIn K mainGlobals "all_near" = some (some (.ref f13))) (l13 : K.lookup f13 = some ⟨oc13, od13, .func (PySem.W.fnOf "all_near" "all_near" (defArgs s_all_near) (defBody s_all_near) (defScope s_all_near) .none kV13 dc13 pm13 an13 cd13 ct13), sl13⟩) (c13 : PySem.W.codeIn K cd13 "all_near" = true) (k13 : PySem.W.keepIn K (.ref f13) = true)
    (a14 : PySem.W.nsIn K mainGlobals "piece_from" = some (some (.ref f14))) (l14 : K.lookup f14 = some ⟨oc14, od14, .func (PySem.W.fnOf "piece_from" "piece_from" (defArgs s_piece_from) (defBody s_piece_from) (defScope s_piece_from) .none kV14 dc14 pm14 an14 cd14 ct14), sl14⟩) (c14 : PySem.W.codeIn K cd14 "piece_from" = true) (k14 : PySem.W.keepIn K (.ref f14) = true)
    (a15 : PySem.W.nsIn K mainGlobals "pieces_by" = some (some (.ref f15))) (l15 : K.lookup f15 = some ⟨oc15, od15, .func (PySem.W.fnOf "pieces_by" "pieces_by" (defArgs s_pieces_by) (defBody s_pieces_by) (defScope s_pieces_by) .none kV15 dc15 pm15 an15 cd15 ct15), sl15⟩) (c15 : PySem.W.codeIn K cd15 "pieces_by" = true) (k15 : PySem.W.keepIn K (.ref f15) = true)
    (a16 : PySem.W.nsIn K mainGlobals "looks_in" = some (some (.ref f16))) (l16 : K.lookup f16 = some ⟨oc16, od16, .func (PySem.W.fnOf "looks_in" "looks_in" (defArgs s_looks_in) (defBody s_looks_in) (defScope s_looks_in) .none kV16 dc16 pm16 an16 cd16 ct16), sl16⟩) (c16 : PySem.W.codeIn K cd16 "looks_in" = true) (k16 : PySem.W.keepIn K (.ref f16) = true)
    (a17 : PySem.W.nsIn K mainGlobals "tie_of" = some (some (.ref f17))) (l17 : K.lookup f17 = some ⟨oc17, od17, .func (PySem.W.fnOf "tie_of" "tie_of" (defArgs s_tie_of) (defBody s_tie_of) (defScope s_tie_of) .none kV17 dc17 pm17 an17 cd17 ct17), sl17⟩) (c17 : PySem.W.codeIn K cd17 "tie_of" = true) (k17 : PySem.W.keepIn K (.ref f17) = true)
    (a18 : PySem.W.nsIn K mainGlobals "likes_at" = some (some (.ref f18))) (l18 : K.lookup f18 = some ⟨oc18, od18, .func (PySem.W.fnOf "likes_at" "likes_at" (defArgs s_likes_at) (defBody s_likes_at) (defScope s_likes_at) .none kV18 dc18 pm18 an18 cd18 ct18), sl18⟩) (c18 : PySem.W.codeIn K cd18 "likes_at" = true) (k18 : PySem.W.keepIn K (.ref f18) = true)
    (a19 : PySem.W.nsIn K mainGlobals "tree_likes" = some (some (.ref f19))) (l19 : K.lookup f19 = some ⟨oc19, od19, .func (PySem.W.fnOf "tree_likes" "tree_likes" (defArgs s_tree_likes) (defBody s_tree_likes) (defScope s_tree_likes) .none kV19 dc19 pm19 an19 cd19 ct19), sl19⟩) (c19 : PySem.W.codeIn K cd19 "tree_likes" = true) (k19 : PySem.W.keepIn K (.ref f19) = true)
    (a21 : PySem.W.nsIn K mainGlobals "_law_cells" = some (some (.ref f21))) (l21 : K.lookup f21 = some ⟨oc21, od21, .func (PySem.W.fnOf "_law_cells" "_law_cells" (defArgs s_law_cells) (defBody s_law_cells) (defScope s_law_cells) .none kV21 dc21 pm21 an21 cd21 ct21), sl21⟩) (c21 : PySem.W.codeIn K cd21 "_law_cells" = true) (k21 : PySem.W.keepIn K (.ref f21) = true)
    (a22 : PySem.W.nsIn K mainGlobals "_law_pool" = some (some (.ref f22))) (l22 : K.lookup f22 = some ⟨oc22, od22, .func (PySem.W.fnOf "_law_pool" "_law_pool" (defArgs s_law_pool) (defBody s_law_pool) (defScope s_law_pool) .none kV22 dc22 pm22 an22 cd22 ct22), sl22⟩) (c22 : PySem.W.codeIn K cd22 "_law_pool" = true) (k22 : PySem.W.keepIn K (.ref f22) = true)
    (a23 : PySem.W.nsIn K mainGlobals "_law_take" = some (some (.ref f23))) (l23 : K.lookup f23 = some ⟨oc23, od23, .func (PySem.W.fnOf "_law_take" "_law_take" (defArgs s_law_take) (defBody s_law_take) (defScope s_law_take) .none kV23 dc23 pm23 an23 cd23 ct23), sl23⟩) (c23 : PySem.W.codeIn K cd23 "_law_take" = true) (k23 : PySem.W.keepIn K (.ref f23) = true)
    (a24 : PySem.W.nsIn K mainGlobals "_law_some" = some (some (.ref f24))) (l24 : K.lookup f24 = some ⟨oc24, od24, .func (PySem.W.fnOf "_law_some" "_law_some" (defArgs s_law_some) (defBody s_law_some) (defScope s_law_some) .none kV24 dc24 pm24 an24 cd24 ct24), sl24⟩) (c24 : PySem.W.codeIn K cd24 "_law_some" = true) (k24 : PySem.W.keepIn K (.ref f24) = true)
    (a25 : PySem.W.nsIn K mainGlobals "_law_named" = some (some (.ref f25))) (l25 : K.lookup f25 = some ⟨oc25, od25, .func (PySem.W.fnOf "_law_named" "_law_named" (defArgs s_law_named) (defBody s_law_named) (defScope s_law_named) .none kV25 dc25 pm25 an25 cd25 ct25), sl25⟩) (c25 : PySem.W.codeIn K cd25 "_law_named" = true) (k25 : PySem.W.keepIn K (.ref f25) = true)
    (a26 : PySem.W.nsIn K mainGlobals "_law_tree" = some (some (.ref f26))) (l26 : K.lookup f26 = some ⟨oc26, od26, .func (PySem.W.fnOf "_law_tree" "_law_tree" (defArgs s_law_tree) (defBody s_law_tree) (defScope s_law_tree) .none kV26 dc26 pm26 an26 cd26 ct26), sl26⟩) (c26 : PySem.W.codeIn K cd26 "_law_tree" = true) (k26 : PySem.W.keepIn K (.ref f26) = true)
    (a27 : PySem.W.nsIn K mainGlobals "_law_near" = some (some (.ref f27))) (l27 : K.lookup f27 = some ⟨oc27, od27, .func (PySem.W.fnOf "_law_near" "_law_near" (defArgs s_law_near) (defBody s_law_near) (defScope s_law_near) .none kV27 dc27 pm27 an27 cd27 ct27), sl27⟩) (c27 : PySem.W.codeIn K cd27 "_law_near" = true) (k27 : PySem.W.keepIn K (.ref f27) = true)
    (a28 : PySem.W.nsIn K mainGlobals "_law_steps" = some (some (.ref f28))) (l28 : K.lookup f28 = some ⟨oc28, od28, .func (PySem.W.fnOf "_law_steps" "_law_steps" (defArgs s_law_steps) (defBody s_law_steps) (defScope s_law_steps) .none kV28 dc28 pm28 an28 cd28 ct28), sl28⟩) (c28 : PySem.W.codeIn K cd28 "_law_steps" = true) (k28 : PySem.W.keepIn K (.ref f28) = true)
    (a29 : PySem.W.nsIn K mainGlobals "_law_things" = some (some (.ref f29))) (l29 : K.lookup f29 = some ⟨oc29, od29, .func (PySem.W.fnOf "_law_things" "_law_things" (defArgs s_law_things) (defBody s_law_things) (defScope s_law_things) .none kV29 dc29 pm29 an29 cd29 ct29), sl29⟩) (c29 : PySem.W.codeIn K cd29 "_law_things" = true) (k29 : PySem.W.keepIn K (.ref f29) = true)
    (a30 : PySem.W.nsIn K mainGlobals "_law_code" = some (some (.ref f30))) (l30 : K.lookup f30 = some ⟨oc30, od30, .func (PySem.W.fnOf "_law_code" "_law_code" (defArgs s_law_code) (defBody s_law_code) (defScope s_law_code) .none kV30 dc30 pm30 an30 cd30 ct30), sl30⟩) (c30 : PySem.W.codeIn K cd30 "_law_code" = true) (k30 : PySem.W.keepIn K (.ref f30) = true)
    (a31 : PySem.W.nsIn K mainGlobals "_law_codes" = some (some (.ref f31))) (l31 : K.lookup f31 = some ⟨oc31, od31, .func (PySem.W.fnOf "_law_codes" "_law_codes" (defArgs s_law_codes) (defBody s_law_codes) (defScope s_law_codes) .none kV31 dc31 pm31 an31 cd31 ct31), sl31⟩) (c31 : PySem.W.codeIn K cd31 "_law_codes" = true) (k31 : PySem.W.keepIn K (.ref f31) = true)
    (a32 : PySem.W.nsIn K mainGlobals "_law_looks" = some (some (.ref f32))) (l32 : K.lookup f32 = some ⟨oc32, od32, .func (PySem.W.fnOf "_law_looks" "_law_looks" (defArgs s_law_looks) (defBody s_law_looks) (defScope s_law_looks) .none kV32 dc32 pm32 an32 cd32 ct32), sl32⟩) (c32 : PySem.W.codeIn K cd32 "_law_looks" = true) (k32 : PySem.W.keepIn K (.ref f32) = true)
    (a33 : PySem.W.nsIn K mainGlobals "_law_ends" = some (some (.ref f33))) (l33 : K.lookup f33 = some ⟨oc33, od33, .func (PySem.W.fnOf "_law_ends" "_law_ends" (defArgs s_law_ends) (defBody s_law_ends) (defScope s_law_ends) .none kV33 dc33 pm33 an33 cd33 ct33), sl33⟩) (c33 : PySem.W.codeIn K cd33 "_law_ends" = true) (k33 : PySem.W.keepIn K (.ref f33) = true)
    (a34 : PySem.W.nsIn K mainGlobals "_law_right" = some (some (.ref f34))) (l34 : K.lookup f34 = some ⟨oc34, od34, .func (PySem.W.fnOf "_law_right" "_law_right" (defArgs s_law_right) (defBody s_law_right) (defScope s_law_right) .none kV34 dc34 pm34 an34 cd34 ct34), sl34⟩) (c34 : PySem.W.codeIn K cd34 "_law_right" = true) (k34 : PySem.W.keepIn K (.ref f34) = true)
    (a35 : PySem.W.nsIn K mainGlobals "law" = some (some (.ref f35))) (l35 : K.lookup f35 = some ⟨oc35, od35, .func (PySem.W.fnOf "law" "law" (defArgs s_law) (defBody s_law) (defScope s_law) .none kV35 dc35 pm35 an35 cd35 ct35), sl35⟩) (c35 : PySem.W.codeIn K cd35 "law" = true) (k35 : PySem.W.keepIn K (.ref f35) = true)
    (z_abs : PySem.W.nsIn K mainGlobals "abs" = some none)
    (z_all : PySem.W.nsIn K mainGlobals "all" = some none)
    (z_bool : PySem.W.nsIn K mainGlobals "bool" = some none)
    (z_enumerate : PySem.W.nsIn K mainGlobals "enumerate" = some none)
    (z_int : PySem.W.nsIn K mainGlobals "int" = some none)
    (z_isinstance : PySem.W.nsIn K mainGlobals "isinstance" = some none)
    (z_len : PySem.W.nsIn K mainGlobals "len" = some none)
    (z_list : PySem.W.nsIn K mainGlobals "list" = some none)
    (z_max : PySem.W.nsIn K mainGlobals "max" = some none)
    (z_min : PySem.W.nsIn K mainGlobals "min" = some none)
    (z_range : PySem.W.nsIn K mainGlobals "range" = some none)
    (z_set : PySem.W.nsIn K mainGlobals "set" = some none)
    (z_sorted : PySem.W.nsIn K mainGlobals "sorted" = some none)
    (z_tuple : PySem.W.nsIn K mainGlobals "tuple" = some none)
    (z_zip : PySem.W.nsIn K mainGlobals "zip" = some none) :
    ∃ fd : FuncData, (∀ (s : Shared) (v : Value), BindsTo s fd ⟨[v], []⟩ [("script", v)]) ∧ ∀ base : Heap, K.In base → base.Ns mainGlobals mg → FnOk l.prog w K mg base CX0 7 fa fd ["script"] (sp_law K) := by
  have e := hfa.symm.trans (PySem.W.mg_of X G a35)
  cases e
  let A : Nat → Addr := fun i => match i with | 6 => f6 | 7 => f7 | 8 => f8 | 10 => f10 | 11 => f11 | 12 => f12 | 13 => f13 | 14 => f14 | 15 => f15 | 16 => f16 | 17 => f17 | 18 => f18 | 19 => f19 | 21 => f21 | 22 => f22 | 23 => f23 | 24 => f24 | 25 => f25 | 26 => f26 | 27 => f27 | 28 => f28 | 29 => f29 | 30 => f30 | 31 => f31 | 32 => f32 | 33 => f33 | 34 => f34 | 35 => fa | _ => fa
  let FD : Nat → FuncData := fun i => match i with | 6 => (PySem.W.fnOf "near_lists" "near_lists" (defArgs s_near_lists) (defBody s_near_lists) (defScope s_near_lists) .none kV6 dc6 pm6 an6 cd6 ct6) | 7 => (PySem.W.fnOf "place_asked" "place_asked" (defArgs s_place_asked) (defBody s_place_asked) (defScope s_place_asked) .none kV7 dc7 pm7 an7 cd7 ct7) | 8 => (PySem.W.fnOf "neighbours_of" "neighbours_of" (defArgs s_neighbours_of) (defBody s_neighbours_of) (defScope s_neighbours_of) .none kV8 dc8 pm8 an8 cd8 ct8) | 10 => (PySem.W.fnOf "is_tree" "is_tree" (defArgs s_is_tree) (defBody s_is_tree) (defScope s_is_tree) .none kV10 dc10 pm10 an10 cd10 ct10) | 11 => (PySem.W.fnOf "tree_asked" "tree_asked" (defArgs s_tree_asked) (defBody s_tree_asked) (defScope s_tree_asked) .none kV11 dc11 pm11 an11 cd11 ct11) | 12 => (PySem.W.fnOf "rising_asked" "rising_asked" (defArgs s_rising_asked) (defBody s_rising_asked) (defScope s_rising_asked) .none kV12 dc12 pm12 an12 cd12 ct12) | 13 => (PySem.W.fnOf "all_near" "all_near" (defArgs s_all_near) (defBody s_all_near) (defScope s_all_near) .none kV13 dc13 pm13 an13 cd13 ct13) | 14 => (PySem.W.fnOf "piece_from" "piece_from" (defArgs s_piece_from) (defBody s_piece_from) (defScope s_piece_from) .none kV14 dc14 pm14 an14 cd14 ct14) | 15 => (PySem.W.fnOf "pieces_by" "pieces_by" (defArgs s_pieces_by) (defBody s_pieces_by) (defScope s_pieces_by) .none kV15 dc15 pm15 an15 cd15 ct15) | 16 => (PySem.W.fnOf "looks_in" "looks_in" (defArgs s_looks_in) (defBody s_looks_in) (defScope s_looks_in) .none kV16 dc16 pm16 an16 cd16 ct16) | 17 => (PySem.W.fnOf "tie_of" "tie_of" (defArgs s_tie_of) (defBody s_tie_of) (defScope s_tie_of) .none kV17 dc17 pm17 an17 cd17 ct17) | 18 => (PySem.W.fnOf "likes_at" "likes_at" (defArgs s_likes_at) (defBody s_likes_at) (defScope s_likes_at) .none kV18 dc18 pm18 an18 cd18 ct18) | 19 => (PySem.W.fnOf "tree_likes" "tree_likes" (defArgs s_tree_likes) (defBody s_tree_likes) (defScope s_tree_likes) .none kV19 dc19 pm19 an19 cd19 ct19) | 21 => (PySem.W.fnOf "_law_cells" "_law_cells" (defArgs s_law_cells) (defBody s_law_cells) (defScope s_law_cells) .none kV21 dc21 pm21 an21 cd21 ct21) | 22 => (PySem.W.fnOf "_law_pool" "_law_pool" (defArgs s_law_pool) (defBody s_law_pool) (defScope s_law_pool) .none kV22 dc22 pm22 an22 cd22 ct22) | 23 => (PySem.W.fnOf "_law_take" "_law_take" (defArgs s_law_take) (defBody s_law_take) (defScope s_law_take) .none kV23 dc23 pm23 an23 cd23 ct23) | 24 => (PySem.W.fnOf "_law_some" "_law_some" (defArgs s_law_some) (defBody s_law_some) (defScope s_law_some) .none kV24 dc24 pm24 an24 cd24 ct24) | 25 => (PySem.W.fnOf "_law_named" "_law_named" (defArgs s_law_named) (defBody s_law_named) (defScope s_law_named) .none kV25 dc25 pm25 an25 cd25 ct25) | 26 => (PySem.W.fnOf "_law_tree" "_law_tree" (defArgs s_law_tree) (defBody s_law_tree) (defScope s_law_tree) .none kV26 dc26 pm26 an26 cd26 ct26) | 27 => (PySem.W.fnOf "_law_near" "_law_near" (defArgs s_law_near) (defBody s_law_near) (defScope s_law_near) .none kV27 dc27 pm27 an27 cd27 ct27) | 28 => (PySem.W.fnOf "_law_steps" "_law_steps" (defArgs s_law_steps) (defBody s_law_steps) (defScope s_law_steps) .none kV28 dc28 pm28 an28 cd28 ct28) | 29 => (PySem.W.fnOf "_law_things" "_law_things" (defArgs s_law_things) (defBody s_law_things) (defScope s_law_things) .none kV29 dc29 pm29 an29 cd29 ct29) | 30 => (PySem.W.fnOf "_law_code" "_law_code" (defArgs s_law_code) (defBody s_law_code) (defScope s_law_code) .none kV30 dc30 pm30 an30 cd30 ct30) | 31 => (PySem.W.fnOf "_law_codes" "_law_codes" (defArgs s_law_codes) (defBody s_law_codes) (defScope s_law_codes) .none kV31 dc31 pm31 an31 cd31 ct31) | 32 => (PySem.W.fnOf "_law_looks" "_law_looks" (defArgs s_law_looks) (defBody s_law_looks) (defScope s_law_looks) .none kV32 dc32 pm32 an32 cd32 ct32) | 33 => (PySem.W.fnOf "_law_ends" "_law_ends" (defArgs s_law_ends) (defBody s_law_ends) (defScope s_law_ends) .none kV33 dc33 pm33 an33 cd33 ct33) | 34 => (PySem.W.fnOf "_law_right" "_law_right" (defArgs s_law_right) (defBody s_law_right) (defScope s_law_right) .none kV34 dc34 pm34 an34 cd34 ct34) | 35 => (PySem.W.fnOf "law" "law" (defArgs s_law) (defBody s_law) (defScope s_law) .none kV35 dc35 pm35 an35 cd35 ct35) | _ => (PySem.W.fnOf "law" "law" (defArgs s_law) (defBody s_law) (defScope s_law) .none kV35 dc35 pm35 an35 cd35 ct35)
  have T : Tx K mg A FD := {
    d6 := dn_mk (st := s_near_lists) (ps := ["web"]) X G a6 l6 c6 k6 fun _ _ _ _ _ _ us hl => by (obtain ⟨_, rfl⟩ := us1 hl; rfl)
    d7 := dn_mk (st := s_place_asked) (ps := ["web", "place"]) X G a7 l7 c7 k7 fun _ _ _ _ _ _ us hl => by (obtain ⟨_, _, rfl⟩ := us2 hl; rfl)
    d8 := dn_mk (st := s_neighbours_of) (ps := ["web", "place"]) X G a8 l8 c8 k8 fun _ _ _ _ _ _ us hl => by (obtain ⟨_, _, rfl⟩ := us2 hl; rfl)
    d10 := dn_mk (st := s_is_tree) (ps := ["web"]) X G a10 l10 c10 k10 fun _ _ _ _ _ _ us hl => by (obtain ⟨_, rfl⟩ := us1 hl; rfl)
    d11 := dn_mk (st := s_tree_asked) (ps := ["web"]) X G a11 l11 c11 k11 fun _ _ _ _ _ _ us hl => by (obtain ⟨_, rfl⟩ := us1 hl; rfl)
    d12 := dn_mk (st := s_rising_asked) (ps := ["web", "looks"]) X G a12 l12 c12 k12 fun _ _ _ _ _ _ us hl => by (obtain ⟨_, _, rfl⟩ := us2 hl; rfl)
    d13 := dn_mk (st := s_all_near) (ps := ["web"]) X G a13 l13 c13 k13 fun _ _ _ _ _ _ us hl => by (obtain ⟨_, rfl⟩ := us1 hl; rfl)
    d14 := dn_mk (st := s_piece_from) (ps := ["near", "place", "start"]) X G a14 l14 c14 k14 fun _ _ _ _ _ _ us hl => by (obtain ⟨_, _, _, rfl⟩ := us3 hl; rfl)
    d15 := dn_mk (st := s_pieces_by) (ps := ["near", "place"]) X G a15 l15 c15 k15 fun _ _ _ _ _ _ us hl => by (obtain ⟨_, _, rfl⟩ := us2 hl; rfl)
    d16 := dn_mk (st := s_looks_in) (ps := ["near", "place", "looks"]) X G a16 l16 c16 k16 fun _ _ _ _ _ _ us hl => by (obtain ⟨_, _, _, rfl⟩ := us3 hl; rfl)
    d17 := dn_mk (st := s_tie_of) (ps := ["one", "other"]) X G a17 l17 c17 k17 fun _ _ _ _ _ _ us hl => by (obtain ⟨_, _, rfl⟩ := us2 hl; rfl)
    d18 := dn_mk (st := s_likes_at) (ps := ["near", "place", "looks", "kind"]) X G a18 l18 c18 k18 fun _ _ _ _ _ _ us hl => by (obtain ⟨_, _, _, _, rfl⟩ := us4 hl; rfl)
    d19 := dn_mk (st := s_tree_likes) (ps := ["web", "looks", "kind"]) X G a19 l19 c19 k19 fun _ _ _ _ _ _ us hl => by (obtain ⟨_, _, _, rfl⟩ := us3 hl; rfl)
    d21 := dn_mk (st := s_law_cells) (ps := ["script", "many"]) X G a21 l21 c21 k21 fun _ _ _ _ _ _ us hl => by (obtain ⟨_, _, rfl⟩ := us2 hl; rfl)
    d22 := dn_mk (st := s_law_pool) (ps := ["cells", "k"]) X G a22 l22 c22 k22 fun _ _ _ _ _ _ us hl => by (obtain ⟨_, _, rfl⟩ := us2 hl; rfl)
    d23 := dn_mk (st := s_law_take) (ps := ["pool", "many"]) X G a23 l23 c23 k23 fun _ _ _ _ _ _ us hl => by (obtain ⟨_, _, rfl⟩ := us2 hl; rfl)
    d24 := dn_mk (st := s_law_some) (ps := ["pool", "menu", "many"]) X G a24 l24 c24 k24 fun _ _ _ _ _ _ us hl => by (obtain ⟨_, _, _, rfl⟩ := us3 hl; rfl)
    d25 := dn_mk (st := s_law_named) (ps := ["pool", "many", "ties"]) X G a25 l25 c25 k25 fun _ _ _ _ _ _ us hl => by (obtain ⟨_, _, _, rfl⟩ := us3 hl; rfl)
    d26 := dn_mk (st := s_law_tree) (ps := ["pool", "most"]) X G a26 l26 c26 k26 fun _ _ _ _ _ _ us hl => by (obtain ⟨_, _, rfl⟩ := us2 hl; rfl)
    d27 := dn_mk (st := s_law_near) (ps := ["web"]) X G a27 l27 c27 k27 fun _ _ _ _ _ _ us hl => by (obtain ⟨_, rfl⟩ := us1 hl; rfl)
    d28 := dn_mk (st := s_law_steps) (ps := ["near", "place"]) X G a28 l28 c28 k28 fun _ _ _ _ _ _ us hl => by (obtain ⟨_, _, rfl⟩ := us2 hl; rfl)
    d29 := dn_mk (st := s_law_things) (ps := ["web", "kind"]) X G a29 l29 c29 k29 fun _ _ _ _ _ _ us hl => by (obtain ⟨_, _, rfl⟩ := us2 hl; rfl)
    d30 := dn_mk (st := s_law_code) (ps := ["steps", "thing"]) X G a30 l30 c30 k30 fun _ _ _ _ _ _ us hl => by (obtain ⟨_, _, rfl⟩ := us2 hl; rfl)
    d31 := dn_mk (st := s_law_codes) (ps := ["web", "looks", "kind"]) X G a31 l31 c31 k31 fun _ _ _ _ _ _ us hl => by (obtain ⟨_, _, _, rfl⟩ := us3 hl; rfl)
    d32 := dn_mk (st := s_law_looks) (ps := ["pool", "many"]) X G a32 l32 c32 k32 fun _ _ _ _ _ _ us hl => by (obtain ⟨_, _, rfl⟩ := us2 hl; rfl)
    d33 := dn_mk (st := s_law_ends) (ps := ["web"]) X G a33 l33 c33 k33 fun _ _ _ _ _ _ us hl => by (obtain ⟨_, rfl⟩ := us1 hl; rfl)
    d34 := dn_mk (st := s_law_right) (ps := ["web", "looks", "kind"]) X G a34 l34 c34 k34 fun _ _ _ _ _ _ us hl => by (obtain ⟨_, _, _, rfl⟩ := us3 hl; rfl)
    d35 := dn_mk (st := s_law) (ps := ["script"]) X G a35 l35 c35 k35 fun _ _ _ _ _ _ us hl => by (obtain ⟨_, rfl⟩ := us1 hl; rfl)
    n_abs := PySem.W.mg_none_of X G z_abs
    n_all := PySem.W.mg_none_of X G z_all
    n_bool := PySem.W.mg_none_of X G z_bool
    n_enumerate := PySem.W.mg_none_of X G z_enumerate
    n_int := PySem.W.mg_none_of X G z_int
    n_isinstance := PySem.W.mg_none_of X G z_isinstance
    n_len := PySem.W.mg_none_of X G z_len
    n_list := PySem.W.mg_none_of X G z_list
    n_max := PySem.W.mg_none_of X G z_max
    n_min := PySem.W.mg_none_of X G z_min
    n_range := PySem.W.mg_none_of X G z_range
    n_set := PySem.W.mg_none_of X G z_set
    n_sorted := PySem.W.mg_none_of X G z_sorted
    n_tuple := PySem.W.mg_none_of X G z_tuple
    n_zip := PySem.W.mg_none_of X G z_zip }
  exact ⟨(PySem.W.fnOf "law" "law" (defArgs s_law) (defBody s_law) (defScope s_law) .none kV35 dc35 pm35 an35 cd35 ct35), fun s v => .of_eq rfl, fun base _ _ => ok_law (A := A) (FD := FD) T⟩
theorem walk {l : PySem.W.OpenLaw} {q : Program} {loose : List Str} {XP : (Str → Option Value) → Heap → Prop} {YP : World → Heap → Prop} {d : DefRec} {K : Params → PySem.W.Frag} (hn : l.most = some 63) (hdf : d.params.defaults = [])
    (hY : ∀ (w : World) (h : Heap), YP w h → (K w.params).In h)
    (F : ∀ (w : World) (mg : Str → Option Value) (fa : Addr) (h : Heap), (K w.params).In h → h.Ns mainGlobals mg → mg d.name = some (.ref fa) →
      ∃ fd : FuncData, (∀ (s : Shared) (u : Value), BindsTo s fd ⟨[u], []⟩ [("script", u)]) ∧ ∀ base : Heap, (K w.params).In base → base.Ns mainGlobals mg → FnOk l.prog w (K w.params) mg base CX0 7 fa fd ["script"] (sp_law (K w.params))) :
    PySem.W.WalkO q loose XP YP l.row.toRowW d [] (fun f vs => PySem.call f vs) :=
  L2.walk_of (n := 63) (k := 7) (x := "script") (CX := fun _ => CX0) (sp := fun w => sp_law (K w.params)) hn (by decide) hdf ⟨rfl, by decide, by decide⟩ hY F
    (fun _ H a ns hl _ hS => ⟨H, [], .ref a, ⟨ns⟩, rfl, ⟨Same.refl _, (fun _ z => nomatch z), List.Pairwise.nil, (fun _ z => nomatch z)⟩, ⟨a, rfl, hS⟩, by rw [law_true ns hl]; exact fun v F2 H2 w s r => r⟩) fun _ _ _ _ _ z => z
end G
open PySem PySem.W PyProof.Rows
set_option maxRecDepth 100000 in
set_option maxHeartbeats 0 in
theorem PySem.Challenge.cw_farhail_k19_tree_likes_told_holds : PySem.Challenge.rw_farhail_k19_tree_likes_told.Holds := by
  refine HD.whole ?_
  k_fill
  refine G.walk (l := PySem.Challenge.rw_farhail_k19_tree_likes_told) rfl rfl (fun w h Y => PySem.W.kIn_of Y) ?F
  case F =>
    intro w mg fa h KX Gn hmg
    refine' G.all_mk KX Gn hmg ?a6 ?l6 ?c6 ?k6 ?a7 ?l7 ?c7 ?k7 ?a8 ?l8 ?c8 ?k8 ?a10 ?l10 ?c10 ?k10 ?a11 ?l11 ?c11 ?k11 ?a12 ?l12 ?c12 ?k12 ?a13 ?l13 ?c13 ?k13 ?a14 ?l14 ?c14 ?k14 ?a15 ?l15 ?c15 ?k15 ?a16 ?l16 ?c16 ?k16 ?a17 ?l17 ?c17 ?k17 ?a18 ?l18 ?c18 ?k18 ?a19 ?l19 ?c19 ?k19 ?a21 ?l21 ?c21 ?k21 ?a22 ?l22 ?c22 ?k22 ?a23 ?l23 ?c23 ?k23 ?a24 ?l24 ?c24 ?k24 ?a25 ?l25 ?c25 ?k25 ?a26 ?l26 ?c26 ?k26 ?a27 ?l27 ?c27 ?k27 ?a28 ?l28 ?c28 ?k28 ?a29 ?l29 ?c29 ?k29 ?a30 ?l30 ?c30 ?k30 ?a31 ?l31 ?c31 ?k31 ?a32 ?l32 ?c32 ?k32 ?a33 ?l33 ?c33 ?k33 ?a34 ?l34 ?c34 ?k34 ?a35 ?l35 ?c35 ?k35 ?z_abs ?z_all ?z_bool ?z_enumerate ?z_int ?z_isinstance ?z_len ?z_list ?z_max ?z_min ?z_range ?z_set ?z_sorted ?z_tuple ?z_zip
    (case a6 => k_is); (case l6 => k_is); (case c6 => k_is); (case k6 => k_is)
    (case a7 => k_is); (case l7 => k_is); (case c7 => k_is); (case k7 => k_is)
    (case a8 => k_is); (case l8 => k_is); (case c8 => k_is); (case k8 => k_is)
    (case a10 => k_is); (case l10 => k_is); (case c10 => k_is); (case k10 => k_is)
    (case a11 => k_is); (case l11 => k_is); (case c11 => k_is); (case k11 => k_is)
    (case a12 => k_is); (case l12 => k_is); (case c12 => k_is); (case k12 => k_is)
    (case a13 => k_is); (case l13 => k_is); (case c13 => k_is); (case k13 => k_is)
    (case a14 => k_is); (case l14 => k_is); (case c14 => k_is); (case k14 => k_is)
    (case a15 => k_is); (case l15 => k_is); (case c15 => k_is); (case k15 => k_is)
    (case a16 => k_is); (case l16 => k_is); (case c16 => k_is); (case k16 => k_is)
    (case a17 => k_is); (case l17 => k_is); (case c17 => k_is); (case k17 => k_is)
    (case a18 => k_is); (case l18 => k_is); (case c18 => k_is); (case k18 => k_is)
    (case a19 => k_is); (case l19 => k_is); (case c19 => k_is); (case k19 => k_is)
    (case a21 => k_is); (case l21 => k_is); (case c21 => k_is); (case k21 => k_is)
    (case a22 => k_is); (case l22 => k_is); (case c22 => k_is); (case k22 => k_is)
    (case a23 => k_is); (case l23 => k_is); (case c23 => k_is); (case k23 => k_is)
    (case a24 => k_is); (case l24 => k_is); (case c24 => k_is); (case k24 => k_is)
    (case a25 => k_is); (case l25 => k_is); (case c25 => k_is); (case k25 => k_is)
    (case a26 => k_is); (case l26 => k_is); (case c26 => k_is); (case k26 => k_is)
    (case a27 => k_is); (case l27 => k_is); (case c27 => k_is); (case k27 => k_is)
    (case a28 => k_is); (case l28 => k_is); (case c28 => k_is); (case k28 => k_is)
    (case a29 => k_is); (case l29 => k_is); (case c29 => k_is); (case k29 => k_is)
    (case a30 => k_is); (case l30 => k_is); (case c30 => k_is); (case k30 => k_is)
    (case a31 => k_is); (case l31 => k_is); (case c31 => k_is); (case k31 => k_is)
    (case a32 => k_is); (case l32 => k_is); (case c32 => k_is); (case k32 => k_is)
    (case a33 => k_is); (case l33 => k_is); (case c33 => k_is); (case k33 => k_is)
    (case a34 => k_is); (case l34 => k_is); (case c34 => k_is); (case k34 => k_is)
    (case a35 => k_is); (case l35 => k_is); (case c35 => k_is); (case k35 => k_is)
    (case z_abs => k_is)
    (case z_all => k_is)
    (case z_bool => k_is)
    (case z_enumerate => k_is)
    (case z_int => k_is)
    (case z_isinstance => k_is)
    (case z_len => k_is)
    (case z_list => k_is)
    (case z_max => k_is)
    (case z_min => k_is)
    (case z_range => k_is)
    (case z_set => k_is)
    (case z_sorted => k_is)
    (case z_tuple => k_is)
    (case z_zip => k_is)
#print axioms PySem.Challenge.cw_farhail_k19_tree_likes_told_holds
