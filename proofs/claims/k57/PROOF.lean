import PyProof.Rows.All
import Wide.All
import OpenK.AllK
import Wide.FinOn
import HandS.ForMost
import HandS.Wide
import HandS.Walk
import HandS.Deep
import HandS.SortInts
import HandS.Flow
import HandS.IsInst
import PyProof.P3In
import HandS.TupSets
import HandS.Dict
import HandS.Conv
import HandS.SortRule
import KE.KIsAll
import HandS.Base
import HandS.Call
import HandS.Exc
import HandS.ExcOwn
import HandS.ExcIs
import HandS.ExcValue
import HandS.TryOnly
import HandS.WordsExc
import HandS.TupAny
import HandS.DictTup
import KE.KDictWalk
import HandS.Iter
import HandS.SortKw
import HandS.Codes
import KE.SortKeyHeap
import PyProof.DictMoreH
import HandS.SetKeys
import KE.IntBitsLaws
import PyProof.AutoSeq1
import KE.KDictSum
import HandS.SortOrd
import KE.KDictKeyed
import HandS.Zip0
import HandS.Zip
import HandS.SetFor
import HandS.Strs
import HandS.More
import PySem.Challenge.RW_farhail_k57_whole_asks_of_known_webs
set_option Elab.async false
set_option linter.all false
set_option maxRecDepth 100000
set_option maxHeartbeats 4000000
/-! Z0: results with refusals, data as it stands in a heap, the heap in a frozen part and cells of one's own -/
namespace Z
open PySem L2
abbrev Fg := PySem.W.Frag
/-! ### results -/
structure Exn where
  cls : Str
  arg : Int
  deriving DecidableEq
inductive R (α : Type) where
  | ok (a : α)
  | exc (e : Exn)
  | bad
def R.bind {α β : Type} (m : R α) (f : α → R β) : R β :=
  match m with
  | .ok a => f a
  | .exc e => .exc e
  | .bad => .bad
instance : Monad R where
  pure := R.ok
  bind := R.bind
section
variable {α β γ : Type}
theorem ok_bind (a : α) (f : α → R β) : (R.ok a >>= f) = f a := rfl
theorem bind_bind (m : R α) (f : α → R β) (g : β → R γ) : ((m >>= f) >>= g) = (m >>= fun a => f a >>= g) := by
  cases m <;> rfl
theorem bind_ok_iff {m : R α} {f : α → R β} {b : β} : (m >>= f) = R.ok b ↔ ∃ a, m = R.ok a ∧ f a = R.ok b := by
  cases m with
  | ok a => exact ⟨fun h => ⟨a, rfl, h⟩, fun ⟨_, h1, h2⟩ => by cases h1; exact h2⟩
  | exc e => exact ⟨fun h => (nomatch (show R.exc e = R.ok b from h)), fun ⟨_, h1, _⟩ => nomatch h1⟩
  | bad => exact ⟨fun h => (nomatch (show R.bad = R.ok b from h)), fun ⟨_, h1, _⟩ => nomatch h1⟩
def grd (b : Bool) : R Unit := if b = true then .ok () else .bad
theorem grd_t {b : Bool} (h : b = true) : grd b = R.ok () := by rw [h]; rfl
def ofO (o : Option α) : R α :=
  match o with
  | some a => .ok a
  | none => .bad
/-- the item at an index of any sign -/
def getI (xs : List α) (i : Int) : R α := ofO (atI xs i)
/-- the list with another item at an index -/
def setI (xs : List α) (i : Int) (x : α) : R (List α) :=
  match ixN xs.length i with
  | some j => .ok (xs.set j x)
  | none => .bad
/-- a list of at most a thousand items grows by one -/
def app (xs : List α) (x : α) : R (List α) := if xs.length < 100000 then .ok (xs ++ [x]) else .bad
def extend (xs ys : List α) : R (List α) := if xs.length + ys.length < 100000 then .ok (xs ++ ys) else .bad
@[irreducible] def mulI (i j : Int) : R Int := if (-(2 ^ 64) < i ∧ i < 2 ^ 64) ∨ (-(2 ^ 64) < j ∧ j < 2 ^ 64) then .ok (i * j) else .bad
@[irreducible] def modI (i j : Int) : R Int := if 0 < j then .ok (i % j) else .bad
@[irreducible] def divI (i j : Int) : R Int := if 0 < j ∧ j.natAbs.log2 < 9000 then .ok (i / j) else .bad
/-- the ints from i on below j -/
def rng (i j : Int) : List Int := (List.range (j - i).toNat).map fun (k : Nat) => i + (k : Int)
@[irreducible] def rngI (i j : Int) : R (List Int) := if -(2 ^ 62) ≤ i ∧ i < 2 ^ 62 ∧ -(2 ^ 62) ≤ j ∧ j < 2 ^ 62 then .ok (rng i j) else .bad
/-- items for items -/
def mapR (f : α → R β) : List α → R (List β)
  | [] => .ok []
  | x :: xs => do
    let y ← f x
    let ys ← mapR f xs
    pure (y :: ys)
/-- a fold whose turn may leave -/
def foldR (f : β → α → R β) : β → List α → R β
  | s, [] => .ok s
  | s, x :: xs => f s x >>= fun s' => foldR f s' xs
/-- a fold whose turn may end the whole with a value (inl), or the loop alone (inr inl) -/
def foldX {ρ : Type} (f : β → α → R (Sum ρ (Bool × β))) : β → List α → R (Sum ρ β)
  | s, [] => .ok (.inr s)
  | s, x :: xs => f s x >>= fun r =>
    match r with
    | .inl z => .ok (.inl z)
    | .inr (true, s') => foldX f s' xs
    | .inr (false, s') => .ok (.inr s')
/-- what holds of a result -/
def Post (m : R α) (P : α → Prop) (E : Exn → Prop) : Prop :=
  match m with
  | .ok a => P a
  | .exc e => E e
  | .bad => False
variable {P P' : α → Prop} {Q : β → Prop} {E E' : Exn → Prop}
theorem Post.mono {m : R α} (h : Post m P E) (hP : ∀ a, P a → P' a) (hE : ∀ e, E e → E' e) : Post m P' E' := by
  cases m with
  | ok a => exact hP a h
  | exc e => exact hE e h
  | bad => exact h
theorem post_bind {m : R α} {f : α → R β} (h : Post (m >>= f) Q E) : Post m (fun a => Post (f a) Q E) E := by
  cases m <;> exact h
theorem post_ok {a : α} (h : Post (R.ok a) P E) : P a := h
theorem pb_assoc {m : R α} {f : α → R β} {g : β → R γ} {Q : γ → Prop} (h : Post ((m >>= f) >>= g) Q E) : Post (m >>= fun a => f a >>= g) Q E := by
  rw [bind_bind] at h
  exact h
theorem pb_grd {b : Bool} {f : Unit → R β} (h : Post (grd b >>= f) Q E) : b = true ∧ Post (f ()) Q E := by
  cases b with
  | true => exact ⟨rfl, h⟩
  | false => exact (show False from h).elim
theorem pb_ofO {o : Option α} {f : α → R β} (h : Post (ofO o >>= f) Q E) : ∃ a, o = some a ∧ Post (f a) Q E := by
  cases o with
  | some a => exact ⟨a, rfl, h⟩
  | none => exact (show False from h).elim
theorem pb_get {xs : List α} {i : Int} {f : α → R β} (h : Post (getI xs i >>= f) Q E) : ∃ a, atI xs i = some a ∧ Post (f a) Q E := pb_ofO h
theorem pb_set {xs : List α} {i : Int} {x : α} {f : List α → R β} (h : Post (setI xs i x >>= f) Q E) : ∃ j, ixN xs.length i = some j ∧ Post (f (xs.set j x)) Q E := by
  unfold setI at h
  cases e : ixN xs.length i with
  | some j => rw [e] at h; exact ⟨j, rfl, h⟩
  | none => rw [e] at h; exact (show False from h).elim
theorem pb_if {c : Prop} [Decidable c] {a : α} {f : α → R β} (h : Post ((if c then R.ok a else R.bad) >>= f) Q E) : c ∧ Post (f a) Q E := by
  by_cases hc : c
  · rw [if_pos hc] at h
    exact ⟨hc, h⟩
  · rw [if_neg hc] at h
    exact (show False from h).elim
theorem line5 : 100000 ≤ sizeLine := by decide
theorem pb_app {xs : List α} {x : α} {f : List α → R β} (h : Post (app xs x >>= f) Q E) : xs.length < sizeLine ∧ Post (f (xs ++ [x])) Q E :=
  let ⟨a, b⟩ := pb_if h
  ⟨Nat.lt_of_lt_of_le a line5, b⟩
theorem pb_extend {xs ys : List α} {f : List α → R β} (h : Post (extend xs ys >>= f) Q E) : xs.length + ys.length ≤ sizeLine ∧ Post (f (xs ++ ys)) Q E :=
  let ⟨a, b⟩ := pb_if h
  ⟨Nat.le_of_lt (Nat.lt_of_lt_of_le a line5), b⟩
theorem pb_mul {i j : Int} {f : Int → R β} (h : Post (mulI i j >>= f) Q E) : CMul i j ∧ Post (f (i * j)) Q E := by
  unfold mulI at h
  exact let ⟨a, b⟩ := pb_if (c := (-(2 ^ 64) < i ∧ i < 2 ^ 64) ∨ (-(2 ^ 64) < j ∧ j < 2 ^ 64)) h
  ⟨a, b⟩
theorem pb_mod {i j : Int} {f : Int → R β} (h : Post (modI i j >>= f) Q E) : 0 < j ∧ Post (f (i % j)) Q E := by
  unfold modI at h
  exact pb_if h
theorem pb_div {i j : Int} {f : Int → R β} (h : Post (divI i j >>= f) Q E) : CDivW i j ∧ Post (f (i / j)) Q E := by
  unfold divI at h
  exact let ⟨a, b⟩ := pb_if (c := 0 < j ∧ j.natAbs.log2 < 9000) h
  ⟨a, b⟩
theorem pb_rng {i j : Int} {f : List Int → R β} (h : Post (rngI i j >>= f) Q E) : (-(2 ^ 62) ≤ i ∧ i < 2 ^ 62 ∧ -(2 ^ 62) ≤ j ∧ j < 2 ^ 62) ∧ Post (f (rng i j)) Q E := by
  unfold rngI at h
  exact pb_if h
theorem post_ite {c : Bool} {m n : R α} {A B : Prop} (h : Post (if c = true then m else n) P E) (ht : c = true → Post m P E → A) (hf : c = false → Post n P E → B) : if c = true then A else B := by
  cases c with
  | true => exact ht rfl h
  | false => exact hf rfl h
theorem pb_foldR {f : γ → α → R γ} {s : γ} {x : α} {xs : List α} {g : γ → R β} (h : Post (foldR f s (x :: xs) >>= g) Q E) : Post (f s x >>= fun s' => foldR f s' xs >>= g) Q E := by
  have h' : Post ((f s x >>= fun s' => foldR f s' xs) >>= g) Q E := h
  rw [bind_bind] at h'
  exact h'
end
/-! ### lists of values and what they stand for -/
inductive A2 {α : Type} (r : V → α → Prop) : List V → List α → Prop
  | nil : A2 r [] []
  | cons {v : V} {x : α} {vs : List V} {xs : List α} : r v x → A2 r vs xs → A2 r (v :: vs) (x :: xs)
section
variable {α : Type} {r r' : V → α → Prop} {vs us : List V} {xs ys : List α} {v : V} {x : α}
theorem A2.length : ∀ {vs : List V} {xs : List α}, A2 r vs xs → vs.length = xs.length
  | _, _, .nil => rfl
  | _, _, .cons _ t => by rw [List.length_cons, List.length_cons, A2.length t]
theorem A2.imp (f : ∀ v x, r v x → r' v x) : ∀ {vs : List V} {xs : List α}, A2 r vs xs → A2 r' vs xs
  | _, _, .nil => .nil
  | _, _, .cons h t => .cons (f _ _ h) (A2.imp f t)
theorem A2.append : ∀ {vs us : List V} {xs ys : List α}, A2 r vs xs → A2 r us ys → A2 r (vs ++ us) (xs ++ ys)
  | _, _, _, _, .nil, h => h
  | _, _, _, _, .cons a t, h => .cons a (A2.append t h)
theorem A2.snoc (h : A2 r vs xs) (a : r v x) : A2 r (vs ++ [v]) (xs ++ [x]) := h.append (.cons a .nil)
theorem A2.get : ∀ {vs : List V} {xs : List α} {i : Nat} {x : α}, A2 r vs xs → xs[i]? = some x → ∃ v, vs[i]? = some v ∧ r v x
  | _, _, _, _, .nil, e => by simp at e
  | _, _, 0, _, .cons a _, e => by simp at e; subst e; exact ⟨_, rfl, a⟩
  | _, _, i + 1, x, .cons _ t, e => by
    obtain ⟨v, h1, h2⟩ := A2.get (i := i) (x := x) t (by simpa using e)
    exact ⟨v, by simpa using h1, h2⟩
theorem A2.getV : ∀ {vs : List V} {xs : List α} {i : Nat} {v : V}, A2 r vs xs → vs[i]? = some v → ∃ x, xs[i]? = some x ∧ r v x
  | _, _, _, _, .nil, e => by simp at e
  | _, _, 0, _, .cons a _, e => by simp at e; subst e; exact ⟨_, rfl, a⟩
  | _, _, i + 1, x, .cons _ t, e => by
    obtain ⟨v, h1, h2⟩ := A2.getV (i := i) (v := x) t (by simpa using e)
    exact ⟨v, by simpa using h1, h2⟩
theorem A2.at {i : Int} (h : A2 r vs xs) (e : atI xs i = some x) : ∃ v, atI vs i = some v ∧ r v x := by
  unfold atI at e ⊢
  rw [h.length]
  cases q : ixN xs.length i with
  | none => rw [q] at e; cases e
  | some j =>
    rw [q] at e
    exact h.get e
theorem A2.set (a : r v x) : ∀ {vs : List V} {xs : List α} (i : Nat), A2 r vs xs → A2 r (vs.set i v) (xs.set i x)
  | _, _, _, .nil => .nil
  | _, _, 0, .cons _ t => .cons a t
  | _, _, i + 1, .cons q t => .cons q (A2.set a i t)
theorem A2.take : ∀ {vs : List V} {xs : List α} (n : Nat), A2 r vs xs → A2 r (vs.take n) (xs.take n)
  | _, _, 0, _ => .nil
  | _, _, _ + 1, .nil => .nil
  | _, _, n + 1, .cons a t => .cons a (A2.take n t)
theorem A2.drop : ∀ {vs : List V} {xs : List α} (n : Nat), A2 r vs xs → A2 r (vs.drop n) (xs.drop n)
  | _, _, 0, h => h
  | _, _, _ + 1, .nil => .nil
  | _, _, n + 1, .cons _ t => A2.drop n t
theorem A2.reverse : ∀ {vs : List V} {xs : List α}, A2 r vs xs → A2 r vs.reverse xs.reverse
  | _, _, .nil => .nil
  | _, _, .cons a t => by
    rw [List.reverse_cons, List.reverse_cons]
    exact (A2.reverse t).snoc a
end
/-! ### data in a heap -/
class Rep (α : Type) where
  rep : Fg → Hp → V → α → Prop
  mono : ∀ {K : Fg} {H H' : Hp} {v : V} {x : α}, Same H H' → rep K H v x → rep K H' v x
open Rep (rep)
section
variable {α β : Type} [Rep α] [Rep β] {K : Fg} {H H' : Hp} {v : V}
theorem A2.mono {vs : List V} {xs : List α} (s : Same H H') (h : A2 (rep K H) vs xs) : A2 (rep K H') vs xs := h.imp fun _ _ => Rep.mono s
instance : Rep Int := ⟨fun _ _ v x => v = .int x, fun _ h => h⟩
instance : Rep Bool := ⟨fun _ _ v x => v = .bl x, fun _ h => h⟩
instance : Rep Unit := ⟨fun _ _ v _ => v = .non, fun _ h => h⟩
instance : Rep Str := ⟨fun _ _ v x => v = .str x, fun _ h => h⟩
instance repOpt : Rep (Option α) := ⟨fun K H v x => match x with
  | none => v = .non
  | some y => rep K H v y, fun {_ _ _ _ x} s h => by
    cases x with
    | none => exact h
    | some y => exact Rep.mono (α := α) s h⟩
instance repPair : Rep (α × β) := ⟨fun K H v x => ∃ a u w, v = .ref a ∧ H a = some (.tup [u, w]) ∧ rep K H u x.1 ∧ rep K H w x.2,
  fun s ⟨a, u, w, e, q, h1, h2⟩ => ⟨a, u, w, e, s _ _ q, Rep.mono s h1, Rep.mono s h2⟩⟩
instance repList : Rep (List α) := ⟨fun K H v xs => ∃ a vs, v = .ref a ∧ H a = some (.lst vs) ∧ A2 (rep K H) vs xs,
  fun s ⟨a, vs, e, q, h⟩ => ⟨a, vs, e, s _ _ q, h.mono s⟩⟩
/-- the script -/
structure Scr where
  l : List Int
  deriving DecidableEq
instance repScr : Rep Scr := ⟨fun K H v xs => ∃ a, v = .ref a ∧ SqL K H a (xs.l.map V.int), fun s ⟨a, e, q⟩ => ⟨a, e, s.seq q⟩⟩
/-- a tuple of any number of like things -/
structure Tup (α : Type) where
  l : List α
  deriving DecidableEq
instance repTup : Rep (Tup α) := ⟨fun K H v xs => ∃ a vs, v = .ref a ∧ H a = some (.tup vs) ∧ A2 (rep K H) vs xs.l,
  fun s ⟨a, vs, e, q, h⟩ => ⟨a, vs, e, s _ _ q, h.mono s⟩⟩
/-- a place, or a pair -/
inductive Thing where
  | pl (i : Int)
  | ti (a b : Int)
  deriving DecidableEq
instance repThing : Rep Thing := ⟨fun K H v x => match x with
  | .pl i => v = .int i
  | .ti a b => rep K H v (a, b), fun {_ _ _ _ x} s h => by
    cases x with
    | pl i => exact h
    | ti a b => exact Rep.mono (α := Int × Int) s h⟩
theorem A2.ints {vs : List V} {xs : List Int} (h : A2 (rep K H) vs xs) : vs = xs.map V.int := by
  induction h with
  | nil => rfl
  | cons a _ ih =>
    have a' : _ = V.int _ := a
    rw [a', ih]
    rfl
theorem A2.of_ints {xs : List Int} : A2 (rep K H) (xs.map V.int) xs := by
  induction xs with
  | nil => exact .nil
  | cons x xs ih => exact .cons rfl ih
theorem A2.bools {vs : List V} {xs : List Bool} (h : A2 (rep K H) vs xs) : vs = xs.map V.bl := by
  induction h with
  | nil => rfl
  | cons a _ ih =>
    have a' : _ = V.bl _ := a
    rw [a', ih]
    rfl
end
/-! ### the heap: F, frozen, is read alone; the cells os are one's own, not in F -/
structure W (F H : Hp) (os : List (Addr × HO)) : Prop where
  same : Same F H
  own : ∀ p ∈ os, H p.1 = some p.2 ∧ F p.1 = none
  nd : os.Pairwise fun p q => p.1 ≠ q.1
  nt : ∀ p ∈ os, ∀ vs, p.2 ≠ .tup vs
theorem same_new {H : Hp} {p : Addr} {o : HO} (h : H p = none) : Same H (upd H p o) := fun a u e => by
  rw [upd_ne (ne_of_none e h)]
  exact e
section
variable {F H : Hp} {os pre post : List (Addr × HO)} {a p : Addr} {o o' : HO}
theorem W.free (w : W F H os) (n : H p = none) : F p = none := w.same.free n
theorem W.get (w : W F H (pre ++ (a, o) :: post)) : H a = some o := (w.own (a, o) (List.mem_append_right _ List.mem_cons_self)).1
theorem W.no (w : W F H (pre ++ (a, o) :: post)) : F a = none := (w.own (a, o) (List.mem_append_right _ List.mem_cons_self)).2
theorem W.ne (w : W F H os) (n : H p = none) : ∀ q ∈ os, q.1 ≠ p := fun q hq e => by
  have h := (w.own q hq).1
  rw [e, n] at h
  cases h
/-- a new thing, never to be written -/
theorem W.frz (w : W F H os) (n : H p = none) : W (upd F p o) (upd H p o) os where
  same := fun b u e => by
    by_cases hb : b = p
    · subst hb
      rw [upd_same] at e ⊢
      exact e
    · rw [upd_ne hb] at e ⊢
      exact w.same b u e
  own := fun q hq => by
    have hne := w.ne n q hq
    rw [upd_ne hne, upd_ne hne]
    exact w.own q hq
  nd := w.nd
  nt := w.nt
theorem W.frzS (w : W F H os) (n : H p = none) : Same F (upd F p o) := same_new (w.free n)
/-- a new cell of one's own -/
theorem W.new (w : W F H os) (n : H p = none) (ho : ∀ vs, o ≠ .tup vs := by exact fun _ h => nomatch h) : W F (upd H p o) ((p, o) :: os) where
  same := w.same.trans (same_new n)
  own := fun q hq => by
    rcases List.mem_cons.mp hq with rfl | hq
    · exact ⟨upd_same, w.free n⟩
    · rw [upd_ne (w.ne n q hq)]
      exact w.own q hq
  nd := List.pairwise_cons.mpr ⟨fun q hq => fun e => w.ne n q hq e.symm, w.nd⟩
  nt := fun q hq => by
    rcases List.mem_cons.mp hq with rfl | hq
    · exact ho
    · exact w.nt q hq
/-- a cell of one's own is written -/
theorem W.set (w : W F H (pre ++ (a, o) :: post)) (ho : ∀ vs, o' ≠ .tup vs := by exact fun _ h => nomatch h) : W F (upd H a o') (pre ++ (a, o') :: post) where
  same := fun b u e => by
    have hn := w.no
    rw [upd_ne (ne_of_none e hn)]
    exact w.same b u e
  own := fun q hq => by
    have nd := w.nd
    rw [List.pairwise_append] at nd
    obtain ⟨_, n2, n3⟩ := nd
    rw [List.pairwise_cons] at n2
    rcases List.mem_append.mp hq with hq | hq
    · have hne : q.1 ≠ a := n3 q hq (a, o) List.mem_cons_self
      rw [upd_ne hne]
      exact w.own q (List.mem_append_left _ hq)
    · rcases List.mem_cons.mp hq with rfl | hq
      · exact ⟨upd_same, w.no⟩
      · have hne : q.1 ≠ a := fun e => n2.1 q hq e.symm
        rw [upd_ne hne]
        exact w.own q (List.mem_append_right _ (List.mem_cons_of_mem _ hq))
  nd := by
    have nd := w.nd
    rw [List.pairwise_append] at nd ⊢
    obtain ⟨n1, n2, n3⟩ := nd
    rw [List.pairwise_cons] at n2 ⊢
    refine ⟨n1, ⟨n2.1, n2.2⟩, fun x hx y hy => ?_⟩
    rcases List.mem_cons.mp hy with rfl | hy
    · exact n3 x hx (a, o) List.mem_cons_self
    · exact n3 x hx y (List.mem_cons_of_mem _ hy)
  nt := fun q hq => by
    rcases List.mem_append.mp hq with hq | hq
    · exact w.nt q (List.mem_append_left _ hq)
    · rcases List.mem_cons.mp hq with rfl | hq
      · exact ho
      · exact w.nt q (List.mem_append_right _ (List.mem_cons_of_mem _ hq))
/-- a cell is forgotten -/
theorem W.drop (w : W F H (pre ++ (a, o) :: post)) : W F H (pre ++ post) where
  same := w.same
  own := fun q hq => w.own q (by
    rcases List.mem_append.mp hq with h | h
    · exact List.mem_append_left _ h
    · exact List.mem_append_right _ (List.mem_cons_of_mem _ h))
  nd := by
    have nd := w.nd
    rw [List.pairwise_append] at nd ⊢
    obtain ⟨n1, n2, n3⟩ := nd
    rw [List.pairwise_cons] at n2
    exact ⟨n1, n2.2, fun x hx y hy => n3 x hx y (List.mem_cons_of_mem _ hy)⟩
  nt := fun q hq => w.nt q (by
    rcases List.mem_append.mp hq with h | h
    · exact List.mem_append_left _ h
    · exact List.mem_append_right _ (List.mem_cons_of_mem _ h))
/-- a cell of one's own is never written again -/
theorem W.freeze (w : W F H (pre ++ (a, o) :: post)) : W (upd F a o) H (pre ++ post) where
  same := fun b u e => by
    by_cases hb : b = a
    · subst hb
      rw [upd_same] at e
      rw [← e]
      exact w.get
    · rw [upd_ne hb] at e
      exact w.same b u e
  own := fun q hq => by
    have nd := w.nd
    rw [List.pairwise_append] at nd
    obtain ⟨n1, n2, n3⟩ := nd
    rw [List.pairwise_cons] at n2
    have hne : q.1 ≠ a := by
      rcases List.mem_append.mp hq with h | h
      · exact n3 q h (a, o) List.mem_cons_self
      · exact fun e => n2.1 q h e.symm
    have h := w.drop.own q hq
    rw [upd_ne hne]
    exact h
  nd := w.drop.nd
  nt := w.drop.nt
theorem W.freezeS (w : W F H (pre ++ (a, o) :: post)) : Same F (upd F a o) := same_new w.no
/-- a cell is told first -/
theorem W.front (w : W F H (pre ++ (a, o) :: post)) : W F H ((a, o) :: (pre ++ post)) where
  same := w.same
  own := fun x hx => w.own x (by
    rcases List.mem_cons.mp hx with rfl | h
    · exact List.mem_append_right _ List.mem_cons_self
    · rcases List.mem_append.mp h with h | h
      · exact List.mem_append_left _ h
      · exact List.mem_append_right _ (List.mem_cons_of_mem _ h))
  nd := by
    have nd := w.nd
    have nd' := w.drop.nd
    rw [List.pairwise_append] at nd
    obtain ⟨n1, n2, n3⟩ := nd
    rw [List.pairwise_cons] at n2
    refine List.pairwise_cons.mpr ⟨fun x hx => ?_, nd'⟩
    rcases List.mem_append.mp hx with h | h
    · exact fun e => n3 x h (a, o) List.mem_cons_self e.symm
    · exact n2.1 x h
  nt := fun x hx => w.nt x (by
    rcases List.mem_cons.mp hx with rfl | h
    · exact List.mem_append_right _ List.mem_cons_self
    · rcases List.mem_append.mp h with h | h
      · exact List.mem_append_left _ h
      · exact List.mem_append_right _ (List.mem_cons_of_mem _ h))
end
/-! ### what a call hands back -/
section
variable {α β : Type} [Rep α] [Rep β]
/-- a value of the frozen part -/
def Ret (K : Fg) (F : Hp) (os : List (Addr × HO)) (Q : VK) (y : α) : Prop := ∀ v F' H', W F' H' os → Same F F' → rep K F' v y → Q v H'
/-- a new list, the caller's own -/
def RetL (K : Fg) (F : Hp) (os : List (Addr × HO)) (Q : VK) (ys : List α) : Prop := ∀ p vs F' H', W F' H' ((p, .lst vs) :: os) → Same F F' → A2 (rep K F') vs ys → Q (.ref p) H'
/-- a value, and what the list at a holds now -/
def RetM (K : Fg) (F : Hp) (a : Addr) (os : List (Addr × HO)) (Q : VK) (y : α × List β) : Prop :=
  ∀ v vs F' H', W F' H' ((a, .lst vs) :: os) → Same F F' → rep K F' v y.1 → A2 (rep K F') vs y.2 → Q v H'
/-- a new list, the caller's own, and what the list at a holds now -/
def RetLM (K : Fg) (F : Hp) (a : Addr) (os : List (Addr × HO)) (Q : VK) (y : List α × List β) : Prop :=
  ∀ p us vs F' H', W F' H' ((p, .lst us) :: (a, .lst vs) :: os) → Same F F' → A2 (rep K F') us y.1 → A2 (rep K F') vs y.2 → Q (.ref p) H'
def noX : Exn → Prop := fun _ => False
end
end Z
/-! Z1: loops, comprehensions and joins against their mirrors; calls by typed data -/
namespace Z
open PySem L2
open Rep (rep)
/-! ### ways that join -/
section
variable {γ δ : Type} {m : R γ} {k : γ → R δ} {P : δ → Prop} {X : Exn → Prop}
theorem joinS {t u : TS} {D : Ends} {σ : St} {H : Hp} (hm : Post (m >>= k) P X) (J : γ → St → Hp → Prop)
    (h : ∀ (N : St → Hp → Prop) (P' : γ → Prop), (∀ g, P' g → ∀ σ' H', J g σ' H' → N σ' H') → Post m P' X → t { D with nx := N } σ H)
    (h2 : ∀ g σ' H', J g σ' H' → Post (k g) P X → u D σ' H') : tSeq t u D σ H :=
  h _ _ (fun g p σ' H' j => h2 g σ' H' j p) (post_bind hm)
theorem joinT {t : TT} {σ : St} {H : Hp} {Q : Bool → Hp → Prop} (hm : Post (m >>= k) P X) (J : γ → Bool → Hp → Prop)
    (h : ∀ (Q' : Bool → Hp → Prop) (P' : γ → Prop), (∀ g, P' g → ∀ c H', J g c H' → Q' c H') → Post m P' X → t σ H Q')
    (h2 : ∀ g c H', J g c H' → Post (k g) P X → Q c H') : t σ H Q :=
  h _ _ (fun g p c H' j => h2 g c H' j p) (post_bind hm)
/-- a test of a value that is told -/
theorem cutT {t : TT} {σ : St} {H : Hp} {Q : Bool → Hp → Prop} (J : Bool → Hp → Prop) (h : ∀ Q' : Bool → Hp → Prop, (∀ c H', J c H' → Q' c H') → t σ H Q') (h2 : ∀ c H', J c H' → Q c H') : t σ H Q := h _ h2
theorem ifB {c : Bool} {A B : Prop} (h1 : c = true → A) (h2 : c = false → B) : if c = true then A else B := by
  cases c with
  | true => exact h1 rfl
  | false => exact h2 rfl
end
/-! ### what is walked, typed -/
structure TW (J : It) {β : Type} (items : List β) (G : Hp → Prop) (Y : β → Hp → V → Hp → Prop) : Prop where
  walk : Walk J items.length G (fun i H x H' => ∃ b, items[i]? = some b ∧ Y b H x H')
section
variable {K : Fg} {F : Hp} {a : Addr} {α β : Type} [Rep α] [Rep β] {vs us : List V} {xs : List α} {ys : List β}
theorem tw_list (h : A2 (rep K F) vs xs) : TW (Itl K a) xs (fun H => SqL K H a vs) (fun b H x H' => H' = H ∧ rep K F x b) := ⟨by
  rw [← h.length]
  exact walk_list.mono (fun _ g => g) fun i H x H' _ _ y => by
    obtain ⟨y1, y2⟩ := y
    obtain ⟨b, h1, h2⟩ := h.getV y2
    exact ⟨b, h1, y1, h2⟩⟩
theorem tw_tup (h : A2 (rep K F) vs xs) : TW (Itt K a) xs (fun H => SqT K H a vs) (fun b H x H' => H' = H ∧ rep K F x b) := ⟨by
  rw [← h.length]
  exact walk_tup.mono (fun _ g => g) fun i H x H' _ _ y => by
    obtain ⟨y1, y2⟩ := y
    obtain ⟨b, h1, h2⟩ := h.getV y2
    exact ⟨b, h1, y1, h2⟩⟩
theorem rng_length (i j : Int) : (rng i j).length = (j - i).toNat := by
  unfold rng
  rw [List.length_map, List.length_range]
theorem rng_get {i j : Int} {n : Nat} (h : n < (j - i).toNat) : (rng i j)[n]? = some (i + (n : Int)) := by
  unfold rng
  rw [List.getElem?_map, List.getElem?_range h]
  rfl
theorem tw_rng {i j : Int} : TW (Itr i (j - i).toNat) (rng i j) (fun _ => True) (fun b H x H' => H' = H ∧ x = .int b) := ⟨by
  rw [rng_length]
  exact walk_range.mono (fun _ g => g) fun n H x H' hn _ y => ⟨_, rng_get hn, y.1, y.2⟩⟩
theorem tw_rng0 {j : Int} : TW (Itr 0 j.toNat) (rng 0 j) (fun _ => True) (fun b H x H' => H' = H ∧ x = .int b) := by
  have h := tw_rng (i := 0) (j := j)
  rw [Int.sub_zero] at h
  exact h
end
/-! ### for -/
section
variable {J : It} {β γ δ ρ : Type} {items : List β} {G : Hp → Prop} {Y : β → Hp → V → Hp → Prop} {g : TG} {tb : TS} {D : Ends} {σ : St} {H : Hp} {P : δ → Prop} {X : Exn → Prop}
theorem drop_cons {l : List β} {i : Nat} {b : β} (h : l[i]? = some b) : l.drop i = b :: l.drop (i + 1) := by
  obtain ⟨hl, e⟩ := List.getElem?_eq_some_iff.mp h
  rw [List.drop_eq_getElem_cons hl, e]
theorem forS (tw : TW J items G Y) {body : γ → β → R γ} {s0 : γ} {k : γ → R δ} (hm : Post (foldR body s0 items >>= k) P X) (I : γ → St → Hp → Prop) (h0 : I s0 σ H) (hG : ∀ c σ H, I c σ H → G H)
    (hs : ∀ (b : β) (c : γ) (x : V) (σ : St) (H H' : Hp) (N : St → Hp → Prop) (P' : γ → Prop), I c σ H → Y b H x H' → (∀ c', P' c' → ∀ σ' H', I c' σ' H' → N σ' H') → Post (body c b) P' X → g x σ H' fun σ2 H2 => tb { D with nx := N, ct := N, bk := D.nx } σ2 H2)
    (hd : ∀ c σ H, I c σ H → Post (k c) P X → D.nx σ H) :
    ∃ W : Nat → Nat → St → Hp → Prop, (∃ m, W 0 m σ H) ∧ ∀ i m σ H, W i m σ H →
      (J.stop i H ∧ D.nx σ H) ∨ (J.go i H ∧ ∃ N : St → Hp → Prop, (∀ σ' H', N σ' H' → ∃ m', m' < m ∧ W (i + 1) m' σ' H') ∧ ∀ x H', J.yld i H x H' → g x σ H' fun σ2 H2 => tb { D with nx := N, ct := N, bk := D.nx } σ2 H2) := by
  refine for_it tw.walk (fun i σ H => ∃ c, I c σ H ∧ Post (foldR body c (items.drop i) >>= k) P X) ⟨s0, h0, hm⟩ (fun i σ H _ ⟨c, h, _⟩ => hG c σ H h) ?_ ?_
  · rintro i x σ H H' hi ⟨c, h, hm⟩ ⟨b, hb, y⟩
    rw [drop_cons hb] at hm
    exact hs b c x σ H H' _ _ h y (fun c' p' σ' H' h' => ⟨c', h', p'⟩) (post_bind (pb_foldR hm))
  · rintro σ H ⟨c, h, hm⟩
    rw [List.drop_length] at hm
    exact hd c σ H h hm
/-- a for that may end the whole, or itself -/
theorem forX (tw : TW J items G Y) {body : γ → β → R (Sum ρ (Bool × γ))} {s0 : γ} {k : Sum ρ γ → R δ} (hm : Post (foldX body s0 items >>= k) P X) (I : γ → St → Hp → Prop) (h0 : I s0 σ H) (hG : ∀ c σ H, I c σ H → G H)
    (hs : ∀ (b : β) (c : γ) (x : V) (σ : St) (H H' : Hp) (N B : St → Hp → Prop) (P' : Sum ρ (Bool × γ) → Prop), I c σ H → Y b H x H' → (∀ c', P' (.inr (true, c')) → ∀ σ' H', I c' σ' H' → N σ' H') → (∀ c', P' (.inr (false, c')) → ∀ σ' H', I c' σ' H' → B σ' H') →
      (∀ z, P' (.inl z) → Post (k (.inl z)) P X) → Post (body c b) P' X → g x σ H' fun σ2 H2 => tb { D with nx := N, ct := N, bk := B } σ2 H2)
    (hd : ∀ c σ H, I c σ H → Post (k (.inr c)) P X → D.nx σ H) :
    ∃ W : Nat → Nat → St → Hp → Prop, (∃ m, W 0 m σ H) ∧ ∀ i m σ H, W i m σ H →
      (J.stop i H ∧ D.nx σ H) ∨ (J.go i H ∧ ∃ N : St → Hp → Prop, (∀ σ' H', N σ' H' → ∃ m', m' < m ∧ W (i + 1) m' σ' H') ∧ ∀ x H', J.yld i H x H' → g x σ H' fun σ2 H2 => tb { D with nx := N, ct := N, bk := D.nx } σ2 H2) := by
  refine for_it tw.walk (fun i σ H => ∃ c, I c σ H ∧ Post (foldX body c (items.drop i) >>= k) P X) ⟨s0, h0, hm⟩ (fun i σ H _ ⟨c, h, _⟩ => hG c σ H h) ?_ ?_
  · rintro i x σ H H' hi ⟨c, h, hm⟩ ⟨b, hb, y⟩
    rw [drop_cons hb] at hm
    have hm' : Post ((body c b >>= fun r => match r with
      | .inl z => (R.ok (.inl z) : R (Sum ρ γ))
      | .inr (true, s') => foldX body s' (items.drop (i + 1))
      | .inr (false, s') => R.ok (.inr s')) >>= k) P X := hm
    rw [bind_bind] at hm'
    exact hs b c x σ H H' _ _ _ h y (fun c' p' σ' H' h' => ⟨c', h', p'⟩) (fun c' p' σ' H' h' => hd c' σ' H' h' p') (fun z p' => p') (post_bind hm')
  · rintro σ H ⟨c, h, hm⟩
    rw [List.drop_length] at hm
    exact hd c σ H h hm
end
/-! ### comprehensions -/
/-- items for items, of a list that is not too long -/
def mapG {α β : Type} (f : α → R β) (xs : List α) : R (List β) := grd (decide (xs.length < 100000)) >>= fun _ => mapR f xs
/-- items for some items -/
def filR {α β : Type} (f : α → R (Option β)) : List α → R (List β)
  | [] => .ok []
  | x :: xs => f x >>= fun o => filR f xs >>= fun ys => match o with
    | some y => .ok (y :: ys)
    | none => .ok ys
def filG {α β : Type} (f : α → R (Option β)) (xs : List α) : R (List β) := grd (decide (xs.length < 100000)) >>= fun _ => filR f xs
/-- items for items, by a state that turns -/
def mapSt {α β γ : Type} (f : γ → α → R (β × γ)) : γ → List α → R (List β × γ)
  | s, [] => .ok ([], s)
  | s, x :: xs => f s x >>= fun p => mapSt f p.2 xs >>= fun q => .ok (p.1 :: q.1, q.2)
def mapStG {α β γ : Type} (f : γ → α → R (β × γ)) (s : γ) (xs : List α) : R (List β × γ) := grd (decide (xs.length < 100000)) >>= fun _ => mapSt f s xs
/-- items for some items, by a state that turns -/
def filSt {α β γ : Type} (f : γ → α → R (Option β × γ)) : γ → List α → R (List β × γ)
  | s, [] => .ok ([], s)
  | s, x :: xs => f s x >>= fun p => filSt f p.2 xs >>= fun q => match p.1 with
    | some y => .ok (y :: q.1, q.2)
    | none => .ok q
def filStG {α β γ : Type} (f : γ → α → R (Option β × γ)) (s : γ) (xs : List α) : R (List β × γ) := grd (decide (xs.length < 100000)) >>= fun _ => filSt f s xs
section
variable {J : It} {β γ δ ε : Type} {items : List β} {G : Hp → Prop} {Y : β → Hp → V → Hp → Prop} {g : TG} {tt : TT} {te : TE} {P : ε → Prop} {X : Exn → Prop} {K : Fg} {vs : List Nat} {σ : St} {F H1 : Hp} {os : List (Addr × HO)} {D : Addr} {Qd : Hp → Prop}
/-- what is asked of a comprehension's list D behind its walk J: by the readings' own words -/
abbrev LcAsk (J : It) (g : TG) (tt : TT) (te : TE) (vs : List Nat) (σ : St) (H1 : Hp) (D : Addr) (Qd : Hp → Prop) : Prop :=
  ∃ W : Nat → Nat → Hp → Prop, (∃ m, W 0 m (upd H1 D (.lst []))) ∧ ∀ i m H, W i m H →
      (J.stop i H ∧ Qd H) ∨ (J.go i H ∧ ∃ Nx : Hp → Prop, (∀ H', Nx H' → ∃ m', m' < m ∧ W (i + 1) m' H') ∧ ∀ x H', J.yld i H x H' → g x (wipe σ vs) H' fun σ2 H2 => wipe σ2 vs = wipe σ vs ∧ tt σ2 H2 fun b H3 =>
        if b = true then te σ2 H3 fun y H4 => ∃ acc, H4 D = some (.lst acc) ∧ acc.length < sizeLine ∧ Nx (upd H4 D (.lst (acc ++ [y]))) else Nx H3)
/-- the state and the items told of a comprehension: os by the state -/
theorem lcFil [Rep δ] (tw : TW J items G Y) {f : γ → β → R (Option δ × γ)} {s0 : γ} {k : List δ × γ → R ε} (hm : Post (filStG f s0 items >>= k) P X) (O : γ → Hp → List (Addr × HO) → Prop) (w : W F H1 os) (o0 : O s0 F os) (nD : H1 D = none)
    (hG : ∀ c F' H' os' acc, Same F F' → W F' H' ((D, .lst acc) :: os') → O c F' os' → G H')
    (hs : ∀ (b : β) (c : γ) (x : V) (F' H' H'' : Hp) (os' : List (Addr × HO)) (acc : List V) (N : V → Hp → Prop) (N0 : Hp → Prop) (P' : Option δ × γ → Prop), Same F F' → W F' H' ((D, .lst acc) :: os') → O c F' os' → Y b H' x H'' →
      (∀ d c', P' (some d, c') → ∀ y F'' H'' os'', W F'' H'' ((D, .lst acc) :: os'') → Same F' F'' → O c' F'' os'' → rep K F'' y d → N y H'') →
      (∀ c', P' (none, c') → ∀ F'' H'' os'', W F'' H'' ((D, .lst acc) :: os'') → Same F' F'' → O c' F'' os'' → N0 H'') → Post (f c b) P' X →
      g x (wipe σ vs) H'' fun σ2 H2 => wipe σ2 vs = wipe σ vs ∧ tt σ2 H2 fun b H3 => if b = true then te σ2 H3 N else N0 H3)
    (hd : ∀ c us F' H' os' ys, Same F F' → W F' H' ((D, .lst us) :: os') → O c F' os' → A2 (rep K F') us ys → Post (k (ys, c)) P X → Qd H') : LcAsk J g tt te vs σ H1 D Qd := by
  obtain ⟨hlen, hm⟩ := pb_grd (pb_assoc hm)
  have hlen : items.length < sizeLine := Nat.lt_of_lt_of_le (of_decide_eq_true hlen) line5
  refine lc_it tw.walk (fun i H => ∃ c F' os' us ys, i ≤ items.length ∧ Same F F' ∧ W F' H ((D, .lst us) :: os') ∧ O c F' os' ∧ A2 (rep K F') us ys ∧ ys.length ≤ i ∧ Post (filSt f c (items.drop i) >>= fun q => k (ys ++ q.1, q.2)) P X) ?_ ?_ ?_ ?_
  · exact ⟨s0, F, os, [], [], Nat.zero_le _, Same.refl _, w.new nD, o0, .nil, Nat.le_refl _, hm⟩
  · rintro i H _ ⟨c, F', os', us, ys, _, s, w', o, _⟩
    exact hG c F' H os' us s w' o
  · rintro i x H H' hi ⟨c, F', os', us, ys, _, s, w', o, h, hl, hm⟩ ⟨b, hb, y⟩
    rw [drop_cons hb] at hm
    have hm' : Post ((f c b >>= fun p => filSt f p.2 (items.drop (i + 1)) >>= fun q => match p.1 with
      | some y => (R.ok (y :: q.1, q.2) : R (List δ × γ))
      | none => R.ok q) >>= fun q => k (ys ++ q.1, q.2)) P X := hm
    rw [bind_bind] at hm'
    have hm2 := post_bind hm'
    have hul : us.length = ys.length := h.length
    refine hs b c x F' H H' os' us (fun y H4 => ∃ acc, H4 D = some (.lst acc) ∧ acc.length < sizeLine ∧ _) _ _ s w' o y ?_ ?_ hm2
    · intro d c' p2 y F'' H'' os'' w2 s2 o2 r2
      refine ⟨us, w2.get (pre := []), by omega, c', F'', os'', us ++ [y], ys ++ [d], hi, s.trans s2, w2.set (pre := []), o2, (h.mono s2).snoc r2, by rw [List.length_append, List.length_singleton]; omega, ?_⟩
      have p3 : Post ((filSt f c' (items.drop (i + 1)) >>= fun q => (R.ok (d :: q.1, q.2) : R (List δ × γ))) >>= fun q => k (ys ++ q.1, q.2)) P X := p2
      rw [bind_bind] at p3
      have e : (fun q : List δ × γ => (R.ok (d :: q.1, q.2) : R (List δ × γ)) >>= fun q => k (ys ++ q.1, q.2)) = fun q => k (ys ++ [d] ++ q.1, q.2) := by
        funext q
        show k (ys ++ (d :: q.1), q.2) = k (ys ++ [d] ++ q.1, q.2)
        rw [List.append_assoc]
        rfl
      rw [e] at p3
      exact p3
    · intro c' p2 F'' H'' os'' w2 s2 o2
      refine ⟨c', F'', os'', us, ys, hi, s.trans s2, w2, o2, h.mono s2, by omega, ?_⟩
      have p3 : Post ((filSt f c' (items.drop (i + 1)) >>= fun q => (R.ok q : R (List δ × γ))) >>= fun q => k (ys ++ q.1, q.2)) P X := p2
      rw [bind_bind] at p3
      exact p3
  · rintro H ⟨c, F', os', us, ys, _, s, w', o, h, _, hm⟩
    rw [List.drop_length] at hm
    have hm' : Post (k (ys ++ [], c)) P X := hm
    rw [List.append_nil] at hm'
    exact hd c us F' H os' ys s w' o h hm'
/-- without a test -/
theorem lcMap [Rep δ] (tw : TW J items G Y) {f : γ → β → R (δ × γ)} {s0 : γ} {k : List δ × γ → R ε} (hm : Post (mapStG f s0 items >>= k) P X) (O : γ → Hp → List (Addr × HO) → Prop) (w : W F H1 os) (o0 : O s0 F os) (nD : H1 D = none)
    (hG : ∀ c F' H' os' acc, Same F F' → W F' H' ((D, .lst acc) :: os') → O c F' os' → G H')
    (hs : ∀ (b : β) (c : γ) (x : V) (F' H' H'' : Hp) (os' : List (Addr × HO)) (acc : List V) (N : V → Hp → Prop) (P' : δ × γ → Prop), Same F F' → W F' H' ((D, .lst acc) :: os') → O c F' os' → Y b H' x H'' →
      (∀ d c', P' (d, c') → ∀ y F'' H'' os'', W F'' H'' ((D, .lst acc) :: os'') → Same F' F'' → O c' F'' os'' → rep K F'' y d → N y H'') → Post (f c b) P' X →
      g x (wipe σ vs) H'' fun σ2 H2 => wipe σ2 vs = wipe σ vs ∧ te σ2 H2 N)
    (hd : ∀ c us F' H' os' ys, Same F F' → W F' H' ((D, .lst us) :: os') → O c F' os' → A2 (rep K F') us ys → Post (k (ys, c)) P X → Qd H') : LcAsk J g tYes te vs σ H1 D Qd := by
  have e : ∀ (s : γ) (l : List β), filSt (fun c b => f c b >>= fun p => R.ok (some p.1, p.2)) s l = mapSt f s l := by
    intro s l
    induction l generalizing s with
    | nil => rfl
    | cons b l ih =>
      show ((f s b >>= fun p => R.ok (some p.1, p.2)) >>= fun p => filSt (fun c b => f c b >>= fun p => R.ok (some p.1, p.2)) p.2 l >>= fun q => match p.1 with
        | some y => (R.ok (y :: q.1, q.2) : R (List δ × γ))
        | none => R.ok q) = (f s b >>= fun p => mapSt f p.2 l >>= fun q => .ok (p.1 :: q.1, q.2))
      rw [bind_bind]
      refine congrArg (f s b >>= ·) ?_
      funext p
      show (filSt (fun c b => f c b >>= fun p => R.ok (some p.1, p.2)) p.2 l >>= fun q => (R.ok (p.1 :: q.1, q.2) : R (List δ × γ))) = _
      rw [ih]
  have hm' : Post (filStG (fun c b => f c b >>= fun p => R.ok (some p.1, p.2)) s0 items >>= k) P X := by
    unfold filStG
    simp only [e]
    exact hm
  refine lcFil tw hm' O w o0 nD hG (fun b c x F' H' H'' os' acc N N0 P' s w' o y hN hN0 hp => ?_) hd
  exact hs b c x F' H' H'' os' acc N _ s w' o y (fun d c' p2 y F'' H'' os'' w2 s2 o2 r2 => hN d c' p2 y F'' H'' os'' w2 s2 o2 r2) (post_bind hp)
/-- without a state -/
theorem lcM [Rep δ] (tw : TW J items G Y) {f : β → R δ} {k : List δ → R ε} (hm : Post (mapG f items >>= k) P X) (w : W F H1 os) (nD : H1 D = none)
    (hG : ∀ F' H' acc, Same F F' → W F' H' ((D, .lst acc) :: os) → G H')
    (hs : ∀ (b : β) (x : V) (F' H' H'' : Hp) (acc : List V) (N : V → Hp → Prop) (P' : δ → Prop), Same F F' → W F' H' ((D, .lst acc) :: os) → Y b H' x H'' →
      (∀ d, P' d → ∀ y F'' H'', W F'' H'' ((D, .lst acc) :: os) → Same F' F'' → rep K F'' y d → N y H'') → Post (f b) P' X →
      g x (wipe σ vs) H'' fun σ2 H2 => wipe σ2 vs = wipe σ vs ∧ te σ2 H2 N)
    (hd : ∀ us F' H' ys, Same F F' → W F' H' ((D, .lst us) :: os) → A2 (rep K F') us ys → Post (k ys) P X → Qd H') : LcAsk J g tYes te vs σ H1 D Qd := by
  have e : ∀ (l : List β), (mapSt (fun (_ : Unit) b => f b >>= fun d => R.ok (d, ())) () l >>= fun q => R.ok q.1) = mapR f l := by
    intro l
    induction l with
    | nil => rfl
    | cons b l ih =>
      show (((f b >>= fun d => R.ok (d, ())) >>= fun p => mapSt (fun (_ : Unit) b => f b >>= fun d => R.ok (d, ())) p.2 l >>= fun q => (R.ok (p.1 :: q.1, q.2) : R (List δ × Unit))) >>= fun q => R.ok q.1) = (f b >>= fun y => mapR f l >>= fun ys => R.ok (y :: ys))
      rw [bind_bind, bind_bind]
      refine congrArg (f b >>= ·) ?_
      funext d
      show ((mapSt (fun (_ : Unit) b => f b >>= fun d => R.ok (d, ())) () l >>= fun q => (R.ok (d :: q.1, q.2) : R (List δ × Unit))) >>= fun q => R.ok q.1) = _
      rw [bind_bind, ← ih, bind_bind]
      rfl
  have hm' : Post (mapStG (fun (_ : Unit) b => f b >>= fun d => R.ok (d, ())) () items >>= fun q => k q.1) P X := by
    have e2 : (mapStG (fun (_ : Unit) b => f b >>= fun d => R.ok (d, ())) () items >>= fun q => R.ok q.1) = mapG f items := by
      unfold mapStG mapG
      rw [bind_bind]
      simp only [e]
    have h2 : Post ((mapStG (fun (_ : Unit) b => f b >>= fun d => R.ok (d, ())) () items >>= fun q => R.ok q.1) >>= k) P X := by
      rw [e2]
      exact hm
    rw [bind_bind] at h2
    exact h2
  refine lcMap tw hm' (fun _ _ os' => os = os') w rfl nD (fun c F' H' os' acc s w' o => by subst o; exact hG F' H' acc s w') (fun b c x F' H' H'' os' acc N P' s w' o y hN hp => ?_) (fun c us F' H' os' ys s w' o h hm => by subst o; exact hd us F' H' ys s w' h hm)
  subst o
  exact hs b x F' H' H'' acc N _ s w' y (fun d p2 y F'' H'' w2 s2 r2 => hN d () p2 y F'' H'' _ w2 s2 rfl r2) (post_bind hp)
/-- .. with a test -/
theorem lcF [Rep δ] (tw : TW J items G Y) {f : β → R (Option δ)} {k : List δ → R ε} (hm : Post (filG f items >>= k) P X) (w : W F H1 os) (nD : H1 D = none)
    (hG : ∀ F' H' acc, Same F F' → W F' H' ((D, .lst acc) :: os) → G H')
    (hs : ∀ (b : β) (x : V) (F' H' H'' : Hp) (acc : List V) (N : V → Hp → Prop) (N0 : Hp → Prop) (P' : Option δ → Prop), Same F F' → W F' H' ((D, .lst acc) :: os) → Y b H' x H'' →
      (∀ d, P' (some d) → ∀ y F'' H'', W F'' H'' ((D, .lst acc) :: os) → Same F' F'' → rep K F'' y d → N y H'') →
      (P' none → ∀ F'' H'', W F'' H'' ((D, .lst acc) :: os) → Same F' F'' → N0 H'') → Post (f b) P' X →
      g x (wipe σ vs) H'' fun σ2 H2 => wipe σ2 vs = wipe σ vs ∧ tt σ2 H2 fun b H3 => if b = true then te σ2 H3 N else N0 H3)
    (hd : ∀ us F' H' ys, Same F F' → W F' H' ((D, .lst us) :: os) → A2 (rep K F') us ys → Post (k ys) P X → Qd H') : LcAsk J g tt te vs σ H1 D Qd := by
  have e : ∀ (l : List β), (filSt (fun (_ : Unit) b => f b >>= fun d => R.ok (d, ())) () l >>= fun q => R.ok q.1) = filR f l := by
    intro l
    induction l with
    | nil => rfl
    | cons b l ih =>
      show (((f b >>= fun d => R.ok (d, ())) >>= fun p => filSt (fun (_ : Unit) b => f b >>= fun d => R.ok (d, ())) p.2 l >>= fun q => match p.1 with
        | some y => (R.ok (y :: q.1, q.2) : R (List δ × Unit))
        | none => R.ok q) >>= fun q => R.ok q.1) = (f b >>= fun o => filR f l >>= fun ys => match o with
        | some y => .ok (y :: ys)
        | none => .ok ys)
      rw [bind_bind, bind_bind]
      refine congrArg (f b >>= ·) ?_
      funext d
      show ((filSt (fun (_ : Unit) b => f b >>= fun d => R.ok (d, ())) () l >>= fun q => match d with
        | some y => (R.ok (y :: q.1, q.2) : R (List δ × Unit))
        | none => R.ok q) >>= fun q => R.ok q.1) = _
      rw [bind_bind, ← ih, bind_bind]
      cases d <;> rfl
  have hm' : Post (filStG (fun (_ : Unit) b => f b >>= fun d => R.ok (d, ())) () items >>= fun q => k q.1) P X := by
    have e2 : (filStG (fun (_ : Unit) b => f b >>= fun d => R.ok (d, ())) () items >>= fun q => R.ok q.1) = filG f items := by
      unfold filStG filG
      rw [bind_bind]
      simp only [e]
    have h2 : Post ((filStG (fun (_ : Unit) b => f b >>= fun d => R.ok (d, ())) () items >>= fun q => R.ok q.1) >>= k) P X := by
      rw [e2]
      exact hm
    rw [bind_bind] at h2
    exact h2
  refine lcFil tw hm' (fun _ _ os' => os = os') w rfl nD (fun c F' H' os' acc s w' o => by subst o; exact hG F' H' acc s w') (fun b c x F' H' H'' os' acc N N0 P' s w' o y hN hN0 hp => ?_) (fun c us F' H' os' ys s w' o h hm => by subst o; exact hd us F' H' ys s w' h hm)
  subst o
  exact hs b x F' H' H'' acc N N0 _ s w' y (fun d p2 y F'' H'' w2 s2 r2 => hN d () p2 y F'' H'' _ w2 s2 rfl r2) (fun p2 F'' H'' w2 s2 => hN0 () p2 F'' H'' _ w2 s2 rfl) (post_bind hp)
end
end Z
namespace Z
open PySem L2
open Rep (rep)
/-! ### short words for a walk -/
section
variable {F F1 F2 H H1 : Hp} {os os' pre post : List (Addr × HO)} {a p : Addr} {o o' : HO} {K : Fg}
theorem W.frzE (w : W F H os) (n : H p = none) : ∃ F', Same F F' ∧ W F' (upd H p o) os ∧ F' p = some o := ⟨_, w.frzS n, w.frz n, upd_same⟩
theorem W.freezeE (w : W F H (pre ++ (a, o) :: post)) : ∃ F', Same F F' ∧ W F' H (pre ++ post) ∧ F' a = some o := ⟨_, w.freezeS, w.freeze, upd_same⟩
theorem rep_own {α : Type} [Rep α] {vs : List V} {xs : List α} (w : W F H (pre ++ (a, .lst vs) :: post)) (h : A2 (rep K F) vs xs) : rep K H (.ref a) xs := ⟨a, vs, rfl, w.get, h.mono w.same⟩
theorem rep_lst {α : Type} [Rep α] {vs : List V} {xs : List α} (q : F a = some (.lst vs)) (h : A2 (rep K F) vs xs) : rep K F (.ref a) xs := ⟨a, vs, rfl, q, h⟩
theorem rep_tup {α : Type} [Rep α] {vs : List V} {xs : List α} (q : F a = some (.tup vs)) (h : A2 (rep K F) vs xs) : rep K F (.ref a) (Tup.mk xs) := ⟨a, vs, rfl, q, h⟩
theorem rep_pair {α β : Type} [Rep α] [Rep β] {u v : V} {x : α} {y : β} (q : F a = some (.tup [u, v])) (h1 : rep K F u x) (h2 : rep K F v y) : rep K F (.ref a) (x, y) := ⟨a, u, v, rfl, q, h1, h2⟩
theorem ints_q {vs : List V} {xs : List Int} (q : SqL K H a vs) (h : A2 (rep K F) vs xs) : SqL K H a (xs.map V.int) := h.ints ▸ q
theorem Room.units65 {k : Nat} {A : Around} (r : Room k A) : A.units + 65 < cLine := by
  have := r.un
  omega
theorem sl_cut {α : Type} {r : V → α → Prop} {vs : List V} {xs : List α} (h : A2 r vs xs) (lo hi : Option Int) : A2 r (cutV vs lo hi) (((xs.drop (HT.sIx xs.length 0 lo)).take (HT.sIx xs.length xs.length hi - HT.sIx xs.length 0 lo))) := by
  unfold cutV
  rw [h.length]
  exact (h.drop _).take _
/-- xs[lo:hi] -/
def cutL {α : Type} (xs : List α) (lo hi : Option Int) : List α := (xs.drop (HT.sIx xs.length 0 lo)).take (HT.sIx xs.length xs.length hi - HT.sIx xs.length 0 lo)
end
end Z
namespace Z
open PySem L2
open Rep (rep)
/-- a while by its fuel -/
def whileR {γ : Type} (c : γ → R Bool) (b : γ → R γ) : Nat → γ → R γ
  | 0, _ => .bad
  | n + 1, s => c s >>= fun t => if t = true then b s >>= fun s' => whileR c b n s' else .ok s
section
variable {γ δ : Type} {P : δ → Prop} {X : Exn → Prop} {tc : TT} {tb : TS} {D : Ends} {σ : St} {H : Hp}
theorem whileS {c : γ → R Bool} {b : γ → R γ} {n : Nat} {s0 : γ} {k : γ → R δ} (hm : Post (whileR c b n s0 >>= k) P X) (I : γ → St → Hp → Prop) (h0 : I s0 σ H)
    (hc : ∀ (g : γ) (σ : St) (H : Hp) (Q' : Bool → Hp → Prop) (P' : Bool → Prop), I g σ H → (∀ t, P' t → ∀ H', I g σ H' → Q' t H') → Post (c g) P' X → tc σ H Q')
    (hs : ∀ (g : γ) (σ : St) (H : Hp) (N : St → Hp → Prop) (P' : γ → Prop), I g σ H → (∀ g', P' g' → ∀ σ' H', I g' σ' H' → N σ' H') → Post (b g) P' X → tb { D with nx := N, ct := N, bk := D.nx } σ H)
    (hd : ∀ g σ H, I g σ H → Post (k g) P X → D.nx σ H) : tWhile tc tb D σ H := by
  refine ⟨fun m σ H => ∃ g, I g σ H ∧ Post (whileR c b m g >>= k) P X, ⟨n, s0, h0, hm⟩, ?_⟩
  rintro m σ H ⟨g, h, hm⟩
  cases m with
  | zero => exact (show False from hm).elim
  | succ m =>
    have hm' : Post ((c g >>= fun t => if t = true then b g >>= fun s' => whileR c b m s' else .ok g) >>= k) P X := hm
    rw [bind_bind] at hm'
    refine hc g σ H _ _ h (fun t p H' h' => ?_) (post_bind hm')
    cases t with
    | false => exact iteF (hd g σ H' h' p)
    | true =>
      refine iteT ?_
      have p' : Post ((b g >>= fun s' => whileR c b m s') >>= k) P X := p
      rw [bind_bind] at p'
      exact ⟨fun σ' H' => ∃ g', I g' σ' H' ∧ Post (whileR c b m g' >>= k) P X, fun σ' H' ⟨g', h1, h2⟩ => ⟨m, Nat.lt_succ_self m, g', h1, h2⟩, hs g σ H' _ _ h' (fun g' p2 σ' H' h2 => ⟨g', h2, p2⟩) (post_bind p')⟩
end
section
variable {α β : Type} {Q : β → Prop} {E : Exn → Prop}
theorem pn_set {xs : List α} {i : Int} {x : α} {f : List α → R β} (h : Post (setI xs i x >>= f) Q E) : ∃ j ys, ixN xs.length i = some j ∧ ys = xs.set j x ∧ Post (f ys) Q E :=
  let ⟨j, a, b⟩ := pb_set h
  ⟨j, _, a, rfl, b⟩
theorem pn_app {xs : List α} {x : α} {f : List α → R β} (h : Post (app xs x >>= f) Q E) : ∃ ys, xs.length < sizeLine ∧ ys = xs ++ [x] ∧ Post (f ys) Q E :=
  let ⟨a, b⟩ := pb_app h
  ⟨_, a, rfl, b⟩
theorem pn_extend {xs ys : List α} {f : List α → R β} (h : Post (extend xs ys >>= f) Q E) : ∃ zs, xs.length + ys.length ≤ sizeLine ∧ zs = xs ++ ys ∧ Post (f zs) Q E :=
  let ⟨a, b⟩ := pb_extend h
  ⟨_, a, rfl, b⟩
theorem A2.lt {r : V → α → Prop} {vs : List V} {xs : List α} {n : Nat} (h : A2 r vs xs) (z : xs.length < n) : vs.length < n := by rw [h.length]; exact z
theorem A2.ix {r : V → α → Prop} {vs : List V} {xs : List α} {i : Int} {j : Nat} (h : A2 r vs xs) (z : ixN xs.length i = some j) : ixN vs.length i = some j := by rw [h.length]; exact z
theorem A2.le2 {γ : Type} {r : V → α → Prop} {r' : V → γ → Prop} {vs us : List V} {xs : List α} {ys : List γ} {n : Nat} (h : A2 r vs xs) (h' : A2 r' us ys) (z : xs.length + ys.length ≤ n) : vs.length + us.length ≤ n := by rw [h.length, h'.length]; exact z
end
section
variable {K : Fg} {F : Hp}
theorem rep_i {i : Int} : rep K F (.int i) i := rfl
theorem rep_b {i : Bool} : rep K F (.bl i) i := rfl
theorem rep_s {i : Str} : rep K F (.str i) i := rfl
theorem rep_n : rep K F .non () := rfl
end
end Z
namespace Z
open PySem L2
section
variable {X : Cx} {D : Ends} {σ : L2.St} {H : Hp}
def tC1 (v : V) : TE := fun _ H Q => True ∧ Q v H
theorem pe_int1 {i j pos} : PE X (.Constant (.int i) j pos) (tC1 (.int i)) := ⟨fun pins s σ H Q I h => pe_int.run pins s σ H Q I h.2⟩
theorem pe_str1 {i j pos} : PE X (.Constant (.str i) j pos) (tC1 (.str i)) := ⟨fun pins s σ H Q I h => pe_str.run pins s σ H Q I h.2⟩
theorem stepN {i : Nat} {v : V} {Q : L2.St → Hp → Prop} (h : Q (σ.set i (some v)) H) : gName i v σ H Q := h
theorem stepX (h : D.nx σ H) : tNext D σ H := h
theorem stepSeq {t u : TS} (h : t { D with nx := u D } σ H) : tSeq t u D σ H := h
theorem stepIf {c : TT} {a b : TS} (h : c σ H fun t H1 => if t = true then a D σ H1 else b D σ H1) : tIfS c a b D σ H := h
end
end Z
namespace Z
open PySem L2
open Rep (rep)
section
variable {α : Type} [Rep α] {K : Fg} {F : Hp} {v : V} {x : α}
theorem rep_none : rep K F .non (none : Option α) := rfl
theorem rep_some (h : rep K F v x) : rep K F v (some x) := h
theorem rep_pl {i : Int} : rep K F (.int i) (Thing.pl i) := rfl
theorem rep_ti {a b : Int} (h : rep K F v (a, b)) : rep K F v (Thing.ti a b) := h
end
end Z
/-! Z2: rules by typed data -/
namespace Z
open PySem L2 PySem.Spec PyProof.Rows
open Rep (rep)
/-! ### data that is compared -/
class Dat (α : Type) extends Rep α where
  toD : α → PyData
  dmax : Nat
  dp : ∀ {K : Fg} {H : Hp} {v : V} {x : α}, rep K H v x → Dp K H v (toD x)
  lay : ∀ x : α, (toD x).canLay0 = true
  dep : ∀ x : α, (toD x).depth ≤ dmax
  eqv : ∀ x y : α, PyData.eqv (toD x) (toD y) = true ↔ x = y
section
variable {α β : Type} {K : Fg} {H : Hp}
instance : Dat Int where
  toD := .int
  dmax := 0
  dp := fun h => by
    have h' : _ = V.int _ := h
    subst h'
    exact .int _
  lay := fun x => by simp only [PyData.canLay0]
  dep := fun x => by simp only [PyData.depth, Nat.le_refl]
  eqv := fun x y => by simp [PyData.eqv]
instance : Dat Bool where
  toD := .bool
  dmax := 0
  dp := fun h => by
    have h' : _ = V.bl _ := h
    subst h'
    exact .bl _
  lay := fun x => by simp only [PyData.canLay0]
  dep := fun x => by simp only [PyData.depth, Nat.le_refl]
  eqv := fun x y => by simp [PyData.eqv]
instance datOptInt : Dat (Option Int) where
  toD := fun x => match x with
    | none => .none
    | some i => .int i
  dmax := 0
  dp := fun {K H v x} h => by
    cases x with
    | none =>
      have h' : v = V.non := h
      subst h'
      exact .non
    | some i =>
      have h' : v = V.int i := h
      subst h'
      exact .int _
  lay := fun x => by cases x <;> simp only [PyData.canLay0]
  dep := fun x => by cases x <;> simp only [PyData.depth, Nat.le_refl]
  eqv := fun x y => by cases x <;> cases y <;> simp [PyData.eqv]
instance datPair [Dat α] [Dat β] : Dat (α × β) where
  toD := fun x => .tuple [Dat.toD x.1, Dat.toD x.2]
  dmax := max (Dat.dmax α) (Dat.dmax β) + 1
  dp := fun {K H v x} h => by
    obtain ⟨a, u, w, rfl, q, h1, h2⟩ := h
    exact .tup (SqT.of q) (.cons (Dat.dp h1) (.cons (Dat.dp h2) .nil))
  lay := fun x => by simp only [PyData.canLay0, PyData.canLayAll0, Dat.lay, Bool.and_true]
  dep := fun x => by
    have h1 := Dat.dep x.1
    have h2 := Dat.dep x.2
    simp only [PyData.depth, PyData.depthAll]
    omega
  eqv := fun x y => by
    obtain ⟨x1, x2⟩ := x
    obtain ⟨y1, y2⟩ := y
    simp only [PyData.eqv, PyData.eqvAll, Bool.and_true, Bool.and_eq_true, Dat.eqv, Prod.mk.injEq]
theorem dp_all [Dat α] : ∀ {vs : List V} {xs : List α}, A2 (rep K H) vs xs → DpAll K H vs (xs.map Dat.toD)
  | _, _, .nil => .nil
  | _, _, .cons h t => .cons (Dat.dp h) (dp_all t)
theorem lay_all [Dat α] : ∀ xs : List α, PyData.canLayAll0 (xs.map Dat.toD) = true
  | [] => by simp only [List.map_nil, PyData.canLayAll0]
  | x :: xs => by simp only [List.map_cons, PyData.canLayAll0, Dat.lay, lay_all xs, Bool.and_true]
theorem dep_all [Dat α] : ∀ xs : List α, PyData.depthAll (xs.map Dat.toD) ≤ Dat.dmax α
  | [] => by simp only [List.map_nil, PyData.depthAll, Nat.zero_le]
  | x :: xs => by
    have h1 := dep_all xs
    have h2 := Dat.dep x
    simp only [List.map_cons, PyData.depthAll]
    omega
theorem eqv_all [Dat α] : ∀ xs ys : List α, PyData.eqvAll (xs.map Dat.toD) (ys.map Dat.toD) = true ↔ xs = ys
  | [], [] => by simp [PyData.eqvAll]
  | x :: xs, [] => by simp [PyData.eqvAll]
  | [], y :: ys => by simp [PyData.eqvAll]
  | x :: xs, y :: ys => by simp only [List.map_cons, PyData.eqvAll, Bool.and_eq_true, Dat.eqv, eqv_all xs ys, List.cons.injEq]
instance datList [Dat α] : Dat (List α) where
  toD := fun xs => .list (xs.map Dat.toD)
  dmax := Dat.dmax α + 1
  dp := fun {K H v x} h => by
    obtain ⟨a, vs, rfl, q, h⟩ := h
    exact .lst (SqL.of q) (dp_all h)
  lay := fun x => by
    simp only [PyData.canLay0]
    exact lay_all x
  dep := fun x => by
    have h := dep_all x
    simp only [PyData.depth]
    omega
  eqv := fun x y => by
    simp only [PyData.eqv]
    exact eqv_all x y
instance datTup [Dat α] : Dat (Tup α) where
  toD := fun xs => .tuple (xs.l.map Dat.toD)
  dmax := Dat.dmax α + 1
  dp := fun {K H v x} h => by
    obtain ⟨a, vs, rfl, q, h⟩ := h
    exact .tup (SqT.of q) (dp_all h)
  lay := fun x => by
    simp only [PyData.canLay0]
    exact lay_all x.l
  dep := fun x => by
    have h := dep_all x.l
    simp only [PyData.depth]
    omega
  eqv := fun x y => by
    obtain ⟨x⟩ := x
    obtain ⟨y⟩ := y
    simp only [PyData.eqv, Tup.mk.injEq]
    exact eqv_all x y
instance datThing : Dat Thing where
  toD := fun x => match x with
    | .pl i => .int i
    | .ti a b => .tuple [.int a, .int b]
  dmax := 1
  dp := fun {K H v x} h => by
    cases x with
    | pl i =>
      have h' : v = V.int i := h
      subst h'
      exact .int _
    | ti a b =>
      obtain ⟨p, u, w, rfl, q, h1, h2⟩ := (show rep K H v (a, b) from h)
      have h1' : u = V.int a := h1
      have h2' : w = V.int b := h2
      subst h1' h2'
      exact .tup (SqT.of q) (.cons (.int _) (.cons (.int _) .nil))
  lay := fun x => by cases x <;> simp [PyData.canLay0, PyData.canLayAll0]
  dep := fun x => by cases x <;> simp [PyData.depth, PyData.depthAll]
  eqv := fun x y => by cases x <;> cases y <;> simp [PyData.eqv, PyData.eqvAll]
instance datScr : Dat Scr where
  toD := fun xs => .list (xs.l.map PyData.int)
  dmax := 1
  dp := fun {K H v x} h => by
    obtain ⟨a, rfl, q⟩ := h
    have e : ∀ l : List Int, DpAll K H (l.map V.int) (l.map PyData.int) := fun l => by
      induction l with
      | nil => exact .nil
      | cons x l ih => exact .cons (.int _) ih
    exact .lst q (e x.l)
  lay := fun x => by
    simp only [PyData.canLay0]
    exact lay_all (α := Int) x.l
  dep := fun x => by
    have h := dep_all (α := Int) x.l
    have h' : PyData.depthAll (x.l.map PyData.int) ≤ 0 := h
    simp only [PyData.depth]
    omega
  eqv := fun x y => by
    obtain ⟨x⟩ := x
    obtain ⟨y⟩ := y
    simp only [PyData.eqv, Scr.mk.injEq]
    exact eqv_all (α := Int) x y
theorem shapedD [Dat α] (hd : Dat.dmax α ≤ 60) (x : α) : SeqAt.shaped (Dat.toD x) = true := by
  have h := Dat.dep x
  show ((Dat.toD x).canLay0 && decide ((Dat.toD x).depth ≤ 64)) = true
  rw [Bool.and_eq_true]
  exact ⟨Dat.lay x, decide_eq_true (by omega)⟩
theorem eqvD [Dat α] [DecidableEq α] (x y : α) : PyData.eqv (Dat.toD x) (Dat.toD y) = decide (x = y) := by
  by_cases h : x = y
  · rw [decide_eq_true h]
    exact (Dat.eqv x y).mpr h
  · rw [decide_eq_false h]
    exact Bool.eq_false_iff.mpr fun e => h ((Dat.eqv x y).mp e)
theorem anyD [Dat α] [DecidableEq α] (x : α) : ∀ ys : List α, ((ys.map Dat.toD).any fun z => PyData.eqv z (Dat.toD x)) = decide (x ∈ ys)
  | [] => by simp
  | y :: ys => by
    rw [List.map_cons, List.any_cons, anyD x ys, eqvD]
    by_cases h : y = x
    · subst h; simp
    · have h' : ¬ x = y := fun e => h e.symm
      simp [h, h']
end
section
variable {X : Cx} {α β : Type} {K : Fg}
/-- ==, != of data -/
theorem op_eqDt (hK : X.K = K) (α : Type) [Dat α] [DecidableEq α] (hd : Dat.dmax α ≤ 60) (hu : X.A.units + 64 < cLine) : OpR X (compareOp .Eq) (fun x y H Q => ∃ a b : α, rep K H x a ∧ rep K H y b ∧ Q (.bl (decide (a = b))) H) := by
  subst hK
  intro pins s σ H x y v u Q I rx ry ⟨a, b, h1, h2, q⟩
  exact op_eqD hu pins s σ H x y v u Q I rx ry ⟨Dat.toD a, Dat.toD b, Dat.dp h1, Dat.dp h2, shapedD hd a, shapedD hd b, by rw [eqvD]; exact q⟩
theorem op_neDt (hK : X.K = K) (α : Type) [Dat α] [DecidableEq α] (hd : Dat.dmax α ≤ 60) (hu : X.A.units + 64 < cLine) : OpR X (compareOp .NotEq) (fun x y H Q => ∃ a b : α, rep K H x a ∧ rep K H y b ∧ Q (.bl (!decide (a = b))) H) := by
  subst hK
  intro pins s σ H x y v u Q I rx ry ⟨a, b, h1, h2, q⟩
  exact op_neD hu pins s σ H x y v u Q I rx ry ⟨Dat.toD a, Dat.toD b, Dat.dp h1, Dat.dp h2, shapedD hd a, shapedD hd b, by rw [eqvD]; exact q⟩
/-- in, not in a list, a tuple of data -/
theorem op_inL (hK : X.K = K) (α : Type) [Dat α] [DecidableEq α] (hd : Dat.dmax α ≤ 50) (hu : X.A.units + 65 < cLine) : OpR X (compareOp .In) (fun x y H Q => ∃ (a : α) (b : List α), rep K H x a ∧ rep K H y b ∧ Q (.bl (decide (a ∈ b))) H) := by
  subst hK
  intro pins s σ H x y v u Q I rx ry ⟨a, b, h1, h2, q⟩
  exact op_inD hu pins s σ H x y v u Q I rx ry ⟨Dat.toD a, b.map Dat.toD, Dat.dp h1, Dat.dp h2, shapedD (by omega) a, shapedD (α := List α) (by show Dat.dmax α + 1 ≤ 60; omega) b, by rw [anyD]; exact q⟩
theorem op_notInL (hK : X.K = K) (α : Type) [Dat α] [DecidableEq α] (hd : Dat.dmax α ≤ 50) (hu : X.A.units + 65 < cLine) : OpR X (compareOp .NotIn) (fun x y H Q => ∃ (a : α) (b : List α), rep K H x a ∧ rep K H y b ∧ Q (.bl (!decide (a ∈ b))) H) := by
  subst hK
  intro pins s σ H x y v u Q I rx ry ⟨a, b, h1, h2, q⟩
  exact op_notInD hu pins s σ H x y v u Q I rx ry ⟨Dat.toD a, b.map Dat.toD, Dat.dp h1, Dat.dp h2, shapedD (by omega) a, shapedD (α := List α) (by show Dat.dmax α + 1 ≤ 60; omega) b, by rw [anyD]; exact q⟩
theorem op_inT (hK : X.K = K) (α : Type) [Dat α] [DecidableEq α] (hd : Dat.dmax α ≤ 50) (hu : X.A.units + 65 < cLine) : OpR X (compareOp .In) (fun x y H Q => ∃ (a : α) (b : Tup α), rep K H x a ∧ rep K H y b ∧ Q (.bl (decide (a ∈ b.l))) H) := by
  subst hK
  intro pins s σ H x y v u Q I rx ry ⟨a, b, h1, h2, q⟩
  have sd := shapedD (by omega : Dat.dmax α ≤ 60) a
  have se : SeqAt.shaped (.tuple (b.l.map Dat.toD)) = true := shapedD (α := Tup α) (by show Dat.dmax α + 1 ≤ 60; omega) b
  obtain ⟨as, r1⟩ := Dp.reads I (Dat.toD a) x v (Dat.dp h1) rx
  obtain ⟨bs, r2⟩ := Dp.reads I (.tuple (b.l.map Dat.toD)) y u (Dat.dp h2) ry
  refine SeqAt.in_tuple_reads r2 r1 (SeqAt.canLay_of_shaped se) (SeqAt.canLay_of_shaped sd) (room_in_shaped sd hu) ?_
  rw [anyD]
  exact ⟨.bl _, H, I, rfl, q⟩
/-- == of texts -/
theorem decS (x y : Str) : decide (V.str x = V.str y) = decide (x = y) := by
  by_cases h : x = y
  · subst h; simp
  · rw [decide_eq_false h, decide_eq_false (fun e => h (V.str.inj e))]
theorem op_eqS : OpR X (compareOp .Eq) (fun x y H Q => ∃ a b : Str, x = .str a ∧ y = .str b ∧ Q (.bl (decide (a = b))) H) := by
  intro pins s σ H x y v u Q I rx ry ⟨a, b, h1, h2, q⟩
  subst h1 h2
  exact op_eq pins s σ H _ _ v u Q I rx ry ⟨rfl, by rw [decS]; exact q⟩
theorem op_neS : OpR X (compareOp .NotEq) (fun x y H Q => ∃ a b : Str, x = .str a ∧ y = .str b ∧ Q (.bl (!decide (a = b))) H) := by
  intro pins s σ H x y v u Q I rx ry ⟨a, b, h1, h2, q⟩
  subst h1 h2
  exact op_ne pins s σ H _ _ v u Q I rx ry ⟨rfl, by rw [decS]; exact q⟩
/-! ### built-ins -/
theorem call_lenN (hK : X.K = K) : CallR X (.builtin "len") (fun xs H Q => ∃ (p : Addr) (ys : List V) (n : Nat), xs = [.ref p] ∧ (SqL K H p ys ∨ SqT K H p ys) ∧ ys.length = n ∧ Q (.int (n : Int)) H) := by
  subst hK
  intro pins s σ H xs us Q I r ⟨p, ys, n, e, h, hn, q⟩
  subst hn
  exact call_len_seq pins s σ H xs us Q I r ⟨p, ys, e, h, q⟩
def max2 (i j : Int) : Int := if j > i then j else i
def min2 (i j : Int) : Int := if j < i then j else i
/-- the greatest, the least of a list -/
def maxL (xs : List Int) : R Int := ofO xs.max?
theorem pb_max {δ : Type} {xs : List Int} {f : Int → R δ} {P : δ → Prop} {E : Exn → Prop} (h : Post (maxL xs >>= f) P E) : ∃ m, xs.max? = some m ∧ Post (f m) P E := pb_ofO h
theorem cr_maxI (hK : X.K = K) (hc : X.calm = true) : CallR X (.builtin "max") (fun vs H Q => ∃ (a : Addr) (ns : List Int) (m : Int), vs = [V.ref a] ∧ SqL K H a (ns.map V.int) ∧ ns.max? = some m ∧ Q (.int m) H) := by
  subst hK
  intro pins s σ H xs us Q I r ⟨a, ns, m, e, h, hm, q⟩
  obtain ⟨h1, h2⟩ := List.max?_eq_some_iff.mp hm
  refine cr_max hc pins s σ H xs us Q I r ⟨a, ns, e, h, ?_, fun k h3 h4 => ?_⟩
  · exact List.length_pos_of_mem h1
  · have e1 : k = m := Int.le_antisymm (h2 k h3) (h4 m h1)
    subst e1
    exact q
/-- the ints in order -/
def sortI (xs : List Int) : List Int := xs.mergeSort fun a b => decide (a ≤ b)
theorem sortI_perm (xs : List Int) : (sortI xs).Perm xs := List.mergeSort_perm xs _
theorem sortI_sorted (xs : List Int) : (sortI xs).Pairwise (· ≤ ·) := by
  have h := List.pairwise_mergeSort (le := fun a b : Int => decide (a ≤ b)) (fun a b c h1 h2 => by simp only [decide_eq_true_eq] at *; omega) (fun a b => by simp only [Bool.or_eq_true, decide_eq_true_eq]; omega) xs
  exact h.imp fun h => by simpa using h
theorem sort_uniq {xs ys : List Int} (h : xs.Perm ys) (hx : xs.Pairwise (· ≤ ·)) (hy : ys.Pairwise (· ≤ ·)) : xs = ys := by
  induction xs generalizing ys with
  | nil => exact (List.nil_perm.mp h).symm
  | cons x xs ih =>
    cases ys with
    | nil => exact absurd h.symm (by simp)
    | cons y ys =>
      rw [List.pairwise_cons] at hx hy
      have e : x = y := by
        have h1 : x ∈ y :: ys := h.mem_iff.mp List.mem_cons_self
        have h2 : y ∈ x :: xs := h.mem_iff.mpr List.mem_cons_self
        rcases List.mem_cons.mp h1 with h1 | h1
        · exact h1
        · rcases List.mem_cons.mp h2 with h2 | h2
          · exact h2.symm
          · have := hx.1 y h2
            have := hy.1 x h1
            omega
      subst e
      rw [ih (List.perm_cons x |>.mp h) hx.2 hy.2]
theorem sortI_eq {xs ys : List Int} (h : ys.Perm xs) (hy : ys.Pairwise (· ≤ ·)) : ys = sortI xs := sort_uniq (h.trans (sortI_perm xs).symm) hy (sortI_sorted xs)
theorem cr_sortI (hK : X.K = K) : CallR X (.builtin "sorted") (fun vs H Q => ∃ (a : Addr) (ns : List Int), vs = [V.ref a] ∧ SqL K H a (ns.map V.int) ∧ ∀ p, H p = none → Q (.ref p) (upd H p (.lst ((sortI ns).map V.int)))) := by
  subst hK
  intro pins s σ H xs us Q I r ⟨a, ns, e, h, q⟩
  refine cr_sortedI pins s σ H xs us Q I r ⟨a, ns, e, h, fun ns' p h1 h2 hp => ?_⟩
  rw [sortI_eq h1 h2]
  exact q p hp
theorem ix_listK (hK : X.K = K) : IxR X (rIxL K) := hK ▸ ix_list
theorem ix_tupK (hK : X.K = K) : IxR X (rIxT K) := hK ▸ ix_tup
theorem sl_listK (hK : X.K = K) : SlR X (rSlL K) := hK ▸ sl_list
theorem call_list_ofK (hK : X.K = K) : CallR X (.type "list") (fun xs H Q => ∃ p ys, xs = [.ref p] ∧ (SqL K H p ys ∨ SqT K H p ys) ∧ ∀ l, H l = none → Q (.ref l) (upd H l (.lst ys))) := hK ▸ call_list_of
theorem call_tuple_ofK (hK : X.K = K) : CallR X (.type "tuple") (fun xs H Q => ∃ p ys, xs = [.ref p] ∧ ((SqL K H p ys ∧ ∀ l, H l = none → Q (.ref l) (upd H l (.tup ys))) ∨ (SqT K H p ys ∧ Q (.ref p) H))) := hK ▸ call_tuple_of
theorem pi_listK {tg l : Expr} {tl : TE} (hK : X.K = K) (hl : PE X l tl) : PI X tg l (iList K tl) := hK ▸ pi_list hl
theorem pi_tupK {tg l : Expr} {tl : TE} (hK : X.K = K) (hl : PE X l tl) : PI X tg l (iTup K tl) := hK ▸ pi_tup hl
theorem pi_k {tg l : Expr} {wi : Fg → TI} (hK : X.K = K) (h : PI X tg l (wi X.K)) : PI X tg l (wi K) := hK ▸ h
theorem pe_k {e : Expr} {t : Fg → TE} (hK : X.K = K) (h : PE X e (t X.K)) : PE X e (t K) := hK ▸ h
theorem pg_k {tg : Expr} {t : Fg → TG} (hK : X.K = K) (h : PG X tg (t X.K)) : PG X tg (t K) := hK ▸ h
end
end Z
/-! Z3: sets of tuples by their number, isinstance -/
namespace Z
open PySem L2 PySem.Spec PyProof.Rows
open Rep (rep)
section
variable {α : Type} [DecidableEq α]
theorem nodup_le : ∀ {xs ys : List α}, xs.Nodup → (∀ y ∈ xs, y ∈ ys) → xs.length ≤ ys.length
  | [], _, _, _ => Nat.zero_le _
  | x :: xs, ys, h, hs => by
    obtain ⟨h1, h2⟩ := List.nodup_cons.mp h
    have hx : x ∈ ys := hs x List.mem_cons_self
    have := nodup_le (xs := xs) (ys := ys.erase x) h2 fun y hy => (List.mem_erase_of_ne (show y ≠ x from fun e => by subst e; exact h1 hy)).mpr (hs y (List.mem_cons_of_mem _ hy))
    rw [List.length_erase_of_mem hx] at this
    have := List.length_pos_of_mem hx
    rw [List.length_cons]
    omega
end
section
variable {X : Cx} {K : Fg} {P : Program} {w : World} {F H : Hp}
/-- isinstance of a plain value and a built-in class -/
theorem call_isB (hK : X.K = K) : CallR X (.builtin "isinstance") (fun xs H Q => ∃ (x : V) (a b : String) (r : Bool), xs = [x, .ty b] ∧ TyOf K H x (.type a) ∧ kitB a b = some r ∧ Q (.bl r) H) := by
  subst hK
  intro pins s σ H xs us Q I r ⟨x, a, b, c, e, h1, h2, q⟩
  exact call_isi pins s σ H xs us Q I r ⟨x, .ty b, .type a, .type b, c, e, .ty b, .base h1, kit_ty h2, q⟩
end
end Z
namespace Z
open PySem L2 PySem.Spec PyProof.Rows
open Rep (rep)
section
variable {X : Cx} {K : Fg} {F H : Hp}
theorem bools_q {a : Addr} {vs : List V} {xs : List Bool} (q : SqL K H a vs) (h : A2 (rep K F) vs xs) : SqL K H a (xs.map V.bl) := h.bools ▸ q
theorem cr_allK (hK : X.K = K) (hc : X.calm = true) : CallR X (.builtin "all") (rAll K) := hK ▸ cr_all hc
theorem cr_anyK (hK : X.K = K) (hc : X.calm = true) : CallR X (.builtin "any") (rAny K) := hK ▸ cr_any hc
end
end Z
namespace Z
open PySem L2 PySem.Spec PyProof.Rows
open Rep (rep)
section
variable {X : Cx} {K : Fg} {F H : Hp}
/-- xs * k -/
def repL {α : Type} (xs : List α) (k : Int) : List α := (List.replicate k.toNat xs).flatten
@[irreducible] def repR {α : Type} (xs : List α) (k : Int) : R (List α) := if -(2 ^ 62) ≤ k ∧ k < 2 ^ 62 ∧ xs.length * k.toNat < 100000 then .ok (repL xs k) else .bad
theorem pb_rep {α δ : Type} {xs : List α} {k : Int} {f : List α → R δ} {P : δ → Prop} {E : Exn → Prop} (h : Post (repR xs k >>= f) P E) : ∃ ys, (-(2 ^ 63) ≤ k ∧ k < 2 ^ 63 ∧ xs.length * k.toNat ≤ sizeLine) ∧ ys = repL xs k ∧ Post (f ys) P E := by
  unfold repR at h
  obtain ⟨⟨a, b, c⟩, d⟩ := pb_if h
  exact ⟨_, ⟨by omega, by omega, Nat.le_of_lt (Nat.lt_of_lt_of_le c line5)⟩, rfl, d⟩
theorem A2.flat {α : Type} {r : V → α → Prop} {vs : List V} {xs : List α} (h : A2 r vs xs) (n : Nat) : A2 r (List.replicate n vs).flatten (List.replicate n xs).flatten := by
  induction n with
  | zero => exact .nil
  | succ n ih =>
    rw [List.replicate_succ, List.replicate_succ, List.flatten_cons, List.flatten_cons]
    exact h.append ih
/-! ### None -/
class NonN (α : Type) extends Rep α where
  no : ∀ {K : Fg} {H : Hp} {v : V} {x : α}, rep K H v x → v ≠ .non
instance : NonN Int := ⟨fun h e => by have h' : _ = V.int _ := h; rw [h'] at e; cases e⟩
instance : NonN Bool := ⟨fun h e => by have h' : _ = V.bl _ := h; rw [h'] at e; cases e⟩
instance {α β : Type} [Rep α] [Rep β] : NonN (α × β) := ⟨fun {K H v x} h q => by
  obtain ⟨a, u, w, e, _⟩ := h
  rw [e] at q
  cases q⟩
instance {α : Type} [Rep α] : NonN (List α) := ⟨fun {K H v x} h q => by
  obtain ⟨a, u, e, _⟩ := h
  rw [e] at q
  cases q⟩
instance {α : Type} [Rep α] : NonN (Tup α) := ⟨fun {K H v x} h q => by
  obtain ⟨a, u, e, _⟩ := h
  rw [e] at q
  cases q⟩
theorem isN_eq {α : Type} [NonN α] {v : V} {o : Option α} (h : rep K F v o) : decide (v = .non) = o.isNone := by
  cases o with
  | none =>
    have h' : v = V.non := h
    rw [h']
    rfl
  | some x => exact decide_eq_false (NonN.no (α := α) h)
theorem op_isN2 : OpR X (compareOp .Is) (fun x y H Q => y = V.non ∧ ∃ b, decide (x = .non) = b ∧ Q (.bl b) H) := by
  intro pins s σ H x y v u Q I rx ry ⟨e, b, hb, q⟩
  exact op_isN pins s σ H x y v u Q I rx ry ⟨e, by rw [hb]; exact q⟩
instance datOptBool : Dat (Option Bool) where
  toD := fun x => match x with
    | none => .none
    | some i => .bool i
  dmax := 0
  dp := fun {K H v x} h => by
    cases x with
    | none =>
      have h' : v = V.non := h
      subst h'
      exact .non
    | some i =>
      have h' : v = V.bl i := h
      subst h'
      exact .bl _
  lay := fun x => by cases x <;> simp only [PyData.canLay0]
  dep := fun x => by cases x <;> simp only [PyData.depth, Nat.le_refl]
  eqv := fun x y => by cases x <;> cases y <;> simp [PyData.eqv]
end
end Z
/-! Z4: statements never reached, tuples into the frozen part, pairs sorted, dicts of scalars, list(range), pop -/
namespace Z
open PySem L2
open Rep (rep)
section
variable {X : Cx}
theorem ps_absurd {st : Stmt} : PS X st (fun _ _ _ => False) := ⟨fun _ _ _ _ _ _ h => h.elim⟩
theorem stepNot {t : TT} {σ : L2.St} {H : Hp} {Q : Bool → Hp → Prop} (h : t σ H fun c H1 => Q (!c) H1) : tNot t σ H Q := h
/-! ### sorted, of pairs -/
def leP (p q : Int × Int) : Bool := decide (p.1 < q.1 ∨ (p.1 = q.1 ∧ p.2 ≤ q.2))
def sortP (xs : List (Int × Int)) : List (Int × Int) := xs.mergeSort leP
theorem sortP_perm (xs : List (Int × Int)) : (sortP xs).Perm xs := List.mergeSort_perm xs _
theorem sortP_sorted (xs : List (Int × Int)) : (sortP xs).Pairwise fun p q => leP p q = true := by
  refine List.pairwise_mergeSort (le := leP) (fun a b c h1 h2 => ?_) (fun a b => ?_) xs
  · unfold leP at *
    simp only [decide_eq_true_eq] at *
    omega
  · unfold leP
    simp only [Bool.or_eq_true, decide_eq_true_eq]
    omega
theorem sortP_uniq {xs ys : List (Int × Int)} (h : xs.Perm ys) (hx : xs.Pairwise fun p q => leP p q = true) (hy : ys.Pairwise fun p q => leP p q = true) : xs = ys := by
  induction xs generalizing ys with
  | nil => exact (List.nil_perm.mp h).symm
  | cons x xs ih =>
    cases ys with
    | nil => exact absurd h.length_eq (by simp)
    | cons y ys =>
      rw [List.pairwise_cons] at hx hy
      have e : x = y := by
        have h1 : y ∈ x :: xs := h.mem_iff.mpr List.mem_cons_self
        have h2 : x ∈ y :: ys := h.mem_iff.mp List.mem_cons_self
        rcases List.mem_cons.mp h1 with e | h1
        · exact e.symm
        · rcases List.mem_cons.mp h2 with e | h2
          · exact e
          · have a := hx.1 y h1
            have b := hy.1 x h2
            unfold leP at a b
            simp only [decide_eq_true_eq] at a b
            exact Prod.ext (by omega) (by omega)
      subst e
      rw [ih h.cons_inv hx.2 hy.2]
theorem sortP_eq {xs ys : List (Int × Int)} (h : ys.Perm xs) (hy : ys.Pairwise fun p q => leP p q = true) : ys = sortP xs := sortP_uniq (h.trans (sortP_perm xs).symm) hy (sortP_sorted xs)
/-- which pair stands at a reference -/
def keyP (H : Hp) (v : V) : Int × Int := match v with
  | .ref t => match H t with
    | some (.tup [.int i, .int j]) => (i, j)
    | _ => (0, 0)
  | _ => (0, 0)
theorem keyP_of {K : Fg} {F H : Hp} {v : V} {x : Int × Int} (s : Same F H) (r : rep K F v x) : ∃ t, v = .ref t ∧ F t = some (.tup [.int x.1, .int x.2]) ∧ keyP H v = x := by
  obtain ⟨t, u, z, rfl, q, r1, r2⟩ := r
  obtain rfl : u = V.int x.1 := r1
  obtain rfl : z = V.int x.2 := r2
  refine ⟨t, rfl, q, ?_⟩
  have h := s _ _ q
  unfold keyP
  dsimp only
  rw [h]
theorem keyP_all {K : Fg} {F H : Hp} {vs : List V} {xs : List (Int × Int)} (s : Same F H) (h : A2 (rep K F) vs xs) : xs = vs.map (keyP H) ∧ ∀ v ∈ vs, ∃ t, v = .ref t ∧ F t = some (.tup [.int (keyP H v).1, .int (keyP H v).2]) := by
  induction h with
  | nil => exact ⟨rfl, fun _ z => nomatch z⟩
  | cons a b ih =>
    obtain ⟨t, e, q, k⟩ := keyP_of s a
    refine ⟨by rw [List.map_cons, k, ← ih.1], fun v hv => ?_⟩
    rcases List.mem_cons.mp hv with rfl | hv
    · exact ⟨t, e, by rw [k]; exact q⟩
    · exact ih.2 v hv
theorem rep_keys {K : Fg} {F H : Hp} : ∀ {ys : List V}, (∀ v ∈ ys, ∃ t, v = V.ref t ∧ F t = some (.tup [.int (keyP H v).1, .int (keyP H v).2])) → A2 (rep K F) ys (ys.map (keyP H))
  | [], _ => .nil
  | v :: ys, h => by
    obtain ⟨t, e, q⟩ := h v List.mem_cons_self
    refine .cons ?_ (rep_keys fun y hy => h y (List.mem_cons_of_mem _ hy))
    subst e
    exact ⟨t, _, _, rfl, q, rfl, rfl⟩
theorem cr_sortP {K : Fg} (hK : X.K = K) : CallR X (.builtin "sorted") (fun vs H Q => ∃ (a : Addr) (us : List V) (F : Hp) (xs : List (Int × Int)), vs = [V.ref a] ∧ SqL K H a us ∧ Same F H ∧ A2 (rep K F) us xs ∧
    ∀ p ys, H p = none → A2 (rep K F) ys (sortP xs) → Q (.ref p) (upd H p (.lst ys))) := by
  subst hK
  intro pins s σ H vs us Q I r h
  obtain ⟨a, us', F, xs, rfl, hs, sF, hA, q⟩ := h
  obtain ⟨e1, e2⟩ := keyP_all sF hA
  refine cr_sortedPO pins s σ H _ us Q I r ⟨a, us', keyP H, rfl, hs, fun x hx => ?_, fun ys p h1 h2 hp => q p ys hp ?_⟩
  · obtain ⟨t, e, k⟩ := e2 x hx
    exact ⟨t, e, sF _ _ k⟩
  · have e : ys.map (keyP H) = sortP xs := by
      refine sortP_eq ?_ ?_
      · rw [e1]
        exact h2.perm.map _
      · rw [List.pairwise_map]
        refine h1.imp fun {x y} h => ?_
        have h := SrtO.lexB_no.mp h
        unfold leP
        rw [decide_eq_true_eq]
        omega
    rw [← e]
    exact rep_keys fun v hv => e2 v (h2.perm.mem_iff.mp hv)
end
/-! ### dicts of scalars -/
section
variable {κ β γ δ : Type} [DecidableEq κ]
def mput (m : List (κ × β)) (k : κ) (v : β) : List (κ × β) := if (m.any fun p => decide (p.1 = k)) = true then m.map (fun p => if p.1 = k then (p.1, v) else p) else m ++ [(k, v)]
def mhas (m : List (κ × β)) (k : κ) : Bool := m.any fun p => decide (p.1 = k)
def mget (m : List (κ × β)) (k : κ) : Option β := (m.find? fun p => decide (p.1 = k)).map (·.2)
def mputR (m : List (κ × β)) (k : κ) (v : β) : R (List (κ × β)) := if m.length < 100000 then .ok (mput m k v) else .bad
def mgetR (m : List (κ × β)) (k : κ) : R β := ofO (mget m k)
/-- as the dict stands -/
def encM (e : κ → γ) (ev : β → V) (m : List (κ × β)) : List (γ × V) := m.map fun p => (e p.1, ev p.2)
variable [DecidableEq γ] {e : κ → γ} {ev : β → V}
end
abbrev kI : Int → Key := .inl
theorem pn_mput {κ β δ : Type} [DecidableEq κ] {m : List (κ × β)} {k : κ} {v : β} {f : List (κ × β) → R δ} {P : δ → Prop} {E : Exn → Prop} (h : Post (mputR m k v >>= f) P E) : ∃ m', m.length < sizeLine ∧ m' = mput m k v ∧ Post (f m') P E := by
  unfold mputR at h
  by_cases hl : m.length < 100000
  · rw [if_pos hl] at h
    exact ⟨_, Nat.lt_of_lt_of_le hl line5, rfl, h⟩
  · rw [if_neg hl] at h
    exact (show False from h).elim
/-! ### list(range(n)) -/
@[irreducible] def listRng (i j : Int) : R (List Int) := if -(2 ^ 62) ≤ i ∧ i < 2 ^ 62 ∧ -(2 ^ 62) ≤ j ∧ j < 2 ^ 62 ∧ (j - i).toNat ≤ 100000 then .ok (rng i j) else .bad
theorem rgV_eq (i j : Int) : rgV i j = (rng i j).map V.int := by
  unfold rgV rng
  rw [List.map_map]
  rfl
theorem pb_lrng {δ : Type} {i j : Int} {f : List Int → R δ} {P : δ → Prop} {E : Exn → Prop} (h : Post (listRng i j >>= f) P E) : ∃ l, RgOk i j ∧ l = rng i j ∧ Post (f l) P E := by
  unfold listRng at h
  by_cases hl : -(2 ^ 62) ≤ i ∧ i < 2 ^ 62 ∧ -(2 ^ 62) ≤ j ∧ j < 2 ^ 62 ∧ (j - i).toNat ≤ 100000
  · rw [if_pos hl] at h
    obtain ⟨a, b, c, d, e⟩ := hl
    exact ⟨_, ⟨a, b, c, d, by omega⟩, rfl, h⟩
  · rw [if_neg hl] at h
    exact (show False from h).elim
/-! ### a list of perhaps nothing, where nothing is nothing -/
def allS {α : Type} : List (Option α) → R (List α)
  | [] => .ok []
  | none :: _ => .bad
  | some x :: xs => allS xs >>= fun ys => .ok (x :: ys)
theorem allS_iff {α : Type} : ∀ {xs : List (Option α)} {ys : List α}, allS xs = R.ok ys ↔ xs = ys.map some
  | [], ys => by
    constructor
    · intro h; cases h; rfl
    · intro h
      cases ys with
      | nil => rfl
      | cons => cases h
  | none :: xs, ys => by
    constructor
    · intro h; cases h
    · intro h
      cases ys <;> cases h
  | some x :: xs, ys => by
    constructor
    · intro h
      obtain ⟨zs, e, h⟩ := bind_ok_iff.mp h
      cases h
      rw [allS_iff.mp e]
      rfl
    · intro h
      cases ys with
      | nil => cases h
      | cons y ys =>
        rw [List.map_cons] at h
        injection h with h1 h2
        cases h1
        show (allS xs >>= fun ys => R.ok (x :: ys)) = _
        rw [allS_iff.mpr h2]
        rfl
theorem pb_allS {α δ : Type} {xs : List (Option α)} {f : List α → R δ} {P : δ → Prop} {E : Exn → Prop} (h : Post (allS xs >>= f) P E) : ∃ ys, xs = ys.map some ∧ Post (f ys) P E := by
  cases e : allS xs with
  | ok ys =>
    rw [e] at h
    exact ⟨ys, allS_iff.mp e, h⟩
  | exc x =>
    rw [e] at h
    exfalso
    clear h
    induction xs with
    | nil => cases e
    | cons x xs ih =>
      cases x with
      | none => cases e
      | some x =>
        have e' : (allS xs >>= fun ys => R.ok (x :: ys)) = R.exc _ := e
        cases e2 : allS xs with
        | ok y => rw [e2] at e'; cases e'
        | exc y => rw [e2] at e'; cases e'; exact ih e2
        | bad => rw [e2] at e'; cases e'
  | bad =>
    rw [e] at h
    exact (show False from h).elim
theorem A2.unsome {α : Type} [Rep α] {K : Fg} {F : Hp} : ∀ {vs : List V} {ys : List α}, A2 (rep K F) vs (ys.map some) → A2 (rep K F) vs ys
  | [], [], _ => .nil
  | _ :: _, [], h => nomatch h
  | [], _ :: _, h => nomatch h
  | _ :: _, _ :: _, .cons a b => .cons a (A2.unsome b)
/-! ### pop -/
/-! ### in, of a dict of scalars -/
theorem Room.units1 {k : Nat} {A : Around} (r : Room k A) : A.units + 1 < cLine := by
  have := r.un
  omega
end Z
/-! ZX: an exception caught by its class, held behind the suite as a thing of its own -/
namespace L2
open PySem PySem.Spec PyProof.Rows
/-- a caught exception of the class cls at a -/
def ExH (cls : Value) (a : Addr) : HO := .ext fun h => ∃ (oe : Obj), h.get? a = some oe ∧ Zc cls none oe ∧ ∃ vs, oe.data = .fields vs
end L2
namespace Z
open PySem L2
open Rep (rep)
/-- the class that a name of the text names -/
def Nm (K : Fg) (x : Str) (C : Addr) : Prop := PySem.W.nsIn K mainGlobals x = some (some (.ref C))
theorem Nm.uniq {K : Fg} {x : Str} {C D : Addr} (a : Nm K x C) (b : Nm K x D) : C = D := by
  have h := a.symm.trans b
  injection h with h
  injection h with h
  injection h
instance repExn : Rep Exn := ⟨fun K F v e => ∃ a C, v = .ref a ∧ Nm K e.cls C ∧ F a = some (ExH (.ref C) a), fun s ⟨a, C, h, n, q⟩ => ⟨a, C, h, n, s _ _ q⟩⟩
/-- a call that lets no error out -/
def nx {α : Type} (m : R α) : R α := match m with
  | .ok a => .ok a
  | .exc _ => .bad
  | .bad => .bad
theorem kit_ty {K : Fg} {x : Addr} {T : String} {b : Bool} (h1 : PySem.W.kitMeta T = true) (h3 : PySem.W.subIn K (.ref x) (.type T) = some b) : PySem.W.kitOne K (.ref x) (.type T) = some b := by
  have e : PySem.W.kitCls K (.ref x) (.type T) = some b := by
    show (if PySem.W.kitMeta T = true then PySem.W.subIn K (.ref x) (.type T) else none) = some b
    rw [if_pos h1]
    exact h3
  unfold PySem.W.kitOne
  have h4 : (Value.ref x == Value.type T) = false := rfl
  rw [h4, if_neg (by decide)]
  exact e
/-- what is known of an own error class -/
structure XC (K : Fg) (mg : Str → Option Value) (x : Str) (C : Addr) : Prop where
  ns : Nm K x C
  gm : mg x = some (.ref C)
  xc : PySem.W.excIn K C [.type "ValueError", .type "Exception", .type "BaseException", .type "object"] "ValueError.__new__" = true
  kp : PySem.W.keepIn K (.ref C) = true
  b : PySem.W.subIn K (.ref C) (.type "BaseException") = some true
  t : PySem.W.typeIn K (.ref C) = some (.type "type")
  ex : ExcC K C
end Z
/-! Z5: regions: lists of one's own by their number in a store -/
namespace Z
open PySem L2
open Rep (rep)
/-! ### two lists, item by item -/
inductive F2 {α β : Type} (r : α → β → Prop) : List α → List β → Prop
  | nil : F2 r [] []
  | cons {a : α} {b : β} {as : List α} {bs : List β} : r a b → F2 r as bs → F2 r (a :: as) (b :: bs)
section
variable {α β : Type} {r r' : α → β → Prop} {as : List α} {bs : List β}
theorem F2.length : ∀ {as : List α} {bs : List β}, F2 r as bs → as.length = bs.length
  | _, _, .nil => rfl
  | _, _, .cons _ t => by rw [List.length_cons, List.length_cons, F2.length t]
theorem F2.imp (f : ∀ a b, r a b → r' a b) : ∀ {as : List α} {bs : List β}, F2 r as bs → F2 r' as bs
  | _, _, .nil => .nil
  | _, _, .cons h t => .cons (f _ _ h) (F2.imp f t)
theorem F2.get : ∀ {as : List α} {bs : List β} {i : Nat} {b : β}, F2 r as bs → bs[i]? = some b → ∃ a, as[i]? = some a ∧ r a b
  | _, _, _, _, .nil, e => by simp at e
  | _, _, 0, _, .cons h _, e => by simp at e; subst e; exact ⟨_, rfl, h⟩
  | _, _, i + 1, b, .cons _ t, e => by
    obtain ⟨v, h1, h2⟩ := F2.get (i := i) (b := b) t (by simpa using e)
    exact ⟨v, by simpa using h1, h2⟩
theorem F2.set {a : α} {b : β} (h : r a b) : ∀ {as : List α} {bs : List β} (i : Nat), F2 r as bs → F2 r (as.set i a) (bs.set i b)
  | _, _, _, .nil => .nil
  | _, _, 0, .cons _ t => .cons h t
  | _, _, i + 1, .cons q t => .cons q (F2.set h i t)
theorem F2.append : ∀ {as as' : List α} {bs bs' : List β}, F2 r as bs → F2 r as' bs' → F2 r (as ++ as') (bs ++ bs')
  | _, _, _, _, .nil, h => h
  | _, _, _, _, .cons a t, h => .cons a (F2.append t h)
theorem F2.snoc {a : α} {b : β} (h : F2 r as bs) (q : r a b) : F2 r (as ++ [a]) (bs ++ [b]) := h.append (.cons q .nil)
end
/-! ### a store's lists: cells -/
def nz : List Addr → List (List V) → List (Addr × HO)
  | a :: as, vs :: vss => (a, .lst vs) :: nz as vss
  | _, _ => []
theorem nz_split : ∀ {as : List Addr} {vss : List (List V)} {j : Nat} {a : Addr} {vs : List V}, as[j]? = some a → vss[j]? = some vs →
    ∃ x y, nz as vss = x ++ (a, .lst vs) :: y ∧ ∀ us, nz as (vss.set j us) = x ++ (a, .lst us) :: y
  | [], _, j, _, _, h, _ => by simp at h
  | _ :: _, [], j, _, _, _, h => by simp at h
  | b :: as, ws :: vss, 0, a, vs, h1, h2 => by
    simp at h1 h2
    subst h1 h2
    exact ⟨[], nz as vss, rfl, fun _ => rfl⟩
  | b :: as, ws :: vss, j + 1, a, vs, h1, h2 => by
    obtain ⟨x, y, e1, e2⟩ := nz_split (as := as) (vss := vss) (j := j) (a := a) (vs := vs) (by simpa using h1) (by simpa using h2)
    exact ⟨(b, .lst ws) :: x, y, by show (b, HO.lst ws) :: nz as vss = _; rw [e1]; rfl, fun us => by show (b, HO.lst ws) :: nz as (vss.set j us) = _; rw [e2]; rfl⟩
theorem nz_snoc : ∀ {as : List Addr} {vss : List (List V)} {a : Addr} {vs : List V}, as.length = vss.length → nz (as ++ [a]) (vss ++ [vs]) = nz as vss ++ [(a, .lst vs)]
  | [], [], _, _, _ => rfl
  | [], _ :: _, _, _, h => by simp at h
  | _ :: _, [], _, _, h => by simp at h
  | b :: as, ws :: vss, a, vs, h => by
    show (b, HO.lst ws) :: nz (as ++ [a]) (vss ++ [vs]) = (b, HO.lst ws) :: (nz as vss ++ [(a, .lst vs)])
    rw [nz_snoc (by simpa using h)]
section
variable {F H : Hp} {os os' pre post : List (Addr × HO)} {a p : Addr} {o : HO} {as : List Addr} {vss : List (List V)} {j : Nat} {vs : List V}
theorem W.perm (h : os.Perm os') (w : W F H os) : W F H os' where
  same := w.same
  own := fun q hq => w.own q (h.mem_iff.mpr hq)
  nd := h.pairwise_iff (fun e q => e q.symm) |>.mp w.nd
  nt := fun q hq => w.nt q (h.mem_iff.mpr hq)
/-- the j-th list of a store -/
theorem W.nget (w : W F H (pre ++ (nz as vss ++ post))) (h1 : as[j]? = some a) (h2 : vss[j]? = some vs) : H a = some (.lst vs) := by
  obtain ⟨x, y, e, _⟩ := nz_split h1 h2
  rw [e] at w
  exact (w.own (a, .lst vs) (by simp)).1
theorem W.nset (w : W F H (pre ++ (nz as vss ++ post))) (us : List V) (h1 : as[j]? = some a) (h2 : vss[j]? = some vs) : W F (upd H a (.lst us)) (pre ++ (nz as (vss.set j us) ++ post)) := by
  obtain ⟨x, y, e, e2⟩ := nz_split h1 h2
  rw [e] at w
  rw [e2]
  have w' : W F H ((pre ++ x) ++ (a, .lst vs) :: (y ++ post)) := by
    have e3 : pre ++ (x ++ (a, HO.lst vs) :: y ++ post) = (pre ++ x) ++ (a, HO.lst vs) :: (y ++ post) := by simp
    rw [← e3]
    exact w
  have w2 := w'.set (o' := .lst us)
  have e3 : pre ++ (x ++ (a, HO.lst us) :: y ++ post) = (pre ++ x) ++ (a, HO.lst us) :: (y ++ post) := by simp
  rw [e3]
  exact w2
/-- a cell goes into a store -/
theorem W.nadd (w : W F H ((p, .lst vs) :: (pre ++ (nz as vss ++ post)))) (hl : as.length = vss.length) : W F H (pre ++ (nz (as ++ [p]) (vss ++ [vs]) ++ post)) := by
  rw [nz_snoc hl]
  refine w.perm ?_
  have e : pre ++ (nz as vss ++ [(p, HO.lst vs)] ++ post) = (pre ++ nz as vss) ++ (p, HO.lst vs) :: post := by simp
  have e2 : (p, HO.lst vs) :: (pre ++ (nz as vss ++ post)) = (p, HO.lst vs) :: ((pre ++ nz as vss) ++ post) := by simp
  rw [e, e2]
  exact List.perm_middle.symm
theorem W.dropL (w : W F H (pre ++ (os ++ post))) : W F H (pre ++ post) where
  same := w.same
  own := fun q hq => w.own q (by
    rcases List.mem_append.mp hq with h | h
    · exact List.mem_append_left _ h
    · exact List.mem_append_right _ (List.mem_append_right _ h))
  nd := by
    have nd := w.nd
    rw [List.pairwise_append] at nd ⊢
    obtain ⟨n1, n2, n3⟩ := nd
    rw [List.pairwise_append] at n2
    exact ⟨n1, n2.2.1, fun x hx y hy => n3 x hx y (List.mem_append_right _ hy)⟩
  nt := fun q hq => w.nt q (by
    rcases List.mem_append.mp hq with h | h
    · exact List.mem_append_left _ h
    · exact List.mem_append_right _ (List.mem_append_right _ h))
end
/-! ### what stands in a store -/
section
variable {α β δ : Type} [Rep α] [Rep β] {K : Fg} {F F' H : Hp} {as as' : List Addr} {vss : List (List V)} {st : List (List α)}
structure Sto (K : Fg) (F : Hp) (as : List Addr) (vss : List (List V)) (st : List (List α)) : Prop where
  len : as.length = vss.length
  all : F2 (A2 (rep K F)) vss st
theorem Sto.nil : Sto K F [] [] ([] : List (List α)) := ⟨rfl, .nil⟩
theorem Sto.mono (s : Same F F') (h : Sto K F as vss st) : Sto K F' as vss st := ⟨h.len, h.all.imp fun _ _ q => q.mono s⟩
theorem Sto.len2 (h : Sto K F as vss st) : as.length = st.length := h.len.trans h.all.length
theorem Sto.get {j : Nat} {xs : List α} (h : Sto K F as vss st) (e : st[j]? = some xs) : ∃ a vs, as[j]? = some a ∧ vss[j]? = some vs ∧ A2 (rep K F) vs xs := by
  obtain ⟨vs, h1, h2⟩ := h.all.get e
  have hj := (List.getElem?_eq_some_iff.mp e).1
  rw [← h.len2] at hj
  exact ⟨as[j], vs, List.getElem?_eq_getElem hj, h1, h2⟩
theorem Sto.set {j : Nat} {vs : List V} {xs : List α} (h : Sto K F as vss st) (q : A2 (rep K F) vs xs) : Sto K F as (vss.set j vs) (st.set j xs) := ⟨by rw [List.length_set]; exact h.len, h.all.set q j⟩
theorem Sto.snoc {p : Addr} {vs : List V} {xs : List α} (h : Sto K F as vss st) (q : A2 (rep K F) vs xs) : Sto K F (as ++ [p]) (vss ++ [vs]) (st ++ [xs]) := ⟨by simp [h.len], h.all.snoc q⟩
/-- a number in a store -/
abbrev Ix := Nat
def RX (as : List Addr) (v : V) (j : Ix) : Prop := ∃ a, v = .ref a ∧ as[j]? = some a
theorem RX.mono (h : as <+: as') {v : V} {j : Ix} (q : RX as v j) : RX as' v j := by
  obtain ⟨a, e, q⟩ := q
  obtain ⟨t, rfl⟩ := h
  refine ⟨a, e, ?_⟩
  rw [List.getElem?_append_left (List.getElem?_eq_some_iff.mp q).1]
  exact q
theorem RX.new (h : as.length = n) {p : Addr} : RX (as ++ [p]) (.ref p) n := ⟨p, rfl, by rw [List.getElem?_append_right (by omega), ← h]; simp⟩
theorem IQ.mono (h : as <+: as') {a : Addr} {j : Nat} (q : as[j]? = some a) : as'[j]? = some a := by
  obtain ⟨t, rfl⟩ := h
  rw [List.getElem?_append_left (List.getElem?_eq_some_iff.mp q).1]
  exact q
theorem IQ.new {n : Nat} (h : as.length = n) {p : Addr} : (as ++ [p])[n]? = some p := by
  rw [List.getElem?_append_right (by omega), ← h]
  simp
theorem pfx_trans {as2 : List Addr} (h : as <+: as') (h' : as' <+: as2) : as <+: as2 := h.trans h'
theorem Sto.getq {j : Nat} {xs : List α} {a : Addr} (h : Sto K F as vss st) (e : st[j]? = some xs) (q : as[j]? = some a) : ∃ vs, vss[j]? = some vs ∧ A2 (rep K F) vs xs := h.all.get e
theorem pfx_refl : as <+: as := List.prefix_refl _
theorem pfx_snoc {p : Addr} : as <+: as ++ [p] := List.prefix_append _ _
/-- the list of a number -/
def getS (st : List (List α)) (j : Ix) : R (List α) := ofO st[j]?
theorem pb_getS {st : List (List α)} {j : Ix} {f : List α → R δ} {P : δ → Prop} {E : Exn → Prop} (h : Post (getS st j >>= f) P E) : ∃ xs, st[j]? = some xs ∧ Post (f xs) P E := pb_ofO h
/-- .. another list in its place -/
def setS (st : List (List α)) (j : Ix) (ys : List α) : R (List (List α)) := .ok (st.set j ys)
theorem pn_setS {st : List (List α)} {j : Ix} {ys : List α} {f : List (List α) → R δ} {P : δ → Prop} {E : Exn → Prop} (h : Post (setS st j ys >>= f) P E) : ∃ st', st' = st.set j ys ∧ Post (f st') P E := ⟨_, rfl, h⟩
/-- .. a new one -/
def newS (st : List (List α)) (ys : List α) : R (Ix × List (List α)) := .ok (st.length, st ++ [ys])
theorem pn_newS {st : List (List α)} {ys : List α} {f : Ix × List (List α) → R δ} {P : δ → Prop} {E : Exn → Prop} (h : Post (newS st ys >>= f) P E) : ∃ j st', j = st.length ∧ st' = st ++ [ys] ∧ Post (f (j, st')) P E := ⟨_, _, rfl, rfl, h⟩
end
section
variable {K : Fg} {F : Hp} {a : Addr} {β : Type} {vs : List V} {xs : List β} {r : V → β → Prop}
theorem tw_listR (h : A2 r vs xs) : TW (Itl K a) xs (fun H => SqL K H a vs) (fun b H x H' => H' = H ∧ r x b) := ⟨by
  rw [← h.length]
  exact walk_list.mono (fun _ g => g) fun i H x H' _ _ y => by
    obtain ⟨y1, y2⟩ := y
    obtain ⟨b, h1, h2⟩ := h.getV y2
    exact ⟨b, h1, y1, h2⟩⟩
end
/-! ### comprehensions, what is made told by the state -/
section
variable {J : It} {β γ δ ε : Type} {items : List β} {G : Hp → Prop} {Y : β → Hp → V → Hp → Prop} {g : TG} {tt : TT} {te : TE} {P : ε → Prop} {X : Exn → Prop} {K : Fg} {vs : List Nat} {σ : St} {F H1 : Hp} {os : List (Addr × HO)} {D : Addr} {Qd : Hp → Prop}
theorem lcG (tw : TW J items G Y) {f : γ → β → R (Option δ × γ)} {s0 : γ} {k : List δ × γ → R ε} (hm : Post (filStG f s0 items >>= k) P X) (O : γ → Hp → List (Addr × HO) → List V → List δ → Prop) (w : W F H1 os) (o0 : O s0 F os [] []) (nD : H1 D = none)
    (hl : ∀ c F' os' us ys, O c F' os' us ys → us.length = ys.length)
    (hG : ∀ c F' H' os' acc ys, Same F F' → W F' H' ((D, .lst acc) :: os') → O c F' os' acc ys → G H')
    (hs : ∀ (b : β) (c : γ) (x : V) (F' H' H'' : Hp) (os' : List (Addr × HO)) (acc : List V) (ys : List δ) (N : V → Hp → Prop) (N0 : Hp → Prop) (P' : Option δ × γ → Prop), Same F F' → W F' H' ((D, .lst acc) :: os') → O c F' os' acc ys → Y b H' x H'' →
      (∀ d c', P' (some d, c') → ∀ y F'' H'' os'', W F'' H'' ((D, .lst acc) :: os'') → Same F' F'' → O c' F'' os'' (acc ++ [y]) (ys ++ [d]) → N y H'') →
      (∀ c', P' (none, c') → ∀ F'' H'' os'', W F'' H'' ((D, .lst acc) :: os'') → Same F' F'' → O c' F'' os'' acc ys → N0 H'') → Post (f c b) P' X →
      g x (wipe σ vs) H'' fun σ2 H2 => wipe σ2 vs = wipe σ vs ∧ tt σ2 H2 fun b H3 => if b = true then te σ2 H3 N else N0 H3)
    (hd : ∀ c us F' H' os' ys, Same F F' → W F' H' ((D, .lst us) :: os') → O c F' os' us ys → Post (k (ys, c)) P X → Qd H') : LcAsk J g tt te vs σ H1 D Qd := by
  obtain ⟨hlen, hm⟩ := pb_grd (pb_assoc hm)
  have hlen : items.length < sizeLine := Nat.lt_of_lt_of_le (of_decide_eq_true hlen) line5
  refine lc_it tw.walk (fun i H => ∃ c F' os' us ys, i ≤ items.length ∧ Same F F' ∧ W F' H ((D, .lst us) :: os') ∧ O c F' os' us ys ∧ ys.length ≤ i ∧ Post (filSt f c (items.drop i) >>= fun q => k (ys ++ q.1, q.2)) P X) ?_ ?_ ?_ ?_
  · exact ⟨s0, F, os, [], [], Nat.zero_le _, Same.refl _, w.new nD, o0, Nat.le_refl _, hm⟩
  · rintro i H _ ⟨c, F', os', us, ys, _, s, w', o, _⟩
    exact hG c F' H os' us ys s w' o
  · rintro i x H H' hi ⟨c, F', os', us, ys, _, s, w', o, hl2, hm⟩ ⟨b, hb, y⟩
    rw [drop_cons hb] at hm
    have hm' : Post ((f c b >>= fun p => filSt f p.2 (items.drop (i + 1)) >>= fun q => match p.1 with
      | some y => (R.ok (y :: q.1, q.2) : R (List δ × γ))
      | none => R.ok q) >>= fun q => k (ys ++ q.1, q.2)) P X := hm
    rw [bind_bind] at hm'
    have hm2 := post_bind hm'
    have hul : us.length = ys.length := hl _ _ _ _ _ o
    refine hs b c x F' H H' os' us ys (fun y H4 => ∃ acc, H4 D = some (.lst acc) ∧ acc.length < sizeLine ∧ _) _ _ s w' o y ?_ ?_ hm2
    · intro d c' p2 y F'' H'' os'' w2 s2 o2
      refine ⟨us, w2.get (pre := []), by omega, c', F'', os'', us ++ [y], ys ++ [d], hi, s.trans s2, w2.set (pre := []), o2, by rw [List.length_append, List.length_singleton]; omega, ?_⟩
      have p3 : Post ((filSt f c' (items.drop (i + 1)) >>= fun q => (R.ok (d :: q.1, q.2) : R (List δ × γ))) >>= fun q => k (ys ++ q.1, q.2)) P X := p2
      rw [bind_bind] at p3
      have e : (fun q : List δ × γ => (R.ok (d :: q.1, q.2) : R (List δ × γ)) >>= fun q => k (ys ++ q.1, q.2)) = fun q => k (ys ++ [d] ++ q.1, q.2) := by
        funext q
        show k (ys ++ (d :: q.1), q.2) = k (ys ++ [d] ++ q.1, q.2)
        rw [List.append_assoc]
        rfl
      rw [e] at p3
      exact p3
    · intro c' p2 F'' H'' os'' w2 s2 o2
      refine ⟨c', F'', os'', us, ys, hi, s.trans s2, w2, o2, by omega, ?_⟩
      have p3 : Post ((filSt f c' (items.drop (i + 1)) >>= fun q => (R.ok q : R (List δ × γ))) >>= fun q => k (ys ++ q.1, q.2)) P X := p2
      rw [bind_bind] at p3
      exact p3
  · rintro H ⟨c, F', os', us, ys, _, s, w', o, _, hm⟩
    rw [List.drop_length] at hm
    have hm' : Post (k (ys ++ [], c)) P X := hm
    rw [List.append_nil] at hm'
    exact hd c us F' H os' ys s w' o hm'
theorem lcGM (tw : TW J items G Y) {f : γ → β → R (δ × γ)} {s0 : γ} {k : List δ × γ → R ε} (hm : Post (mapStG f s0 items >>= k) P X) (O : γ → Hp → List (Addr × HO) → List V → List δ → Prop) (w : W F H1 os) (o0 : O s0 F os [] []) (nD : H1 D = none)
    (hl : ∀ c F' os' us ys, O c F' os' us ys → us.length = ys.length)
    (hG : ∀ c F' H' os' acc ys, Same F F' → W F' H' ((D, .lst acc) :: os') → O c F' os' acc ys → G H')
    (hs : ∀ (b : β) (c : γ) (x : V) (F' H' H'' : Hp) (os' : List (Addr × HO)) (acc : List V) (ys : List δ) (N : V → Hp → Prop) (P' : δ × γ → Prop), Same F F' → W F' H' ((D, .lst acc) :: os') → O c F' os' acc ys → Y b H' x H'' →
      (∀ d c', P' (d, c') → ∀ y F'' H'' os'', W F'' H'' ((D, .lst acc) :: os'') → Same F' F'' → O c' F'' os'' (acc ++ [y]) (ys ++ [d]) → N y H'') → Post (f c b) P' X →
      g x (wipe σ vs) H'' fun σ2 H2 => wipe σ2 vs = wipe σ vs ∧ te σ2 H2 N)
    (hd : ∀ c us F' H' os' ys, Same F F' → W F' H' ((D, .lst us) :: os') → O c F' os' us ys → Post (k (ys, c)) P X → Qd H') : LcAsk J g tYes te vs σ H1 D Qd := by
  have e : ∀ (s : γ) (l : List β), filSt (fun c b => f c b >>= fun p => R.ok (some p.1, p.2)) s l = mapSt f s l := by
    intro s l
    induction l generalizing s with
    | nil => rfl
    | cons b l ih =>
      show ((f s b >>= fun p => R.ok (some p.1, p.2)) >>= fun p => filSt (fun c b => f c b >>= fun p => R.ok (some p.1, p.2)) p.2 l >>= fun q => match p.1 with
        | some y => (R.ok (y :: q.1, q.2) : R (List δ × γ))
        | none => R.ok q) = (f s b >>= fun p => mapSt f p.2 l >>= fun q => .ok (p.1 :: q.1, q.2))
      rw [bind_bind]
      refine congrArg (f s b >>= ·) ?_
      funext p
      show (filSt (fun c b => f c b >>= fun p => R.ok (some p.1, p.2)) p.2 l >>= fun q => (R.ok (p.1 :: q.1, q.2) : R (List δ × γ))) = _
      rw [ih]
  have hm' : Post (filStG (fun c b => f c b >>= fun p => R.ok (some p.1, p.2)) s0 items >>= k) P X := by
    unfold filStG
    simp only [e]
    exact hm
  refine lcG tw hm' O w o0 nD hl hG (fun b c x F' H' H'' os' acc ys N N0 P' s w' o y hN hN0 hp => ?_) hd
  exact hs b c x F' H' H'' os' acc ys N _ s w' o y (fun d c' p2 y F'' H'' os'' w2 s2 o2 => hN d c' p2 y F'' H'' os'' w2 s2 o2) (post_bind hp)
end
end Z
/-! Z6: constants of the module, things, dicts as written and asked -/
namespace Z
open PySem L2
open Rep (rep)
section
variable {X : Cx}
theorem pe_globI {x : Str} {n : Int} {pos : Pos} (hg : Gl X x) (h : ∃ t, X.mg x = some (.int n t)) (hd : (x == ("__debug__" : Str)) = false := by decide) : PE X (.Name x pos) (tC (.int n)) := by
  obtain ⟨t, e⟩ := h
  exact pe_glob hg e ⟨_, rfl⟩ hd
theorem call_intB : CallR X (.type "int") (fun xs H Q => ∃ k, xs = [.bl k] ∧ Q (.int (if k = true then 1 else 0)) H) := by
  intro pins s σ H xs us Q I r ⟨k, e, q⟩
  exact call_int1 pins s σ H xs us Q I r (.inr ⟨k, e, q⟩)
end
/-- a while's fuel, not to be reckoned with -/
@[irreducible] def fu (n : Nat) : Nat := n
theorem fu_eq (n : Nat) : fu n = n := by
  unfold fu
  rfl
/-- x in l -/
abbrev inB {α : Type} [DecidableEq α] (x : α) (l : List α) : Bool := decide (x ∈ l)
theorem inB_t {α : Type} [DecidableEq α] {x : α} {l : List α} : inB x l = true ↔ x ∈ l := decide_eq_true_iff
theorem inB_f {α : Type} [DecidableEq α] {x : α} {l : List α} : inB x l = false ↔ x ∉ l := decide_eq_false_iff_not
def b2i (b : Bool) : Int := if b = true then 1 else 0
/-! ### things -/
def Thing.isPl : Thing → Bool
  | .pl _ => true
  | .ti _ _ => false
def asPl : Thing → R Int
  | .pl i => .ok i
  | .ti _ _ => .bad
def asTi : Thing → R (Int × Int)
  | .pl _ => .bad
  | .ti a b => .ok (a, b)
def mkpl (xs : List Int) : List Thing := xs.map Thing.pl
def mkti (xs : List (Int × Int)) : List Thing := xs.map fun p => Thing.ti p.1 p.2
section
variable {δ : Type} {P : δ → Prop} {E : Exn → Prop} {K : Fg} {F H : Hp}
theorem pb_asPl {t : Thing} {f : Int → R δ} (h : Post (asPl t >>= f) P E) : ∃ i, t = .pl i ∧ Post (f i) P E := by
  cases t with
  | pl i => exact ⟨i, rfl, h⟩
  | ti a b => exact (show False from h).elim
theorem pb_asTi {t : Thing} {f : Int × Int → R δ} (h : Post (asTi t >>= f) P E) : ∃ q : Int × Int, t = .ti q.1 q.2 ∧ Post (f q) P E := by
  cases t with
  | pl i => exact (show False from h).elim
  | ti a b => exact ⟨(a, b), rfl, h⟩
theorem A2.pl : ∀ {vs : List V} {xs : List Int}, A2 (rep K F) vs xs → A2 (rep K F) vs (mkpl xs)
  | _, _, .nil => .nil
  | _, _, .cons h t => .cons h (A2.pl t)
theorem A2.ti : ∀ {vs : List V} {xs : List (Int × Int)}, A2 (rep K F) vs xs → A2 (rep K F) vs (mkti xs)
  | _, _, .nil => .nil
  | _, _, .cons h t => .cons h (A2.ti t)
theorem th_ty (s : Same F H) {v : V} {t : Thing} (r : rep K F v t) : ∃ a, TyOf K H v (.type a) ∧ (a = "int" ∧ t.isPl = true ∨ a = "tuple" ∧ t.isPl = false) := by
  cases t with
  | pl i =>
    have r' : v = V.int i := r
    subst r'
    exact ⟨_, .int i, .inl ⟨rfl, rfl⟩⟩
  | ti a b =>
    obtain ⟨c, u, w, rfl, q, _⟩ := (show rep K F v (a, b) from r)
    exact ⟨_, .tup (s _ _ q), .inr ⟨rfl, rfl⟩⟩
theorem th_tuple (s : Same F H) {v : V} {t : Thing} (r : rep K F v t) : ∃ a, TyOf K H v (.type a) ∧ kitB a "tuple" = some (!t.isPl) := by
  obtain ⟨a, h, z⟩ := th_ty s r
  rcases z with ⟨rfl, e⟩ | ⟨rfl, e⟩
  · exact ⟨_, h, by rw [e]; decide +kernel⟩
  · exact ⟨_, h, by rw [e]; decide +kernel⟩
end
/-! ### dicts of scalars: as written, asked -/
section
variable {β δ : Type} {ev : β → V} {H : Hp} {a b : Addr} {P : δ → Prop} {E : Exn → Prop}
theorem pb_mget {κ : Type} [DecidableEq κ] {m : List (κ × β)} {k : κ} {f : β → R δ} (h : Post (mgetR m k >>= f) P E) : ∃ t, mget m k = some t ∧ Post (f t) P E := pb_ofO h
theorem isD_k {kvs : List (Key × V)} (e : H a = some (.dK kvs)) : IsD H a := .inl ⟨kvs, .inl e⟩
end
/-! ### tuples cut and joined -/
end Z
/-! Z7: dicts of tuple keys whose values are lists of a store; their values walked -/
namespace L2
open PySem PySem.Spec PyProof.Rows
end L2
namespace Z
open PySem L2
open Rep (rep)
/-! ### dicts by what their values stand for -/
section
variable {κ β γ : Type} [DecidableEq κ] [DecidableEq γ] {e : κ → γ} {r r' : V → β → Prop}
inductive AD (e : κ → γ) (r : V → β → Prop) : List (γ × V) → List (κ × β) → Prop
  | nil : AD e r [] []
  | cons {k : κ} {v : V} {x : β} {kvs : List (γ × V)} {m : List (κ × β)} : r v x → AD e r kvs m → AD e r ((e k, v) :: kvs) ((k, x) :: m)
theorem AD.length : ∀ {kvs : List (γ × V)} {m : List (κ × β)}, AD e r kvs m → kvs.length = m.length
  | _, _, .nil => rfl
  | _, _, .cons _ t => by rw [List.length_cons, List.length_cons, AD.length t]
theorem AD.imp (f : ∀ v x, r v x → r' v x) : ∀ {kvs : List (γ × V)} {m : List (κ × β)}, AD e r kvs m → AD e r' kvs m
  | _, _, .nil => .nil
  | _, _, .cons h t => .cons (f _ _ h) (AD.imp f t)
theorem AD.no (he : ∀ a b, e a = e b → a = b) {k : κ} : ∀ {kvs : List (γ × V)} {m : List (κ × β)}, AD e r kvs m → (valV kvs (e k)).isSome = mhas m k
  | _, _, .nil => rfl
  | _, _, .cons (k := j) (v := v) (x := x) (kvs := kvs) (m := m) h t => by
    show _ = (decide (j = k) || mhas m k)
    by_cases q : j = k
    · rw [valV_pos (congrArg e q), decide_eq_true q]; rfl
    · rw [valV_neg (fun z => q (he _ _ z)), decide_eq_false q, AD.no he t]; rfl
theorem AD.get (he : ∀ a b, e a = e b → a = b) {k : κ} {y : β} : ∀ {kvs : List (γ × V)} {m : List (κ × β)}, AD e r kvs m → mget m k = some y → ∃ v, valV kvs (e k) = some v ∧ r v y
  | _, _, .nil, h => by cases h
  | _, _, .cons (k := j) (v := v) (x := x) (kvs := kvs) (m := m) h t, g => by
    unfold mget at g
    by_cases q : j = k
    · rw [List.find?_cons_of_pos (by simpa using q)] at g
      cases g
      exact ⟨v, valV_pos (congrArg e q), h⟩
    · rw [List.find?_cons_of_neg (by simpa using q)] at g
      obtain ⟨u, h1, h2⟩ := AD.get he (k := k) t g
      exact ⟨u, by rw [valV_neg (fun z => q (he _ _ z))]; exact h1, h2⟩
theorem AD.snoc {k : κ} {v : V} {x : β} (h : r v x) : ∀ {kvs : List (γ × V)} {m : List (κ × β)}, AD e r kvs m → AD e r (kvs ++ [(e k, v)]) (m ++ [(k, x)])
  | _, _, .nil => .cons h .nil
  | _, _, .cons a t => .cons a (AD.snoc h t)
theorem AD.upd (he : ∀ a b, e a = e b → a = b) {k : κ} {v : V} {x : β} (h : r v x) : ∀ {kvs : List (γ × V)} {m : List (κ × β)}, AD e r kvs m → AD e r (kvs.map fun p => if p.1 = e k then (p.1, v) else p) (m.map fun p => if p.1 = k then (p.1, x) else p)
  | _, _, .nil => .nil
  | _, _, .cons (k := j) (v := u) (x := y) (kvs := kvs) (m := m) a t => by
    rw [List.map_cons, List.map_cons]
    by_cases q : j = k
    · subst q
      rw [if_pos rfl, if_pos rfl]
      exact .cons h (AD.upd he h t)
    · rw [if_neg q, if_neg (fun z => q (he _ _ z))]
      exact .cons a (AD.upd he h t)
theorem AD.any (he : ∀ a b, e a = e b → a = b) {k : κ} : ∀ {kvs : List (γ × V)} {m : List (κ × β)}, AD e r kvs m → (kvs.any fun p => decide (p.1 = e k)) = m.any fun p => decide (p.1 = k)
  | _, _, .nil => rfl
  | _, _, .cons (k := j) (kvs := kvs) (m := m) a t => by
    rw [List.any_cons, List.any_cons, AD.any he t]
    congr 1
    by_cases q : j = k
    · rw [q]; simp
    · rw [decide_eq_false q, decide_eq_false (fun z => q (he _ _ z))]
theorem AD.put (he : ∀ a b, e a = e b → a = b) {k : κ} {v : V} {x : β} {kvs : List (γ × V)} {m : List (κ × β)} (t : AD e r kvs m) (h : r v x) : AD e r (putK kvs (e k) v) (mput m k x) := by
  unfold putK mput
  rw [t.any he]
  by_cases q : (m.any fun p => decide (p.1 = k)) = true
  · rw [if_pos q, if_pos q]
    exact t.upd he h
  · rw [if_neg q, if_neg q]
    exact t.snoc h
theorem AD.vals : ∀ {kvs : List (γ × V)} {m : List (κ × β)}, AD e r kvs m → ∀ {i : Nat} {k : γ} {v : V}, kvs[i]? = some (k, v) → ∃ x, (m.map (·.2))[i]? = some x ∧ r v x
  | _, _, .nil, i, k, v, h => by simp at h
  | _, _, .cons (k := j) (v := u) (x := x) a t, 0, k, v, h => by
    simp at h
    obtain ⟨_, rfl⟩ := h
    exact ⟨x, rfl, a⟩
  | _, _, .cons a t, i + 1, k, v, h => by
    obtain ⟨x, h1, h2⟩ := AD.vals t (i := i) (k := k) (v := v) (by simpa using h)
    exact ⟨x, by simpa using h1, h2⟩
end
end Z
/-! YK: sorted(xs, key=a def), the def known by its promise alone; its keys whole numbers -/
namespace L2
open PySem PySem.Spec PyProof.Rows PySem.W
section
variable {X : Cx} {pins : List (Addr × Obj)} {σ : St} {H : Hp} {s : Shared} {h' : Heap}
/-- where sorted's call of list.sort calls -/
def XK2 (X : Cx) : Cx := { X with A := X.A.in1.in1, xe := fun _ _ => False }
theorem Inv.to2 (I : Inv X pins σ H s) : Inv (XK2 X) pins σ H s :=
  ⟨⟨I.ok.mod, I.ok.kind, I.ok.glob, I.ok.blt, I.ok.above, I.ok.inj, I.ok.has, I.ok.cab, I.ok.hd, I.ok.frames, I.ok.stk, I.ok.exf, I.ok.bs, I.ok.bsz, I.ok.noex, I.ok.exfs, I.ok.funs, I.ok.frf⟩, I.os, I.bare, I.base, I.loc, I.cell, I.free, I.freeC, I.pin, I.hok, I.len⟩
theorem Inv.of2 (I : Inv (XK2 X) pins σ H s) : Inv X pins σ H s :=
  ⟨⟨I.ok.mod, I.ok.kind, I.ok.glob, I.ok.blt, I.ok.above, I.ok.inj, I.ok.has, I.ok.cab, I.ok.hd, I.ok.frames, I.ok.stk, I.ok.exf, I.ok.bs, I.ok.bsz, I.ok.noex, I.ok.exfs, I.ok.funs, I.ok.frf⟩, I.os, I.bare, I.base, I.loc, I.cell, I.free, I.freeC, I.pin, I.hok, I.len⟩
theorem Room.in2 {k : Nat} {A : Around} (r : Room (k + 1) A) : Room k A.in1.in1 :=
  ⟨r.hd, by have := r.dp; show A.depth + 3 * k + 5 < _; omega, by have := r.un; show A.units + 1 + 1 + 16 * k + 200 < _; omega⟩
/-- records of ours have turned, and one of them is tracked from here on -/
theorem Inv.turnedTrack {t' : Nat} {ch : List Addr} {T : Addr} {ob : HO} (I : Inv X pins σ H s) (k : ∀ b o, b ∉ ch → s.heap.get? b = some o → h'.get? b = some o) (hf : ∀ b ∈ ch, FpOk X pins H b) (hT : T ∈ ch)
    (new : ObjOk X.prog X.w (upd H T ob) h' T ob) : Inv X pins σ (upd H T ob) { s with heap := h', toks := t' } := by
  have hn : H T = none := (hf T hT).1
  have nit : ∀ b u, H b = some u → b ∉ ch := fun b u e z => by
    have q := (hf b z).1
    rw [q] at e; cases e
  refine I.step (g' := s.gens) (d' := s.drawn) (ch := ch) (fun b hb => ⟨(hf b hb).2.2.2.1, (hf b hb).2.1, (hf b hb).2.2.2.2.1, (hf b hb).2.2.2.2.2⟩) (fun b o _ _ hc e _ => k b o hc e) (fun b o _ _ hc e _ => ⟨o.slots, k b o hc e⟩)
    (fun b o hc e n => ?_) (fun b o hc e => ⟨o, k b o hc e⟩) (fun b xs e => ?_) (fun b o u e => ?_) (fun b ps e => ⟨#[], ?_⟩) (fun m hm => ?_) (fun b u e => ?_) I.bare
  · rw [upd_ne (fun z => hc (by rw [z]; exact hT))]; exact n
  · rw [upd_ne (ne_of_none e hn)]; exact e
  · rw [upd_ne (ne_of_none e hn)]; exact e
  · rw [upd_ne (ne_of_none e hn), e]; simp
  · obtain ⟨o, es, ep, ho, r⟩ := hm
    exact ⟨o, es, ep, k _ o (fun z => (hf _ z).2.1 rfl) ho, r⟩
  · by_cases hb : b = T
    · subst hb
      rw [upd_same] at e
      cases e
      exact new
    · rw [upd_ne hb] at e
      refine (I.hok b u e).stay (fun c v hc q => k c v ?_ q) (fun c q => by rw [upd_ne (ne_of_none q hn)]; exact q) fun c xs q => by rw [upd_ne (ne_of_none q hn)]; exact q
      rcases hc with z | z
      · rw [z]; exact nit b u e
      · exact nit c _ z
end
/-! ### values and what they stand for -/
theorem each_vals {β : Type} {R : V → β → Prop} : ∀ {xs : List V} {its : List Value} {bs : List β}, Vals xs its → Z.A2 R xs bs → EachIs (fun u b => ∃ x, RelV x u ∧ R x b) its bs
  | _, _, _, .nil, .nil => .nil
  | _, _, _, .cons r t, .cons h t' => .cons ⟨_, r, h⟩ (each_vals t t')
theorem each_back {β : Type} {R : V → β → Prop} : ∀ {its : List Value} {bs : List β}, EachIs (fun u b => ∃ x, RelV x u ∧ R x b) its bs → ∃ ys, Vals ys its ∧ Z.A2 R ys bs
  | _, _, .nil => ⟨[], .nil, .nil⟩
  | _, _, .cons h t => by
    obtain ⟨x, r, q⟩ := h
    obtain ⟨ys, r', q'⟩ := each_back t
    exact ⟨x :: ys, .cons r r', .cons q q'⟩
theorem each_at {α β : Type} {R : α → β → Prop} : ∀ {as : List α} {bs : List β}, EachIs R as bs → ∀ (j : Nat) (a : α), as[j]? = some a → ∃ b, bs[j]? = some b ∧ R a b
  | _, _, .nil, j, a, h => by simp at h
  | _, _, .cons h t, 0, a, e => ⟨_, rfl, by simp at e; rw [← e]; exact h⟩
  | _, _, .cons h t, j + 1, a, e => by
    obtain ⟨b, e1, e2⟩ := each_at t j a (by simpa using e)
    exact ⟨b, by simpa using e1, e2⟩
theorem le_ints {β : Type} (key : β → Int) : dataLe false (fun b => PyData.int (key b)) = fun x y => decide (key x ≤ key y) := by
  funext x y
  show (!(dataLt (PyData.int (key y)) (PyData.int (key x)))) = _
  rw [dataLt_int]
  by_cases h : key y < key x
  · rw [decide_eq_true h, decide_eq_false (by omega)]
    rfl
  · rw [decide_eq_false h, decide_eq_true (by omega)]
    rfl
section
variable {X : Cx} {pins : List (Addr × Obj)} {σ : St} {H : Hp} {s : Shared}
theorem sorted_key_run {β : Type} {k : Nat} {f : Addr} {fd : FuncData} {p0 : Str} {sp : Sp} {R : V → β → Prop} {key : β → Int} {J : Hp → Prop} {a : Addr} {xs : List V} {bs : List β} {Q : VK} {E0 : XK}
    (F : FnOk X.prog X.w X.K X.mg X.base CX0 k f fd [p0] sp) (hr : Room (k + 1) X.A) (hb : Binds X.K fd [p0] []) (I : Inv X pins σ H s) (hs : SqL X.K H a xs) (e : Z.A2 R xs bs) (hJ : J H)
    (turn : ∀ x b, b ∈ bs → R x b → ∀ H', J H' → sp [x] H' (fun v H2 => v = .int (key b) ∧ J H2) E0)
    (q : ∀ p ys H', J H' → H' p = none → Z.A2 R ys (bs.mergeSort fun x y => decide (key x ≤ key y)) → Q (.ref p) (upd H' p (.lst ys))) :
    wpAny (model X.prog X.w) X.A (call (.builtin "sorted") [.ref a] [(Str.ofString "key", .ref f)]) (EP X pins σ Q) X.xe s := by
  obtain ⟨its, rv, hl, hz⟩ := I.list hs
  have hzi : its.length ≤ sizeLine := by rw [← rv.length]; exact hz
  have el : EachIs (fun u b => ∃ x, RelV x u ∧ R x b) its bs := each_vals rv e
  have hlen : its.length = bs.length := el.length
  refine sorted_of_sort hl.isList hzi (ksk_s1 _ _) (fun _ => ksk_l1 _ _) fun E' => ?_
  rw [ksk_t1]
  obtain ⟨h0, eh0⟩ : ∃ h0, h0 = copyHeap s.heap its := ⟨_, rfl⟩
  obtain ⟨a', ea'⟩ : ∃ a', a' = s.heap.objs.size + 1 := ⟨_, rfl⟩
  have ho : h0.get? a' = some (seqObj "list" its.toArray 0) := by rw [eh0, ea']; exact copyHeap_at s.heap its
  have hold : ∀ b o, s.heap.get? b = some o → h0.get? b = some o := fun b o q => by rw [eh0]; exact copyHeap_old q
  rw [← eh0, ← ea']
  obtain ⟨e1, ho1⟩ : ∃ e1, (h0.update a' (Obj.mapSeq fun _ => (#[] : Array Value))).get? a' = some (seqObj "list" #[] e1) := ⟨_, get?_update_seq ho fun _ => #[]⟩
  have hkS : ((h0.update a' (Obj.mapSeq fun _ => (#[] : Array Value))).push (seqObj "tuple" its.toArray 0)).objs.size = h0.objs.size + 1 := by rw [size_push', Heap.size_update]
  have ha0 : a' < h0.objs.size := Heap.lt_size ho
  have hs0 : s.heap.objs.size ≤ a' := by rw [ea']; exact Nat.le_succ _
  obtain ⟨kS, ekS⟩ : ∃ kS, kS = ((h0.update a' (Obj.mapSeq fun _ => (#[] : Array Value))).push (seqObj "tuple" its.toArray 0)).objs.size := ⟨_, rfl⟩
  have hka : kS ≠ a' := by rw [ekS, hkS]; exact Nat.ne_of_gt (Nat.lt_succ_of_lt ha0)
  have hsk : s.heap.objs.size ≤ kS := by rw [ekS, hkS]; omega
  unfold ksk_tree
  refine wpAny_bind (listItems_at ho rfl ?_)
  refine wpAny_bind (listUpdate_at ho rfl ?_ (by rw [List.size_toArray]; exact hzi) (Nat.zero_le _))
  refine wpAny_bind (seqEpoch_at ho1 rfl ?_)
  refine wpAny_bind (wpAny_newTuple ?_ (by show its.length ≤ _; exact hzi))
  refine wpAny_bind (wpAny_newList ?_ (Nat.zero_le _))
  refine wpAny_holding ?_
  have hold2 : ∀ b o, s.heap.get? b = some o → (((h0.update a' (Obj.mapSeq fun _ => (#[] : Array Value))).push (seqObj "tuple" its.toArray 0)).push (seqObj "list" #[] 0)).get? b = some o := fun b o q =>
    Heap.get?_push_of_some _ (Heap.get?_push_of_some _ ((Heap.get?_update_ne _ _ _ _ (Nat.ne_of_lt (Nat.lt_of_lt_of_le (Heap.lt_size q) hs0))).trans (hold b o q)))
  have I1 : Inv (XK2 X) pins σ H { s with heap := ((h0.update a' (Obj.mapSeq fun _ => (#[] : Array Value))).push (seqObj "tuple" its.toArray 0)).push (seqObj "list" #[] 0) } := (I.kept (t' := s.toks) hold2).to2
  have na : ∀ {H' : Hp}, H' a' = none → FpOk (XK2 X) pins H' a' := fun hn => I.to2.fpOk hs0 hn
  have nk : ∀ {H' : Hp}, H' kS = none → FpOk (XK2 X) pins H' kS := fun hn => I.to2.fpOk hsk hn
  have hHa : H a' = none := I.hok.fresh hs0
  have hHk : H kS = none := I.hok.fresh hsk
  have gk : (((h0.update a' (Obj.mapSeq fun _ => (#[] : Array Value))).push (seqObj "tuple" its.toArray 0)).push (seqObj "list" #[] 0)).get? kS = some (seqObj "list" #[] 0) := by rw [ekS]; exact Heap.get?_push_size _ rfl
  have ga : (((h0.update a' (Obj.mapSeq fun _ => (#[] : Array Value))).push (seqObj "tuple" its.toArray 0)).push (seqObj "list" #[] 0)).get? a' = some (seqObj "list" #[] e1) := Heap.get?_push_of_some _ (Heap.get?_push_of_some _ ho1)
  rw [← ekS]
  unfold ksk_rest
  refine wpAny_bind (wpAny_rule ?_)
  first
    | rw [List.forIn_toArray]
    | (rw [← Array.forIn_toList]; simp only [List.toList_toArray])
    | rw [← Array.forIn_toList]
  refine wpAny_bind (ksk_fold (fun i s' => ∃ H' kA ek, Inv (XK2 X) (pins ++ [(a', seqObj "list" #[] e1), (kS, seqObj "list" kA ek)]) σ H' s' ∧ J H' ∧ EachIs (fun (v : Value) (n : PyData) => ∃ m t, v = Value.int m t ∧ n = PyData.int m) kA.toList ((bs.map fun b => PyData.int (key b)).take i)) its 0 _
    ⟨H, #[], 0, I1.pins_of fun p hp => ?start, hJ, by rw [List.take_zero]; exact EachIs.nil⟩ ?step ?done)
  case start =>
    rcases List.mem_append.mp hp with hp | hp
    · exact I1.pin p (List.mem_append_right _ hp)
    · rcases List.mem_cons.mp hp with rfl | hp
      · exact ⟨ga, hHa, (na hHa).2.1, (na hHa).2.2.1, fun v h => by cases h⟩
      · rcases List.mem_cons.mp hp with rfl | hp
        · exact ⟨gk, hHk, (nk hHk).2.1, (nk hHk).2.2.1, fun v h => by cases h⟩
        · cases hp
  case step =>
    rintro j v s' hx ⟨H', kA, ek, I', j', hk⟩
    simp only [Nat.zero_add] at hk ⊢
    obtain ⟨b, ej, x, rx, rb⟩ := each_at el j v hx
    have hj : j < its.length := (List.getElem?_eq_some_iff.mp hx).1
    have hzk : kA.size ≤ its.length := by
      have h1 := hk.length
      rw [Array.length_toList, List.length_take, List.length_map] at h1
      omega
    have ht := turn x b (List.mem_of_getElem? ej) rb H' j'
    refine wpAny_bind (wpAny_attempt (wpAny_mono (run_fn (X := XK2 X) (dvs := []) (ds := []) (us := [v]) (vs := [x]) (E := E0) F hr.in2 hb .nil pass0 I' (.cons rx .nil) ht) (fun u s'' he => ?_) fun _ _ hF => hF.elim))
    obtain ⟨y, H2, I2, ry, ey, j2⟩ := he
    subst ey
    obtain ⟨t, rfl⟩ := ry
    try dsimp only
    have pk2 := I2.pin (kS, seqObj "list" kA ek) (List.mem_append_right _ (List.mem_append_right _ (.tail _ (.head _))))
    have pa2 := I2.pin (a', seqObj "list" #[] e1) (List.mem_append_right _ (List.mem_append_right _ (.head _)))
    obtain ⟨c2, hc2⟩ : ∃ c2, (s''.heap.update kS (Obj.mapSeq (·.push (Value.int (key b) t)))).get? kS = some (seqObj "list" (kA.push (Value.int (key b) t)) c2) := ⟨_, get?_update_seq pk2.1 (·.push _)⟩
    have ekk : (bs.map fun b => PyData.int (key b)).take (j + 1) = (bs.map fun b => PyData.int (key b)).take j ++ [PyData.int (key b)] := by
      rw [List.take_add_one, List.getElem?_map, ej]
      rfl
    have ea : (kA.push (Value.int (key b) t)).toList = kA.toList ++ [Value.int (key b) t] := by simp
    refine wpAny_bind (listUpdate_at pk2.1 rfl ?_ (Nat.le_trans hzk hzi) (Nat.le_trans (Nat.le_of_eq (Array.size_push ..)) (Nat.succ_le_succ (Nat.le_trans hzk hzi))))
    have I3 : Inv (XK2 X) (pins ++ [(a', seqObj "list" #[] e1)]) σ H2 s'' := I2.pins_of fun p hp => I2.pin p (List.mem_append_right _ (by
      rcases List.mem_append.mp hp with hp | hp
      · exact List.mem_append_left _ hp
      · rcases List.mem_cons.mp hp with rfl | hp
        · exact List.mem_append_right _ (.head _)
        · cases hp))
    obtain ⟨f0, f1, f2, f3, f4, f5⟩ := nk pk2.2.1
    have I4 := I3.turned (it := kS) (h' := s''.heap.update kS (Obj.mapSeq (·.push (Value.int (key b) t)))) (t' := s''.toks) (fun b o hb q => (Heap.get?_update_ne _ _ _ _ hb).trans q) f0 f1 f3 f4 (fun p hp => by
      rcases List.mem_append.mp hp with hp | hp
      · exact f5 p (List.mem_append_left _ hp)
      · rcases List.mem_append.mp hp with hp | hp
        · exact f5 p (List.mem_append_right _ hp)
        · rcases List.mem_cons.mp hp with rfl | hp
          · exact hka.symm
          · cases hp)
    refine wpAny_pure ⟨rfl, H2, kA.push (Value.int (key b) t), c2, I4.pins_of fun p hp => ?_, j2, ?_⟩
    · rcases List.mem_append.mp hp with hp | hp
      · exact I4.pin p (List.mem_append_right _ (List.mem_append_left _ hp))
      · rcases List.mem_cons.mp hp with rfl | hp
        · exact I4.pin _ (List.mem_append_right _ (List.mem_append_right _ (.head _)))
        · rcases List.mem_cons.mp hp with rfl | hp
          · exact ⟨hc2, f0, f1, f2, fun v h => by cases h⟩
          · cases hp
    · rw [ea, ekk]
      exact each_snoc ⟨key b, t, rfl, rfl⟩ hk
  case done =>
    rintro s' ⟨H', kA, ek, I', j', hk⟩
    have e3 : (bs.map fun b => PyData.int (key b)).take (0 + its.length) = bs.map fun b => PyData.int (key b) := List.take_of_length_le (by rw [List.length_map]; omega)
    rw [e3] at hk
    have hk' : EachIs (fun v d => ∃ as, Reads s'.heap v d as) kA.toList (bs.map fun b => PyData.int (key b)) := hk.mono fun v d ⟨m, t, e1, e2⟩ => by
      subst e1 e2
      exact ⟨[], .int m t⟩
    have hsz : kA.size = its.length := by
      have h1 := hk'.length
      rw [Array.length_toList, List.length_map] at h1
      omega
    have pk2 := I'.pin (kS, seqObj "list" kA ek) (List.mem_append_right _ (List.mem_append_right _ (.tail _ (.head _))))
    have pa2 := I'.pin (a', seqObj "list" #[] e1) (List.mem_append_right _ (List.mem_append_right _ (.head _)))
    have hal : AllAlike (bs.map fun b => PyData.int (key b)) := AllAlike.of fun _ _ => by simp only [alike]
    have hso : Sortable (bs.map fun b => PyData.int (key b)) := .inr fun d hd => by
      obtain ⟨b, _, rfl⟩ := List.mem_map.mp hd
      exact ⟨fun z => (by cases z), fun _ z => (by cases z)⟩
    have hu : ∀ d, d ∈ (bs.map fun b => PyData.int (key b)) → X.A.in1.in1.units + d.depth < cLine := fun d hd => by
      obtain ⟨b, _, rfl⟩ := List.mem_map.mp hd
      have := hr.un
      simp only [PyData.depth]
      show X.A.units + 1 + 1 + _ < _
      omega
    obtain ⟨G, g1, g2⟩ := restrict s'.heap fun b => decide (b ≠ kS)
    have gk : ∀ b o, G.get? b = some o → s'.heap.get? b = some o := fun b o q => by
      by_cases hb : b = kS
      · rw [hb, g2 kS (decide_eq_false fun z => z rfl)] at q
        cases q
      · rw [← g1 b (decide_eq_true hb)]
        exact q
    try dsimp only
    refine wpAny_bind (listItems_at pk2.1 rfl ?_)
    refine keyH_end (κ := dataKind s'.heap (bs.map fun b => PyData.int (key b))) (h₁ := G) (fun b o _ q => gk b o q) (g2 kS (decide_eq_false fun z => z rfl)) pk2.1 pa2.1 hka (SortsAt.data hk' hal hso hu) hsz hzi fun h3 tk3 c kb hn => ⟨rfl, ?_⟩
    have el2 := keyedOut_each (rev := false) (fun b => PyData.int (key b)) (⟨s'.heap, kA.toList, hal, rfl, hk'⟩ : KeyedOut false (bs.map fun b => PyData.int (key b)) its _) el
    rw [le_ints] at el2
    obtain ⟨ys, ry, ay⟩ := each_back el2
    have hyl : ys.length ≤ sizeLine := by
      rw [ry.length, el2.length, List.length_mergeSort, ← hlen]
      exact hzi
    have I5 : Inv X pins σ H' s' := I'.of2.unpinned
    refine ⟨.ref a', upd H' a' (.lst ys), I5.turnedTrack (ch := [a', kS]) (t' := tk3) (fun b o hb q => ?_) (fun b hb => ?_) (.head _) ⟨hyl, _, c, ry, hn⟩, rfl, q a' ys H' j' pa2.2.1 ay⟩
    · refine kb b o (fun z => hb (by simp [z])) ?_
      rw [g1 b (decide_eq_true fun z => hb (by simp [z]))]
      exact q
    · rcases List.mem_cons.mp hb with rfl | hb
      · exact na pa2.2.1
      · rcases List.mem_cons.mp hb with rfl | hb
        · exact nk pk2.2.1
        · cases hb
/-- sorted(xs, key=f) of a def f: what is wanted -/
def rSortedX (sp : Sp) (K : PySem.W.Frag) (vs : List V) (H : Hp) (Q : VK) : Prop := ∃ (β : Type) (R : V → β → Prop) (key : β → Int) (J : Hp → Prop) (a : Addr) (xs : List V) (bs : List β), vs = [V.ref a] ∧ SqL K H a xs ∧ Z.A2 R xs bs ∧ J H ∧
  (∀ x b, b ∈ bs → R x b → ∀ H', J H' → sp [x] H' (fun v H2 => v = .int (key b) ∧ J H2) (fun _ _ _ => False)) ∧
  ∀ p ys H', J H' → H' p = none → Z.A2 R ys (bs.mergeSort fun x y => decide (key x ≤ key y)) → Q (.ref p) (upd H' p (.lst ys))
def rSortedF (f : Addr) (sp : Sp) (K : PySem.W.Frag) : List V → List V → Hp → VK → Prop := fun vs zs H Q => zs = [V.ref f] ∧ rSortedX sp K vs H Q
theorem cr_sortedF {k : Nat} {f : Addr} {fd : FuncData} {p0 : Str} {sp : Sp} (F : FnOk X.prog X.w X.K X.mg X.base CX0 k f fd [p0] sp) (hr : Room (k + 1) X.A) (hb : Binds X.K fd [p0] []) :
    CallRK X (.builtin "sorted") [Str.ofString "key"] (rSortedF f sp X.K) := by
  intro pins s σ H vs zs us ws Q I r rz h
  obtain ⟨rfl, β, R, key, J, a, xs, bs, rfl, hs, e, hJ, turn, q⟩ := h
  obtain rfl := Vals.ref1 r
  obtain ⟨w1, rfl, e1⟩ := vals1 rz
  obtain rfl : w1 = Value.ref f := e1
  exact sorted_key_run F hr hb I hs e hJ turn q
theorem cr_sortedFK {K : PySem.W.Frag} (hK : X.K = K) {k : Nat} {f : Addr} {fd : FuncData} {p0 : Str} {sp : Sp} (F : FnOk X.prog X.w X.K X.mg X.base CX0 k f fd [p0] sp) (hr : Room (k + 1) X.A) (hb : Binds X.K fd [p0] []) :
    CallRK X (.builtin "sorted") [Str.ofString "key"] (rSortedF f sp K) := by
  subst hK
  exact cr_sortedF F hr hb
end
end L2
namespace Z
open PySem PySem.Spec PyProof.Rows L2
open Rep (rep)
section
variable {α β : Type}
def okI (r : R Int) : Int := match r with
  | .ok n => n
  | _ => 0
def isOk (r : R β) : Bool := match r with
  | .ok _ => true
  | _ => false
/-- sorted(xs, key=f) -/
def sortBy (f : α → R Int) (xs : List α) : List α := xs.mergeSort fun x y => decide (okI (f x) ≤ okI (f y))
def sortByR (f : α → R Int) (xs : List α) : R (List α) := if (xs.all fun x => isOk (f x)) = true then .ok (sortBy f xs) else .bad
theorem pb_sortBy {f : α → R Int} {xs : List α} {k : List α → R β} {Q : β → Prop} {E : Exn → Prop} (h : Post (sortByR f xs >>= k) Q E) : (∀ b ∈ xs, f b = .ok (okI (f b))) ∧ Post (k (sortBy f xs)) Q E := by
  unfold sortByR at h
  by_cases c : (xs.all fun x => isOk (f x)) = true
  · rw [if_pos c] at h
    refine ⟨fun b hb => ?_, h⟩
    have q := List.all_eq_true.mp c b hb
    cases e : f b with
    | ok n => rfl
    | exc z => rw [e] at q; cases q
    | bad => rw [e] at q; cases q
  · rw [if_neg c] at h
    exact (show False from h).elim
theorem sortByR_ok {f : α → R Int} {xs : List α} {g : α → Int} (h : ∀ b ∈ xs, f b = .ok (g b)) : sortByR f xs = .ok (xs.mergeSort fun x y => decide (okI (f x) ≤ okI (f y))) := by
  unfold sortByR
  rw [if_pos (List.all_eq_true.mpr fun b hb => by rw [h b hb]; rfl)]
  rfl
theorem key_ok {α : Type} [Rep α] {K : Fg} {sp : Sp} {F H : Hp} {os : List (Addr × HO)} {a : Addr} {us : List V} {xs : List α} {f : α → R Int} {Q : VK}
    (w : W F H os) (hs : SqL K H a us) (hA : A2 (rep K F) us xs) (hf : ∀ b ∈ xs, f b = .ok (okI (f b)))
    (hsp : ∀ (x : V) (b : α) (F' H' : Hp) (Q' : VK), W F' H' os → rep K F' x b → Post (f b) (Ret K F' os Q') noX → sp [x] H' Q' (fun _ _ _ => False))
    (q : ∀ p ys F' H', W F' H' os → Same F F' → H' p = none → A2 (rep K F') ys (sortBy f xs) → Q (.ref p) (upd H' p (.lst ys))) :
    rSortedX sp K [V.ref a] H Q := by
  refine ⟨α, rep K F, fun b => okI (f b), fun H' => ∃ F', W F' H' os ∧ Same F F', a, us, xs, rfl, hs, hA, ⟨F, w, Same.refl _⟩, ?_, ?_⟩
  · rintro x b hb r H' ⟨F', w', s'⟩
    refine hsp x b F' H' _ w' (Rep.mono s' r) ?_
    rw [hf b hb]
    show Ret K F' os _ _
    intro v F2 H2 w2 s2 r2
    exact ⟨r2, F2, w2, s'.trans s2⟩
  · rintro p ys H' ⟨F', w', s'⟩ n h
    exact q p ys F' H' w' s' n (A2.imp (fun _ _ r => Rep.mono s' r) h)
end
end Z
namespace Z
open PySem L2
open Rep (rep)
end Z
/-! ZB: dicts of whole numbers whose values are lists of a store; their values walked -/
namespace L2
open PySem PySem.Spec PyProof.Rows
end L2
namespace Z
open PySem L2
open Rep (rep)
def kK (n : Int) : Key := Sum.inl n
theorem kK_inj : ∀ a b, kK a = kK b → a = b := fun _ _ h => Sum.inl.inj h
section
variable {H : Hp} {a : Addr} {kvs : List (Key × V)} {n : Int} {β : Type} {r : V → β → Prop} {m : List (Int × β)}
theorem dgetI (e : H a = some (.dK kvs)) : DGet H a (.int n) (valV kvs (kK n)) := DGet.k (k := kK n) e
theorem dgetsI {v : V} (e : H a = some (.dK kvs)) (q : valV kvs (kK n) = some v) : DGet H a (.int n) (some v) := by
  have h := dgetI (n := n) e
  rw [q] at h
  exact h
end
end Z
/-! ZF: dicts of tuple keys: setdefault, what is walked of them (keys, pairs), values of any kind -/
namespace L2
open PySem PySem.Spec PyProof.Rows
theorem upd_id {H : Hp} {a : Addr} {o : HO} (h : H a = some o) : upd H a o = H := by
  funext b
  by_cases e : b = a
  · rw [e, upd_same, h]
  · rw [upd_ne e]
/-! ### the pairs of a locked dict -/
end L2
namespace Z
open PySem L2
open Rep (rep)
section
variable {κ β : Type} [DecidableEq κ]
def msetd (m : List (κ × β)) (k : κ) (v : β) : List (κ × β) := if mhas m k = true then m else mput m k v
def msetdR (m : List (κ × β)) (k : κ) (v : β) : R (List (κ × β)) := if m.length < 100000 then .ok (msetd m k v) else .bad
theorem pn_msetd {δ : Type} {m : List (κ × β)} {k : κ} {v : β} {f : List (κ × β) → R δ} {P : δ → Prop} {E : Exn → Prop} (h : Post (msetdR m k v >>= f) P E) : ∃ m', m.length < sizeLine ∧ m' = msetd m k v ∧ Post (f m') P E := by
  unfold msetdR at h
  by_cases hl : m.length < 100000
  · rw [if_pos hl] at h
    exact ⟨_, by rw [sizeLine_eq]; omega, rfl, h⟩
  · rw [if_neg hl] at h
    exact (show False from h).elim
theorem po_msetd {δ : Type} {m : List (κ × β)} {k : κ} {v : β} {f : List (κ × β) → R δ} {S : δ → Prop} {X : Exn → Prop} (h : m.length < 100000) (hk : Post (f (msetd m k v)) S X) : Post (msetdR m k v >>= f) S X := by
  unfold msetdR
  rw [if_pos h]
  exact hk
end
end Z
/-! YF: d.setdefault(k, x), the key a tuple, its answer kept -/
namespace L2
open PySem PySem.Spec PyProof.Rows
end L2
namespace Z
open PySem L2 PySem.Spec PyProof.Rows
open Rep (rep)
end Z
/-! ZE: tuples item by item (Nt), objects of an own class (Oj), trees of tuples (Tr) -/
namespace Z
open PySem L2 PySem.Spec PyProof.Rows
open Rep (rep)
class RepL (α : Type) where
  repTs : Fg → Hp → List V → α → Prop
  mono : ∀ {K : Fg} {H H' : Hp} {vs : List V} {x : α}, Same H H' → repTs K H vs x → repTs K H' vs x
open RepL (repTs)
instance repLU : RepL Unit := ⟨fun _ _ vs _ => vs = [], fun _ h => h⟩
instance repLP {α β : Type} [Rep α] [RepL β] : RepL (α × β) := ⟨fun K H vs x => ∃ v us, vs = v :: us ∧ rep K H v x.1 ∧ repTs K H us x.2, fun s ⟨v, us, e, h1, h2⟩ => ⟨v, us, e, Rep.mono s h1, RepL.mono s h2⟩⟩
/-- a tuple, item by item -/
structure Nt (α : Type) where
  v : α
  deriving DecidableEq
instance decNtL {α : Type} [DecidableEq α] : DecidableEq (List (Nt α)) := inferInstance
instance repNt {α : Type} [RepL α] : Rep (Nt α) := ⟨fun K H v x => ∃ a vs, v = .ref a ∧ H a = some (.tup vs) ∧ repTs K H vs x.v, fun s ⟨a, vs, e, q, h⟩ => ⟨a, vs, e, s _ _ q, RepL.mono s h⟩⟩
section
variable {α β γ δ : Type} [Rep α] [Rep β] [Rep γ] [Rep δ] {K : Fg} {H H' : Hp} {v u1 u2 u3 u4 : V} {a : Addr}
theorem nt3 {x : Nt (α × β × γ × Unit)} (h : rep K H v x) : ∃ a u1 u2 u3, v = .ref a ∧ H a = some (.tup [u1, u2, u3]) ∧ rep K H u1 x.v.1 ∧ rep K H u2 x.v.2.1 ∧ rep K H u3 x.v.2.2.1 := by
  obtain ⟨a, vs, e, q, u1, _, rfl, h1, u2, _, rfl, h2, u3, _, rfl, h3, rfl⟩ := h
  exact ⟨a, u1, u2, u3, e, q, h1, h2, h3⟩
theorem rep_nt3 {x1 : α} {x2 : β} {x3 : γ} (q : H a = some (.tup [u1, u2, u3])) (h1 : rep K H u1 x1) (h2 : rep K H u2 x2) (h3 : rep K H u3 x3) : rep K H (.ref a) (⟨(x1, x2, x3, ())⟩ : Nt (α × β × γ × Unit)) := ⟨a, _, rfl, q, u1, _, rfl, h1, u2, _, rfl, h2, u3, _, rfl, h3, rfl⟩
end
/-! ### as data -/
class DatL (α : Type) extends RepL α where
  toDs : α → List PyData
  dmaxL : Nat
  dpL : ∀ {K : Fg} {H : Hp} {vs : List V} {x : α}, repTs K H vs x → DpAll K H vs (toDs x)
  layL : ∀ x : α, PyData.canLayAll0 (toDs x) = true
  depL : ∀ x : α, PyData.depthAll (toDs x) ≤ dmaxL
  eqvL : ∀ x y : α, PyData.eqvAll (toDs x) (toDs y) = true ↔ x = y
instance datLU : DatL Unit where
  toDs := fun _ => []
  dmaxL := 0
  dpL := fun h => by
    have h' : _ = [] := h
    subst h'
    exact .nil
  layL := fun _ => by simp only [PyData.canLayAll0]
  depL := fun _ => by simp only [PyData.depthAll, Nat.le_refl]
  eqvL := fun _ _ => by simp [PyData.eqvAll]
instance datLP {α β : Type} [Dat α] [DatL β] : DatL (α × β) where
  toDs := fun x => Dat.toD x.1 :: DatL.toDs x.2
  dmaxL := max (Dat.dmax α) (DatL.dmaxL β)
  dpL := fun {K H vs x} h => by
    obtain ⟨v, us, rfl, h1, h2⟩ := h
    exact .cons (Dat.dp h1) (DatL.dpL h2)
  layL := fun x => by simp only [PyData.canLayAll0, Dat.lay, DatL.layL, Bool.and_true]
  depL := fun x => by
    have h1 := Dat.dep x.1
    have h2 := DatL.depL x.2
    simp only [PyData.depthAll]
    omega
  eqvL := fun x y => by
    obtain ⟨x1, x2⟩ := x
    obtain ⟨y1, y2⟩ := y
    simp only [PyData.eqvAll, Bool.and_eq_true, Dat.eqv, DatL.eqvL, Prod.mk.injEq]
instance datNt {α : Type} [DatL α] : Dat (Nt α) where
  toD := fun x => .tuple (DatL.toDs x.v)
  dmax := DatL.dmaxL α + 1
  dp := fun {K H v x} h => by
    obtain ⟨a, vs, rfl, q, h⟩ := h
    exact .tup (SqT.of q) (DatL.dpL h)
  lay := fun x => by
    simp only [PyData.canLay0]
    exact DatL.layL x.v
  dep := fun x => by
    have h := DatL.depL x.v
    simp only [PyData.depth]
    omega
  eqv := fun x y => by
    obtain ⟨x⟩ := x
    obtain ⟨y⟩ := y
    simp only [PyData.eqv, Nt.mk.injEq]
    exact DatL.eqvL x y
/-! ### objects of an own class -/
def mkfs (fs : List Str) (us : List V) : List (Str × V) := (fs.zip us).foldl (fun l p => putF p.1 p.2 l) []
structure Oj (nm : Str) (fs : List Str) (α : Type) where
  v : α
instance repOj {nm : Str} {fs : List Str} {α : Type} [RepL α] : Rep (Oj nm fs α) := ⟨fun K H v x => ∃ a C dx us, v = .ref a ∧ Nm K nm C ∧ H a = some (.ins C dx (mkfs fs us)) ∧ repTs K H us x.v, fun s ⟨a, C, dx, us, e, n, q, h⟩ => ⟨a, C, dx, us, e, n, s _ _ q, RepL.mono s h⟩⟩
/-! ### trees: (a thing, a thing, a tuple of trees) -/
inductive Tr where
  | n (a b : Thing) (ts : List Tr)
def Tr.a : Tr → Thing
  | .n a _ _ => a
def Tr.b : Tr → Thing
  | .n _ b _ => b
def Tr.ts : Tr → List Tr
  | .n _ _ ts => ts
mutual
def trRep (K : Fg) (H : Hp) : Tr → V → Prop
  | .n a b ts, v => ∃ p u w q vs, v = .ref p ∧ H p = some (.tup [u, w, .ref q]) ∧ rep K H u a ∧ rep K H w b ∧ H q = some (.tup vs) ∧ trsRep K H ts vs
def trsRep (K : Fg) (H : Hp) : List Tr → List V → Prop
  | [], vs => vs = []
  | t :: ts, vs => ∃ v us, vs = v :: us ∧ trRep K H t v ∧ trsRep K H ts us
end
mutual
theorem trRep_mono {K : Fg} {H H' : Hp} (s : Same H H') : ∀ (t : Tr) (v : V), trRep K H t v → trRep K H' t v
  | .n a b ts, v, h => by
    rw [trRep] at h ⊢
    obtain ⟨p, u, w, q, vs, e, h1, h2, h3, h4, h5⟩ := h
    exact ⟨p, u, w, q, vs, e, s _ _ h1, Rep.mono s h2, Rep.mono s h3, s _ _ h4, trsRep_mono s ts vs h5⟩
theorem trsRep_mono {K : Fg} {H H' : Hp} (s : Same H H') : ∀ (ts : List Tr) (vs : List V), trsRep K H ts vs → trsRep K H' ts vs
  | [], vs, h => by
    rw [trsRep] at h ⊢
    exact h
  | t :: ts, vs, h => by
    rw [trsRep] at h ⊢
    obtain ⟨v, us, e, h1, h2⟩ := h
    exact ⟨v, us, e, trRep_mono s t v h1, trsRep_mono s ts us h2⟩
end
instance repTr : Rep Tr := ⟨fun K H v t => trRep K H t v, fun {_ _ _ v t} s h => trRep_mono s t v h⟩
abbrev TrN := Nt (Thing × Thing × Tup Tr × Unit)
def Tr.nt (t : Tr) : TrN := ⟨(t.a, t.b, ⟨t.ts⟩, ())⟩
def Tr.of (x : TrN) : Tr := .n x.v.1 x.v.2.1 x.v.2.2.1.l
/-! ### a tuple and the empty one -/
theorem A2.emp {α : Type} {r : V → α → Prop} {vs : List V} {xs : List α} (h : A2 r vs xs) : vs.isEmpty = xs.isEmpty := by
  cases h <;> rfl
theorem op_eqE {X : Cx} {K : Fg} (hK : X.K = K) (hu : X.A.units + 64 < cLine) : OpR X (compareOp .Eq) (fun x y H Q => ∃ (a b : Addr) (vs : List V) (k : Bool), x = .ref a ∧ y = .ref b ∧ SqT K H a vs ∧ SqT K H b [] ∧ vs.isEmpty = k ∧ Q (.bl k) H) := by
  subst hK
  intro pins s σ H x y v u Q I rx ry ⟨a, b, vs, k, e1, e2, h1, h2, ek, q⟩
  subst e1 e2 ek
  cases rx
  cases ry
  obtain ⟨its, r1, p1, _⟩ := I.tuple h1
  obtain ⟨its2, r2, p2, _⟩ := I.tuple h2
  cases r2
  have l1 : its.length = vs.length := (Vals.length r1).symm
  refine PySem.SeqAt.eq_tupleAt (e := fun _ => false) p1 p2 (by omega) (fun j _ z => absurd z (by simp)) ⟨.bl _, H, I, rfl, ?_⟩
  have e : ((List.range (min its.toArray.size ([] : List Value).toArray.size)).all (fun _ => false) && its.toArray.size == ([] : List Value).toArray.size) = vs.isEmpty := by
    cases vs with
    | nil =>
      have : its = [] := List.length_eq_zero_iff.mp l1
      subst this
      rfl
    | cons v vs =>
      cases its with
      | nil => cases l1
      | cons i its => simp
  rw [e]
  exact q
/-! ### great powers and products -/
/-! ### min, max of a tuple of two ints -/
/-! ### a list grows by a tuple's items -/
end Z
/-! YO: sorted(d), d a dict whose keys are whole numbers -/
namespace L2
open PySem PySem.Spec PyProof.Rows Srt
def rSortedDK : List V → Hp → VK → Prop := fun vs H Q => ∃ (d : Addr) (kvs : List (L2.Key × V)) (ns : List Int), vs = [V.ref d] ∧ Rd H d (.dK kvs) ∧ kvs.map (·.1) = ns.map Sum.inl ∧
  ∀ (ns' : List Int) (p : Addr), ns'.Perm ns → ns'.Pairwise (· ≤ ·) → H p = none → Q (.ref p) (upd H p (.lst (ns'.map V.int)))
theorem items_ints {P : Program} {w : World} {kvs : List (L2.Key × V)} {vs : List (L2.Key × Value)} {ns : List Int} (kv : KV kvs vs) (e : kvs.map (·.1) = ns.map Sum.inl) {acc : Array Value}
    (h : ItemsOf (fun i v => ∃ k x, vs[i]? = some (k, x) ∧ (mixKind P w).is k v = true) acc vs.length) : IntsAre acc.toList ns := by
  have e2 : vs.map (·.1) = kvs.map (·.1) := by
    clear h e
    induction kv with
    | nil => rfl
    | cons a _ ih => rw [List.map_cons, List.map_cons, ih, a.1]
  have key : ∀ (ns : List Int) (l : List Value) (vs : List (L2.Key × Value)), l.length = vs.length → vs.map (·.1) = ns.map Sum.inl → (∀ (j : Nat) (v : Value), l[j]? = some v → ∃ k x, vs[j]? = some (k, x) ∧ (mixKind P w).is k v = true) → IntsAre l ns := by
    intro ns
    induction ns with
    | nil =>
      intro l vs h1 h2 _
      have : vs = [] := by
        cases vs with
        | nil => rfl
        | cons _ _ => cases h2
      subst this
      have : l = [] := List.length_eq_zero_iff.mp h1
      subst this
      exact .nil
    | cons n ns ih =>
      intro l vs h1 h2 h3
      cases vs with
      | nil => cases h2
      | cons y vs =>
        cases l with
        | nil => cases h1
        | cons v l =>
          rw [List.map_cons, List.map_cons] at h2
          injection h2 with a b
          obtain ⟨k, x, hk, his⟩ := h3 0 v rfl
          have hk : y = (k, x) := by simpa using hk
          subst hk
          have a : k = Sum.inl n := a
          subst a
          obtain ⟨t, rfl⟩ : ∃ t, v = Value.int n t := by
            rcases keyIs_shape (k := Sum.inl n) (v := v) his with ⟨i, t, e1, e2⟩ | ⟨x, t, e1, e2⟩
            · cases e1
              exact ⟨t, e2⟩
            · cases e1
          exact .cons n t (ih l vs (by simpa using h1) b fun j u hu => by
            obtain ⟨k, x, q1, q2⟩ := h3 (j + 1) u (by simpa using hu)
            exact ⟨k, x, by simpa using q1, q2⟩)
  refine key ns acc.toList vs (by rw [Array.length_toList]; exact h.1) (e2.trans e) fun j v hj => h.2 j v (by rw [← Array.getElem?_toList]; exact hj)
theorem cr_sortedDK {X : Cx} (hc : X.calm = true) : CallR X (.builtin "sorted") rSortedDK := by
  intro pins s σ H vs us Q I r h
  obtain ⟨d, kvs, ns, rfl, hd, e, q⟩ := h
  rw [Vals.ref1 r]
  obtain ⟨z, hds, ws, kv, dd⟩ := dk_rd I.hok hd
  obtain ⟨ep, da⟩ := dd.dictAt
  have hwl : ws.length ≤ sizeLine := by rw [← Paired.length kv]; exact z
  refine Calls.call_function_entry kind_sorted plain_sorted entry_sorted (args_sorted1 _) ?_
  unfold Builtin.«sorted»
  refine wpAny_bind (m := checkCount "sorted" 1 1 _) (wpAny_pure ?_)
  refine wpAny_bind (PySem.W.kdu_collect (PySem.W.kdl_dict (knd := mixKind X.prog X.w) (kvs := ws) (ep := ep) hds) (I.ok.hd hc) da hwl fun h' tk acc hk hacc => ?_)
  have hi := items_ints kv e hacc
  have hal : acc.toList.length ≤ sizeLine := by
    rw [Array.length_toList, hacc.1]
    exact hwl
  refine wpAny_bind (wpAny_newList ?_ hal)
  have hoL : (h'.push (seqObj "list" acc.toList.toArray 0)).get? h'.objs.size = some (seqObj "list" acc.toList.toArray 0) := Heap.get?_push_size _ rfl
  have I1 : Inv X pins σ H { s with heap := h', toks := tk } := I.kept (t' := tk) hk
  show wpAny _ _ _ _ _ { s with heap := h'.push (seqObj "list" acc.toList.toArray 0), toks := tk }
  refine wpAny_bind (wpAny_holding (wpAny_call_entry slot_list_sort ⟨_, hoL, rfl⟩ entry_list_sort (SrtO.list_sort_ord SrtO.swo_int hoL hal (fun h2 => SrtO.ints_sortable hi h2) fun out h1 h2 => ⟨_, rfl, ?_⟩) (args_list_sort _)))
  refine wpAny_pure ⟨_, rfl, ?_⟩
  obtain ⟨k1, k2, k3⟩ := SrtO.ints_out hi h1 h2
  obtain ⟨ep', he'⟩ := PyProof.Rows.sortedHeap_at (vs := acc.toList) (out := out.toArray) hoL
  have hlen : ((out.map SrtO.iv).map V.int).length ≤ sizeLine := by
    rw [List.length_map, k2.length_eq, ← hi.length]
    exact hal
  refine ⟨.ref _, upd H h'.objs.size (.lst ((out.map SrtO.iv).map V.int)), I1.laid (t' := tk) (fun b u hu => ?_) (Nat.le_refl _) ⟨hlen, out, ep', vals_of_ints k1, he'⟩, rfl, q _ _ k2 k3 (I1.hok.fresh (Nat.le_refl _))⟩
  have hb : b < h'.objs.size := Heap.lt_size hu
  have hu2 := Heap.get?_push_of_some (h := h') (seqObj "list" acc.toList.toArray 0) hu
  rw [PyProof.Rows.sortedHeap_old (Nat.ne_of_lt hb) (Heap.lt_size hu2)]
  exact hu2
end L2
namespace Z
open PySem L2
open Rep (rep)
theorem keysI_of {β : Type} {r : V → β → Prop} {kvs : List (L2.Key × V)} {m : List (Int × β)} (h : AD kK r kvs m) : kvs.map (·.1) = (m.map (·.1)).map Sum.inl := by
  induction h with
  | nil => rfl
  | cons _ _ ih => rw [List.map_cons, List.map_cons, List.map_cons, ih]; rfl
end Z
namespace L2
open PySem PySem.Spec PyProof.Rows
theorem valV_putKK {kvs : List (L2.Key × V)} {k : L2.Key} {v : V} : valV (putK kvs k v) k = some v := by
  unfold putK
  split
  · rename_i h
    unfold valV
    induction kvs with
    | nil => simp at h
    | cons p r ih =>
      by_cases e : p.1 = k
      · simp [e]
      · have h' : (r.any fun p => decide (p.1 = k)) = true := by
          simpa [e] using h
        have := ih h'
        simpa [e] using this
  · rename_i h
    unfold valV
    rw [List.find?_append]
    have : kvs.find? (fun kv => decide (kv.1 = k)) = none := by
      rw [List.find?_eq_none]
      intro x hx hk
      exact h (List.any_eq_true.mpr ⟨x, hx, hk⟩)
    rw [this]
    simp
def setdKK (kvs : List (L2.Key × V)) (k : L2.Key) (v : V) : List (L2.Key × V) := if (valV kvs k).isSome = true then kvs else putK kvs k v
def tDSetdVK (to tk tx : TE) : TE := fun σ H Q => to σ H fun o H1 => ∃ a, o = .ref a ∧ IsD H1 a ∧ tk σ H1 fun y H2 => tx σ H2 fun z H3 => ∃ (kvs : List (L2.Key × V)) (k : L2.Key) (u : V), H3 a = some (.dK kvs) ∧ y = kV k ∧ kvs.length < sizeLine ∧
  valV (setdKK kvs k z) k = some u ∧ Q u (upd H3 a (.dK (setdKK kvs k z)))
section
variable {X : Cx} {o e f : Expr} {td ty tx : TE} {apos cpos : Pos}
theorem pe_dsetdVK (ho : PE X o td) (he : PE X e ty) (hf : PE X f tx) (m : M2 X o "setdefault" apos e f cpos) : PE X (.Call (.Attribute o "setdefault" apos) [e, f] [] cpos) (tDSetdVK td ty tx) := by
  refine ⟨fun pins s σ H Q I h => ?_⟩
  refine wpAny_Call_method m.base m.few m.line PySem.F.plainAttrs_dict PySem.F.slot_dict_setdefault PySem.F.type_dict_setdefault (thn (ho.run pins s σ H _ I h) fun u s1 ⟨x, H1, I1, rx, a, ex, d, q1⟩ => ?_)
  subst ex
  obtain rfl : u = Value.ref a := rx
  obtain ⟨t1, t2, _⟩ := isD_at I1 d
  refine ⟨t1, t2, ?_⟩
  rw [m.trees]
  refine Calls.callWith_builtin rfl (Calls.evalArgs_plain (Calls.spliced_cons (thn (he.run pins s1 σ H1 _ I1 q1) fun iv s2 ⟨y, H2, I2, ry, q2⟩ =>
    Calls.spliced_cons (thn (hf.run pins s2 σ H2 _ I2 q2) fun fv s3 ⟨z, H3, I3, rz, kvs, k, w, ea, ey, hl, q3, q4⟩ => Calls.spliced_nil ?_))))
  subst ey
  refine d_setd I3 ea ry rz hl (fun v hv w' s4 I4 rw' => ⟨v, H3, I4, rw', ?_⟩) fun hn w' s4 I4 rw' => ⟨z, _, I4, rw', ?_⟩
  · unfold setdKK at q3 q4
    rw [hv, if_pos (show (some v).isSome = true from rfl)] at q3 q4
    rw [hv] at q3
    cases q3
    rw [upd_id ea] at q4
    exact q4
  · unfold setdKK at q3 q4
    rw [hn, if_neg (by simp)] at q3 q4
    rw [valV_putKK] at q3
    cases q3
    exact q4
end
end L2
namespace Z
open PySem L2
open Rep (rep)
theorem AD.setdK {β : Type} {r : V → β → Prop} {kvs : List (L2.Key × V)} {m : List (Int × β)} {k : Int} {v : V} {x : β} (h : AD kK r kvs m) (hv : r v x) : AD kK r (setdKK kvs (kK k) v) (msetd m k x) := by
  unfold setdKK msetd
  rw [h.no kK_inj]
  split
  · exact h
  · exact h.put kK_inj hv
end Z
/-! YN: plans of asks: ("is", a thing), ("ask", a place, a tuple of pairs of an answer and a plan) -/
namespace Z
open PySem PySem.Spec PyProof.Rows L2
open Rep (rep)
inductive Pl where
  | is (x : Thing)
  | ask (p : Int) (l : List (Int × Pl))
def Pl.w : Pl → Str
  | .is _ => "is"
  | .ask _ _ => "ask"
def Pl.len : Pl → Int
  | .is _ => 2
  | .ask _ _ => 3
/-- what stands at 1 -/
def Pl.one : Pl → Thing
  | .is x => x
  | .ask p _ => .pl p
mutual
def plRep (K : Fg) (H : Hp) : Pl → V → Prop
  | .is x, v => ∃ p u, v = .ref p ∧ H p = some (.tup [.str ("is" : Str), u]) ∧ rep K H u x
  | .ask i l, v => ∃ p q vs, v = .ref p ∧ H p = some (.tup [.str ("ask" : Str), .int i, .ref q]) ∧ H q = some (.tup vs) ∧ plsRep K H l vs
def plsRep (K : Fg) (H : Hp) : List (Int × Pl) → List V → Prop
  | [], vs => vs = []
  | t :: ts, vs => ∃ v us, vs = v :: us ∧ plpRep K H t v ∧ plsRep K H ts us
def plpRep (K : Fg) (H : Hp) : Int × Pl → V → Prop
  | (j, t), v => ∃ a w, v = .ref a ∧ H a = some (.tup [.int j, w]) ∧ plRep K H t w
end
mutual
theorem plRep_mono {K : Fg} {H H' : Hp} (s : Same H H') : ∀ (t : Pl) (v : V), plRep K H t v → plRep K H' t v
  | .is x, v, h => by
    rw [plRep] at h ⊢
    obtain ⟨p, u, e, h1, h2⟩ := h
    exact ⟨p, u, e, s _ _ h1, Rep.mono s h2⟩
  | .ask i l, v, h => by
    rw [plRep] at h ⊢
    obtain ⟨p, q, vs, e, h1, h2, h3⟩ := h
    exact ⟨p, q, vs, e, s _ _ h1, s _ _ h2, plsRep_mono s l vs h3⟩
theorem plsRep_mono {K : Fg} {H H' : Hp} (s : Same H H') : ∀ (ts : List (Int × Pl)) (vs : List V), plsRep K H ts vs → plsRep K H' ts vs
  | [], vs, h => by
    rw [plsRep] at h ⊢
    exact h
  | t :: ts, vs, h => by
    rw [plsRep] at h ⊢
    obtain ⟨v, us, e, h1, h2⟩ := h
    exact ⟨v, us, e, plpRep_mono s t v h1, plsRep_mono s ts us h2⟩
theorem plpRep_mono {K : Fg} {H H' : Hp} (s : Same H H') : ∀ (t : Int × Pl) (v : V), plpRep K H t v → plpRep K H' t v
  | (j, t), v, h => by
    rw [plpRep] at h ⊢
    obtain ⟨a, w, e, h1, h2⟩ := h
    exact ⟨a, w, e, s _ _ h1, plRep_mono s t w h2⟩
end
instance repPl : Rep Pl := ⟨fun K H v t => plRep K H t v, fun {_ _ _ v t} s h => plRep_mono s t v h⟩
theorem plp_rep {K : Fg} {H : Hp} (t : Int × Pl) (v : V) : plpRep K H t v ↔ rep K H v t := by
  obtain ⟨j, t⟩ := t
  rw [plpRep]
  constructor
  · rintro ⟨a, w, rfl, q, h⟩
    exact ⟨a, .int j, w, rfl, q, rfl, h⟩
  · rintro ⟨a, u, w, rfl, q, h1, h⟩
    have h1 : u = V.int j := h1
    subst h1
    exact ⟨a, w, rfl, q, h⟩
theorem pls_a2 {K : Fg} {H : Hp} : ∀ (ts : List (Int × Pl)) (vs : List V), plsRep K H ts vs ↔ A2 (rep K H) vs ts
  | [], vs => by
    rw [plsRep]
    exact ⟨fun e => by rw [e]; exact .nil, fun h => by cases h; rfl⟩
  | t :: ts, vs => by
    rw [plsRep]
    constructor
    · rintro ⟨v, us, rfl, h1, h2⟩
      exact .cons ((plp_rep t v).mp h1) ((pls_a2 ts us).mp h2)
    · intro h
      cases h with
      | cons h1 h2 => exact ⟨_, _, rfl, (plp_rep t _).mpr h1, (pls_a2 ts _).mpr h2⟩
section
variable {K : Fg} {F : Hp} {v u : V} {x : Thing} {i : Int} {l : List (Int × Pl)} {p q : Addr} {vs : List V} {t : Pl}
theorem rep_is (hp : F p = some (.tup [.str ("is" : Str), u])) (h : rep K F u x) : rep K F (.ref p) (Pl.is x) := by
  show plRep K F (Pl.is x) (.ref p)
  rw [plRep]
  exact ⟨p, u, rfl, hp, h⟩
theorem rep_ask (hp : F p = some (.tup [.str ("ask" : Str), .int i, .ref q])) (hq : F q = some (.tup vs)) (h : A2 (rep K F) vs l) : rep K F (.ref p) (Pl.ask i l) := by
  show plRep K F (Pl.ask i l) (.ref p)
  rw [plRep]
  exact ⟨p, q, vs, rfl, hp, hq, (pls_a2 l vs).mpr h⟩
theorem is_open (h : rep K F v (Pl.is x)) : ∃ p u, v = .ref p ∧ F p = some (.tup [.str ("is" : Str), u]) ∧ rep K F u x := by
  have h' : plRep K F (Pl.is x) v := h
  rw [plRep] at h'
  exact h'
theorem ask_open (h : rep K F v (Pl.ask i l)) : ∃ p q vs, v = .ref p ∧ F p = some (.tup [.str ("ask" : Str), .int i, .ref q]) ∧ F q = some (.tup vs) ∧ A2 (rep K F) vs l := by
  have h' : plRep K F (Pl.ask i l) v := h
  rw [plRep] at h'
  obtain ⟨p, q, vs, e, h1, h2, h3⟩ := h'
  exact ⟨p, q, vs, e, h1, h2, (pls_a2 l vs).mp h3⟩
end
def asIs : Pl → R Thing
  | .is x => .ok x
  | _ => .bad
def asAsk : Pl → R (Int × List (Int × Pl))
  | .ask p l => .ok (p, l)
  | _ => .bad
theorem pb_asIs {δ : Type} {t : Pl} {f : Thing → R δ} {P : δ → Prop} {E : Exn → Prop} (h : Post (asIs t >>= f) P E) : ∃ x, t = .is x ∧ Post (f x) P E := by
  cases t with
  | is x => exact ⟨x, rfl, h⟩
  | ask p l => exact (show False from h).elim
theorem pb_asAsk {δ : Type} {t : Pl} {f : Int × List (Int × Pl) → R δ} {P : δ → Prop} {E : Exn → Prop} (h : Post (asAsk t >>= f) P E) : ∃ p l, t = .ask p l ∧ Post (f (p, l)) P E := by
  cases t with
  | is x => exact (show False from h).elim
  | ask p l => exact ⟨p, l, rfl, h⟩
end Z
namespace Z
open PySem L2
theorem at_0 {α : Type} {x : α} {r : List α} : atI (x :: r) 0 = some x := by
  unfold atI ixN
  rw [if_pos (Int.le_refl 0), if_pos (by rw [List.length_cons]; omega)]
  rfl
theorem at_1 {α : Type} {x y : α} {r : List α} : atI (x :: y :: r) 1 = some y := by
  unfold atI ixN
  rw [if_pos (by decide), if_pos (by rw [List.length_cons, List.length_cons]; omega)]
  rfl
def Pl.lenN : Pl → Nat
  | .is _ => 2
  | .ask _ _ => 3
open Rep (rep) in
theorem pl_openN {K : Fg} {F : Hp} {v : V} {t : Pl} (h : rep K F v t) : ∃ p u r, v = .ref p ∧ F p = some (.tup (.str t.w :: u :: r)) ∧ rep K F u t.one ∧ (V.str t.w :: u :: r).length = t.lenN := by
  cases t with
  | is x =>
    obtain ⟨p, u, e, h1, h2⟩ := is_open h
    exact ⟨p, u, [], e, h1, h2, rfl⟩
  | ask i l =>
    obtain ⟨p, q, vs, e, h1, h2, h3⟩ := ask_open h
    exact ⟨p, .int i, [.ref q], e, h1, rfl, rfl⟩
end Z
namespace Z
open PySem PySem.Spec PyProof.Rows L2
open Rep (rep)
instance datOptThing : Dat (Option Thing) where
  toD := fun x => match x with
    | none => .none
    | some i => Dat.toD i
  dmax := 1
  dp := fun {K H v x} h => by
    cases x with
    | none =>
      have h' : v = V.non := h
      subst h'
      exact .non
    | some i => exact Dat.dp (show rep K H v i from h)
  lay := fun x => by
    cases x with
    | none => simp only [PyData.canLay0]
    | some i => exact Dat.lay i
  dep := fun x => by
    cases x with
    | none => simp only [PyData.depth]; omega
    | some i => exact Dat.dep i
  eqv := fun x y => by
    cases x with
    | none =>
      cases y with
      | none => simp [PyData.eqv]
      | some j => cases j <;> simp [PyData.eqv, Dat.toD]
    | some i =>
      cases y with
      | none => cases i <;> simp [PyData.eqv, Dat.toD]
      | some j =>
        have := Dat.eqv i j
        show PyData.eqv (Dat.toD i) (Dat.toD j) = true ↔ _
        rw [this, Option.some.injEq]
end Z
/-! YM: dicts whose keys are tuples of things (places and ties) -/
namespace Z
open PySem PySem.Spec PyProof.Rows L2
open Rep (rep)
/-- a thing, a tuple of things as a key -/
def thK : Thing → NestedKey
  | .pl i => .num i
  | .ti a b => .tup [.num a, .num b]
def tsK (t : Tup Thing) : NestedKey := .tup (t.l.map thK)
theorem thK_inj : ∀ {x y : Thing}, thK x = thK y → x = y
  | .pl i, .pl j, h => by
    injection h with h
    rw [h]
  | .pl i, .ti a b, h => by cases h
  | .ti a b, .pl i, h => by cases h
  | .ti a b, .ti c d, h => by
    injection h with h
    injection h with h1 h2
    injection h2 with h2 _
    injection h1 with h1
    injection h2 with h2
    rw [h1, h2]
theorem map_inj' {α β : Type} {f : α → β} (hf : ∀ x y, f x = f y → x = y) : ∀ {xs ys : List α}, xs.map f = ys.map f → xs = ys
  | [], [], _ => rfl
  | [], _ :: _, h => by cases h
  | _ :: _, [], h => by cases h
  | x :: xs, y :: ys, h => by
    rw [List.map_cons, List.map_cons] at h
    injection h with h1 h2
    rw [hf x y h1, map_inj' hf h2]
theorem tsK_inj {s t : Tup Thing} (h : tsK s = tsK t) : s = t := by
  unfold tsK at h
  injection h with h
  obtain ⟨s⟩ := s
  obtain ⟨t⟩ := t
  exact congrArg Tup.mk (map_inj' (fun _ _ => thK_inj) h)
theorem thK_depth : ∀ l : List Thing, NestedKey.depthAll (l.map thK) ≤ 1
  | [] => by simp [NestedKey.depthAll]
  | x :: l => by
    have := thK_depth l
    rw [List.map_cons, NestedKey.depthAll]
    cases x with
    | pl i => simp only [thK, NestedKey.depth]; omega
    | ti a b => simp only [thK, NestedKey.depth, NestedKey.depthAll]; omega
theorem tsK_depth (t : Tup Thing) : (tsK t).depth ≤ 8 := by
  unfold tsK
  rw [NestedKey.depth]
  have := thK_depth t.l
  omega
section
variable {X : Cx} {pins : List (Addr × Obj)} {σ : L2.St} {F H : Hp} {s : Shared} {K : Fg}
theorem thing_is (I : Inv X pins σ H s) (sF : Same F H) {v : V} {u : Value} {x : Thing} (r : rep K F v x) (q : RelV v u) : NestedIs s.heap (thK x) u := by
  cases x with
  | pl i =>
    have e : v = .int i := r
    subst e
    obtain ⟨t, rfl⟩ := q
    exact .int i t
  | ti a b =>
    obtain ⟨p, u1, u2, rfl, e, ra, rb⟩ := (show rep K F v (a, b) from r)
    have ra : u1 = V.int a := ra
    have rb : u2 = V.int b := rb
    subst ra rb
    obtain rfl : u = Value.ref p := q
    obtain ⟨_, its, rv, o, ho, hc, n, hd⟩ := I.hok _ _ (sF _ _ e)
    obtain ⟨u1, u2, rfl, r1, r2⟩ := vals2 rv
    obtain ⟨t1, rfl⟩ := r1
    obtain ⟨t2, rfl⟩ := r2
    exact .tup ho hc hd (.cons (.int _ _) (.cons (.int _ _) .nil))
theorem things_is (I : Inv X pins σ H s) (sF : Same F H) : ∀ {vs : List V} {us : List Value} {xs : List Thing}, A2 (rep K F) vs xs → Vals vs us → NestedAll s.heap (xs.map thK) us
  | _, _, _, .nil, .nil => .nil
  | _, _, _, .cons r t, .cons q t' => .cons (thing_is I sF r q) (things_is I sF t t')
theorem key_is (I : Inv X pins σ H s) (sF : Same F H) {b : Addr} {t : Tup Thing} (r : rep K F (.ref b) t) : (nestedKind X.prog X.w).is s.heap (tsK t) b := by
  obtain ⟨a, us, e, q, h⟩ := r
  cases e
  obtain ⟨_, its, rv, o, ho, hc, n, hd⟩ := I.hok _ _ (sF _ _ q)
  exact ⟨.tup ho hc hd (things_is I sF h rv), tsK_depth t⟩
end
theorem mgc {κ β : Type} [DecidableEq κ] {m : List (κ × β)} {k j : κ} {v : β} : mget ((j, v) :: m) k = if j = k then some v else mget m k := by
  unfold mget
  rw [List.find?_cons]
  by_cases e : j = k
  · rw [if_pos e, decide_eq_true e]
    rfl
  · rw [if_neg e, decide_eq_false e]
theorem mhm {κ β : Type} [DecidableEq κ] {k : κ} : ∀ {m : List (κ × β)}, mhas m k = (mget m k).isSome
  | [] => rfl
  | (j, v) :: m => by
    rw [mgc, show mhas ((j, v) :: m) k = (decide (j = k) || mhas m k) from rfl, mhm]
    by_cases e : j = k
    · rw [if_pos e, decide_eq_true e]
      rfl
    · rw [if_neg e, decide_eq_false e, Bool.false_or]
/-- the hash of a tuple of things: no world asked -/
def hash1 : NestedKey → Int
  | .num i => hashInt i
  | .tup [.num a, .num b] => reduceHash (Builtin.Tuple.tupleHashOf [hashInt a, hashInt b])
  | _ => 0
def hashN : NestedKey → Int
  | .tup ks => reduceHash (Builtin.Tuple.tupleHashOf (ks.map hash1))
  | _ => 0
theorem hash_is {w : World} (t : Tup Thing) : NestedKey.hash w (tsK t) = hashN (tsK t) := by
  unfold tsK hashN
  rw [NestedKey.hash]
  have e : ∀ l : List Thing, NestedKey.hashes w (l.map thK) = (l.map thK).map hash1 := fun l => by
    induction l with
    | nil => rfl
    | cons x l ih =>
      rw [List.map_cons, NestedKey.hashes, ih, List.map_cons]
      congr 1
      cases x with
      | pl i => simp only [thK, NestedKey.hash, hash1]
      | ti a b => simp only [thK, NestedKey.hash, NestedKey.hashes, hash1]
  rw [e]
/-! ### the dict -/
def entN (x : NestedKey × Addr × Value) : DictEntry := ⟨hashN x.1, .ref x.2.1, x.2.2⟩
abbrev Ent : Type := Addr × Tup Thing × V
abbrev PE3 (p : Ent) (q : NestedKey × Addr × Value) : Prop := q.1 = tsK p.2.1 ∧ q.2.1 = p.1 ∧ RelV p.2.2 q.2.2
def DnO (d : Addr) (ents : List Ent) : HO := .ext fun h => ents.length ≤ sizeLine ∧ (d == sysModules) = false ∧ ∃ (xs : List (NestedKey × Addr × Value)) (o : Obj) (es : Array DictEntry) (ep : Nat),
  Paired PE3 ents xs ∧ h.get? d = some o ∧ o.ExactDict ∧ o.data = .dict es ep ∧ es.toList = xs.map entN ∧ (xs.map (·.1)).Nodup
/-- to be read: one's own, or locked -/
def DnRd (H : Hp) (d : Addr) (ents : List Ent) : Prop := H d = some (DnO d ents) ∨ ∃ o, H d = some (.frz o (DnO d ents))
def getN (ents : List Ent) (t : Tup Thing) : Option V := (ents.find? fun e => decide (e.2.1 = t)).map (·.2.2)
def putN (ents : List Ent) (b : Addr) (t : Tup Thing) (v : V) : List Ent := if (getN ents t).isSome = true then ents.map fun e => if e.2.1 = t then (e.1, e.2.1, v) else e else ents ++ [(b, t, v)]
inductive ADN {β : Type} (K : Fg) (F : Hp) (r : V → β → Prop) : List Ent → List (Tup Thing × β) → Prop
  | nil : ADN K F r [] []
  | cons {b : Addr} {t : Tup Thing} {v : V} {x : β} {ents : List Ent} {m : List (Tup Thing × β)} : rep K F (.ref b) t → r v x → ADN K F r ents m → ADN K F r ((b, t, v) :: ents) ((t, x) :: m)
section
variable {β : Type} {K : Fg} {F F' : Hp} {r r' : V → β → Prop} {ents : List Ent} {m : List (Tup Thing × β)} {t : Tup Thing} {b : Addr} {v : V} {x : β}
theorem ADN.length : ∀ {ents : List Ent} {m : List (Tup Thing × β)}, ADN K F r ents m → ents.length = m.length
  | _, _, .nil => rfl
  | _, _, .cons _ _ h => by rw [List.length_cons, List.length_cons, h.length]
theorem ADN.imp (s : Same F F') (f : ∀ v x, r v x → r' v x) : ∀ {ents : List Ent} {m : List (Tup Thing × β)}, ADN K F r ents m → ADN K F' r' ents m
  | _, _, .nil => .nil
  | _, _, .cons h1 h2 h => .cons (Rep.mono s h1) (f _ _ h2) (h.imp s f)
theorem ADN.get : ∀ {ents : List Ent} {m : List (Tup Thing × β)}, ADN K F r ents m → ∀ t, (∀ x, mget m t = some x → ∃ v, getN ents t = some v ∧ r v x) ∧ (mget m t = none → getN ents t = none)
  | _, _, .nil, t => ⟨fun x h => (by cases h), fun _ => rfl⟩
  | _, _, .cons (b := b) (t := t0) (v := v0) (x := x0) (ents := ents) (m := m) h1 h2 h, t => by
    have ih := h.get t
    rw [mgc]
    unfold getN at ih ⊢
    rw [List.find?_cons]
    by_cases e : t0 = t
    · rw [if_pos e, decide_eq_true e]
      exact ⟨fun x hx => (by cases hx; exact ⟨v0, rfl, h2⟩), fun z => (by cases z)⟩
    · rw [if_neg e, decide_eq_false e]
      exact ih
theorem ADN.has (h : ADN K F r ents m) (t : Tup Thing) : (getN ents t).isSome = mhas m t := by
  rw [mhm]
  obtain ⟨h1, h2⟩ := h.get t
  cases e : mget m t with
  | none => rw [h2 e]; rfl
  | some x =>
    obtain ⟨v, hv, _⟩ := h1 x e
    rw [hv]
    rfl
theorem ADN.snoc : ∀ {ents : List Ent} {m : List (Tup Thing × β)}, ADN K F r ents m → rep K F (.ref b) t → r v x → ADN K F r (ents ++ [(b, t, v)]) (m ++ [(t, x)])
  | _, _, .nil, h1, h2 => .cons h1 h2 .nil
  | _, _, .cons a1 a2 h, h1, h2 => .cons a1 a2 (h.snoc h1 h2)
theorem ADN.over (h2 : r v x) : ∀ {ents : List Ent} {m : List (Tup Thing × β)}, ADN K F r ents m → ADN K F r (ents.map fun e => if e.2.1 = t then (e.1, e.2.1, v) else e) (m.map fun p => if p.1 = t then (p.1, x) else p)
  | _, _, .nil => .nil
  | _, _, .cons (t := t0) a1 a2 h => by
    rw [List.map_cons, List.map_cons]
    by_cases e : t0 = t
    · rw [if_pos e, if_pos e]
      exact .cons a1 h2 (h.over h2)
    · rw [if_neg e, if_neg e]
      exact .cons a1 a2 (h.over h2)
theorem ADN.put (h : ADN K F r ents m) (h1 : rep K F (.ref b) t) (h2 : r v x) : ADN K F r (putN ents b t v) (mput m t x) := by
  unfold putN
  rw [h.has]
  unfold mput mhas
  by_cases e : (m.any fun p => decide (p.1 = t)) = true
  · rw [if_pos e, if_pos e]
    exact h.over h2
  · rw [if_neg e, if_neg e]
    exact h.snoc h1 h2
theorem pair3_get : ∀ {ents : List Ent} {xs : List (NestedKey × Addr × Value)}, Paired PE3 ents xs → ∀ t, (∀ v, getN ents t = some v → ∃ p, atKey xs (tsK t) = some p ∧ RelV v p.2) ∧ (getN ents t = none → atKey xs (tsK t) = none)
  | _, _, .nil, t => ⟨fun v h => (by cases h), fun _ => rfl⟩
  | _, _, .cons (a := e0) (b := y0) a h, t => by
    obtain ⟨b0, t0, v0⟩ := e0
    obtain ⟨k0, c0, u0⟩ := y0
    obtain ⟨e1, e2, e3⟩ := a
    have e1 : k0 = tsK t0 := e1
    subst e1
    have ih := pair3_get h t
    unfold getN atKey at ih ⊢
    rw [List.find?_cons, List.find?_cons]
    by_cases e : t0 = t
    · subst e
      rw [decide_eq_true rfl, decide_eq_true rfl]
      exact ⟨fun v hv => (by cases hv; exact ⟨_, rfl, e3⟩), fun z => (by cases z)⟩
    · rw [decide_eq_false e, decide_eq_false (show ¬ tsK t0 = tsK t from fun z => e (tsK_inj z))]
      exact ih
end
end Z
namespace L2
open PySem PySem.Spec PyProof.Rows Z
open Rep (rep)
section
variable {X : Cx} {pins : List (Addr × Obj)} {σ : L2.St} {H : Hp} {s : Shared} {d : Addr} {ents : List Ent} {A : Around} {E : Value → Shared → Prop} {y v : V} {u r : Value} {o : Option V}
def KeysN (H : Hp) (ents : List Ent) : Prop := ∃ (K : Fg) (F : Hp), Same F H ∧ ∀ e ∈ ents, rep K F (.ref e.1) e.2.1
def KeyN (H : Hp) (b : Addr) (t : Tup Thing) : Prop := ∃ (K : Fg) (F : Hp), Same F H ∧ rep K F (.ref b) t
/-- d at y holds o -/
def DGetN (H : Hp) (d : Addr) (y : V) (o : Option V) : Prop := ∃ (ents : List Ent) (b : Addr) (t : Tup Thing), y = .ref b ∧ DnRd H d ents ∧ KeysN H ents ∧ KeyN H b t ∧ o = getN ents t
def IsDN (H : Hp) (d : Addr) : Prop := ∃ ents : List Ent, DnRd H d ents
def DPutN (H : Hp) (d : Addr) (y v : V) (H' : Hp) : Prop := ∃ (ents : List Ent) (b : Addr) (t : Tup Thing), y = .ref b ∧ H d = some (DnO d ents) ∧ KeysN H ents ∧ KeyN H b t ∧ ents.length < sizeLine ∧ H' = upd H d (DnO d (putN ents b t v))
theorem keyN_is {b : Addr} {t : Tup Thing} (I : Inv X pins σ H s) (k : KeyN H b t) : (nestedKind X.prog X.w).is s.heap (tsK t) b := let ⟨_, _, sF, r⟩ := k; key_is I sF r
/-- what is known of the object -/
theorem dn_raw (I : Inv X pins σ H s) (e : DnRd H d ents) : ents.length ≤ sizeLine ∧ (d == sysModules) = false ∧ ∃ (xs : List (NestedKey × Addr × Value)) (o : Obj) (es : Array DictEntry) (ep : Nat),
    Paired PE3 ents xs ∧ s.heap.get? d = some o ∧ o.ExactDict ∧ o.data = .dict es ep ∧ es.toList = xs.map entN ∧ (xs.map (·.1)).Nodup := by
  rcases e with e | ⟨o, e⟩
  · exact (I.hok _ _ e).1
  · exact (I.hok _ _ e).2.1
theorem paired_mem : ∀ {ents : List Ent} {xs : List (NestedKey × Addr × Value)}, Paired PE3 ents xs → ∀ y ∈ xs, ∃ e ∈ ents, PE3 e y
  | _, _, .nil, y, h => by cases h
  | _, _, .cons a t, y, h => by
    rcases List.mem_cons.mp h with rfl | h
    · exact ⟨_, List.mem_cons_self, a⟩
    · obtain ⟨e, he, q⟩ := paired_mem t y h
      exact ⟨e, List.mem_cons_of_mem _ he, q⟩
theorem ents_eq {P : Program} {w : World} : ∀ {ents : List Ent} {xs : List (NestedKey × Addr × Value)}, Paired PE3 ents xs → xs.map entN = xs.map (entryOfKey (nestedKind P w))
  | _, _, .nil => rfl
  | _, _, .cons (b := y) a t => by
    rw [List.map_cons, List.map_cons, ents_eq t]
    congr 1
    obtain ⟨k, b, u⟩ := y
    have e : k = tsK _ := a.1
    subst e
    show (⟨hashN _, .ref b, u⟩ : DictEntry) = ⟨NestedKey.hash w _, .ref b, u⟩
    rw [hash_is]
theorem dn_of (I : Inv X pins σ H s) (e : DnRd H d ents) (k : KeysN H ents) : ents.length ≤ sizeLine ∧ (d == sysModules) = false ∧ ∃ xs, Paired PE3 ents xs ∧ s.heap.DictOfH (nestedKind X.prog X.w) d xs := by
  obtain ⟨z, hd, xs, o, es, ep, rel, ho, hx, hdat, he, hn⟩ := dn_raw I e
  obtain ⟨K, F, sF, hk⟩ := k
  refine ⟨z, hd, xs, rel, o, es, ep, ho, hx, hdat, he.trans (ents_eq rel), fun y hy => ?_, hn⟩
  obtain ⟨en, hen, e1, e2, _⟩ := paired_mem rel y hy
  rw [e1, e2]
  exact key_is I sF (hk en hen)
theorem paired_put {b : Addr} {t : Tup Thing} (rv : RelV v r) : ∀ {ents : List Ent} {xs : List (NestedKey × Addr × Value)}, Paired PE3 ents xs → Paired PE3 (putN ents b t v) (storedH xs (tsK t) b r) := by
  intro ents xs rel
  have snoc : ∀ {ents : List Ent} {xs : List (NestedKey × Addr × Value)}, Paired PE3 ents xs → Paired PE3 (ents ++ [(b, t, v)]) (xs ++ [(tsK t, b, r)]) := by
    intro ents xs rel
    induction rel with
    | nil => exact .cons ⟨rfl, rfl, rv⟩ .nil
    | cons a _ ih => exact .cons a ih
  have over : ∀ {ents : List Ent} {xs : List (NestedKey × Addr × Value)}, Paired PE3 ents xs → Paired PE3 (ents.map fun e => if e.2.1 = t then (e.1, e.2.1, v) else e) (xs.map (putAt (tsK t) r)) := by
    intro ents xs rel
    induction rel with
    | nil => exact .nil
    | @cons e0 y0 _ _ a _ ih =>
      obtain ⟨b0, t0, v0⟩ := e0
      obtain ⟨k0, c0, u0⟩ := y0
      obtain ⟨e1, e2, e3⟩ := a
      have e1 : k0 = tsK t0 := e1
      subst e1
      rw [List.map_cons, List.map_cons]
      refine .cons ?_ ih
      unfold putAt
      by_cases q : t0 = t
      · subst q
        rw [if_pos rfl, if_pos rfl]
        exact ⟨rfl, e2, rv⟩
      · rw [if_neg q, if_neg (show ¬ tsK t0 = tsK t from fun z => q (tsK_inj z))]
        exact ⟨rfl, e2, e3⟩
  obtain ⟨h1, h2⟩ := pair3_get rel t
  unfold putN storedH
  cases e : getN ents t with
  | none =>
    rw [h2 e]
    exact snoc rel
  | some x =>
    obtain ⟨p, hp, _⟩ := h1 x e
    rw [hp]
    exact over rel
theorem putN_len {b : Addr} {t : Tup Thing} : (putN ents b t v).length ≤ ents.length + 1 := by
  unfold putN
  split
  · rw [List.length_map]; omega
  · rw [List.length_append]; exact Nat.le_refl _
theorem dn_new {d : Addr} {h' : Heap} {P : Program} {w : World} {H' : Hp} {ents : List Ent} {xs : List (NestedKey × Addr × Value)} (z : ents.length ≤ sizeLine) (hd : (d == sysModules) = false) (rel : Paired PE3 ents xs) (dd : h'.DictOfH (nestedKind P w) d xs) : ObjOk P w H' h' d (DnO d ents) := by
  obtain ⟨o, es, ep, ho, hx, hdat, he, _, hn⟩ := dd
  refine ⟨⟨z, hd, xs, o, es, ep, rel, ho, hx, hdat, he.trans (ents_eq rel).symm, hn⟩, ⟨o, ho⟩, fun h1 h2 q k => ?_⟩
  obtain ⟨z', hd', xs', o', es', ep', rel', ho', hx', hdat', he', hn'⟩ := q
  exact ⟨z', hd', xs', o', es', ep', rel', k _ ho', hx', hdat', he', hn'⟩
theorem dn_val (I : Inv X pins σ H s) (g : DGetN H d y o) (ry : RelV y u) : s.TypeIs (.ref d) "dict" ∧ (d == sysModules) = false ∧ ∃ (b : Addr) (k : NestedKey) (xs : List (NestedKey × Addr × Value)), u = .ref b ∧ (nestedKind X.prog X.w).is s.heap k b ∧ s.heap.DictOfH (nestedKind X.prog X.w) d xs ∧
    (∀ v, o = some v → ∃ p, atKey xs k = some p ∧ RelV v p.2) ∧ (o = none → atKey xs k = none) := by
  obtain ⟨ents, b, t, rfl, e, kk, kb, rfl⟩ := g
  obtain ⟨z, hd, xs, rel, dd⟩ := dn_of I e kk
  obtain ⟨h1, h2⟩ := pair3_get rel t
  exact ⟨dd.typeIs, hd, b, tsK t, xs, ry, keyN_is I kb, dd, h1, h2⟩
theorem roomN {A : Around} (hu : A.units + 64 < cLine) : (nestedKind X.prog X.w).room A.in1 := by
  show A.units + 1 + 8 < cLine
  omega
theorem dn_getItem {Q : Value → Shared → Prop} (hu : A.units + 64 < cLine) (I : Inv X pins σ H s) (g : DGetN H d y (some v)) (ry : RelV y u) (h : ∀ w' s', Inv X pins σ H s' → RelV v w' → Q w' s') :
    wpAny (model X.prog X.w) A (getItem (.ref d) u) Q E s := by
  obtain ⟨_, _, b, k, xs, rfl, hk, dd, h1, _⟩ := dn_val I g ry
  obtain ⟨p, hp, rp⟩ := h1 v rfl
  exact wpAny_getItem_heap (roomN hu) hk dd hp (h _ _ (I.tok _) rp)
theorem dn_in {Q : Value → Shared → Prop} (hu : A.units + 64 < cLine) (I : Inv X pins σ H s) (g : DGetN H d y o) (ry : RelV y u) (h : ∀ s', Inv X pins σ H s' → Q (.bool o.isSome) s') :
    wpAny (model X.prog X.w) A (compareOp .In u (.ref d)) Q E s := by
  obtain ⟨_, hd, b, k, xs, rfl, hk, dd, h1, h2⟩ := dn_val I g ry
  refine wpAny_in_heap (roomN hu) hk hd dd ?_
  have e : (atKey xs k).isSome = o.isSome := by
    cases o with
    | none => rw [h2 rfl]; rfl
    | some v =>
      obtain ⟨p, hp, _⟩ := h1 v rfl
      rw [hp]
      rfl
  rw [e]
  exact h _ (I.tok _)
theorem dn_notIn {Q : Value → Shared → Prop} (hu : A.units + 64 < cLine) (I : Inv X pins σ H s) (g : DGetN H d y o) (ry : RelV y u) (h : ∀ s', Inv X pins σ H s' → Q (.bool (!o.isSome)) s') :
    wpAny (model X.prog X.w) A (compareOp .NotIn u (.ref d)) Q E s := by
  obtain ⟨_, hd, b, k, xs, rfl, hk, dd, h1, h2⟩ := dn_val I g ry
  refine wpAny_notIn_heap (roomN hu) hk hd dd ?_
  have e : (atKey xs k).isSome = o.isSome := by
    cases o with
    | none => rw [h2 rfl]; rfl
    | some v =>
      obtain ⟨p, hp, _⟩ := h1 v rfl
      rw [hp]
      rfl
  rw [e]
  exact h _ (I.tok _)
theorem dn_get2 {dv : V} {rv : Value} {Q : Value → Shared → Prop} (hu : A.units + 64 < cLine) (I : Inv X pins σ H s) (g : DGetN H d y o) (ry : RelV y u) (rd : RelV dv rv) (h : ∀ w' s', Inv X pins σ H s' → RelV (o.getD dv) w' → Q w' s') :
    wpAny (model X.prog X.w) A (call (.builtin "dict.get") [.ref d, u, rv]) Q E s := by
  obtain ⟨_, hd, b, k, xs, rfl, hk, dd, h1, h2⟩ := dn_val I g ry
  refine call_meetsIn PySem.F.slot_dict_get dd.typeIs PySem.F.entry_dict_get (PySem.F.args_dict_get_3 _ _ _) (meetsH_dict_get_default (nestedKind X.prog X.w) d b hd rv) ⟨roomN hu, k, xs, hk, dd, h _ _ (I.tok _) ?_⟩
  cases o with
  | none => rw [h2 rfl]; exact rd
  | some v =>
    obtain ⟨p, hp, rp⟩ := h1 v rfl
    rw [hp]
    exact rp
theorem dn_setItem {H' : Hp} {Q : Unit → Shared → Prop} (hu : A.units + 64 < cLine) (I : Inv X pins σ H s) (g : DPutN H d y v H') (ry : RelV y u) (rv : RelV v r) (h : ∀ s', Inv X pins σ H' s' → Q () s') :
    wpAny (model X.prog X.w) A (setItem (.ref d) u r) Q E s := by
  obtain ⟨ents, b, t, rfl, e, kk, kb, hl, rfl⟩ := g
  obtain rfl : u = Value.ref b := ry
  obtain ⟨z, hd, xs, rel, dd⟩ := dn_of I (.inl e) kk
  have hz : xs.length ≤ sizeLine := by rw [← Paired.length rel]; exact z
  refine wpAny_setItem_heap (hsz := hz) (roomN hu) (keyN_is I kb) dd fun h' dd' hs => h _ ?_
  obtain ⟨q, es, ep, hq, _⟩ := id dd'
  exact d_write I (by rw [e]; exact True.intro) hs ⟨q, hq⟩ (dn_new (Nat.le_trans putN_len hl) hd (paired_put rv rel) dd')
end
/-! ### the rules -/
def tDGetN (td ty : TE) : TE := fun σ H Q => td σ H fun x H1 => ty σ H1 fun y H2 => ∃ a v, x = .ref a ∧ DGetN H2 a y (some v) ∧ Q v H2
def tDInM (ty td : TE) : TE := fun σ H Q => ty σ H fun y H1 => td σ H1 fun x H2 => ∃ a o k, x = .ref a ∧ DGetN H2 a y o ∧ o.isSome = k ∧ Q (.bl k) H2
def tDNotInM (ty td : TE) : TE := fun σ H Q => ty σ H fun y H1 => td σ H1 fun x H2 => ∃ a o k, x = .ref a ∧ DGetN H2 a y o ∧ o.isSome = k ∧ Q (.bl (!k)) H2
def sDPutN (td ty tv : TE) : TS := fun D σ H => tv σ H fun v H1 => td σ H1 fun x H2 => ty σ H2 fun y H3 => ∃ a H4, x = .ref a ∧ DPutN H3 a y v H4 ∧ D.nx σ H4
def tDGet2N (td ty tx : TE) : TE := fun σ H Q => td σ H fun x H1 => ∃ a, x = .ref a ∧ IsDN H1 a ∧ ty σ H1 fun y H2 => tx σ H2 fun z H3 => ∃ o r, DGetN H3 a y o ∧ o.getD z = r ∧ Q r H3
def tDNewN : TE := fun _ H Q => ∀ p, H p = none → Q (.ref p) (upd H p (DnO p []))
section
variable {X : Cx} {o i e f value : Expr} {pos pos' tpos apos cpos : Pos} {td ty tv tx : TE}
theorem pe_dnewN : PE X (.Dict [] [] pos) (tDNewN) := by
  refine ⟨fun pins s σ H Q I h => ?_⟩
  refine wpAny_Dict_empty ⟨.ref s.heap.objs.size, _, I.laid (a := s.heap.objs.size) (o := DnO s.heap.objs.size []) (t' := s.toks) (fun _ _ q => Heap.get?_push_of_some _ q) (Nat.le_refl _) ?_, rfl, h _ (I.hok.fresh (Nat.le_refl _))⟩
  exact dn_new (xs := []) (Nat.zero_le _) (beq_eq_false_iff_ne.mpr (Ne.symm (Nat.ne_of_lt I.big))) .nil ⟨_, #[], 0, Heap.get?_push_size _ rfl, ⟨rfl, rfl, rfl⟩, rfl, rfl, (fun _ z => nomatch z), List.nodup_nil⟩
theorem pe_dgetN (hu : X.A.units + 64 < cLine) (ho : PE X o td) (hi : PE X i ty) (hs : NoSl i) : PE X (.Subscript o i pos) (tDGetN td ty) := by
  refine ⟨fun pins s σ H Q I h => ?_⟩
  refine subD_of PySem.F.slot_dict_getitem.lookup hs (thn (ho.run pins s σ H _ I h) fun u s1 ⟨x, H1, I1, rx, q1⟩ => thn (hi.run pins s1 σ H1 _ I1 q1) fun iv s2 ⟨y, H2, I2, ry, a, v, ex, g, q2⟩ => ?_)
  subst ex
  obtain rfl : u = Value.ref a := rx
  exact ⟨(dn_val I2 g ry).1, dn_getItem hu I2 g ry fun w' s3 I3 rw' => ⟨v, H2, I3, rw', q2⟩⟩
theorem pc_dinM (hu : X.A.units + 64 < cLine) (hi : PE X i ty) (ho : PE X o td) : PC X .In i o (tDInM ty td) := by
  refine ⟨fun pins s σ H Q I h => ?_⟩
  refine thn (hi.run pins s σ H _ I h) fun iv s1 ⟨y, H1, I1, ry, q1⟩ => thn (ho.run pins s1 σ H1 _ I1 q1) fun u s2 ⟨x, H2, I2, rx, a, ov, kk, ex, g, ek, q2⟩ => ?_
  subst ex ek
  obtain rfl : u = Value.ref a := rx
  exact dn_in hu I2 g ry fun s3 I3 => ⟨.bl ov.isSome, H2, I3, rfl, q2⟩
theorem pc_dnotinM (hu : X.A.units + 64 < cLine) (hi : PE X i ty) (ho : PE X o td) : PC X .NotIn i o (tDNotInM ty td) := by
  refine ⟨fun pins s σ H Q I h => ?_⟩
  refine thn (hi.run pins s σ H _ I h) fun iv s1 ⟨y, H1, I1, ry, q1⟩ => thn (ho.run pins s1 σ H1 _ I1 q1) fun u s2 ⟨x, H2, I2, rx, a, ov, kk, ex, g, ek, q2⟩ => ?_
  subst ex ek
  obtain rfl : u = Value.ref a := rx
  exact dn_notIn hu I2 g ry fun s3 I3 => ⟨.bl (!ov.isSome), H2, I3, rfl, q2⟩
theorem ps_dputN (hu : X.A.units + 64 < cLine) (ho : PE X o td) (hi : PE X i ty) (hv : PE X value tv) (hs : swapsWith value (some (.Subscript o i pos')) pos.line X.env = pure false) :
    PS X (.Assign [.Subscript o i pos'] value pos) (sDPutN td ty tv) := by
  refine ⟨fun pins s σ H D I h => ?_⟩
  refine wpAny_Assign_Subscript (thn (hv.run pins s σ H _ I h) fun r s1 ⟨v, H1, I1, rv, q1⟩ => thn (ho.run pins s1 σ H1 _ I1 q1) fun u s2 ⟨x, H2, I2, rx, q2⟩ => thn (hi.run pins s2 σ H2 _ I2 q2) fun iv s3 ⟨y, H3, I3, ry, a, H4, ex, g, q3⟩ => ?_) hs
  subst ex
  obtain rfl : u = Value.ref a := rx
  exact dn_setItem hu I3 g ry rv fun s4 I4 => ⟨σ, H4, I4, q3⟩
theorem pe_dget2N (hu : X.A.units + 64 < cLine) (ho : PE X o td) (he : PE X e ty) (hf : PE X f tx) (m : M2 X o "get" apos e f cpos) : PE X (.Call (.Attribute o "get" apos) [e, f] [] cpos) (tDGet2N td ty tx) := by
  refine ⟨fun pins s σ H Q I h => ?_⟩
  refine wpAny_Call_method m.base m.few m.line PySem.F.plainAttrs_dict PySem.F.slot_dict_get PySem.F.type_dict_get (thn (ho.run pins s σ H _ I h) fun u s1 ⟨x, H1, I1, rx, a, ex, ⟨ents, d⟩, q1⟩ => ?_)
  subst ex
  obtain rfl : u = Value.ref a := rx
  obtain ⟨_, hd, xs, ob, es, ep, rel, ho', hx, hdat, _, _⟩ := dn_raw I1 d
  refine ⟨⟨ob, ho', hx.1⟩, fun b q => by cases q; exact ⟨ob, ho', hx.2.1⟩, ?_⟩
  rw [m.trees]
  refine Calls.callWith_builtin rfl (Calls.evalArgs_plain (Calls.spliced_cons (thn (he.run pins s1 σ H1 _ I1 q1) fun iv s2 ⟨y, H2, I2, ry, q2⟩ =>
    Calls.spliced_cons (thn (hf.run pins s2 σ H2 _ I2 q2) fun fv s3 ⟨z, H3, I3, rz, ov, r, g, er, q3⟩ => Calls.spliced_nil ?_))))
  subst er
  exact dn_get2 hu I3 g ry rz fun w' s4 I4 rw' => ⟨_, H3, I4, rw', q3⟩
end
end L2
namespace L2
open PySem PySem.Spec PyProof.Rows Z
open Rep (rep)
/-- the dict at d is locked ahead of the statement -/
def tLockN (t : TS) : TS := fun D σ H => ∃ (d : Addr) (ents : List Ent), H d = some (DnO d ents) ∧ ∀ od, t D σ (upd H d (.frz od (DnO d ents)))
theorem ps_lockN {X : Cx} {st : Stmt} {t : TS} (h : PS X st t) : PS X st (tLockN t) := ⟨fun pins s σ H D I ⟨d, ents, e, q⟩ => by
  obtain ⟨od, I1⟩ := I.lock e (by exact True.intro)
  exact h.run pins s σ _ D I1 (q od)⟩
section
variable {X : Cx} {pins : List (Addr × Obj)} {σ : L2.St} {H : Hp} {s : Shared} {d : Addr} {ents : List Ent} {o : Obj} {es : Array DictEntry} {ep : Nat} {P : Program} {w : World} {K : PySem.W.Frag} {tg e : Expr} {td : TE}
theorem Inv.frzN (I : Inv X pins σ H s) (h : H d = some (.frz o (DnO d ents))) :
    (d == sysModules) = false ∧ s.heap.get? d = some o ∧ o.ExactDict ∧ ∃ (es : Array DictEntry) (ep : Nat), o.data = .dict es ep ∧ es.size = ents.length ∧
      ∀ (i : Nat) (en : Ent), ents[i]? = some en → ∃ x : DictEntry, es[i]? = some x ∧ x.key = .ref en.1 ∧ RelV en.2.2 x.val := by
  obtain ⟨look, z, hd, xs, o2, es, ep, rel, look2, hx, hdat, he, hn⟩ := I.hok d _ h |>.imp id (fun q => q.1)
  obtain rfl : o2 = o := by
    rw [look] at look2
    exact (Option.some.inj look2).symm
  refine ⟨hd, look, hx, es, ep, hdat, ?_, fun i en hi => ?_⟩
  · have h1 : es.toList.length = (xs.map entN).length := congrArg List.length he
    rw [Array.length_toList, List.length_map] at h1
    have := Paired.length rel
    omega
  · obtain ⟨row, hrow, e1, e2, e3⟩ := paired_get rel hi
    have q : es[i]? = (xs[i]?).map entN := by rw [← Array.getElem?_toList, he, List.getElem?_map]
    rw [hrow] at q
    refine ⟨_, q, ?_, e3⟩
    show Value.ref row.2.1 = Value.ref en.1
    rw [e2]
def ItN (d : Addr) (o : Obj) (ents : List Ent) : It :=
  ⟨fun i H => H d = some (.frz o (DnO d ents)) ∧ i < ents.length, fun i H x H' => H' = H ∧ ∃ en : Ent, ents[i]? = some en ∧ x = .ref en.1, fun i H => H d = some (.frz o (DnO d ents)) ∧ ents.length ≤ i⟩
theorem turn_keysN (it : Addr) (hod : o.data = .dict es ep) : Turn P w K tg (ItN d o ents) [it] it (fun i h => h.IsKeyIter it d i ents.length ep) where
  mem := by simp
  obj := fun i h st b hb => by
    have e : b = it := by simpa using hb
    subst e
    obtain ⟨oi, e, c, dd⟩ := st
    exact ⟨oi, e, fun v z => by rw [dd] at z; cases z⟩
  keep := fun i h h' st k => st.at fun oi e => k it (by simp) oi e
  item := by
    intro X hP hw hK hc i pins s σ H E I hf st hg
    subst hP hw hK
    obtain ⟨hd, hi⟩ := hg
    obtain ⟨f0, f1, f2, f3, f4, f5⟩ := hf it (by simp)
    obtain ⟨hs, hgd, hx, es', ep', hdt, hsz, ent⟩ := I.frzN hd
    obtain ⟨rfl, rfl⟩ := dict_ep hod hdt
    obtain ⟨en, hen⟩ : ∃ p, ents[i]? = some p := ⟨ents[i], List.getElem?_eq_getElem hi⟩
    obtain ⟨x, hx1, hkey, _⟩ := ent i en hen
    refine next_key_item st hgd hdt hsz hx1 fun h' st' sb => ?_
    have I1 : Inv X pins σ H { s with heap := h' } := I.turned (t' := s.toks) (fun b ob hb e => (sb.2 b hb).trans e) f0 f1 f3 f4 f5
    obtain ⟨oi, e, c, dd⟩ := id st'
    exact ⟨x.key, rfl, go_of (s := { s with heap := h' }) e c dd (by decide) ⟨.ref en.1, H, I1, hkey, ⟨rfl, en, hen, rfl⟩, st', fun b hb => (hf b hb).1⟩⟩
  done := by
    intro X hP hw hK hc i pins s σ H E I hf st hg
    subst hP hw hK
    obtain ⟨hd, hi⟩ := hg
    obtain ⟨f0, f1, f2, f3, f4, f5⟩ := hf it (by simp)
    obtain ⟨hs, hgd, hx, es', ep', hdt, hsz, ent⟩ := I.frzN hd
    obtain ⟨rfl, rfl⟩ := dict_ep hod hdt
    exact next_key_end (I.ok.hd hc) st hgd hdt hsz hi fun h' eb => ⟨rfl, I.turned (t' := s.toks) (fun b ob hb e => eb b ob hb e) f0 f1 f3 f4 f5⟩
  self := fun A i s Q E st h => by
    refine wpAny_pyIter_slot st.typeIs F.slot_dict_keyiterator_iter (wpAny_call_entry F.slot_dict_keyiterator_iter st.typeIs F.entry_dict_keyiterator_iter ?_ (F.args_dict_keyiterator_iter_1 _))
    show wpAny _ _ (ret (.ref it)) _ _ s
    exact wpAny_pure ⟨_, rfl, "dict_keyiterator", _, st.typeIs, F.slot_dict_keyiterator_next.lookup, h⟩
def iKeysN (td : TE) : TI := fun σ H R => td σ H fun x H1 => ∃ (d : Addr) (o : Obj) (ents : List Ent), x = .ref d ∧ H1 d = some (.frz o (DnO d ents)) ∧ R (ItN d o ents) H1
theorem pi_keysN (he : PE X e td) : PI X tg e (iKeysN td) := by
  refine ⟨fun pins s σ H R I h => ?_⟩
  refine thn (he.run pins s σ H _ I h) fun u s1 ⟨x, H1, I1, rx, d, o, ents, ex, hd, q⟩ => ?_
  subst ex
  obtain rfl : u = Value.ref d := rx
  obtain ⟨hs, hgd, hx, es, ep, hdt, hsz, ent⟩ := I1.frzN hd
  refine iter_keys hs hgd hx hdt (pi_one (tk := s1.toks) I1 _ (turn_keysN _ hdt) ⟨_, Heap.get?_push_size _ rfl, rfl, ?_⟩ q)
  rw [hsz] <;> rfl
end
end L2
namespace Z
open PySem L2
open Rep (rep)
section
variable {K : Fg} {F : Hp} {d : Addr} {o : Obj} {β : Type} {r : V → β → Prop} {ents : List Ent} {m : List (Tup Thing × β)}
theorem ADN.at : ∀ {ents : List Ent} {m : List (Tup Thing × β)}, ADN K F r ents m → ∀ {i : Nat} {en : Ent}, ents[i]? = some en → ∃ p, m[i]? = some p ∧ rep K F (.ref en.1) p.1 ∧ en.2.1 = p.1 ∧ r en.2.2 p.2
  | _, _, .nil, i, en, h => by simp at h
  | _, _, .cons h1 h2 _, 0, en, h => by
    simp at h
    subst h
    exact ⟨_, rfl, h1, rfl, h2⟩
  | _, _, .cons _ _ t, i + 1, en, h => by
    obtain ⟨p, e1, e2⟩ := t.at (i := i) (by simpa using h)
    exact ⟨p, by simpa using e1, e2⟩
theorem ADN.keys : ∀ {ents : List Ent} {m : List (Tup Thing × β)}, ADN K F r ents m → ∀ e ∈ ents, rep K F (.ref e.1) e.2.1
  | _, _, .nil, e, h => by cases h
  | _, _, .cons h1 _ t, e, h => by
    rcases List.mem_cons.mp h with rfl | h
    · exact h1
    · exact t.keys e h
theorem ADN.kN {H : Hp} (h : ADN K F r ents m) (s : Same F H) : KeysN H ents := ⟨K, F, s, h.keys⟩
theorem tw_keysN (h : ADN K F r ents m) : TW (ItN d o ents) (m.map (·.1)) (fun H => H d = some (.frz o (DnO d ents))) (fun b H x H' => H' = H ∧ rep K F x b) := ⟨by
  rw [List.length_map, ← h.length]
  refine ⟨fun _ _ hi q => ⟨q, hi⟩, fun _ q => ⟨q, Nat.le_refl _⟩, fun i H x H' _ _ y => ?_⟩
  obtain ⟨e, en, hen, e1⟩ := y
  obtain ⟨p, h1, h2, h3, _⟩ := h.at hen
  subst e1
  exact ⟨p.1, by rw [List.getElem?_map, h1]; rfl, e, h2⟩⟩
/-- reading the dict at a key -/
theorem dgetN {H : Hp} {b : Addr} {t : Tup Thing} (at_ : DnRd H d ents) (s : Same F H) (h : ADN K F r ents m) (k : rep K F (.ref b) t) : DGetN H d (.ref b) (getN ents t) := ⟨ents, b, t, rfl, at_, h.kN s, ⟨K, F, s, k⟩, rfl⟩
theorem dgetsN {H : Hp} {b : Addr} {t : Tup Thing} {v : V} (at_ : DnRd H d ents) (s : Same F H) (h : ADN K F r ents m) (k : rep K F (.ref b) t) (q : getN ents t = some v) : DGetN H d (.ref b) (some v) := ⟨ents, b, t, rfl, at_, h.kN s, ⟨K, F, s, k⟩, q.symm⟩
theorem ADN.some {t : Tup Thing} {x : β} (h : ADN K F r ents m) (e : mget m t = some x) : ∃ u, getN ents t = some u ∧ r u x := (h.get t).1 x e
theorem ADN.getD {t : Tup Thing} {x : β} {v : V} (h : ADN K F r ents m) (hv : r v x) : ∃ u, (getN ents t).getD v = u ∧ r u ((mget m t).getD x) := by
  obtain ⟨h1, h2⟩ := h.get t
  cases e : mget m t with
  | none => rw [h2 e]; exact ⟨v, rfl, hv⟩
  | some y =>
    obtain ⟨u, hu, ru⟩ := h1 y e
    rw [hu]
    exact ⟨u, rfl, ru⟩
theorem dputN {H : Hp} {b : Addr} {t : Tup Thing} {v : V} (at_ : H d = some (DnO d ents)) (s : Same F H) (h : ADN K F r ents m) (k : rep K F (.ref b) t) (hl : m.length < sizeLine) : DPutN H d (.ref b) v (upd H d (DnO d (putN ents b t v))) := ⟨ents, b, t, rfl, at_, h.kN s, ⟨K, F, s, k⟩, by rw [h.length]; exact hl, rfl⟩
end
/-- a dict of such keys that stays -/
structure FzN (β : Type) where
  m : List (Tup Thing × β)
instance repFzN {β : Type} [Rep β] : Rep (FzN β) := ⟨fun K H v x => ∃ (a : Addr) (o : Obj) (ents : List Ent), v = .ref a ∧ H a = some (.frz o (DnO a ents)) ∧ ADN K H (rep K H) ents x.m, fun s ⟨a, o, ents, e, q, h⟩ => ⟨a, o, ents, e, s _ _ q, h.imp s fun _ _ r => Rep.mono s r⟩⟩
end Z
namespace L2
open PySem PySem.Spec PyProof.Rows Z
def rSetN : TSet := fun o i v H Q => ∃ (d : Addr) (H' : Hp), o = .ref d ∧ DPutN H d i v H' ∧ Q H'
theorem set_dn {X : Cx} (hu : X.A.units + 64 < cLine) : PSet X rSetN := by
  intro pins s σ H o i v ov iv u Q I ro ri rv h
  obtain ⟨d, H', rfl, g, q⟩ := h
  obtain rfl : ov = Value.ref d := ro
  exact dn_setItem hu I g ri rv fun s' I' => ⟨H', I', q⟩
end L2
/-! ZR: zip of two sequences, each a list or a tuple -/
namespace MZ
open PySem PySem.Spec PyProof.Rows L2
/-- a kind of sequence: what it is, its iterator, what next does -/
structure Sq where
  T : String
  src : Heap → Addr → Array Value → Prop
  it : Heap → Addr → Addr → Nat → Prop
  ob : Addr → Obj
  srcE : ∀ {h h' : Heap} {l b : Addr} {xs : Array Value}, src h l xs → Heap.ExtBut b h h' → l ≠ b → src h' l xs
  srcP : ∀ {h : Heap} {l : Addr} {xs : Array Value} (o : Obj), src h l xs → src (h.push o) l xs
  itE : ∀ {h h' : Heap} {i l b : Addr} {k : Nat}, it h i l k → Heap.ExtBut b h h' → i ≠ b → it h' i l k
  itA : ∀ {h h' : Heap} {i l : Addr} {k : Nat}, it h i l k → (∀ o, h.get? i = some o → h'.get? i = some o) → it h' i l k
  itO : ∀ {h : Heap} {i l : Addr} {k : Nat}, it h i l k → ∃ o vs, h.get? i = some o ∧ o.data = .fields vs
  freed : ∀ l : Addr, (ob l).isFreed = false
  new : ∀ {h : Heap} {i l : Addr}, h.get? i = some (ob l) → it h i l 0
  lt : ∀ {h : Heap} {l : Addr} {xs : Array Value}, src h l xs → l < h.objs.size
  iter : ∀ {prog : Program} {w : World} {A : Around} {E : Value → Shared → Prop} {s : Shared} {l : Addr} {xs : Array Value} {Q : Value → Shared → Prop}, src s.heap l xs →
    Q (.ref s.heap.objs.size) { s with heap := s.heap.push (ob l) } → wpAny (model prog w) A (pyIter (.ref l)) Q E s
  item : ∀ {prog : Program} {w : World} {A : Around} {E : Value → Shared → Prop} {s : Shared} {i l : Addr} {k : Nat} {xs : Array Value} {x : Value} {Q : Value → Shared → Prop}, it s.heap i l k → src s.heap l xs → xs[k]? = some x →
    (∀ h', it h' i l (k + 1) → Heap.SameBut i s.heap h' → Q x { s with heap := h' }) → wpAny (model prog w) A (Builtin.SmallTypes.nextOf (.ref i)) Q E s
  fin : ∀ {prog : Program} {w : World} {A : Around} {E : Value → Shared → Prop} {s : Shared} {i l : Addr} {k : Nat} {xs : Array Value} {Q : Value → Shared → Prop}, A.handled = none → it s.heap i l k → src s.heap l xs → xs[k]? = none →
    (∀ h' e, Heap.ExtBut i s.heap h' → (∃ o, h'.get? e = some o ∧ o.cls = .type "StopIteration") → E (.ref e) { s with heap := h' }) → wpAny (model prog w) A (Builtin.SmallTypes.nextOf (.ref i)) Q E s
/-- lists -/
def sqL : Sq where
  T := "list"
  src := fun h l xs => h.IsList l xs
  it := fun h i l k => h.IsListIter i l k
  ob := fun l => { cls := .type "list_iterator", data := .fields #[.ref l, .int 0 0] }
  srcE := fun x y z => x.extBut y z
  srcP := fun o x => Heap.IsList.push x o
  itE := fun x y z => x.extBut y z
  itA := fun x y => x.at y
  itO := fun ⟨o, a, _, b⟩ => ⟨o, _, a, b⟩
  freed := fun _ => rfl
  new := fun a => ⟨_, a, rfl, rfl⟩
  lt := fun ⟨_, a, _⟩ => Heap.lt_size a
  iter := fun a q => wpAny_pyIter_list a q
  item := fun a b c q => wpAny_nextOf_list_item a b c q
  fin := fun a b c d q => wpAny_nextOf_list_end a b c d q
/-- tuples -/
def sqT : Sq where
  T := "tuple"
  src := fun h l xs => h.IsTuple l xs
  it := fun h i l k => h.IsTupleIter i l k
  ob := fun l => { cls := .type "tuple_iterator", data := .fields #[.ref l, .int 0 0] }
  srcE := fun x y z => x.extBut y z
  srcP := fun o x => Heap.IsTuple.push x o
  itE := fun x y z => x.extBut y z
  itA := fun x y => x.at y
  itO := fun ⟨o, a, _, b⟩ => ⟨o, _, a, b⟩
  freed := fun _ => rfl
  new := fun a => ⟨_, a, rfl, rfl⟩
  lt := fun ⟨_, a, _⟩ => Heap.lt_size a
  iter := fun a q => wpAny_pyIter_tuple a q
  item := fun a b c q => RZ.nextOf_tuple_item a b c q
  fin := fun a b c d q => RZ.nextOf_tuple_end a b c d q
section
variable {prog : Program} {w : World} {A : Around} {E : Value → Shared → Prop} {s : Shared} {S1 S2 : Sq} {z TI TO i1 i2 l1 l2 : Addr} {k1 k2 : Nat} {xs ys : Array Value} {x y a b : Value}
/-- what stays but the zip's own four -/
def Kp (z TO i1 i2 : Addr) (h h' : Heap) : Prop := ∀ c o, c ≠ z → c ≠ TO → c ≠ i1 → c ≠ i2 → h.get? c = some o → h'.get? c = some o
theorem nxt_item {Q : Value → Shared → Prop} (D : ZipApart z TI TO i1 i2 l1 l2)
    (gz : IsZip s.heap z TI TO .none) (gI : IsPair s.heap TI (.ref i1) (.ref i2)) (gO : IsPair s.heap TO a b)
    (t1 : S1.it s.heap i1 l1 k1) (t2 : S2.it s.heap i2 l2 k2) (u1 : S1.src s.heap l1 xs) (u2 : S2.src s.heap l2 ys) (ex : xs[k1]? = some x) (ey : ys[k2]? = some y)
    (q : ∀ h', IsZip h' z TI TO (rawInt s.heap.objs.size) → IsPair h' TO x y → S1.it h' i1 l1 (k1 + 1) → S2.it h' i2 l2 (k2 + 1) → IsPair h' s.heap.objs.size x y → h'.objs.size = s.heap.objs.size + 1 →
      Kp z TO i1 i2 s.heap h' → Q (.ref s.heap.objs.size) { s with heap := h' }) :
    wpAny (model prog w) A (Builtin.«zip.__next__» ⟨[.ref z], []⟩) (fun f s' => ∃ v, f = .done (.ret v) ∧ Q v s') E s := by
  show wpAny _ _ (field (.ref z) 2 >>= fun t => _) _ _ _
  refine wpAny_bind (wpAny_field gz rfl (x := .bool false) rfl ?_)
  show wpAny _ _ (field (.ref z) 3 >>= fun t => _) _ _ _
  refine wpAny_bind (wpAny_field gz rfl (x := .ref TI) rfl (wpAny_bind (wpAny_seqItems gI rfl ?_)))
  show wpAny _ _ (Builtin.SmallTypes.ownedTupleIsFree (.ref z) >>= fun t => _) _ _ _
  refine wpAny_bind ?_
  unfold Builtin.SmallTypes.ownedTupleIsFree
  refine wpAny_bind (wpAny_field gz rfl (x := .none) rfl (wpAny_pure ?_)); simp only [if_true]
  refine wpAny_bind (wpAny_rule (wpAny_bind (wpAny_field gz rfl (x := .ref TO) rfl ?_)))
  refine wpAny_bind (wpAny_setField_rec gz (by simp) fun h1 gz1 e1 => ?_)
  replace gz1 : IsZip h1 z TI TO .ellipsis := gz1
  refine wpAny_bind ?_; simp only [List.zipIdx_cons, List.zipIdx_nil, List.forIn_cons, List.forIn_nil]
  refine wpAny_bind (wpAny_bind (wpAny_onRaise ?_)); show wpAny _ _ (Builtin.SmallTypes.nextOf (.ref i1) >>= fun t => _) _ _ _
  refine wpAny_bind (S1.item (S1.itE t1 e1.extBut D.i1z) (S1.srcE u1 e1.extBut D.l1z) ex fun h2 t12 e2 => wpAny_pure ?_)
  have gO2 : IsPair h2 TO a b := e2.extBut _ _ D.TOi1 (e1.extBut _ _ D.TOz gO)
  refine wpAny_bind (wpAny_seqItems gO2 rfl (wpAny_bind (wpAny_updateSeq_pair gO2 fun h3 gO3 e3 => ?_)))
  replace gO3 : IsPair h3 TO x b := gO3
  refine wpAny_bind (wpAny_letGo (wpAny_pure (wpAny_bind (wpAny_bind (wpAny_onRaise ?_)))))
  show wpAny _ _ (Builtin.SmallTypes.nextOf (.ref i2) >>= fun t => _) _ _ _
  refine wpAny_bind (S2.item (S2.itE (S2.itE (S2.itE t2 e1.extBut D.i2z) e2.extBut D.i12.symm) e3.extBut D.TOi2.symm)
    (S2.srcE (S2.srcE (S2.srcE u2 e1.extBut D.l2z) e2.extBut D.l2i1) e3.extBut D.l2TO) ey fun h4 t24 e4 => wpAny_pure ?_)
  have gO4 : IsPair h4 TO x b := e4.extBut _ _ D.TOi2 gO3
  refine wpAny_bind (wpAny_seqItems gO4 rfl (wpAny_bind (wpAny_updateSeq_pair gO4 fun h5 gO5 e5 => ?_)))
  replace gO5 : IsPair h5 TO x y := gO5
  refine wpAny_bind (wpAny_letGo (wpAny_pure (wpAny_pure (wpAny_bind (wpAny_seqItems gO5 rfl (wpAny_bind (wpAny_newTuple ?_)))))))
  have sz : h5.objs.size = s.heap.objs.size := by rw [e5.1, e4.1, e3.1, e2.1, e1.1]
  have gz5 : IsZip h5 z TI TO .ellipsis := e5.extBut _ _ D.TOz.symm (e4.extBut _ _ D.i2z.symm (e3.extBut _ _ D.TOz.symm (e2.extBut _ _ D.i1z.symm gz1)))
  have kp5 : Kp z TO i1 i2 s.heap h5 := fun c o c1 c2 c3 c4 e =>
    e5.extBut _ _ c2 (e4.extBut _ _ c4 (e3.extBut _ _ c2 (e2.extBut _ _ c3 (e1.extBut _ _ c1 e))))
  have t15 : S1.it h5 i1 l1 (k1 + 1) := S1.itE (S1.itE (S1.itE t12 e3.extBut D.TOi1.symm) e4.extBut D.i12) e5.extBut D.TOi1.symm
  have t25 : S2.it h5 i2 l2 (k2 + 1) := S2.itE t24 e5.extBut D.TOi2.symm
  have lz : z < h5.objs.size := Heap.lt_size gz5
  show wpAny _ _ (Builtin.SmallTypes.ownedTupleHandOut (.ref z) (.ref h5.objs.size) >>= fun t => _) _ _ _
  refine wpAny_bind ?_
  unfold Builtin.SmallTypes.ownedTupleHandOut
  have gz6 : IsZip (h5.push { cls := .type "tuple", data := .seq #[x, y] }) z TI TO .ellipsis := Heap.get?_push_of_some _ gz5
  refine wpAny_bind (wpAny_setField_rec gz6 (by simp) fun h7 gz7 e7 => ?_)
  replace gz7 : IsZip h7 z TI TO (rawInt h5.objs.size) := gz7
  refine wpAny_setField_rec gz7 (by simp) fun h8 gz8 e8 => ?_
  replace gz8 : IsZip h8 z TI TO (rawInt h5.objs.size) := gz8
  have up : ∀ c o, c ≠ z → h5.get? c = some o → h8.get? c = some o := fun c o c1 e => e8.extBut _ _ c1 (e7.extBut _ _ c1 (Heap.get?_push_of_some _ e))
  have gT : IsPair h8 h5.objs.size x y := e8.extBut _ _ (Nat.ne_of_gt lz) (e7.extBut _ _ (Nat.ne_of_gt lz) (Heap.get?_push_size _ rfl))
  have sz8 : h8.objs.size = h5.objs.size + 1 := by rw [e8.1, e7.1, Heap.size_push]
  rw [sz] at gz8 gT sz8
  refine wpAny_pure ⟨_, rfl, ?_⟩
  show Q (.ref h5.objs.size) _; rw [sz]
  exact q h8 gz8 (up _ _ D.TOz gO5) (S1.itA t15 fun o e => up _ o D.i1z e) (S2.itA t25 fun o e => up _ o D.i2z e) gT sz8 fun c o c1 c2 c3 c4 e => up c o c1 (kp5 c o c1 c2 c3 c4 e)
theorem nxt_end {Q : Fin → Shared → Prop} (hh : A.handled = none) (D : ZipApart z TI TO i1 i2 l1 l2)
    (gz : IsZip s.heap z TI TO .none) (gI : IsPair s.heap TI (.ref i1) (.ref i2)) (gO : IsPair s.heap TO a b)
    (t1 : S1.it s.heap i1 l1 k1) (t2 : S2.it s.heap i2 l2 k2) (u1 : S1.src s.heap l1 xs) (u2 : S2.src s.heap l2 ys) (over : xs[k1]? = none ∨ ys[k2]? = none)
    (q : ∀ h' e, Kp z TO i1 i2 s.heap h' → (∃ o, h'.get? e = some o ∧ o.cls = .type "StopIteration") → E (.ref e) { s with heap := h' }) :
    wpAny (model prog w) A (Builtin.«zip.__next__» ⟨[.ref z], []⟩) Q E s := by
  show wpAny _ _ (field (.ref z) 2 >>= fun t => _) _ _ _
  refine wpAny_bind (wpAny_field gz rfl (x := .bool false) rfl ?_)
  show wpAny _ _ (field (.ref z) 3 >>= fun t => _) _ _ _
  refine wpAny_bind (wpAny_field gz rfl (x := .ref TI) rfl (wpAny_bind (wpAny_seqItems gI rfl ?_)))
  show wpAny _ _ (Builtin.SmallTypes.ownedTupleIsFree (.ref z) >>= fun t => _) _ _ _
  refine wpAny_bind ?_
  unfold Builtin.SmallTypes.ownedTupleIsFree
  refine wpAny_bind (wpAny_field gz rfl (x := .none) rfl (wpAny_pure ?_)); simp only [if_true]
  refine wpAny_bind (wpAny_rule (wpAny_bind (wpAny_field gz rfl (x := .ref TO) rfl ?_)))
  refine wpAny_bind (wpAny_setField_rec gz (by simp) fun h1 gz1 e1 => ?_)
  replace gz1 : IsZip h1 z TI TO .ellipsis := gz1
  refine wpAny_bind ?_; simp only [List.zipIdx_cons, List.zipIdx_nil, List.forIn_cons, List.forIn_nil]
  refine wpAny_bind (wpAny_bind (wpAny_onRaise ?_)); show wpAny _ _ (Builtin.SmallTypes.nextOf (.ref i1) >>= fun t => _) _ _ _
  cases ex : xs[k1]? with
  | none =>
    refine wpAny_bind (S1.fin hh (S1.itE t1 e1.extBut D.i1z) (S1.srcE u1 e1.extBut D.l1z) ex fun h2 e e2 he => ?_)
    obtain ⟨oe, he1, he2⟩ := he
    have gz2 : IsZip h2 z TI TO .ellipsis := e2 _ _ D.i1z.symm gz1
    have ne : e ≠ z := fun t => by subst t; rw [gz2] at he1; cases he1; simp at he2
    refine wpAny_setField_rec gz2 (by simp) fun h3 _ e3 => q h3 e (fun c o c1 _ c3 _ t => e3.extBut _ _ c1 (e2 _ _ c3 (e1.extBut _ _ c1 t))) ⟨oe, e3.extBut _ _ ne he1, he2⟩
  | some x =>
    have ey : ys[k2]? = none := over.resolve_left fun t => by rw [ex] at t; cases t
    refine wpAny_bind (S1.item (S1.itE t1 e1.extBut D.i1z) (S1.srcE u1 e1.extBut D.l1z) ex fun h2 t12 e2 => wpAny_pure ?_)
    have gO2 : IsPair h2 TO a b := e2.extBut _ _ D.TOi1 (e1.extBut _ _ D.TOz gO)
    refine wpAny_bind (wpAny_seqItems gO2 rfl (wpAny_bind (wpAny_updateSeq_pair gO2 fun h3 gO3 e3 => ?_)))
    refine wpAny_bind (wpAny_letGo (wpAny_pure (wpAny_bind (wpAny_bind (wpAny_onRaise ?_)))))
    show wpAny _ _ (Builtin.SmallTypes.nextOf (.ref i2) >>= fun t => _) _ _ _
    refine wpAny_bind (S2.fin hh (S2.itE (S2.itE (S2.itE t2 e1.extBut D.i2z) e2.extBut D.i12.symm) e3.extBut D.TOi2.symm)
      (S2.srcE (S2.srcE (S2.srcE u2 e1.extBut D.l2z) e2.extBut D.l2i1) e3.extBut D.l2TO) ey fun h4 e e4 he => ?_)
    obtain ⟨oe, he1, he2⟩ := he
    have gz4 : IsZip h4 z TI TO .ellipsis := e4 _ _ D.i2z.symm (e3.extBut _ _ D.TOz.symm (e2.extBut _ _ D.i1z.symm gz1))
    have ne : e ≠ z := fun t => by subst t; rw [gz4] at he1; cases he1; simp at he2
    refine wpAny_setField_rec gz4 (by simp) fun h5 _ e5 => q h5 e (fun c o c1 c2 c3 c4 t => e5.extBut _ _ c1 (e4 _ _ c4 (e3.extBut _ _ c2 (e2.extBut _ _ c3 (e1.extBut _ _ c1 t))))) ⟨oe, e5.extBut _ _ ne he1, he2⟩
theorem pn_item {Q : Option Value → Shared → Prop} (D : ZipApart z TI TO i1 i2 l1 l2)
    (gz : IsZip s.heap z TI TO .none) (gI : IsPair s.heap TI (.ref i1) (.ref i2)) (gO : IsPair s.heap TO a b)
    (t1 : S1.it s.heap i1 l1 k1) (t2 : S2.it s.heap i2 l2 k2) (u1 : S1.src s.heap l1 xs) (u2 : S2.src s.heap l2 ys) (ex : xs[k1]? = some x) (ey : ys[k2]? = some y)
    (q : ∀ h', IsZip h' z TI TO (rawInt s.heap.objs.size) → IsPair h' TO x y → S1.it h' i1 l1 (k1 + 1) → S2.it h' i2 l2 (k2 + 1) → IsPair h' s.heap.objs.size x y → h'.objs.size = s.heap.objs.size + 1 →
      Kp z TO i1 i2 s.heap h' → Q (some (.ref s.heap.objs.size)) { s with heap := h' }) : wpAny (model prog w) A (pyNext (.ref z)) Q E s := by
  have ty : s.TypeIs (.ref z) "zip" := ⟨_, gz, rfl⟩
  unfold pyNext
  exact wpAny_bind (wpAny_attempt (wpAny_callSpecial?_slot (name := Str.ofString "__next__") ty F.slot_zip_next (wpAny_call_entry F.slot_zip_next ty F.entry_zip_next
    (nxt_item D gz gI gO t1 t2 u1 u2 ex ey fun h' b1 b2 b3 b4 b5 b6 b7 => wpAny_pure (q h' b1 b2 b3 b4 b5 b6 b7)) (F.args_zip_next_1 _))))
theorem pn_end {Q : Option Value → Shared → Prop} (hh : A.handled = none) (D : ZipApart z TI TO i1 i2 l1 l2)
    (gz : IsZip s.heap z TI TO .none) (gI : IsPair s.heap TI (.ref i1) (.ref i2)) (gO : IsPair s.heap TO a b)
    (t1 : S1.it s.heap i1 l1 k1) (t2 : S2.it s.heap i2 l2 k2) (u1 : S1.src s.heap l1 xs) (u2 : S2.src s.heap l2 ys) (over : xs[k1]? = none ∨ ys[k2]? = none)
    (q : ∀ h', Kp z TO i1 i2 s.heap h' → Q none { s with heap := h' }) : wpAny (model prog w) A (pyNext (.ref z)) Q E s := by
  have ty : s.TypeIs (.ref z) "zip" := ⟨_, gz, rfl⟩
  unfold pyNext
  refine wpAny_bind (wpAny_attempt (wpAny_callSpecial?_slot (name := Str.ofString "__next__") ty F.slot_zip_next (wpAny_call_entry F.slot_zip_next ty F.entry_zip_next
    (nxt_end hh D gz gI gO t1 t2 u1 u2 over fun h' e hk he => ?_) (F.args_zip_next_1 _))))
  obtain ⟨o, ho, hc⟩ := he
  exact wpAny_bind (wpAny_isInstance (T := "StopIteration") (b := true) ⟨o, ho, hc⟩ isSubtype_stop (wpAny_pure (q _ hk)))
end
abbrev H1 (S1 : Sq) (h : Heap) (l1 : Addr) : Heap := h.push (S1.ob l1)
abbrev H2 (S1 S2 : Sq) (h : Heap) (l1 l2 : Addr) : Heap := (H1 S1 h l1).push (S2.ob l2)
abbrev H3 (S1 S2 : Sq) (h : Heap) (l1 l2 : Addr) : Heap := (H2 S1 S2 h l1 l2).push { cls := .type "tuple", data := .seq #[.ref h.objs.size, .ref (H1 S1 h l1).objs.size] }
abbrev H4 (S1 S2 : Sq) (h : Heap) (l1 l2 : Addr) : Heap := (H3 S1 S2 h l1 l2).push { cls := .type "tuple", data := .seq #[.none, .none] }
abbrev H5 (S1 S2 : Sq) (h : Heap) (l1 l2 : Addr) : Heap := (H4 S1 S2 h l1 l2).push { cls := .type "zip", data := .fields #[.none, .bool false, .bool false, .ref (H2 S1 S2 h l1 l2).objs.size, .ref (H3 S1 S2 h l1 l2).objs.size] }
theorem meets_new (S1 S2 : Sq) (l1 l2 : Addr) (xs ys : Array Value) :
    Meets (Builtin.«zip.__new__» ⟨[.type "zip", .ref l1, .ref l2], []⟩) (fun _ R s => S1.src s.heap l1 xs ∧ S2.src s.heap l2 ys ∧ R (.ok (.ret (.ref (H4 S1 S2 s.heap l1 l2).objs.size))) { s with heap := H5 S1 S2 s.heap l1 l2 }) :=
  .of_wp fun prog w A R s h => by
    obtain ⟨hp, g, d, tk, os⟩ := s
    obtain ⟨u1, u2, h⟩ := h
    have hsub := sub_zip
    have v1 : S1.src (Shared.heap ⟨hp, g, d, tk, os⟩) l1 xs := u1
    have v2 : S2.src (Shared.heap ⟨hp.push (S1.ob l1), g, d, tk, os⟩) l2 ys := S2.srcP _ u2
    wp_walk using S1.iter v1, S2.iter v2
    exact ⟨_, rfl, h⟩
theorem call_zip {prog : Program} {w : World} {A : Around} {E : Value → Shared → Prop} {s : Shared} {S1 S2 : Sq} {l1 l2 : Addr} {xs ys : Array Value} {Q : Value → Shared → Prop} (u1 : S1.src s.heap l1 xs) (u2 : S2.src s.heap l2 ys)
    (q : ∀ h', IsZip h' (s.heap.objs.size + 4) (s.heap.objs.size + 2) (s.heap.objs.size + 3) .none → IsPair h' (s.heap.objs.size + 2) (.ref s.heap.objs.size) (.ref (s.heap.objs.size + 1)) →
      IsPair h' (s.heap.objs.size + 3) .none .none → S1.it h' s.heap.objs.size l1 0 → S2.it h' (s.heap.objs.size + 1) l2 0 → h'.objs.size = s.heap.objs.size + 5 →
      (∀ c o, s.heap.get? c = some o → h'.get? c = some o) → Q (.ref (s.heap.objs.size + 4)) { s with heap := h' }) :
    wpAny (model prog w) A (call (.type "zip") [.ref l1, .ref l2]) Q E s := by
  refine callType_new F.called_zip (by decide) (F.typeCall_zip_2 _ _) (F.newCall_zip_2 _ _) (fun obj => F.args_object_init_3 obj _ _) F.entry_zip_new (meets_new S1 S2 l1 l2 xs ys) ⟨u1, u2, ?_⟩
  have z1 : (H1 S1 s.heap l1).objs.size = s.heap.objs.size + 1 := Heap.size_push ..
  have z2 : (H2 S1 S2 s.heap l1 l2).objs.size = s.heap.objs.size + 2 := by rw [Heap.size_push, z1]
  have z3 : (H3 S1 S2 s.heap l1 l2).objs.size = s.heap.objs.size + 3 := by rw [Heap.size_push, z2]
  have z4 : (H4 S1 S2 s.heap l1 l2).objs.size = s.heap.objs.size + 4 := by rw [Heap.size_push, z3]
  have z5 : (H5 S1 S2 s.heap l1 l2).objs.size = s.heap.objs.size + 5 := by rw [Heap.size_push, z4]
  have p : ∀ {h : Heap} {c : Addr} {o o' : Obj}, h.get? c = some o → (h.push o').get? c = some o := fun e => Heap.get?_push_of_some _ e
  have g5 : (H5 S1 S2 s.heap l1 l2).get? (H4 S1 S2 s.heap l1 l2).objs.size = some _ := Heap.get?_push_size _ rfl
  have g4 : (H5 S1 S2 s.heap l1 l2).get? (H3 S1 S2 s.heap l1 l2).objs.size = some _ := p (Heap.get?_push_size _ rfl)
  have g3 : (H5 S1 S2 s.heap l1 l2).get? (H2 S1 S2 s.heap l1 l2).objs.size = some _ := p (p (Heap.get?_push_size _ rfl))
  have g2 : (H5 S1 S2 s.heap l1 l2).get? (H1 S1 s.heap l1).objs.size = some (S2.ob l2) := p (p (p (Heap.get?_push_size _ (S2.freed l2))))
  have g1 : (H5 S1 S2 s.heap l1 l2).get? s.heap.objs.size = some (S1.ob l1) := p (p (p (p (Heap.get?_push_size _ (S1.freed l1)))))
  show _ ∧ _
  rw [z2, z3, z4] at g5
  rw [z1, z2] at g3
  rw [z3] at g4
  rw [z1] at g2
  rw [z4]
  exact ⟨⟨_, g5, rfl⟩, q _ g5 g3 g4 (S1.new g1) (S2.new g2) z5 fun c o e => p (p (p (p (p e))))⟩
end MZ
namespace MZ
open PySem PySem.Spec PyProof.Rows L2
/-- a sequence as the heap's own tale has it -/
structure SqK (S : Sq) where
  q : PySem.W.Frag → Hp → Addr → List V → Prop
  get : ∀ {X : Cx} {pins : List (Addr × Obj)} {σ : L2.St} {H : Hp} {s : Shared} {a : Addr} {xs : List V}, Inv X pins σ H s → q X.K H a xs → ∃ its, Vals xs its ∧ S.src s.heap a its.toArray
  inj : ∀ {X : Cx} {pins : List (Addr × Obj)} {σ : L2.St} {H : Hp} {s : Shared} {a : Addr} {xs ys : List V}, Inv X pins σ H s → q X.K H a xs → q X.K H a ys → xs = ys
def qL : SqK sqL where
  q := SqL
  get := fun I h => let ⟨its, r, p, _⟩ := I.list h; ⟨its, r, p.isList⟩
  inj := fun I a b => I.list_inj a b
def qT : SqK sqT where
  q := SqT
  get := fun I h => let ⟨its, r, p, _⟩ := I.tuple h; ⟨its, r, p⟩
  inj := fun I a b => I.tuple_inj a b
def It2 {S1 S2 : Sq} (Q1 : SqK S1) (Q2 : SqK S2) (K : PySem.W.Frag) (a b : Addr) : It :=
  ⟨fun i H => ∃ (xs ys : List V) (x y : V), Q1.q K H a xs ∧ Q2.q K H b ys ∧ xs[i]? = some x ∧ ys[i]? = some y,
    fun i H v H' => ∃ T x y, v = .ref T ∧ H T = none ∧ H' = upd H T (.tup [x, y]) ∧ (∀ xs, Q1.q K H a xs → xs[i]? = some x) ∧ ∀ ys, Q2.q K H b ys → ys[i]? = some y,
    fun i H => ∃ xs ys : List V, Q1.q K H a xs ∧ Q2.q K H b ys ∧ (xs.length ≤ i ∨ ys.length ≤ i)⟩
theorem five {c z TI TO i1 i2 : Addr} (h : c ∈ [z, TI, TO, i1, i2]) : c = z ∨ c = TI ∨ c = TO ∨ c = i1 ∨ c = i2 := by simpa using h
theorem turn2 {S1 S2 : Sq} {Q1 : SqK S1} {Q2 : SqK S2} {P : Program} {w : World} {K : PySem.W.Frag} {elts : List Expr} {kk : Nat} {tpos : Pos} {a b z TI TO i1 i2 : Addr} (D : ZipApart z TI TO i1 i2 a b) :
    Turn P w K (.Tuple elts kk tpos) (It2 Q1 Q2 K a b) [z, TI, TO, i1, i2] z (fun i h => IsZip h z TI TO .none ∧ IsPair h TI (.ref i1) (.ref i2) ∧ (∃ x y, IsPair h TO x y) ∧ S1.it h i1 a i ∧ S2.it h i2 b i) where
  mem := by simp
  obj := fun i h st c hc => by
    obtain ⟨gz, gI, ⟨x, y, gO⟩, t1, t2⟩ := st
    obtain ⟨o1, v1, e1, d1⟩ := S1.itO t1
    obtain ⟨o2, v2, e2, d2⟩ := S2.itO t2
    rcases five hc with q | q | q | q | q
    · subst q; exact ⟨_, gz, fun v q => nomatch q⟩
    · subst q; exact ⟨_, gI, fun v q => nomatch q⟩
    · subst q; exact ⟨_, gO, fun v q => nomatch q⟩
    · subst q; exact ⟨o1, e1, fun v q => by rw [d1] at q; cases q⟩
    · subst q; exact ⟨o2, e2, fun v q => by rw [d2] at q; cases q⟩
  keep := fun i h h' st k => by
    obtain ⟨gz, gI, ⟨x, y, gO⟩, t1, t2⟩ := st
    exact ⟨k z (by simp) _ gz, k TI (by simp) _ gI, ⟨x, y, k TO (by simp) _ gO⟩, S1.itA t1 fun o q => k i1 (by simp) o q, S2.itA t2 fun o q => k i2 (by simp) o q⟩
  item := by
    intro X hP hw hK hc i pins s σ H E I hf st hg
    subst hP hw hK
    obtain ⟨gz, gI, ⟨x0, y0, gO⟩, t1, t2⟩ := st
    obtain ⟨xs, ys, x, y, qx, qy, ex, ey⟩ := hg
    obtain ⟨its1, r1, u1⟩ := Q1.get I qx
    obtain ⟨its2, r2, u2⟩ := Q2.get I qy
    obtain ⟨v1, ev1, rv1⟩ := r1.get ex
    obtain ⟨v2, ev2, rv2⟩ := r2.get ey
    have lz : z < s.heap.objs.size := Heap.lt_size gz
    refine pn_item D gz gI gO t1 t2 u1 u2 (x := v1) (y := v2) (by simpa using ev1) (by simpa using ev2) fun h' z' gO' t1' t2' gT sz kp => ?_
    refine ⟨_, rfl, wpAny_letOwnedTupleGo_zip (s := { s with heap := h' }) z' fun h'' z'' sb => ?_⟩
    have gT2 : h''.get? s.heap.objs.size = some { cls := .type "tuple", data := .seq #[v1, v2] } := (sb.2 _ (Nat.ne_of_gt lz)).trans gT
    have ok : ObjOk X.prog X.w (upd H s.heap.objs.size (.tup [x, y])) h'' s.heap.objs.size (.tup [x, y]) := ⟨by show 2 ≤ sizeLine; decide, [v1, v2], .cons rv1 (.cons rv2 .nil), ⟨_, gT2, rfl, _, rfl⟩⟩
    have nin : ∀ {c}, c ∉ [z, TI, TO, i1, i2] → c ≠ z ∧ c ≠ TO ∧ c ≠ i1 ∧ c ≠ i2 := fun hb => ⟨fun q => hb (by simp [q]), fun q => hb (by simp [q]), fun q => hb (by simp [q]), fun q => hb (by simp [q])⟩
    have I1 : Inv X pins σ (upd H s.heap.objs.size (.tup [x, y])) { s with heap := h'' } :=
      I.turnedNew (t' := s.toks) (ch := [z, TI, TO, i1, i2]) (fun c o hb q => let n := nin hb; (sb.2 c n.1).trans (kp c o n.1 n.2.1 n.2.2.1 n.2.2.2 q)) hf (Nat.le_refl _) ok
    refine ⟨.ref s.heap.objs.size, _, I1, rfl, ⟨_, x, y, rfl, I.hok.fresh (Nat.le_refl _), rfl, fun l hl => by rw [Q1.inj I hl qx]; exact ex, fun l hl => by rw [Q2.inj I hl qy]; exact ey⟩,
      ⟨z'', (sb.2 _ D.TIz).trans (kp _ _ D.TIz D.TITO D.TIi1 D.TIi2 gI), ⟨v1, v2, (sb.2 _ D.TOz).trans gO'⟩, S1.itA t1' fun o q => (sb.2 _ D.i1z).trans q, S2.itA t2' fun o q => (sb.2 _ D.i2z).trans q⟩, fun c hcm => ?_⟩
    obtain ⟨o1, w1, e1, _⟩ := S1.itO t1
    obtain ⟨o2, w2, e2, _⟩ := S2.itO t2
    have lc : c < s.heap.objs.size := by
      rcases five hcm with q | q | q | q | q
      · exact q ▸ lz
      · exact q ▸ Heap.lt_size gI
      · exact q ▸ Heap.lt_size gO
      · exact q ▸ Heap.lt_size e1
      · exact q ▸ Heap.lt_size e2
    rw [upd_ne (Nat.ne_of_lt lc)]
    exact (hf c hcm).1
  done := by
    intro X hP hw hK hc i pins s σ H E I hf st hg
    subst hP hw hK
    obtain ⟨gz, gI, ⟨x0, y0, gO⟩, t1, t2⟩ := st
    obtain ⟨xs, ys, qx, qy, over⟩ := hg
    obtain ⟨its1, r1, u1⟩ := Q1.get I qx
    obtain ⟨its2, r2, u2⟩ := Q2.get I qy
    have n1 := r1.length
    have n2 := r2.length
    have he : its1.toArray[i]? = none ∨ its2.toArray[i]? = none := by
      rcases over with q | q
      · exact .inl (by simp; omega)
      · exact .inr (by simp; omega)
    exact pn_end (I.ok.hd hc) D gz gI gO t1 t2 u1 u2 he fun h' kp => ⟨rfl, I.turnedL (t' := s.toks) (ch := [z, TI, TO, i1, i2]) (fun c o hb q =>
      kp c o (fun t => hb (by simp [t])) (fun t => hb (by simp [t])) (fun t => hb (by simp [t])) (fun t => hb (by simp [t])) q) hf⟩
  self := fun A i s Q E st h => wpAny_pyIter_zip st.1 h
def iZip2 {S1 S2 : Sq} (Q1 : SqK S1) (Q2 : SqK S2) (K : PySem.W.Frag) (ta : TA) : TI := fun σ H R => ta σ H fun vs H1 => ∃ a b xs ys, vs = [.ref a, .ref b] ∧ Q1.q K H1 a xs ∧ Q2.q K H1 b ys ∧ R (It2 Q1 Q2 K a b) H1
theorem pi_zip2 {S1 S2 : Sq} {Q1 : SqK S1} {Q2 : SqK S2} {X : Cx} {e e2 : Expr} {ta : TA} {p pos tpos : Pos} {elts : List Expr} {kk : Nat} (hg : Gl X "zip") (hm : X.mg "zip" = none) (ha : PA X [e, e2] ta)
    (hs : starEach [e, e2] X.env = (false, eval e X.env) :: starEach [e2] X.env := by rfl) (hpl : (backTo pos (starEach [e2] X.env)).any (·.1) = false := by rfl) :
    PI X (.Tuple elts kk tpos) (.Call (.Name "zip" p) [e, e2] [] pos) (iZip2 Q1 Q2 X.K ta) := by
  refine ⟨fun pins s σ H R I h => ?_⟩
  refine Call_ (ld_blt I hg hm PyProof.Rows.boot_zip (PyProof.Rows.callWith_type1 (thn (ha.run pos pins s σ H _ I h) fun us s1 ⟨vs, G1, I1, r1, a, b, xs, ys, ex, qx, qy, q⟩ => ?_) hs hpl))
  subst ex
  cases r1 with
  | cons r rr =>
    cases rr with
    | cons r' rr =>
      cases rr; cases r; cases r'
      obtain ⟨its1, v1, u1⟩ := Q1.get I1 qx
      obtain ⟨its2, v2, u2⟩ := Q2.get I1 qy
      refine call_zip (S1 := S1) (S2 := S2) u1 u2 fun h' gz gI gO t1 t2 sz kp => wpAny_pyIter_zip gz ?_
      have I2 : Inv X pins σ G1 { s1 with heap := h' } := I1.kept (t' := s1.toks) kp
      refine ⟨s1.heap.objs.size + 4, [s1.heap.objs.size + 4, s1.heap.objs.size + 2, s1.heap.objs.size + 3, s1.heap.objs.size, s1.heap.objs.size + 1], _, _, G1, rfl, I2, turn2 (PySem.W.ktu_apart s1.heap.objs.size a b (S1.lt u1) (S2.lt u2)), ⟨gz, gI, ⟨_, _, gO⟩, t1, t2⟩, fun c hcm => ?_, q⟩
      have hle : s1.heap.objs.size ≤ c := by rcases five hcm with t | t | t | t | t <;> (rw [t]; first | exact Nat.le_add_right _ _ | exact Nat.le_refl _)
      exact I1.fpOk hle (I1.hok.fresh hle)
end MZ
namespace Z
open PySem L2
open Rep (rep)
theorem tw_zip2 {S1 S2 : MZ.Sq} {Q1 : MZ.SqK S1} {Q2 : MZ.SqK S2} {α β : Type} {r1 : V → α → Prop} {r2 : V → β → Prop} {K : Fg} {a b : Addr} {vs us : List V} {xs : List α} {ys : List β} (h : A2 r1 vs xs) (h' : A2 r2 us ys) :
    TW (MZ.It2 Q1 Q2 K a b) (xs.zip ys) (fun H => Q1.q K H a vs ∧ Q2.q K H b us) (fun p H v H' => ∃ T x y, v = .ref T ∧ H T = none ∧ H' = upd H T (.tup [x, y]) ∧ r1 x p.1 ∧ r2 y p.2) := ⟨by
  rw [List.length_zip, ← h.length, ← h'.length]
  refine ⟨fun i H hi q => ?_, fun H q => ⟨vs, us, q.1, q.2, by omega⟩, fun i H v H' hi q y => ?_⟩
  · have n1 : i < vs.length := by omega
    have n2 : i < us.length := by omega
    exact ⟨vs, us, vs[i], us[i], q.1, q.2, by simp [n1], by simp [n2]⟩
  · obtain ⟨T, u, w, e1, e2, e3, e4, e5⟩ := y
    obtain ⟨c, h1, h2⟩ := h.getV (e4 _ q.1)
    obtain ⟨d, h3, h4⟩ := h'.getV (e5 _ q.2)
    refine ⟨(c, d), ?_, T, u, w, e1, e2, e3, h2, h4⟩
    rw [List.getElem?_zip_eq_some]
    exact ⟨h1, h3⟩⟩
end Z
/-! Z8: set(list of ints), sorted of it; list.count of data; list.insert -/
namespace L2
open PySem PySem.Spec PyProof.Rows
end L2
namespace Z
open PySem L2
open Rep (rep)
/-- xs.insert(i, y), i not below nought -/
def insR {α : Type} (xs : List α) (i : Int) (y : α) : R (List α) := if xs.length < 100000 ∧ 0 ≤ i ∧ i < 9223372036854775808 then .ok (xs.take i.toNat ++ [y] ++ xs.drop i.toNat) else .bad
theorem pn_ins {α δ : Type} {xs : List α} {i : Int} {y : α} {f : List α → R δ} {P : δ → Prop} {E : Exn → Prop} (h : Post (insR xs i y >>= f) P E) : ∃ l, (xs.length < 100000 ∧ 0 ≤ i ∧ i < 9223372036854775808) ∧ l = xs.take i.toNat ++ [y] ++ xs.drop i.toNat ∧ Post (f l) P E := by
  unfold insR at h
  by_cases q : xs.length < 100000 ∧ 0 ≤ i ∧ i < 9223372036854775808
  · rw [if_pos q] at h
    exact ⟨_, q, rfl, h⟩
  · rw [if_neg q] at h
    exact (show False from h).elim
theorem A2.ins {α : Type} {r : V → α → Prop} {v : V} {y : α} (n : Nat) {vs : List V} {xs : List α} (h : A2 r vs xs) (g : r v y) : A2 r (vs.take n ++ [v] ++ vs.drop n) (xs.take n ++ [y] ++ xs.drop n) := A2.append (A2.append (A2.take n h) (.cons g .nil)) (A2.drop n h)
theorem line_ins {α : Type} {r : V → α → Prop} {vs : List V} {xs : List α} (h : A2 r vs xs) (g : xs.length < 100000) : vs.length < sizeLine := by
  rw [h.length]
  exact Nat.lt_of_lt_of_le g line5
end Z
namespace Z
open PySem L2
open Rep (rep)
/-- a dict that stays as it is -/
structure FzD (κ β : Type) where
  m : List (κ × β)
  deriving DecidableEq
instance repFD : Rep (FzD Int Int) := ⟨fun K H v d => ∃ a, v = .ref a ∧ H a = some (.dK (encM kI V.int d.m)), fun s ⟨a, e, q⟩ => ⟨a, e, s _ _ q⟩⟩
end Z
namespace Z
open PySem L2
open Rep (rep)
/-- a text as a key -/
def kS (s : Str) : Key := Sum.inr s
end Z
namespace Z
open PySem L2
open Rep (rep)
section
variable {X : Cx} {K : Fg} {F H : Hp}
theorem A2.some {α : Type} [Rep α] {vs : List V} {xs : List α} (h : A2 (rep K F) vs xs) : A2 (rep K F) vs (xs.map Option.some) := by
  induction h with
  | nil => exact .nil
  | cons a _ ih => exact .cons (rep_some a) ih
end
end Z
/-! ZM: lemmas about mirrors -/
namespace Z
open PySem L2
section
variable {α β γ : Type}
theorem mapR_ok {f : α → R β} {g : α → β} : ∀ {xs : List α}, (∀ x ∈ xs, f x = R.ok (g x)) → mapR f xs = R.ok (xs.map g)
  | [], _ => rfl
  | x :: xs, h => by
    show (f x >>= fun y => mapR f xs >>= fun ys => R.ok (y :: ys)) = _
    rw [h x List.mem_cons_self, mapR_ok fun y hy => h y (List.mem_cons_of_mem _ hy)]
    rfl
theorem mapG_ok {f : α → R β} {g : α → β} {xs : List α} (hl : xs.length < 100000) (h : ∀ x ∈ xs, f x = R.ok (g x)) : mapG f xs = R.ok (xs.map g) := by
  unfold mapG
  rw [grd_t (decide_eq_true hl)]
  exact mapR_ok h
theorem filR_ok {f : α → R (Option β)} {g : α → Option β} : ∀ {xs : List α}, (∀ x ∈ xs, f x = R.ok (g x)) → filR f xs = R.ok (xs.filterMap g)
  | [], _ => rfl
  | x :: xs, h => by
    show (f x >>= fun o => filR f xs >>= fun ys => match o with
      | some y => R.ok (y :: ys)
      | none => R.ok ys) = _
    rw [h x List.mem_cons_self, filR_ok fun y hy => h y (List.mem_cons_of_mem _ hy)]
    show (match g x with
      | some y => R.ok (y :: xs.filterMap g)
      | none => R.ok (xs.filterMap g)) = R.ok ((x :: xs).filterMap g)
    rw [List.filterMap_cons]
    cases g x <;> rfl
theorem filG_ok {f : α → R (Option β)} {g : α → Option β} {xs : List α} (hl : xs.length < 100000) (h : ∀ x ∈ xs, f x = R.ok (g x)) : filG f xs = R.ok (xs.filterMap g) := by
  unfold filG
  rw [grd_t (decide_eq_true hl)]
  exact filR_ok h
theorem getI_nat {xs : List α} {i : Int} (h0 : 0 ≤ i) (h1 : i < xs.length) : ∃ x, getI xs i = R.ok x ∧ x ∈ xs ∧ xs[i.toNat]? = some x := by
  have hj : i.toNat < xs.length := by omega
  refine ⟨xs[i.toNat], ?_, List.getElem_mem hj, List.getElem?_eq_getElem hj⟩
  unfold getI
  have e : atI xs i = some xs[i.toNat] := by
    have := atI_nat (xs := xs) (j := i.toNat) (v := xs[i.toNat]) (List.getElem?_eq_getElem hj)
    rw [Int.toNat_of_nonneg h0] at this
    exact this
  rw [e]
  rfl
theorem getI_eq {xs : List α} {i : Int} {x : α} (h0 : 0 ≤ i) (h : xs[i.toNat]? = some x) : getI xs i = R.ok x := by
  have h1 := (List.getElem?_eq_some_iff.mp h).1
  obtain ⟨y, e, _, e2⟩ := getI_nat (xs := xs) (i := i) h0 (by omega)
  rw [h] at e2
  cases e2
  exact e
theorem setI_nat {xs : List α} {i : Int} {x : α} (h0 : 0 ≤ i) (h1 : i < xs.length) : setI xs i x = R.ok (xs.set i.toNat x) := by
  have e : ixN xs.length i = some i.toNat := by
    unfold ixN
    rw [if_pos h0, if_pos h1]
  unfold setI
  rw [e]
theorem app_ok {xs : List α} {x : α} (h : xs.length < 100000) : app xs x = R.ok (xs ++ [x]) := by
  unfold app
  rw [if_pos h]
theorem extend_ok {xs ys : List α} (h : xs.length + ys.length < 100000) : extend xs ys = R.ok (xs ++ ys) := by
  unfold extend
  rw [if_pos h]
theorem modI_ok {i j : Int} (h : 0 < j) : modI i j = R.ok (i % j) := by
  unfold modI
  rw [if_pos h]
theorem divI_okW {i j : Int} (h : 0 < j) (h2 : j.natAbs.log2 < 9000) : divI i j = R.ok (i / j) := by
  unfold divI
  rw [if_pos ⟨h, h2⟩]
theorem divI_ok {i j : Int} (h : 0 < j) (h2 : j < 1073741824) : divI i j = R.ok (i / j) := by
  refine divI_okW h (Nat.lt_of_lt_of_le ((Nat.log2_lt (by omega)).mpr (show j.natAbs < 2 ^ 30 by omega)) (by decide))
theorem mulI_ok {i j : Int} (h : (-(2 ^ 64) < i ∧ i < 2 ^ 64) ∨ (-(2 ^ 64) < j ∧ j < 2 ^ 64)) : mulI i j = R.ok (i * j) := by
  unfold mulI
  rw [if_pos h]
theorem rngI_ok {i j : Int} (h1 : -(2 ^ 62) ≤ i) (h2 : i < 2 ^ 62) (h3 : -(2 ^ 62) ≤ j) (h4 : j < 2 ^ 62) : rngI i j = R.ok (rng i j) := by
  unfold rngI
  rw [if_pos ⟨h1, h2, h3, h4⟩]
theorem rng_mem {i j k : Int} : k ∈ rng i j ↔ i ≤ k ∧ k < j := by
  unfold rng
  rw [List.mem_map]
  constructor
  · rintro ⟨n, hn, rfl⟩
    have := List.mem_range.mp hn
    omega
  · intro h
    exact ⟨(k - i).toNat, List.mem_range.mpr (by omega), by omega⟩
/-! ### what holds of a result, step by step -/
section
variable {P Q : α → Prop} {S : β → Prop} {X : Exn → Prop}
theorem po_bind {m : R α} {k : α → R β} (h : Post m Q X) (hk : ∀ a, Q a → Post (k a) S X) : Post (m >>= k) S X := by
  cases m with
  | ok a => exact hk a h
  | exc e => exact h
  | bad => exact h
theorem po_ok {a : α} (h : P a) : Post (R.ok a) P X := h
theorem po_eq {m : R α} {a : α} (h : m = R.ok a) (hp : P a) : Post m P X := by
  rw [h]
  exact hp
theorem po_if {c : Prop} [Decidable c] {m n : R α} (h1 : c → Post m P X) (h2 : ¬ c → Post n P X) : Post (if c then m else n) P X := by
  by_cases h : c
  · rw [if_pos h]
    exact h1 h
  · rw [if_neg h]
    exact h2 h
theorem po_ex {m : R α} (h : Post m P noX) : ∃ a, m = R.ok a ∧ P a := by
  cases m with
  | ok a => exact ⟨a, rfl, h⟩
  | exc e => exact (show False from h).elim
  | bad => exact (show False from h).elim
theorem po_iff {m : R α} {a : α} (h : Post m (· = a) noX) : m = R.ok a := by
  obtain ⟨b, e, rfl⟩ := po_ex h
  exact e
theorem po_get {xs : List α} {i : Int} {k : α → R β} (h0 : 0 ≤ i) (h1 : i < xs.length) (hk : ∀ x, x ∈ xs → xs[i.toNat]? = some x → Post (k x) S X) : Post (getI xs i >>= k) S X := by
  obtain ⟨x, e, h2, h3⟩ := getI_nat h0 h1
  rw [e]
  exact hk x h2 h3
theorem po_getE {xs : List α} {i : Int} {x : α} {k : α → R β} (h : getI xs i = R.ok x) (hk : Post (k x) S X) : Post (getI xs i >>= k) S X := by
  rw [h]
  exact hk
theorem po_set {xs : List α} {i : Int} {x : α} {k : List α → R β} (h0 : 0 ≤ i) (h1 : i < xs.length) (hk : Post (k (xs.set i.toNat x)) S X) : Post (setI xs i x >>= k) S X := by
  rw [setI_nat h0 h1]
  exact hk
theorem po_app {xs : List α} {x : α} {k : List α → R β} (h : xs.length < 100000) (hk : Post (k (xs ++ [x])) S X) : Post (app xs x >>= k) S X := by
  rw [app_ok h]
  exact hk
theorem po_extend {xs ys : List α} {k : List α → R β} (h : xs.length + ys.length < 100000) (hk : Post (k (xs ++ ys)) S X) : Post (extend xs ys >>= k) S X := by
  rw [extend_ok h]
  exact hk
theorem po_mod {i j : Int} {k : Int → R β} (h : 0 < j) (hk : 0 ≤ i % j → i % j < j → Post (k (i % j)) S X) : Post (modI i j >>= k) S X := by
  rw [modI_ok h]
  exact hk (Int.emod_nonneg _ (by omega)) (Int.emod_lt_of_pos _ h)
theorem po_div {i j : Int} {k : Int → R β} (h : 0 < j) (h2 : j < 1073741824) (hk : Post (k (i / j)) S X) : Post (divI i j >>= k) S X := by
  rw [divI_ok h h2]
  exact hk
theorem po_mul {i j : Int} {k : Int → R β} (h : (-(2 ^ 64) < i ∧ i < 2 ^ 64) ∨ (-(2 ^ 64) < j ∧ j < 2 ^ 64)) (hk : Post (k (i * j)) S X) : Post (mulI i j >>= k) S X := by
  rw [mulI_ok h]
  exact hk
theorem po_rng {i j : Int} {k : List Int → R β} (h1 : -(2 ^ 62) ≤ i) (h2 : i < 2 ^ 62) (h3 : -(2 ^ 62) ≤ j) (h4 : j < 2 ^ 62) (hk : Post (k (rng i j)) S X) : Post (rngI i j >>= k) S X := by
  rw [rngI_ok h1 h2 h3 h4]
  exact hk
theorem po_fold {f : β → α → R β} {s : β} {xs : List α} (I : β → Prop) (h0 : I s) (hf : ∀ s x, I s → x ∈ xs → Post (f s x) I X) : Post (foldR f s xs) I X := by
  induction xs generalizing s with
  | nil => exact h0
  | cons x xs ih =>
    show Post (f s x >>= fun s' => foldR f s' xs) I X
    exact po_bind (hf s x h0 List.mem_cons_self) fun s' h' => ih h' fun s y hs hy => hf s y hs (List.mem_cons_of_mem _ hy)
theorem po_foldX {ρ : Type} {f : β → α → R (Sum ρ (Bool × β))} {s : β} {xs : List α} (I : β → Prop) (h0 : I s) (hf : ∀ s x, I s → x ∈ xs → Post (f s x) (fun r => ∃ s', r = .inr (true, s') ∧ I s') X) : Post (foldX f s xs) (fun r => ∃ s', r = .inr s' ∧ I s') X := by
  induction xs generalizing s with
  | nil => exact ⟨s, rfl, h0⟩
  | cons x xs ih =>
    refine po_bind (S := fun r => ∃ s', r = Sum.inr s' ∧ I s') (k := fun r => match r with
      | .inl z => (R.ok (.inl z) : R (Sum ρ β))
      | .inr (true, s') => foldX f s' xs
      | .inr (false, s') => R.ok (.inr s')) (hf s x h0 List.mem_cons_self) fun r hr => ?_
    obtain ⟨s', rfl, h'⟩ := hr
    exact ih h' fun s y hs hy => hf s y hs (List.mem_cons_of_mem _ hy)
theorem po_mapG {f : α → R β} {xs : List α} (p : β → Prop) (hl : xs.length < 100000) (hf : ∀ x ∈ xs, Post (f x) p X) : Post (mapG f xs) (fun ys => ys.length = xs.length ∧ ∀ y ∈ ys, p y) X := by
  unfold mapG
  rw [grd_t (decide_eq_true hl)]
  show Post (mapR f xs) _ X
  clear hl
  induction xs with
  | nil => exact ⟨rfl, fun _ h => nomatch h⟩
  | cons x xs ih =>
    show Post (f x >>= fun y => mapR f xs >>= fun ys => R.ok (y :: ys)) _ X
    refine po_bind (hf x List.mem_cons_self) fun y hy => po_bind (ih fun z hz => hf z (List.mem_cons_of_mem _ hz)) fun ys ⟨h1, h2⟩ => ?_
    refine ⟨by rw [List.length_cons, List.length_cons, h1], fun z hz => ?_⟩
    rcases List.mem_cons.mp hz with rfl | hz
    · exact hy
    · exact h2 z hz
end
end
/-! ### dicts -/
section
variable {κ β : Type} [DecidableEq κ]
theorem mhas_iff {m : List (κ × β)} {k : κ} : mhas m k = true ↔ ∃ p ∈ m, p.1 = k := by
  unfold mhas
  rw [List.any_eq_true]
  constructor
  · rintro ⟨p, h, e⟩
    exact ⟨p, h, of_decide_eq_true e⟩
  · rintro ⟨p, h, e⟩
    exact ⟨p, h, decide_eq_true e⟩
theorem mput_new {m : List (κ × β)} {k : κ} {v : β} (h : mhas m k = false) : mput m k v = m ++ [(k, v)] := by
  unfold mput
  have h' : (m.any fun p => decide (p.1 = k)) = false := h
  rw [h', if_neg (by decide)]
theorem mput_old {m : List (κ × β)} {k : κ} {v : β} (h : mhas m k = true) : mput m k v = m.map (fun p => if p.1 = k then (p.1, v) else p) := by
  unfold mput
  have h' : (m.any fun p => decide (p.1 = k)) = true := h
  rw [h', if_pos rfl]
theorem po_mput {δ : Type} {m : List (κ × β)} {k : κ} {v : β} {f : List (κ × β) → R δ} {S : δ → Prop} {X : Exn → Prop} (h : m.length < 100000) (hk : Post (f (mput m k v)) S X) : Post (mputR m k v >>= f) S X := by
  unfold mputR
  rw [if_pos h]
  exact hk
end
end Z
/-! ZG: webs: joined, how far; no program in sight -/
namespace Z
open PySem L2
/-! ### more steps -/
section
variable {α β γ δ : Type} {P Q : α → Prop} {S : β → Prop} {X : Exn → Prop}
/-- a fold, by what is gone through -/
theorem po_foldP {f : β → α → R β} {s : β} {xs : List α} (I : List α → β → Prop) (h0 : I [] s) (hf : ∀ pre s x post, xs = pre ++ x :: post → I pre s → Post (f s x) (I (pre ++ [x])) X) : Post (foldR f s xs) (I xs) X := by
  have key : ∀ (l pre : List α) (s : β), xs = pre ++ l → I pre s → Post (foldR f s l) (I xs) X := by
    intro l
    induction l with
    | nil =>
      intro pre s e h
      rw [List.append_nil] at e
      rw [e]
      exact h
    | cons x l ih =>
      intro pre s e h
      show Post (f s x >>= fun s' => foldR f s' l) _ X
      exact po_bind (hf pre s x l e h) fun s' h' => ih (pre ++ [x]) s' (by rw [e, List.append_assoc]; rfl) h'
  exact key xs [] s rfl h0
/-- items for items with a state, by what is made -/
theorem po_mapStA {f : γ → α → R (β × γ)} {s : γ} {xs : List α} (I : List α → List β → γ → Prop) (hl : xs.length < 100000) (h0 : I [] [] s)
    (hf : ∀ pre acc s x post, xs = pre ++ x :: post → I pre acc s → Post (f s x) (fun r => I (pre ++ [x]) (acc ++ [r.1]) r.2) X) : Post (mapStG f s xs) (fun r => I xs r.1 r.2) X := by
  unfold mapStG
  rw [grd_t (decide_eq_true hl), ok_bind]
  have key : ∀ (l pre : List α) (acc : List β) (s : γ), xs = pre ++ l → I pre acc s → Post (mapSt f s l) (fun r => I xs (acc ++ r.1) r.2) X := by
    intro l
    induction l with
    | nil =>
      intro pre acc s e h
      rw [List.append_nil] at e
      show I xs (acc ++ []) s
      rw [List.append_nil, e]
      exact h
    | cons x l ih =>
      intro pre acc s e h
      refine po_bind (hf pre acc s x l e h) fun r hr => po_bind (ih (pre ++ [x]) (acc ++ [r.1]) r.2 (by rw [e, List.append_assoc]; rfl) hr) fun q hq => ?_
      show I xs (acc ++ (r.1 :: q.1)) q.2
      rw [List.append_assoc] at hq
      exact hq
  exact key xs [] [] s rfl h0
theorem po_mapGE {f : α → R β} {g : α → β} {xs : List α} {k : List β → R γ} {T : γ → Prop} (hl : xs.length < 100000) (h : ∀ x ∈ xs, f x = R.ok (g x)) (hk : Post (k (xs.map g)) T X) : Post (mapG f xs >>= k) T X := by
  rw [mapG_ok hl h]
  exact hk
theorem po_filGE {f : α → R (Option β)} {g : α → Option β} {xs : List α} {k : List β → R γ} {T : γ → Prop} (hl : xs.length < 100000) (h : ∀ x ∈ xs, f x = R.ok (g x)) (hk : Post (k (xs.filterMap g)) T X) : Post (filG f xs >>= k) T X := by
  rw [filG_ok hl h]
  exact hk
/-- a while: an invariant, a measure -/
theorem po_while {c : γ → R Bool} {b : γ → R γ} {T : γ → Prop} (I : γ → Prop) (μ : γ → Nat)
    (hs : ∀ s, I s → Post (c s) (fun t => (t = true → Post (b s) (fun s' => I s' ∧ μ s' < μ s) X) ∧ (t = false → T s)) X) : ∀ {n : Nat} {s : γ}, I s → μ s < n → Post (whileR c b n s) T X
  | 0, s, _, h => absurd h (Nat.not_lt_zero _)
  | n + 1, s, hi, h => by
    refine po_bind (hs s hi) fun t ⟨h1, h2⟩ => ?_
    cases t with
    | false => exact h2 rfl
    | true => exact po_bind (h1 rfl) fun s' ⟨a, d⟩ => po_while I μ hs a (by omega)
theorem po_getS {st : List (List α)} {j : Nat} {xs : List α} {k : List α → R γ} {T : γ → Prop} (h : st[j]? = some xs) (hk : Post (k xs) T X) : Post (getS st j >>= k) T X := by
  unfold getS
  rw [h]
  exact hk
theorem po_setS {st : List (List α)} {j : Nat} {xs : List α} {k : List (List α) → R γ} {T : γ → Prop} (hk : Post (k (st.set j xs)) T X) : Post (setS st j xs >>= k) T X := hk
theorem po_newS {st : List (List α)} {xs : List α} {k : Nat × List (List α) → R γ} {T : γ → Prop} (hk : Post (k (st.length, st ++ [xs])) T X) : Post (newS st xs >>= k) T X := hk
theorem po_listRng {i j : Int} {k : List Int → R γ} {T : γ → Prop} (h1 : -(2 ^ 62) ≤ i) (h2 : i < 2 ^ 62) (h3 : -(2 ^ 62) ≤ j) (h4 : j < 2 ^ 62) (h5 : (j - i).toNat ≤ 100000) (hk : Post (k (rng i j)) T X) : Post (listRng i j >>= k) T X := by
  unfold listRng
  rw [if_pos ⟨h1, h2, h3, h4, h5⟩]
  exact hk
theorem po_rep {xs : List α} {i : Int} {k : List α → R γ} {T : γ → Prop} (h1 : 0 ≤ i) (h2 : i < 1000) (h3 : xs.length < 100) (hk : Post (k (repL xs i)) T X) : Post (repR xs i >>= k) T X := by
  unfold repR
  have h4 : xs.length * i.toNat ≤ 100 * 1000 := Nat.mul_le_mul (by omega) (by omega)
  have h5 : xs.length * i.toNat < 100000 := by
    have h6 : xs.length * i.toNat ≤ 99 * 999 := Nat.mul_le_mul (by omega) (by omega)
    omega
  rw [if_pos ⟨by omega, by omega, h5⟩]
  exact hk
theorem po_ofO {o : Option α} {x : α} {k : α → R γ} {T : γ → Prop} (h : o = some x) (hk : Post (k x) T X) : Post (ofO o >>= k) T X := by
  rw [h]
  exact hk
theorem po_mgetE {κ : Type} [DecidableEq κ] {m : List (κ × α)} {j : κ} {x : α} {k : α → R γ} {T : γ → Prop} (h : mget m j = some x) (hk : Post (k x) T X) : Post (mgetR m j >>= k) T X := po_ofO h hk
end
theorem rng_atE {i j : Int} {k : Nat} (h : k < (j - i).toNat) : (rng i j)[k]? = some (i + k) := rng_get h
theorem rng_nodup (i j : Int) : (rng i j).Nodup := by
  unfold rng
  refine List.Pairwise.map _ (fun a b h => ?_) List.nodup_range
  intro e
  exact h (by omega)
theorem rng_pre {i j x : Int} {pre post : List Int} (h : rng i j = pre ++ x :: post) : x = i + pre.length := by
  have h1 : (rng i j)[pre.length]? = some x := by rw [h]; simp
  have hl : pre.length < (rng i j).length := by rw [h]; simp
  rw [rng_length] at hl
  rw [rng_atE hl] at h1
  cases h1
  rfl
theorem rng_split {i j x : Int} {pre post : List Int} (h : rng i j = pre ++ x :: post) : pre = rng i x ∧ i ≤ x ∧ x < j := by
  have e := rng_pre h
  have hl : (rng i j).length = pre.length + (post.length + 1) := by rw [h]; simp
  rw [rng_length] at hl
  refine ⟨?_, by omega, by omega⟩
  apply List.ext_getElem?
  intro k
  by_cases hk : k < pre.length
  · have h1 : (rng i j)[k]? = pre[k]? := by rw [h, List.getElem?_append_left hk]
    rw [← h1, rng_atE (by omega), rng_atE (by omega)]
  · rw [List.getElem?_eq_none (by omega), List.getElem?_eq_none (by rw [rng_length]; omega)]
/-! ### joined -/
def Adj (ts : List (Int × Int)) (a b : Int) : Prop := (a, b) ∈ ts ∨ (b, a) ∈ ts
theorem Adj.symm {ts : List (Int × Int)} {a b : Int} (h : Adj ts a b) : Adj ts b a := h.elim .inr .inl
/-- what holds of a place and goes along all ties holds of all places -/
def Conn (n : Int) (ts : List (Int × Int)) : Prop := ∀ S : Int → Prop, S 0 → (∀ p ∈ ts, S p.1 ↔ S p.2) → ∀ k, 0 ≤ k → k < n → S k
theorem Conn.any {n : Int} {ts : List (Int × Int)} (h : Conn n ts) {S : Int → Prop} {r : Int} (r0 : 0 ≤ r) (r1 : r < n) (hr : S r) (hc : ∀ p ∈ ts, S p.1 ↔ S p.2) : ∀ k, 0 ≤ k → k < n → S k := by
  by_cases h0 : S 0
  · exact h S h0 hc
  · exact absurd hr (h (fun k => ¬ S k) h0 (fun p hp => not_congr (hc p hp)) r r0 r1)
theorem Conn.mono {n : Int} {ts us : List (Int × Int)} (h : Conn n ts) (hs : ∀ p ∈ ts, p ∈ us) : Conn n us := fun S h0 hc => h S h0 fun p hp => hc p (hs p hp)
theorem conn_tree {n : Int} {ts : List (Int × Int)} (h : ∀ k, 1 ≤ k → k < n → ∃ j, 0 ≤ j ∧ j < k ∧ Adj ts j k) : Conn n ts := by
  intro S h0 hc
  have key : ∀ (m : Nat) (k : Int), k.toNat ≤ m → 0 ≤ k → k < n → S k := by
    intro m
    induction m with
    | zero =>
      intro k hk k0 _
      rw [show k = 0 by omega]
      exact h0
    | succ m ih =>
      intro k hk k0 k1
      by_cases hz : k = 0
      · rw [hz]; exact h0
      · obtain ⟨j, j0, jk, hj⟩ := h k (by omega) k1
        have hj' := ih j (by omega) j0 (by omega)
        rcases hj with hj | hj
        · exact (hc _ hj).mp hj'
        · exact (hc _ hj).mpr hj'
  exact fun k k0 k1 => key k.toNat k (Nat.le_refl _) k0 k1
/-! ### how far -/
structure IsDist (n : Int) (ts : List (Int × Int)) (p : Int) (f : Int → Int) : Prop where
  zero : f p = 0
  nn : ∀ v, 0 ≤ v → v < n → 0 ≤ f v
  lip : ∀ a b, Adj ts a b → f b ≤ f a + 1
  desc : ∀ v, 0 ≤ v → v < n → v ≠ p → ∃ w, 0 ≤ w ∧ w < n ∧ Adj ts w v ∧ f w + 1 = f v
theorem IsDist.le {n : Int} {ts : List (Int × Int)} {p : Int} {f g : Int → Int} (hf : IsDist n ts p f) (hg : IsDist n ts p g) : ∀ v, 0 ≤ v → v < n → f v ≤ g v := by
  have key : ∀ (m : Nat) (v : Int), (g v).toNat ≤ m → 0 ≤ v → v < n → f v ≤ g v := by
    intro m
    induction m with
    | zero =>
      intro v hm v0 v1
      by_cases hv : v = p
      · rw [hv, hf.zero, hg.zero]; exact Int.le_refl _
      · obtain ⟨w, w0, w1, _, e⟩ := hg.desc v v0 v1 hv
        have := hg.nn w w0 w1
        omega
    | succ m ih =>
      intro v hm v0 v1
      by_cases hv : v = p
      · rw [hv, hf.zero, hg.zero]; exact Int.le_refl _
      · obtain ⟨w, w0, w1, ha, e⟩ := hg.desc v v0 v1 hv
        have h1 := hg.nn w w0 w1
        have h2 := ih w (by omega) w0 w1
        have h3 := hf.lip w v ha
        omega
  exact fun v v0 v1 => key _ v (Nat.le_refl _) v0 v1
theorem IsDist.uniq {n : Int} {ts : List (Int × Int)} {p : Int} {f g : Int → Int} (hf : IsDist n ts p f) (hg : IsDist n ts p g) (v : Int) (v0 : 0 ≤ v) (v1 : v < n) : f v = g v :=
  Int.le_antisymm (hf.le hg v v0 v1) (hg.le hf v v0 v1)
theorem IsDist.level {n : Int} {ts : List (Int × Int)} {p : Int} {f : Int → Int} (hf : IsDist n ts p f) : ∀ (m : Nat) (v : Int), 0 ≤ v → v < n → (f v).toNat = m → ∀ k : Nat, k ≤ m → ∃ w, 0 ≤ w ∧ w < n ∧ f w = k := by
  intro m
  induction m with
  | zero =>
    intro v v0 v1 e k hk
    have := hf.nn v v0 v1
    exact ⟨v, v0, v1, by omega⟩
  | succ m ih =>
    intro v v0 v1 e k hk
    have hv := hf.nn v v0 v1
    by_cases hk2 : k = m + 1
    · exact ⟨v, v0, v1, by omega⟩
    · have hne : v ≠ p := by
        intro e2
        rw [e2, hf.zero] at e
        simp at e
      obtain ⟨w, w0, w1, _, e2⟩ := hf.desc v v0 v1 hne
      exact ih w w0 w1 (by omega) k (by omega)
/-- no place is as far as there are places -/
theorem IsDist.lt {n : Int} {ts : List (Int × Int)} {p : Int} {f : Int → Int} (hf : IsDist n ts p f) (v : Int) (v0 : 0 ≤ v) (v1 : v < n) : f v < n := by
  have hv := hf.nn v v0 v1
  have hl := hf.level _ v v0 v1 rfl
  have key : ∀ m : Nat, m ≤ (f v).toNat + 1 → ∃ ws : List Int, ws.length = m ∧ ws.Nodup ∧ (∀ w ∈ ws, w ∈ rng 0 n ∧ f w < m) := by
    intro m
    induction m with
    | zero => exact fun _ => ⟨[], rfl, List.nodup_nil, fun _ h => nomatch h⟩
    | succ m ih =>
      intro hm
      obtain ⟨ws, h1, h2, h3⟩ := ih (by omega)
      obtain ⟨w, w0, w1, e⟩ := hl m (by omega)
      refine ⟨w :: ws, by rw [List.length_cons, h1], List.nodup_cons.mpr ⟨fun h => ?_, h2⟩, fun u hu => ?_⟩
      · have := (h3 w h).2
        omega
      · rcases List.mem_cons.mp hu with rfl | hu
        · exact ⟨rng_mem.mpr ⟨w0, w1⟩, by omega⟩
        · have := h3 u hu
          exact ⟨this.1, by omega⟩
  obtain ⟨ws, h1, h2, h3⟩ := key _ (Nat.le_refl _)
  have := nodup_le h2 fun w hw => (h3 w hw).1
  rw [h1, rng_length] at this
  omega
/-- how far places are from one, in a web that hangs together -/
noncomputable def dst (n : Int) (ts : List (Int × Int)) (p : Int) : Int → Int := by
  classical
  exact if h : ∃ f, IsDist n ts p f then Classical.choose h else fun _ => 0
theorem dst_is {n : Int} {ts : List (Int × Int)} {p : Int} {f : Int → Int} (h : IsDist n ts p f) : IsDist n ts p (dst n ts p) := by
  have e : ∃ f, IsDist n ts p f := ⟨f, h⟩
  unfold dst
  rw [dif_pos e]
  exact Classical.choose_spec e
theorem dst_eq {n : Int} {ts : List (Int × Int)} {p : Int} {f : Int → Int} (h : IsDist n ts p f) (v : Int) (v0 : 0 ≤ v) (v1 : v < n) : f v = dst n ts p v := h.uniq (dst_is h) v v0 v1
/-! ### there is a distance -/
inductive Rch (ts : List (Int × Int)) (p : Int) : Nat → Int → Prop
  | here : Rch ts p 0 p
  | step {k : Nat} {a b : Int} : Rch ts p k a → Adj ts a b → Rch ts p (k + 1) b
theorem least {P : Nat → Prop} (h : ∃ k, P k) : ∃ k, P k ∧ ∀ j, j < k → ¬ P j := by
  obtain ⟨k, hk⟩ := h
  induction k using Nat.strongRecOn with
  | _ k ih =>
    by_cases q : ∃ j, j < k ∧ P j
    · obtain ⟨j, h1, h2⟩ := q
      exact ih j h1 h2
    · exact ⟨k, hk, fun j hj hp => q ⟨j, hj, hp⟩⟩
theorem conn_ex {n : Int} {ts : List (Int × Int)} {p : Int} (hr : ∀ q ∈ ts, 0 ≤ q.1 ∧ q.1 < n ∧ 0 ≤ q.2 ∧ q.2 < n) (hc : Conn n ts) (p0 : 0 ≤ p) (p1 : p < n) : IsDist n ts p (dst n ts p) := by
  classical
  have all : ∀ v, 0 ≤ v → v < n → ∃ k, Rch ts p k v := hc.any (S := fun v => ∃ k, Rch ts p k v) p0 p1 ⟨0, .here⟩ fun q hq => ⟨fun ⟨k, h⟩ => ⟨k + 1, h.step (.inl hq)⟩, fun ⟨k, h⟩ => ⟨k + 1, h.step (.inr hq)⟩⟩
  have adj : ∀ a b, Adj ts a b → (0 ≤ a ∧ a < n) ∧ (0 ≤ b ∧ b < n) := fun a b h => by
    rcases h with h | h
    · have := hr _ h
      exact ⟨⟨this.1, this.2.1⟩, ⟨this.2.2.1, this.2.2.2⟩⟩
    · have := hr _ h
      exact ⟨⟨this.2.2.1, this.2.2.2⟩, ⟨this.1, this.2.1⟩⟩
  have key : ∀ v, ∃ d : Int, 0 ≤ d ∧ (0 ≤ v → v < n → ∃ k : Nat, d = k ∧ Rch ts p k v ∧ ∀ j, j < k → ¬ Rch ts p j v) := fun v => by
    by_cases hv : 0 ≤ v ∧ v < n
    · obtain ⟨k, h1, h2⟩ := least (all v hv.1 hv.2)
      exact ⟨k, by omega, fun _ _ => ⟨k, rfl, h1, h2⟩⟩
    · exact ⟨0, Int.le_refl 0, fun a b => absurd ⟨a, b⟩ hv⟩
  have hf : ∃ f : Int → Int, ∀ v, 0 ≤ f v ∧ (0 ≤ v → v < n → ∃ k : Nat, f v = k ∧ Rch ts p k v ∧ ∀ j, j < k → ¬ Rch ts p j v) := ⟨fun v => Classical.choose (key v), fun v => Classical.choose_spec (key v)⟩
  obtain ⟨f, hf⟩ := hf
  have lip : ∀ a b, Adj ts a b → f b ≤ f a + 1 := fun a b h => by
    obtain ⟨⟨a0, a1⟩, ⟨b0, b1⟩⟩ := adj a b h
    obtain ⟨k, e1, h1, _⟩ := (hf a).2 a0 a1
    obtain ⟨j, e2, _, h2⟩ := (hf b).2 b0 b1
    have : ¬ k + 1 < j := fun q => h2 (k + 1) q (h1.step h)
    omega
  refine dst_is (f := f) ⟨?_, fun v _ _ => (hf v).1, lip, fun v v0 v1 hne => ?_⟩
  · obtain ⟨k, e, _, h2⟩ := (hf p).2 p0 p1
    have : ¬ 0 < k := fun q => h2 0 q .here
    omega
  · obtain ⟨k, e, h1, h2⟩ := (hf v).2 v0 v1
    cases h1 with
    | here => exact absurd rfl hne
    | step h3 h4 =>
      rename_i j w
      obtain ⟨⟨w0, w1⟩, _⟩ := adj _ _ h4
      refine ⟨w, w0, w1, h4, ?_⟩
      obtain ⟨i, e2, _, h5⟩ := (hf w).2 w0 w1
      have h6 : ¬ j < i := fun q => h5 j q h3
      have := lip w v h4
      omega
end Z
/-! ZN: dicts as lists of pairs -/
namespace Z
open PySem L2
section
variable {κ β γ : Type} [DecidableEq κ]
def mkeys (m : List (κ × β)) : List κ := m.map (·.1)
theorem mget_nil (j : κ) : mget ([] : List (κ × β)) j = none := rfl
theorem mget_cons (p : κ × β) (m : List (κ × β)) (j : κ) : mget (p :: m) j = if p.1 = j then some p.2 else mget m j := by
  unfold mget
  by_cases h : p.1 = j
  · rw [List.find?_cons_of_pos (by simpa using h), if_pos h]
    rfl
  · rw [List.find?_cons_of_neg (by simpa using h), if_neg h]
theorem mget_append (m m' : List (κ × β)) (j : κ) : mget (m ++ m') j = (mget m j).or (mget m' j) := by
  induction m with
  | nil => rfl
  | cons p m ih =>
    rw [List.cons_append, mget_cons, mget_cons, ih]
    by_cases h : p.1 = j
    · rw [if_pos h, if_pos h]; rfl
    · rw [if_neg h, if_neg h]
theorem mhas_mget (m : List (κ × β)) (j : κ) : mhas m j = (mget m j).isSome := by
  unfold mhas mget
  rw [Option.isSome_map, List.isSome_find?]
theorem mhas_keys {m : List (κ × β)} {j : κ} : mhas m j = true ↔ j ∈ mkeys m := by
  rw [mhas_iff]
  unfold mkeys
  rw [List.mem_map]
theorem mget_mput (m : List (κ × β)) (k : κ) (v : β) (j : κ) : mget (mput m k v) j = if j = k then some v else mget m j := by
  cases h : mhas m k with
  | false =>
    rw [mput_new h, mget_append, mget_cons, mget_nil]
    by_cases e : j = k
    · subst e
      rw [if_pos rfl, if_pos rfl]
      rw [mhas_mget] at h
      cases q : mget m j with
      | none => rfl
      | some x => rw [q] at h; cases h
    · rw [if_neg (fun q => e q.symm), if_neg e]
      cases mget m j <;> rfl
  | true =>
    rw [mput_old h]
    by_cases e : j = k
    · subst e
      rw [if_pos rfl]
      induction m with
      | nil => cases h
      | cons p m ih =>
        rw [List.map_cons, mget_cons]
        by_cases q : p.1 = j
        · rw [if_pos q, if_pos q]
        · rw [if_neg q, if_neg q]
          refine ih ?_
          rw [mhas_mget, mget_cons, if_neg q, ← mhas_mget] at h
          exact h
    · rw [if_neg e]
      clear h
      induction m with
      | nil => rfl
      | cons p m ih =>
        rw [List.map_cons, mget_cons, mget_cons, ih]
        by_cases q : p.1 = k
        · rw [if_pos q, if_neg (by rw [q]; exact fun z => e z.symm), if_neg (by rw [q]; exact fun z => e z.symm)]
        · rw [if_neg q]
theorem mkeys_mput (m : List (κ × β)) (k : κ) (v : β) : mkeys (mput m k v) = if k ∈ mkeys m then mkeys m else mkeys m ++ [k] := by
  cases h : mhas m k with
  | false =>
    rw [mput_new h, if_neg (fun q => by rw [mhas_keys.mpr q] at h; cases h)]
    unfold mkeys
    rw [List.map_append]
    rfl
  | true =>
    rw [mput_old h, if_pos (mhas_keys.mp h)]
    unfold mkeys
    rw [List.map_map]
    refine List.map_congr_left fun p _ => ?_
    show (if p.1 = k then (p.1, v) else p).1 = p.1
    split <;> rfl
theorem mkeys_nodup {m : List (κ × β)} {k : κ} {v : β} (h : (mkeys m).Nodup) : (mkeys (mput m k v)).Nodup := by
  rw [mkeys_mput]
  split
  · exact h
  · rename_i q
    rw [List.nodup_append]
    refine ⟨h, by simp, fun a ha c hc e => ?_⟩
    rw [List.mem_singleton] at hc
    rw [e, hc] at ha
    exact q ha
theorem mkeys_length (m : List (κ × β)) : (mkeys m).length = m.length := List.length_map _
theorem mget_keys {m : List (κ × β)} {j : κ} : j ∈ mkeys m ↔ ∃ v, mget m j = some v := by
  rw [← mhas_keys, mhas_mget, Option.isSome_iff_exists]
end
end Z
namespace G
open PySem L2 Z
open Rep (rep)
open RepL (repTs)
def top (i : Nat) : Stmt := PySem.Challenge.pw_farhail_k57_whole_asks_of_known_webs.main.body.getD i (.Pass ⟨0, 0, 0, 0⟩)
abbrev s_near_lists : Stmt := top 8
abbrev s_fars_by : Stmt := top 9
abbrev s_sorted_ties : Stmt := top 10
abbrev s_made_web : Stmt := top 11
abbrev s_place_asked : Stmt := top 12
abbrev s_fars_from : Stmt := top 13
abbrev s_things_of : Stmt := top 15
abbrev s_few_things : Stmt := top 19
abbrev s_all_fars : Stmt := top 20
abbrev s_far_thing : Stmt := top 21
abbrev s_parts_by : Stmt := top 22
abbrev s_fewest_asks : Stmt := top 24
abbrev s_len_first : Stmt := top 25
abbrev s_plan_of_parts : Stmt := top 26
abbrev s_asks_of : Stmt := top 27
abbrev s_plan_asks : Stmt := top 28
abbrev s_is_row_shown : Stmt := top 29
abbrev s_table_shows : Stmt := top 30
abbrev s_law_cell_at : Stmt := top 32
abbrev s_law_folded : Stmt := top 33
abbrev s_law_state : Stmt := top 34
abbrev s_law_next : Stmt := top 35
abbrev s_law_web : Stmt := top 36
abbrev s_law_things : Stmt := top 37
abbrev s_law_few : Stmt := top 38
abbrev s_law_thing : Stmt := top 39
abbrev s_law_plan : Stmt := top 40
abbrev s_law_order : Stmt := top 41
abbrev s_law_renamed_right : Stmt := top 42
abbrev s_law_known_right : Stmt := top 43
abbrev s_law : Stmt := top 44
abbrev s_Asking_init : Stmt := inClass (top 23) 0
abbrev s_Asking_need : Stmt := inClass (top 23) 1
abbrev s_Asking_plan : Stmt := inClass (top 23) 2
abbrev AskingF : Type := (List (List Int)) × (List ((Tup Thing) × Int)) × (List ((Tup Thing) × Int)) × Unit
theorem fl_Asking_fars (u0 u1 u2 : V) : (mkfs [("fars" : Str), ("least" : Str), ("best" : Str)] [u0, u1, u2]).lookup ("fars" : Str) = some u0 := by kernel_rfl
theorem fl_Asking_least (u0 u1 u2 : V) : (mkfs [("fars" : Str), ("least" : Str), ("best" : Str)] [u0, u1, u2]).lookup ("least" : Str) = some u1 := by kernel_rfl
theorem fl_Asking_best (u0 u1 u2 : V) : (mkfs [("fars" : Str), ("least" : Str), ("best" : Str)] [u0, u1, u2]).lookup ("best" : Str) = some u2 := by kernel_rfl
theorem fm0_Asking_need (u0 u1 u2 : V) : (mkfs [("fars" : Str), ("least" : Str), ("best" : Str)] [u0, u1, u2]).lookup ("need" : Str) = none := by kernel_rfl
theorem fm0_Asking_plan (u0 u1 u2 : V) : (mkfs [("fars" : Str), ("least" : Str), ("best" : Str)] [u0, u1, u2]).lookup ("plan" : Str) = none := by kernel_rfl
abbrev names : List Str := ["TooMany", "NoPlace"]
/-! ### the mirrors -/
/-! near_lists -/
def near_lists (x_web : (Int × (Tup (Int × Int)))) : R (List (List Int)) := do
  let l4 ← rngI 0 x_web.1
  let l5 ← mapStG (fun (g5 : (List (List Int))) (b5 : Int) => do
      let r9 ← newS g5 ([] : (List Int))
      R.ok (r9.1, r9.2)) ([] : List (List Int)) l4
  let g11 ← foldR (fun (g11 : (List (List Int))) (b11 : (Int × Int)) => do
      let t14 ← getI l5.1 b11.1
      let x16 ← getS g11 t14
      let l17 ← app x16 b11.2
      let r17 ← setS g11 t14 l17
      let t18 ← getI l5.1 b11.2
      let x20 ← getS r17 t18
      let l21 ← app x20 b11.1
      let r21 ← setS r17 t18 l21
      R.ok r21) l5.2 x_web.2.l
  let l22 ← mapG (fun (b22 : Ix) => do
      let x26 ← getS g11 b22
      R.ok (sortI x26)) l5.1
  R.ok l22
/-! fars_by -/
def fars_by (x_near : (List (List Int))) (x_place : Int) : R (List (Option Int)) := do
  let l4 ← repR ([none] : (List (Option Int))) (x_near.length : Int)
  let l7 ← setI l4 x_place (some (0 : Int))
  let g11 ← whileR (fun (g11 : Int × (List Int) × (List (Option Int))) => do
      R.ok (decide (g11.1 < (g11.2.1.length : Int)))) (fun (g11 : Int × (List Int) × (List (Option Int))) => do
      let t13 ← getI g11.2.1 g11.1
      let t14 ← getI x_near t13
      let g12 ← foldR (fun (g12 : (List Int) × (List (Option Int))) (b12 : Int) => do
          let t17 ← getI g12.2 b12
          if t17.isNone = true then do
            let t20 ← getI g12.1 g11.1
            let t21 ← getI g12.2 t20
            let t23 ← ofO t21
            let l24 ← setI g12.2 b12 (some (t23 + (1 : Int)))
            let l26 ← app g12.1 b12
            R.ok (l26, l24)
          else do
            R.ok (g12.1, g12.2)) (g11.2.1, g11.2.2) t14
      R.ok ((g11.1 + (1 : Int)), g12.1, g12.2)) (fu 1000) ((0 : Int), ([x_place] : (List Int)), l7)
  R.ok g11.2.2
/-! sorted_ties -/
def sorted_ties (x_many : Int) (x_ties : (List (Int × Int))) : R (Tup (Int × Int)) := do
  let g4 ← foldR (fun (g4 : (List (Int × Int))) (b4 : (Int × Int)) => do
      if ((decide ((min2 b4.1 b4.2) < (0 : Int))) || ((decide (x_many ≤ (max2 b4.1 b4.2))) || ((decide (b4.1 = b4.2)) || (inB ((min2 b4.1 b4.2), (max2 b4.1 b4.2)) g4)))) = true then do
        R.bad
      else do
        let l17 ← app g4 ((min2 b4.1 b4.2), (max2 b4.1 b4.2))
        R.ok l17) ([] : (List (Int × Int))) x_ties
  R.ok (Tup.mk (sortP g4))
/-! sorted_ties -/
def sorted_tiesF (x_many : Int) (x_ties : (List (Int × Int))) : R (Tup (Int × Int)) := do
  let g4 ← foldR (fun (g4 : (List (Int × Int))) (b4 : (Int × Int)) => do
      if ((decide ((min2 b4.1 b4.2) < (0 : Int))) || ((decide (x_many ≤ (max2 b4.1 b4.2))) || ((decide (b4.1 = b4.2)) || (inB ((min2 b4.1 b4.2), (max2 b4.1 b4.2)) g4)))) = true then do
        R.bad
      else do
        let l17 ← app g4 ((min2 b4.1 b4.2), (max2 b4.1 b4.2))
        R.ok l17) ([] : (List (Int × Int))) x_ties
  R.ok (Tup.mk (sortP g4))
/-! made_web -/
def made_web (x_many : Int) (x_ties : (List (Int × Int))) : R (Int × (Tup (Int × Int))) := do
  if (!((decide ((1 : Int) ≤ x_many)) && (decide (x_many ≤ (60 : Int))))) = true then do
    R.bad
  else do
    let y7 ← sorted_ties x_many x_ties
    let y10 ← near_lists (x_many, y7)
    let y12 ← fars_by y10 (0 : Int)
    let l16 ← rngI 0 x_many
    let g15 ← foldR (fun (g15 : Unit) (b15 : Int) => do
        let t17 ← getI y12 b15
        if t17.isNone = true then do
          R.bad
        else do
          R.ok ()) () l16
    R.ok (x_many, y7)
/-! made_web -/
def made_webF (x_many : Int) (x_ties : (List (Int × Int))) : R (Int × (Tup (Int × Int))) := do
  if (!((decide ((1 : Int) ≤ x_many)) && (decide (x_many ≤ (60 : Int))))) = true then do
    R.bad
  else do
    let y7 ← sorted_tiesF x_many x_ties
    let y10 ← near_lists (x_many, y7)
    let y12 ← fars_by y10 (0 : Int)
    let l16 ← rngI 0 x_many
    let g15 ← foldR (fun (g15 : Unit) (b15 : Int) => do
        let t17 ← getI y12 b15
        if t17.isNone = true then do
          R.bad
        else do
          R.ok ()) () l16
    R.ok (x_many, y7)
/-! place_asked -/
def place_asked (x_web : (Int × (Tup (Int × Int)))) (x_place : Int) : R Unit := do
  if (!((decide ((0 : Int) ≤ x_place)) && (decide (x_place < x_web.1)))) = true then do
    R.bad
  else do
    R.ok ()
/-! fars_from -/
def fars_from (x_web : (Int × (Tup (Int × Int)))) (x_place : Int) : R (List Int) := do
  let y3 ← place_asked x_web x_place
  let y4 ← near_lists x_web
  let y6 ← fars_by y4 x_place
  let l8 ← allS y6
  R.ok l8
/-! things_of -/
def things_of (x_web : (Int × (Tup (Int × Int)))) (x_kind : Str) : R (List Thing) := do
  let l3 ← listRng 0 x_web.1
  if (decide (x_kind = ("places" : Str))) = true then do
    R.ok (mkpl l3)
  else do
    if (decide (x_kind = ("ties" : Str))) = true then do
      R.ok (mkti x_web.2.l)
    else do
      let l16 ← extend (mkpl l3) (mkti x_web.2.l)
      R.ok l16
/-! few_things -/
def few_things (x_web : (Int × (Tup (Int × Int)))) (x_kind : Str) : R (List Thing) := do
  let y3 ← things_of x_web x_kind
  if ((decide ((7 : Int) < x_web.1)) || (!((decide ((1 : Int) ≤ (y3.length : Int))) && (decide ((y3.length : Int) ≤ (8 : Int)))))) = true then do
    R.bad
  else do
    R.ok y3
/-! all_fars -/
def all_fars (x_web : (Int × (Tup (Int × Int)))) : R (List (List Int)) := do
  let l3 ← rngI 0 x_web.1
  let l4 ← mapG (fun (b4 : Int) => do
      let y6 ← fars_from x_web b4
      R.ok y6) l3
  R.ok l4
/-! far_thing -/
def far_thing (x_fars : (List (List Int))) (x_place : Int) (x_thing : Thing) : R Int := do
  if (!x_thing.isPl) = true then do
    let t5 ← asTi x_thing
    let t7 ← getI x_fars x_place
    let t9 ← getI t7 t5.1
    let t10 ← getI x_fars x_place
    let t12 ← getI t10 t5.2
    R.ok (min2 t9 t12)
  else do
    let t13 ← asPl x_thing
    let t14 ← getI x_fars x_place
    let t16 ← getI t14 t13
    R.ok t16
/-! parts_by -/
def parts_by (x_fars : (List (List Int))) (x_things : (Tup Thing)) (x_place : Int) : R (List (Int × (Tup Thing))) := do
  let g5 ← foldR (fun (g5 : (List (Int × Ix)) × (List (List Thing))) (b5 : Thing) => do
      let y8 ← far_thing x_fars x_place b5
      let r11 ← newS g5.2 ([] : (List Thing))
      let l12 ← msetdR g5.1 y8 r11.1
      let t12 ← mgetR l12 y8
      let x15 ← getS r11.2 t12
      let l16 ← app x15 b5
      let r16 ← setS r11.2 t12 l16
      R.ok (l12, r16)) (([] : (List (Int × Ix))), ([] : List (List Thing))) x_things.l
  let l20 ← mapG (fun (b20 : Int) => do
      let t23 ← mgetR g5.1 b20
      let x25 ← getS g5.2 t23
      R.ok (b20, (Tup.mk x25))) (sortI (g5.1.map (·.1)))
  R.ok l20
/-! Asking.__init__ -/
def Asking_init (x_web : (Int × (Tup (Int × Int)))) : R AskingF := do
  let y5 ← all_fars x_web
  R.ok (y5, ([] : (List ((Tup Thing) × Int))), ([] : (List ((Tup Thing) × Int))), ())
/-! Asking.need -/
def Asking_need_b (rc : AskingF → (Tup Thing) → R (Int × (List ((Tup Thing) × Int)) × (List ((Tup Thing) × Int)))) (x_self : AskingF) (x_things : (Tup Thing)) : R (Int × (List ((Tup Thing) × Int)) × (List ((Tup Thing) × Int))) := do
  if (mhas x_self.2.1 x_things) = true then do
    let t8 ← mgetR x_self.2.1 x_things
    R.ok (t8, x_self.2.1, x_self.2.2.1)
  else do
    let g9 ← (do
      if (decide ((1 : Int) < (x_things.l.length : Int))) = true then do
        let l12 ← rngI 0 (x_self.1.length : Int)
        let g11 ← foldR (fun (g11 : Int × (List ((Tup Thing) × Int)) × (List ((Tup Thing) × Int))) (b11 : Int) => do
            let y13 ← parts_by x_self.1 x_things b11
            if (decide ((1 : Int) < (y13.length : Int))) = true then do
              let l16 ← mapStG (fun (g16 : (List ((Tup Thing) × Int)) × (List ((Tup Thing) × Int))) (b16 : (Int × (Tup Thing))) => do
                  let y25 ← rc (x_self.1, g16.1, g16.2, ()) b16.2
                  R.ok (y25.1, (y25.2.1, y25.2.2))) (g11.2.1, g11.2.2) y13
              let t32 ← maxL l16.1
              if ((decide (((1 : Int) + t32) < g11.1)) || (!mhas l16.2.2 x_things)) = true then do
                let l40 ← mputR l16.2.2 x_things b11
                R.ok (((1 : Int) + t32), l16.2.1, l40)
              else do
                R.ok (g11.1, l16.2.1, l16.2.2)
            else do
              R.ok (g11.1, g11.2.1, g11.2.2)) ((x_things.l.length : Int), x_self.2.1, x_self.2.2.1) l12
        R.ok (g11.1, g11.2.1, g11.2.2)
      else do
        R.ok ((0 : Int), x_self.2.1, x_self.2.2.1) : R (Int × (List ((Tup Thing) × Int)) × (List ((Tup Thing) × Int))))
    let l42 ← mputR g9.2.1 x_things g9.1
    R.ok (g9.1, l42, g9.2.2)
def Asking_need : Nat → AskingF → (Tup Thing) → R (Int × (List ((Tup Thing) × Int)) × (List ((Tup Thing) × Int)))
  | 0, _, _ => R.bad
  | d + 1, x_self, x_things => Asking_need_b (Asking_need d) x_self x_things
/-! Asking.plan -/
def Asking_plan_b (rc : AskingF → (Tup Thing) → R Pl) (x_self : AskingF) (x_things : (Tup Thing)) : R Pl := do
  if (decide ((x_things.l.length : Int) = (1 : Int))) = true then do
    let t8 ← getI x_things.l (0 : Int)
    R.ok (Pl.is t8)
  else do
    let t11 ← mgetR x_self.2.2.1 x_things
    let y12 ← parts_by x_self.1 x_things t11
    let l14 ← mapG (fun (b14 : (Int × (Tup Thing))) => do
        let y23 ← rc (x_self.1, x_self.2.1, x_self.2.2.1, ()) b14.2
        R.ok (b14.1, y23)) y12
    R.ok (Pl.ask t11 l14)
def Asking_plan : Nat → AskingF → (Tup Thing) → R Pl
  | 0, _, _ => R.bad
  | d + 1, x_self, x_things => Asking_plan_b (Asking_plan d) x_self x_things
/-! len_first -/
def len_first (x_row : ((Tup Thing) × Int)) : R Int := do
  R.ok (x_row.1.l.length : Int)
/-! fewest_asks -/
def fewest_asks (x_web : (Int × (Tup (Int × Int)))) (x_kind : Str) : R (Nt (Int × Pl × (List ((Tup Thing) × Int)) × Unit)) := do
  let y3 ← few_things x_web x_kind
  let y7 ← Asking_init x_web
  let y19 ← Asking_need 20 (y7.1, y7.2.1, y7.2.2.1, ()) (Tup.mk y3)
  let l21 ← mapG (fun (b21 : (Tup Thing)) => do
      let t25 ← mgetR y19.2.1 b21
      R.ok (b21, t25)) (y19.2.1.map (·.1))
  let y34 ← Asking_plan 20 (y7.1, y19.2.1, y19.2.2, ()) (Tup.mk y3)
  let l36 ← sortByR len_first l21
  R.ok (Nt.mk (y19.1, y34, l36, ()) : (Nt (Int × Pl × (List ((Tup Thing) × Int)) × Unit)))
/-! plan_of_parts -/
def plan_of_parts (rc : (List (List Int)) → (Tup Thing) → Pl → R (Option Int)) (x_fars : (List (List Int))) (x_things : (Tup Thing)) (x_plan : Pl) : R (Option Int) := do
  let t4 ← asAsk x_plan
  let l5 ← listRng 0 (x_fars.length : Int)
  if (!inB t4.1 l5) = true then do
    R.ok none
  else do
    let y9 ← parts_by x_fars x_things t4.1
    let j11 ← (do
      if (decide ((y9.length : Int) < (2 : Int))) = true then do
        R.ok true
      else do
        let l14 ← mapG (fun (b14 : (Int × (Tup Thing))) => do
            R.ok b14.1) y9
        let l20 ← mapG (fun (b20 : (Int × Pl)) => do
            R.ok b20.1) t4.2
        R.ok (!decide (l14 = l20)) : R (Bool))
    if j11 = true then do
      R.ok none
    else do
      let l30 ← mapG (fun (b30 : ((Int × (Tup Thing)) × (Int × Pl))) => do
          let y37 ← rc x_fars b30.1.2 b30.2.2
          R.ok y37) (y9.zip t4.2)
      if (inB none l30) = true then do
        R.ok none
      else do
        let l42 ← allS l30
        let t43 ← maxL l42
        R.ok (some ((1 : Int) + t43))
/-! asks_of -/
def asks_of_b (rc : (List (List Int)) → (Tup Thing) → Pl → R (Option Int)) (x_fars : (List (List Int))) (x_things : (Tup Thing)) (x_plan : Pl) : R (Option Int) := do
  let j4 ← (do
    if (decide (((x_plan).lenN : Int) = (2 : Int))) = true then do
      R.ok (decide ((x_plan).w = ("is" : Str)))
    else do
      R.ok false : R (Bool))
  if j4 = true then do
    let t9 ← asIs x_plan
    let t14 ← getI ([none, (some (0 : Int))] : (List (Option Int))) (b2i (decide ((Tup.mk [t9] : (Tup Thing)) = x_things)))
    R.ok t14
  else do
    let j17 ← (do
      if (decide (((x_plan).lenN : Int) = (3 : Int))) = true then do
        R.ok (decide ((x_plan).w = ("ask" : Str)))
      else do
        R.ok false : R (Bool))
    if j17 = true then do
      let t22 ← asAsk x_plan
      let y23 ← plan_of_parts rc x_fars x_things (Pl.ask t22.1 t22.2)
      R.ok y23
    else do
      R.ok none
def asks_of : Nat → (List (List Int)) → (Tup Thing) → Pl → R (Option Int)
  | 0, _, _, _ => R.bad
  | d + 1, x_fars, x_things, x_plan => asks_of_b (asks_of d) x_fars x_things x_plan
/-! plan_asks -/
def plan_asks (x_web : (Int × (Tup (Int × Int)))) (x_kind : Str) (x_plan : Pl) : R (Option Int) := do
  let y4 ← few_things x_web x_kind
  let y8 ← all_fars x_web
  let y10 ← asks_of 20 y8 (Tup.mk y4) x_plan
  R.ok y10
/-! is_row_shown -/
def is_row_shown (x_fars : (List (List Int))) (x_known : (FzN Int)) (x_some : (Tup Thing)) : R Bool := do
  let t4 ← mgetR x_known.m x_some
  if ((decide (t4 = (0 : Int))) || ((decide ((1 : Int) < (x_some.l.length : Int))) && (decide (t4 = (1 : Int))))) = true then do
    R.ok true
  else do
    if ((decide ((x_some.l.length : Int) < (2 : Int))) || (decide (t4 < (0 : Int)))) = true then do
      R.ok false
    else do
      let l20 ← rngI 0 (x_fars.length : Int)
      let r19 ← foldX (fun (g19 : Unit) (b19 : Int) => do
          let y21 ← parts_by x_fars x_some b19
          let l23 ← mapG (fun (b23 : (Int × (Tup Thing))) => do
              R.ok (decide ((t4 - (1 : Int)) ≤ ((mget x_known.m b23.2).getD (0 : Int))))) y21
          if (!(l23.any id)) = true then do
            R.ok (.inl false)
          else do
            R.ok (.inr (true, ()))) () l20
      match r19 with
      | .inl z => R.ok z
      | .inr g19 => do
        R.ok true
/-! table_shows -/
def table_shows (x_web : (Int × (Tup (Int × Int)))) (x_kind : Str) (x_asks : Int) (x_table : (List ((Tup Thing) × Int))) : R Bool := do
  let y4 ← few_things x_web x_kind
  let r7 ← foldX (fun (g7 : (List ((Tup Thing) × Int))) (b7 : ((Tup Thing) × Int)) => do
      let j11 ← (do
        if b7.1.l.isEmpty = true then do
          R.ok true
        else do
          if (mhas g7 b7.1) = true then do
            R.ok true
          else do
            let l20 ← filG (fun (b20 : Thing) => do
                if (inB b20 b7.1.l) = true then do
                  R.ok (some b20)
                else
                  R.ok none) y4
            R.ok (!decide (b7.1.l = l20)) : R (Bool))
      if j11 = true then do
        R.ok (.inl false)
      else do
        let l31 ← mputR g7 b7.1 b7.2
        R.ok (.inr (true, l31))) ([] : (List ((Tup Thing) × Int))) x_table
  match r7 with
  | .inl z => R.ok z
  | .inr g7 => do
    let j33 ← (do
      if (!mhas g7 (Tup.mk y4)) = true then do
        R.ok true
      else do
        let t40 ← mgetR g7 (Tup.mk y4)
        R.ok (decide (t40 < x_asks)) : R (Bool))
    if j33 = true then do
      R.ok false
    else do
      let y45 ← all_fars x_web
      let l47 ← mapG (fun (b47 : (Tup Thing)) => do
          let y51 ← is_row_shown y45 (FzN.mk g7 : (FzN Int)) b47
          R.ok y51) (g7.map (·.1))
      R.ok (l47.all id)
/-! _law_cell_at -/
def law_cell_at (x_script : Scr) (x_k : Int) : R Int := do
  if (decide (x_k < (x_script.l.length : Int))) = true then do
    let t3 ← getI x_script.l x_k
    R.ok t3
  else do
    let g4 ← (do
      if (!decide (x_script = (⟨([] : (List Int))⟩ : Scr))) = true then do
        let t9 ← modI x_k (x_script.l.length : Int)
        let t10 ← getI x_script.l t9
        R.ok (t10 % (1000003 : Int))
      else do
        R.ok (0 : Int) : R (Int))
    R.ok ((g4 + ((104729 : Int) * x_k)) + (13 : Int))
/-! _law_folded -/
def law_folded (x_script : Scr) (x_many : Int) : R (List Int) := do
  let l2 ← rngI 0 x_many
  let l3 ← mapG (fun (b3 : Int) => do
      let y5 ← law_cell_at x_script b3
      R.ok y5) l2
  let l8 ← rngI x_many (x_script.l.length : Int)
  let g7 ← foldR (fun (g7 : (List Int)) (b7 : Int) => do
      let t9 ← modI b7 x_many
      let t10 ← getI g7 t9
      let t14 ← getI x_script.l b7
      let l17 ← setI g7 t9 ((((t10 % ((10 : Int) ^ ((60 : Int) : Int).toNat)) * (48271 : Int)) + t14) % (((10 : Int) ^ ((60 : Int) : Int).toNat) + (7 : Int)))
      R.ok l17) l3 l8
  R.ok g7
/-! _law_state -/
def law_state (x_cell : Int) : R (List Int) := do
  let g1 ← (do
    if (decide (((10 : Int) ^ ((18 : Int) : Int).toNat) ≤ x_cell)) = true then do
      R.ok x_cell
    else do
      R.ok (0 : Int) : R (Int))
  R.ok ([g1, ((((x_cell % (2147483629 : Int)) + (11 : Int)) * (48271 : Int)) % (2147483647 : Int))] : (List Int))
/-! _law_next -/
def law_next (x_state : (List Int)) (x_many : Int) : R (Int × (List Int)) := do
  let t2 ← getI x_state (0 : Int)
  if (decide ((0 : Int) < t2)) = true then do
    let t4 ← getI x_state (0 : Int)
    let t5 ← modI t4 x_many
    let t6 ← getI x_state (0 : Int)
    let t7 ← divI t6 x_many
    let l8 ← setI x_state (0 : Int) t7
    R.ok (t5, l8)
  else do
    let t10 ← getI x_state (1 : Int)
    let l13 ← setI x_state (1 : Int) (((t10 * (69621 : Int)) + (40692 : Int)) % (2147483647 : Int))
    let t15 ← getI l13 (1 : Int)
    let t16 ← getI l13 (1 : Int)
    let t17 ← mulI t15 t16
    let t20 ← modI ((t17 % (2147483629 : Int)) / (8 : Int)) x_many
    R.ok (t20, l13)
/-! _law_web -/
def law_web (x_state : (List Int)) (x_least : Int) (x_most : Int) : R ((Int × (Tup (Int × Int))) × (List Int)) := do
  let y2 ← law_next x_state ((x_most + (1 : Int)) - x_least)
  let y3 ← law_next y2.2 (9 : Int)
  let l4 ← rngI 0 ((x_least + y2.1) - (1 : Int))
  let l5 ← mapG (fun (b5 : Int) => do
      R.ok (b5, (b5 + (1 : Int)))) l4
  let g9 ← (do
    if ((decide (y3.1 = (1 : Int))) && (decide ((2 : Int) < (x_least + y2.1)))) = true then do
      let l16 ← app l5 ((0 : Int), ((x_least + y2.1) - (1 : Int)))
      R.ok l16
    else do
      R.ok l5 : R ((List (Int × Int))))
  let g18 ← (do
    if (decide (y3.1 = (2 : Int))) = true then do
      let l20 ← rngI (1 : Int) (x_least + y2.1)
      let l21 ← mapG (fun (b21 : Int) => do
          R.ok ((0 : Int), b21)) l20
      R.ok l21
    else do
      R.ok g9 : R ((List (Int × Int))))
  let g27 ← (do
    if (decide (y3.1 = (3 : Int))) = true then do
      let l31 ← rngI (1 : Int) (x_least + y2.1)
      let l32 ← mapG (fun (b32 : Int) => do
          R.ok ((0 : Int), b32)) l31
      let l36 ← extend (cutL g18 (some (1 : Int)) none) l32
      R.ok l36
    else do
      R.ok g18 : R ((List (Int × Int))))
  let g42 ← (do
    if (decide (y3.1 = (4 : Int))) = true then do
      let l48 ← rngI 0 (x_least + y2.1)
      let g47 ← foldR (fun (g47 : (List (Int × Int))) (b47 : Int) => do
          let l49 ← rngI 0 b47
          let l50 ← mapG (fun (b50 : Int) => do
              R.ok (b50, b47)) l49
          let l54 ← extend g47 l50
          R.ok l54) ([] : (List (Int × Int))) l48
      R.ok g47
    else do
      R.ok g27 : R ((List (Int × Int))))
  let g58 ← (do
    if (decide ((4 : Int) < y3.1)) = true then do
      let l60 ← rngI (1 : Int) (x_least + y2.1)
      let l61 ← mapStG (fun (g61 : (List Int)) (b61 : Int) => do
          let y64 ← law_next g61 b61
          R.ok ((y64.1, b61), y64.2)) y3.2 l60
      let y72 ← law_next l61.2 (7 : Int)
      let l73 ← rngI 0 y72.1
      let g70 ← foldR (fun (g70 : (List Int) × (List (Int × Int))) (b70 : Int) => do
          let y74 ← law_next g70.1 (x_least + y2.1)
          let y75 ← law_next y74.2 (x_least + y2.1)
          if ((decide (y74.1 < y75.1)) && (!inB (y74.1, y75.1) g70.2)) = true then do
            let l83 ← app g70.2 (y74.1, y75.1)
            R.ok (y75.2, l83)
          else do
            R.ok (y75.2, g70.2)) (y72.2, l61.1) l73
      R.ok (g70.2, g70.1)
    else do
      R.ok (g42, y3.2) : R ((List (Int × Int)) × (List Int)))
  let l90 ← rngI 0 (x_least + y2.1)
  let g89 ← foldR (fun (g89 : (List Int) × (List Int)) (b89 : Int) => do
      let y92 ← law_next g89.2 (b89 + (1 : Int))
      let l93 ← insR g89.1 y92.1 b89
      R.ok (l93, y92.2)) (([] : (List Int)), g58.2) l90
  let l97 ← mapG (fun (b97 : (Int × Int)) => do
      let t101 ← getI g89.1 b97.1
      let t102 ← getI g89.1 b97.2
      R.ok (t101, t102)) g58.1
  let y105 ← made_web (x_least + y2.1) l97
  R.ok (y105, g89.2)
/-! _law_things -/
def law_things (x_web : (Int × (Tup (Int × Int)))) (x_kind : Str) : R (List Thing) := do
  let l3 ← listRng 0 x_web.1
  let l6 ← repR l3 (b2i (!decide (x_kind = ("ties" : Str))))
  let l10 ← repR x_web.2.l (b2i (!decide (x_kind = ("places" : Str))))
  let l14 ← extend (mkpl l6) (mkti l10)
  R.ok l14
/-! _law_few -/
def law_few (x_state : (List Int)) (x_least : Int) : R ((Nt ((Int × (Tup (Int × Int))) × Str × (List Thing) × Unit)) × (List Int)) := do
  let y2 ← law_web x_state x_least (7 : Int)
  let y8 ← law_next y2.2 (3 : Int)
  let t9 ← getI ([("places" : Str), ("ties" : Str), ("all" : Str)] : (List Str)) y8.1
  let g11 ← (do
    let j12 ← (do
      let y13 ← law_things y2.1 t9
      if (decide ((1 : Int) ≤ (y13.length : Int))) = true then do
        R.ok (decide ((y13.length : Int) ≤ (8 : Int)))
      else do
        R.ok false : R (Bool))
    if (!j12) = true then do
      R.ok ("places" : Str)
    else do
      R.ok t9 : R (Str))
  let y21 ← law_things y2.1 g11
  R.ok ((Nt.mk (y2.1, g11, y21, ()) : (Nt ((Int × (Tup (Int × Int))) × Str × (List Thing) × Unit))), y8.2)
/-! _law_thing -/
def law_thing (x_names : (List Int)) (x_thing : Thing) : R Thing := do
  if (!x_thing.isPl) = true then do
    let t5 ← asTi x_thing
    let t7 ← getI x_names t5.1
    let t8 ← getI x_names t5.2
    let t9 ← getI x_names t5.1
    let t10 ← getI x_names t5.2
    R.ok (Thing.ti (min2 t7 t8) (max2 t9 t10))
  else do
    let t12 ← asPl x_thing
    let t13 ← getI x_names t12
    R.ok (Thing.pl t13)
/-! _law_plan -/
def law_plan_b (rc : (List Int) → Pl → R Pl) (x_names : (List Int)) (x_plan : Pl) : R Pl := do
  if (decide ((x_plan).w = ("is" : Str))) = true then do
    let t4 ← asIs x_plan
    let y5 ← law_thing x_names t4
    R.ok (Pl.is y5)
  else do
    let t8 ← asAsk x_plan
    let l9 ← mapG (fun (b9 : (Int × Pl)) => do
        let y14 ← rc x_names b9.2
        R.ok (b9.1, y14)) t8.2
    let t19 ← getI x_names t8.1
    R.ok (Pl.ask t19 l9)
def law_plan : Nat → (List Int) → Pl → R Pl
  | 0, _, _ => R.bad
  | d + 1, x_names, x_plan => law_plan_b (law_plan d) x_names x_plan
/-! _law_order -/
def law_order (x_state : (List Int)) (x_many : Int) : R ((List Int) × (List Int)) := do
  let l5 ← rngI 0 x_many
  let g4 ← foldR (fun (g4 : (List Int) × (List Int)) (b4 : Int) => do
      let y7 ← law_next g4.2 (b4 + (1 : Int))
      let l8 ← insR g4.1 y7.1 b4
      R.ok (l8, y7.2)) (([] : (List Int)), x_state) l5
  R.ok (g4.1, g4.2)
/-! _law_renamed_right -/
def law_renamed_right (x_state : (List Int)) (x_web : (Int × (Tup (Int × Int)))) (x_kind : Str) : R (Bool × (List Int)) := do
  let y4 ← fewest_asks x_web x_kind
  let y8 ← law_order x_state x_web.1
  let l11 ← mapG (fun (b11 : (Int × Int)) => do
      let t15 ← getI y8.1 b11.1
      let t16 ← getI y8.1 b11.2
      R.ok (t15, t16)) x_web.2.l
  let y19 ← made_web x_web.1 l11
  let j23 ← (do
    let y24 ← fewest_asks y19 x_kind
    if (!decide (y24.v.1 = y4.v.1)) = true then do
      R.ok true
    else do
      let y30 ← law_plan 20 y8.1 y4.v.2.1
      let y32 ← plan_asks y19 x_kind y30
      R.ok (!decide (y32 = (some y4.v.1))) : R (Bool))
  if j23 = true then do
    R.ok (false, y8.2)
  else do
    let y36 ← things_of y19 x_kind
    let g41 ← foldR (fun (g41 : (List ((Tup Thing) × Int))) (b41 : ((Tup Thing) × Int)) => do
        let l45 ← mapG (fun (b45 : Thing) => do
            let y49 ← law_thing y8.1 b45
            R.ok y49) b41.1.l
        let l53 ← filG (fun (b53 : Thing) => do
            if (inB b53 l45) = true then do
              R.ok (some b53)
            else
              R.ok none) y36
        let l62 ← app g41 ((Tup.mk l53), b41.2)
        R.ok l62) ([] : (List ((Tup Thing) × Int))) y4.v.2.2.1
    let y66 ← table_shows y19 x_kind y4.v.1 g41
    R.ok (y66, y8.2)
/-! _law_known_right -/
def law_known_right (x_state : (List Int)) : R (Bool × (List Int)) := do
  let y2 ← law_next x_state (6 : Int)
  let y3 ← law_order y2.2 ((2 : Int) + y2.1)
  let l9 ← rngI 0 ((2 : Int) + y2.1)
  let g8 ← foldR (fun (g8 : (List (Int × Int))) (b8 : Int) => do
      let l10 ← rngI 0 b8
      let l11 ← mapG (fun (b11 : Int) => do
          let t13 ← getI y3.1 b8
          let t14 ← getI y3.1 b11
          R.ok (t13, t14)) l10
      let l17 ← extend g8 l11
      R.ok l17) ([] : (List (Int × Int))) l9
  let l20 ← rngI 0 (((2 : Int) + y2.1) - (1 : Int))
  let l21 ← mapG (fun (b21 : Int) => do
      let t23 ← getI y3.1 b21
      let t24 ← getI y3.1 (b21 + (1 : Int))
      R.ok (t23, t24)) l20
  let l28 ← rngI (1 : Int) ((2 : Int) + y2.1)
  let l29 ← mapG (fun (b29 : Int) => do
      let t31 ← getI y3.1 (0 : Int)
      let t32 ← getI y3.1 b29
      R.ok (t31, t32)) l28
  let r36 ← foldX (fun (g36 : Unit) (b36 : ((List (Int × Int)) × Int)) => do
      let y47 ← made_webF ((2 : Int) + y2.1) b36.1
      let y50 ← fewest_asks y47 ("places" : Str)
      let j54 ← (do
        if (!decide (y50.v.1 = b36.2)) = true then do
          R.ok true
        else do
          let y57 ← table_shows y47 ("places" : Str) b36.2 y50.v.2.2.1
          if (!y57) = true then do
            R.ok true
          else do
            let y60 ← table_shows y47 ("places" : Str) (b36.2 + (1 : Int)) y50.v.2.2.1
            R.ok y60 : R (Bool))
      if j54 = true then do
        R.ok (.inl (false, y3.2))
      else do
        R.ok (.inr (true, ()))) () ([(l21, (1 : Int)), (l29, (max2 (1 : Int) (((2 : Int) + y2.1) - (2 : Int)))), (g8, (((2 : Int) + y2.1) - (1 : Int)))] : (List ((List (Int × Int)) × Int)))
  match r36 with
  | .inl z => R.ok z
  | .inr g36 => do
    R.ok (true, y3.2)
/-! law -/
def law (x_script : Scr) : R Bool := do
  let y3 ← law_folded x_script (4 : Int)
  let r2 ← foldX (fun (g2 : Unit) (b2 : Int) => do
      let y7 ← law_state b2
      let y9 ← law_few y7 (2 : Int)
      let j14 ← (do
        let y15 ← law_renamed_right y9.2 y9.1.v.1 y9.1.v.2.1
        if (!y15.1) = true then do
          R.ok (true, y15.2)
        else do
          let y18 ← law_known_right y15.2
          R.ok ((!y18.1), y18.2) : R (Bool × (List Int)))
      if j14.1 = true then do
        R.ok (.inl false)
      else do
        R.ok (.inr (true, ()))) () y3
  match r2 with
  | .inl z => R.ok z
  | .inr g2 => do
    R.ok true
/-! ### what the top has written -/
structure Dn (K : Fg) (mg : Str → Option Value) (x y : Str) (st : Stmt) (ps : List Str) (f : Addr) (fd : FuncData) : Prop where
  fn : Fun K y y st f fd
  mg : mg x = some (.ref f)
  b : Binds K fd ps []
structure Dm (K : Fg) (C : Addr) (x y : Str) (st : Stmt) (ps : List Str) (f : Addr) (fd : FuncData) : Prop where
  fn : Fun K x y st f fd
  mt : Meth K C x f
  b : Binds K fd ps []
structure Tx (K : Fg) (mg : Str → Option Value) (A : Nat → Addr) (FD : Nat → FuncData) : Prop where
  d8 : Dn K mg "near_lists" "near_lists" s_near_lists ["web"] (A 8) (FD 8)
  d9 : Dn K mg "fars_by" "fars_by" s_fars_by ["near", "place"] (A 9) (FD 9)
  d10 : Dn K mg "sorted_ties" "sorted_ties" s_sorted_ties ["many", "ties"] (A 10) (FD 10)
  d11 : Dn K mg "made_web" "made_web" s_made_web ["many", "ties"] (A 11) (FD 11)
  d12 : Dn K mg "place_asked" "place_asked" s_place_asked ["web", "place"] (A 12) (FD 12)
  d13 : Dn K mg "fars_from" "fars_from" s_fars_from ["web", "place"] (A 13) (FD 13)
  d15 : Dn K mg "things_of" "things_of" s_things_of ["web", "kind"] (A 15) (FD 15)
  d19 : Dn K mg "few_things" "few_things" s_few_things ["web", "kind"] (A 19) (FD 19)
  d20 : Dn K mg "all_fars" "all_fars" s_all_fars ["web"] (A 20) (FD 20)
  d21 : Dn K mg "far_thing" "far_thing" s_far_thing ["fars", "place", "thing"] (A 21) (FD 21)
  d22 : Dn K mg "parts_by" "parts_by" s_parts_by ["fars", "things", "place"] (A 22) (FD 22)
  d24 : Dn K mg "fewest_asks" "fewest_asks" s_fewest_asks ["web", "kind"] (A 24) (FD 24)
  d25 : Dn K mg "len_first" "len_first" s_len_first ["row"] (A 25) (FD 25)
  d26 : Dn K mg "plan_of_parts" "plan_of_parts" s_plan_of_parts ["fars", "things", "plan"] (A 26) (FD 26)
  d27 : Dn K mg "asks_of" "asks_of" s_asks_of ["fars", "things", "plan"] (A 27) (FD 27)
  d28 : Dn K mg "plan_asks" "plan_asks" s_plan_asks ["web", "kind", "plan"] (A 28) (FD 28)
  d29 : Dn K mg "is_row_shown" "is_row_shown" s_is_row_shown ["fars", "known", "some"] (A 29) (FD 29)
  d30 : Dn K mg "table_shows" "table_shows" s_table_shows ["web", "kind", "asks", "table"] (A 30) (FD 30)
  d32 : Dn K mg "_law_cell_at" "_law_cell_at" s_law_cell_at ["script", "k"] (A 32) (FD 32)
  d33 : Dn K mg "_law_folded" "_law_folded" s_law_folded ["script", "many"] (A 33) (FD 33)
  d34 : Dn K mg "_law_state" "_law_state" s_law_state ["cell"] (A 34) (FD 34)
  d35 : Dn K mg "_law_next" "_law_next" s_law_next ["state", "many"] (A 35) (FD 35)
  d36 : Dn K mg "_law_web" "_law_web" s_law_web ["state", "least", "most"] (A 36) (FD 36)
  d37 : Dn K mg "_law_things" "_law_things" s_law_things ["web", "kind"] (A 37) (FD 37)
  d38 : Dn K mg "_law_few" "_law_few" s_law_few ["state", "least"] (A 38) (FD 38)
  d39 : Dn K mg "_law_thing" "_law_thing" s_law_thing ["names", "thing"] (A 39) (FD 39)
  d40 : Dn K mg "_law_plan" "_law_plan" s_law_plan ["names", "plan"] (A 40) (FD 40)
  d41 : Dn K mg "_law_order" "_law_order" s_law_order ["state", "many"] (A 41) (FD 41)
  d42 : Dn K mg "_law_renamed_right" "_law_renamed_right" s_law_renamed_right ["state", "web", "kind"] (A 42) (FD 42)
  d43 : Dn K mg "_law_known_right" "_law_known_right" s_law_known_right ["state"] (A 43) (FD 43)
  d44 : Dn K mg "law" "law" s_law ["script"] (A 44) (FD 44)
  d24000 : Dm K (A 23) "__init__" "Asking.__init__" s_Asking_init ["self", "web"] (A 24000) (FD 24000)
  d24001 : Dm K (A 23) "need" "Asking.need" s_Asking_need ["self", "things"] (A 24001) (FD 24001)
  d24002 : Dm K (A 23) "plan" "Asking.plan" s_Asking_plan ["self", "things"] (A 24002) (FD 24002)
  n_all : mg "all" = none
  n_any : mg "any" = none
  n_int : mg "int" = none
  n_isinstance : mg "isinstance" = none
  n_len : mg "len" = none
  n_list : mg "list" = none
  n_max : mg "max" = none
  n_min : mg "min" = none
  n_range : mg "range" = none
  n_sorted : mg "sorted" = none
  n_tuple : mg "tuple" = none
  n_zip : mg "zip" = none
  c_MOST_PLACES_asks : ∃ t, mg "MOST_PLACES_asks" = some (.int 7 t)
  c_MOST_PLACES_webs : ∃ t, mg "MOST_PLACES_webs" = some (.int 60 t)
  c_MOST_THINGS : ∃ t, mg "MOST_THINGS" = some (.int 8 t)
  cl_Asking : Cls K (A 23)
  nm_Asking : Nm K "Asking" (A 23)
  mg_Asking : mg "Asking" = some (.ref (A 23))
  mk_Asking : Mk K (A 23) (A 24000)
  na_Asking_fars : NoAttr K (A 23) "fars"
  na_Asking_least : NoAttr K (A 23) "least"
  na_Asking_best : NoAttr K (A 23) "best"
  x_TooMany : XC K mg "TooMany" (A 4)
  x_NoPlace : XC K mg "NoPlace" (A 3)
theorem Tx.exc {K : Fg} {mg : Str → Option Value} {A : Nat → Addr} {FD : Nat → FuncData} (T : Tx K mg A FD) {x : Str} {C : Addr} (h : x ∈ names) (n : Nm K x C) : ExcC K C := by
  simp only [names, List.mem_cons, List.mem_nil_iff, or_false] at h
  rcases h with rfl | rfl
  · obtain rfl := n.uniq T.x_TooMany.ns; exact T.x_TooMany.ex
  · obtain rfl := n.uniq T.x_NoPlace.ns; exact T.x_NoPlace.ex
section
variable {P : Program} {w : World} {K : PySem.W.Frag} {mg : Str → Option Value} {base : Heap} {A : Nat → Addr} {FD : Nat → FuncData}
def sp_near_lists (K : Fg) : Sp := fun vs H Q E => ∃ (F : Hp) (os : List (Addr × HO)) (v_web : V) (x_web : (Int × (Tup (Int × Int)))), vs = [v_web] ∧ W F H (os) ∧ rep K F v_web x_web ∧ Post (near_lists x_web) (Ret K F os Q) noX
theorem sc_near_lists : FnScope ["web", "found", "one", "other", "place", "row"] ["web"] (defScope s_near_lists) := ⟨rfl, rfl, rfl, by decide +kernel, rfl, by decide +kernel, by decide +kernel⟩
theorem ok_near_lists (T : Tx K mg A FD) : FnOk P w K mg base CX0 1 (A 8) (FD 8) ["web"] (sp_near_lists K) := by
  refine T.d8.fn.ok sc_near_lists (fun vs H Q E h => ?_) (fun cdv Ar outer s H vs Q E hr h => ?_)
  · obtain ⟨F, os, v_web, x_web, rfl, _⟩ := h
    rfl
  · obtain ⟨F0, os, v_web, x_web, rfl, w0, r_web, hm⟩ := h
    have sF : Same F0 F0 := Same.refl _
    obtain ⟨a1, u1, z1, rfl, q1, r1a, r1b⟩ := r_web
    obtain rfl : u1 = V.int x_web.1 := r1a
    obtain ⟨a2, vs2, rfl, q2, h2⟩ := r1b
    have hr_g : Sto K F0 [] [] ([] : List (List Int)) := Sto.nil
    replace w0 : W F0 _ ((nz [] [] ++ os)) := w0
    refine ⟨_, (pss_cons (ps_setLc (i := 1) (own := [("place", 4)]) (g := gName 4) (by rfl) sc_near_lists.nd rfl rfl (sw_true rfl rfl rfl (by decide +kernel)) (pi_range1 (by rfl) T.n_range (pa_cons (pe_ix (ix_tupK (K := K) rfl) (pv 0) pe_int (fun _ _ => rfl)) pa_nil)) (blkOk_by (own := [("place", 4)]) (N := ["web", "found", "one", "other", "place", "row"]) (sc := defScope s_near_lists) (by decide +kernel)) (fun _ _ _ _ _ => (pg_name (i := 4) sc_near_lists.nd rfl (Or.inl rfl))) (fun _ _ _ _ _ => pts_nil) (fun _ _ _ _ _ => (pe_lst pa_nil))) (pss_cons (ps_for PassesOwn.never rfl (pi_tupK (K := K) rfl (pe_ix (ix_tupK (K := K) rfl) (pv 0) pe_int (fun _ _ => rfl))) (pg_k (K := K) (t := fun K => gTup K 2 _) rfl (pg_tup (n := 2) rfl (pgs_cons (pg_name (i := 2) sc_near_lists.nd rfl (Or.inl rfl)) (pgs_cons (pg_name (i := 3) sc_near_lists.nd rfl (Or.inl rfl)) pgs_nil)))) (pss_cons (ps_expr (pe_bm PySem.F.plainAttrs_list PySem.F.slot_list_append PySem.F.type_list_append mt_append (pe_ix (ix_listK (K := K) rfl) (pv 1) (pv 2) (fun _ _ => rfl)) (pa_cons (pv 3) pa_nil))) (pss_one (ps_expr (pe_bm PySem.F.plainAttrs_list PySem.F.slot_list_append PySem.F.type_list_append mt_append (pe_ix (ix_listK (K := K) rfl) (pv 1) (pv 3) (fun _ _ => rfl)) (pa_cons (pv 2) pa_nil)))))) (pss_one (ps_ret (pe_lc (own := [("row", 5)]) (g := gName 5) (by rfl) sc_near_lists.nd (pi_listK (K := K) rfl (pv 1)) (blkOk_by (own := [("row", 5)]) (N := ["web", "found", "one", "other", "place", "row"]) (sc := defScope s_near_lists) (by decide +kernel)) (fun _ _ _ _ _ => (pg_name (i := 5) sc_near_lists.nd rfl (Or.inl rfl))) (fun _ _ _ _ _ => pts_nil) (fun _ _ _ _ _ => (pe_callB (cr_sortI (K := K) rfl) (by rfl) T.n_sorted (by decide +kernel) (pa_cons (pv 5) pa_nil)))))))), ?_⟩
    obtain ⟨c4, hm⟩ := pb_rng hm
    refine ⟨_, rfl, _, _, _, _, rfl, rfl, SqT.of (w0.same _ _ q1), rfl, _, rfl, c4.2.2.1, c4.2.2.2, fun D5 nD5 => ?_⟩
    refine lcGM (tw_rng0 (j := x_web.1)) hm (fun (g5 : (List (List Int))) F' os' us ys => ∃ (as5_0 : List Addr) (vs5_0 : List (List V)), os' = (nz as5_0 vs5_0 ++ os) ∧ [] <+: as5_0 ∧ Sto K F' as5_0 vs5_0 g5 ∧ A2 (RX as5_0) us ys) w0 ⟨_, _, rfl, pfx_refl, hr_g, .nil⟩ nD5 (fun _ _ _ _ _ o => by obtain ⟨_, _, rfl, _, _, h⟩ := o; exact h.length) (fun g F' H' os' acc ys s w o => by obtain ⟨_, _, rfl, _, _, _⟩ := o; exact trivial) ?_ ?_
    · -- one turn
      intro b5 g5 x5 F5 H5 H5' os5 acc5 ya5 N5 P5 s5 w5 o5 y5 hN5 hm
      obtain ⟨as5_0, vs5_0, rfl, p5_0, h5_0, ha5⟩ := o5
      replace q1 := s5 _ _ q1
      replace q2 := s5 _ _ q2
      replace h2 := A2.mono s5 h2
      replace sF := sF.trans s5
      obtain ⟨rfl, rfl⟩ := y5
      have h7 : A2 (rep K F5) [] ([] : (List Int)) := .nil
      refine ⟨rfl, (by show 0 ≤ sizeLine; decide), fun p8 n8 => ?_⟩
      have w8 : W F5 _ ((p8, .lst []) :: (D5, .lst acc5) :: (nz as5_0 vs5_0 ++ os)) := w5.new n8
      obtain ⟨j9, st9, ej9, es9, hm⟩ := pn_newS hm
      have w9 : W F5 _ ((D5, .lst acc5) :: (nz (as5_0 ++ [p8]) (vs5_0 ++ [[]]) ++ os)) := w8.nadd (pre := [_]) h5_0.len
      have q9 : (as5_0 ++ [p8])[j9]? = some p8 := IQ.new (h5_0.len2.trans ej9.symm)
      have h9 : Sto K F5 (as5_0 ++ [p8]) (vs5_0 ++ [[]]) st9 := es9 ▸ Sto.snoc (p := p8) h5_0 h7
      replace ha5 := A2.imp (fun _ _ => RX.mono (pfx_snoc (p := p8))) ha5
      exact hN5 _ _ (post_ok hm) _ _ _ _ w9 (Same.refl _) ⟨_, _, rfl, (pfx_trans p5_0 (pfx_snoc (p := p8))), h9, A2.snoc ha5 ⟨_, rfl, q9⟩⟩
    intro g5 us5 F5 H5 os5 ys5 s5 w5 o5 hm
    obtain ⟨as5_0, vs5_0, rfl, p5_0, h5_0, gg5⟩ := o5
    replace q1 := s5 _ _ q1
    replace q2 := s5 _ _ q2
    replace h2 := A2.mono s5 h2
    replace sF := sF.trans s5
    refine ⟨_, rfl, _, _, _, _, rfl, rfl, SqT.of (w5.same _ _ q1), rfl, _, rfl, ⟨_, SqT.of (w5.same _ _ q2)⟩, ?_⟩
    refine forS (tw_tup (a := a2) h2) hm (fun (g11 : (List (List Int))) σ H' => ∃ (F' : Hp) (as11_0 : List Addr) (vs11_0 : List (List V)) (o11_2 : Option V) (o11_3 : Option V), σ = [some (.ref a1), some (.ref D5), o11_2, o11_3, none, none] ∧ Same F5 F' ∧ W F' H' ((D5, .lst us5) :: (nz as11_0 vs11_0 ++ os)) ∧ as5_0 <+: as11_0 ∧ Sto K F' as11_0 vs11_0 g11) ⟨_, _, _, _, _, rfl, Same.refl _, w5, pfx_refl, h5_0⟩ (fun g σ H' hI => by obtain ⟨F', _, _, _, _, _, s, w, _⟩ := hI; exact SqT.of (w.same _ _ (s _ _ q2))) ?_ ?_
    · -- a turn
      intro b11 g11 x11 σ11 H11 H11' N11 P11 hI hy hN11 hm
      obtain ⟨F11, as11_0, vs11_0, o11_2, o11_3, rfl, s11, w11, p11_0, h11_0⟩ := hI
      replace q1 := s11 _ _ q1
      replace h2 := A2.mono s11 h2
      replace q2 := s11 _ _ q2
      replace sF := sF.trans s11
      replace gg5 := A2.imp (fun _ _ => RX.mono p11_0) gg5
      obtain ⟨rfl, r12⟩ := hy
      replace r12 := Rep.mono s11 r12
      obtain ⟨a13, u13, z13, rfl, q13, r13a, r13b⟩ := r12
      obtain rfl : u13 = V.int b11.1 := r13a
      obtain rfl : z13 = V.int b11.2 := r13b
      obtain ⟨t14, e14, hm⟩ := pb_get hm
      obtain ⟨u14, f14, r14⟩ := A2.at gg5 e14
      obtain ⟨a15, rfl, q15⟩ := r14
      obtain ⟨x16, e16, hm⟩ := pb_getS hm
      obtain ⟨vs16, i16, h16⟩ := Sto.getq h11_0 e16 q15
      obtain ⟨l17, z17, e17, hm⟩ := pn_app hm
      obtain ⟨st17, es17, hm⟩ := pn_setS hm
      refine ⟨_, _, rfl, SqT.of (w11.same _ _ q13), rfl, _, _, rfl, _, _, rfl, rfl, _, rfl, _, rfl, _, _, _, _, rfl, rfl, SqL.of (w11.get (pre := [])), f14, .inl ⟨rfl, _, SqL.of (W.nget (pre := [_]) w11 q15 i16)⟩, _, rfl, _, _, _, rfl, rfl, (W.nget (pre := [_]) w11 q15 i16), (A2.lt h16 z17), ?_⟩
      have h17 : Sto K F11 as11_0 (vs11_0.set t14 (vs16 ++ [(V.int b11.2)])) st17 := es17 ▸ Sto.set h11_0 (e17 ▸ A2.snoc h16 rep_i)
      have w17 : W F11 _ ((D5, .lst us5) :: (nz as11_0 (vs11_0.set t14 (vs16 ++ [(V.int b11.2)])) ++ os)) := w11.nset (pre := [_]) (vs16 ++ [(V.int b11.2)]) q15 i16
      obtain ⟨t18, e18, hm⟩ := pb_get hm
      obtain ⟨u18, f18, r18⟩ := A2.at gg5 e18
      obtain ⟨a19, rfl, q19⟩ := r18
      obtain ⟨x20, e20, hm⟩ := pb_getS hm
      obtain ⟨vs20, i20, h20⟩ := Sto.getq h17 e20 q19
      obtain ⟨l21, z21, e21, hm⟩ := pn_app hm
      obtain ⟨st21, es21, hm⟩ := pn_setS hm
      refine ⟨_, rfl, _, rfl, _, _, _, _, rfl, rfl, SqL.of (w17.get (pre := [])), f18, .inl ⟨rfl, _, SqL.of (W.nget (pre := [_]) w17 q19 i20)⟩, _, rfl, _, _, _, rfl, rfl, (W.nget (pre := [_]) w17 q19 i20), (A2.lt h20 z21), ?_⟩
      have h21 : Sto K F11 as11_0 ((vs11_0.set t14 (vs16 ++ [(V.int b11.2)])).set t18 (vs20 ++ [(V.int b11.1)])) st21 := es21 ▸ Sto.set h17 (e21 ▸ A2.snoc h20 rep_i)
      have w21 : W F11 _ ((D5, .lst us5) :: (nz as11_0 ((vs11_0.set t14 (vs16 ++ [(V.int b11.2)])).set t18 (vs20 ++ [(V.int b11.1)])) ++ os)) := w17.nset (pre := [_]) (vs20 ++ [(V.int b11.1)]) q19 i20
      exact hN11 _ (post_ok hm) _ _ ⟨_, _, _, _, _, rfl, s11, w21, p11_0, h21⟩
    intro g11 σ11 H11 hI hm
    obtain ⟨F11, as11_0, vs11_0, o11_2, o11_3, rfl, s11, w11, p11_0, h11_0⟩ := hI
    replace q1 := s11 _ _ q1
    replace h2 := A2.mono s11 h2
    replace q2 := s11 _ _ q2
    replace sF := sF.trans s11
    replace gg5 := A2.imp (fun _ _ => RX.mono p11_0) gg5
    refine ⟨_, rfl, _, rfl, ⟨_, SqL.of (w11.get (pre := []))⟩, fun D22 nD22 => ?_⟩
    refine lcM (K := K) (tw_listR (a := D5) gg5) hm w11 nD22 (fun F' H' acc s w => SqL.of (w.get (pre := [_]))) ?_ ?_
    · -- one turn
      intro b22 x22 F22 H22 H22' acc22 N22 P22 s22 w22 y22 hN22 hm
      replace q1 := s22 _ _ q1
      replace h2 := A2.mono s22 h2
      replace q2 := s22 _ _ q2
      replace h11_0 := Sto.mono s22 h11_0
      replace sF := sF.trans s22
      obtain ⟨rfl, r24⟩ := y22
      obtain ⟨a25, rfl, q25⟩ := r24
      obtain ⟨x26, e26, hm⟩ := pb_getS hm
      obtain ⟨vs26, i26, h26⟩ := Sto.getq h11_0 e26 q25
      have h27 : A2 (rep K F22) ((sortI x26).map V.int) (sortI x26) := A2.of_ints
      refine ⟨rfl, _, rfl, _, _, rfl, ints_q (SqL.of (W.nget (pre := [_, _]) w22 q25 i26)) h26, fun p28 n28 => ?_⟩
      have w28 : W F22 _ ((p28, .lst ((sortI x26).map V.int)) :: (D22, .lst acc22) :: (D5, .lst us5) :: (nz as11_0 vs11_0 ++ os)) := w22.new n28
      obtain ⟨F29, s29, w29, q29⟩ : ∃ F', Same F22 F' ∧ W F' _ ((D22, .lst acc22) :: (D5, .lst us5) :: (nz as11_0 vs11_0 ++ os)) ∧ F' p28 = some (.lst ((sortI x26).map V.int)) := w28.freezeE (pre := [])
      replace q1 := s29 _ _ q1
      replace h2 := A2.mono s29 h2
      replace q2 := s29 _ _ q2
      replace h11_0 := Sto.mono s29 h11_0
      replace h26 := A2.mono s29 h26
      replace h27 := A2.mono s29 h27
      replace sF := sF.trans s29
      exact hN22 _ (post_ok hm) _ _ _ w29 s29 (rep_lst q29 h27)
    intro us22 F22 H22 ys22 s22 w22 gg22 hm
    replace q1 := s22 _ _ q1
    replace h2 := A2.mono s22 h2
    replace q2 := s22 _ _ q2
    replace h11_0 := Sto.mono s22 h11_0
    replace sF := sF.trans s22
    obtain ⟨F31, s31, w31, q31⟩ : ∃ F', Same F22 F' ∧ W F' _ ((D5, .lst us5) :: (nz as11_0 vs11_0 ++ os)) ∧ F' D22 = some (.lst us22) := w22.freezeE (pre := [])
    replace q1 := s31 _ _ q1
    replace h2 := A2.mono s31 h2
    replace q2 := s31 _ _ q2
    replace h11_0 := Sto.mono s31 h11_0
    replace gg22 := A2.mono s31 gg22
    replace sF := sF.trans s31
    have w32 : W F31 _ ((nz as11_0 vs11_0 ++ os)) := w31.drop (pre := [])
    have w33 : W F31 _ (os) := w32.dropL (pre := [])
    exact (post_ok hm) _ _ _ w33 sF (rep_lst q31 gg22)
def sp_fars_by (K : Fg) : Sp := fun vs H Q E => ∃ (F : Hp) (os : List (Addr × HO)) (v_near : V) (x_near : (List (List Int))) (x_place : Int), vs = [v_near, .int x_place] ∧ W F H (os) ∧ rep K F v_near x_near ∧ Post (fars_by x_near x_place) (RetL K F os Q) noX
theorem sc_fars_by : FnScope ["near", "place", "found", "line", "at", "other"] ["near", "place"] (defScope s_fars_by) := ⟨rfl, rfl, rfl, by decide +kernel, rfl, by decide +kernel, by decide +kernel⟩
theorem ok_fars_by (T : Tx K mg A FD) : FnOk P w K mg base CX0 1 (A 9) (FD 9) ["near", "place"] (sp_fars_by K) := by
  refine T.d9.fn.ok sc_fars_by (fun vs H Q E h => ?_) (fun cdv Ar outer s H vs Q E hr h => ?_)
  · obtain ⟨F, os, v_near, x_near, x_place, rfl, _⟩ := h
    rfl
  · obtain ⟨F0, os, v_near, x_near, x_place, rfl, w0, r_near, hm⟩ := h
    have sF : Same F0 F0 := Same.refl _
    obtain ⟨a1, vs1, rfl, q1, h1⟩ := r_near
    refine ⟨_, (pss_cons (ps_set (i := 2) sc_fars_by.nd rfl (Or.inl rfl) (pe_op op_rep (pe_lst (pa_cons pe_non pa_nil)) (pe_callB (call_lenN (K := K) rfl) (by rfl) T.n_len (by decide +kernel) (pa_cons (pv 0) pa_nil)))) (pss_cons (ps_asg pe_int (pg_sub (pv 2) (pv 1) set_list)) (pss_cons (ps_set (i := 3) sc_fars_by.nd rfl (Or.inl rfl) (pe_lst (pa_cons (pv 1) pa_nil))) (pss_cons (ps_set (i := 4) sc_fars_by.nd rfl (Or.inl rfl) pe_int1) (pss_cons (ps_while PassesOwn.never (pt_cmp (pc_lt (pv 4) (pe_callB (call_lenN (K := K) rfl) (by rfl) T.n_len (by decide +kernel) (pa_cons (pv 3) pa_nil)))) (pss_cons (ps_for PassesOwn.never rfl (pi_listK (K := K) rfl (pe_ix (ix_listK (K := K) rfl) (pv 0) (pe_ix (ix_listK (K := K) rfl) (pv 3) (pv 4) (fun _ _ => rfl)) (fun _ _ => rfl))) (pg_name (i := 5) sc_fars_by.nd rfl (Or.inl rfl)) (pss_one (ps_if (pt_cmpR op_isN2 (pe_ix (ix_listK (K := K) rfl) (pv 2) (pv 5) (fun _ _ => rfl)) pe_non (nomark _)) (pss_cons (ps_asg (pe_op op_add (pe_ix (ix_listK (K := K) rfl) (pv 2) (pe_ix (ix_listK (K := K) rfl) (pv 3) (pv 4) (fun _ _ => rfl)) (fun _ _ => rfl)) pe_int) (pg_sub (pv 2) (pv 5) set_list)) (pss_one (ps_expr (pe_bm PySem.F.plainAttrs_list PySem.F.slot_list_append PySem.F.type_list_append mt_append (pv 3) (pa_cons (pv 5) pa_nil))))) pss_nil))) (pss_one (ps_set (i := 4) sc_fars_by.nd rfl (Or.inl rfl) (pe_op op_add (pv 4) pe_int))))) (pss_one (ps_ret (pv 2)))))))), ?_⟩
    have h2 : A2 (rep K F0) [.non] ([none] : (List (Option Int))) := .cons rep_none (.nil)
    refine ⟨(by show 1 ≤ sizeLine; decide), fun p3 n3 => ?_⟩
    have w3 : W F0 _ ((p3, .lst [.non]) :: os) := w0.new n3
    obtain ⟨l4, z4, e4, hm⟩ := pb_rep hm
    have h4 : A2 (rep K F0) (List.replicate (x_near.length : Int).toNat [.non]).flatten l4 := e4 ▸ A2.flat h2 _
    refine ⟨_, rfl, _, _, _, rfl, .inl (SqL.of (w3.same _ _ q1)), h1.length, _, _, _, rfl, rfl, (w3.get (pre := [])), z4.1, z4.2.1, (by rw [h2.length]; exact z4.2.2), fun p5 n5 => ?_⟩
    have w5 : W F0 _ ((p5, .lst (List.replicate (x_near.length : Int).toNat [.non]).flatten) :: (p3, .lst [.non]) :: os) := w3.new n5
    have w6 : W F0 _ ((p5, .lst (List.replicate (x_near.length : Int).toNat [.non]).flatten) :: os) := w5.drop (pre := [_])
    obtain ⟨j7, l7, z7, e7, hm⟩ := pn_set hm
    refine ⟨_, rfl, _, rfl, _, _, _, _, rfl, rfl, (w6.get (pre := [])), (A2.ix h4 z7), ?_⟩
    have h7 : A2 (rep K F0) ((List.replicate (x_near.length : Int).toNat [.non]).flatten.set j7 (V.int 0)) l7 := e7 ▸ A2.set (rep_some rep_i) j7 h4
    have w8 : W F0 _ ((p5, .lst ((List.replicate (x_near.length : Int).toNat [.non]).flatten.set j7 (V.int 0))) :: os) := w6.set (pre := [])
    have h9 : A2 (rep K F0) [(.int x_place)] ([x_place] : (List Int)) := .cons rep_i (.nil)
    refine ⟨_, rfl, (by show 1 ≤ sizeLine; decide), fun p10 n10 => ?_⟩
    have w10 : W F0 _ ((p10, .lst [(.int x_place)]) :: (p5, .lst ((List.replicate (x_near.length : Int).toNat [.non]).flatten.set j7 (V.int 0))) :: os) := w8.new n10
    refine ⟨trivial, ?_⟩
    refine stepN ?_
    try dsimp only
    refine stepSeq (whileS hm (fun (g11 : Int × (List Int) × (List (Option Int))) σ H' => ∃ (F' : Hp) (vs11_0 : List V) (vs11_1 : List V) (o11_5 : Option V), σ = [some (.ref a1), some (.int x_place), some (.ref p5), some (.ref p10), some (.int g11.1), o11_5] ∧ Same F0 F' ∧ W F' H' ((p10, .lst vs11_0) :: (p5, .lst vs11_1) :: os) ∧ A2 (rep K F') vs11_0 g11.2.1 ∧ A2 (rep K F') vs11_1 g11.2.2) ⟨_, _, _, _, rfl, Same.refl _, w10, h9, h7⟩ ?_ ?_ ?_)
    · intro g11 σ11 H11 N11 P11 hI hN11 hm
      obtain ⟨F11, vs11_0, vs11_1, o11_5, rfl, s11, w11, h11_0, h11_1⟩ := hI
      replace h1 := A2.mono s11 h1
      replace q1 := s11 _ _ q1
      replace sF := sF.trans s11
      exact ⟨_, rfl, _, rfl, _, _, _, rfl, .inl (SqL.of (w11.get (pre := []))), h11_0.length, _, _, rfl, rfl, _, rfl, hN11 _ (post_ok hm) _ ⟨_, _, _, _, rfl, s11, w11, h11_0, h11_1⟩⟩
    · intro g11 σ11 H11 N11 P11 hI hN11 hm
      obtain ⟨F11, vs11_0, vs11_1, o11_5, rfl, s11, w11, h11_0, h11_1⟩ := hI
      replace h1 := A2.mono s11 h1
      replace q1 := s11 _ _ q1
      replace sF := sF.trans s11
      obtain ⟨t13, e13, hm⟩ := pb_get hm
      obtain ⟨u13, f13, r13⟩ := A2.at h11_0 e13
      obtain rfl : u13 = V.int t13 := r13
      obtain ⟨t14, e14, hm⟩ := pb_get hm
      obtain ⟨u14, f14, r14⟩ := A2.at h1 e14
      obtain ⟨a15, vs15, rfl, q15, h15⟩ := r14
      refine ⟨_, rfl, _, rfl, _, rfl, _, _, _, _, rfl, rfl, SqL.of (w11.get (pre := [])), f13, _, _, _, _, rfl, rfl, SqL.of (w11.same _ _ q1), f14, _, rfl, ⟨_, SqL.of (w11.same _ _ q15)⟩, ?_⟩
      refine forS (tw_list (a := a15) h15) hm (fun (g12 : (List Int) × (List (Option Int))) σ H' => ∃ (F' : Hp) (vs12_0 : List V) (vs12_1 : List V) (o12_5 : Option V), σ = [some (.ref a1), some (.int x_place), some (.ref p5), some (.ref p10), some (.int g11.1), o12_5] ∧ Same F11 F' ∧ W F' H' ((p10, .lst vs12_0) :: (p5, .lst vs12_1) :: os) ∧ A2 (rep K F') vs12_0 g12.1 ∧ A2 (rep K F') vs12_1 g12.2) ⟨_, _, _, _, rfl, Same.refl _, w11, h11_0, h11_1⟩ (fun g σ H' hI => by obtain ⟨F', _, _, _, _, s, w, _⟩ := hI; exact SqL.of (w.same _ _ (s _ _ q15))) ?_ ?_
      · -- a turn
        intro b12 g12 x12 σ12 H12 H12' N12 P12 hI hy hN12 hm
        obtain ⟨F12, vs12_0, vs12_1, o12_5, rfl, s12, w12, h12_0, h12_1⟩ := hI
        replace h1 := A2.mono s12 h1
        replace q1 := s12 _ _ q1
        replace q15 := s12 _ _ q15
        replace h15 := A2.mono s12 h15
        replace sF := sF.trans s12
        obtain ⟨rfl, r16⟩ := hy
        obtain rfl : x12 = V.int b12 := r16
        obtain ⟨t17, e17, hm⟩ := pb_get hm
        obtain ⟨u17, f17, r17⟩ := A2.at h12_1 e17
        refine ⟨_, rfl, _, rfl, _, _, _, _, rfl, rfl, SqL.of (w12.get (pre := [_])), f17, rfl, _, isN_eq r17, _, rfl, ?_⟩
        refine post_ite hm (fun k19 hm => ?_) (fun k19 hm => ?_)
        · skip
          obtain ⟨t20, e20, hm⟩ := pb_get hm
          obtain ⟨u20, f20, r20⟩ := A2.at h12_0 e20
          obtain rfl : u20 = V.int t20 := r20
          obtain ⟨t21, e21, hm⟩ := pb_get hm
          obtain ⟨u21, f21, r21⟩ := A2.at h12_1 e21
          obtain ⟨t23, e23, hm⟩ := pb_ofO hm
          have r23 : rep K F12 u21 (some t23) := e23 ▸ r21
          replace r23 : u21 = V.int t23 := r23
          subst r23
          obtain ⟨j24, l24, z24, e24, hm⟩ := pn_set hm
          refine ⟨_, rfl, _, rfl, _, rfl, _, _, _, _, rfl, rfl, SqL.of (w12.get (pre := [])), f20, _, _, _, _, rfl, rfl, SqL.of (w12.get (pre := [_])), f21, _, _, rfl, rfl, _, rfl, _, rfl, _, _, _, _, rfl, rfl, (w12.get (pre := [_])), (A2.ix h12_1 z24), ?_⟩
          have h24 : A2 (rep K F12) (vs12_1.set j24 (V.int (t23 + (1 : Int)))) l24 := e24 ▸ A2.set (rep_some rep_i) j24 h12_1
          have w25 : W F12 _ ((p10, .lst vs12_0) :: (p5, .lst (vs12_1.set j24 (V.int (t23 + (1 : Int))))) :: os) := w12.set (pre := [_])
          obtain ⟨l26, z26, e26, hm⟩ := pn_app hm
          refine ⟨_, rfl, .inl ⟨rfl, _, SqL.of (w25.get (pre := []))⟩, _, rfl, _, _, _, rfl, rfl, (w25.get (pre := [])), (A2.lt h12_0 z26), ?_⟩
          have h26 : A2 (rep K F12) (vs12_0 ++ [(V.int b12)]) l26 := e26 ▸ A2.snoc h12_0 rep_i
          have w27 : W F12 _ ((p10, .lst (vs12_0 ++ [(V.int b12)])) :: (p5, .lst (vs12_1.set j24 (V.int (t23 + (1 : Int))))) :: os) := w25.set (pre := [])
          exact hN12 _ (post_ok hm) _ _ ⟨_, _, _, _, rfl, s12, w27, h26, h24⟩
        · skip
          exact hN12 _ (post_ok hm) _ _ ⟨_, _, _, _, rfl, s12, w12, h12_0, h12_1⟩
      intro g12 σ12 H12 hI hm
      obtain ⟨F12, vs12_0, vs12_1, o12_5, rfl, s12, w12, h12_0, h12_1⟩ := hI
      replace h1 := A2.mono s12 h1
      replace q1 := s12 _ _ q1
      replace q15 := s12 _ _ q15
      replace h15 := A2.mono s12 h15
      replace sF := sF.trans s12
      exact ⟨_, rfl, _, _, rfl, rfl, hN11 _ (post_ok hm) _ _ ⟨_, _, _, _, rfl, (s11.trans s12), w12, h12_0, h12_1⟩⟩
    intro g11 σ11 H11 hI hm
    obtain ⟨F11, vs11_0, vs11_1, o11_5, rfl, s11, w11, h11_0, h11_1⟩ := hI
    replace h1 := A2.mono s11 h1
    replace q1 := s11 _ _ q1
    replace sF := sF.trans s11
    have w28 : W F11 _ ((p5, .lst vs11_1) :: os) := w11.drop (pre := [])
    exact ⟨_, rfl, (post_ok hm) _ _ _ _ w28 sF h11_1⟩
def sp_sorted_ties (K : Fg) : Sp := fun vs H Q E => ∃ (F : Hp) (os : List (Addr × HO)) (x_many : Int) (a_ties : Addr) (vs_ties : List V) (x_ties : (List (Int × Int))), vs = [.int x_many, .ref a_ties] ∧ W F H ((a_ties, .lst vs_ties) :: os) ∧ A2 (rep K F) vs_ties x_ties ∧ Post (sorted_ties x_many x_ties) (fun (y : (Tup (Int × Int))) => ∀ (v : V) (F' H' : Hp), W F' H' ((a_ties, .lst vs_ties) :: os) → Same F F' → rep K F' v (y : (Tup (Int × Int))) → Q v H') noX
theorem sc_sorted_ties : FnScope ["many", "ties", "found", "one", "other", "tie"] ["many", "ties"] (defScope s_sorted_ties) := ⟨rfl, rfl, rfl, by decide +kernel, rfl, by decide +kernel, by decide +kernel⟩
theorem ok_sorted_ties (T : Tx K mg A FD) : FnOk P w K mg base CX0 1 (A 10) (FD 10) ["many", "ties"] (sp_sorted_ties K) := by
  refine T.d10.fn.ok sc_sorted_ties (fun vs H Q E h => ?_) (fun cdv Ar outer s H vs Q E hr h => ?_)
  · obtain ⟨F, os, x_many, a_ties, vs_ties, x_ties, rfl, _⟩ := h
    rfl
  · obtain ⟨F0, os, x_many, a_ties, vs_ties, x_ties, rfl, w0, h_ties, hm⟩ := h
    have sF : Same F0 F0 := Same.refl _
    refine ⟨_, (pss_cons (ps_set (i := 2) sc_sorted_ties.nd rfl (Or.inl rfl) (pe_lst pa_nil)) (pss_cons (ps_for PassesOwn.never rfl (pi_listK (K := K) rfl (pv 1)) (pg_k (K := K) (t := fun K => gTup K 2 _) rfl (pg_tup (n := 2) rfl (pgs_cons (pg_name (i := 3) sc_sorted_ties.nd rfl (Or.inl rfl)) (pgs_cons (pg_name (i := 4) sc_sorted_ties.nd rfl (Or.inl rfl)) pgs_nil)))) (pss_cons (ps_set (i := 5) sc_sorted_ties.nd rfl (Or.inl rfl) (pe_tup (pa_cons (pe_callB (call_min2 rfl) (by rfl) T.n_min (by decide +kernel) (pa_cons (pv 3) (pa_cons (pv 4) pa_nil))) (pa_cons (pe_callB (call_max2 rfl) (by rfl) T.n_max (by decide +kernel) (pa_cons (pv 3) (pa_cons (pv 4) pa_nil))) pa_nil)))) (pss_cons (ps_if (PW.pt (pw_or (pt_cmp (pc_lt (pe_ix (ix_tupK (K := K) rfl) (pv 5) pe_int (fun _ _ => rfl)) pe_int)) (pw_or (pt_cmp (pc_ge (pe_ix (ix_tupK (K := K) rfl) (pv 5) pe_int (fun _ _ => rfl)) (pv 0))) (pw_or (pt_cmp (pc_eqI (pv 3) (pv 4))) (pw_or1 (pt_cmpR (op_inL (K := K) rfl (Int × Int) (by decide) (Room.units65 hr)) (pv 5) (pv 2) (by rfl))))))) (pss_one ps_absurd) pss_nil) (pss_one (ps_expr (pe_bm PySem.F.plainAttrs_list PySem.F.slot_list_append PySem.F.type_list_append mt_append (pv 2) (pa_cons (pv 5) pa_nil))))))) (pss_one (ps_ret (pe_callTy (call_tuple_ofK (K := K) rfl) (by rfl) T.n_tuple (by decide +kernel) (pa_cons (pe_callB (cr_sortP (K := K) rfl) (by rfl) T.n_sorted (by decide +kernel) (pa_cons (pv 2) pa_nil)) pa_nil)))))), ?_⟩
    have h2 : A2 (rep K F0) [] ([] : (List (Int × Int))) := .nil
    refine ⟨(by show 0 ≤ sizeLine; decide), fun p3 n3 => ?_⟩
    have w3 : W F0 _ ((p3, .lst []) :: (a_ties, .lst vs_ties) :: os) := w0.new n3
    refine ⟨_, rfl, _, rfl, ⟨_, SqL.of (w3.get (pre := [_]))⟩, ?_⟩
    refine forS (tw_list (a := a_ties) h_ties) hm (fun (g4 : (List (Int × Int))) σ H' => ∃ (F' : Hp) (vs4_0 : List V) (o4_5 : Option V) (o4_3 : Option V) (o4_4 : Option V), σ = [some (.int x_many), some (.ref a_ties), some (.ref p3), o4_3, o4_4, o4_5] ∧ Same F0 F' ∧ W F' H' ((p3, .lst vs4_0) :: (a_ties, .lst vs_ties) :: os) ∧ A2 (rep K F') vs4_0 g4) ⟨_, _, _, _, _, rfl, Same.refl _, w3, h2⟩ (fun g σ H' hI => by obtain ⟨F', _, _, _, _, _, s, w, _⟩ := hI; exact SqL.of (w.get (pre := [_]))) ?_ ?_
    · -- a turn
      intro b4 g4 x4 σ4 H4 H4' N4 P4 hI hy hN4 hm
      obtain ⟨F4, vs4_0, o4_5, o4_3, o4_4, rfl, s4, w4, h4_0⟩ := hI
      replace h_ties := A2.mono s4 h_ties
      replace sF := sF.trans s4
      obtain ⟨rfl, r5⟩ := hy
      replace r5 := Rep.mono s4 r5
      obtain ⟨a6, u6, z6, rfl, q6, r6a, r6b⟩ := r5
      obtain rfl : u6 = V.int b4.1 := r6a
      obtain rfl : z6 = V.int b4.2 := r6b
      refine ⟨_, _, rfl, SqT.of (w4.same _ _ q6), rfl, _, _, rfl, _, _, rfl, rfl, _, rfl, _, rfl, _, _, rfl, _, rfl, _, rfl, _, _, rfl, (by show 2 ≤ sizeLine; decide), fun p7 n7 => ?_⟩
      obtain ⟨F7, s7, w7, q7⟩ := w4.frzE (o := .tup [(.int (min2 b4.1 b4.2)), (.int (max2 b4.1 b4.2))]) n7
      replace h4_0 := A2.mono s7 h4_0
      replace h_ties := A2.mono s7 h_ties
      replace sF := sF.trans s7
      refine stepN ?_
      try dsimp only
      refine stepSeq (stepIf ?_)
      refine cutT (fun c H' => c = (((decide ((min2 b4.1 b4.2) < (0 : Int))) || ((decide (x_many ≤ (max2 b4.1 b4.2))) || ((decide (b4.1 = b4.2)) || (inB ((min2 b4.1 b4.2), (max2 b4.1 b4.2)) g4))))) ∧ ∃ F', Same F7 F' ∧ W F' H' ((p3, .lst vs4_0) :: (a_ties, .lst vs_ties) :: os)) (fun Q8 q8 => ?_) (fun c8 H8 hc8 => ?_)
      · -- the ways
        refine ⟨_, rfl, _, _, _, _, rfl, rfl, SqT.of (w7.same _ _ q7), rfl, _, _, rfl, rfl, _, rfl, ?_⟩
        refine ifB (fun k9 => ?_) (fun k9 => ?_)
        · skip
          exact q8 _ _ ⟨(by first | rfl | exact absurd k9 (by decide) | (simp [k9]; done) | ((try simp only [Bool.not_eq_true] at k9); simp only [k9, Bool.true_or, Bool.false_or, Bool.or_false, Bool.or_true, Bool.true_and, Bool.false_and, Bool.and_true, Bool.and_false])), _, Same.refl _, w7⟩
        · skip
          refine ⟨_, rfl, _, _, _, _, rfl, rfl, SqT.of (w7.same _ _ q7), rfl, _, rfl, _, _, rfl, rfl, _, rfl, ?_⟩
          refine ifB (fun k11 => ?_) (fun k11 => ?_)
          · skip
            exact q8 _ _ ⟨(by first | rfl | exact absurd k9 (by decide) | exact absurd k11 (by decide) | (simp [k9, k11]; done) | ((try simp only [Bool.not_eq_true] at k9); (try simp only [Bool.not_eq_true] at k11); simp only [k9, k11, Bool.true_or, Bool.false_or, Bool.or_false, Bool.or_true, Bool.true_and, Bool.false_and, Bool.and_true, Bool.and_false])), _, Same.refl _, w7⟩
          · skip
            refine ⟨_, rfl, _, rfl, _, _, rfl, rfl, _, rfl, ?_⟩
            refine ifB (fun k13 => ?_) (fun k13 => ?_)
            · skip
              exact q8 _ _ ⟨(by first | rfl | exact absurd k9 (by decide) | exact absurd k11 (by decide) | exact absurd k13 (by decide) | (simp [k9, k11, k13]; done) | ((try simp only [Bool.not_eq_true] at k9); (try simp only [Bool.not_eq_true] at k11); (try simp only [Bool.not_eq_true] at k13); simp only [k9, k11, k13, Bool.true_or, Bool.false_or, Bool.or_false, Bool.or_true, Bool.true_and, Bool.false_and, Bool.and_true, Bool.and_false])), _, Same.refl _, w7⟩
            · skip
              exact ⟨_, rfl, _, rfl, (((min2 b4.1 b4.2), (max2 b4.1 b4.2)) : (Int × Int)), _, (Rep.mono w7.same (rep_pair q7 rep_i rep_i)), (rep_own (pre := []) w7 h4_0), _, rfl, q8 _ _ ⟨(by first | rfl | exact absurd k9 (by decide) | exact absurd k11 (by decide) | exact absurd k13 (by decide) | (simp [k9, k11, k13]; done) | ((try simp only [Bool.not_eq_true] at k9); (try simp only [Bool.not_eq_true] at k11); (try simp only [Bool.not_eq_true] at k13); simp only [k9, k11, k13, Bool.true_or, Bool.false_or, Bool.or_false, Bool.or_true, Bool.true_and, Bool.false_and, Bool.and_true, Bool.and_false])), _, Same.refl _, w7⟩⟩
      obtain ⟨rfl, F8, s8, w8⟩ := hc8
      replace q7 := s8 _ _ q7
      replace h4_0 := A2.mono s8 h4_0
      replace h_ties := A2.mono s8 h_ties
      replace sF := sF.trans s8
      refine post_ite hm (fun k16 hm => ?_) (fun k16 hm => ?_)
      · skip
        try dsimp only
        exact hm
      · skip
        obtain ⟨l17, z17, e17, hm⟩ := pn_app hm
        refine ⟨_, rfl, .inl ⟨rfl, _, SqL.of (w8.get (pre := []))⟩, _, rfl, _, _, _, rfl, rfl, (w8.get (pre := [])), (A2.lt h4_0 z17), ?_⟩
        have h17 : A2 (rep K F8) (vs4_0 ++ [(V.ref p7)]) l17 := e17 ▸ A2.snoc h4_0 (rep_pair q7 rep_i rep_i)
        have w18 : W F8 _ ((p3, .lst (vs4_0 ++ [(V.ref p7)])) :: (a_ties, .lst vs_ties) :: os) := w8.set (pre := [])
        exact hN4 _ (post_ok hm) _ _ ⟨_, _, _, _, _, rfl, (s4.trans (s7.trans s8)), w18, h17⟩
    intro g4 σ4 H4 hI hm
    obtain ⟨F4, vs4_0, o4_5, o4_3, o4_4, rfl, s4, w4, h4_0⟩ := hI
    replace h_ties := A2.mono s4 h_ties
    replace sF := sF.trans s4
    refine ⟨_, rfl, _, _, F4, g4, rfl, SqL.of (w4.get (pre := [])), w4.same, h4_0, fun p19 us19 n19 h19 => ?_⟩
    have w19 : W F4 _ ((p19, .lst us19) :: (p3, .lst vs4_0) :: (a_ties, .lst vs_ties) :: os) := w4.new n19
    have h21 : A2 (rep K F4) us19 (sortP g4) := h19
    refine ⟨_, _, rfl, .inl ⟨SqL.of (w19.get (pre := [])), fun p22 n22 => ?_⟩⟩
    obtain ⟨F22, s22, w22, q22⟩ := w19.frzE (o := .tup us19) n22
    replace h4_0 := A2.mono s22 h4_0
    replace h_ties := A2.mono s22 h_ties
    replace h19 := A2.mono s22 h19
    replace h21 := A2.mono s22 h21
    replace sF := sF.trans s22
    have w23 : W F22 _ ((p3, .lst vs4_0) :: (a_ties, .lst vs_ties) :: os) := w22.drop (pre := [])
    have w24 : W F22 _ ((a_ties, .lst vs_ties) :: os) := w23.drop (pre := [])
    exact (post_ok hm) _ _ _ w24 sF (rep_tup q22 h21)
def sp_sorted_tiesF (K : Fg) : Sp := fun vs H Q E => ∃ (F : Hp) (os : List (Addr × HO)) (x_many : Int) (v_ties : V) (x_ties : (List (Int × Int))), vs = [.int x_many, v_ties] ∧ W F H (os) ∧ rep K F v_ties x_ties ∧ Post (sorted_tiesF x_many x_ties) (Ret K F os Q) noX
theorem ok_sorted_tiesF (T : Tx K mg A FD) : FnOk P w K mg base CX0 1 (A 10) (FD 10) ["many", "ties"] (sp_sorted_tiesF K) := by
  refine T.d10.fn.ok sc_sorted_ties (fun vs H Q E h => ?_) (fun cdv Ar outer s H vs Q E hr h => ?_)
  · obtain ⟨F, os, x_many, v_ties, x_ties, rfl, _⟩ := h
    rfl
  · obtain ⟨F0, os, x_many, v_ties, x_ties, rfl, w0, r_ties, hm⟩ := h
    have sF : Same F0 F0 := Same.refl _
    obtain ⟨a1, vs1, rfl, q1, h1⟩ := r_ties
    refine ⟨_, (pss_cons (ps_set (i := 2) sc_sorted_ties.nd rfl (Or.inl rfl) (pe_lst pa_nil)) (pss_cons (ps_for PassesOwn.never rfl (pi_listK (K := K) rfl (pv 1)) (pg_k (K := K) (t := fun K => gTup K 2 _) rfl (pg_tup (n := 2) rfl (pgs_cons (pg_name (i := 3) sc_sorted_ties.nd rfl (Or.inl rfl)) (pgs_cons (pg_name (i := 4) sc_sorted_ties.nd rfl (Or.inl rfl)) pgs_nil)))) (pss_cons (ps_set (i := 5) sc_sorted_ties.nd rfl (Or.inl rfl) (pe_tup (pa_cons (pe_callB (call_min2 rfl) (by rfl) T.n_min (by decide +kernel) (pa_cons (pv 3) (pa_cons (pv 4) pa_nil))) (pa_cons (pe_callB (call_max2 rfl) (by rfl) T.n_max (by decide +kernel) (pa_cons (pv 3) (pa_cons (pv 4) pa_nil))) pa_nil)))) (pss_cons (ps_if (PW.pt (pw_or (pt_cmp (pc_lt (pe_ix (ix_tupK (K := K) rfl) (pv 5) pe_int (fun _ _ => rfl)) pe_int)) (pw_or (pt_cmp (pc_ge (pe_ix (ix_tupK (K := K) rfl) (pv 5) pe_int (fun _ _ => rfl)) (pv 0))) (pw_or (pt_cmp (pc_eqI (pv 3) (pv 4))) (pw_or1 (pt_cmpR (op_inL (K := K) rfl (Int × Int) (by decide) (Room.units65 hr)) (pv 5) (pv 2) (by rfl))))))) (pss_one ps_absurd) pss_nil) (pss_one (ps_expr (pe_bm PySem.F.plainAttrs_list PySem.F.slot_list_append PySem.F.type_list_append mt_append (pv 2) (pa_cons (pv 5) pa_nil))))))) (pss_one (ps_ret (pe_callTy (call_tuple_ofK (K := K) rfl) (by rfl) T.n_tuple (by decide +kernel) (pa_cons (pe_callB (cr_sortP (K := K) rfl) (by rfl) T.n_sorted (by decide +kernel) (pa_cons (pv 2) pa_nil)) pa_nil)))))), ?_⟩
    have h2 : A2 (rep K F0) [] ([] : (List (Int × Int))) := .nil
    refine ⟨(by show 0 ≤ sizeLine; decide), fun p3 n3 => ?_⟩
    have w3 : W F0 _ ((p3, .lst []) :: os) := w0.new n3
    refine ⟨_, rfl, _, rfl, ⟨_, SqL.of (w3.same _ _ q1)⟩, ?_⟩
    refine forS (tw_list (a := a1) h1) hm (fun (g4 : (List (Int × Int))) σ H' => ∃ (F' : Hp) (vs4_0 : List V) (o4_5 : Option V) (o4_3 : Option V) (o4_4 : Option V), σ = [some (.int x_many), some (.ref a1), some (.ref p3), o4_3, o4_4, o4_5] ∧ Same F0 F' ∧ W F' H' ((p3, .lst vs4_0) :: os) ∧ A2 (rep K F') vs4_0 g4) ⟨_, _, _, _, _, rfl, Same.refl _, w3, h2⟩ (fun g σ H' hI => by obtain ⟨F', _, _, _, _, _, s, w, _⟩ := hI; exact SqL.of (w.same _ _ (s _ _ q1))) ?_ ?_
    · -- a turn
      intro b4 g4 x4 σ4 H4 H4' N4 P4 hI hy hN4 hm
      obtain ⟨F4, vs4_0, o4_5, o4_3, o4_4, rfl, s4, w4, h4_0⟩ := hI
      replace h1 := A2.mono s4 h1
      replace q1 := s4 _ _ q1
      replace sF := sF.trans s4
      obtain ⟨rfl, r5⟩ := hy
      replace r5 := Rep.mono s4 r5
      obtain ⟨a6, u6, z6, rfl, q6, r6a, r6b⟩ := r5
      obtain rfl : u6 = V.int b4.1 := r6a
      obtain rfl : z6 = V.int b4.2 := r6b
      refine ⟨_, _, rfl, SqT.of (w4.same _ _ q6), rfl, _, _, rfl, _, _, rfl, rfl, _, rfl, _, rfl, _, _, rfl, _, rfl, _, rfl, _, _, rfl, (by show 2 ≤ sizeLine; decide), fun p7 n7 => ?_⟩
      obtain ⟨F7, s7, w7, q7⟩ := w4.frzE (o := .tup [(.int (min2 b4.1 b4.2)), (.int (max2 b4.1 b4.2))]) n7
      replace h1 := A2.mono s7 h1
      replace q1 := s7 _ _ q1
      replace h4_0 := A2.mono s7 h4_0
      replace sF := sF.trans s7
      refine stepN ?_
      try dsimp only
      refine stepSeq (stepIf ?_)
      refine cutT (fun c H' => c = (((decide ((min2 b4.1 b4.2) < (0 : Int))) || ((decide (x_many ≤ (max2 b4.1 b4.2))) || ((decide (b4.1 = b4.2)) || (inB ((min2 b4.1 b4.2), (max2 b4.1 b4.2)) g4))))) ∧ ∃ F', Same F7 F' ∧ W F' H' ((p3, .lst vs4_0) :: os)) (fun Q8 q8 => ?_) (fun c8 H8 hc8 => ?_)
      · -- the ways
        refine ⟨_, rfl, _, _, _, _, rfl, rfl, SqT.of (w7.same _ _ q7), rfl, _, _, rfl, rfl, _, rfl, ?_⟩
        refine ifB (fun k9 => ?_) (fun k9 => ?_)
        · skip
          exact q8 _ _ ⟨(by first | rfl | exact absurd k9 (by decide) | (simp [k9]; done) | ((try simp only [Bool.not_eq_true] at k9); simp only [k9, Bool.true_or, Bool.false_or, Bool.or_false, Bool.or_true, Bool.true_and, Bool.false_and, Bool.and_true, Bool.and_false])), _, Same.refl _, w7⟩
        · skip
          refine ⟨_, rfl, _, _, _, _, rfl, rfl, SqT.of (w7.same _ _ q7), rfl, _, rfl, _, _, rfl, rfl, _, rfl, ?_⟩
          refine ifB (fun k11 => ?_) (fun k11 => ?_)
          · skip
            exact q8 _ _ ⟨(by first | rfl | exact absurd k9 (by decide) | exact absurd k11 (by decide) | (simp [k9, k11]; done) | ((try simp only [Bool.not_eq_true] at k9); (try simp only [Bool.not_eq_true] at k11); simp only [k9, k11, Bool.true_or, Bool.false_or, Bool.or_false, Bool.or_true, Bool.true_and, Bool.false_and, Bool.and_true, Bool.and_false])), _, Same.refl _, w7⟩
          · skip
            refine ⟨_, rfl, _, rfl, _, _, rfl, rfl, _, rfl, ?_⟩
            refine ifB (fun k13 => ?_) (fun k13 => ?_)
            · skip
              exact q8 _ _ ⟨(by first | rfl | exact absurd k9 (by decide) | exact absurd k11 (by decide) | exact absurd k13 (by decide) | (simp [k9, k11, k13]; done) | ((try simp only [Bool.not_eq_true] at k9); (try simp only [Bool.not_eq_true] at k11); (try simp only [Bool.not_eq_true] at k13); simp only [k9, k11, k13, Bool.true_or, Bool.false_or, Bool.or_false, Bool.or_true, Bool.true_and, Bool.false_and, Bool.and_true, Bool.and_false])), _, Same.refl _, w7⟩
            · skip
              exact ⟨_, rfl, _, rfl, (((min2 b4.1 b4.2), (max2 b4.1 b4.2)) : (Int × Int)), _, (Rep.mono w7.same (rep_pair q7 rep_i rep_i)), (rep_own (pre := []) w7 h4_0), _, rfl, q8 _ _ ⟨(by first | rfl | exact absurd k9 (by decide) | exact absurd k11 (by decide) | exact absurd k13 (by decide) | (simp [k9, k11, k13]; done) | ((try simp only [Bool.not_eq_true] at k9); (try simp only [Bool.not_eq_true] at k11); (try simp only [Bool.not_eq_true] at k13); simp only [k9, k11, k13, Bool.true_or, Bool.false_or, Bool.or_false, Bool.or_true, Bool.true_and, Bool.false_and, Bool.and_true, Bool.and_false])), _, Same.refl _, w7⟩⟩
      obtain ⟨rfl, F8, s8, w8⟩ := hc8
      replace h1 := A2.mono s8 h1
      replace q1 := s8 _ _ q1
      replace q7 := s8 _ _ q7
      replace h4_0 := A2.mono s8 h4_0
      replace sF := sF.trans s8
      refine post_ite hm (fun k16 hm => ?_) (fun k16 hm => ?_)
      · skip
        try dsimp only
        exact hm
      · skip
        obtain ⟨l17, z17, e17, hm⟩ := pn_app hm
        refine ⟨_, rfl, .inl ⟨rfl, _, SqL.of (w8.get (pre := []))⟩, _, rfl, _, _, _, rfl, rfl, (w8.get (pre := [])), (A2.lt h4_0 z17), ?_⟩
        have h17 : A2 (rep K F8) (vs4_0 ++ [(V.ref p7)]) l17 := e17 ▸ A2.snoc h4_0 (rep_pair q7 rep_i rep_i)
        have w18 : W F8 _ ((p3, .lst (vs4_0 ++ [(V.ref p7)])) :: os) := w8.set (pre := [])
        exact hN4 _ (post_ok hm) _ _ ⟨_, _, _, _, _, rfl, (s4.trans (s7.trans s8)), w18, h17⟩
    intro g4 σ4 H4 hI hm
    obtain ⟨F4, vs4_0, o4_5, o4_3, o4_4, rfl, s4, w4, h4_0⟩ := hI
    replace h1 := A2.mono s4 h1
    replace q1 := s4 _ _ q1
    replace sF := sF.trans s4
    refine ⟨_, rfl, _, _, F4, g4, rfl, SqL.of (w4.get (pre := [])), w4.same, h4_0, fun p19 us19 n19 h19 => ?_⟩
    have w19 : W F4 _ ((p19, .lst us19) :: (p3, .lst vs4_0) :: os) := w4.new n19
    have h21 : A2 (rep K F4) us19 (sortP g4) := h19
    refine ⟨_, _, rfl, .inl ⟨SqL.of (w19.get (pre := [])), fun p22 n22 => ?_⟩⟩
    obtain ⟨F22, s22, w22, q22⟩ := w19.frzE (o := .tup us19) n22
    replace h1 := A2.mono s22 h1
    replace q1 := s22 _ _ q1
    replace h4_0 := A2.mono s22 h4_0
    replace h19 := A2.mono s22 h19
    replace h21 := A2.mono s22 h21
    replace sF := sF.trans s22
    have w23 : W F22 _ ((p3, .lst vs4_0) :: os) := w22.drop (pre := [])
    have w24 : W F22 _ (os) := w23.drop (pre := [])
    exact (post_ok hm) _ _ _ w24 sF (rep_tup q22 h21)
def sp_made_web (K : Fg) : Sp := fun vs H Q E => ∃ (F : Hp) (os : List (Addr × HO)) (x_many : Int) (a_ties : Addr) (vs_ties : List V) (x_ties : (List (Int × Int))), vs = [.int x_many, .ref a_ties] ∧ W F H ((a_ties, .lst vs_ties) :: os) ∧ A2 (rep K F) vs_ties x_ties ∧ Post (made_web x_many x_ties) (fun (y : (Int × (Tup (Int × Int)))) => ∀ (v : V) (F' H' : Hp), W F' H' ((a_ties, .lst vs_ties) :: os) → Same F F' → rep K F' v (y : (Int × (Tup (Int × Int)))) → Q v H') noX
theorem sc_made_web : FnScope ["many", "ties", "web", "fars", "place"] ["many", "ties"] (defScope s_made_web) := ⟨rfl, rfl, rfl, by decide +kernel, rfl, by decide +kernel, by decide +kernel⟩
theorem ok_made_web (T : Tx K mg A FD) : FnOk P w K mg base CX0 2 (A 11) (FD 11) ["many", "ties"] (sp_made_web K) := by
  refine T.d11.fn.ok sc_made_web (fun vs H Q E h => ?_) (fun cdv Ar outer s H vs Q E hr h => ?_)
  · obtain ⟨F, os, x_many, a_ties, vs_ties, x_ties, rfl, _⟩ := h
    rfl
  · obtain ⟨F0, os, x_many, a_ties, vs_ties, x_ties, rfl, w0, h_ties, hm⟩ := h
    have sF : Same F0 F0 := Same.refl _
    refine ⟨_, (pss_cons (ps_if (pt_not (pt_chain op_le op_le pe_int (pv 0) (pe_globI (by rfl) T.c_MOST_PLACES_webs))) (pss_one ps_absurd) pss_nil) (pss_cons (ps_set (i := 2) sc_made_web.nd rfl (Or.inl rfl) (pe_tup (pa_cons (pv 0) (pa_cons (pe_call (ok_sorted_ties T) (hr.mono (by decide)) (by rfl) T.d10.mg T.d10.fn.kp T.d10.b .nil pass0 (pa_cons (pv 0) (pa_cons (pv 1) pa_nil))) pa_nil)))) (pss_cons (ps_set (i := 3) sc_made_web.nd rfl (Or.inl rfl) (pe_call (ok_fars_by T) (hr.mono (by decide)) (by rfl) T.d9.mg T.d9.fn.kp T.d9.b .nil pass0 (pa_cons (pe_call (ok_near_lists T) (hr.mono (by decide)) (by rfl) T.d8.mg T.d8.fn.kp T.d8.b .nil pass0 (pa_cons (pv 2) pa_nil)) (pa_cons pe_int pa_nil)))) (pss_cons (ps_for PassesOwn.never rfl (pi_range1 (by rfl) T.n_range (pa_cons (pv 0) pa_nil)) (pg_name (i := 4) sc_made_web.nd rfl (Or.inl rfl)) (pss_one (ps_if (pt_cmpR op_isN2 (pe_ix (ix_listK (K := K) rfl) (pv 3) (pv 4) (fun _ _ => rfl)) pe_non (nomark _)) (pss_one ps_absurd) pss_nil))) (pss_one (ps_ret (pv 2))))))), ?_⟩
    try dsimp only
    refine stepSeq (stepIf ?_)
    refine stepNot ?_
    refine cutT (fun c H' => c = ((decide ((1 : Int) ≤ x_many)) && (decide (x_many ≤ (60 : Int)))) ∧ ∃ F', Same F0 F' ∧ W F' H' ((a_ties, .lst vs_ties) :: os)) (fun Q2 q2 => ?_) (fun c2 H2 hc2 => ?_)
    · -- the ways
      refine ⟨_, rfl, _, _, rfl, rfl, _, rfl, ?_⟩
      refine ifB (fun k3 => ?_) (fun k3 => ?_)
      · skip
        exact ⟨_, _, rfl, rfl, _, rfl, q2 _ _ ⟨(by first | rfl | exact absurd k3 (by decide) | (simp [k3]; done) | ((try simp only [Bool.not_eq_true] at k3); simp only [k3, Bool.true_or, Bool.false_or, Bool.or_false, Bool.or_true, Bool.true_and, Bool.false_and, Bool.and_true, Bool.and_false])), _, Same.refl _, w0⟩⟩
      · skip
        exact ⟨_, rfl, q2 _ _ ⟨(by first | rfl | exact absurd k3 (by decide) | (simp [k3]; done) | ((try simp only [Bool.not_eq_true] at k3); simp only [k3, Bool.true_or, Bool.false_or, Bool.or_false, Bool.or_true, Bool.true_and, Bool.false_and, Bool.and_true, Bool.and_false])), _, Same.refl _, w0⟩⟩
    obtain ⟨rfl, F2, s2, w2⟩ := hc2
    replace h_ties := A2.mono s2 h_ties
    replace sF := sF.trans s2
    refine post_ite hm (fun k6 hm => ?_) (fun k6 hm => ?_)
    · skip
      try dsimp only
      exact hm
    · skip
      refine ⟨_, rfl, _, rfl, _, rfl, _, _, _, _, _, _, rfl, w2, h_ties, ?_⟩
      refine (post_bind hm).mono (fun y7 hm v7 F7 H7 w7 s7 r7 => ?_) (fun _ z => z)
      replace h_ties := A2.mono s7 h_ties
      replace sF := sF.trans s7
      obtain ⟨a8, vs8, rfl, q8, h8⟩ := r7
      refine ⟨(by show 2 ≤ sizeLine; decide), fun p9 n9 => ?_⟩
      obtain ⟨F9, s9, w9, q9⟩ := w7.frzE (o := .tup [(.int x_many), (.ref a8)]) n9
      replace h_ties := A2.mono s9 h_ties
      replace q8 := s9 _ _ q8
      replace h8 := A2.mono s9 h8
      replace sF := sF.trans s9
      refine ⟨_, rfl, _, _, _, ((x_many, y7) : (Int × (Tup (Int × Int)))), rfl, w9, (rep_pair q9 rep_i (rep_tup q8 h8)), ?_⟩
      refine (post_bind hm).mono (fun y10 hm v10 F10 H10 w10 s10 r10 => ?_) (fun _ z => z)
      replace q9 := s10 _ _ q9
      replace h8 := A2.mono s10 h8
      replace q8 := s10 _ _ q8
      replace h_ties := A2.mono s10 h_ties
      replace sF := sF.trans s10
      obtain ⟨a11, vs11, rfl, q11, h11⟩ := r10
      refine ⟨_, _, _, (y10 : (List (List Int))), _, rfl, w10, (rep_lst q11 h11), ?_⟩
      refine (post_bind hm).mono (fun y12 hm p12 us12 F12 H12 w12 s12 g12 => ?_) (fun _ z => z)
      replace q9 := s12 _ _ q9
      replace h8 := A2.mono s12 h8
      replace q8 := s12 _ _ q8
      replace h_ties := A2.mono s12 h_ties
      replace q11 := s12 _ _ q11
      replace h11 := A2.mono s12 h11
      replace sF := sF.trans s12
      obtain ⟨F14, s14, w14, q14⟩ : ∃ F', Same F12 F' ∧ W F' _ ((a_ties, .lst vs_ties) :: os) ∧ F' p12 = some (.lst us12) := w12.freezeE (pre := [])
      replace q9 := s14 _ _ q9
      replace h8 := A2.mono s14 h8
      replace q8 := s14 _ _ q8
      replace h_ties := A2.mono s14 h_ties
      replace q11 := s14 _ _ q11
      replace h11 := A2.mono s14 h11
      replace g12 := A2.mono s14 g12
      replace sF := sF.trans s14
      obtain ⟨c16, hm⟩ := pb_rng hm
      refine ⟨_, rfl, _, rfl, c16.2.2.1, c16.2.2.2, ?_⟩
      refine forS (tw_rng0 (j := x_many)) hm (fun (g15 : Unit) σ H' => ∃ (F' : Hp) (o15_4 : Option V), σ = [some (.int x_many), some (.ref a_ties), some (.ref p9), some (.ref p12), o15_4] ∧ Same F14 F' ∧ W F' H' ((a_ties, .lst vs_ties) :: os)) ⟨_, _, rfl, Same.refl _, w14⟩ (fun _ _ _ _ => trivial) ?_ ?_
      · -- a turn
        intro b15 g15 x15 σ15 H15 H15' N15 P15 hI hy hN15 hm
        obtain ⟨F15, o15_4, rfl, s15, w15⟩ := hI
        replace q9 := s15 _ _ q9
        replace h8 := A2.mono s15 h8
        replace q8 := s15 _ _ q8
        replace g12 := A2.mono s15 g12
        replace q14 := s15 _ _ q14
        replace h_ties := A2.mono s15 h_ties
        replace sF := sF.trans s15
        obtain ⟨rfl, rfl⟩ := hy
        obtain ⟨t17, e17, hm⟩ := pb_get hm
        obtain ⟨u17, f17, r17⟩ := A2.at g12 e17
        refine ⟨_, rfl, _, rfl, _, _, _, _, rfl, rfl, SqL.of (w15.same _ _ q14), f17, rfl, _, isN_eq r17, _, rfl, ?_⟩
        refine post_ite hm (fun k19 hm => ?_) (fun k19 hm => ?_)
        · skip
          try dsimp only
          exact hm
        · skip
          exact hN15 _ (post_ok hm) _ _ ⟨_, _, rfl, s15, w15⟩
      intro g15 σ15 H15 hI hm
      obtain ⟨F15, o15_4, rfl, s15, w15⟩ := hI
      replace q9 := s15 _ _ q9
      replace h8 := A2.mono s15 h8
      replace q8 := s15 _ _ q8
      replace g12 := A2.mono s15 g12
      replace q14 := s15 _ _ q14
      replace h_ties := A2.mono s15 h_ties
      replace sF := sF.trans s15
      exact ⟨_, rfl, (post_ok hm) _ _ _ w15 sF (rep_pair q9 rep_i (rep_tup q8 h8))⟩
def sp_made_webF (K : Fg) : Sp := fun vs H Q E => ∃ (F : Hp) (os : List (Addr × HO)) (x_many : Int) (v_ties : V) (x_ties : (List (Int × Int))), vs = [.int x_many, v_ties] ∧ W F H (os) ∧ rep K F v_ties x_ties ∧ Post (made_webF x_many x_ties) (Ret K F os Q) noX
theorem ok_made_webF (T : Tx K mg A FD) : FnOk P w K mg base CX0 2 (A 11) (FD 11) ["many", "ties"] (sp_made_webF K) := by
  refine T.d11.fn.ok sc_made_web (fun vs H Q E h => ?_) (fun cdv Ar outer s H vs Q E hr h => ?_)
  · obtain ⟨F, os, x_many, v_ties, x_ties, rfl, _⟩ := h
    rfl
  · obtain ⟨F0, os, x_many, v_ties, x_ties, rfl, w0, r_ties, hm⟩ := h
    have sF : Same F0 F0 := Same.refl _
    obtain ⟨a1, vs1, rfl, q1, h1⟩ := r_ties
    refine ⟨_, (pss_cons (ps_if (pt_not (pt_chain op_le op_le pe_int (pv 0) (pe_globI (by rfl) T.c_MOST_PLACES_webs))) (pss_one ps_absurd) pss_nil) (pss_cons (ps_set (i := 2) sc_made_web.nd rfl (Or.inl rfl) (pe_tup (pa_cons (pv 0) (pa_cons (pe_call (ok_sorted_tiesF T) (hr.mono (by decide)) (by rfl) T.d10.mg T.d10.fn.kp T.d10.b .nil pass0 (pa_cons (pv 0) (pa_cons (pv 1) pa_nil))) pa_nil)))) (pss_cons (ps_set (i := 3) sc_made_web.nd rfl (Or.inl rfl) (pe_call (ok_fars_by T) (hr.mono (by decide)) (by rfl) T.d9.mg T.d9.fn.kp T.d9.b .nil pass0 (pa_cons (pe_call (ok_near_lists T) (hr.mono (by decide)) (by rfl) T.d8.mg T.d8.fn.kp T.d8.b .nil pass0 (pa_cons (pv 2) pa_nil)) (pa_cons pe_int pa_nil)))) (pss_cons (ps_for PassesOwn.never rfl (pi_range1 (by rfl) T.n_range (pa_cons (pv 0) pa_nil)) (pg_name (i := 4) sc_made_web.nd rfl (Or.inl rfl)) (pss_one (ps_if (pt_cmpR op_isN2 (pe_ix (ix_listK (K := K) rfl) (pv 3) (pv 4) (fun _ _ => rfl)) pe_non (nomark _)) (pss_one ps_absurd) pss_nil))) (pss_one (ps_ret (pv 2))))))), ?_⟩
    try dsimp only
    refine stepSeq (stepIf ?_)
    refine stepNot ?_
    refine cutT (fun c H' => c = ((decide ((1 : Int) ≤ x_many)) && (decide (x_many ≤ (60 : Int)))) ∧ ∃ F', Same F0 F' ∧ W F' H' (os)) (fun Q2 q2 => ?_) (fun c2 H2 hc2 => ?_)
    · -- the ways
      refine ⟨_, rfl, _, _, rfl, rfl, _, rfl, ?_⟩
      refine ifB (fun k3 => ?_) (fun k3 => ?_)
      · skip
        exact ⟨_, _, rfl, rfl, _, rfl, q2 _ _ ⟨(by first | rfl | exact absurd k3 (by decide) | (simp [k3]; done) | ((try simp only [Bool.not_eq_true] at k3); simp only [k3, Bool.true_or, Bool.false_or, Bool.or_false, Bool.or_true, Bool.true_and, Bool.false_and, Bool.and_true, Bool.and_false])), _, Same.refl _, w0⟩⟩
      · skip
        exact ⟨_, rfl, q2 _ _ ⟨(by first | rfl | exact absurd k3 (by decide) | (simp [k3]; done) | ((try simp only [Bool.not_eq_true] at k3); simp only [k3, Bool.true_or, Bool.false_or, Bool.or_false, Bool.or_true, Bool.true_and, Bool.false_and, Bool.and_true, Bool.and_false])), _, Same.refl _, w0⟩⟩
    obtain ⟨rfl, F2, s2, w2⟩ := hc2
    replace q1 := s2 _ _ q1
    replace h1 := A2.mono s2 h1
    replace sF := sF.trans s2
    refine post_ite hm (fun k6 hm => ?_) (fun k6 hm => ?_)
    · skip
      try dsimp only
      exact hm
    · skip
      refine ⟨_, rfl, _, rfl, _, rfl, _, _, _, _, (x_ties : (List (Int × Int))), rfl, w2, (rep_lst q1 h1), ?_⟩
      refine (post_bind hm).mono (fun y7 hm v7 F7 H7 w7 s7 r7 => ?_) (fun _ z => z)
      replace q1 := s7 _ _ q1
      replace h1 := A2.mono s7 h1
      replace sF := sF.trans s7
      obtain ⟨a8, vs8, rfl, q8, h8⟩ := r7
      refine ⟨(by show 2 ≤ sizeLine; decide), fun p9 n9 => ?_⟩
      obtain ⟨F9, s9, w9, q9⟩ := w7.frzE (o := .tup [(.int x_many), (.ref a8)]) n9
      replace q1 := s9 _ _ q1
      replace h1 := A2.mono s9 h1
      replace q8 := s9 _ _ q8
      replace h8 := A2.mono s9 h8
      replace sF := sF.trans s9
      refine ⟨_, rfl, _, _, _, ((x_many, y7) : (Int × (Tup (Int × Int)))), rfl, w9, (rep_pair q9 rep_i (rep_tup q8 h8)), ?_⟩
      refine (post_bind hm).mono (fun y10 hm v10 F10 H10 w10 s10 r10 => ?_) (fun _ z => z)
      replace h1 := A2.mono s10 h1
      replace q1 := s10 _ _ q1
      replace q9 := s10 _ _ q9
      replace h8 := A2.mono s10 h8
      replace q8 := s10 _ _ q8
      replace sF := sF.trans s10
      obtain ⟨a11, vs11, rfl, q11, h11⟩ := r10
      refine ⟨_, _, _, (y10 : (List (List Int))), _, rfl, w10, (rep_lst q11 h11), ?_⟩
      refine (post_bind hm).mono (fun y12 hm p12 us12 F12 H12 w12 s12 g12 => ?_) (fun _ z => z)
      replace h1 := A2.mono s12 h1
      replace q1 := s12 _ _ q1
      replace q9 := s12 _ _ q9
      replace h8 := A2.mono s12 h8
      replace q8 := s12 _ _ q8
      replace q11 := s12 _ _ q11
      replace h11 := A2.mono s12 h11
      replace sF := sF.trans s12
      obtain ⟨F14, s14, w14, q14⟩ : ∃ F', Same F12 F' ∧ W F' _ (os) ∧ F' p12 = some (.lst us12) := w12.freezeE (pre := [])
      replace h1 := A2.mono s14 h1
      replace q1 := s14 _ _ q1
      replace q9 := s14 _ _ q9
      replace h8 := A2.mono s14 h8
      replace q8 := s14 _ _ q8
      replace q11 := s14 _ _ q11
      replace h11 := A2.mono s14 h11
      replace g12 := A2.mono s14 g12
      replace sF := sF.trans s14
      obtain ⟨c16, hm⟩ := pb_rng hm
      refine ⟨_, rfl, _, rfl, c16.2.2.1, c16.2.2.2, ?_⟩
      refine forS (tw_rng0 (j := x_many)) hm (fun (g15 : Unit) σ H' => ∃ (F' : Hp) (o15_4 : Option V), σ = [some (.int x_many), some (.ref a1), some (.ref p9), some (.ref p12), o15_4] ∧ Same F14 F' ∧ W F' H' (os)) ⟨_, _, rfl, Same.refl _, w14⟩ (fun _ _ _ _ => trivial) ?_ ?_
      · -- a turn
        intro b15 g15 x15 σ15 H15 H15' N15 P15 hI hy hN15 hm
        obtain ⟨F15, o15_4, rfl, s15, w15⟩ := hI
        replace h1 := A2.mono s15 h1
        replace q1 := s15 _ _ q1
        replace q9 := s15 _ _ q9
        replace h8 := A2.mono s15 h8
        replace q8 := s15 _ _ q8
        replace g12 := A2.mono s15 g12
        replace q14 := s15 _ _ q14
        replace sF := sF.trans s15
        obtain ⟨rfl, rfl⟩ := hy
        obtain ⟨t17, e17, hm⟩ := pb_get hm
        obtain ⟨u17, f17, r17⟩ := A2.at g12 e17
        refine ⟨_, rfl, _, rfl, _, _, _, _, rfl, rfl, SqL.of (w15.same _ _ q14), f17, rfl, _, isN_eq r17, _, rfl, ?_⟩
        refine post_ite hm (fun k19 hm => ?_) (fun k19 hm => ?_)
        · skip
          try dsimp only
          exact hm
        · skip
          exact hN15 _ (post_ok hm) _ _ ⟨_, _, rfl, s15, w15⟩
      intro g15 σ15 H15 hI hm
      obtain ⟨F15, o15_4, rfl, s15, w15⟩ := hI
      replace h1 := A2.mono s15 h1
      replace q1 := s15 _ _ q1
      replace q9 := s15 _ _ q9
      replace h8 := A2.mono s15 h8
      replace q8 := s15 _ _ q8
      replace g12 := A2.mono s15 g12
      replace q14 := s15 _ _ q14
      replace sF := sF.trans s15
      exact ⟨_, rfl, (post_ok hm) _ _ _ w15 sF (rep_pair q9 rep_i (rep_tup q8 h8))⟩
def sp_place_asked (K : Fg) : Sp := fun vs H Q E => ∃ (F : Hp) (os : List (Addr × HO)) (v_web : V) (x_web : (Int × (Tup (Int × Int)))) (x_place : Int), vs = [v_web, .int x_place] ∧ W F H (os) ∧ rep K F v_web x_web ∧ Post (place_asked x_web x_place) (Ret K F os Q) noX
theorem sc_place_asked : FnScope ["web", "place"] ["web", "place"] (defScope s_place_asked) := ⟨rfl, rfl, rfl, by decide +kernel, rfl, by decide +kernel, by decide +kernel⟩
theorem ok_place_asked (T : Tx K mg A FD) : FnOk P w K mg base CX0 1 (A 12) (FD 12) ["web", "place"] (sp_place_asked K) := by
  refine T.d12.fn.ok sc_place_asked (fun vs H Q E h => ?_) (fun cdv Ar outer s H vs Q E hr h => ?_)
  · obtain ⟨F, os, v_web, x_web, x_place, rfl, _⟩ := h
    rfl
  · obtain ⟨F0, os, v_web, x_web, x_place, rfl, w0, r_web, hm⟩ := h
    have sF : Same F0 F0 := Same.refl _
    obtain ⟨a1, u1, z1, rfl, q1, r1a, r1b⟩ := r_web
    obtain rfl : u1 = V.int x_web.1 := r1a
    obtain ⟨a2, vs2, rfl, q2, h2⟩ := r1b
    refine ⟨_, (pss_one (ps_if (pt_not (pt_chain op_le op_lt pe_int (pv 1) (pe_ix (ix_tupK (K := K) rfl) (pv 0) pe_int (fun _ _ => rfl)))) (pss_one ps_absurd) pss_nil)), ?_⟩
    try dsimp only
    refine stepIf ?_
    refine stepNot ?_
    refine cutT (fun c H' => c = ((decide ((0 : Int) ≤ x_place)) && (decide (x_place < x_web.1))) ∧ ∃ F', Same F0 F' ∧ W F' H' (os)) (fun Q3 q3 => ?_) (fun c3 H3 hc3 => ?_)
    · -- the ways
      refine ⟨_, rfl, _, _, rfl, rfl, _, rfl, ?_⟩
      refine ifB (fun k4 => ?_) (fun k4 => ?_)
      · skip
        exact ⟨_, rfl, _, _, _, _, rfl, rfl, SqT.of (w0.same _ _ q1), rfl, _, _, rfl, rfl, _, rfl, q3 _ _ ⟨(by first | rfl | exact absurd k4 (by decide) | (simp [k4]; done) | ((try simp only [Bool.not_eq_true] at k4); simp only [k4, Bool.true_or, Bool.false_or, Bool.or_false, Bool.or_true, Bool.true_and, Bool.false_and, Bool.and_true, Bool.and_false])), _, Same.refl _, w0⟩⟩
      · skip
        exact ⟨_, rfl, q3 _ _ ⟨(by first | rfl | exact absurd k4 (by decide) | (simp [k4]; done) | ((try simp only [Bool.not_eq_true] at k4); simp only [k4, Bool.true_or, Bool.false_or, Bool.or_false, Bool.or_true, Bool.true_and, Bool.false_and, Bool.and_true, Bool.and_false])), _, Same.refl _, w0⟩⟩
    obtain ⟨rfl, F3, s3, w3⟩ := hc3
    replace q1 := s3 _ _ q1
    replace q2 := s3 _ _ q2
    replace h2 := A2.mono s3 h2
    replace sF := sF.trans s3
    refine post_ite hm (fun k7 hm => ?_) (fun k7 hm => ?_)
    · skip
      try dsimp only
      exact hm
    · skip
      exact (post_ok hm) _ _ _ w3 sF rep_n
def sp_fars_from (K : Fg) : Sp := fun vs H Q E => ∃ (F : Hp) (os : List (Addr × HO)) (v_web : V) (x_web : (Int × (Tup (Int × Int)))) (x_place : Int), vs = [v_web, .int x_place] ∧ W F H (os) ∧ rep K F v_web x_web ∧ Post (fars_from x_web x_place) (RetL K F os Q) noX
theorem sc_fars_from : FnScope ["web", "place"] ["web", "place"] (defScope s_fars_from) := ⟨rfl, rfl, rfl, by decide +kernel, rfl, by decide +kernel, by decide +kernel⟩
theorem ok_fars_from (T : Tx K mg A FD) : FnOk P w K mg base CX0 2 (A 13) (FD 13) ["web", "place"] (sp_fars_from K) := by
  refine T.d13.fn.ok sc_fars_from (fun vs H Q E h => ?_) (fun cdv Ar outer s H vs Q E hr h => ?_)
  · obtain ⟨F, os, v_web, x_web, x_place, rfl, _⟩ := h
    rfl
  · obtain ⟨F0, os, v_web, x_web, x_place, rfl, w0, r_web, hm⟩ := h
    have sF : Same F0 F0 := Same.refl _
    obtain ⟨a1, u1, z1, rfl, q1, r1a, r1b⟩ := r_web
    obtain rfl : u1 = V.int x_web.1 := r1a
    obtain ⟨a2, vs2, rfl, q2, h2⟩ := r1b
    refine ⟨_, (pss_cons (ps_expr (pe_call (ok_place_asked T) (hr.mono (by decide)) (by rfl) T.d12.mg T.d12.fn.kp T.d12.b .nil pass0 (pa_cons (pv 0) (pa_cons (pv 1) pa_nil)))) (pss_one (ps_ret (pe_call (ok_fars_by T) (hr.mono (by decide)) (by rfl) T.d9.mg T.d9.fn.kp T.d9.b .nil pass0 (pa_cons (pe_call (ok_near_lists T) (hr.mono (by decide)) (by rfl) T.d8.mg T.d8.fn.kp T.d8.b .nil pass0 (pa_cons (pv 0) pa_nil)) (pa_cons (pv 1) pa_nil)))))), ?_⟩
    refine ⟨_, rfl, _, rfl, _, _, _, (x_web : (Int × (Tup (Int × Int)))), _, rfl, w0, (rep_pair q1 rep_i (rep_tup q2 h2)), ?_⟩
    refine (post_bind hm).mono (fun y3 hm v3 F3 H3 w3 s3 r3 => ?_) (fun _ z => z)
    replace q1 := s3 _ _ q1
    replace q2 := s3 _ _ q2
    replace h2 := A2.mono s3 h2
    replace sF := sF.trans s3
    obtain rfl : v3 = V.non := r3
    refine ⟨_, rfl, _, _, _, (x_web : (Int × (Tup (Int × Int)))), rfl, w3, (rep_pair q1 rep_i (rep_tup q2 h2)), ?_⟩
    refine (post_bind hm).mono (fun y4 hm v4 F4 H4 w4 s4 r4 => ?_) (fun _ z => z)
    replace q1 := s4 _ _ q1
    replace h2 := A2.mono s4 h2
    replace q2 := s4 _ _ q2
    replace sF := sF.trans s4
    obtain ⟨a5, vs5, rfl, q5, h5⟩ := r4
    refine ⟨_, rfl, _, _, _, (y4 : (List (List Int))), _, rfl, w4, (rep_lst q5 h5), ?_⟩
    refine (post_bind hm).mono (fun y6 hm p6 us6 F6 H6 w6 s6 g6 => ?_) (fun _ z => z)
    replace q1 := s6 _ _ q1
    replace h2 := A2.mono s6 h2
    replace q2 := s6 _ _ q2
    replace q5 := s6 _ _ q5
    replace h5 := A2.mono s6 h5
    replace sF := sF.trans s6
    obtain ⟨l8, e8, hm⟩ := pb_allS hm
    have h8 : A2 (rep K F6) us6 l8 := A2.unsome (e8 ▸ g6)
    exact (post_ok hm) _ _ _ _ w6 sF h8
def sp_things_of (K : Fg) : Sp := fun vs H Q E => ∃ (F : Hp) (os : List (Addr × HO)) (v_web : V) (x_web : (Int × (Tup (Int × Int)))) (x_kind : Str), vs = [v_web, .str x_kind] ∧ W F H (os) ∧ rep K F v_web x_web ∧ Post (things_of x_web x_kind) (RetL K F os Q) noX
theorem sc_things_of : FnScope ["web", "kind", "places"] ["web", "kind"] (defScope s_things_of) := ⟨rfl, rfl, rfl, by decide +kernel, rfl, by decide +kernel, by decide +kernel⟩
theorem ok_things_of (T : Tx K mg A FD) : FnOk P w K mg base CX0 1 (A 15) (FD 15) ["web", "kind"] (sp_things_of K) := by
  refine T.d15.fn.ok sc_things_of (fun vs H Q E h => ?_) (fun cdv Ar outer s H vs Q E hr h => ?_)
  · obtain ⟨F, os, v_web, x_web, x_kind, rfl, _⟩ := h
    rfl
  · obtain ⟨F0, os, v_web, x_web, x_kind, rfl, w0, r_web, hm⟩ := h
    have sF : Same F0 F0 := Same.refl _
    obtain ⟨a1, u1, z1, rfl, q1, r1a, r1b⟩ := r_web
    obtain rfl : u1 = V.int x_web.1 := r1a
    obtain ⟨a2, vs2, rfl, q2, h2⟩ := r1b
    refine ⟨_, (pss_cons (ps_set (i := 2) sc_things_of.nd rfl (Or.inl rfl) (pe_listRg rfl (by rfl) T.n_list (prg_1 (by rfl) T.n_range (pe_ix (ix_tupK (K := K) rfl) (pv 0) pe_int (fun _ _ => rfl))))) (pss_cons (ps_if (pt_cmpR op_eqS (pv 1) pe_str (nomark _)) (pss_one (ps_ret (pv 2))) pss_nil) (pss_cons (ps_if (pt_cmpR op_eqS (pv 1) pe_str (nomark _)) (pss_one (ps_ret (pe_callTy (call_list_ofK (K := K) rfl) (by rfl) T.n_list (by decide +kernel) (pa_cons (pe_ix (ix_tupK (K := K) rfl) (pv 0) pe_int (fun _ _ => rfl)) pa_nil)))) pss_nil) (pss_one (ps_ret (pe_op op_cat (pv 2) (pe_callTy (call_list_ofK (K := K) rfl) (by rfl) T.n_list (by decide +kernel) (pa_cons (pe_ix (ix_tupK (K := K) rfl) (pv 0) pe_int (fun _ _ => rfl)) pa_nil)))))))), ?_⟩
    obtain ⟨l3, z3, e3, hm⟩ := pb_lrng hm
    have h3 : A2 (rep K F0) (rgV 0 x_web.1) l3 := by rw [e3, rgV_eq]; exact A2.of_ints
    refine ⟨_, rfl, _, _, _, _, rfl, rfl, SqT.of (w0.same _ _ q1), rfl, _, rfl, z3, fun p4 n4 => ?_⟩
    have w4 : W F0 _ ((p4, .lst (rgV 0 x_web.1)) :: os) := w0.new n4
    refine ⟨_, rfl, _, _, rfl, rfl, _, rfl, ?_⟩
    refine post_ite hm (fun k5 hm => ?_) (fun k5 hm => ?_)
    · skip
      have h6 : A2 (rep K F0) (rgV 0 x_web.1) (mkpl l3) := A2.pl h3
      exact ⟨_, rfl, (post_ok hm) _ _ _ _ w4 sF h6⟩
    · skip
      refine ⟨_, rfl, _, _, rfl, rfl, _, rfl, ?_⟩
      refine post_ite hm (fun k7 hm => ?_) (fun k7 hm => ?_)
      · skip
        have h8 : A2 (rep K F0) vs2 x_web.2.l := h2
        refine ⟨_, rfl, _, _, _, _, rfl, rfl, SqT.of (w4.same _ _ q1), rfl, _, _, rfl, .inr (SqT.of (w4.same _ _ q2)), fun p9 n9 => ?_⟩
        have w9 : W F0 _ ((p9, .lst vs2) :: (p4, .lst (rgV 0 x_web.1)) :: os) := w4.new n9
        have h10 : A2 (rep K F0) vs2 (mkti x_web.2.l) := A2.ti h8
        have w11 : W F0 _ ((p9, .lst vs2) :: os) := w9.drop (pre := [_])
        exact (post_ok hm) _ _ _ _ w11 sF h10
      · skip
        have h12 : A2 (rep K F0) vs2 x_web.2.l := h2
        refine ⟨_, rfl, _, rfl, _, _, _, _, rfl, rfl, SqT.of (w4.same _ _ q1), rfl, _, _, rfl, .inr (SqT.of (w4.same _ _ q2)), fun p13 n13 => ?_⟩
        have w13 : W F0 _ ((p13, .lst vs2) :: (p4, .lst (rgV 0 x_web.1)) :: os) := w4.new n13
        have h14 : A2 (rep K F0) (rgV 0 x_web.1) (mkpl l3) := A2.pl h3
        have h15 : A2 (rep K F0) vs2 (mkti x_web.2.l) := A2.ti h12
        obtain ⟨l16, z16, e16, hm⟩ := pn_extend hm
        have h16 : A2 (rep K F0) ((rgV 0 x_web.1) ++ vs2) l16 := e16 ▸ A2.append h14 h15
        refine ⟨_, _, _, _, rfl, rfl, (w13.get (pre := [_])), (w13.get (pre := [])), (A2.le2 h14 h15 z16), fun p17 n17 => ?_⟩
        have w17 : W F0 _ ((p17, .lst ((rgV 0 x_web.1) ++ vs2)) :: (p13, .lst vs2) :: (p4, .lst (rgV 0 x_web.1)) :: os) := w13.new n17
        have w18 : W F0 _ ((p17, .lst ((rgV 0 x_web.1) ++ vs2)) :: (p4, .lst (rgV 0 x_web.1)) :: os) := w17.drop (pre := [_])
        have w19 : W F0 _ ((p17, .lst ((rgV 0 x_web.1) ++ vs2)) :: os) := w18.drop (pre := [_])
        exact (post_ok hm) _ _ _ _ w19 sF h16
def sp_few_things (K : Fg) : Sp := fun vs H Q E => ∃ (F : Hp) (os : List (Addr × HO)) (v_web : V) (x_web : (Int × (Tup (Int × Int)))) (x_kind : Str), vs = [v_web, .str x_kind] ∧ W F H (os) ∧ rep K F v_web x_web ∧ Post (few_things x_web x_kind) (Ret K F os Q) noX
theorem sc_few_things : FnScope ["web", "kind", "things"] ["web", "kind"] (defScope s_few_things) := ⟨rfl, rfl, rfl, by decide +kernel, rfl, by decide +kernel, by decide +kernel⟩
theorem ok_few_things (T : Tx K mg A FD) : FnOk P w K mg base CX0 2 (A 19) (FD 19) ["web", "kind"] (sp_few_things K) := by
  refine T.d19.fn.ok sc_few_things (fun vs H Q E h => ?_) (fun cdv Ar outer s H vs Q E hr h => ?_)
  · obtain ⟨F, os, v_web, x_web, x_kind, rfl, _⟩ := h
    rfl
  · obtain ⟨F0, os, v_web, x_web, x_kind, rfl, w0, r_web, hm⟩ := h
    have sF : Same F0 F0 := Same.refl _
    obtain ⟨a1, u1, z1, rfl, q1, r1a, r1b⟩ := r_web
    obtain rfl : u1 = V.int x_web.1 := r1a
    obtain ⟨a2, vs2, rfl, q2, h2⟩ := r1b
    refine ⟨_, (pss_cons (ps_set (i := 2) sc_few_things.nd rfl (Or.inl rfl) (pe_call (ok_things_of T) (hr.mono (by decide)) (by rfl) T.d15.mg T.d15.fn.kp T.d15.b .nil pass0 (pa_cons (pv 0) (pa_cons (pv 1) pa_nil)))) (pss_cons (ps_if (PW.pt (pw_or (pt_cmp (pc_gt (pe_ix (ix_tupK (K := K) rfl) (pv 0) pe_int (fun _ _ => rfl)) (pe_globI (by rfl) T.c_MOST_PLACES_asks))) (pw_or1 (pt_not (pt_chain op_le op_le pe_int (pe_callB (call_lenN (K := K) rfl) (by rfl) T.n_len (by decide +kernel) (pa_cons (pv 2) pa_nil)) (pe_globI (by rfl) T.c_MOST_THINGS)))))) (pss_one ps_absurd) pss_nil) (pss_one (ps_ret (pv 2))))), ?_⟩
    refine ⟨_, rfl, _, rfl, _, _, _, (x_web : (Int × (Tup (Int × Int)))), _, rfl, w0, (rep_pair q1 rep_i (rep_tup q2 h2)), ?_⟩
    refine (post_bind hm).mono (fun y3 hm p3 us3 F3 H3 w3 s3 g3 => ?_) (fun _ z => z)
    replace q1 := s3 _ _ q1
    replace q2 := s3 _ _ q2
    replace h2 := A2.mono s3 h2
    replace sF := sF.trans s3
    obtain ⟨F5, s5, w5, q5⟩ : ∃ F', Same F3 F' ∧ W F' _ (os) ∧ F' p3 = some (.lst us3) := w3.freezeE (pre := [])
    replace q1 := s5 _ _ q1
    replace q2 := s5 _ _ q2
    replace h2 := A2.mono s5 h2
    replace g3 := A2.mono s5 g3
    replace sF := sF.trans s5
    refine stepN ?_
    try dsimp only
    refine stepSeq (stepIf ?_)
    refine cutT (fun c H' => c = (((decide ((7 : Int) < x_web.1)) || (!((decide ((1 : Int) ≤ (y3.length : Int))) && (decide ((y3.length : Int) ≤ (8 : Int))))))) ∧ ∃ F', Same F5 F' ∧ W F' H' (os)) (fun Q6 q6 => ?_) (fun c6 H6 hc6 => ?_)
    · -- the ways
      refine ⟨_, rfl, _, _, _, _, rfl, rfl, SqT.of (w5.same _ _ q1), rfl, _, _, rfl, rfl, _, rfl, ?_⟩
      refine ifB (fun k7 => ?_) (fun k7 => ?_)
      · skip
        exact q6 _ _ ⟨(by first | rfl | exact absurd k7 (by decide) | (simp [k7]; done) | ((try simp only [Bool.not_eq_true] at k7); simp only [k7, Bool.true_or, Bool.false_or, Bool.or_false, Bool.or_true, Bool.true_and, Bool.false_and, Bool.and_true, Bool.and_false])), _, Same.refl _, w5⟩
      · skip
        refine stepNot ?_
        refine cutT (fun c H' => c = ((decide ((1 : Int) ≤ (y3.length : Int))) && (decide ((y3.length : Int) ≤ (8 : Int)))) ∧ ∃ F', Same F5 F' ∧ W F' H' (os)) (fun Q9 q9 => ?_) (fun c9 H9 hc9 => ?_)
        · -- the ways
          refine ⟨_, rfl, _, _, _, rfl, .inl (SqL.of (w5.same _ _ q5)), g3.length, _, _, rfl, rfl, _, rfl, ?_⟩
          refine ifB (fun k10 => ?_) (fun k10 => ?_)
          · skip
            exact ⟨_, _, rfl, rfl, _, rfl, q9 _ _ ⟨(by first | rfl | exact absurd k10 (by decide) | (simp [k10]; done) | ((try simp only [Bool.not_eq_true] at k10); simp only [k10, Bool.true_or, Bool.false_or, Bool.or_false, Bool.or_true, Bool.true_and, Bool.false_and, Bool.and_true, Bool.and_false])), _, Same.refl _, w5⟩⟩
          · skip
            exact ⟨_, rfl, q9 _ _ ⟨(by first | rfl | exact absurd k10 (by decide) | (simp [k10]; done) | ((try simp only [Bool.not_eq_true] at k10); simp only [k10, Bool.true_or, Bool.false_or, Bool.or_false, Bool.or_true, Bool.true_and, Bool.false_and, Bool.and_true, Bool.and_false])), _, Same.refl _, w5⟩⟩
        obtain ⟨rfl, F9, s9, w9⟩ := hc9
        replace q1 := s9 _ _ q1
        replace h2 := A2.mono s9 h2
        replace q2 := s9 _ _ q2
        replace g3 := A2.mono s9 g3
        replace q5 := s9 _ _ q5
        replace sF := sF.trans s9
        exact q6 _ _ ⟨(by first | rfl | exact absurd k7 (by decide) | (simp [k7]; done) | ((try simp only [Bool.not_eq_true] at k7); simp only [k7, Bool.true_or, Bool.false_or, Bool.or_false, Bool.or_true, Bool.true_and, Bool.false_and, Bool.and_true, Bool.and_false])), _, s9, w9⟩
    obtain ⟨rfl, F6, s6, w6⟩ := hc6
    replace q1 := s6 _ _ q1
    replace h2 := A2.mono s6 h2
    replace q2 := s6 _ _ q2
    replace g3 := A2.mono s6 g3
    replace q5 := s6 _ _ q5
    replace sF := sF.trans s6
    refine post_ite hm (fun k14 hm => ?_) (fun k14 hm => ?_)
    · skip
      try dsimp only
      exact hm
    · skip
      exact ⟨_, rfl, (post_ok hm) _ _ _ w6 sF (rep_lst q5 g3)⟩
def sp_all_fars (K : Fg) : Sp := fun vs H Q E => ∃ (F : Hp) (os : List (Addr × HO)) (v_web : V) (x_web : (Int × (Tup (Int × Int)))), vs = [v_web] ∧ W F H (os) ∧ rep K F v_web x_web ∧ Post (all_fars x_web) (Ret K F os Q) noX
theorem sc_all_fars : FnScope ["web", "place"] ["web"] (defScope s_all_fars) := ⟨rfl, rfl, rfl, by decide +kernel, rfl, by decide +kernel, by decide +kernel⟩
theorem ok_all_fars (T : Tx K mg A FD) : FnOk P w K mg base CX0 3 (A 20) (FD 20) ["web"] (sp_all_fars K) := by
  refine T.d20.fn.ok sc_all_fars (fun vs H Q E h => ?_) (fun cdv Ar outer s H vs Q E hr h => ?_)
  · obtain ⟨F, os, v_web, x_web, rfl, _⟩ := h
    rfl
  · obtain ⟨F0, os, v_web, x_web, rfl, w0, r_web, hm⟩ := h
    have sF : Same F0 F0 := Same.refl _
    obtain ⟨a1, u1, z1, rfl, q1, r1a, r1b⟩ := r_web
    obtain rfl : u1 = V.int x_web.1 := r1a
    obtain ⟨a2, vs2, rfl, q2, h2⟩ := r1b
    refine ⟨_, (pss_one (ps_ret (pe_lc (own := [("place", 1)]) (g := gName 1) (by rfl) sc_all_fars.nd (pi_range1 (by rfl) T.n_range (pa_cons (pe_ix (ix_tupK (K := K) rfl) (pv 0) pe_int (fun _ _ => rfl)) pa_nil)) (blkOk_by (own := [("place", 1)]) (N := ["web", "place"]) (sc := defScope s_all_fars) (by decide +kernel)) (fun _ _ _ _ _ => (pg_name (i := 1) sc_all_fars.nd rfl (Or.inl rfl))) (fun _ _ _ _ _ => pts_nil) (fun _ _ _ _ _ => (pe_call (ok_fars_from T) (hr.mono (by decide)) (by rfl) T.d13.mg T.d13.fn.kp T.d13.b .nil pass0 (pa_cons (pv 0) (pa_cons (pv 1) pa_nil))))))), ?_⟩
    obtain ⟨c3, hm⟩ := pb_rng hm
    refine ⟨_, rfl, _, _, _, _, rfl, rfl, SqT.of (w0.same _ _ q1), rfl, _, rfl, c3.2.2.1, c3.2.2.2, fun D4 nD4 => ?_⟩
    refine lcM (K := K) (tw_rng0 (j := x_web.1)) hm w0 nD4 (fun F' H' acc s w => trivial) ?_ ?_
    · -- one turn
      intro b4 x4 F4 H4 H4' acc4 N4 P4 s4 w4 y4 hN4 hm
      replace q1 := s4 _ _ q1
      replace q2 := s4 _ _ q2
      replace h2 := A2.mono s4 h2
      replace sF := sF.trans s4
      obtain ⟨rfl, rfl⟩ := y4
      refine ⟨rfl, _, rfl, _, rfl, _, _, _, (x_web : (Int × (Tup (Int × Int)))), _, rfl, w4, (rep_pair q1 rep_i (rep_tup q2 h2)), ?_⟩
      refine (post_bind hm).mono (fun y6 hm p6 us6 F6 H6 w6 s6 g6 => ?_) (fun _ z => z)
      replace q1 := s6 _ _ q1
      replace q2 := s6 _ _ q2
      replace h2 := A2.mono s6 h2
      replace sF := sF.trans s6
      obtain ⟨F8, s8, w8, q8⟩ : ∃ F', Same F6 F' ∧ W F' _ ((D4, .lst acc4) :: os) ∧ F' p6 = some (.lst us6) := w6.freezeE (pre := [])
      replace q1 := s8 _ _ q1
      replace q2 := s8 _ _ q2
      replace h2 := A2.mono s8 h2
      replace g6 := A2.mono s8 g6
      replace sF := sF.trans s8
      exact hN4 _ (post_ok hm) _ _ _ w8 (s6.trans s8) (rep_lst q8 g6)
    intro us4 F4 H4 ys4 s4 w4 gg4 hm
    replace q1 := s4 _ _ q1
    replace q2 := s4 _ _ q2
    replace h2 := A2.mono s4 h2
    replace sF := sF.trans s4
    obtain ⟨F10, s10, w10, q10⟩ : ∃ F', Same F4 F' ∧ W F' _ (os) ∧ F' D4 = some (.lst us4) := w4.freezeE (pre := [])
    replace q1 := s10 _ _ q1
    replace q2 := s10 _ _ q2
    replace h2 := A2.mono s10 h2
    replace gg4 := A2.mono s10 gg4
    replace sF := sF.trans s10
    exact (post_ok hm) _ _ _ w10 sF (rep_lst q10 gg4)
def sp_far_thing (K : Fg) : Sp := fun vs H Q E => ∃ (F : Hp) (os : List (Addr × HO)) (v_fars : V) (x_fars : (List (List Int))) (x_place : Int) (v_thing : V) (x_thing : Thing), vs = [v_fars, .int x_place, v_thing] ∧ W F H (os) ∧ rep K F v_fars x_fars ∧ rep K F v_thing x_thing ∧ Post (far_thing x_fars x_place x_thing) (Ret K F os Q) noX
theorem sc_far_thing : FnScope ["fars", "place", "thing"] ["fars", "place", "thing"] (defScope s_far_thing) := ⟨rfl, rfl, rfl, by decide +kernel, rfl, by decide +kernel, by decide +kernel⟩
theorem ok_far_thing (T : Tx K mg A FD) : FnOk P w K mg base CX0 1 (A 21) (FD 21) ["fars", "place", "thing"] (sp_far_thing K) := by
  refine T.d21.fn.ok sc_far_thing (fun vs H Q E h => ?_) (fun cdv Ar outer s H vs Q E hr h => ?_)
  · obtain ⟨F, os, v_fars, x_fars, x_place, v_thing, x_thing, rfl, _⟩ := h
    rfl
  · obtain ⟨F0, os, v_fars, x_fars, x_place, v_thing, x_thing, rfl, w0, r_fars, r_thing, hm⟩ := h
    have sF : Same F0 F0 := Same.refl _
    obtain ⟨a1, vs1, rfl, q1, h1⟩ := r_fars
    refine ⟨_, (pss_cons (ps_if (pt_val (pe_callB (call_isB (K := K) rfl) (by rfl) T.n_isinstance (by decide +kernel) (pa_cons (pv 2) (pa_cons (pe_bltn (v := .ty "tuple") (by rfl) T.n_tuple (by decide +kernel) rfl) pa_nil)))) (pss_one (ps_ret (pe_callB (call_min2 rfl) (by rfl) T.n_min (by decide +kernel) (pa_cons (pe_ix (ix_listK (K := K) rfl) (pe_ix (ix_listK (K := K) rfl) (pv 0) (pv 1) (fun _ _ => rfl)) (pe_ix (ix_tupK (K := K) rfl) (pv 2) pe_int (fun _ _ => rfl)) (fun _ _ => rfl)) (pa_cons (pe_ix (ix_listK (K := K) rfl) (pe_ix (ix_listK (K := K) rfl) (pv 0) (pv 1) (fun _ _ => rfl)) (pe_ix (ix_tupK (K := K) rfl) (pv 2) pe_int (fun _ _ => rfl)) (fun _ _ => rfl)) pa_nil))))) pss_nil) (pss_one (ps_ret (pe_ix (ix_listK (K := K) rfl) (pe_ix (ix_listK (K := K) rfl) (pv 0) (pv 1) (fun _ _ => rfl)) (pv 2) (fun _ _ => rfl))))), ?_⟩
    obtain ⟨a3, y3, k3⟩ := th_tuple w0.same r_thing
    refine ⟨_, rfl, _, _, _, (!x_thing.isPl), rfl, y3, k3, _, rfl, ?_⟩
    refine post_ite hm (fun k4 hm => ?_) (fun k4 hm => ?_)
    · skip
      obtain ⟨t5, e5, hm⟩ := pb_asTi hm
      have r5 : rep K F0 v_thing (t5 : Int × Int) := (show rep K F0 v_thing (Thing.ti t5.1 t5.2) from e5 ▸ r_thing)
      obtain ⟨a6, u6, z6, rfl, q6, r6a, r6b⟩ := r5
      obtain rfl : u6 = V.int t5.1 := r6a
      obtain rfl : z6 = V.int t5.2 := r6b
      obtain ⟨t7, e7, hm⟩ := pb_get hm
      obtain ⟨u7, f7, r7⟩ := A2.at h1 e7
      obtain ⟨a8, vs8, rfl, q8, h8⟩ := r7
      obtain ⟨t9, e9, hm⟩ := pb_get hm
      obtain ⟨u9, f9, r9⟩ := A2.at h8 e9
      obtain rfl : u9 = V.int t9 := r9
      obtain ⟨t10, e10, hm⟩ := pb_get hm
      obtain ⟨u10, f10, r10⟩ := A2.at h1 e10
      obtain ⟨a11, vs11, rfl, q11, h11⟩ := r10
      obtain ⟨t12, e12, hm⟩ := pb_get hm
      obtain ⟨u12, f12, r12⟩ := A2.at h11 e12
      obtain rfl : u12 = V.int t12 := r12
      exact ⟨_, rfl, _, rfl, _, _, _, _, rfl, rfl, SqL.of (w0.same _ _ q1), f7, _, rfl, _, _, _, _, rfl, rfl, SqT.of (w0.same _ _ q6), rfl, _, _, _, _, rfl, rfl, SqL.of (w0.same _ _ q8), f9, _, rfl, _, rfl, _, _, _, _, rfl, rfl, SqL.of (w0.same _ _ q1), f10, _, rfl, _, _, _, _, rfl, rfl, SqT.of (w0.same _ _ q6), rfl, _, _, _, _, rfl, rfl, SqL.of (w0.same _ _ q11), f12, _, _, rfl, (post_ok hm) _ _ _ w0 sF rep_i⟩
    · skip
      obtain ⟨t13, e13, hm⟩ := pb_asPl hm
      have r13 : v_thing = V.int t13 := (show rep K F0 v_thing (Thing.pl t13) from e13 ▸ r_thing)
      subst r13
      obtain ⟨t14, e14, hm⟩ := pb_get hm
      obtain ⟨u14, f14, r14⟩ := A2.at h1 e14
      obtain ⟨a15, vs15, rfl, q15, h15⟩ := r14
      obtain ⟨t16, e16, hm⟩ := pb_get hm
      obtain ⟨u16, f16, r16⟩ := A2.at h15 e16
      obtain rfl : u16 = V.int t16 := r16
      exact ⟨_, rfl, _, rfl, _, _, _, _, rfl, rfl, SqL.of (w0.same _ _ q1), f14, _, rfl, _, _, _, _, rfl, rfl, SqL.of (w0.same _ _ q15), f16, (post_ok hm) _ _ _ w0 sF rep_i⟩
def sp_parts_by (K : Fg) : Sp := fun vs H Q E => ∃ (F : Hp) (os : List (Addr × HO)) (v_fars : V) (x_fars : (List (List Int))) (v_things : V) (x_things : (Tup Thing)) (x_place : Int), vs = [v_fars, v_things, .int x_place] ∧ W F H (os) ∧ rep K F v_fars x_fars ∧ rep K F v_things x_things ∧ Post (parts_by x_fars x_things x_place) (Ret K F os Q) noX
theorem sc_parts_by : FnScope ["fars", "things", "place", "found", "thing", "answer"] ["fars", "things", "place"] (defScope s_parts_by) := ⟨rfl, rfl, rfl, by decide +kernel, rfl, by decide +kernel, by decide +kernel⟩
theorem ok_parts_by (T : Tx K mg A FD) : FnOk P w K mg base CX0 2 (A 22) (FD 22) ["fars", "things", "place"] (sp_parts_by K) := by
  refine T.d22.fn.ok sc_parts_by (fun vs H Q E h => ?_) (fun cdv Ar outer s H vs Q E hr h => ?_)
  · obtain ⟨F, os, v_fars, x_fars, v_things, x_things, x_place, rfl, _⟩ := h
    rfl
  · obtain ⟨F0, os, v_fars, x_fars, v_things, x_things, x_place, rfl, w0, r_fars, r_things, hm⟩ := h
    have sF : Same F0 F0 := Same.refl _
    obtain ⟨a1, vs1, rfl, q1, h1⟩ := r_fars
    obtain ⟨a2, vs2, rfl, q2, h2⟩ := r_things
    have hr_g : Sto K F0 [] [] ([] : List (List Thing)) := Sto.nil
    replace w0 : W F0 _ ((nz [] [] ++ os)) := w0
    refine ⟨_, (pss_cons (ps_set (i := 3) sc_parts_by.nd rfl (Or.inr rfl) pe_dnewK) (pss_cons (ps_for PassesOwn.never rfl (pi_tupK (K := K) rfl (pv 1)) (pg_name (i := 4) sc_parts_by.nd rfl (Or.inl rfl)) (pss_one (ps_expr (pe_bm PySem.F.plainAttrs_list PySem.F.slot_list_append PySem.F.type_list_append mt_append (pe_dsetdVK (pv 3) (pe_call (ok_far_thing T) (hr.mono (by decide)) (by rfl) T.d21.mg T.d21.fn.kp T.d21.b .nil pass0 (pa_cons (pv 0) (pa_cons (pv 2) (pa_cons (pv 4) pa_nil)))) (pe_lst pa_nil) ⟨rfl, rfl, rfl, rfl⟩) (pa_cons (pv 4) pa_nil))))) (pss_one (ps_ret (pe_lc (own := [("answer", 5)]) (g := gName 5) (by rfl) sc_parts_by.nd (pi_listK (K := K) rfl (pe_callB (cr_sortedDK rfl) (by rfl) T.n_sorted (by decide +kernel) (pa_cons (pv 3) pa_nil))) (blkOk_by (own := [("answer", 5)]) (N := ["fars", "things", "place", "found", "thing", "answer"]) (sc := defScope s_parts_by) (by decide +kernel)) (fun _ _ _ _ _ => (pg_name (i := 5) sc_parts_by.nd rfl (Or.inl rfl))) (fun _ _ _ _ _ => pts_nil) (fun _ _ _ _ _ => (pe_tup (pa_cons (pv 5) (pa_cons (pe_callTy (call_tuple_ofK (K := K) rfl) (by rfl) T.n_tuple (by decide +kernel) (pa_cons (pe_dget (Room.units1 hr) (pv 3) (pv 5) (fun _ _ => rfl)) pa_nil)) pa_nil))))))))), ?_⟩
    refine fun p4 n4 => ?_
    have w4 : W F0 _ ((p4, .dK []) :: (nz [] [] ++ os)) := w0.new n4
    have h4 : AD kK (RX []) [] ([] : (List (Int × Ix))) := .nil
    refine ⟨_, rfl, _, rfl, ⟨_, SqT.of (w4.same _ _ q2)⟩, ?_⟩
    refine forS (tw_tup (a := a2) h2) hm (fun (g5 : (List (Int × Ix)) × (List (List Thing))) σ H' => ∃ (F' : Hp) (vs5_0 : List (Key × V)) (as5_1 : List Addr) (vs5_1 : List (List V)) (o5_4 : Option V), σ = [some (.ref a1), some (.ref a2), some (.int x_place), some (.ref p4), o5_4, none] ∧ Same F0 F' ∧ W F' H' ((p4, .dK vs5_0) :: (nz as5_1 vs5_1 ++ os)) ∧ AD kK (RX as5_1) vs5_0 g5.1 ∧ [] <+: as5_1 ∧ Sto K F' as5_1 vs5_1 g5.2) ⟨_, _, _, _, _, rfl, Same.refl _, w4, h4, pfx_refl, hr_g⟩ (fun g σ H' hI => by obtain ⟨F', _, _, _, _, _, s, w, _⟩ := hI; exact SqT.of (w.same _ _ (s _ _ q2))) ?_ ?_
    · -- a turn
      intro b5 g5 x5 σ5 H5 H5' N5 P5 hI hy hN5 hm
      obtain ⟨F5, vs5_0, as5_1, vs5_1, o5_4, rfl, s5, w5, h5_0, p5_1, h5_1⟩ := hI
      replace h1 := A2.mono s5 h1
      replace q1 := s5 _ _ q1
      replace h2 := A2.mono s5 h2
      replace q2 := s5 _ _ q2
      replace sF := sF.trans s5
      obtain ⟨rfl, r6⟩ := hy
      replace r6 := Rep.mono s5 r6
      refine ⟨_, rfl, _, rfl, isD_k (w5.get (pre := [])), _, rfl, _, rfl, _, rfl, _, _, _, (x_fars : (List (List Int))), _, _, (b5 : Thing), rfl, w5, (rep_lst q1 h1), r6, ?_⟩
      refine (post_bind hm).mono (fun y8 hm v8 F8 H8 w8 s8 r8 => ?_) (fun _ z => z)
      replace h1 := A2.mono s8 h1
      replace q1 := s8 _ _ q1
      replace h2 := A2.mono s8 h2
      replace q2 := s8 _ _ q2
      replace r6 := Rep.mono s8 r6
      replace h5_1 := Sto.mono s8 h5_1
      replace sF := sF.trans s8
      obtain rfl : v8 = V.int y8 := r8
      have h9 : A2 (rep K F8) [] ([] : (List Thing)) := .nil
      refine ⟨(by show 0 ≤ sizeLine; decide), fun p10 n10 => ?_⟩
      have w10 : W F8 _ ((p10, .lst []) :: (p4, .dK vs5_0) :: (nz as5_1 vs5_1 ++ os)) := w8.new n10
      obtain ⟨j11, st11, ej11, es11, hm⟩ := pn_newS hm
      have w11 : W F8 _ ((p4, .dK vs5_0) :: (nz (as5_1 ++ [p10]) (vs5_1 ++ [[]]) ++ os)) := w10.nadd (pre := [_]) h5_1.len
      have q11 : (as5_1 ++ [p10])[j11]? = some p10 := IQ.new (h5_1.len2.trans ej11.symm)
      have h11 : Sto K F8 (as5_1 ++ [p10]) (vs5_1 ++ [[]]) st11 := es11 ▸ Sto.snoc (p := p10) h5_1 h9
      replace h5_0 := AD.imp (fun _ _ => RX.mono (pfx_snoc (p := p10))) h5_0
      obtain ⟨l12, z12, e12, hm⟩ := pn_msetd hm
      obtain ⟨t12, i12, hm⟩ := pb_mget hm
      have h12 : AD kK (RX (as5_1 ++ [p10])) (setdKK vs5_0 (kK y8) (.ref p10)) l12 := e12 ▸ AD.setdK h5_0 ⟨_, rfl, q11⟩
      obtain ⟨u12, f12, r12⟩ := AD.get kK_inj h12 i12
      refine ⟨_, _, _, (w11.get (pre := [])), rfl, (by rw [AD.length h5_0]; exact z12), f12, ?_⟩
      have w13 : W F8 _ ((p4, .dK (setdKK vs5_0 (kK y8) (.ref p10))) :: (nz (as5_1 ++ [p10]) (vs5_1 ++ [[]]) ++ os)) := w11.set (pre := [])
      obtain ⟨a14, rfl, q14⟩ := r12
      obtain ⟨x15, e15, hm⟩ := pb_getS hm
      obtain ⟨vs15, i15, h15⟩ := Sto.getq h11 e15 q14
      obtain ⟨l16, z16, e16, hm⟩ := pn_app hm
      obtain ⟨st16, es16, hm⟩ := pn_setS hm
      refine ⟨.inl ⟨rfl, _, SqL.of (W.nget (pre := [_]) w13 q14 i15)⟩, _, rfl, _, _, _, rfl, rfl, (W.nget (pre := [_]) w13 q14 i15), (A2.lt h15 z16), ?_⟩
      have h16 : Sto K F8 (as5_1 ++ [p10]) ((vs5_1 ++ [[]]).set t12 (vs15 ++ [x5])) st16 := es16 ▸ Sto.set h11 (e16 ▸ A2.snoc h15 r6)
      have w16 : W F8 _ ((p4, .dK (setdKK vs5_0 (kK y8) (.ref p10))) :: (nz (as5_1 ++ [p10]) ((vs5_1 ++ [[]]).set t12 (vs15 ++ [x5])) ++ os)) := w13.nset (pre := [_]) (vs15 ++ [x5]) q14 i15
      exact hN5 _ (post_ok hm) _ _ ⟨_, _, _, _, _, rfl, (s5.trans s8), w16, h12, (pfx_trans p5_1 (pfx_snoc (p := p10))), h16⟩
    intro g5 σ5 H5 hI hm
    obtain ⟨F5, vs5_0, as5_1, vs5_1, o5_4, rfl, s5, w5, h5_0, p5_1, h5_1⟩ := hI
    replace h1 := A2.mono s5 h1
    replace q1 := s5 _ _ q1
    replace h2 := A2.mono s5 h2
    replace q2 := s5 _ _ q2
    replace sF := sF.trans s5
    refine ⟨_, rfl, _, _, _, rfl, (.inl (w5.get (pre := []))), keysI_of h5_0, fun ns17 p17 u17 i17 n17 => ?_⟩
    obtain rfl : ns17 = (sortI (g5.1.map (·.1))) := sortI_eq u17 i17
    have h17 : A2 (rep K F5) ((sortI (g5.1.map (·.1))).map V.int) (sortI (g5.1.map (·.1))) := A2.of_ints
    have w17 : W F5 _ ((p17, .lst ((sortI (g5.1.map (·.1))).map V.int)) :: (p4, .dK vs5_0) :: (nz as5_1 vs5_1 ++ os)) := w5.new n17
    obtain ⟨F19, s19, w19, q19⟩ : ∃ F', Same F5 F' ∧ W F' _ ((p4, .dK vs5_0) :: (nz as5_1 vs5_1 ++ os)) ∧ F' p17 = some (.lst ((sortI (g5.1.map (·.1))).map V.int)) := w17.freezeE (pre := [])
    replace h1 := A2.mono s19 h1
    replace q1 := s19 _ _ q1
    replace h2 := A2.mono s19 h2
    replace q2 := s19 _ _ q2
    replace h5_1 := Sto.mono s19 h5_1
    replace h17 := A2.mono s19 h17
    replace sF := sF.trans s19
    refine ⟨_, rfl, ⟨_, SqL.of (w19.same _ _ q19)⟩, fun D20 nD20 => ?_⟩
    refine lcM (K := K) (tw_list (a := p17) h17) hm w19 nD20 (fun F' H' acc s w => SqL.of (w.same _ _ (s _ _ q19))) ?_ ?_
    · -- one turn
      intro b20 x20 F20 H20 H20' acc20 N20 P20 s20 w20 y20 hN20 hm
      replace h1 := A2.mono s20 h1
      replace q1 := s20 _ _ q1
      replace h2 := A2.mono s20 h2
      replace q2 := s20 _ _ q2
      replace h5_1 := Sto.mono s20 h5_1
      replace h17 := A2.mono s20 h17
      replace q19 := s20 _ _ q19
      replace sF := sF.trans s20
      obtain ⟨rfl, r22⟩ := y20
      obtain rfl : x20 = V.int b20 := r22
      obtain ⟨t23, e23, hm⟩ := pb_mget hm
      obtain ⟨u23, f23, r23⟩ := AD.get kK_inj h5_0 e23
      obtain ⟨a24, rfl, q24⟩ := r23
      obtain ⟨x25, e25, hm⟩ := pb_getS hm
      obtain ⟨vs25, i25, h25⟩ := Sto.getq h5_1 e25 q24
      have h26 : A2 (rep K F20) vs25 x25 := h25
      refine ⟨rfl, _, rfl, _, rfl, _, rfl, _, _, rfl, dgetsI (w20.get (pre := [_])) f23, _, _, rfl, .inl ⟨SqL.of (W.nget (pre := [_, _]) w20 q24 i25), fun p27 n27 => ?_⟩⟩
      obtain ⟨F27, s27, w27, q27⟩ := w20.frzE (o := .tup vs25) n27
      replace h1 := A2.mono s27 h1
      replace q1 := s27 _ _ q1
      replace h2 := A2.mono s27 h2
      replace q2 := s27 _ _ q2
      replace h5_1 := Sto.mono s27 h5_1
      replace h17 := A2.mono s27 h17
      replace q19 := s27 _ _ q19
      replace h25 := A2.mono s27 h25
      replace h26 := A2.mono s27 h26
      replace sF := sF.trans s27
      refine ⟨(by show 2 ≤ sizeLine; decide), fun p28 n28 => ?_⟩
      obtain ⟨F28, s28, w28, q28⟩ := w27.frzE (o := .tup [(.int b20), (.ref p27)]) n28
      replace h1 := A2.mono s28 h1
      replace q1 := s28 _ _ q1
      replace h2 := A2.mono s28 h2
      replace q2 := s28 _ _ q2
      replace h5_1 := Sto.mono s28 h5_1
      replace h17 := A2.mono s28 h17
      replace q19 := s28 _ _ q19
      replace h25 := A2.mono s28 h25
      replace h26 := A2.mono s28 h26
      replace q27 := s28 _ _ q27
      replace sF := sF.trans s28
      exact hN20 _ (post_ok hm) _ _ _ w28 (s27.trans s28) (rep_pair q28 rep_i (rep_tup q27 h26))
    intro us20 F20 H20 ys20 s20 w20 gg20 hm
    replace h1 := A2.mono s20 h1
    replace q1 := s20 _ _ q1
    replace h2 := A2.mono s20 h2
    replace q2 := s20 _ _ q2
    replace h5_1 := Sto.mono s20 h5_1
    replace h17 := A2.mono s20 h17
    replace q19 := s20 _ _ q19
    replace sF := sF.trans s20
    obtain ⟨F30, s30, w30, q30⟩ : ∃ F', Same F20 F' ∧ W F' _ ((p4, .dK vs5_0) :: (nz as5_1 vs5_1 ++ os)) ∧ F' D20 = some (.lst us20) := w20.freezeE (pre := [])
    replace h1 := A2.mono s30 h1
    replace q1 := s30 _ _ q1
    replace h2 := A2.mono s30 h2
    replace q2 := s30 _ _ q2
    replace h5_1 := Sto.mono s30 h5_1
    replace h17 := A2.mono s30 h17
    replace q19 := s30 _ _ q19
    replace gg20 := A2.mono s30 gg20
    replace sF := sF.trans s30
    have w31 : W F30 _ ((nz as5_1 vs5_1 ++ os)) := w30.drop (pre := [])
    have w32 : W F30 _ (os) := w31.dropL (pre := [])
    exact (post_ok hm) _ _ _ w32 sF (rep_lst q30 gg20)
def sp_Asking_init (K : Fg) : Sp := fun vs H Q E => ∃ (F : Hp) (os : List (Addr × HO)) (a_self : Addr) (dx_self : Addr) (C_self : Addr) (v_web : V) (x_web : (Int × (Tup (Int × Int)))), vs = [.ref a_self, v_web] ∧ W F H ((a_self, .ins C_self dx_self []) :: (dx_self, .own a_self) :: os) ∧ Nm K "Asking" C_self ∧ rep K F v_web x_web ∧ Post (Asking_init x_web) (fun (y : AskingF) => ∀ (u_fars : V) (p_least : Addr) (us_least : List Ent) (p_best : Addr) (us_best : List Ent) (F' H' : Hp), W F' H' ((a_self, .ins C_self dx_self (mkfs [("fars" : Str), ("least" : Str), ("best" : Str)] [u_fars, .ref p_least, .ref p_best])) :: (dx_self, .own a_self) :: (p_least, DnO p_least us_least) :: (p_best, DnO p_best us_best) :: os) → Same F F' → rep K F' u_fars (y.1 : (List (List Int))) → ADN K F' (rep K F') us_least y.2.1 → ADN K F' (rep K F') us_best y.2.2.1 → Q .non H') noX
theorem sc_Asking_init : FnScope ["self", "web"] ["self", "web"] (defScope s_Asking_init) := ⟨rfl, rfl, rfl, by decide +kernel, rfl, by decide +kernel, by decide +kernel⟩
theorem ok_Asking_init (T : Tx K mg A FD) : FnOk P w K mg base CX0 4 (A 24000) (FD 24000) ["self", "web"] (sp_Asking_init K) := by
  refine T.d24000.fn.ok sc_Asking_init (fun vs H Q E h => ?_) (fun cdv Ar outer s H vs Q E hr h => ?_)
  · obtain ⟨F, os, a_self, dx_self, C_self, v_web, x_web, rfl, _⟩ := h
    rfl
  · obtain ⟨F0, os, a_self, dx_self, C_self, v_web, x_web, rfl, w0, n_self, r_web, hm⟩ := h
    have sF : Same F0 F0 := Same.refl _
    obtain rfl := n_self.uniq T.nm_Asking
    obtain ⟨a3, u3, z3, rfl, q3, r3a, r3b⟩ := r_web
    obtain rfl : u3 = V.int x_web.1 := r3a
    obtain ⟨a4, vs4, rfl, q4, h4⟩ := r3b
    refine ⟨_, (pss_cons (ps_fld (pv 0) (pe_call (ok_all_fars T) (hr.mono (by decide)) (by rfl) T.d20.mg T.d20.fn.kp T.d20.b .nil pass0 (pa_cons (pv 1) pa_nil)) (by rfl)) (pss_cons (ps_fld (pv 0) pe_dnewN (by rfl)) (pss_one (ps_fld (pv 0) pe_dnewN (by rfl))))), ?_⟩
    refine ⟨_, rfl, _, _, _, (x_web : (Int × (Tup (Int × Int)))), rfl, w0, (rep_pair q3 rep_i (rep_tup q4 h4)), ?_⟩
    refine (post_bind hm).mono (fun y5 hm v5 F5 H5 w5 s5 r5 => ?_) (fun _ z => z)
    replace q3 := s5 _ _ q3
    replace q4 := s5 _ _ q4
    replace h4 := A2.mono s5 h4
    replace sF := sF.trans s5
    obtain ⟨a6, vs6, rfl, q6, h6⟩ := r5
    refine ⟨_, rfl, _, _, _, _, rfl, (w5.get (pre := [])), T.cl_Asking, T.na_Asking_fars, (Nat.lt_of_le_of_lt (Nat.le_refl _) (by decide : 0 < 1000)), ?_⟩
    have w7 : W F5 _ ((a_self, (.ins (A 23) dx_self (putF ("fars" : Str) (.ref a6) []))) :: (dx_self, (.own a_self)) :: os) := w5.set (pre := [])
    refine fun p8 n8 => ?_
    have w8 : W F5 _ ((p8, DnO p8 []) :: (a_self, (.ins (A 23) dx_self (putF ("fars" : Str) (.ref a6) []))) :: (dx_self, (.own a_self)) :: os) := w7.new n8
    have h8 : ADN K F5 (rep K F5) [] ([] : (List ((Tup Thing) × Int))) := .nil
    refine ⟨_, rfl, _, _, _, _, rfl, (w8.get (pre := [_])), T.cl_Asking, T.na_Asking_least, (Nat.lt_of_le_of_lt (Nat.le_trans (length_putF _ _ _) (Nat.succ_le_succ (Nat.le_refl _))) (by decide : 1 < 1000)), ?_⟩
    have w9 : W F5 _ ((p8, DnO p8 []) :: (a_self, (.ins (A 23) dx_self (putF ("least" : Str) (.ref p8) (putF ("fars" : Str) (.ref a6) [])))) :: (dx_self, (.own a_self)) :: os) := w8.set (pre := [_])
    refine fun p10 n10 => ?_
    have w10 : W F5 _ ((p10, DnO p10 []) :: (p8, DnO p8 []) :: (a_self, (.ins (A 23) dx_self (putF ("least" : Str) (.ref p8) (putF ("fars" : Str) (.ref a6) [])))) :: (dx_self, (.own a_self)) :: os) := w9.new n10
    have h10 : ADN K F5 (rep K F5) [] ([] : (List ((Tup Thing) × Int))) := .nil
    refine ⟨_, rfl, _, _, _, _, rfl, (w10.get (pre := [_, _])), T.cl_Asking, T.na_Asking_best, (Nat.lt_of_le_of_lt (Nat.le_trans (length_putF _ _ _) (Nat.succ_le_succ (Nat.le_trans (length_putF _ _ _) (Nat.succ_le_succ (Nat.le_refl _))))) (by decide : 2 < 1000)), ?_⟩
    have w11 : W F5 _ ((p10, DnO p10 []) :: (p8, DnO p8 []) :: (a_self, (.ins (A 23) dx_self (putF ("best" : Str) (.ref p10) (putF ("least" : Str) (.ref p8) (putF ("fars" : Str) (.ref a6) []))))) :: (dx_self, (.own a_self)) :: os) := w10.set (pre := [_, _])
    replace w11 : W F5 _ ((p10, DnO p10 []) :: (p8, DnO p8 []) :: (a_self, (.ins (A 23) dx_self (mkfs [("fars" : Str), ("least" : Str), ("best" : Str)] [(.ref a6), (.ref p8), (.ref p10)]))) :: (dx_self, (.own a_self)) :: os) := w11
    have w12 : W F5 _ ((p8, DnO p8 []) :: (p10, DnO p10 []) :: (a_self, (.ins (A 23) dx_self (mkfs [("fars" : Str), ("least" : Str), ("best" : Str)] [(.ref a6), (.ref p8), (.ref p10)]))) :: (dx_self, (.own a_self)) :: os) := w11.front (pre := [_])
    have w13 : W F5 _ ((dx_self, (.own a_self)) :: (p8, DnO p8 []) :: (p10, DnO p10 []) :: (a_self, (.ins (A 23) dx_self (mkfs [("fars" : Str), ("least" : Str), ("best" : Str)] [(.ref a6), (.ref p8), (.ref p10)]))) :: os) := w12.front (pre := [_, _, _])
    have w14 : W F5 _ ((a_self, (.ins (A 23) dx_self (mkfs [("fars" : Str), ("least" : Str), ("best" : Str)] [(.ref a6), (.ref p8), (.ref p10)]))) :: (dx_self, (.own a_self)) :: (p8, DnO p8 []) :: (p10, DnO p10 []) :: os) := w13.front (pre := [_, _, _])
    exact (post_ok hm) _ _ _ _ _ _ _ w14 sF (rep_lst q6 h6) h8 h10
def sp_Asking_need (d : Nat) (K : Fg) : Sp := fun vs H Q E => ∃ (F : Hp) (os : List (Addr × HO)) (a_self : Addr) (dx_self : Addr) (C_self : Addr) (v_self_fars : V) (a_self_least : Addr) (vs_self_least : List Ent) (a_self_best : Addr) (vs_self_best : List Ent) (x_self : AskingF) (v_things : V) (x_things : (Tup Thing)), vs = [.ref a_self, v_things] ∧ W F H ((a_self, .ins C_self dx_self (mkfs [("fars" : Str), ("least" : Str), ("best" : Str)] [v_self_fars, .ref a_self_least, .ref a_self_best])) :: (dx_self, .own a_self) :: (a_self_least, DnO a_self_least vs_self_least) :: (a_self_best, DnO a_self_best vs_self_best) :: os) ∧ Nm K "Asking" C_self ∧ rep K F v_self_fars (x_self.1 : (List (List Int))) ∧ ADN K F (rep K F) vs_self_least x_self.2.1 ∧ ADN K F (rep K F) vs_self_best x_self.2.2.1 ∧ rep K F v_things x_things ∧ Post (Asking_need d x_self x_things) (fun (y : (Int × (List ((Tup Thing) × Int)) × (List ((Tup Thing) × Int)))) => ∀ (v : V) (zs_self_least : List Ent) (zs_self_best : List Ent) (F' H' : Hp), W F' H' ((a_self, .ins C_self dx_self (mkfs [("fars" : Str), ("least" : Str), ("best" : Str)] [v_self_fars, .ref a_self_least, .ref a_self_best])) :: (dx_self, .own a_self) :: (a_self_least, DnO a_self_least zs_self_least) :: (a_self_best, DnO a_self_best zs_self_best) :: os) → Same F F' → rep K F' v (y.1 : Int) → ADN K F' (rep K F') zs_self_least y.2.1 → ADN K F' (rep K F') zs_self_best y.2.2 → Q v H') noX
theorem sc_Asking_need : FnScope ["self", "things", "fewest", "place", "parts", "asks", "answer", "part"] ["self", "things"] (defScope s_Asking_need) := ⟨rfl, rfl, rfl, by decide +kernel, rfl, by decide +kernel, by decide +kernel⟩
theorem ok_Asking_need (T : Tx K mg A FD) (d : Nat) : FnOk P w K mg base CX0 (3 + d) (A 24001) (FD 24001) ["self", "things"] (sp_Asking_need d K) := by
  induction d with
  | zero =>
    refine T.d24001.fn.ok (k := 2) sc_Asking_need (fun vs H Q E h => ?_) (fun cdv Ar outer s H vs Q E hr h => ?_)
    · obtain ⟨F, os, a_self, dx_self, C_self, v_self_fars, a_self_least, vs_self_least, a_self_best, vs_self_best, x_self, v_things, x_things, rfl, _⟩ := h
      rfl
    · obtain ⟨F0, os, a_self, dx_self, C_self, v_self_fars, a_self_least, vs_self_least, a_self_best, vs_self_best, x_self, v_things, x_things, rfl, w0, n_self, r_self_fars, h_self_least, h_self_best, r_things, hm⟩ := h
      refine ⟨_, (pss_cons ps_absurd (pss_cons ps_absurd (pss_cons ps_absurd (pss_cons ps_absurd (pss_one ps_absurd))))), ?_⟩
      exact hm
  | succ d ih =>
    refine T.d24001.fn.ok (k := 3 + d) sc_Asking_need (fun vs H Q E h => ?_) (fun cdv Ar outer s H vs Q E hr h => ?_)
    · obtain ⟨F, os, a_self, dx_self, C_self, v_self_fars, a_self_least, vs_self_least, a_self_best, vs_self_best, x_self, v_things, x_things, rfl, _⟩ := h
      rfl
    · obtain ⟨F0, os, a_self, dx_self, C_self, v_self_fars, a_self_least, vs_self_least, a_self_best, vs_self_best, x_self, v_things, x_things, rfl, w0, n_self, r_self_fars, h_self_least, h_self_best, r_things, hm⟩ := h
      rw [Asking_need] at hm
      have sF : Same F0 F0 := Same.refl _
      obtain rfl := n_self.uniq T.nm_Asking
      obtain ⟨a5, vs5, rfl, q5, h5⟩ := r_things
      obtain ⟨a6, vs6, rfl, q6, h6⟩ := r_self_fars
      refine ⟨_, (pss_cons (ps_if (pt_cmp (pc_dinM hr.units (pv 1) (pe_fld (pv 0) (by rfl)))) (pss_one (ps_ret (pe_dgetN hr.units (pe_fld (pv 0) (by rfl)) (pv 1) (fun _ _ => rfl)))) pss_nil) (pss_cons (ps_set (i := 2) sc_Asking_need.nd rfl (Or.inl rfl) pe_int1) (pss_cons (ps_if (pt_cmp (pc_gt (pe_callB (call_lenN (K := K) rfl) (by rfl) T.n_len (by decide +kernel) (pa_cons (pv 1) pa_nil)) pe_int)) (pss_cons (ps_set (i := 2) sc_Asking_need.nd rfl (Or.inl rfl) (pe_callB (call_lenN (K := K) rfl) (by rfl) T.n_len (by decide +kernel) (pa_cons (pv 1) pa_nil))) (pss_one (ps_for PassesOwn.never rfl (pi_range1 (by rfl) T.n_range (pa_cons (pe_callB (call_lenN (K := K) rfl) (by rfl) T.n_len (by decide +kernel) (pa_cons (pe_fld (pv 0) (by rfl)) pa_nil)) pa_nil)) (pg_name (i := 3) sc_Asking_need.nd rfl (Or.inl rfl)) (pss_cons (ps_set (i := 4) sc_Asking_need.nd rfl (Or.inl rfl) (pe_call (ok_parts_by T) (hr.mono (by first | decide | omega)) (by rfl) T.d22.mg T.d22.fn.kp T.d22.b .nil pass0 (pa_cons (pe_fld (pv 0) (by rfl)) (pa_cons (pv 1) (pa_cons (pv 3) pa_nil))))) (pss_one (ps_if (pt_cmp (pc_gt (pe_callB (call_lenN (K := K) rfl) (by rfl) T.n_len (by decide +kernel) (pa_cons (pv 4) pa_nil)) pe_int)) (pss_cons (ps_set (i := 5) sc_Asking_need.nd rfl (Or.inl rfl) (pe_op op_add pe_int (pe_callB (cr_maxI (K := K) rfl rfl) (by rfl) T.n_max (by decide +kernel) (pa_cons (pe_lc (own := [("answer", 6), ("part", 7)]) (g := _) (by rfl) sc_Asking_need.nd (pi_listK (K := K) rfl (pv 4)) (blkOk_by (own := [("answer", 6), ("part", 7)]) (N := ["self", "things", "fewest", "place", "parts", "asks", "answer", "part"]) (sc := defScope s_Asking_need) (by decide +kernel)) (fun _ _ _ _ _ => (pg_k (K := K) (t := fun K => gTup K 2 _) rfl (pg_tup (n := 2) rfl (pgs_cons (pg_name (i := 6) sc_Asking_need.nd rfl (Or.inl rfl)) (pgs_cons (pg_name (i := 7) sc_Asking_need.nd rfl (Or.inl rfl)) pgs_nil))))) (fun _ _ _ _ _ => pts_nil) (fun _ _ _ _ _ => (pe_meth (pl := _) (pv 0) T.cl_Asking T.d24001.mt ih (hr.mono (by first | decide | omega)) T.d24001.b .nil pass0 (pa_cons (pv 7) pa_nil)))) pa_nil)))) (pss_one (ps_if (PW.pt (pw_or (pt_cmp (pc_lt (pv 5) (pv 2))) (pw_or1 (pt_cmp (pc_dnotinM hr.units (pv 1) (pe_fld (pv 0) (by rfl))))))) (pss_one (ps_asg (pe_tup (pa_cons (pv 5) (pa_cons (pv 3) pa_nil))) (pg_k (K := K) (t := fun K => gTup K 2 _) rfl (pg_tup (n := 2) rfl (pgs_cons (pg_name (i := 2) sc_Asking_need.nd rfl (Or.inl rfl)) (pgs_cons (pg_sub (pe_fld (pv 0) (by rfl)) (pv 1) (set_dn hr.units)) pgs_nil)))))) pss_nil))) pss_nil)))))) pss_nil) (pss_cons (ps_dputN hr.units (pe_fld (pv 0) (by rfl)) (pv 1) (pv 2) (by rfl)) (pss_one (ps_ret (pv 2))))))), ?_⟩
      refine ⟨_, rfl, _, rfl, _, _, _, _, _, rfl, (w0.get (pre := [])), T.cl_Asking, T.na_Asking_least, (fl_Asking_least ((.ref a6) : V) ((.ref a_self_least) : V) ((.ref a_self_best) : V)), _, _, _, rfl, dgetN (.inl (w0.get (pre := [_, _]))) w0.same h_self_least (rep_tup q5 h5), ADN.has h_self_least _, _, rfl, ?_⟩
      refine post_ite hm (fun k7 hm => ?_) (fun k7 hm => ?_)
      · skip
        obtain ⟨t8, e8, hm⟩ := pb_mget hm
        obtain ⟨u8, f8, r8⟩ := ADN.some h_self_least e8
        obtain rfl : u8 = V.int t8 := r8
        exact ⟨_, rfl, _, _, _, _, _, rfl, (w0.get (pre := [])), T.cl_Asking, T.na_Asking_least, (fl_Asking_least ((.ref a6) : V) ((.ref a_self_least) : V) ((.ref a_self_best) : V)), _, rfl, _, _, rfl, dgetsN (.inl (w0.get (pre := [_, _]))) w0.same h_self_least (rep_tup q5 h5) f8, (post_ok hm) _ _ _ _ _ w0 sF rep_i h_self_least h_self_best⟩
      · skip
        refine ⟨trivial, ?_⟩
        refine stepN ?_
        try dsimp only
        refine joinS hm (fun (g9 : Int × (List ((Tup Thing) × Int)) × (List ((Tup Thing) × Int))) σ H' => ∃ (F' : Hp) (vs9_0 : List Ent) (vs9_1 : List Ent) (o9_3 : Option V) (o9_4 : Option V) (o9_5 : Option V), σ = [some (.ref a_self), some (.ref a5), some (.int g9.1), o9_3, o9_4, o9_5, none, none] ∧ Same F0 F' ∧ W F' H' ((a_self, (.ins (A 23) dx_self (mkfs [("fars" : Str), ("least" : Str), ("best" : Str)] [(.ref a6), (.ref a_self_least), (.ref a_self_best)]))) :: (dx_self, (.own a_self)) :: (a_self_least, DnO a_self_least vs9_0) :: (a_self_best, DnO a_self_best vs9_1) :: os) ∧ ADN K F' (rep K F') vs9_0 g9.2.1 ∧ ADN K F' (rep K F') vs9_1 g9.2.2) ?_ ?_
        · intro N9 P9 hN9 hm
          refine ⟨_, rfl, _, _, _, rfl, .inr (SqT.of (w0.same _ _ q5)), h5.length, _, _, rfl, rfl, _, rfl, ?_⟩
          refine post_ite hm (fun k10 hm => ?_) (fun k10 hm => ?_)
          · skip
            obtain ⟨c12, hm⟩ := pb_rng hm
            refine ⟨_, rfl, _, _, _, rfl, .inr (SqT.of (w0.same _ _ q5)), h5.length, _, rfl, _, _, _, _, _, rfl, (w0.get (pre := [])), T.cl_Asking, T.na_Asking_fars, (fl_Asking_fars ((.ref a6) : V) ((.ref a_self_least) : V) ((.ref a_self_best) : V)), _, _, _, rfl, .inl (SqL.of (w0.same _ _ q6)), h6.length, _, rfl, c12.2.2.1, c12.2.2.2, ?_⟩
            refine forS (tw_rng0 (j := (x_self.1.length : Int))) hm (fun (g11 : Int × (List ((Tup Thing) × Int)) × (List ((Tup Thing) × Int))) σ H' => ∃ (F' : Hp) (vs11_0 : List Ent) (vs11_1 : List Ent) (o11_4 : Option V) (o11_5 : Option V) (o11_3 : Option V), σ = [some (.ref a_self), some (.ref a5), some (.int g11.1), o11_3, o11_4, o11_5, none, none] ∧ Same F0 F' ∧ W F' H' ((a_self, (.ins (A 23) dx_self (mkfs [("fars" : Str), ("least" : Str), ("best" : Str)] [(.ref a6), (.ref a_self_least), (.ref a_self_best)]))) :: (dx_self, (.own a_self)) :: (a_self_least, DnO a_self_least vs11_0) :: (a_self_best, DnO a_self_best vs11_1) :: os) ∧ ADN K F' (rep K F') vs11_0 g11.2.1 ∧ ADN K F' (rep K F') vs11_1 g11.2.2) ⟨_, _, _, _, _, _, rfl, Same.refl _, w0, h_self_least, h_self_best⟩ (fun _ _ _ _ => trivial) ?_ ?_
            · -- a turn
              intro b11 g11 x11 σ11 H11 H11' N11 P11 hI hy hN11 hm
              obtain ⟨F11, vs11_0, vs11_1, o11_4, o11_5, o11_3, rfl, s11, w11, h11_0, h11_1⟩ := hI
              replace h5 := A2.mono s11 h5
              replace q5 := s11 _ _ q5
              replace h6 := A2.mono s11 h6
              replace q6 := s11 _ _ q6
              replace sF := sF.trans s11
              obtain ⟨rfl, rfl⟩ := hy
              refine ⟨_, rfl, _, _, _, _, _, rfl, (w11.get (pre := [])), T.cl_Asking, T.na_Asking_fars, (fl_Asking_fars ((.ref a6) : V) ((.ref a_self_least) : V) ((.ref a_self_best) : V)), _, rfl, _, rfl, _, _, _, (x_self.1 : (List (List Int))), _, (x_things : (Tup Thing)), _, rfl, w11, (rep_lst q6 h6), (rep_tup q5 h5), ?_⟩
              refine (post_bind hm).mono (fun y13 hm v13 F13 H13 w13 s13 r13 => ?_) (fun _ z => z)
              replace h5 := A2.mono s13 h5
              replace q5 := s13 _ _ q5
              replace h6 := A2.mono s13 h6
              replace q6 := s13 _ _ q6
              replace h11_0 := ADN.imp s13 (fun _ _ r => Rep.mono s13 r) h11_0
              replace h11_1 := ADN.imp s13 (fun _ _ r => Rep.mono s13 r) h11_1
              replace sF := sF.trans s13
              obtain ⟨a14, vs14, rfl, q14, h14⟩ := r13
              refine ⟨_, rfl, _, _, _, rfl, .inl (SqL.of (w13.same _ _ q14)), h14.length, _, _, rfl, rfl, _, rfl, ?_⟩
              refine post_ite hm (fun k15 hm => ?_) (fun k15 hm => ?_)
              · skip
                refine ⟨_, rfl, _, rfl, ⟨_, SqL.of (w13.same _ _ q14)⟩, fun D16 nD16 => ?_⟩
                refine lcMap (K := K) (tw_list (a := a14) h14) hm (fun (g16 : (List ((Tup Thing) × Int)) × (List ((Tup Thing) × Int))) F' os' => ∃ (vs16_0 : List Ent) (vs16_1 : List Ent), os' = (a_self, (.ins (A 23) dx_self (mkfs [("fars" : Str), ("least" : Str), ("best" : Str)] [(.ref a6), (.ref a_self_least), (.ref a_self_best)]))) :: (dx_self, (.own a_self)) :: (a_self_least, DnO a_self_least vs16_0) :: (a_self_best, DnO a_self_best vs16_1) :: os ∧ ADN K F' (rep K F') vs16_0 g16.1 ∧ ADN K F' (rep K F') vs16_1 g16.2) w13 ⟨_, _, rfl, h11_0, h11_1⟩ nD16 (fun g F' H' os' acc s w o => by obtain ⟨_, _, rfl, _, _⟩ := o; exact SqL.of (w.same _ _ (s _ _ q14))) ?_ ?_
                · -- one turn
                  intro b16 g16 x16 F16 H16 H16' os16 acc16 N16 P16 s16 w16 o16 y16 hN16 hm
                  obtain ⟨vs16_0, vs16_1, rfl, h16_0, h16_1⟩ := o16
                  replace h5 := A2.mono s16 h5
                  replace q5 := s16 _ _ q5
                  replace h6 := A2.mono s16 h6
                  replace q6 := s16 _ _ q6
                  replace h14 := A2.mono s16 h14
                  replace q14 := s16 _ _ q14
                  replace sF := sF.trans s16
                  obtain ⟨rfl, r18⟩ := y16
                  replace r18 := Rep.mono s16 r18
                  obtain ⟨a19, u19, z19, rfl, q19, r19a, r19b⟩ := r18
                  obtain rfl : u19 = V.int b16.1 := r19a
                  obtain ⟨a20, vs20, rfl, q20, h20⟩ := r19b
                  have w21 : W F16 _ ((a_self_best, DnO a_self_best vs16_1) :: (D16, .lst acc16) :: (a_self, (.ins (A 23) dx_self (mkfs [("fars" : Str), ("least" : Str), ("best" : Str)] [(.ref a6), (.ref a_self_least), (.ref a_self_best)]))) :: (dx_self, (.own a_self)) :: (a_self_least, DnO a_self_least vs16_0) :: os) := w16.front (pre := [_, _, _, _])
                  have w22 : W F16 _ ((a_self_least, DnO a_self_least vs16_0) :: (a_self_best, DnO a_self_best vs16_1) :: (D16, .lst acc16) :: (a_self, (.ins (A 23) dx_self (mkfs [("fars" : Str), ("least" : Str), ("best" : Str)] [(.ref a6), (.ref a_self_least), (.ref a_self_best)]))) :: (dx_self, (.own a_self)) :: os) := w21.front (pre := [_, _, _, _])
                  have w23 : W F16 _ ((dx_self, (.own a_self)) :: (a_self_least, DnO a_self_least vs16_0) :: (a_self_best, DnO a_self_best vs16_1) :: (D16, .lst acc16) :: (a_self, (.ins (A 23) dx_self (mkfs [("fars" : Str), ("least" : Str), ("best" : Str)] [(.ref a6), (.ref a_self_least), (.ref a_self_best)]))) :: os) := w22.front (pre := [_, _, _, _])
                  have w24 : W F16 _ ((a_self, (.ins (A 23) dx_self (mkfs [("fars" : Str), ("least" : Str), ("best" : Str)] [(.ref a6), (.ref a_self_least), (.ref a_self_best)]))) :: (dx_self, (.own a_self)) :: (a_self_least, DnO a_self_least vs16_0) :: (a_self_best, DnO a_self_best vs16_1) :: (D16, .lst acc16) :: os) := w23.front (pre := [_, _, _, _])
                  refine ⟨_, _, rfl, SqT.of (w16.same _ _ q19), rfl, _, _, rfl, _, _, rfl, rfl, rfl, _, rfl, _, _, _, rfl, (w16.get (pre := [_])), fm0_Asking_need ((.ref a6) : V) ((.ref a_self_least) : V) ((.ref a_self_best) : V), _, rfl, _, _, _, _, _, _, _, _, _, _, ((x_self.1, g16.1, g16.2, ()) : AskingF), _, (b16.2 : (Tup Thing)), rfl, w24, T.nm_Asking, (rep_lst q6 h6), h16_0, h16_1, (rep_tup q20 h20), ?_⟩
                  refine (post_bind hm).mono (fun y25 hm v25 vs25 vs25_1 F25 H25 w25 s25 r25 h25 h25_1 => ?_) (fun _ z => z)
                  replace h5 := A2.mono s25 h5
                  replace q5 := s25 _ _ q5
                  replace h6 := A2.mono s25 h6
                  replace q6 := s25 _ _ q6
                  replace h14 := A2.mono s25 h14
                  replace q14 := s25 _ _ q14
                  replace q19 := s25 _ _ q19
                  replace q20 := s25 _ _ q20
                  replace h20 := A2.mono s25 h20
                  replace sF := sF.trans s25
                  obtain rfl : v25 = V.int y25.1 := r25
                  have w26 : W F25 _ ((a_self_best, DnO a_self_best vs25_1) :: (a_self, (.ins (A 23) dx_self (mkfs [("fars" : Str), ("least" : Str), ("best" : Str)] [(.ref a6), (.ref a_self_least), (.ref a_self_best)]))) :: (dx_self, (.own a_self)) :: (a_self_least, DnO a_self_least vs25) :: (D16, .lst acc16) :: os) := w25.front (pre := [_, _, _])
                  have w27 : W F25 _ ((a_self_least, DnO a_self_least vs25) :: (a_self_best, DnO a_self_best vs25_1) :: (a_self, (.ins (A 23) dx_self (mkfs [("fars" : Str), ("least" : Str), ("best" : Str)] [(.ref a6), (.ref a_self_least), (.ref a_self_best)]))) :: (dx_self, (.own a_self)) :: (D16, .lst acc16) :: os) := w26.front (pre := [_, _, _])
                  have w28 : W F25 _ ((dx_self, (.own a_self)) :: (a_self_least, DnO a_self_least vs25) :: (a_self_best, DnO a_self_best vs25_1) :: (a_self, (.ins (A 23) dx_self (mkfs [("fars" : Str), ("least" : Str), ("best" : Str)] [(.ref a6), (.ref a_self_least), (.ref a_self_best)]))) :: (D16, .lst acc16) :: os) := w27.front (pre := [_, _, _])
                  have w29 : W F25 _ ((a_self, (.ins (A 23) dx_self (mkfs [("fars" : Str), ("least" : Str), ("best" : Str)] [(.ref a6), (.ref a_self_least), (.ref a_self_best)]))) :: (dx_self, (.own a_self)) :: (a_self_least, DnO a_self_least vs25) :: (a_self_best, DnO a_self_best vs25_1) :: (D16, .lst acc16) :: os) := w28.front (pre := [_, _, _])
                  have w30 : W F25 _ ((D16, .lst acc16) :: (a_self, (.ins (A 23) dx_self (mkfs [("fars" : Str), ("least" : Str), ("best" : Str)] [(.ref a6), (.ref a_self_least), (.ref a_self_best)]))) :: (dx_self, (.own a_self)) :: (a_self_least, DnO a_self_least vs25) :: (a_self_best, DnO a_self_best vs25_1) :: os) := w29.front (pre := [_, _, _, _])
                  exact hN16 _ _ (post_ok hm) _ _ _ _ w30 s25 ⟨_, _, rfl, h25, h25_1⟩ rep_i
                intro g16 us16 F16 H16 os16 ys16 s16 w16 o16 gg16 hm
                obtain ⟨vs16_0, vs16_1, rfl, h16_0, h16_1⟩ := o16
                replace h5 := A2.mono s16 h5
                replace q5 := s16 _ _ q5
                replace h6 := A2.mono s16 h6
                replace q6 := s16 _ _ q6
                replace h14 := A2.mono s16 h14
                replace q14 := s16 _ _ q14
                replace sF := sF.trans s16
                obtain ⟨t32, e32, hm⟩ := pb_max hm
                have w33 : W F16 _ ((a_self, (.ins (A 23) dx_self (mkfs [("fars" : Str), ("least" : Str), ("best" : Str)] [(.ref a6), (.ref a_self_least), (.ref a_self_best)]))) :: (dx_self, (.own a_self)) :: (a_self_least, DnO a_self_least vs16_0) :: (a_self_best, DnO a_self_best vs16_1) :: os) := w16.drop (pre := [])
                refine ⟨_, _, _, rfl, ints_q (SqL.of (w16.get (pre := []))) gg16, e32, _, _, rfl, rfl, ?_⟩
                refine stepN ?_
                try dsimp only
                refine stepIf ?_
                refine cutT (fun c H' => c = (((decide (((1 : Int) + t32) < g11.1)) || (!mhas g16.2 x_things))) ∧ ∃ F', Same F16 F' ∧ W F' H' ((a_self, (.ins (A 23) dx_self (mkfs [("fars" : Str), ("least" : Str), ("best" : Str)] [(.ref a6), (.ref a_self_least), (.ref a_self_best)]))) :: (dx_self, (.own a_self)) :: (a_self_least, DnO a_self_least vs16_0) :: (a_self_best, DnO a_self_best vs16_1) :: os)) (fun Q34 q34 => ?_) (fun c34 H34 hc34 => ?_)
                · -- the ways
                  refine ⟨_, rfl, _, rfl, _, _, rfl, rfl, _, rfl, ?_⟩
                  refine ifB (fun k35 => ?_) (fun k35 => ?_)
                  · skip
                    exact q34 _ _ ⟨(by first | rfl | exact absurd k35 (by decide) | (simp [k35]; done) | ((try simp only [Bool.not_eq_true] at k35); simp only [k35, Bool.true_or, Bool.false_or, Bool.or_false, Bool.or_true, Bool.true_and, Bool.false_and, Bool.and_true, Bool.and_false])), _, Same.refl _, w33⟩
                  · skip
                    exact ⟨_, rfl, _, rfl, _, _, _, _, _, rfl, (w33.get (pre := [])), T.cl_Asking, T.na_Asking_best, (fl_Asking_best ((.ref a6) : V) ((.ref a_self_least) : V) ((.ref a_self_best) : V)), _, _, _, rfl, dgetN (.inl (w33.get (pre := [_, _, _]))) w33.same h16_1 (rep_tup q5 h5), ADN.has h16_1 _, _, rfl, q34 _ _ ⟨(by first | rfl | exact absurd k35 (by decide) | (simp [k35]; done) | ((try simp only [Bool.not_eq_true] at k35); simp only [k35, Bool.true_or, Bool.false_or, Bool.or_false, Bool.or_true, Bool.true_and, Bool.false_and, Bool.and_true, Bool.and_false])), _, Same.refl _, w33⟩⟩
                obtain ⟨rfl, F34, s34, w34⟩ := hc34
                replace h5 := A2.mono s34 h5
                replace q5 := s34 _ _ q5
                replace h6 := A2.mono s34 h6
                replace q6 := s34 _ _ q6
                replace h14 := A2.mono s34 h14
                replace q14 := s34 _ _ q14
                replace h16_0 := ADN.imp s34 (fun _ _ r => Rep.mono s34 r) h16_0
                replace h16_1 := ADN.imp s34 (fun _ _ r => Rep.mono s34 r) h16_1
                replace sF := sF.trans s34
                refine post_ite hm (fun k38 hm => ?_) (fun k38 hm => ?_)
                · skip
                  refine ⟨_, rfl, _, rfl, (by show 2 ≤ sizeLine; decide), fun p39 n39 => ?_⟩
                  obtain ⟨F39, s39, w39, q39⟩ := w34.frzE (o := .tup [(.int ((1 : Int) + t32)), (.int b11)]) n39
                  replace h5 := A2.mono s39 h5
                  replace q5 := s39 _ _ q5
                  replace h6 := A2.mono s39 h6
                  replace q6 := s39 _ _ q6
                  replace h14 := A2.mono s39 h14
                  replace q14 := s39 _ _ q14
                  replace h16_0 := ADN.imp s39 (fun _ _ r => Rep.mono s39 r) h16_0
                  replace h16_1 := ADN.imp s39 (fun _ _ r => Rep.mono s39 r) h16_1
                  replace sF := sF.trans s39
                  obtain ⟨l40, z40, e40, hm⟩ := pn_mput hm
                  refine ⟨_, _, rfl, SqT.of (w39.same _ _ q39), rfl, _, _, rfl, _, _, rfl, _, rfl, _, _, _, _, _, rfl, (w39.get (pre := [])), T.cl_Asking, T.na_Asking_best, (fl_Asking_best ((.ref a6) : V) ((.ref a_self_least) : V) ((.ref a_self_best) : V)), _, rfl, _, _, rfl, dputN (v := (.int b11)) (w39.get (pre := [_, _, _])) w39.same h16_1 (rep_tup q5 h5) z40, ?_⟩
                  have h40 : ADN K F39 (rep K F39) (putN vs16_1 a5 x_things (.int b11)) l40 := e40 ▸ ADN.put h16_1 (rep_tup q5 h5) rep_i
                  have w41 : W F39 _ ((a_self, (.ins (A 23) dx_self (mkfs [("fars" : Str), ("least" : Str), ("best" : Str)] [(.ref a6), (.ref a_self_least), (.ref a_self_best)]))) :: (dx_self, (.own a_self)) :: (a_self_least, DnO a_self_least vs16_0) :: (a_self_best, DnO a_self_best (putN vs16_1 a5 x_things (.int b11))) :: os) := w39.set (pre := [_, _, _])
                  refine ⟨rfl, ?_⟩
                  exact hN11 _ (post_ok hm) _ _ ⟨_, _, _, _, _, _, rfl, (s11.trans (s13.trans (s16.trans (s34.trans s39)))), w41, h16_0, h40⟩
                · skip
                  exact hN11 _ (post_ok hm) _ _ ⟨_, _, _, _, _, _, rfl, (s11.trans (s13.trans (s16.trans s34))), w34, h16_0, h16_1⟩
              · skip
                exact hN11 _ (post_ok hm) _ _ ⟨_, _, _, _, _, _, rfl, (s11.trans s13), w13, h11_0, h11_1⟩
            intro g11 σ11 H11 hI hm
            obtain ⟨F11, vs11_0, vs11_1, o11_4, o11_5, o11_3, rfl, s11, w11, h11_0, h11_1⟩ := hI
            replace h5 := A2.mono s11 h5
            replace q5 := s11 _ _ q5
            replace h6 := A2.mono s11 h6
            replace q6 := s11 _ _ q6
            replace sF := sF.trans s11
            exact hN9 _ (post_ok hm) _ _ ⟨_, _, _, _, _, _, rfl, s11, w11, h11_0, h11_1⟩
          · skip
            exact hN9 _ (post_ok hm) _ _ ⟨_, _, _, _, _, _, rfl, Same.refl _, w0, h_self_least, h_self_best⟩
        intro g9 σ9 H9 hI hm
        obtain ⟨F9, vs9_0, vs9_1, o9_3, o9_4, o9_5, rfl, s9, w9, h9_0, h9_1⟩ := hI
        replace h5 := A2.mono s9 h5
        replace q5 := s9 _ _ q5
        replace h6 := A2.mono s9 h6
        replace q6 := s9 _ _ q6
        replace sF := sF.trans s9
        obtain ⟨l42, z42, e42, hm⟩ := pn_mput hm
        refine ⟨_, rfl, _, rfl, _, _, _, _, _, rfl, (w9.get (pre := [])), T.cl_Asking, T.na_Asking_least, (fl_Asking_least ((.ref a6) : V) ((.ref a_self_least) : V) ((.ref a_self_best) : V)), _, rfl, _, _, rfl, dputN (v := (.int g9.1)) (w9.get (pre := [_, _])) w9.same h9_0 (rep_tup q5 h5) z42, ?_⟩
        have h42 : ADN K F9 (rep K F9) (putN vs9_0 a5 x_things (.int g9.1)) l42 := e42 ▸ ADN.put h9_0 (rep_tup q5 h5) rep_i
        have w43 : W F9 _ ((a_self, (.ins (A 23) dx_self (mkfs [("fars" : Str), ("least" : Str), ("best" : Str)] [(.ref a6), (.ref a_self_least), (.ref a_self_best)]))) :: (dx_self, (.own a_self)) :: (a_self_least, DnO a_self_least (putN vs9_0 a5 x_things (.int g9.1))) :: (a_self_best, DnO a_self_best vs9_1) :: os) := w9.set (pre := [_, _])
        exact ⟨_, rfl, (post_ok hm) _ _ _ _ _ w43 sF rep_i h42 h9_1⟩
def sp_Asking_plan (d : Nat) (K : Fg) : Sp := fun vs H Q E => ∃ (F : Hp) (os : List (Addr × HO)) (a_self : Addr) (dx_self : Addr) (C_self : Addr) (v_self_fars : V) (a_self_least : Addr) (vs_self_least : List Ent) (a_self_best : Addr) (vs_self_best : List Ent) (x_self : AskingF) (v_things : V) (x_things : (Tup Thing)), vs = [.ref a_self, v_things] ∧ W F H ((a_self, .ins C_self dx_self (mkfs [("fars" : Str), ("least" : Str), ("best" : Str)] [v_self_fars, .ref a_self_least, .ref a_self_best])) :: (dx_self, .own a_self) :: (a_self_least, DnO a_self_least vs_self_least) :: (a_self_best, DnO a_self_best vs_self_best) :: os) ∧ Nm K "Asking" C_self ∧ rep K F v_self_fars (x_self.1 : (List (List Int))) ∧ ADN K F (rep K F) vs_self_least x_self.2.1 ∧ ADN K F (rep K F) vs_self_best x_self.2.2.1 ∧ rep K F v_things x_things ∧ Post (Asking_plan d x_self x_things) (fun (y : Pl) => ∀ (v : V) (F' H' : Hp), W F' H' ((a_self, .ins C_self dx_self (mkfs [("fars" : Str), ("least" : Str), ("best" : Str)] [v_self_fars, .ref a_self_least, .ref a_self_best])) :: (dx_self, .own a_self) :: (a_self_least, DnO a_self_least vs_self_least) :: (a_self_best, DnO a_self_best vs_self_best) :: os) → Same F F' → rep K F' v (y : Pl) → Q v H') noX
theorem sc_Asking_plan : FnScope ["self", "things", "place", "parts", "answer", "part"] ["self", "things"] (defScope s_Asking_plan) := ⟨rfl, rfl, rfl, by decide +kernel, rfl, by decide +kernel, by decide +kernel⟩
theorem ok_Asking_plan (T : Tx K mg A FD) (d : Nat) : FnOk P w K mg base CX0 (3 + d) (A 24002) (FD 24002) ["self", "things"] (sp_Asking_plan d K) := by
  induction d with
  | zero =>
    refine T.d24002.fn.ok (k := 2) sc_Asking_plan (fun vs H Q E h => ?_) (fun cdv Ar outer s H vs Q E hr h => ?_)
    · obtain ⟨F, os, a_self, dx_self, C_self, v_self_fars, a_self_least, vs_self_least, a_self_best, vs_self_best, x_self, v_things, x_things, rfl, _⟩ := h
      rfl
    · obtain ⟨F0, os, a_self, dx_self, C_self, v_self_fars, a_self_least, vs_self_least, a_self_best, vs_self_best, x_self, v_things, x_things, rfl, w0, n_self, r_self_fars, h_self_least, h_self_best, r_things, hm⟩ := h
      refine ⟨_, (pss_cons ps_absurd (pss_cons ps_absurd (pss_cons ps_absurd (pss_one ps_absurd)))), ?_⟩
      exact hm
  | succ d ih =>
    refine T.d24002.fn.ok (k := 3 + d) sc_Asking_plan (fun vs H Q E h => ?_) (fun cdv Ar outer s H vs Q E hr h => ?_)
    · obtain ⟨F, os, a_self, dx_self, C_self, v_self_fars, a_self_least, vs_self_least, a_self_best, vs_self_best, x_self, v_things, x_things, rfl, _⟩ := h
      rfl
    · obtain ⟨F0, os, a_self, dx_self, C_self, v_self_fars, a_self_least, vs_self_least, a_self_best, vs_self_best, x_self, v_things, x_things, rfl, w0, n_self, r_self_fars, h_self_least, h_self_best, r_things, hm⟩ := h
      rw [Asking_plan] at hm
      have sF : Same F0 F0 := Same.refl _
      obtain rfl := n_self.uniq T.nm_Asking
      obtain ⟨a5, vs5, rfl, q5, h5⟩ := r_things
      obtain ⟨a6, vs6, rfl, q6, h6⟩ := r_self_fars
      refine ⟨_, (pss_cons (ps_if (pt_cmp (pc_eqI (pe_callB (call_lenN (K := K) rfl) (by rfl) T.n_len (by decide +kernel) (pa_cons (pv 1) pa_nil)) pe_int)) (pss_one (ps_ret (pe_tup (pa_cons pe_str (pa_cons (pe_ix (ix_tupK (K := K) rfl) (pv 1) pe_int (fun _ _ => rfl)) pa_nil))))) pss_nil) (pss_cons (ps_set (i := 2) sc_Asking_plan.nd rfl (Or.inl rfl) (pe_dgetN hr.units (pe_fld (pv 0) (by rfl)) (pv 1) (fun _ _ => rfl))) (pss_cons (ps_set (i := 3) sc_Asking_plan.nd rfl (Or.inl rfl) (pe_call (ok_parts_by T) (hr.mono (by first | decide | omega)) (by rfl) T.d22.mg T.d22.fn.kp T.d22.b .nil pass0 (pa_cons (pe_fld (pv 0) (by rfl)) (pa_cons (pv 1) (pa_cons (pv 2) pa_nil))))) (pss_one (ps_ret (pe_tup (pa_cons pe_str (pa_cons (pv 2) (pa_cons (pe_callTy (call_tuple_ofK (K := K) rfl) (by rfl) T.n_tuple (by decide +kernel) (pa_cons (pe_lc (own := [("answer", 4), ("part", 5)]) (g := _) (by rfl) sc_Asking_plan.nd (pi_listK (K := K) rfl (pv 3)) (blkOk_by (own := [("answer", 4), ("part", 5)]) (N := ["self", "things", "place", "parts", "answer", "part"]) (sc := defScope s_Asking_plan) (by decide +kernel)) (fun _ _ _ _ _ => (pg_k (K := K) (t := fun K => gTup K 2 _) rfl (pg_tup (n := 2) rfl (pgs_cons (pg_name (i := 4) sc_Asking_plan.nd rfl (Or.inl rfl)) (pgs_cons (pg_name (i := 5) sc_Asking_plan.nd rfl (Or.inl rfl)) pgs_nil))))) (fun _ _ _ _ _ => pts_nil) (fun _ _ _ _ _ => (pe_tup (pa_cons (pv 4) (pa_cons (pe_meth (pl := _) (pv 0) T.cl_Asking T.d24002.mt ih (hr.mono (by first | decide | omega)) T.d24002.b .nil pass0 (pa_cons (pv 5) pa_nil)) pa_nil))))) pa_nil)) pa_nil))))))))), ?_⟩
      refine ⟨_, rfl, _, _, _, rfl, .inr (SqT.of (w0.same _ _ q5)), h5.length, _, _, rfl, rfl, _, rfl, ?_⟩
      refine post_ite hm (fun k7 hm => ?_) (fun k7 hm => ?_)
      · skip
        obtain ⟨t8, e8, hm⟩ := pb_get hm
        obtain ⟨u8, f8, r8⟩ := A2.at h5 e8
        refine ⟨_, rfl, _, _, _, _, rfl, rfl, SqT.of (w0.same _ _ q5), f8, (by show 2 ≤ sizeLine; decide), fun p10 n10 => ?_⟩
        obtain ⟨F10, s10, w10, q10⟩ := w0.frzE (o := .tup [(.str "is"), u8]) n10
        replace h_self_least := ADN.imp s10 (fun _ _ r => Rep.mono s10 r) h_self_least
        replace h_self_best := ADN.imp s10 (fun _ _ r => Rep.mono s10 r) h_self_best
        replace q5 := s10 _ _ q5
        replace h5 := A2.mono s10 h5
        replace q6 := s10 _ _ q6
        replace h6 := A2.mono s10 h6
        replace r8 := Rep.mono s10 r8
        replace sF := sF.trans s10
        have r10 : rep K F10 (.ref p10) ((Pl.is t8) : Pl) := (rep_is q10 r8)
        exact (post_ok hm) _ _ _ w10 sF r10
      · skip
        obtain ⟨t11, e11, hm⟩ := pb_mget hm
        obtain ⟨u11, f11, r11⟩ := ADN.some h_self_best e11
        obtain rfl : u11 = V.int t11 := r11
        refine ⟨_, rfl, _, _, _, _, _, rfl, (w0.get (pre := [])), T.cl_Asking, T.na_Asking_best, (fl_Asking_best ((.ref a6) : V) ((.ref a_self_least) : V) ((.ref a_self_best) : V)), _, rfl, _, _, rfl, dgetsN (.inl (w0.get (pre := [_, _, _]))) w0.same h_self_best (rep_tup q5 h5) f11, _, rfl, _, _, _, _, _, rfl, (w0.get (pre := [])), T.cl_Asking, T.na_Asking_fars, (fl_Asking_fars ((.ref a6) : V) ((.ref a_self_least) : V) ((.ref a_self_best) : V)), _, rfl, _, rfl, _, _, _, (x_self.1 : (List (List Int))), _, (x_things : (Tup Thing)), _, rfl, w0, (rep_lst q6 h6), (rep_tup q5 h5), ?_⟩
        refine (post_bind hm).mono (fun y12 hm v12 F12 H12 w12 s12 r12 => ?_) (fun _ z => z)
        replace h5 := A2.mono s12 h5
        replace q5 := s12 _ _ q5
        replace h6 := A2.mono s12 h6
        replace q6 := s12 _ _ q6
        replace h_self_least := ADN.imp s12 (fun _ _ r => Rep.mono s12 r) h_self_least
        replace h_self_best := ADN.imp s12 (fun _ _ r => Rep.mono s12 r) h_self_best
        replace sF := sF.trans s12
        obtain ⟨a13, vs13, rfl, q13, h13⟩ := r12
        refine ⟨_, rfl, _, rfl, _, rfl, ⟨_, SqL.of (w12.same _ _ q13)⟩, fun D14 nD14 => ?_⟩
        refine lcM (K := K) (tw_list (a := a13) h13) hm w12 nD14 (fun F' H' acc s w => SqL.of (w.same _ _ (s _ _ q13))) ?_ ?_
        · -- one turn
          intro b14 x14 F14 H14 H14' acc14 N14 P14 s14 w14 y14 hN14 hm
          replace h5 := A2.mono s14 h5
          replace q5 := s14 _ _ q5
          replace h6 := A2.mono s14 h6
          replace q6 := s14 _ _ q6
          replace h13 := A2.mono s14 h13
          replace q13 := s14 _ _ q13
          replace h_self_least := ADN.imp s14 (fun _ _ r => Rep.mono s14 r) h_self_least
          replace h_self_best := ADN.imp s14 (fun _ _ r => Rep.mono s14 r) h_self_best
          replace sF := sF.trans s14
          obtain ⟨rfl, r16⟩ := y14
          replace r16 := Rep.mono s14 r16
          obtain ⟨a17, u17, z17, rfl, q17, r17a, r17b⟩ := r16
          obtain rfl : u17 = V.int b14.1 := r17a
          obtain ⟨a18, vs18, rfl, q18, h18⟩ := r17b
          have w19 : W F14 _ ((a_self_best, DnO a_self_best vs_self_best) :: (D14, .lst acc14) :: (a_self, (.ins (A 23) dx_self (mkfs [("fars" : Str), ("least" : Str), ("best" : Str)] [(.ref a6), (.ref a_self_least), (.ref a_self_best)]))) :: (dx_self, (.own a_self)) :: (a_self_least, DnO a_self_least vs_self_least) :: os) := w14.front (pre := [_, _, _, _])
          have w20 : W F14 _ ((a_self_least, DnO a_self_least vs_self_least) :: (a_self_best, DnO a_self_best vs_self_best) :: (D14, .lst acc14) :: (a_self, (.ins (A 23) dx_self (mkfs [("fars" : Str), ("least" : Str), ("best" : Str)] [(.ref a6), (.ref a_self_least), (.ref a_self_best)]))) :: (dx_self, (.own a_self)) :: os) := w19.front (pre := [_, _, _, _])
          have w21 : W F14 _ ((dx_self, (.own a_self)) :: (a_self_least, DnO a_self_least vs_self_least) :: (a_self_best, DnO a_self_best vs_self_best) :: (D14, .lst acc14) :: (a_self, (.ins (A 23) dx_self (mkfs [("fars" : Str), ("least" : Str), ("best" : Str)] [(.ref a6), (.ref a_self_least), (.ref a_self_best)]))) :: os) := w20.front (pre := [_, _, _, _])
          have w22 : W F14 _ ((a_self, (.ins (A 23) dx_self (mkfs [("fars" : Str), ("least" : Str), ("best" : Str)] [(.ref a6), (.ref a_self_least), (.ref a_self_best)]))) :: (dx_self, (.own a_self)) :: (a_self_least, DnO a_self_least vs_self_least) :: (a_self_best, DnO a_self_best vs_self_best) :: (D14, .lst acc14) :: os) := w21.front (pre := [_, _, _, _])
          refine ⟨_, _, rfl, SqT.of (w14.same _ _ q17), rfl, _, _, rfl, _, _, rfl, rfl, rfl, _, rfl, _, rfl, _, _, _, rfl, (w14.get (pre := [_])), fm0_Asking_plan ((.ref a6) : V) ((.ref a_self_least) : V) ((.ref a_self_best) : V), _, rfl, _, _, _, _, _, _, _, _, _, _, ((x_self.1, x_self.2.1, x_self.2.2.1, ()) : AskingF), _, (b14.2 : (Tup Thing)), rfl, w22, T.nm_Asking, (rep_lst q6 h6), h_self_least, h_self_best, (rep_tup q18 h18), ?_⟩
          refine (post_bind hm).mono (fun y23 hm v23 F23 H23 w23 s23 r23 => ?_) (fun _ z => z)
          replace h5 := A2.mono s23 h5
          replace q5 := s23 _ _ q5
          replace h6 := A2.mono s23 h6
          replace q6 := s23 _ _ q6
          replace h13 := A2.mono s23 h13
          replace q13 := s23 _ _ q13
          replace h_self_least := ADN.imp s23 (fun _ _ r => Rep.mono s23 r) h_self_least
          replace h_self_best := ADN.imp s23 (fun _ _ r => Rep.mono s23 r) h_self_best
          replace q17 := s23 _ _ q17
          replace q18 := s23 _ _ q18
          replace h18 := A2.mono s23 h18
          replace sF := sF.trans s23
          have r24 : rep K F23 v23 (y23 : Pl) := r23
          obtain ⟨a24, u24, t24, rfl, q24, o24, l24⟩ := pl_openN r24
          refine ⟨(by show 2 ≤ sizeLine; decide), fun p25 n25 => ?_⟩
          obtain ⟨F25, s25, w25, q25⟩ := w23.frzE (o := .tup [(.int b14.1), (.ref a24)]) n25
          replace h5 := A2.mono s25 h5
          replace q5 := s25 _ _ q5
          replace h6 := A2.mono s25 h6
          replace q6 := s25 _ _ q6
          replace h13 := A2.mono s25 h13
          replace q13 := s25 _ _ q13
          replace h_self_least := ADN.imp s25 (fun _ _ r => Rep.mono s25 r) h_self_least
          replace h_self_best := ADN.imp s25 (fun _ _ r => Rep.mono s25 r) h_self_best
          replace q17 := s25 _ _ q17
          replace q18 := s25 _ _ q18
          replace h18 := A2.mono s25 h18
          replace q24 := s25 _ _ q24
          replace r24 := Rep.mono s25 r24
          replace o24 := Rep.mono s25 o24
          replace sF := sF.trans s25
          have w26 : W F25 _ ((a_self_best, DnO a_self_best vs_self_best) :: (a_self, (.ins (A 23) dx_self (mkfs [("fars" : Str), ("least" : Str), ("best" : Str)] [(.ref a6), (.ref a_self_least), (.ref a_self_best)]))) :: (dx_self, (.own a_self)) :: (a_self_least, DnO a_self_least vs_self_least) :: (D14, .lst acc14) :: os) := w25.front (pre := [_, _, _])
          have w27 : W F25 _ ((a_self_least, DnO a_self_least vs_self_least) :: (a_self_best, DnO a_self_best vs_self_best) :: (a_self, (.ins (A 23) dx_self (mkfs [("fars" : Str), ("least" : Str), ("best" : Str)] [(.ref a6), (.ref a_self_least), (.ref a_self_best)]))) :: (dx_self, (.own a_self)) :: (D14, .lst acc14) :: os) := w26.front (pre := [_, _, _])
          have w28 : W F25 _ ((dx_self, (.own a_self)) :: (a_self_least, DnO a_self_least vs_self_least) :: (a_self_best, DnO a_self_best vs_self_best) :: (a_self, (.ins (A 23) dx_self (mkfs [("fars" : Str), ("least" : Str), ("best" : Str)] [(.ref a6), (.ref a_self_least), (.ref a_self_best)]))) :: (D14, .lst acc14) :: os) := w27.front (pre := [_, _, _])
          have w29 : W F25 _ ((a_self, (.ins (A 23) dx_self (mkfs [("fars" : Str), ("least" : Str), ("best" : Str)] [(.ref a6), (.ref a_self_least), (.ref a_self_best)]))) :: (dx_self, (.own a_self)) :: (a_self_least, DnO a_self_least vs_self_least) :: (a_self_best, DnO a_self_best vs_self_best) :: (D14, .lst acc14) :: os) := w28.front (pre := [_, _, _])
          have w30 : W F25 _ ((D14, .lst acc14) :: (a_self, (.ins (A 23) dx_self (mkfs [("fars" : Str), ("least" : Str), ("best" : Str)] [(.ref a6), (.ref a_self_least), (.ref a_self_best)]))) :: (dx_self, (.own a_self)) :: (a_self_least, DnO a_self_least vs_self_least) :: (a_self_best, DnO a_self_best vs_self_best) :: os) := w29.front (pre := [_, _, _, _])
          exact hN14 _ (post_ok hm) _ _ _ w30 (s23.trans s25) (rep_pair q25 rep_i r24)
        intro us14 F14 H14 ys14 s14 w14 gg14 hm
        replace h5 := A2.mono s14 h5
        replace q5 := s14 _ _ q5
        replace h6 := A2.mono s14 h6
        replace q6 := s14 _ _ q6
        replace h13 := A2.mono s14 h13
        replace q13 := s14 _ _ q13
        replace h_self_least := ADN.imp s14 (fun _ _ r => Rep.mono s14 r) h_self_least
        replace h_self_best := ADN.imp s14 (fun _ _ r => Rep.mono s14 r) h_self_best
        replace sF := sF.trans s14
        have h32 : A2 (rep K F14) us14 ys14 := gg14
        refine ⟨_, _, rfl, .inl ⟨SqL.of (w14.get (pre := [])), fun p33 n33 => ?_⟩⟩
        obtain ⟨F33, s33, w33, q33⟩ := w14.frzE (o := .tup us14) n33
        replace h5 := A2.mono s33 h5
        replace q5 := s33 _ _ q5
        replace h6 := A2.mono s33 h6
        replace q6 := s33 _ _ q6
        replace h13 := A2.mono s33 h13
        replace q13 := s33 _ _ q13
        replace h_self_least := ADN.imp s33 (fun _ _ r => Rep.mono s33 r) h_self_least
        replace h_self_best := ADN.imp s33 (fun _ _ r => Rep.mono s33 r) h_self_best
        replace gg14 := A2.mono s33 gg14
        replace h32 := A2.mono s33 h32
        replace sF := sF.trans s33
        refine ⟨(by show 3 ≤ sizeLine; decide), fun p34 n34 => ?_⟩
        obtain ⟨F34, s34, w34, q34⟩ := w33.frzE (o := .tup [(.str "ask"), (.int t11), (.ref p33)]) n34
        replace h5 := A2.mono s34 h5
        replace q5 := s34 _ _ q5
        replace h6 := A2.mono s34 h6
        replace q6 := s34 _ _ q6
        replace h13 := A2.mono s34 h13
        replace q13 := s34 _ _ q13
        replace h_self_least := ADN.imp s34 (fun _ _ r => Rep.mono s34 r) h_self_least
        replace h_self_best := ADN.imp s34 (fun _ _ r => Rep.mono s34 r) h_self_best
        replace gg14 := A2.mono s34 gg14
        replace h32 := A2.mono s34 h32
        replace q33 := s34 _ _ q33
        replace sF := sF.trans s34
        have r34 : rep K F34 (.ref p34) ((Pl.ask t11 ys14) : Pl) := (rep_ask q34 q33 h32)
        have w35 : W F34 _ ((a_self, (.ins (A 23) dx_self (mkfs [("fars" : Str), ("least" : Str), ("best" : Str)] [(.ref a6), (.ref a_self_least), (.ref a_self_best)]))) :: (dx_self, (.own a_self)) :: (a_self_least, DnO a_self_least vs_self_least) :: (a_self_best, DnO a_self_best vs_self_best) :: os) := w34.drop (pre := [])
        exact (post_ok hm) _ _ _ w35 sF r34
def sp_len_first (K : Fg) : Sp := fun vs H Q E => ∃ (F : Hp) (os : List (Addr × HO)) (v_row : V) (x_row : ((Tup Thing) × Int)), vs = [v_row] ∧ W F H (os) ∧ rep K F v_row x_row ∧ Post (len_first x_row) (Ret K F os Q) noX
theorem sc_len_first : FnScope ["row"] ["row"] (defScope s_len_first) := ⟨rfl, rfl, rfl, by decide +kernel, rfl, by decide +kernel, by decide +kernel⟩
theorem ok_len_first (T : Tx K mg A FD) : FnOk P w K mg base CX0 1 (A 25) (FD 25) ["row"] (sp_len_first K) := by
  refine T.d25.fn.ok sc_len_first (fun vs H Q E h => ?_) (fun cdv Ar outer s H vs Q E hr h => ?_)
  · obtain ⟨F, os, v_row, x_row, rfl, _⟩ := h
    rfl
  · obtain ⟨F0, os, v_row, x_row, rfl, w0, r_row, hm⟩ := h
    have sF : Same F0 F0 := Same.refl _
    obtain ⟨a1, u1, z1, rfl, q1, r1a, r1b⟩ := r_row
    obtain ⟨a2, vs2, rfl, q2, h2⟩ := r1a
    obtain rfl : z1 = V.int x_row.2 := r1b
    refine ⟨_, (pss_one (ps_ret (pe_callB (call_lenN (K := K) rfl) (by rfl) T.n_len (by decide +kernel) (pa_cons (pe_ix (ix_tupK (K := K) rfl) (pv 0) pe_int (fun _ _ => rfl)) pa_nil)))), ?_⟩
    exact ⟨_, rfl, _, _, _, _, rfl, rfl, SqT.of (w0.same _ _ q1), rfl, _, _, _, rfl, .inr (SqT.of (w0.same _ _ q2)), h2.length, (post_ok hm) _ _ _ w0 sF rep_i⟩
def sp_fewest_asks (K : Fg) : Sp := fun vs H Q E => ∃ (F : Hp) (os : List (Addr × HO)) (v_web : V) (x_web : (Int × (Tup (Int × Int)))) (x_kind : Str), vs = [v_web, .str x_kind] ∧ W F H (os) ∧ rep K F v_web x_web ∧ Post (fewest_asks x_web x_kind) (Ret K F os Q) noX
theorem sc_fewest_asks : FnScope ["web", "kind", "things", "asking", "asks", "table", "some"] ["web", "kind"] (defScope s_fewest_asks) := ⟨rfl, rfl, rfl, by decide +kernel, rfl, by decide +kernel, by decide +kernel⟩
theorem ok_fewest_asks (T : Tx K mg A FD) : FnOk P w K mg base CX0 24 (A 24) (FD 24) ["web", "kind"] (sp_fewest_asks K) := by
  refine T.d24.fn.ok sc_fewest_asks (fun vs H Q E h => ?_) (fun cdv Ar outer s H vs Q E hr h => ?_)
  · obtain ⟨F, os, v_web, x_web, x_kind, rfl, _⟩ := h
    rfl
  · obtain ⟨F0, os, v_web, x_web, x_kind, rfl, w0, r_web, hm⟩ := h
    have sF : Same F0 F0 := Same.refl _
    obtain ⟨a1, u1, z1, rfl, q1, r1a, r1b⟩ := r_web
    obtain rfl : u1 = V.int x_web.1 := r1a
    obtain ⟨a2, vs2, rfl, q2, h2⟩ := r1b
    refine ⟨_, (pss_cons (ps_set (i := 2) sc_fewest_asks.nd rfl (Or.inl rfl) (pe_callTy (call_tuple_ofK (K := K) rfl) (by rfl) T.n_tuple (by decide +kernel) (pa_cons (pe_call (ok_few_things T) (hr.mono (by decide)) (by rfl) T.d19.mg T.d19.fn.kp T.d19.b .nil pass0 (pa_cons (pv 0) (pa_cons (pv 1) pa_nil))) pa_nil))) (pss_cons (ps_set (i := 3) sc_fewest_asks.nd rfl (Or.inr rfl) (pe_make T.mk_Asking (ok_Asking_init T) (hr.mono (by first | decide | omega)) (by rfl) T.mg_Asking T.d24000.b .nil pass0 (pa_cons (pv 0) pa_nil))) (pss_cons (ps_set (i := 4) sc_fewest_asks.nd rfl (Or.inl rfl) (pe_meth (pl := _) (pv 3) T.cl_Asking T.d24001.mt (ok_Asking_need T 20) (hr.mono (by first | decide | omega)) T.d24001.b .nil pass0 (pa_cons (pv 2) pa_nil))) (pss_cons (ps_lock (ps_setLc (i := 5) (own := [("some", 6)]) (g := gName 6) (by rfl) sc_fewest_asks.nd rfl rfl (sw_true rfl rfl rfl (by decide +kernel)) (pi_keysN (pe_fld (pv 3) (by rfl))) (blkOk_by (own := [("some", 6)]) (N := ["web", "kind", "things", "asking", "asks", "table", "some"]) (sc := defScope s_fewest_asks) (by decide +kernel)) (fun _ _ _ _ _ => (pg_name (i := 6) sc_fewest_asks.nd rfl (Or.inl rfl))) (fun _ _ _ _ _ => pts_nil) (fun _ _ _ _ _ => (pe_tup (pa_cons (pv 6) (pa_cons (pe_dgetN hr.units (pe_k (K := K) (t := fun K => tFld K _ _) rfl (pe_fld (pv 3) (by rfl))) (pv 6) (fun _ _ => rfl)) pa_nil)))))) (pss_one (ps_ret (pe_tup (pa_cons (pv 4) (pa_cons (pe_meth (pl := _) (pv 3) T.cl_Asking T.d24002.mt (ok_Asking_plan T 20) (hr.mono (by first | decide | omega)) T.d24002.b .nil pass0 (pa_cons (pv 2) pa_nil)) (pa_cons (pe_callBK (cr_sortedFK (sp := sp_len_first K) (K := K) rfl (ok_len_first T) (hr.mono (by first | decide | omega)) T.d25.b) (by rfl) T.n_sorted (by decide +kernel) (pa_cons (pv 5) pa_nil) (pk_cons (pe_glob (v := .ref (A 25)) (by rfl) T.d25.mg rfl) pk_nil)) pa_nil)))))))))), ?_⟩
    refine ⟨_, rfl, _, rfl, _, _, _, (x_web : (Int × (Tup (Int × Int)))), _, rfl, w0, (rep_pair q1 rep_i (rep_tup q2 h2)), ?_⟩
    refine (post_bind hm).mono (fun y3 hm v3 F3 H3 w3 s3 r3 => ?_) (fun _ z => z)
    replace q1 := s3 _ _ q1
    replace q2 := s3 _ _ q2
    replace h2 := A2.mono s3 h2
    replace sF := sF.trans s3
    obtain ⟨a4, vs4, rfl, q4, h4⟩ := r3
    have h5 : A2 (rep K F3) vs4 y3 := h4
    refine ⟨_, _, rfl, .inl ⟨SqL.of (w3.same _ _ q4), fun p6 n6 => ?_⟩⟩
    obtain ⟨F6, s6, w6, q6⟩ := w3.frzE (o := .tup vs4) n6
    replace q1 := s6 _ _ q1
    replace q2 := s6 _ _ q2
    replace h2 := A2.mono s6 h2
    replace q4 := s6 _ _ q4
    replace h4 := A2.mono s6 h4
    replace h5 := A2.mono s6 h5
    replace sF := sF.trans s6
    refine ⟨_, rfl, fun a7 dx7 na7 nd7 ne7 => ?_⟩
    have wd7 : W F6 _ ((dx7, (.own a7)) :: os) := w6.new (o := .own a7) nd7
    have w7 : W F6 _ ((a7, (.ins (A 23) dx7 [])) :: (dx7, (.own a7)) :: os) := wd7.new (o := .ins (A 23) dx7 []) (by rw [upd_ne ne7.symm]; exact na7)
    refine ⟨_, _, _, _, _, _, (x_web : (Int × (Tup (Int × Int)))), rfl, w7, T.nm_Asking, (rep_pair q1 rep_i (rep_tup q2 h2)), ?_⟩
    refine (post_bind hm).mono (fun y7 hm u7_0 p7_1 us7_1 p7_2 us7_2 F7 H7 w7i s7 h7_0 h7_1 h7_2 => ⟨rfl, ?_⟩) (fun _ z => z)
    replace q1 := s7 _ _ q1
    replace h2 := A2.mono s7 h2
    replace q2 := s7 _ _ q2
    replace h5 := A2.mono s7 h5
    replace q6 := s7 _ _ q6
    replace sF := sF.trans s7
    obtain ⟨a14, vs14, rfl, q14, h14⟩ := h7_0
    have w15 : W F7 _ ((p7_2, DnO p7_2 us7_2) :: (a7, (.ins (A 23) dx7 (mkfs [("fars" : Str), ("least" : Str), ("best" : Str)] [(.ref a14), (.ref p7_1), (.ref p7_2)]))) :: (dx7, (.own a7)) :: (p7_1, DnO p7_1 us7_1) :: os) := w7i.front (pre := [_, _, _])
    have w16 : W F7 _ ((p7_1, DnO p7_1 us7_1) :: (p7_2, DnO p7_2 us7_2) :: (a7, (.ins (A 23) dx7 (mkfs [("fars" : Str), ("least" : Str), ("best" : Str)] [(.ref a14), (.ref p7_1), (.ref p7_2)]))) :: (dx7, (.own a7)) :: os) := w15.front (pre := [_, _, _])
    have w17 : W F7 _ ((dx7, (.own a7)) :: (p7_1, DnO p7_1 us7_1) :: (p7_2, DnO p7_2 us7_2) :: (a7, (.ins (A 23) dx7 (mkfs [("fars" : Str), ("least" : Str), ("best" : Str)] [(.ref a14), (.ref p7_1), (.ref p7_2)]))) :: os) := w16.front (pre := [_, _, _])
    have w18 : W F7 _ ((a7, (.ins (A 23) dx7 (mkfs [("fars" : Str), ("least" : Str), ("best" : Str)] [(.ref a14), (.ref p7_1), (.ref p7_2)]))) :: (dx7, (.own a7)) :: (p7_1, DnO p7_1 us7_1) :: (p7_2, DnO p7_2 us7_2) :: os) := w17.front (pre := [_, _, _])
    refine ⟨_, rfl, _, _, _, rfl, (w7i.get (pre := [])), fm0_Asking_need ((.ref a14) : V) ((.ref p7_1) : V) ((.ref p7_2) : V), _, rfl, _, _, _, _, _, _, _, _, _, _, ((y7.1, y7.2.1, y7.2.2.1, ()) : AskingF), _, ((Tup.mk y3) : (Tup Thing)), rfl, w18, T.nm_Asking, (rep_lst q14 h14), h7_1, h7_2, (rep_tup q6 h5), ?_⟩
    refine (post_bind hm).mono (fun y19 hm v19 vs19 vs19_1 F19 H19 w19 s19 r19 h19 h19_1 => ?_) (fun _ z => z)
    replace q1 := s19 _ _ q1
    replace h2 := A2.mono s19 h2
    replace q2 := s19 _ _ q2
    replace h5 := A2.mono s19 h5
    replace q6 := s19 _ _ q6
    replace h14 := A2.mono s19 h14
    replace q14 := s19 _ _ q14
    replace sF := sF.trans s19
    obtain rfl : v19 = V.int y19.1 := r19
    refine stepN ?_
    try dsimp only
    refine ⟨_, _, (w19.get (pre := [_, _])), (by exact True.intro), fun od20 => ?_⟩
    have w20 : W F19 _ ((a7, (.ins (A 23) dx7 (mkfs [("fars" : Str), ("least" : Str), ("best" : Str)] [(.ref a14), (.ref p7_1), (.ref p7_2)]))) :: (dx7, (.own a7)) :: (p7_1, (.frz od20 (DnO p7_1 vs19))) :: (p7_2, DnO p7_2 vs19_1) :: os) := w19.set (pre := [_, _])
    refine ⟨_, rfl, _, _, _, _, _, rfl, (w20.get (pre := [])), T.cl_Asking, T.na_Asking_least, (fl_Asking_least ((.ref a14) : V) ((.ref p7_1) : V) ((.ref p7_2) : V)), _, _, _, rfl, (w20.get (pre := [_, _])), fun D21 nD21 => ?_⟩
    refine lcM (K := K) (tw_keysN (d := p7_1) (o := od20) h19) hm w20 nD21 (fun F' H' acc s w => w.get (pre := [_, _, _])) ?_ ?_
    · -- one turn
      intro b21 x21 F21 H21 H21' acc21 N21 P21 s21 w21 y21 hN21 hm
      replace q1 := s21 _ _ q1
      replace h2 := A2.mono s21 h2
      replace q2 := s21 _ _ q2
      replace h5 := A2.mono s21 h5
      replace q6 := s21 _ _ q6
      replace h14 := A2.mono s21 h14
      replace q14 := s21 _ _ q14
      replace h19 := ADN.imp s21 (fun _ _ r => Rep.mono s21 r) h19
      replace h19_1 := ADN.imp s21 (fun _ _ r => Rep.mono s21 r) h19_1
      replace sF := sF.trans s21
      obtain ⟨rfl, r23⟩ := y21
      replace r23 := Rep.mono s21 r23
      obtain ⟨a24, vs24, rfl, q24, h24⟩ := r23
      obtain ⟨t25, e25, hm⟩ := pb_mget hm
      obtain ⟨u25, f25, r25⟩ := ADN.some h19 e25
      obtain rfl : u25 = V.int t25 := r25
      refine ⟨rfl, _, rfl, _, rfl, _, _, _, _, _, rfl, (w21.get (pre := [_])), T.cl_Asking, T.na_Asking_least, (fl_Asking_least ((.ref a14) : V) ((.ref p7_1) : V) ((.ref p7_2) : V)), _, rfl, _, _, rfl, dgetsN (.inr ⟨_, (w21.get (pre := [_, _, _]))⟩) w21.same h19 (rep_tup q24 h24) f25, (by show 2 ≤ sizeLine; decide), fun p26 n26 => ?_⟩
      obtain ⟨F26, s26, w26, q26⟩ := w21.frzE (o := .tup [(.ref a24), (.int t25)]) n26
      replace q1 := s26 _ _ q1
      replace h2 := A2.mono s26 h2
      replace q2 := s26 _ _ q2
      replace h5 := A2.mono s26 h5
      replace q6 := s26 _ _ q6
      replace h14 := A2.mono s26 h14
      replace q14 := s26 _ _ q14
      replace h19 := ADN.imp s26 (fun _ _ r => Rep.mono s26 r) h19
      replace h19_1 := ADN.imp s26 (fun _ _ r => Rep.mono s26 r) h19_1
      replace q24 := s26 _ _ q24
      replace h24 := A2.mono s26 h24
      replace sF := sF.trans s26
      exact hN21 _ (post_ok hm) _ _ _ w26 s26 (rep_pair q26 (rep_tup q24 h24) rep_i)
    intro us21 F21 H21 ys21 s21 w21 gg21 hm
    replace q1 := s21 _ _ q1
    replace h2 := A2.mono s21 h2
    replace q2 := s21 _ _ q2
    replace h5 := A2.mono s21 h5
    replace q6 := s21 _ _ q6
    replace h14 := A2.mono s21 h14
    replace q14 := s21 _ _ q14
    replace h19 := ADN.imp s21 (fun _ _ r => Rep.mono s21 r) h19
    replace h19_1 := ADN.imp s21 (fun _ _ r => Rep.mono s21 r) h19_1
    replace sF := sF.trans s21
    obtain ⟨F28, s28, w28, q28⟩ : ∃ F', Same F21 F' ∧ W F' _ ((a7, (.ins (A 23) dx7 (mkfs [("fars" : Str), ("least" : Str), ("best" : Str)] [(.ref a14), (.ref p7_1), (.ref p7_2)]))) :: (dx7, (.own a7)) :: (p7_1, (.frz od20 (DnO p7_1 vs19))) :: (p7_2, DnO p7_2 vs19_1) :: os) ∧ F' D21 = some (.lst us21) := w21.freezeE (pre := [])
    replace q1 := s28 _ _ q1
    replace h2 := A2.mono s28 h2
    replace q2 := s28 _ _ q2
    replace h5 := A2.mono s28 h5
    replace q6 := s28 _ _ q6
    replace h14 := A2.mono s28 h14
    replace q14 := s28 _ _ q14
    replace h19 := ADN.imp s28 (fun _ _ r => Rep.mono s28 r) h19
    replace h19_1 := ADN.imp s28 (fun _ _ r => Rep.mono s28 r) h19_1
    replace gg21 := A2.mono s28 gg21
    replace sF := sF.trans s28
    refine stepN ?_
    try dsimp only
    refine ⟨(w28.get (pre := [_, _])), ?_⟩
    have w29 : W F28 _ ((a7, (.ins (A 23) dx7 (mkfs [("fars" : Str), ("least" : Str), ("best" : Str)] [(.ref a14), (.ref p7_1), (.ref p7_2)]))) :: (dx7, (.own a7)) :: (p7_1, DnO p7_1 vs19) :: (p7_2, DnO p7_2 vs19_1) :: os) := w28.set (pre := [_, _])
    have w30 : W F28 _ ((p7_2, DnO p7_2 vs19_1) :: (a7, (.ins (A 23) dx7 (mkfs [("fars" : Str), ("least" : Str), ("best" : Str)] [(.ref a14), (.ref p7_1), (.ref p7_2)]))) :: (dx7, (.own a7)) :: (p7_1, DnO p7_1 vs19) :: os) := w29.front (pre := [_, _, _])
    have w31 : W F28 _ ((p7_1, DnO p7_1 vs19) :: (p7_2, DnO p7_2 vs19_1) :: (a7, (.ins (A 23) dx7 (mkfs [("fars" : Str), ("least" : Str), ("best" : Str)] [(.ref a14), (.ref p7_1), (.ref p7_2)]))) :: (dx7, (.own a7)) :: os) := w30.front (pre := [_, _, _])
    have w32 : W F28 _ ((dx7, (.own a7)) :: (p7_1, DnO p7_1 vs19) :: (p7_2, DnO p7_2 vs19_1) :: (a7, (.ins (A 23) dx7 (mkfs [("fars" : Str), ("least" : Str), ("best" : Str)] [(.ref a14), (.ref p7_1), (.ref p7_2)]))) :: os) := w31.front (pre := [_, _, _])
    have w33 : W F28 _ ((a7, (.ins (A 23) dx7 (mkfs [("fars" : Str), ("least" : Str), ("best" : Str)] [(.ref a14), (.ref p7_1), (.ref p7_2)]))) :: (dx7, (.own a7)) :: (p7_1, DnO p7_1 vs19) :: (p7_2, DnO p7_2 vs19_1) :: os) := w32.front (pre := [_, _, _])
    refine ⟨_, rfl, _, rfl, _, _, _, rfl, (w29.get (pre := [])), fm0_Asking_plan ((.ref a14) : V) ((.ref p7_1) : V) ((.ref p7_2) : V), _, rfl, _, _, _, _, _, _, _, _, _, _, ((y7.1, y19.2.1, y19.2.2, ()) : AskingF), _, ((Tup.mk y3) : (Tup Thing)), rfl, w33, T.nm_Asking, (rep_lst q14 h14), h19, h19_1, (rep_tup q6 h5), ?_⟩
    refine (post_bind hm).mono (fun y34 hm v34 F34 H34 w34 s34 r34 => ?_) (fun _ z => z)
    replace q1 := s34 _ _ q1
    replace h2 := A2.mono s34 h2
    replace q2 := s34 _ _ q2
    replace h5 := A2.mono s34 h5
    replace q6 := s34 _ _ q6
    replace h14 := A2.mono s34 h14
    replace q14 := s34 _ _ q14
    replace gg21 := A2.mono s34 gg21
    replace q28 := s34 _ _ q28
    replace h19 := ADN.imp s34 (fun _ _ r => Rep.mono s34 r) h19
    replace h19_1 := ADN.imp s34 (fun _ _ r => Rep.mono s34 r) h19_1
    replace sF := sF.trans s34
    have r35 : rep K F34 v34 (y34 : Pl) := r34
    obtain ⟨a35, u35, t35, rfl, q35, o35, l35⟩ := pl_openN r35
    obtain ⟨k36, hm⟩ := pb_sortBy hm
    refine ⟨_, rfl, rfl, key_ok (sp := sp_len_first K) (f := len_first) w34 (SqL.of (w34.same _ _ q28)) (gg21) k36 (fun x b F' H' Q' w' r' h' => ⟨F', _, x, b, rfl, w', r', h'⟩) (fun p36 us36 F36 H36 w36 s36 n36 h36 => ?_)⟩
    replace q1 := s36 _ _ q1
    replace h2 := A2.mono s36 h2
    replace q2 := s36 _ _ q2
    replace h5 := A2.mono s36 h5
    replace q6 := s36 _ _ q6
    replace h14 := A2.mono s36 h14
    replace q14 := s36 _ _ q14
    replace gg21 := A2.mono s36 gg21
    replace q28 := s36 _ _ q28
    replace h19 := ADN.imp s36 (fun _ _ r => Rep.mono s36 r) h19
    replace h19_1 := ADN.imp s36 (fun _ _ r => Rep.mono s36 r) h19_1
    replace q35 := s36 _ _ q35
    replace r35 := Rep.mono s36 r35
    replace o35 := Rep.mono s36 o35
    replace sF := sF.trans s36
    have w38 : W F36 _ ((p36, .lst us36) :: (a7, (.ins (A 23) dx7 (mkfs [("fars" : Str), ("least" : Str), ("best" : Str)] [(.ref a14), (.ref p7_1), (.ref p7_2)]))) :: (dx7, (.own a7)) :: (p7_1, DnO p7_1 vs19) :: (p7_2, DnO p7_2 vs19_1) :: os) := w36.new n36
    obtain ⟨F39, s39, w39, q39⟩ : ∃ F', Same F36 F' ∧ W F' _ ((a7, (.ins (A 23) dx7 (mkfs [("fars" : Str), ("least" : Str), ("best" : Str)] [(.ref a14), (.ref p7_1), (.ref p7_2)]))) :: (dx7, (.own a7)) :: (p7_1, DnO p7_1 vs19) :: (p7_2, DnO p7_2 vs19_1) :: os) ∧ F' p36 = some (.lst us36) := w38.freezeE (pre := [])
    replace q1 := s39 _ _ q1
    replace h2 := A2.mono s39 h2
    replace q2 := s39 _ _ q2
    replace h5 := A2.mono s39 h5
    replace q6 := s39 _ _ q6
    replace h14 := A2.mono s39 h14
    replace q14 := s39 _ _ q14
    replace gg21 := A2.mono s39 gg21
    replace q28 := s39 _ _ q28
    replace h19 := ADN.imp s39 (fun _ _ r => Rep.mono s39 r) h19
    replace h19_1 := ADN.imp s39 (fun _ _ r => Rep.mono s39 r) h19_1
    replace q35 := s39 _ _ q35
    replace r35 := Rep.mono s39 r35
    replace o35 := Rep.mono s39 o35
    replace h36 := A2.mono s39 h36
    replace sF := sF.trans s39
    refine ⟨(by show 3 ≤ sizeLine; decide), fun p40 n40 => ?_⟩
    obtain ⟨F40, s40, w40, q40⟩ := w39.frzE (o := .tup [(.int y19.1), (.ref a35), (.ref p36)]) n40
    replace q1 := s40 _ _ q1
    replace h2 := A2.mono s40 h2
    replace q2 := s40 _ _ q2
    replace h5 := A2.mono s40 h5
    replace q6 := s40 _ _ q6
    replace h14 := A2.mono s40 h14
    replace q14 := s40 _ _ q14
    replace gg21 := A2.mono s40 gg21
    replace q28 := s40 _ _ q28
    replace h19 := ADN.imp s40 (fun _ _ r => Rep.mono s40 r) h19
    replace h19_1 := ADN.imp s40 (fun _ _ r => Rep.mono s40 r) h19_1
    replace q35 := s40 _ _ q35
    replace r35 := Rep.mono s40 r35
    replace o35 := Rep.mono s40 o35
    replace h36 := A2.mono s40 h36
    replace q39 := s40 _ _ q39
    replace sF := sF.trans s40
    have w41 : W F40 _ ((dx7, (.own a7)) :: (p7_1, DnO p7_1 vs19) :: (p7_2, DnO p7_2 vs19_1) :: os) := w40.drop (pre := [])
    have w42 : W F40 _ ((p7_1, DnO p7_1 vs19) :: (p7_2, DnO p7_2 vs19_1) :: os) := w41.drop (pre := [])
    have w43 : W F40 _ ((p7_2, DnO p7_2 vs19_1) :: os) := w42.drop (pre := [])
    have w44 : W F40 _ (os) := w43.drop (pre := [])
    exact (post_ok hm) _ _ _ w44 sF (rep_nt3 q40 rep_i r35 (rep_lst q39 h36))
def sp_asks_of (d : Nat) (K : Fg) : Sp := fun vs H Q E => ∃ (F : Hp) (os : List (Addr × HO)) (v_fars : V) (x_fars : (List (List Int))) (v_things : V) (x_things : (Tup Thing)) (v_plan : V) (x_plan : Pl), vs = [v_fars, v_things, v_plan] ∧ W F H (os) ∧ rep K F v_fars x_fars ∧ rep K F v_things x_things ∧ rep K F v_plan x_plan ∧ Post (asks_of d x_fars x_things x_plan) (Ret K F os Q) noX
theorem sc_asks_of : FnScope ["fars", "things", "plan"] ["fars", "things", "plan"] (defScope s_asks_of) := ⟨rfl, rfl, rfl, by decide +kernel, rfl, by decide +kernel, by decide +kernel⟩
def sp_plan_of_parts (d : Nat) (K : Fg) : Sp := fun vs H Q E => ∃ (F : Hp) (os : List (Addr × HO)) (v_fars : V) (x_fars : (List (List Int))) (v_things : V) (x_things : (Tup Thing)) (v_plan : V) (x_plan : Pl), vs = [v_fars, v_things, v_plan] ∧ W F H (os) ∧ rep K F v_fars x_fars ∧ rep K F v_things x_things ∧ rep K F v_plan x_plan ∧ Post (plan_of_parts (asks_of d) x_fars x_things x_plan) (Ret K F os Q) noX
theorem sc_plan_of_parts : FnScope ["fars", "things", "plan", "parts", "found", "answer", "part", "rest", "same"] ["fars", "things", "plan"] (defScope s_plan_of_parts) := ⟨rfl, rfl, rfl, by decide +kernel, rfl, by decide +kernel, by decide +kernel⟩
theorem ok_plan_of_parts (T : Tx K mg A FD) (d : Nat) (ih : FnOk P w K mg base CX0 (3 + 2 * d) (A 27) (FD 27) ["fars", "things", "plan"] (sp_asks_of d K)) : FnOk P w K mg base CX0 (3 + 2 * d + 1) (A 26) (FD 26) ["fars", "things", "plan"] (sp_plan_of_parts d K) := by
  refine T.d26.fn.ok (k := 3 + 2 * d) sc_plan_of_parts (fun vs H Q E h => ?_) (fun cdv Ar outer s H vs Q E hr h => ?_)
  · obtain ⟨F, os, v_fars, x_fars, v_things, x_things, v_plan, x_plan, rfl, _⟩ := h
    rfl
  · obtain ⟨F0, os, v_fars, x_fars, v_things, x_things, v_plan, x_plan, rfl, w0, r_fars, r_things, r_plan, hm⟩ := h
    have sF : Same F0 F0 := Same.refl _
    obtain ⟨a1, vs1, rfl, q1, h1⟩ := r_fars
    obtain ⟨a2, vs2, rfl, q2, h2⟩ := r_things
    have r3 : rep K F0 v_plan (x_plan : Pl) := r_plan
    obtain ⟨a3, u3, t3, rfl, q3, o3, l3⟩ := pl_openN r3
    obtain ⟨i4, l4, e4, hm⟩ := pb_asAsk hm
    have r4 : rep K F0 (.ref a3) (Pl.ask i4 l4) := e4 ▸ r3
    obtain ⟨p4, b4, vs4, z4, q4, qb4, h4⟩ := ask_open r4
    have z4 : a3 = p4 := V.ref.inj z4
    subst z4
    refine ⟨_, (pss_cons (ps_if (pt_cmpR (op_notInL (K := K) rfl Int (by decide) (Room.units65 hr)) (pe_ix (ix_tupK (K := K) rfl) (pv 2) pe_int (fun _ _ => rfl)) (pe_listRg rfl (by rfl) T.n_list (prg_1 (by rfl) T.n_range (pe_callB (call_lenN (K := K) rfl) (by rfl) T.n_len (by decide +kernel) (pa_cons (pv 0) pa_nil)))) (by rfl)) (pss_one (ps_ret pe_non)) pss_nil) (pss_cons (ps_set (i := 3) sc_plan_of_parts.nd rfl (Or.inl rfl) (pe_call (ok_parts_by T) (hr.mono (by first | decide | omega)) (by rfl) T.d22.mg T.d22.fn.kp T.d22.b .nil pass0 (pa_cons (pv 0) (pa_cons (pv 1) (pa_cons (pe_ix (ix_tupK (K := K) rfl) (pv 2) pe_int (fun _ _ => rfl)) pa_nil))))) (pss_cons (ps_if (PW.pt (pw_or (pt_cmp (pc_lt (pe_callB (call_lenN (K := K) rfl) (by rfl) T.n_len (by decide +kernel) (pa_cons (pv 3) pa_nil)) pe_int)) (pw_or1 (pt_cmpR (op_neDt (K := K) rfl (List Int) (by decide) hr.units) (pe_lc (own := [("answer", 5), ("part", 6)]) (g := _) (by rfl) sc_plan_of_parts.nd (pi_listK (K := K) rfl (pv 3)) (blkOk_by (own := [("answer", 5), ("part", 6)]) (N := ["fars", "things", "plan", "parts", "found", "answer", "part", "rest", "same"]) (sc := defScope s_plan_of_parts) (by decide +kernel)) (fun _ _ _ _ _ => (pg_k (K := K) (t := fun K => gTup K 2 _) rfl (pg_tup (n := 2) rfl (pgs_cons (pg_name (i := 5) sc_plan_of_parts.nd rfl (Or.inl rfl)) (pgs_cons (pg_name (i := 6) sc_plan_of_parts.nd rfl (Or.inl rfl)) pgs_nil))))) (fun _ _ _ _ _ => pts_nil) (fun _ _ _ _ _ => (pv 5))) (pe_lc (own := [("answer", 5), ("rest", 7)]) (g := _) (by rfl) sc_plan_of_parts.nd (pi_tupK (K := K) rfl (pe_ix (ix_tupK (K := K) rfl) (pv 2) pe_int (fun _ _ => rfl))) (blkOk_by (own := [("answer", 5), ("rest", 7)]) (N := ["fars", "things", "plan", "parts", "found", "answer", "part", "rest", "same"]) (sc := defScope s_plan_of_parts) (by decide +kernel)) (fun _ _ _ _ _ => (pg_k (K := K) (t := fun K => gTup K 2 _) rfl (pg_tup (n := 2) rfl (pgs_cons (pg_name (i := 5) sc_plan_of_parts.nd rfl (Or.inl rfl)) (pgs_cons (pg_name (i := 7) sc_plan_of_parts.nd rfl (Or.inl rfl)) pgs_nil))))) (fun _ _ _ _ _ => pts_nil) (fun _ _ _ _ _ => (pv 5))) (nomark _))))) (pss_one (ps_ret pe_non)) pss_nil) (pss_cons (ps_setLc (i := 4) (own := [("answer", 5), ("part", 6), ("same", 8), ("rest", 7)]) (g := _) (by rfl) sc_plan_of_parts.nd rfl rfl (sw_true rfl rfl rfl (by decide +kernel)) (pi_k (K := K) (wi := fun K => MZ.iZip2 MZ.qL MZ.qT K _) rfl (MZ.pi_zip2 (by rfl) T.n_zip (pa_cons (pv 3) (pa_cons (pe_ix (ix_tupK (K := K) rfl) (pv 2) pe_int (fun _ _ => rfl)) pa_nil)))) (blkOk_by (own := [("answer", 5), ("part", 6), ("same", 8), ("rest", 7)]) (N := ["fars", "things", "plan", "parts", "found", "answer", "part", "rest", "same"]) (sc := defScope s_plan_of_parts) (by decide +kernel)) (fun _ _ _ _ _ => (pg_k (K := K) (t := fun K => gTup K 2 _) rfl (pg_tup (n := 2) rfl (pgs_cons (pg_k (K := K) (t := fun K => gTup K 2 _) rfl (pg_tup (n := 2) rfl (pgs_cons (pg_name (i := 5) sc_plan_of_parts.nd rfl (Or.inl rfl)) (pgs_cons (pg_name (i := 6) sc_plan_of_parts.nd rfl (Or.inl rfl)) pgs_nil)))) (pgs_cons (pg_k (K := K) (t := fun K => gTup K 2 _) rfl (pg_tup (n := 2) rfl (pgs_cons (pg_name (i := 8) sc_plan_of_parts.nd rfl (Or.inl rfl)) (pgs_cons (pg_name (i := 7) sc_plan_of_parts.nd rfl (Or.inl rfl)) pgs_nil)))) pgs_nil))))) (fun _ _ _ _ _ => pts_nil) (fun _ _ _ _ _ => (pe_call ih (hr.mono (by first | decide | omega)) (by rfl) T.d27.mg T.d27.fn.kp T.d27.b .nil pass0 (pa_cons (pv 0) (pa_cons (pv 6) (pa_cons (pv 7) pa_nil)))))) (pss_cons (ps_if (pt_cmpR (op_inL (K := K) rfl (Option Int) (by decide) (Room.units65 hr)) pe_non (pv 4) (by rfl)) (pss_one (ps_ret pe_non)) pss_nil) (pss_one (ps_ret (pe_op op_add pe_int (pe_callB (cr_maxI (K := K) rfl rfl) (by rfl) T.n_max (by decide +kernel) (pa_cons (pv 4) pa_nil)))))))))), ?_⟩
    obtain ⟨l5, z5, e5, hm⟩ := pb_lrng hm
    have h5 : A2 (rep K F0) (rgV 0 (x_fars.length : Int)) l5 := by rw [e5, rgV_eq]; exact A2.of_ints
    refine ⟨_, rfl, _, _, _, _, rfl, rfl, SqT.of (w0.same _ _ q4), rfl, _, rfl, _, _, _, rfl, .inl (SqL.of (w0.same _ _ q1)), h1.length, _, rfl, z5, fun p6 n6 => ?_⟩
    have w6 : W F0 _ ((p6, .lst (rgV 0 (x_fars.length : Int))) :: os) := w0.new n6
    refine ⟨(i4 : Int), _, rep_i, (rep_own (pre := []) w6 h5), _, rfl, ?_⟩
    have w7 : W F0 _ (os) := w6.drop (pre := [])
    refine post_ite hm (fun k8 hm => ?_) (fun k8 hm => ?_)
    · skip
      exact (post_ok hm) _ _ _ w7 sF rep_none
    · skip
      refine ⟨_, rfl, _, rfl, _, rfl, _, _, _, _, rfl, rfl, SqT.of (w7.same _ _ q4), rfl, _, _, _, (x_fars : (List (List Int))), _, (x_things : (Tup Thing)), _, rfl, w7, (rep_lst q1 h1), (rep_tup q2 h2), ?_⟩
      refine (post_bind hm).mono (fun y9 hm v9 F9 H9 w9 s9 r9 => ?_) (fun _ z => z)
      replace q1 := s9 _ _ q1
      replace h1 := A2.mono s9 h1
      replace q2 := s9 _ _ q2
      replace h2 := A2.mono s9 h2
      replace q3 := s9 _ _ q3
      replace r3 := Rep.mono s9 r3
      replace o3 := Rep.mono s9 o3
      replace r4 := Rep.mono s9 r4
      replace q4 := s9 _ _ q4
      replace qb4 := s9 _ _ qb4
      replace h4 := A2.mono s9 h4
      replace sF := sF.trans s9
      obtain ⟨a10, vs10, rfl, q10, h10⟩ := r9
      refine stepN ?_
      try dsimp only
      refine stepSeq (stepIf ?_)
      refine joinT hm (fun (j11 : Bool) c H' => c = j11 ∧ ∃ (F' : Hp), Same F9 F' ∧ W F' H' (os)) ?_ ?_
      · intro Q11 P11 q11 hm
        refine ⟨_, rfl, _, _, _, rfl, .inl (SqL.of (w9.same _ _ q10)), h10.length, _, _, rfl, rfl, _, rfl, ?_⟩
        refine post_ite hm (fun k12 hm => ?_) (fun k12 hm => ?_)
        · skip
          exact q11 _ (post_ok hm) _ _ ⟨rfl, _, Same.refl _, w9⟩
        · skip
          refine ⟨_, rfl, _, rfl, ⟨_, SqL.of (w9.same _ _ q10)⟩, fun D14 nD14 => ?_⟩
          refine lcM (K := K) (tw_list (a := a10) h10) hm w9 nD14 (fun F' H' acc s w => SqL.of (w.same _ _ (s _ _ q10))) ?_ ?_
          · -- one turn
            intro b14 x14 F14 H14 H14' acc14 N14 P14 s14 w14 y14 hN14 hm
            replace h1 := A2.mono s14 h1
            replace q1 := s14 _ _ q1
            replace h2 := A2.mono s14 h2
            replace q2 := s14 _ _ q2
            replace q4 := s14 _ _ q4
            replace r4 := Rep.mono s14 r4
            replace h4 := A2.mono s14 h4
            replace qb4 := s14 _ _ qb4
            replace h10 := A2.mono s14 h10
            replace q10 := s14 _ _ q10
            replace sF := sF.trans s14
            obtain ⟨rfl, r16⟩ := y14
            replace r16 := Rep.mono s14 r16
            obtain ⟨a17, u17, z17, rfl, q17, r17a, r17b⟩ := r16
            obtain rfl : u17 = V.int b14.1 := r17a
            obtain ⟨a18, vs18, rfl, q18, h18⟩ := r17b
            exact ⟨_, _, rfl, SqT.of (w14.same _ _ q17), rfl, _, _, rfl, _, _, rfl, rfl, rfl, _, rfl, hN14 _ (post_ok hm) _ _ _ w14 (Same.refl _) rep_i⟩
          intro us14 F14 H14 ys14 s14 w14 gg14 hm
          replace h1 := A2.mono s14 h1
          replace q1 := s14 _ _ q1
          replace h2 := A2.mono s14 h2
          replace q2 := s14 _ _ q2
          replace q4 := s14 _ _ q4
          replace r4 := Rep.mono s14 r4
          replace h4 := A2.mono s14 h4
          replace qb4 := s14 _ _ qb4
          replace h10 := A2.mono s14 h10
          replace q10 := s14 _ _ q10
          replace sF := sF.trans s14
          refine ⟨_, rfl, _, _, _, _, rfl, rfl, SqT.of (w14.same _ _ q4), rfl, _, rfl, ⟨_, SqT.of (w14.same _ _ qb4)⟩, fun D20 nD20 => ?_⟩
          refine lcM (K := K) (tw_tup (a := b4) h4) hm w14 nD20 (fun F' H' acc s w => SqT.of (w.same _ _ (s _ _ qb4))) ?_ ?_
          · -- one turn
            intro b20 x20 F20 H20 H20' acc20 N20 P20 s20 w20 y20 hN20 hm
            replace h1 := A2.mono s20 h1
            replace q1 := s20 _ _ q1
            replace h2 := A2.mono s20 h2
            replace q2 := s20 _ _ q2
            replace q4 := s20 _ _ q4
            replace r4 := Rep.mono s20 r4
            replace h4 := A2.mono s20 h4
            replace qb4 := s20 _ _ qb4
            replace h10 := A2.mono s20 h10
            replace q10 := s20 _ _ q10
            replace gg14 := A2.mono s20 gg14
            replace sF := sF.trans s20
            obtain ⟨rfl, r22⟩ := y20
            replace r22 := Rep.mono s20 r22
            obtain ⟨a23, u23, z23, rfl, q23, r23a, r23b⟩ := r22
            obtain rfl : u23 = V.int b20.1 := r23a
            have r24 : rep K F20 z23 (b20.2 : Pl) := r23b
            obtain ⟨a24, u24, t24, rfl, q24, o24, l24⟩ := pl_openN r24
            exact ⟨_, _, rfl, SqT.of (w20.same _ _ q23), rfl, _, _, rfl, _, _, rfl, rfl, rfl, _, rfl, hN20 _ (post_ok hm) _ _ _ w20 (Same.refl _) rep_i⟩
          intro us20 F20 H20 ys20 s20 w20 gg20 hm
          replace h1 := A2.mono s20 h1
          replace q1 := s20 _ _ q1
          replace h2 := A2.mono s20 h2
          replace q2 := s20 _ _ q2
          replace q4 := s20 _ _ q4
          replace r4 := Rep.mono s20 r4
          replace h4 := A2.mono s20 h4
          replace qb4 := s20 _ _ qb4
          replace h10 := A2.mono s20 h10
          replace q10 := s20 _ _ q10
          replace gg14 := A2.mono s20 gg14
          replace sF := sF.trans s20
          have w27 : W F20 _ ((D14, .lst us14) :: os) := w20.drop (pre := [])
          have w28 : W F20 _ (os) := w27.drop (pre := [])
          exact ⟨(ys14 : (List Int)), (ys20 : (List Int)), (rep_own (pre := [_]) w20 gg14), (rep_own (pre := []) w20 gg20), _, rfl, q11 _ (post_ok hm) _ _ ⟨rfl, _, (s14.trans s20), w28⟩⟩
      intro j11 c11 H11 hc11 hm
      obtain ⟨rfl, F11, s11, w11⟩ := hc11
      replace h1 := A2.mono s11 h1
      replace q1 := s11 _ _ q1
      replace h2 := A2.mono s11 h2
      replace q2 := s11 _ _ q2
      replace q4 := s11 _ _ q4
      replace r4 := Rep.mono s11 r4
      replace h4 := A2.mono s11 h4
      replace qb4 := s11 _ _ qb4
      replace h10 := A2.mono s11 h10
      replace q10 := s11 _ _ q10
      replace sF := sF.trans s11
      refine post_ite hm (fun k29 hm => ?_) (fun k29 hm => ?_)
      · skip
        exact (post_ok hm) _ _ _ w11 sF rep_none
      · skip
        refine ⟨_, rfl, _, rfl, _, _, _, _, rfl, rfl, SqT.of (w11.same _ _ q4), rfl, _, _, _, _, rfl, SqL.of (w11.same _ _ q10), SqT.of (w11.same _ _ qb4), fun D30 nD30 => ?_⟩
        refine lcM (K := K) (tw_zip2 (Q1 := MZ.qL) (Q2 := MZ.qT) (a := a10) (b := b4) h10 h4) hm w11 nD30 (fun F' H' acc s w => ⟨SqL.of (w.same _ _ (s _ _ q10)), SqT.of (w.same _ _ (s _ _ qb4))⟩) ?_ ?_
        · -- one turn
          intro b30 x30 F30 H30 H30' acc30 N30 P30 s30 w30 y30 hN30 hm
          replace h1 := A2.mono s30 h1
          replace q1 := s30 _ _ q1
          replace h2 := A2.mono s30 h2
          replace q2 := s30 _ _ q2
          replace q4 := s30 _ _ q4
          replace r4 := Rep.mono s30 r4
          replace h4 := A2.mono s30 h4
          replace qb4 := s30 _ _ qb4
          replace h10 := A2.mono s30 h10
          replace q10 := s30 _ _ q10
          replace sF := sF.trans s30
          obtain ⟨T32, z32, u32, rfl, n32, rfl, r32a, r32b⟩ := y30
          obtain ⟨F32, s32, w32, q32⟩ := w30.frzE (o := .tup [z32, u32]) n32
          replace r32a := Rep.mono s30 r32a
          replace r32b := Rep.mono s30 r32b
          replace h1 := A2.mono s32 h1
          replace q1 := s32 _ _ q1
          replace h2 := A2.mono s32 h2
          replace q2 := s32 _ _ q2
          replace q4 := s32 _ _ q4
          replace r4 := Rep.mono s32 r4
          replace h4 := A2.mono s32 h4
          replace qb4 := s32 _ _ qb4
          replace h10 := A2.mono s32 h10
          replace q10 := s32 _ _ q10
          replace sF := sF.trans s32
          replace r32a := Rep.mono s32 r32a
          replace r32b := Rep.mono s32 r32b
          obtain ⟨a33, u33, z33, rfl, q33, r33a, r33b⟩ := r32a
          obtain rfl : u33 = V.int b30.1.1 := r33a
          obtain ⟨a34, vs34, rfl, q34, h34⟩ := r33b
          obtain ⟨a35, u35, z35, rfl, q35, r35a, r35b⟩ := r32b
          obtain rfl : u35 = V.int b30.2.1 := r35a
          have r36 : rep K F32 z35 (b30.2.2 : Pl) := r35b
          obtain ⟨a36, u36, t36, rfl, q36, o36, l36⟩ := pl_openN r36
          refine ⟨_, _, rfl, SqT.of (w32.same _ _ q32), rfl, _, _, rfl, _, _, rfl, SqT.of (w32.same _ _ q33), rfl, _, _, rfl, _, _, rfl, rfl, _, _, rfl, _, _, rfl, SqT.of (w32.same _ _ q35), rfl, _, _, rfl, _, _, rfl, rfl, rfl, rfl, _, rfl, _, rfl, _, rfl, _, _, _, (x_fars : (List (List Int))), _, (b30.1.2 : (Tup Thing)), _, (b30.2.2 : Pl), rfl, w32, (rep_lst q1 h1), (rep_tup q34 h34), r36, ?_⟩
          refine (post_bind hm).mono (fun y37 hm v37 F37 H37 w37 s37 r37 => ?_) (fun _ z => z)
          replace h1 := A2.mono s37 h1
          replace q1 := s37 _ _ q1
          replace h2 := A2.mono s37 h2
          replace q2 := s37 _ _ q2
          replace q4 := s37 _ _ q4
          replace r4 := Rep.mono s37 r4
          replace h4 := A2.mono s37 h4
          replace qb4 := s37 _ _ qb4
          replace h10 := A2.mono s37 h10
          replace q10 := s37 _ _ q10
          replace q32 := s37 _ _ q32
          replace q33 := s37 _ _ q33
          replace q34 := s37 _ _ q34
          replace h34 := A2.mono s37 h34
          replace q35 := s37 _ _ q35
          replace q36 := s37 _ _ q36
          replace r36 := Rep.mono s37 r36
          replace o36 := Rep.mono s37 o36
          replace sF := sF.trans s37
          exact hN30 _ (post_ok hm) _ _ _ w37 (s32.trans s37) r37
        intro us30 F30 H30 ys30 s30 w30 gg30 hm
        replace h1 := A2.mono s30 h1
        replace q1 := s30 _ _ q1
        replace h2 := A2.mono s30 h2
        replace q2 := s30 _ _ q2
        replace q4 := s30 _ _ q4
        replace r4 := Rep.mono s30 r4
        replace h4 := A2.mono s30 h4
        replace qb4 := s30 _ _ qb4
        replace h10 := A2.mono s30 h10
        replace q10 := s30 _ _ q10
        replace sF := sF.trans s30
        obtain ⟨F40, s40, w40, q40⟩ : ∃ F', Same F30 F' ∧ W F' _ (os) ∧ F' D30 = some (.lst us30) := w30.freezeE (pre := [])
        replace h1 := A2.mono s40 h1
        replace q1 := s40 _ _ q1
        replace h2 := A2.mono s40 h2
        replace q2 := s40 _ _ q2
        replace q4 := s40 _ _ q4
        replace r4 := Rep.mono s40 r4
        replace h4 := A2.mono s40 h4
        replace qb4 := s40 _ _ qb4
        replace h10 := A2.mono s40 h10
        replace q10 := s40 _ _ q10
        replace gg30 := A2.mono s40 gg30
        replace sF := sF.trans s40
        refine ⟨_, rfl, (none : (Option Int)), _, (Rep.mono w40.same rep_none), (Rep.mono w40.same (rep_lst q40 gg30)), _, rfl, ?_⟩
        refine post_ite hm (fun k41 hm => ?_) (fun k41 hm => ?_)
        · skip
          exact (post_ok hm) _ _ _ w40 sF rep_none
        · skip
          obtain ⟨l42, e42, hm⟩ := pb_allS hm
          have h42 : A2 (rep K F40) us30 l42 := A2.unsome (e42 ▸ gg30)
          obtain ⟨t43, e43, hm⟩ := pb_max hm
          exact ⟨_, rfl, _, _, _, rfl, ints_q (SqL.of (w40.same _ _ q40)) h42, e43, _, _, rfl, rfl, (post_ok hm) _ _ _ w40 sF (rep_some rep_i)⟩
theorem ok_asks_of (T : Tx K mg A FD) (d : Nat) : FnOk P w K mg base CX0 (3 + 2 * d) (A 27) (FD 27) ["fars", "things", "plan"] (sp_asks_of d K) := by
  induction d with
  | zero =>
    refine T.d27.fn.ok (k := 2) sc_asks_of (fun vs H Q E h => ?_) (fun cdv Ar outer s H vs Q E hr h => ?_)
    · obtain ⟨F, os, v_fars, x_fars, v_things, x_things, v_plan, x_plan, rfl, _⟩ := h
      rfl
    · obtain ⟨F0, os, v_fars, x_fars, v_things, x_things, v_plan, x_plan, rfl, w0, r_fars, r_things, r_plan, hm⟩ := h
      refine ⟨_, (pss_cons ps_absurd (pss_cons ps_absurd (pss_one ps_absurd))), ?_⟩
      exact hm
  | succ d ih =>
    refine T.d27.fn.ok (k := 3 + 2 * d + 1) sc_asks_of (fun vs H Q E h => ?_) (fun cdv Ar outer s H vs Q E hr h => ?_)
    · obtain ⟨F, os, v_fars, x_fars, v_things, x_things, v_plan, x_plan, rfl, _⟩ := h
      rfl
    · obtain ⟨F0, os, v_fars, x_fars, v_things, x_things, v_plan, x_plan, rfl, w0, r_fars, r_things, r_plan, hm⟩ := h
      rw [asks_of] at hm
      have sF : Same F0 F0 := Same.refl _
      obtain ⟨a1, vs1, rfl, q1, h1⟩ := r_fars
      obtain ⟨a2, vs2, rfl, q2, h2⟩ := r_things
      have r3 : rep K F0 v_plan (x_plan : Pl) := r_plan
      obtain ⟨a3, u3, t3, rfl, q3, o3, l3⟩ := pl_openN r3
      refine ⟨_, (pss_cons (ps_if (PW.pt (pw_and (pt_cmp (pc_eqI (pe_callB (call_lenN (K := K) rfl) (by rfl) T.n_len (by decide +kernel) (pa_cons (pv 2) pa_nil)) pe_int)) (pw_and1 (pt_cmpR op_eqS (pe_ix (ix_tupK (K := K) rfl) (pv 2) pe_int (fun _ _ => rfl)) pe_str (nomark _))))) (pss_one (ps_ret (pe_ix (ix_listK (K := K) rfl) (pe_lst (pa_cons pe_non (pa_cons pe_int pa_nil))) (pe_callTy call_intB (by rfl) T.n_int (by decide +kernel) (pa_cons (pe_cmpR (op_eqDt (K := K) rfl (Tup Thing) (by decide) hr.units) (pe_tup (pa_cons (pe_ix (ix_tupK (K := K) rfl) (pv 2) pe_int (fun _ _ => rfl)) pa_nil)) (pv 1) (nomark _)) pa_nil)) (fun _ _ => rfl)))) pss_nil) (pss_cons (ps_if (PW.pt (pw_and (pt_cmp (pc_eqI (pe_callB (call_lenN (K := K) rfl) (by rfl) T.n_len (by decide +kernel) (pa_cons (pv 2) pa_nil)) pe_int)) (pw_and1 (pt_cmpR op_eqS (pe_ix (ix_tupK (K := K) rfl) (pv 2) pe_int (fun _ _ => rfl)) pe_str (nomark _))))) (pss_one (ps_ret (pe_call (ok_plan_of_parts T d ih) (hr.mono (by first | decide | omega)) (by rfl) T.d26.mg T.d26.fn.kp T.d26.b .nil pass0 (pa_cons (pv 0) (pa_cons (pv 1) (pa_cons (pv 2) pa_nil)))))) pss_nil) (pss_one (ps_ret pe_non)))), ?_⟩
      try dsimp only
      refine stepSeq (stepIf ?_)
      refine joinT hm (fun (j4 : Bool) c H' => c = j4 ∧ ∃ (F' : Hp), Same F0 F' ∧ W F' H' (os)) ?_ ?_
      · intro Q4 P4 q4 hm
        refine ⟨_, rfl, _, _, _, rfl, .inr (SqT.of (w0.same _ _ q3)), l3, _, _, rfl, rfl, _, rfl, ?_⟩
        refine post_ite hm (fun k5 hm => ?_) (fun k5 hm => ?_)
        · skip
          exact ⟨_, rfl, _, _, _, _, rfl, rfl, SqT.of (w0.same _ _ q3), at_0, _, _, rfl, rfl, _, rfl, q4 _ (post_ok hm) _ _ ⟨rfl, _, Same.refl _, w0⟩⟩
        · skip
          exact q4 _ (post_ok hm) _ _ ⟨rfl, _, Same.refl _, w0⟩
      intro j4 c4 H4 hc4 hm
      obtain ⟨rfl, F4, s4, w4⟩ := hc4
      replace q1 := s4 _ _ q1
      replace h1 := A2.mono s4 h1
      replace q2 := s4 _ _ q2
      replace h2 := A2.mono s4 h2
      replace q3 := s4 _ _ q3
      replace r3 := Rep.mono s4 r3
      replace o3 := Rep.mono s4 o3
      replace sF := sF.trans s4
      refine post_ite hm (fun k8 hm => ?_) (fun k8 hm => ?_)
      · skip
        obtain ⟨t9, e9, hm⟩ := pb_asIs hm
        have o9 : rep K F4 u3 t9 := (show (x_plan).one = t9 from by rw [e9]; rfl) ▸ o3
        have h10 : A2 (rep K F4) [.non, (.int 0)] ([none, (some (0 : Int))] : (List (Option Int))) := .cons rep_none (.cons (rep_some rep_i) (.nil))
        refine ⟨(by show 2 ≤ sizeLine; decide), fun p11 n11 => ?_⟩
        have w11 : W F4 _ ((p11, .lst [.non, (.int 0)]) :: os) := w4.new n11
        have h12 : A2 (rep K F4) [u3] (Tup.mk [t9] : (Tup Thing)).l := .cons o9 (.nil)
        refine ⟨_, rfl, _, _, _, _, rfl, rfl, SqT.of (w11.same _ _ q3), at_1, (by show 1 ≤ sizeLine; decide), fun p13 n13 => ?_⟩
        obtain ⟨F13, s13, w13, q13⟩ := w11.frzE (o := .tup [u3]) n13
        replace q1 := s13 _ _ q1
        replace h1 := A2.mono s13 h1
        replace q2 := s13 _ _ q2
        replace h2 := A2.mono s13 h2
        replace q3 := s13 _ _ q3
        replace r3 := Rep.mono s13 r3
        replace o3 := Rep.mono s13 o3
        replace o9 := Rep.mono s13 o9
        replace h10 := A2.mono s13 h10
        replace h12 := A2.mono s13 h12
        replace sF := sF.trans s13
        obtain ⟨t14, e14, hm⟩ := pb_get hm
        obtain ⟨u14, f14, r14⟩ := A2.at h10 e14
        have w16 : W F13 _ (os) := w13.drop (pre := [])
        exact ⟨_, rfl, ((Tup.mk [t9] : (Tup Thing)) : (Tup Thing)), (x_things : (Tup Thing)), (Rep.mono w13.same (rep_tup q13 h12)), (Rep.mono w13.same (rep_tup q2 h2)), _, rfl, _, _, _, _, rfl, rfl, SqL.of (w13.get (pre := [])), f14, (post_ok hm) _ _ _ w16 sF r14⟩
      · skip
        refine stepX ?_
        try dsimp only
        refine stepSeq (stepIf ?_)
        refine joinT hm (fun (j17 : Bool) c H' => c = j17 ∧ ∃ (F' : Hp), Same F4 F' ∧ W F' H' (os)) ?_ ?_
        · intro Q17 P17 q17 hm
          refine ⟨_, rfl, _, _, _, rfl, .inr (SqT.of (w4.same _ _ q3)), l3, _, _, rfl, rfl, _, rfl, ?_⟩
          refine post_ite hm (fun k18 hm => ?_) (fun k18 hm => ?_)
          · skip
            exact ⟨_, rfl, _, _, _, _, rfl, rfl, SqT.of (w4.same _ _ q3), at_0, _, _, rfl, rfl, _, rfl, q17 _ (post_ok hm) _ _ ⟨rfl, _, Same.refl _, w4⟩⟩
          · skip
            exact q17 _ (post_ok hm) _ _ ⟨rfl, _, Same.refl _, w4⟩
        intro j17 c17 H17 hc17 hm
        obtain ⟨rfl, F17, s17, w17⟩ := hc17
        replace q1 := s17 _ _ q1
        replace h1 := A2.mono s17 h1
        replace q2 := s17 _ _ q2
        replace h2 := A2.mono s17 h2
        replace q3 := s17 _ _ q3
        replace r3 := Rep.mono s17 r3
        replace o3 := Rep.mono s17 o3
        replace sF := sF.trans s17
        refine post_ite hm (fun k21 hm => ?_) (fun k21 hm => ?_)
        · skip
          obtain ⟨i22, l22, e22, hm⟩ := pb_asAsk hm
          have r22 : rep K F17 (.ref a3) (Pl.ask i22 l22) := e22 ▸ r3
          obtain ⟨p22, b22, vs22, z22, q22, qb22, h22⟩ := ask_open r22
          have z22 : a3 = p22 := V.ref.inj z22
          subst z22
          refine ⟨_, rfl, _, rfl, _, rfl, _, _, _, (x_fars : (List (List Int))), _, (x_things : (Tup Thing)), _, ((Pl.ask i22 l22) : Pl), rfl, w17, (rep_lst q1 h1), (rep_tup q2 h2), r22, ?_⟩
          refine (post_bind hm).mono (fun y23 hm v23 F23 H23 w23 s23 r23 => ?_) (fun _ z => z)
          replace q1 := s23 _ _ q1
          replace h1 := A2.mono s23 h1
          replace q2 := s23 _ _ q2
          replace h2 := A2.mono s23 h2
          replace q3 := s23 _ _ q3
          replace r3 := Rep.mono s23 r3
          replace o3 := Rep.mono s23 o3
          replace r22 := Rep.mono s23 r22
          replace q22 := s23 _ _ q22
          replace qb22 := s23 _ _ qb22
          replace h22 := A2.mono s23 h22
          replace sF := sF.trans s23
          exact (post_ok hm) _ _ _ w23 sF r23
        · skip
          exact (post_ok hm) _ _ _ w17 sF rep_none
def sp_plan_asks (K : Fg) : Sp := fun vs H Q E => ∃ (F : Hp) (os : List (Addr × HO)) (v_web : V) (x_web : (Int × (Tup (Int × Int)))) (x_kind : Str) (v_plan : V) (x_plan : Pl), vs = [v_web, .str x_kind, v_plan] ∧ W F H (os) ∧ rep K F v_web x_web ∧ rep K F v_plan x_plan ∧ Post (plan_asks x_web x_kind x_plan) (Ret K F os Q) noX
theorem sc_plan_asks : FnScope ["web", "kind", "plan", "things"] ["web", "kind", "plan"] (defScope s_plan_asks) := ⟨rfl, rfl, rfl, by decide +kernel, rfl, by decide +kernel, by decide +kernel⟩
theorem ok_plan_asks (T : Tx K mg A FD) : FnOk P w K mg base CX0 44 (A 28) (FD 28) ["web", "kind", "plan"] (sp_plan_asks K) := by
  refine T.d28.fn.ok sc_plan_asks (fun vs H Q E h => ?_) (fun cdv Ar outer s H vs Q E hr h => ?_)
  · obtain ⟨F, os, v_web, x_web, x_kind, v_plan, x_plan, rfl, _⟩ := h
    rfl
  · obtain ⟨F0, os, v_web, x_web, x_kind, v_plan, x_plan, rfl, w0, r_web, r_plan, hm⟩ := h
    have sF : Same F0 F0 := Same.refl _
    obtain ⟨a1, u1, z1, rfl, q1, r1a, r1b⟩ := r_web
    obtain rfl : u1 = V.int x_web.1 := r1a
    obtain ⟨a2, vs2, rfl, q2, h2⟩ := r1b
    have r3 : rep K F0 v_plan (x_plan : Pl) := r_plan
    obtain ⟨a3, u3, t3, rfl, q3, o3, l3⟩ := pl_openN r3
    refine ⟨_, (pss_cons (ps_set (i := 3) sc_plan_asks.nd rfl (Or.inl rfl) (pe_callTy (call_tuple_ofK (K := K) rfl) (by rfl) T.n_tuple (by decide +kernel) (pa_cons (pe_call (ok_few_things T) (hr.mono (by decide)) (by rfl) T.d19.mg T.d19.fn.kp T.d19.b .nil pass0 (pa_cons (pv 0) (pa_cons (pv 1) pa_nil))) pa_nil))) (pss_one (ps_ret (pe_call (ok_asks_of T 20) (hr.mono (by first | decide | omega)) (by rfl) T.d27.mg T.d27.fn.kp T.d27.b .nil pass0 (pa_cons (pe_call (ok_all_fars T) (hr.mono (by decide)) (by rfl) T.d20.mg T.d20.fn.kp T.d20.b .nil pass0 (pa_cons (pv 0) pa_nil)) (pa_cons (pv 3) (pa_cons (pv 2) pa_nil))))))), ?_⟩
    refine ⟨_, rfl, _, rfl, _, _, _, (x_web : (Int × (Tup (Int × Int)))), _, rfl, w0, (rep_pair q1 rep_i (rep_tup q2 h2)), ?_⟩
    refine (post_bind hm).mono (fun y4 hm v4 F4 H4 w4 s4 r4 => ?_) (fun _ z => z)
    replace q1 := s4 _ _ q1
    replace q2 := s4 _ _ q2
    replace h2 := A2.mono s4 h2
    replace q3 := s4 _ _ q3
    replace r3 := Rep.mono s4 r3
    replace o3 := Rep.mono s4 o3
    replace sF := sF.trans s4
    obtain ⟨a5, vs5, rfl, q5, h5⟩ := r4
    have h6 : A2 (rep K F4) vs5 y4 := h5
    refine ⟨_, _, rfl, .inl ⟨SqL.of (w4.same _ _ q5), fun p7 n7 => ?_⟩⟩
    obtain ⟨F7, s7, w7, q7⟩ := w4.frzE (o := .tup vs5) n7
    replace q1 := s7 _ _ q1
    replace q2 := s7 _ _ q2
    replace h2 := A2.mono s7 h2
    replace q3 := s7 _ _ q3
    replace r3 := Rep.mono s7 r3
    replace o3 := Rep.mono s7 o3
    replace q5 := s7 _ _ q5
    replace h5 := A2.mono s7 h5
    replace h6 := A2.mono s7 h6
    replace sF := sF.trans s7
    refine ⟨_, rfl, _, _, _, (x_web : (Int × (Tup (Int × Int)))), rfl, w7, (rep_pair q1 rep_i (rep_tup q2 h2)), ?_⟩
    refine (post_bind hm).mono (fun y8 hm v8 F8 H8 w8 s8 r8 => ?_) (fun _ z => z)
    replace q1 := s8 _ _ q1
    replace h2 := A2.mono s8 h2
    replace q2 := s8 _ _ q2
    replace q3 := s8 _ _ q3
    replace r3 := Rep.mono s8 r3
    replace o3 := Rep.mono s8 o3
    replace h6 := A2.mono s8 h6
    replace q7 := s8 _ _ q7
    replace sF := sF.trans s8
    obtain ⟨a9, vs9, rfl, q9, h9⟩ := r8
    refine ⟨_, rfl, _, rfl, _, _, _, (y8 : (List (List Int))), _, ((Tup.mk y4) : (Tup Thing)), _, (x_plan : Pl), rfl, w8, (rep_lst q9 h9), (rep_tup q7 h6), r3, ?_⟩
    refine (post_bind hm).mono (fun y10 hm v10 F10 H10 w10 s10 r10 => ?_) (fun _ z => z)
    replace q1 := s10 _ _ q1
    replace h2 := A2.mono s10 h2
    replace q2 := s10 _ _ q2
    replace q3 := s10 _ _ q3
    replace r3 := Rep.mono s10 r3
    replace o3 := Rep.mono s10 o3
    replace h6 := A2.mono s10 h6
    replace q7 := s10 _ _ q7
    replace q9 := s10 _ _ q9
    replace h9 := A2.mono s10 h9
    replace sF := sF.trans s10
    exact (post_ok hm) _ _ _ w10 sF r10
def sp_is_row_shown (K : Fg) : Sp := fun vs H Q E => ∃ (F : Hp) (os : List (Addr × HO)) (v_fars : V) (x_fars : (List (List Int))) (v_known : V) (x_known : (FzN Int)) (v_some : V) (x_some : (Tup Thing)), vs = [v_fars, v_known, v_some] ∧ W F H (os) ∧ rep K F v_fars x_fars ∧ rep K F v_known x_known ∧ rep K F v_some x_some ∧ Post (is_row_shown x_fars x_known x_some) (Ret K F os Q) noX
theorem sc_is_row_shown : FnScope ["fars", "known", "some", "least", "place", "answer", "part"] ["fars", "known", "some"] (defScope s_is_row_shown) := ⟨rfl, rfl, rfl, by decide +kernel, rfl, by decide +kernel, by decide +kernel⟩
theorem ok_is_row_shown (T : Tx K mg A FD) : FnOk P w K mg base CX0 3 (A 29) (FD 29) ["fars", "known", "some"] (sp_is_row_shown K) := by
  refine T.d29.fn.ok sc_is_row_shown (fun vs H Q E h => ?_) (fun cdv Ar outer s H vs Q E hr h => ?_)
  · obtain ⟨F, os, v_fars, x_fars, v_known, x_known, v_some, x_some, rfl, _⟩ := h
    rfl
  · obtain ⟨F0, os, v_fars, x_fars, v_known, x_known, v_some, x_some, rfl, w0, r_fars, r_known, r_some, hm⟩ := h
    have sF : Same F0 F0 := Same.refl _
    obtain ⟨a1, vs1, rfl, q1, h1⟩ := r_fars
    obtain ⟨a2, od2, us2, rfl, q2, h2⟩ := r_known
    obtain ⟨a3, vs3, rfl, q3, h3⟩ := r_some
    refine ⟨_, (pss_cons (ps_set (i := 3) sc_is_row_shown.nd rfl (Or.inr rfl) (pe_dgetN hr.units (pv 1) (pv 2) (fun _ _ => rfl))) (pss_cons (ps_if (PW.pt (pw_or (pt_cmp (pc_eqI (pv 3) pe_int)) (pw_or1 (PW.pt (pw_and (pt_cmp (pc_gt (pe_callB (call_lenN (K := K) rfl) (by rfl) T.n_len (by decide +kernel) (pa_cons (pv 2) pa_nil)) pe_int)) (pw_and1 (pt_cmp (pc_eqI (pv 3) pe_int)))))))) (pss_one (ps_ret pe_bl)) pss_nil) (pss_cons (ps_if (PW.pt (pw_or (pt_cmp (pc_lt (pe_callB (call_lenN (K := K) rfl) (by rfl) T.n_len (by decide +kernel) (pa_cons (pv 2) pa_nil)) pe_int)) (pw_or1 (pt_cmp (pc_lt (pv 3) pe_int))))) (pss_one (ps_ret pe_bl)) pss_nil) (pss_cons (ps_for PassesOwn.never rfl (pi_range1 (by rfl) T.n_range (pa_cons (pe_callB (call_lenN (K := K) rfl) (by rfl) T.n_len (by decide +kernel) (pa_cons (pv 0) pa_nil)) pa_nil)) (pg_name (i := 4) sc_is_row_shown.nd rfl (Or.inl rfl)) (pss_one (ps_if (pt_not (pt_val (pe_callB (cr_anyK (K := K) rfl rfl) (by rfl) T.n_any (by decide +kernel) (pa_cons (pe_lc (own := [("answer", 5), ("part", 6)]) (g := _) (by rfl) sc_is_row_shown.nd (pi_listK (K := K) rfl (pe_call (ok_parts_by T) (hr.mono (by decide)) (by rfl) T.d22.mg T.d22.fn.kp T.d22.b .nil pass0 (pa_cons (pv 0) (pa_cons (pv 2) (pa_cons (pv 4) pa_nil))))) (blkOk_by (own := [("answer", 5), ("part", 6)]) (N := ["fars", "known", "some", "least", "place", "answer", "part"]) (sc := defScope s_is_row_shown) (by decide +kernel)) (fun _ _ _ _ _ => (pg_k (K := K) (t := fun K => gTup K 2 _) rfl (pg_tup (n := 2) rfl (pgs_cons (pg_name (i := 5) sc_is_row_shown.nd rfl (Or.inl rfl)) (pgs_cons (pg_name (i := 6) sc_is_row_shown.nd rfl (Or.inl rfl)) pgs_nil))))) (fun _ _ _ _ _ => pts_nil) (fun _ _ _ _ _ => (pe_cmp (pc_ge (pe_dget2N hr.units (pv 1) (pv 6) pe_int ⟨rfl, rfl, rfl, rfl⟩) (pe_op op_sub (pv 3) pe_int))))) pa_nil)))) (pss_one (ps_ret pe_bl)) pss_nil))) (pss_one (ps_ret pe_bl)))))), ?_⟩
    obtain ⟨t4, e4, hm⟩ := pb_mget hm
    obtain ⟨u4, f4, r4⟩ := ADN.some h2 e4
    obtain rfl : u4 = V.int t4 := r4
    refine ⟨_, rfl, _, rfl, _, _, rfl, dgetsN (.inr ⟨_, (w0.same _ _ q2)⟩) w0.same h2 (rep_tup q3 h3) f4, ?_⟩
    refine stepN ?_
    try dsimp only
    refine stepSeq (stepIf ?_)
    refine cutT (fun c H' => c = (((decide (t4 = (0 : Int))) || ((decide ((1 : Int) < (x_some.l.length : Int))) && (decide (t4 = (1 : Int)))))) ∧ ∃ F', Same F0 F' ∧ W F' H' (os)) (fun Q5 q5 => ?_) (fun c5 H5 hc5 => ?_)
    · -- the ways
      refine ⟨_, rfl, _, _, rfl, rfl, _, rfl, ?_⟩
      refine ifB (fun k6 => ?_) (fun k6 => ?_)
      · skip
        exact q5 _ _ ⟨(by first | rfl | exact absurd k6 (by decide) | (simp [k6]; done) | ((try simp only [Bool.not_eq_true] at k6); simp only [k6, Bool.true_or, Bool.false_or, Bool.or_false, Bool.or_true, Bool.true_and, Bool.false_and, Bool.and_true, Bool.and_false])), _, Same.refl _, w0⟩
      · skip
        refine cutT (fun c H' => c = (((decide ((1 : Int) < (x_some.l.length : Int))) && (decide (t4 = (1 : Int))))) ∧ ∃ F', Same F0 F' ∧ W F' H' (os)) (fun Q8 q8 => ?_) (fun c8 H8 hc8 => ?_)
        · -- the ways
          refine ⟨_, rfl, _, _, _, rfl, .inr (SqT.of (w0.same _ _ q3)), h3.length, _, _, rfl, rfl, _, rfl, ?_⟩
          refine ifB (fun k9 => ?_) (fun k9 => ?_)
          · skip
            exact ⟨_, rfl, _, _, rfl, rfl, _, rfl, q8 _ _ ⟨(by first | rfl | exact absurd k9 (by decide) | (simp [k9]; done) | ((try simp only [Bool.not_eq_true] at k9); simp only [k9, Bool.true_or, Bool.false_or, Bool.or_false, Bool.or_true, Bool.true_and, Bool.false_and, Bool.and_true, Bool.and_false])), _, Same.refl _, w0⟩⟩
          · skip
            exact q8 _ _ ⟨(by first | rfl | exact absurd k9 (by decide) | (simp [k9]; done) | ((try simp only [Bool.not_eq_true] at k9); simp only [k9, Bool.true_or, Bool.false_or, Bool.or_false, Bool.or_true, Bool.true_and, Bool.false_and, Bool.and_true, Bool.and_false])), _, Same.refl _, w0⟩
        obtain ⟨rfl, F8, s8, w8⟩ := hc8
        replace h1 := A2.mono s8 h1
        replace q1 := s8 _ _ q1
        replace h2 := ADN.imp s8 (fun _ _ r => Rep.mono s8 r) h2
        replace q2 := s8 _ _ q2
        replace h3 := A2.mono s8 h3
        replace q3 := s8 _ _ q3
        replace sF := sF.trans s8
        exact q5 _ _ ⟨(by first | rfl | exact absurd k6 (by decide) | (simp [k6]; done) | ((try simp only [Bool.not_eq_true] at k6); simp only [k6, Bool.true_or, Bool.false_or, Bool.or_false, Bool.or_true, Bool.true_and, Bool.false_and, Bool.and_true, Bool.and_false])), _, s8, w8⟩
    obtain ⟨rfl, F5, s5, w5⟩ := hc5
    replace h1 := A2.mono s5 h1
    replace q1 := s5 _ _ q1
    replace h2 := ADN.imp s5 (fun _ _ r => Rep.mono s5 r) h2
    replace q2 := s5 _ _ q2
    replace h3 := A2.mono s5 h3
    replace q3 := s5 _ _ q3
    replace sF := sF.trans s5
    refine post_ite hm (fun k13 hm => ?_) (fun k13 hm => ?_)
    · skip
      exact (post_ok hm) _ _ _ w5 sF rep_b
    · skip
      refine stepX ?_
      try dsimp only
      refine stepSeq (stepIf ?_)
      refine cutT (fun c H' => c = (((decide ((x_some.l.length : Int) < (2 : Int))) || (decide (t4 < (0 : Int))))) ∧ ∃ F', Same F5 F' ∧ W F' H' (os)) (fun Q14 q14 => ?_) (fun c14 H14 hc14 => ?_)
      · -- the ways
        refine ⟨_, rfl, _, _, _, rfl, .inr (SqT.of (w5.same _ _ q3)), h3.length, _, _, rfl, rfl, _, rfl, ?_⟩
        refine ifB (fun k15 => ?_) (fun k15 => ?_)
        · skip
          exact q14 _ _ ⟨(by first | rfl | exact absurd k15 (by decide) | (simp [k15]; done) | ((try simp only [Bool.not_eq_true] at k15); simp only [k15, Bool.true_or, Bool.false_or, Bool.or_false, Bool.or_true, Bool.true_and, Bool.false_and, Bool.and_true, Bool.and_false])), _, Same.refl _, w5⟩
        · skip
          exact ⟨_, rfl, _, _, rfl, rfl, _, rfl, q14 _ _ ⟨(by first | rfl | exact absurd k15 (by decide) | (simp [k15]; done) | ((try simp only [Bool.not_eq_true] at k15); simp only [k15, Bool.true_or, Bool.false_or, Bool.or_false, Bool.or_true, Bool.true_and, Bool.false_and, Bool.and_true, Bool.and_false])), _, Same.refl _, w5⟩⟩
      obtain ⟨rfl, F14, s14, w14⟩ := hc14
      replace h1 := A2.mono s14 h1
      replace q1 := s14 _ _ q1
      replace h2 := ADN.imp s14 (fun _ _ r => Rep.mono s14 r) h2
      replace q2 := s14 _ _ q2
      replace h3 := A2.mono s14 h3
      replace q3 := s14 _ _ q3
      replace sF := sF.trans s14
      refine post_ite hm (fun k18 hm => ?_) (fun k18 hm => ?_)
      · skip
        exact (post_ok hm) _ _ _ w14 sF rep_b
      · skip
        obtain ⟨c20, hm⟩ := pb_rng hm
        refine ⟨_, rfl, _, _, _, rfl, .inl (SqL.of (w14.same _ _ q1)), h1.length, _, rfl, c20.2.2.1, c20.2.2.2, ?_⟩
        refine forX (tw_rng0 (j := (x_fars.length : Int))) hm (fun (g19 : Unit) σ H' => ∃ (F' : Hp) (o19_4 : Option V), σ = [some (.ref a1), some (.ref a2), some (.ref a3), some (.int t4), o19_4, none, none] ∧ Same F14 F' ∧ W F' H' (os)) ⟨_, _, rfl, Same.refl _, w14⟩ (fun _ _ _ _ => trivial) ?_ ?_
        · -- a turn
          intro b19 g19 x19 σ19 H19 H19' N19 B19 P19 hI hy hN19 hB19 hZ19 hm
          obtain ⟨F19, o19_4, rfl, s19, w19⟩ := hI
          replace h1 := A2.mono s19 h1
          replace q1 := s19 _ _ q1
          replace h2 := ADN.imp s19 (fun _ _ r => Rep.mono s19 r) h2
          replace q2 := s19 _ _ q2
          replace h3 := A2.mono s19 h3
          replace q3 := s19 _ _ q3
          replace sF := sF.trans s19
          obtain ⟨rfl, rfl⟩ := hy
          refine ⟨_, rfl, _, rfl, _, rfl, _, _, _, (x_fars : (List (List Int))), _, (x_some : (Tup Thing)), _, rfl, w19, (rep_lst q1 h1), (rep_tup q3 h3), ?_⟩
          refine (post_bind hm).mono (fun y21 hm v21 F21 H21 w21 s21 r21 => ?_) (fun _ z => z)
          replace h1 := A2.mono s21 h1
          replace q1 := s21 _ _ q1
          replace h2 := ADN.imp s21 (fun _ _ r => Rep.mono s21 r) h2
          replace q2 := s21 _ _ q2
          replace h3 := A2.mono s21 h3
          replace q3 := s21 _ _ q3
          replace sF := sF.trans s21
          obtain ⟨a22, vs22, rfl, q22, h22⟩ := r21
          refine ⟨_, rfl, ⟨_, SqL.of (w21.same _ _ q22)⟩, fun D23 nD23 => ?_⟩
          refine lcM (K := K) (tw_list (a := a22) h22) hm w21 nD23 (fun F' H' acc s w => SqL.of (w.same _ _ (s _ _ q22))) ?_ ?_
          · -- one turn
            intro b23 x23 F23 H23 H23' acc23 N23 P23 s23 w23 y23 hN23 hm
            replace h1 := A2.mono s23 h1
            replace q1 := s23 _ _ q1
            replace h2 := ADN.imp s23 (fun _ _ r => Rep.mono s23 r) h2
            replace q2 := s23 _ _ q2
            replace h3 := A2.mono s23 h3
            replace q3 := s23 _ _ q3
            replace q22 := s23 _ _ q22
            replace h22 := A2.mono s23 h22
            replace sF := sF.trans s23
            obtain ⟨rfl, r25⟩ := y23
            replace r25 := Rep.mono s23 r25
            obtain ⟨a26, u26, z26, rfl, q26, r26a, r26b⟩ := r25
            obtain rfl : u26 = V.int b23.1 := r26a
            obtain ⟨a27, vs27, rfl, q27, h27⟩ := r26b
            obtain ⟨u28, f28, r28⟩ := ADN.getD (t := b23.2) h2 rep_i
            obtain rfl : u28 = V.int ((mget x_known.m b23.2).getD (0 : Int)) := r28
            exact ⟨_, _, rfl, SqT.of (w23.same _ _ q26), rfl, _, _, rfl, _, _, rfl, rfl, rfl, _, rfl, _, rfl, ⟨_, (.inr ⟨_, (w23.same _ _ q2)⟩)⟩, _, rfl, _, _, dgetN (.inr ⟨_, (w23.same _ _ q2)⟩) w23.same h2 (rep_tup q27 h27), f28, _, rfl, _, _, rfl, rfl, _, _, rfl, rfl, hN23 _ (post_ok hm) _ _ _ w23 (Same.refl _) rep_b⟩
          intro us23 F23 H23 ys23 s23 w23 gg23 hm
          replace h1 := A2.mono s23 h1
          replace q1 := s23 _ _ q1
          replace h2 := ADN.imp s23 (fun _ _ r => Rep.mono s23 r) h2
          replace q2 := s23 _ _ q2
          replace h3 := A2.mono s23 h3
          replace q3 := s23 _ _ q3
          replace q22 := s23 _ _ q22
          replace h22 := A2.mono s23 h22
          replace sF := sF.trans s23
          refine ⟨_, _, rfl, bools_q (SqL.of (w23.get (pre := []))) gg23, _, rfl, ?_⟩
          have w30 : W F23 _ (os) := w23.drop (pre := [])
          refine post_ite hm (fun k31 hm => ?_) (fun k31 hm => ?_)
          · skip
            have hm := hZ19 _ (post_ok hm)
            exact (post_ok hm) _ _ _ w30 sF rep_b
          · skip
            exact hN19 _ (post_ok hm) _ _ ⟨_, _, rfl, (s19.trans (s21.trans s23)), w30⟩
        intro g19 σ19 H19 hI hm
        obtain ⟨F19, o19_4, rfl, s19, w19⟩ := hI
        replace h1 := A2.mono s19 h1
        replace q1 := s19 _ _ q1
        replace h2 := ADN.imp s19 (fun _ _ r => Rep.mono s19 r) h2
        replace q2 := s19 _ _ q2
        replace h3 := A2.mono s19 h3
        replace q3 := s19 _ _ q3
        replace sF := sF.trans s19
        exact (post_ok hm) _ _ _ w19 sF rep_b
def sp_table_shows (K : Fg) : Sp := fun vs H Q E => ∃ (F : Hp) (os : List (Addr × HO)) (v_web : V) (x_web : (Int × (Tup (Int × Int)))) (x_kind : Str) (x_asks : Int) (v_table : V) (x_table : (List ((Tup Thing) × Int))), vs = [v_web, .str x_kind, .int x_asks, v_table] ∧ W F H (os) ∧ rep K F v_web x_web ∧ rep K F v_table x_table ∧ Post (table_shows x_web x_kind x_asks x_table) (Ret K F os Q) noX
theorem sc_table_shows : FnScope ["web", "kind", "asks", "table", "things", "known", "some", "least", "fars", "thing"] ["web", "kind", "asks", "table"] (defScope s_table_shows) := ⟨rfl, rfl, rfl, by decide +kernel, rfl, by decide +kernel, by decide +kernel⟩
set_option maxHeartbeats 40000000 in
theorem ok_table_shows (T : Tx K mg A FD) : FnOk P w K mg base CX0 4 (A 30) (FD 30) ["web", "kind", "asks", "table"] (sp_table_shows K) := by
  refine T.d30.fn.ok sc_table_shows (fun vs H Q E h => ?_) (fun cdv Ar outer s H vs Q E hr h => ?_)
  · obtain ⟨F, os, v_web, x_web, x_kind, x_asks, v_table, x_table, rfl, _⟩ := h
    rfl
  · obtain ⟨F0, os, v_web, x_web, x_kind, x_asks, v_table, x_table, rfl, w0, r_web, r_table, hm⟩ := h
    have sF : Same F0 F0 := Same.refl _
    obtain ⟨a1, u1, z1, rfl, q1, r1a, r1b⟩ := r_web
    obtain rfl : u1 = V.int x_web.1 := r1a
    obtain ⟨a2, vs2, rfl, q2, h2⟩ := r1b
    obtain ⟨a3, vs3, rfl, q3, h3⟩ := r_table
    refine ⟨_, (pss_cons (ps_set (i := 4) sc_table_shows.nd rfl (Or.inl rfl) (pe_call (ok_few_things T) (hr.mono (by decide)) (by rfl) T.d19.mg T.d19.fn.kp T.d19.b .nil pass0 (pa_cons (pv 0) (pa_cons (pv 1) pa_nil)))) (pss_cons (ps_set (i := 5) sc_table_shows.nd rfl (Or.inr rfl) pe_dnewN) (pss_cons (ps_for PassesOwn.never rfl (pi_listK (K := K) rfl (pv 3)) (pg_k (K := K) (t := fun K => gTup K 2 _) rfl (pg_tup (n := 2) rfl (pgs_cons (pg_name (i := 6) sc_table_shows.nd rfl (Or.inr rfl)) (pgs_cons (pg_name (i := 7) sc_table_shows.nd rfl (Or.inl rfl)) pgs_nil)))) (pss_cons (ps_if (PW.pt (pw_or (pt_cmpR (op_eqE (K := K) rfl hr.units) (pv 6) (pe_tup pa_nil) (nomark _)) (pw_or (pt_cmp (pc_dinM hr.units (pv 6) (pv 5))) (pw_or1 (pt_cmpR (op_neDt (K := K) rfl (List Thing) (by decide) hr.units) (pe_callTy (call_list_ofK (K := K) rfl) (by rfl) T.n_list (by decide +kernel) (pa_cons (pv 6) pa_nil)) (pe_lc (own := [("thing", 9)]) (g := gName 9) (by rfl) sc_table_shows.nd (pi_listK (K := K) rfl (pv 4)) (blkOk_by (own := [("thing", 9)]) (N := ["web", "kind", "asks", "table", "things", "known", "some", "least", "fars", "thing"]) (sc := defScope s_table_shows) (by decide +kernel)) (fun _ _ _ _ _ => (pg_name (i := 9) sc_table_shows.nd rfl (Or.inl rfl))) (fun _ _ _ _ _ => (pts_one (pt_cmpR (op_inT (K := K) rfl Thing (by decide) (Room.units65 hr)) (pv 9) (pv 6) (by rfl)))) (fun _ _ _ _ _ => (pv 9))) (nomark _)))))) (pss_one (ps_ret pe_bl)) pss_nil) (pss_one (ps_dputN hr.units (pv 5) (pv 6) (pv 7) (by rfl))))) (pss_cons (ps_if (PW.pt (pw_or (pt_cmp (pc_dnotinM hr.units (pe_callTy (call_tuple_ofK (K := K) rfl) (by rfl) T.n_tuple (by decide +kernel) (pa_cons (pv 4) pa_nil)) (pv 5))) (pw_or1 (pt_cmp (pc_lt (pe_dgetN hr.units (pv 5) (pe_callTy (call_tuple_ofK (K := K) rfl) (by rfl) T.n_tuple (by decide +kernel) (pa_cons (pv 4) pa_nil)) (fun _ _ => rfl)) (pv 2)))))) (pss_one (ps_ret pe_bl)) pss_nil) (pss_cons (ps_lockN (ps_set (i := 8) sc_table_shows.nd rfl (Or.inr rfl) (pe_call (ok_all_fars T) (hr.mono (by decide)) (by rfl) T.d20.mg T.d20.fn.kp T.d20.b .nil pass0 (pa_cons (pv 0) pa_nil)))) (pss_one (ps_ret (pe_callB (cr_allK (K := K) rfl rfl) (by rfl) T.n_all (by decide +kernel) (pa_cons (pe_lc (own := [("some", 6)]) (g := gName 6) (by rfl) sc_table_shows.nd (pi_keysN (pv 5)) (blkOk_by (own := [("some", 6)]) (N := ["web", "kind", "asks", "table", "things", "known", "some", "least", "fars", "thing"]) (sc := defScope s_table_shows) (by decide +kernel)) (fun _ _ _ _ _ => (pg_name (i := 6) sc_table_shows.nd rfl (Or.inl rfl))) (fun _ _ _ _ _ => pts_nil) (fun _ _ _ _ _ => (pe_call (ok_is_row_shown T) (hr.mono (by decide)) (by rfl) T.d29.mg T.d29.fn.kp T.d29.b .nil pass0 (pa_cons (pv 8) (pa_cons (pv 5) (pa_cons (pv 6) pa_nil)))))) pa_nil))))))))), ?_⟩
    refine ⟨_, rfl, _, rfl, _, _, _, (x_web : (Int × (Tup (Int × Int)))), _, rfl, w0, (rep_pair q1 rep_i (rep_tup q2 h2)), ?_⟩
    refine (post_bind hm).mono (fun y4 hm v4 F4 H4 w4 s4 r4 => ?_) (fun _ z => z)
    replace q1 := s4 _ _ q1
    replace q2 := s4 _ _ q2
    replace h2 := A2.mono s4 h2
    replace q3 := s4 _ _ q3
    replace h3 := A2.mono s4 h3
    replace sF := sF.trans s4
    obtain ⟨a5, vs5, rfl, q5, h5⟩ := r4
    refine fun p6 n6 => ?_
    have w6 : W F4 _ ((p6, DnO p6 []) :: os) := w4.new n6
    have h6 : ADN K F4 (rep K F4) [] ([] : (List ((Tup Thing) × Int))) := .nil
    refine ⟨_, rfl, _, rfl, ⟨_, SqL.of (w6.same _ _ q3)⟩, ?_⟩
    refine forX (tw_list (a := a3) h3) hm (fun (g7 : (List ((Tup Thing) × Int))) σ H' => ∃ (F' : Hp) (vs7_0 : List Ent) (o7_6 : Option V) (o7_7 : Option V), σ = [some (.ref a1), some (.str x_kind), some (.int x_asks), some (.ref a3), some (.ref a5), some (.ref p6), o7_6, o7_7, none, none] ∧ Same F4 F' ∧ W F' H' ((p6, DnO p6 vs7_0) :: os) ∧ ADN K F' (rep K F') vs7_0 g7) ⟨_, _, _, _, rfl, Same.refl _, w6, h6⟩ (fun g σ H' hI => by obtain ⟨F', _, _, _, _, s, w, _⟩ := hI; exact SqL.of (w.same _ _ (s _ _ q3))) ?_ ?_
    · -- a turn
      intro b7 g7 x7 σ7 H7 H7' N7 B7 P7 hI hy hN7 hB7 hZ7 hm
      obtain ⟨F7, vs7_0, o7_6, o7_7, rfl, s7, w7, h7_0⟩ := hI
      replace q1 := s7 _ _ q1
      replace h2 := A2.mono s7 h2
      replace q2 := s7 _ _ q2
      replace h3 := A2.mono s7 h3
      replace q3 := s7 _ _ q3
      replace h5 := A2.mono s7 h5
      replace q5 := s7 _ _ q5
      replace sF := sF.trans s7
      obtain ⟨rfl, r8⟩ := hy
      replace r8 := Rep.mono s7 r8
      obtain ⟨a9, u9, z9, rfl, q9, r9a, r9b⟩ := r8
      obtain ⟨a10, vs10, rfl, q10, h10⟩ := r9a
      obtain rfl : z9 = V.int b7.2 := r9b
      refine ⟨_, _, rfl, SqT.of (w7.same _ _ q9), rfl, _, _, rfl, _, _, rfl, rfl, ?_⟩
      try dsimp only
      refine stepSeq (stepIf ?_)
      refine joinT hm (fun (j11 : Bool) c H' => c = j11 ∧ ∃ (F' : Hp), Same F7 F' ∧ W F' H' ((p6, DnO p6 vs7_0) :: os)) ?_ ?_
      · intro Q11 P11 q11 hm
        have h12 : A2 (rep K F7) [] (Tup.mk [] : (Tup Thing)).l := .nil
        refine ⟨_, rfl, (by show 0 ≤ sizeLine; decide), fun p13 n13 => ?_⟩
        obtain ⟨F13, s13, w13, q13⟩ := w7.frzE (o := .tup []) n13
        replace q1 := s13 _ _ q1
        replace h2 := A2.mono s13 h2
        replace q2 := s13 _ _ q2
        replace h3 := A2.mono s13 h3
        replace q3 := s13 _ _ q3
        replace h5 := A2.mono s13 h5
        replace q5 := s13 _ _ q5
        replace h10 := A2.mono s13 h10
        replace q10 := s13 _ _ q10
        replace h7_0 := ADN.imp s13 (fun _ _ r => Rep.mono s13 r) h7_0
        replace h12 := A2.mono s13 h12
        replace sF := sF.trans s13
        refine ⟨_, _, _, b7.1.l.isEmpty, rfl, rfl, SqT.of (w13.same _ _ q10), SqT.of (w13.same _ _ q13), A2.emp h10, _, rfl, ?_⟩
        refine post_ite hm (fun k14 hm => ?_) (fun k14 hm => ?_)
        · skip
          exact q11 _ (post_ok hm) _ _ ⟨rfl, _, s13, w13⟩
        · skip
          refine ⟨_, rfl, _, rfl, _, _, _, rfl, dgetN (.inl (w13.get (pre := []))) w13.same h7_0 (rep_tup q10 h10), ADN.has h7_0 _, _, rfl, ?_⟩
          refine post_ite hm (fun k16 hm => ?_) (fun k16 hm => ?_)
          · skip
            exact q11 _ (post_ok hm) _ _ ⟨rfl, _, s13, w13⟩
          · skip
            have h18 : A2 (rep K F13) vs10 b7.1.l := h10
            refine ⟨_, rfl, _, _, rfl, .inr (SqT.of (w13.same _ _ q10)), fun p19 n19 => ?_⟩
            have w19 : W F13 _ ((p19, .lst vs10) :: (p6, DnO p6 vs7_0) :: os) := w13.new n19
            refine ⟨_, rfl, _, rfl, ⟨_, SqL.of (w19.same _ _ q5)⟩, fun D20 nD20 => ?_⟩
            refine lcF (K := K) (tw_list (a := a5) h5) hm w19 nD20 (fun F' H' acc s w => SqL.of (w.same _ _ (s _ _ q5))) ?_ ?_
            · -- one turn
              intro b20 x20 F20 H20 H20' acc20 N20 M20 P20 s20 w20 y20 hN20 hM20 hm
              replace q1 := s20 _ _ q1
              replace h2 := A2.mono s20 h2
              replace q2 := s20 _ _ q2
              replace h3 := A2.mono s20 h3
              replace q3 := s20 _ _ q3
              replace h5 := A2.mono s20 h5
              replace q5 := s20 _ _ q5
              replace h10 := A2.mono s20 h10
              replace q10 := s20 _ _ q10
              replace h7_0 := ADN.imp s20 (fun _ _ r => Rep.mono s20 r) h7_0
              replace h12 := A2.mono s20 h12
              replace q13 := s20 _ _ q13
              replace h18 := A2.mono s20 h18
              replace sF := sF.trans s20
              obtain ⟨rfl, r22⟩ := y20
              replace r22 := Rep.mono s20 r22
              refine ⟨rfl, _, rfl, _, rfl, (b20 : Thing), _, (Rep.mono w20.same r22), (Rep.mono w20.same (rep_tup q10 h10)), _, rfl, ?_⟩
              refine post_ite hm (fun k24 hm => ?_) (fun k24 hm => ?_)
              · skip
                exact ⟨_, rfl, hN20 _ (post_ok hm) _ _ _ w20 (Same.refl _) r22⟩
              · skip
                exact hM20 (post_ok hm) _ _ w20 (Same.refl _)
            intro us20 F20 H20 ys20 s20 w20 gg20 hm
            replace q1 := s20 _ _ q1
            replace h2 := A2.mono s20 h2
            replace q2 := s20 _ _ q2
            replace h3 := A2.mono s20 h3
            replace q3 := s20 _ _ q3
            replace h5 := A2.mono s20 h5
            replace q5 := s20 _ _ q5
            replace h10 := A2.mono s20 h10
            replace q10 := s20 _ _ q10
            replace h7_0 := ADN.imp s20 (fun _ _ r => Rep.mono s20 r) h7_0
            replace h12 := A2.mono s20 h12
            replace q13 := s20 _ _ q13
            replace h18 := A2.mono s20 h18
            replace sF := sF.trans s20
            have w27 : W F20 _ ((p19, .lst vs10) :: (p6, DnO p6 vs7_0) :: os) := w20.drop (pre := [])
            have w28 : W F20 _ ((p6, DnO p6 vs7_0) :: os) := w27.drop (pre := [])
            exact ⟨(b7.1.l : (List Thing)), (ys20 : (List Thing)), (rep_own (pre := [_]) w20 h18), (rep_own (pre := []) w20 gg20), _, rfl, q11 _ (post_ok hm) _ _ ⟨rfl, _, (s13.trans s20), w28⟩⟩
      intro j11 c11 H11 hc11 hm
      obtain ⟨rfl, F11, s11, w11⟩ := hc11
      replace q1 := s11 _ _ q1
      replace h2 := A2.mono s11 h2
      replace q2 := s11 _ _ q2
      replace h3 := A2.mono s11 h3
      replace q3 := s11 _ _ q3
      replace h5 := A2.mono s11 h5
      replace q5 := s11 _ _ q5
      replace h10 := A2.mono s11 h10
      replace q10 := s11 _ _ q10
      replace h7_0 := ADN.imp s11 (fun _ _ r => Rep.mono s11 r) h7_0
      replace sF := sF.trans s11
      refine post_ite hm (fun k29 hm => ?_) (fun k29 hm => ?_)
      · skip
        have hm := hZ7 _ (post_ok hm)
        have w30 : W F11 _ (os) := w11.drop (pre := [])
        exact (post_ok hm) _ _ _ w30 sF rep_b
      · skip
        obtain ⟨l31, z31, e31, hm⟩ := pn_mput hm
        refine ⟨_, rfl, _, rfl, _, rfl, _, _, rfl, dputN (v := (.int b7.2)) (w11.get (pre := [])) w11.same h7_0 (rep_tup q10 h10) z31, ?_⟩
        have h31 : ADN K F11 (rep K F11) (putN vs7_0 a10 b7.1 (.int b7.2)) l31 := e31 ▸ ADN.put h7_0 (rep_tup q10 h10) rep_i
        have w32 : W F11 _ ((p6, DnO p6 (putN vs7_0 a10 b7.1 (.int b7.2))) :: os) := w11.set (pre := [])
        exact hN7 _ (post_ok hm) _ _ ⟨_, _, _, _, rfl, (s7.trans s11), w32, h31⟩
    intro g7 σ7 H7 hI hm
    obtain ⟨F7, vs7_0, o7_6, o7_7, rfl, s7, w7, h7_0⟩ := hI
    replace q1 := s7 _ _ q1
    replace h2 := A2.mono s7 h2
    replace q2 := s7 _ _ q2
    replace h3 := A2.mono s7 h3
    replace q3 := s7 _ _ q3
    replace h5 := A2.mono s7 h5
    replace q5 := s7 _ _ q5
    replace sF := sF.trans s7
    try dsimp only
    refine stepSeq (stepIf ?_)
    refine joinT hm (fun (j33 : Bool) c H' => c = j33 ∧ ∃ (F' : Hp), Same F7 F' ∧ W F' H' ((p6, DnO p6 vs7_0) :: os)) ?_ ?_
    · intro Q33 P33 q33 hm
      have h34 : A2 (rep K F7) vs5 y4 := h5
      refine ⟨_, rfl, _, _, rfl, .inl ⟨SqL.of (w7.same _ _ q5), fun p35 n35 => ?_⟩⟩
      obtain ⟨F35, s35, w35, q35⟩ := w7.frzE (o := .tup vs5) n35
      replace q1 := s35 _ _ q1
      replace h2 := A2.mono s35 h2
      replace q2 := s35 _ _ q2
      replace h3 := A2.mono s35 h3
      replace q3 := s35 _ _ q3
      replace h5 := A2.mono s35 h5
      replace q5 := s35 _ _ q5
      replace h7_0 := ADN.imp s35 (fun _ _ r => Rep.mono s35 r) h7_0
      replace h34 := A2.mono s35 h34
      replace sF := sF.trans s35
      refine ⟨_, rfl, _, _, _, rfl, dgetN (.inl (w35.get (pre := []))) w35.same h7_0 (rep_tup q35 h34), ADN.has h7_0 _, _, rfl, ?_⟩
      refine post_ite hm (fun k36 hm => ?_) (fun k36 hm => ?_)
      · skip
        exact q33 _ (post_ok hm) _ _ ⟨rfl, _, s35, w35⟩
      · skip
        have h38 : A2 (rep K F35) vs5 y4 := h5
        refine ⟨_, rfl, _, rfl, _, _, rfl, .inl ⟨SqL.of (w35.same _ _ q5), fun p39 n39 => ?_⟩⟩
        obtain ⟨F39, s39, w39, q39⟩ := w35.frzE (o := .tup vs5) n39
        replace q1 := s39 _ _ q1
        replace h2 := A2.mono s39 h2
        replace q2 := s39 _ _ q2
        replace h3 := A2.mono s39 h3
        replace q3 := s39 _ _ q3
        replace h5 := A2.mono s39 h5
        replace q5 := s39 _ _ q5
        replace h7_0 := ADN.imp s39 (fun _ _ r => Rep.mono s39 r) h7_0
        replace h34 := A2.mono s39 h34
        replace q35 := s39 _ _ q35
        replace h38 := A2.mono s39 h38
        replace sF := sF.trans s39
        obtain ⟨t40, e40, hm⟩ := pb_mget hm
        obtain ⟨u40, f40, r40⟩ := ADN.some h7_0 e40
        obtain rfl : u40 = V.int t40 := r40
        exact ⟨_, _, rfl, dgetsN (.inl (w39.get (pre := []))) w39.same h7_0 (rep_tup q39 h38) f40, _, rfl, _, _, rfl, rfl, _, rfl, q33 _ (post_ok hm) _ _ ⟨rfl, _, (s35.trans s39), w39⟩⟩
    intro j33 c33 H33 hc33 hm
    obtain ⟨rfl, F33, s33, w33⟩ := hc33
    replace q1 := s33 _ _ q1
    replace h2 := A2.mono s33 h2
    replace q2 := s33 _ _ q2
    replace h3 := A2.mono s33 h3
    replace q3 := s33 _ _ q3
    replace h5 := A2.mono s33 h5
    replace q5 := s33 _ _ q5
    replace h7_0 := ADN.imp s33 (fun _ _ r => Rep.mono s33 r) h7_0
    replace sF := sF.trans s33
    refine post_ite hm (fun k42 hm => ?_) (fun k42 hm => ?_)
    · skip
      have w43 : W F33 _ (os) := w33.drop (pre := [])
      exact (post_ok hm) _ _ _ w43 sF rep_b
    · skip
      refine stepX ?_
      try dsimp only
      refine ⟨_, _, (w33.get (pre := [])), fun od44 => ?_⟩
      have w44a : W F33 _ ((p6, (.frz od44 (DnO p6 vs7_0))) :: os) := w33.set (pre := [])
      obtain ⟨F44, s44, w44, q44⟩ : ∃ F', Same F33 F' ∧ W F' _ (os) ∧ F' p6 = some (.frz od44 (DnO p6 vs7_0)) := w44a.freezeE (pre := [])
      replace q1 := s44 _ _ q1
      replace h2 := A2.mono s44 h2
      replace q2 := s44 _ _ q2
      replace h3 := A2.mono s44 h3
      replace q3 := s44 _ _ q3
      replace h5 := A2.mono s44 h5
      replace q5 := s44 _ _ q5
      replace h7_0 := ADN.imp s44 (fun _ _ r => Rep.mono s44 r) h7_0
      replace sF := sF.trans s44
      refine ⟨_, rfl, _, _, _, (x_web : (Int × (Tup (Int × Int)))), rfl, w44, (rep_pair q1 rep_i (rep_tup q2 h2)), ?_⟩
      refine (post_bind hm).mono (fun y45 hm v45 F45 H45 w45 s45 r45 => ?_) (fun _ z => z)
      replace q1 := s45 _ _ q1
      replace h2 := A2.mono s45 h2
      replace q2 := s45 _ _ q2
      replace h3 := A2.mono s45 h3
      replace q3 := s45 _ _ q3
      replace h5 := A2.mono s45 h5
      replace q5 := s45 _ _ q5
      replace h7_0 := ADN.imp s45 (fun _ _ r => Rep.mono s45 r) h7_0
      replace q44 := s45 _ _ q44
      replace sF := sF.trans s45
      obtain ⟨a46, vs46, rfl, q46, h46⟩ := r45
      refine ⟨_, rfl, _, _, _, rfl, (w45.same _ _ q44), fun D47 nD47 => ?_⟩
      refine lcM (K := K) (tw_keysN (d := p6) (o := od44) h7_0) hm w45 nD47 (fun F' H' acc s w => w.same _ _ (s _ _ q44)) ?_ ?_
      · -- one turn
        intro b47 x47 F47 H47 H47' acc47 N47 P47 s47 w47 y47 hN47 hm
        replace q1 := s47 _ _ q1
        replace h2 := A2.mono s47 h2
        replace q2 := s47 _ _ q2
        replace h3 := A2.mono s47 h3
        replace q3 := s47 _ _ q3
        replace h5 := A2.mono s47 h5
        replace q5 := s47 _ _ q5
        replace h7_0 := ADN.imp s47 (fun _ _ r => Rep.mono s47 r) h7_0
        replace q44 := s47 _ _ q44
        replace h46 := A2.mono s47 h46
        replace q46 := s47 _ _ q46
        replace sF := sF.trans s47
        obtain ⟨rfl, r49⟩ := y47
        replace r49 := Rep.mono s47 r49
        obtain ⟨a50, vs50, rfl, q50, h50⟩ := r49
        refine ⟨rfl, _, rfl, _, rfl, _, rfl, _, _, _, (y45 : (List (List Int))), _, ((FzN.mk g7 : (FzN Int)) : (FzN Int)), _, (b47 : (Tup Thing)), rfl, w47, (rep_lst q46 h46), ⟨_, od44, _, rfl, q44, h7_0⟩, (rep_tup q50 h50), ?_⟩
        refine (post_bind hm).mono (fun y51 hm v51 F51 H51 w51 s51 r51 => ?_) (fun _ z => z)
        replace q1 := s51 _ _ q1
        replace h2 := A2.mono s51 h2
        replace q2 := s51 _ _ q2
        replace h3 := A2.mono s51 h3
        replace q3 := s51 _ _ q3
        replace h5 := A2.mono s51 h5
        replace q5 := s51 _ _ q5
        replace h7_0 := ADN.imp s51 (fun _ _ r => Rep.mono s51 r) h7_0
        replace q44 := s51 _ _ q44
        replace h46 := A2.mono s51 h46
        replace q46 := s51 _ _ q46
        replace q50 := s51 _ _ q50
        replace h50 := A2.mono s51 h50
        replace sF := sF.trans s51
        obtain rfl : v51 = V.bl y51 := r51
        exact hN47 _ (post_ok hm) _ _ _ w51 s51 rep_b
      intro us47 F47 H47 ys47 s47 w47 gg47 hm
      replace q1 := s47 _ _ q1
      replace h2 := A2.mono s47 h2
      replace q2 := s47 _ _ q2
      replace h3 := A2.mono s47 h3
      replace q3 := s47 _ _ q3
      replace h5 := A2.mono s47 h5
      replace q5 := s47 _ _ q5
      replace h7_0 := ADN.imp s47 (fun _ _ r => Rep.mono s47 r) h7_0
      replace q44 := s47 _ _ q44
      replace h46 := A2.mono s47 h46
      replace q46 := s47 _ _ q46
      replace sF := sF.trans s47
      have w53 : W F47 _ (os) := w47.drop (pre := [])
      exact ⟨_, _, rfl, bools_q (SqL.of (w47.get (pre := []))) gg47, (post_ok hm) _ _ _ w53 sF rep_b⟩
def sp_law_cell_at (K : Fg) : Sp := fun vs H Q E => ∃ (F : Hp) (os : List (Addr × HO)) (v_script : V) (x_script : Scr) (x_k : Int), vs = [v_script, .int x_k] ∧ W F H (os) ∧ rep K F v_script x_script ∧ Post (law_cell_at x_script x_k) (Ret K F os Q) noX
theorem sc_law_cell_at : FnScope ["script", "k", "cell"] ["script", "k"] (defScope s_law_cell_at) := ⟨rfl, rfl, rfl, by decide +kernel, rfl, by decide +kernel, by decide +kernel⟩
theorem ok_law_cell_at (T : Tx K mg A FD) : FnOk P w K mg base CX0 1 (A 32) (FD 32) ["script", "k"] (sp_law_cell_at K) := by
  refine T.d32.fn.ok sc_law_cell_at (fun vs H Q E h => ?_) (fun cdv Ar outer s H vs Q E hr h => ?_)
  · obtain ⟨F, os, v_script, x_script, x_k, rfl, _⟩ := h
    rfl
  · obtain ⟨F0, os, v_script, x_script, x_k, rfl, w0, r_script, hm⟩ := h
    have sF : Same F0 F0 := Same.refl _
    obtain ⟨a1, rfl, q1⟩ := r_script
    have h1 : A2 (rep K F0) (x_script.l.map V.int) x_script.l := A2.of_ints
    refine ⟨_, (pss_cons (ps_if (pt_cmp (pc_lt (pv 1) (pe_callB (call_lenN (K := K) rfl) (by rfl) T.n_len (by decide +kernel) (pa_cons (pv 0) pa_nil)))) (pss_one (ps_ret (pe_ix (ix_listK (K := K) rfl) (pv 0) (pv 1) (fun _ _ => rfl)))) pss_nil) (pss_cons (ps_set (i := 2) sc_law_cell_at.nd rfl (Or.inl rfl) pe_int1) (pss_cons (ps_if (pt_cmpR (op_neDt (K := K) rfl Scr (by decide) hr.units) (pv 0) (pe_lst pa_nil) (nomark _)) (pss_one (ps_set (i := 2) sc_law_cell_at.nd rfl (Or.inl rfl) (pe_op op_mod (pe_ix (ix_listK (K := K) rfl) (pv 0) (pe_op op_mod (pv 1) (pe_callB (call_lenN (K := K) rfl) (by rfl) T.n_len (by decide +kernel) (pa_cons (pv 0) pa_nil))) (fun _ _ => rfl)) pe_int))) pss_nil) (pss_one (ps_ret (pe_op op_add (pe_op op_add (pv 2) (pe_op op_mul pe_int (pv 1))) pe_int)))))), ?_⟩
    refine ⟨_, rfl, _, rfl, _, _, _, rfl, .inl (w0.same.seq q1), h1.length, _, _, rfl, rfl, _, rfl, ?_⟩
    refine post_ite hm (fun k2 hm => ?_) (fun k2 hm => ?_)
    · skip
      obtain ⟨t3, e3, hm⟩ := pb_get hm
      obtain ⟨u3, f3, r3⟩ := A2.at h1 e3
      obtain rfl : u3 = V.int t3 := r3
      exact ⟨_, rfl, _, rfl, _, _, _, _, rfl, rfl, w0.same.seq q1, f3, (post_ok hm) _ _ _ w0 sF rep_i⟩
    · skip
      refine ⟨trivial, ?_⟩
      refine stepN ?_
      try dsimp only
      refine joinS hm (fun (g4 : Int) σ H' => ∃ (F' : Hp), σ = [some (.ref a1), some (.int x_k), some (.int g4)] ∧ Same F0 F' ∧ W F' H' (os)) ?_ ?_
      · intro N4 P4 hN4 hm
        have h5 : A2 (rep K F0) [] ([] : (List Int)) := .nil
        refine ⟨_, rfl, (by show 0 ≤ sizeLine; decide), fun p6 n6 => ?_⟩
        have w6 : W F0 _ ((p6, .lst []) :: os) := w0.new n6
        refine ⟨(x_script : Scr), (⟨([] : (List Int))⟩ : Scr), (Rep.mono w6.same ⟨_, rfl, q1⟩), ⟨_, rfl, SqL.of (w6.get (pre := []))⟩, _, rfl, ?_⟩
        have w7 : W F0 _ (os) := w6.drop (pre := [])
        refine post_ite hm (fun k8 hm => ?_) (fun k8 hm => ?_)
        · skip
          obtain ⟨c9, hm⟩ := pb_mod hm
          obtain ⟨t10, e10, hm⟩ := pb_get hm
          obtain ⟨u10, f10, r10⟩ := A2.at h1 e10
          obtain rfl : u10 = V.int t10 := r10
          exact ⟨_, rfl, _, rfl, _, rfl, _, _, _, rfl, .inl (w7.same.seq q1), h1.length, _, _, rfl, rfl, c9, _, _, _, _, rfl, rfl, w7.same.seq q1, f10, _, _, rfl, rfl, (by show (0 : Int) < (1000003 : Int); decide), hN4 _ (post_ok hm) _ _ ⟨_, rfl, Same.refl _, w7⟩⟩
        · skip
          exact hN4 _ (post_ok hm) _ _ ⟨_, rfl, Same.refl _, w7⟩
      intro g4 σ4 H4 hI hm
      obtain ⟨F4, rfl, s4, w4⟩ := hI
      replace h1 := A2.mono s4 h1
      replace q1 := s4.seq q1
      replace sF := sF.trans s4
      exact ⟨_, rfl, _, rfl, _, _, rfl, rfl, (.inl (by constructor <;> decide)), _, _, rfl, rfl, _, _, rfl, rfl, (post_ok hm) _ _ _ w4 sF rep_i⟩
def sp_law_folded (K : Fg) : Sp := fun vs H Q E => ∃ (F : Hp) (os : List (Addr × HO)) (v_script : V) (x_script : Scr) (x_many : Int), vs = [v_script, .int x_many] ∧ W F H (os) ∧ rep K F v_script x_script ∧ Post (law_folded x_script x_many) (RetL K F os Q) noX
theorem sc_law_folded : FnScope ["script", "many", "cells", "k", "at"] ["script", "many"] (defScope s_law_folded) := ⟨rfl, rfl, rfl, by decide +kernel, rfl, by decide +kernel, by decide +kernel⟩
theorem ok_law_folded (T : Tx K mg A FD) : FnOk P w K mg base CX0 2 (A 33) (FD 33) ["script", "many"] (sp_law_folded K) := by
  refine T.d33.fn.ok sc_law_folded (fun vs H Q E h => ?_) (fun cdv Ar outer s H vs Q E hr h => ?_)
  · obtain ⟨F, os, v_script, x_script, x_many, rfl, _⟩ := h
    rfl
  · obtain ⟨F0, os, v_script, x_script, x_many, rfl, w0, r_script, hm⟩ := h
    have sF : Same F0 F0 := Same.refl _
    obtain ⟨a1, rfl, q1⟩ := r_script
    have h1 : A2 (rep K F0) (x_script.l.map V.int) x_script.l := A2.of_ints
    refine ⟨_, (pss_cons (ps_setLc (i := 2) (own := [("k", 3)]) (g := gName 3) (by rfl) sc_law_folded.nd rfl rfl (sw_true rfl rfl rfl (by decide +kernel)) (pi_range1 (by rfl) T.n_range (pa_cons (pv 1) pa_nil)) (blkOk_by (own := [("k", 3)]) (N := ["script", "many", "cells", "k", "at"]) (sc := defScope s_law_folded) (by decide +kernel)) (fun _ _ _ _ _ => (pg_name (i := 3) sc_law_folded.nd rfl (Or.inl rfl))) (fun _ _ _ _ _ => pts_nil) (fun _ _ _ _ _ => (pe_call (ok_law_cell_at T) (hr.mono (by decide)) (by rfl) T.d32.mg T.d32.fn.kp T.d32.b .nil pass0 (pa_cons (pv 0) (pa_cons (pv 3) pa_nil))))) (pss_cons (ps_for PassesOwn.never rfl (pi_range2 (by rfl) T.n_range (pa_cons (pv 1) (pa_cons (pe_callB (call_lenN (K := K) rfl) (by rfl) T.n_len (by decide +kernel) (pa_cons (pv 0) pa_nil)) pa_nil))) (pg_name (i := 3) sc_law_folded.nd rfl (Or.inl rfl)) (pss_cons (ps_set (i := 4) sc_law_folded.nd rfl (Or.inl rfl) (pe_op op_mod (pv 3) (pv 1))) (pss_one (ps_asg (pe_op op_mod (pe_op op_add (pe_op op_mul (pe_op op_mod (pe_ix (ix_listK (K := K) rfl) (pv 2) (pv 4) (fun _ _ => rfl)) (pe_op op_pow pe_int pe_int)) pe_int) (pe_ix (ix_listK (K := K) rfl) (pv 0) (pv 3) (fun _ _ => rfl))) (pe_op op_add (pe_op op_pow pe_int pe_int) pe_int)) (pg_sub (pv 2) (pv 4) set_list))))) (pss_one (ps_ret (pv 2))))), ?_⟩
    obtain ⟨c2, hm⟩ := pb_rng hm
    refine ⟨_, rfl, _, rfl, c2.2.2.1, c2.2.2.2, fun D3 nD3 => ?_⟩
    refine lcM (K := K) (tw_rng0 (j := x_many)) hm w0 nD3 (fun F' H' acc s w => trivial) ?_ ?_
    · -- one turn
      intro b3 x3 F3 H3 H3' acc3 N3 P3 s3 w3 y3 hN3 hm
      replace q1 := s3.seq q1
      replace h1 := A2.mono s3 h1
      replace sF := sF.trans s3
      obtain ⟨rfl, rfl⟩ := y3
      refine ⟨rfl, _, rfl, _, rfl, _, _, _, (x_script : Scr), _, rfl, w3, ⟨_, rfl, q1⟩, ?_⟩
      refine (post_bind hm).mono (fun y5 hm v5 F5 H5 w5 s5 r5 => ?_) (fun _ z => z)
      replace q1 := s5.seq q1
      replace h1 := A2.mono s5 h1
      replace sF := sF.trans s5
      obtain rfl : v5 = V.int y5 := r5
      exact hN3 _ (post_ok hm) _ _ _ w5 s5 rep_i
    intro us3 F3 H3 ys3 s3 w3 gg3 hm
    replace q1 := s3.seq q1
    replace h1 := A2.mono s3 h1
    replace sF := sF.trans s3
    obtain ⟨c8, hm⟩ := pb_rng hm
    refine ⟨_, rfl, _, rfl, _, _, _, rfl, .inl (w3.same.seq q1), h1.length, _, _, rfl, c8, ?_⟩
    refine forS (tw_rng (i := x_many) (j := (x_script.l.length : Int))) hm (fun (g7 : (List Int)) σ H' => ∃ (F' : Hp) (vs7_0 : List V) (o7_4 : Option V) (o7_3 : Option V), σ = [some (.ref a1), some (.int x_many), some (.ref D3), o7_3, o7_4] ∧ Same F3 F' ∧ W F' H' ((D3, .lst vs7_0) :: os) ∧ A2 (rep K F') vs7_0 g7) ⟨_, _, _, _, rfl, Same.refl _, w3, gg3⟩ (fun _ _ _ _ => trivial) ?_ ?_
    · -- a turn
      intro b7 g7 x7 σ7 H7 H7' N7 P7 hI hy hN7 hm
      obtain ⟨F7, vs7_0, o7_4, o7_3, rfl, s7, w7, h7_0⟩ := hI
      replace h1 := A2.mono s7 h1
      replace q1 := s7.seq q1
      replace sF := sF.trans s7
      obtain ⟨rfl, rfl⟩ := hy
      obtain ⟨c9, hm⟩ := pb_mod hm
      obtain ⟨t10, e10, hm⟩ := pb_get hm
      obtain ⟨u10, f10, r10⟩ := A2.at h7_0 e10
      obtain rfl : u10 = V.int t10 := r10
      obtain ⟨t14, e14, hm⟩ := pb_get hm
      obtain ⟨u14, f14, r14⟩ := A2.at h1 e14
      obtain rfl : u14 = V.int t14 := r14
      obtain ⟨j17, l17, z17, e17, hm⟩ := pn_set hm
      refine ⟨_, rfl, _, rfl, _, _, rfl, rfl, c9, _, rfl, _, rfl, _, _, _, _, rfl, rfl, SqL.of (w7.get (pre := [])), f10, _, _, rfl, rfl, (by refine ⟨?_, ?_, ?_⟩ <;> decide), _, _, rfl, rfl, (by show (0 : Int) < ((10 : Int) ^ ((60 : Int) : Int).toNat); decide), _, _, rfl, rfl, (.inr (by constructor <;> decide)), _, rfl, _, rfl, _, _, _, _, rfl, rfl, w7.same.seq q1, f14, _, _, rfl, rfl, _, _, rfl, rfl, (by refine ⟨?_, ?_, ?_⟩ <;> decide), _, _, rfl, rfl, _, _, rfl, rfl, (by show (0 : Int) < (((10 : Int) ^ ((60 : Int) : Int).toNat) + (7 : Int)); decide), _, rfl, _, rfl, _, _, _, _, rfl, rfl, (w7.get (pre := [])), (A2.ix h7_0 z17), ?_⟩
      have h17 : A2 (rep K F7) (vs7_0.set j17 (V.int ((((t10 % ((10 : Int) ^ ((60 : Int) : Int).toNat)) * (48271 : Int)) + t14) % (((10 : Int) ^ ((60 : Int) : Int).toNat) + (7 : Int))))) l17 := e17 ▸ A2.set rep_i j17 h7_0
      have w18 : W F7 _ ((D3, .lst (vs7_0.set j17 (V.int ((((t10 % ((10 : Int) ^ ((60 : Int) : Int).toNat)) * (48271 : Int)) + t14) % (((10 : Int) ^ ((60 : Int) : Int).toNat) + (7 : Int)))))) :: os) := w7.set (pre := [])
      exact hN7 _ (post_ok hm) _ _ ⟨_, _, _, _, rfl, s7, w18, h17⟩
    intro g7 σ7 H7 hI hm
    obtain ⟨F7, vs7_0, o7_4, o7_3, rfl, s7, w7, h7_0⟩ := hI
    replace h1 := A2.mono s7 h1
    replace q1 := s7.seq q1
    replace sF := sF.trans s7
    exact ⟨_, rfl, (post_ok hm) _ _ _ _ w7 sF h7_0⟩
def sp_law_state (K : Fg) : Sp := fun vs H Q E => ∃ (F : Hp) (os : List (Addr × HO)) (x_cell : Int), vs = [.int x_cell] ∧ W F H (os) ∧ Post (law_state x_cell) (RetL K F os Q) noX
theorem sc_law_state : FnScope ["cell", "left"] ["cell"] (defScope s_law_state) := ⟨rfl, rfl, rfl, by decide +kernel, rfl, by decide +kernel, by decide +kernel⟩
theorem ok_law_state (T : Tx K mg A FD) : FnOk P w K mg base CX0 1 (A 34) (FD 34) ["cell"] (sp_law_state K) := by
  refine T.d34.fn.ok sc_law_state (fun vs H Q E h => ?_) (fun cdv Ar outer s H vs Q E hr h => ?_)
  · obtain ⟨F, os, x_cell, rfl, _⟩ := h
    rfl
  · obtain ⟨F0, os, x_cell, rfl, w0, hm⟩ := h
    have sF : Same F0 F0 := Same.refl _
    refine ⟨_, (pss_cons (ps_set (i := 1) sc_law_state.nd rfl (Or.inl rfl) pe_int1) (pss_cons (ps_if (pt_cmp (pc_ge (pv 0) (pe_op op_pow pe_int pe_int))) (pss_one (ps_set (i := 1) sc_law_state.nd rfl (Or.inl rfl) (pv 0))) pss_nil) (pss_one (ps_ret (pe_lst (pa_cons (pv 1) (pa_cons (pe_op op_mod (pe_op op_mul (pe_op op_add (pe_op op_mod (pv 0) pe_int) pe_int) pe_int) pe_int) pa_nil))))))), ?_⟩
    refine ⟨trivial, ?_⟩
    refine stepN ?_
    try dsimp only
    refine joinS hm (fun (g1 : Int) σ H' => ∃ (F' : Hp), σ = [some (.int x_cell), some (.int g1)] ∧ Same F0 F' ∧ W F' H' (os)) ?_ ?_
    · intro N1 P1 hN1 hm
      refine ⟨_, rfl, _, _, rfl, rfl, (by refine ⟨?_, ?_, ?_⟩ <;> decide), _, _, rfl, rfl, _, rfl, ?_⟩
      refine post_ite hm (fun k3 hm => ?_) (fun k3 hm => ?_)
      · skip
        exact ⟨_, rfl, hN1 _ (post_ok hm) _ _ ⟨_, rfl, Same.refl _, w0⟩⟩
      · skip
        exact hN1 _ (post_ok hm) _ _ ⟨_, rfl, Same.refl _, w0⟩
    intro g1 σ1 H1 hI hm
    obtain ⟨F1, rfl, s1, w1⟩ := hI
    replace sF := sF.trans s1
    have h7 : A2 (rep K F1) [(.int g1), (.int ((((x_cell % (2147483629 : Int)) + (11 : Int)) * (48271 : Int)) % (2147483647 : Int)))] ([g1, ((((x_cell % (2147483629 : Int)) + (11 : Int)) * (48271 : Int)) % (2147483647 : Int))] : (List Int)) := .cons rep_i (.cons rep_i (.nil))
    refine ⟨_, rfl, _, rfl, _, _, rfl, rfl, (by show (0 : Int) < (2147483629 : Int); decide), _, _, rfl, rfl, _, _, rfl, rfl, (.inr (by constructor <;> decide)), _, _, rfl, rfl, (by show (0 : Int) < (2147483647 : Int); decide), (by show 2 ≤ sizeLine; decide), fun p8 n8 => ?_⟩
    have w8 : W F1 _ ((p8, .lst [(.int g1), (.int ((((x_cell % (2147483629 : Int)) + (11 : Int)) * (48271 : Int)) % (2147483647 : Int)))]) :: os) := w1.new n8
    exact (post_ok hm) _ _ _ _ w8 sF h7
def sp_law_next (K : Fg) : Sp := fun vs H Q E => ∃ (F : Hp) (os : List (Addr × HO)) (a_state : Addr) (vs_state : List V) (x_state : (List Int)) (x_many : Int), vs = [.ref a_state, .int x_many] ∧ W F H ((a_state, .lst vs_state) :: os) ∧ A2 (rep K F) vs_state x_state ∧ Post (law_next x_state x_many) (RetM K F a_state os Q) noX
theorem sc_law_next : FnScope ["state", "many", "found"] ["state", "many"] (defScope s_law_next) := ⟨rfl, rfl, rfl, by decide +kernel, rfl, by decide +kernel, by decide +kernel⟩
theorem ok_law_next (T : Tx K mg A FD) : FnOk P w K mg base CX0 1 (A 35) (FD 35) ["state", "many"] (sp_law_next K) := by
  refine T.d35.fn.ok sc_law_next (fun vs H Q E h => ?_) (fun cdv Ar outer s H vs Q E hr h => ?_)
  · obtain ⟨F, os, a_state, vs_state, x_state, x_many, rfl, _⟩ := h
    rfl
  · obtain ⟨F0, os, a_state, vs_state, x_state, x_many, rfl, w0, h_state, hm⟩ := h
    have sF : Same F0 F0 := Same.refl _
    refine ⟨_, (pss_cons (ps_if (pt_cmp (pc_gt (pe_ix (ix_listK (K := K) rfl) (pv 0) pe_int (fun _ _ => rfl)) pe_int)) (pss_cons (ps_set (i := 2) sc_law_next.nd rfl (Or.inl rfl) (pe_op op_mod (pe_ix (ix_listK (K := K) rfl) (pv 0) pe_int (fun _ _ => rfl)) (pv 1))) (pss_cons (ps_asg (pe_op op_fdivW (pe_ix (ix_listK (K := K) rfl) (pv 0) pe_int (fun _ _ => rfl)) (pv 1)) (pg_sub (pv 0) pe_int set_list)) (pss_one (ps_ret (pv 2))))) pss_nil) (pss_cons (ps_asg (pe_op op_mod (pe_op op_add (pe_op op_mul (pe_ix (ix_listK (K := K) rfl) (pv 0) pe_int (fun _ _ => rfl)) pe_int) pe_int) pe_int) (pg_sub (pv 0) pe_int set_list)) (pss_one (ps_ret (pe_op op_mod (pe_op op_fdiv (pe_op op_mod (pe_op op_mul (pe_ix (ix_listK (K := K) rfl) (pv 0) pe_int (fun _ _ => rfl)) (pe_ix (ix_listK (K := K) rfl) (pv 0) pe_int (fun _ _ => rfl))) pe_int) pe_int) (pv 1)))))), ?_⟩
    obtain ⟨t2, e2, hm⟩ := pb_get hm
    obtain ⟨u2, f2, r2⟩ := A2.at h_state e2
    obtain rfl : u2 = V.int t2 := r2
    refine ⟨_, rfl, _, _, _, _, rfl, rfl, SqL.of (w0.get (pre := [])), f2, _, _, rfl, rfl, _, rfl, ?_⟩
    refine post_ite hm (fun k3 hm => ?_) (fun k3 hm => ?_)
    · skip
      obtain ⟨t4, e4, hm⟩ := pb_get hm
      obtain ⟨u4, f4, r4⟩ := A2.at h_state e4
      obtain rfl : u4 = V.int t4 := r4
      obtain ⟨c5, hm⟩ := pb_mod hm
      obtain ⟨t6, e6, hm⟩ := pb_get hm
      obtain ⟨u6, f6, r6⟩ := A2.at h_state e6
      obtain rfl : u6 = V.int t6 := r6
      obtain ⟨c7, hm⟩ := pb_div hm
      obtain ⟨j8, l8, z8, e8, hm⟩ := pn_set hm
      refine ⟨_, rfl, _, _, _, _, rfl, rfl, SqL.of (w0.get (pre := [])), f4, _, rfl, _, _, rfl, rfl, c5, _, rfl, _, _, _, _, rfl, rfl, SqL.of (w0.get (pre := [])), f6, _, rfl, _, _, rfl, rfl, c7, _, rfl, _, _, _, _, rfl, rfl, (w0.get (pre := [])), (A2.ix h_state z8), ?_⟩
      have h8 : A2 (rep K F0) (vs_state.set j8 (V.int (t6 / x_many))) l8 := e8 ▸ A2.set rep_i j8 h_state
      have w9 : W F0 _ ((a_state, .lst (vs_state.set j8 (V.int (t6 / x_many)))) :: os) := w0.set (pre := [])
      exact ⟨_, rfl, (post_ok hm) _ _ _ _ w9 sF rep_i h8⟩
    · skip
      obtain ⟨t10, e10, hm⟩ := pb_get hm
      obtain ⟨u10, f10, r10⟩ := A2.at h_state e10
      obtain rfl : u10 = V.int t10 := r10
      obtain ⟨j13, l13, z13, e13, hm⟩ := pn_set hm
      refine ⟨_, rfl, _, _, _, _, rfl, rfl, SqL.of (w0.get (pre := [])), f10, _, _, rfl, rfl, (.inr (by constructor <;> decide)), _, _, rfl, rfl, _, _, rfl, rfl, (by show (0 : Int) < (2147483647 : Int); decide), _, rfl, _, _, _, _, rfl, rfl, (w0.get (pre := [])), (A2.ix h_state z13), ?_⟩
      have h13 : A2 (rep K F0) (vs_state.set j13 (V.int (((t10 * (69621 : Int)) + (40692 : Int)) % (2147483647 : Int)))) l13 := e13 ▸ A2.set rep_i j13 h_state
      have w14 : W F0 _ ((a_state, .lst (vs_state.set j13 (V.int (((t10 * (69621 : Int)) + (40692 : Int)) % (2147483647 : Int))))) :: os) := w0.set (pre := [])
      obtain ⟨t15, e15, hm⟩ := pb_get hm
      obtain ⟨u15, f15, r15⟩ := A2.at h13 e15
      obtain rfl : u15 = V.int t15 := r15
      obtain ⟨t16, e16, hm⟩ := pb_get hm
      obtain ⟨u16, f16, r16⟩ := A2.at h13 e16
      obtain rfl : u16 = V.int t16 := r16
      obtain ⟨c17, hm⟩ := pb_mul hm
      obtain ⟨c20, hm⟩ := pb_mod hm
      exact ⟨_, rfl, _, _, _, _, rfl, rfl, SqL.of (w14.get (pre := [])), f15, _, rfl, _, _, _, _, rfl, rfl, SqL.of (w14.get (pre := [])), f16, _, _, rfl, rfl, c17, _, _, rfl, rfl, (by show (0 : Int) < (2147483629 : Int); decide), _, _, rfl, rfl, (by constructor <;> decide), _, rfl, _, _, rfl, rfl, c20, (post_ok hm) _ _ _ _ w14 sF rep_i h13⟩
def sp_law_web (K : Fg) : Sp := fun vs H Q E => ∃ (F : Hp) (os : List (Addr × HO)) (a_state : Addr) (vs_state : List V) (x_state : (List Int)) (x_least : Int) (x_most : Int), vs = [.ref a_state, .int x_least, .int x_most] ∧ W F H ((a_state, .lst vs_state) :: os) ∧ A2 (rep K F) vs_state x_state ∧ Post (law_web x_state x_least x_most) (RetM K F a_state os Q) noX
theorem sc_law_web : FnScope ["state", "least", "most", "many", "way", "ties", "j", "turn", "one", "other", "names", "place", "k"] ["state", "least", "most"] (defScope s_law_web) := ⟨rfl, rfl, rfl, by decide +kernel, rfl, by decide +kernel, by decide +kernel⟩
set_option maxHeartbeats 40000000 in
theorem ok_law_web (T : Tx K mg A FD) : FnOk P w K mg base CX0 3 (A 36) (FD 36) ["state", "least", "most"] (sp_law_web K) := by
  refine T.d36.fn.ok sc_law_web (fun vs H Q E h => ?_) (fun cdv Ar outer s H vs Q E hr h => ?_)
  · obtain ⟨F, os, a_state, vs_state, x_state, x_least, x_most, rfl, _⟩ := h
    rfl
  · obtain ⟨F0, os, a_state, vs_state, x_state, x_least, x_most, rfl, w0, h_state, hm⟩ := h
    have sF : Same F0 F0 := Same.refl _
    refine ⟨_, (pss_cons (ps_set (i := 3) sc_law_web.nd rfl (Or.inl rfl) (pe_op op_add (pv 1) (pe_call (ok_law_next T) (hr.mono (by decide)) (by rfl) T.d35.mg T.d35.fn.kp T.d35.b .nil pass0 (pa_cons (pv 0) (pa_cons (pe_op op_sub (pe_op op_add (pv 2) pe_int) (pv 1)) pa_nil))))) (pss_cons (ps_set (i := 4) sc_law_web.nd rfl (Or.inl rfl) (pe_call (ok_law_next T) (hr.mono (by decide)) (by rfl) T.d35.mg T.d35.fn.kp T.d35.b .nil pass0 (pa_cons (pv 0) (pa_cons pe_int pa_nil)))) (pss_cons (ps_setLc (i := 5) (own := [("k", 12)]) (g := gName 12) (by rfl) sc_law_web.nd rfl rfl (sw_true rfl rfl rfl (by decide +kernel)) (pi_range1 (by rfl) T.n_range (pa_cons (pe_op op_sub (pv 3) pe_int) pa_nil)) (blkOk_by (own := [("k", 12)]) (N := ["state", "least", "most", "many", "way", "ties", "j", "turn", "one", "other", "names", "place", "k"]) (sc := defScope s_law_web) (by decide +kernel)) (fun _ _ _ _ _ => (pg_name (i := 12) sc_law_web.nd rfl (Or.inl rfl))) (fun _ _ _ _ _ => pts_nil) (fun _ _ _ _ _ => (pe_tup (pa_cons (pv 12) (pa_cons (pe_op op_add (pv 12) pe_int) pa_nil))))) (pss_cons (ps_if (PW.pt (pw_and (pt_cmp (pc_eqI (pv 4) pe_int)) (pw_and1 (pt_cmp (pc_gt (pv 3) pe_int))))) (pss_one (ps_expr (pe_bm PySem.F.plainAttrs_list PySem.F.slot_list_append PySem.F.type_list_append mt_append (pv 5) (pa_cons (pe_tup (pa_cons pe_int (pa_cons (pe_op op_sub (pv 3) pe_int) pa_nil))) pa_nil)))) pss_nil) (pss_cons (ps_if (pt_cmp (pc_eqI (pv 4) pe_int)) (pss_one (ps_setLc (i := 5) (own := [("k", 12)]) (g := gName 12) (by rfl) sc_law_web.nd rfl rfl (sw_true rfl rfl rfl (by decide +kernel)) (pi_range2 (by rfl) T.n_range (pa_cons pe_int (pa_cons (pv 3) pa_nil))) (blkOk_by (own := [("k", 12)]) (N := ["state", "least", "most", "many", "way", "ties", "j", "turn", "one", "other", "names", "place", "k"]) (sc := defScope s_law_web) (by decide +kernel)) (fun _ _ _ _ _ => (pg_name (i := 12) sc_law_web.nd rfl (Or.inl rfl))) (fun _ _ _ _ _ => pts_nil) (fun _ _ _ _ _ => (pe_tup (pa_cons pe_int (pa_cons (pv 12) pa_nil)))))) pss_nil) (pss_cons (ps_if (pt_cmp (pc_eqI (pv 4) pe_int)) (pss_one (ps_set (i := 5) sc_law_web.nd rfl (Or.inl rfl) (pe_op op_cat (pe_slice (sl_listK (K := K) rfl) (pv 5) (po_some pe_int) po_none) (pe_lc (own := [("k", 12)]) (g := gName 12) (by rfl) sc_law_web.nd (pi_range2 (by rfl) T.n_range (pa_cons pe_int (pa_cons (pv 3) pa_nil))) (blkOk_by (own := [("k", 12)]) (N := ["state", "least", "most", "many", "way", "ties", "j", "turn", "one", "other", "names", "place", "k"]) (sc := defScope s_law_web) (by decide +kernel)) (fun _ _ _ _ _ => (pg_name (i := 12) sc_law_web.nd rfl (Or.inl rfl))) (fun _ _ _ _ _ => pts_nil) (fun _ _ _ _ _ => (pe_tup (pa_cons pe_int (pa_cons (pv 12) pa_nil)))))))) pss_nil) (pss_cons (ps_if (pt_cmp (pc_eqI (pv 4) pe_int)) (pss_cons (ps_set (i := 5) sc_law_web.nd rfl (Or.inl rfl) (pe_lst pa_nil)) (pss_one (ps_for PassesOwn.never rfl (pi_range1 (by rfl) T.n_range (pa_cons (pv 3) pa_nil)) (pg_name (i := 6) sc_law_web.nd rfl (Or.inr rfl)) (pss_one (ps_expr (pe_bm PySem.F.plainAttrs_list PySem.F.slot_list_extend PySem.F.type_list_extend mt_extend (pv 5) (pa_cons (pe_lc (own := [("k", 12)]) (g := gName 12) (by rfl) sc_law_web.nd (pi_range1 (by rfl) T.n_range (pa_cons (pv 6) pa_nil)) (blkOk_by (own := [("k", 12)]) (N := ["state", "least", "most", "many", "way", "ties", "j", "turn", "one", "other", "names", "place", "k"]) (sc := defScope s_law_web) (by decide +kernel)) (fun _ _ _ _ _ => (pg_name (i := 12) sc_law_web.nd rfl (Or.inl rfl))) (fun _ _ _ _ _ => pts_nil) (fun _ _ _ _ _ => (pe_tup (pa_cons (pv 12) (pa_cons (pv 6) pa_nil))))) pa_nil))))))) pss_nil) (pss_cons (ps_if (pt_cmp (pc_gt (pv 4) pe_int)) (pss_cons (ps_setLc (i := 5) (own := [("k", 12)]) (g := gName 12) (by rfl) sc_law_web.nd rfl rfl (sw_true rfl rfl rfl (by decide +kernel)) (pi_range2 (by rfl) T.n_range (pa_cons pe_int (pa_cons (pv 3) pa_nil))) (blkOk_by (own := [("k", 12)]) (N := ["state", "least", "most", "many", "way", "ties", "j", "turn", "one", "other", "names", "place", "k"]) (sc := defScope s_law_web) (by decide +kernel)) (fun _ _ _ _ _ => (pg_name (i := 12) sc_law_web.nd rfl (Or.inl rfl))) (fun _ _ _ _ _ => pts_nil) (fun _ _ _ _ _ => (pe_tup (pa_cons (pe_call (ok_law_next T) (hr.mono (by decide)) (by rfl) T.d35.mg T.d35.fn.kp T.d35.b .nil pass0 (pa_cons (pv 0) (pa_cons (pv 12) pa_nil))) (pa_cons (pv 12) pa_nil))))) (pss_one (ps_for PassesOwn.never rfl (pi_range1 (by rfl) T.n_range (pa_cons (pe_call (ok_law_next T) (hr.mono (by decide)) (by rfl) T.d35.mg T.d35.fn.kp T.d35.b .nil pass0 (pa_cons (pv 0) (pa_cons pe_int pa_nil))) pa_nil)) (pg_name (i := 7) sc_law_web.nd rfl (Or.inl rfl)) (pss_cons (ps_par (i := 8) (j := 9) rfl sc_law_web.nd rfl rfl (by decide) rfl rfl (pa_cons (pe_call (ok_law_next T) (hr.mono (by decide)) (by rfl) T.d35.mg T.d35.fn.kp T.d35.b .nil pass0 (pa_cons (pv 0) (pa_cons (pv 3) pa_nil))) (pa_cons (pe_call (ok_law_next T) (hr.mono (by decide)) (by rfl) T.d35.mg T.d35.fn.kp T.d35.b .nil pass0 (pa_cons (pv 0) (pa_cons (pv 3) pa_nil))) pa_nil)) rfl) (pss_one (ps_if (PW.pt (pw_and (pt_cmp (pc_lt (pv 8) (pv 9))) (pw_and1 (pt_cmpR (op_notInL (K := K) rfl (Int × Int) (by decide) (Room.units65 hr)) (pe_tup (pa_cons (pv 8) (pa_cons (pv 9) pa_nil))) (pv 5) (by rfl))))) (pss_one (ps_expr (pe_bm PySem.F.plainAttrs_list PySem.F.slot_list_append PySem.F.type_list_append mt_append (pv 5) (pa_cons (pe_tup (pa_cons (pv 8) (pa_cons (pv 9) pa_nil))) pa_nil)))) pss_nil)))))) pss_nil) (pss_cons (ps_set (i := 10) sc_law_web.nd rfl (Or.inr rfl) (pe_lst pa_nil)) (pss_cons (ps_for PassesOwn.never rfl (pi_range1 (by rfl) T.n_range (pa_cons (pv 3) pa_nil)) (pg_name (i := 11) sc_law_web.nd rfl (Or.inl rfl)) (pss_one (ps_expr (pe_bm PySem.F.plainAttrs_list PySem.F.slot_list_insert PySem.F.type_list_insert mt_insert (pv 10) (pa_cons (pe_call (ok_law_next T) (hr.mono (by decide)) (by rfl) T.d35.mg T.d35.fn.kp T.d35.b .nil pass0 (pa_cons (pv 0) (pa_cons (pe_op op_add (pv 11) pe_int) pa_nil))) (pa_cons (pv 11) pa_nil)))))) (pss_one (ps_ret (pe_call (ok_made_web T) (hr.mono (by decide)) (by rfl) T.d11.mg T.d11.fn.kp T.d11.b .nil pass0 (pa_cons (pv 3) (pa_cons (pe_lc (own := [("one", 8), ("other", 9)]) (g := _) (by rfl) sc_law_web.nd (pi_listK (K := K) rfl (pv 5)) (blkOk_by (own := [("one", 8), ("other", 9)]) (N := ["state", "least", "most", "many", "way", "ties", "j", "turn", "one", "other", "names", "place", "k"]) (sc := defScope s_law_web) (by decide +kernel)) (fun _ _ _ _ _ => (pg_k (K := K) (t := fun K => gTup K 2 _) rfl (pg_tup (n := 2) rfl (pgs_cons (pg_name (i := 8) sc_law_web.nd rfl (Or.inl rfl)) (pgs_cons (pg_name (i := 9) sc_law_web.nd rfl (Or.inl rfl)) pgs_nil))))) (fun _ _ _ _ _ => pts_nil) (fun _ _ _ _ _ => (pe_tup (pa_cons (pe_ix (ix_listK (K := K) rfl) (pv 10) (pv 8) (fun _ _ => rfl)) (pa_cons (pe_ix (ix_listK (K := K) rfl) (pv 10) (pv 9) (fun _ _ => rfl)) pa_nil))))) pa_nil))))))))))))))), ?_⟩
    refine ⟨_, rfl, _, rfl, _, rfl, _, _, rfl, rfl, _, rfl, _, _, rfl, rfl, _, _, _, _, _, _, rfl, w0, h_state, ?_⟩
    refine (post_bind hm).mono (fun y2 hm v2 vs2 F2 H2 w2 s2 r2 h2 => ?_) (fun _ z => z)
    replace sF := sF.trans s2
    obtain rfl : v2 = V.int y2.1 := r2
    refine ⟨_, _, rfl, rfl, _, rfl, _, _, _, _, _, _, rfl, w2, h2, ?_⟩
    refine (post_bind hm).mono (fun y3 hm v3 vs3 F3 H3 w3 s3 r3 h3 => ?_) (fun _ z => z)
    replace sF := sF.trans s3
    obtain rfl : v3 = V.int y3.1 := r3
    obtain ⟨c4, hm⟩ := pb_rng hm
    refine ⟨_, rfl, _, _, rfl, rfl, _, rfl, c4.2.2.1, c4.2.2.2, fun D5 nD5 => ?_⟩
    refine lcM (K := K) (tw_rng0 (j := ((x_least + y2.1) - (1 : Int)))) hm w3 nD5 (fun F' H' acc s w => trivial) ?_ ?_
    · -- one turn
      intro b5 x5 F5 H5 H5' acc5 N5 P5 s5 w5 y5 hN5 hm
      replace h3 := A2.mono s5 h3
      replace sF := sF.trans s5
      obtain ⟨rfl, rfl⟩ := y5
      refine ⟨rfl, _, rfl, _, rfl, _, _, rfl, rfl, (by show 2 ≤ sizeLine; decide), fun p7 n7 => ?_⟩
      obtain ⟨F7, s7, w7, q7⟩ := w5.frzE (o := .tup [(.int b5), (.int (b5 + (1 : Int)))]) n7
      replace h3 := A2.mono s7 h3
      replace sF := sF.trans s7
      exact hN5 _ (post_ok hm) _ _ _ w7 s7 (rep_pair q7 rep_i rep_i)
    intro us5 F5 H5 ys5 s5 w5 gg5 hm
    replace h3 := A2.mono s5 h3
    replace sF := sF.trans s5
    refine stepN ?_
    try dsimp only
    refine joinS hm (fun (g9 : (List (Int × Int))) σ H' => ∃ (F' : Hp) (vs9_0 : List V), σ = [some (.ref a_state), some (.int x_least), some (.int x_most), some (.int (x_least + y2.1)), some (.int y3.1), some (.ref D5), none, none, none, none, none, none, none] ∧ Same F5 F' ∧ W F' H' ((D5, .lst vs9_0) :: (a_state, .lst vs3) :: os) ∧ A2 (rep K F') vs9_0 g9) ?_ ?_
    · intro N9 P9 hN9 hm
      refine stepIf ?_
      refine cutT (fun c H' => c = (((decide (y3.1 = (1 : Int))) && (decide ((2 : Int) < (x_least + y2.1))))) ∧ ∃ F', Same F5 F' ∧ W F' H' ((D5, .lst us5) :: (a_state, .lst vs3) :: os)) (fun Q10 q10 => ?_) (fun c10 H10 hc10 => ?_)
      · -- the ways
        refine ⟨_, rfl, _, _, rfl, rfl, _, rfl, ?_⟩
        refine ifB (fun k11 => ?_) (fun k11 => ?_)
        · skip
          exact ⟨_, rfl, _, _, rfl, rfl, _, rfl, q10 _ _ ⟨(by first | rfl | exact absurd k11 (by decide) | (simp [k11]; done) | ((try simp only [Bool.not_eq_true] at k11); simp only [k11, Bool.true_or, Bool.false_or, Bool.or_false, Bool.or_true, Bool.true_and, Bool.false_and, Bool.and_true, Bool.and_false])), _, Same.refl _, w5⟩⟩
        · skip
          exact q10 _ _ ⟨(by first | rfl | exact absurd k11 (by decide) | (simp [k11]; done) | ((try simp only [Bool.not_eq_true] at k11); simp only [k11, Bool.true_or, Bool.false_or, Bool.or_false, Bool.or_true, Bool.true_and, Bool.false_and, Bool.and_true, Bool.and_false])), _, Same.refl _, w5⟩
      obtain ⟨rfl, F10, s10, w10⟩ := hc10
      replace gg5 := A2.mono s10 gg5
      replace h3 := A2.mono s10 h3
      replace sF := sF.trans s10
      refine post_ite hm (fun k14 hm => ?_) (fun k14 hm => ?_)
      · skip
        refine ⟨_, rfl, .inl ⟨rfl, _, SqL.of (w10.get (pre := []))⟩, _, rfl, _, _, rfl, rfl, (by show 2 ≤ sizeLine; decide), fun p15 n15 => ?_⟩
        obtain ⟨F15, s15, w15, q15⟩ := w10.frzE (o := .tup [(.int 0), (.int ((x_least + y2.1) - (1 : Int)))]) n15
        replace gg5 := A2.mono s15 gg5
        replace h3 := A2.mono s15 h3
        replace sF := sF.trans s15
        obtain ⟨l16, z16, e16, hm⟩ := pn_app hm
        refine ⟨_, _, _, rfl, rfl, (w15.get (pre := [])), (A2.lt gg5 z16), ?_⟩
        have h16 : A2 (rep K F15) (us5 ++ [(V.ref p15)]) l16 := e16 ▸ A2.snoc gg5 (rep_pair q15 rep_i rep_i)
        have w17 : W F15 _ ((D5, .lst (us5 ++ [(V.ref p15)])) :: (a_state, .lst vs3) :: os) := w15.set (pre := [])
        exact hN9 _ (post_ok hm) _ _ ⟨_, _, rfl, (s10.trans s15), w17, h16⟩
      · skip
        exact hN9 _ (post_ok hm) _ _ ⟨_, _, rfl, s10, w10, gg5⟩
    intro g9 σ9 H9 hI hm
    obtain ⟨F9, vs9_0, rfl, s9, w9, h9_0⟩ := hI
    replace h3 := A2.mono s9 h3
    replace sF := sF.trans s9
    try dsimp only
    refine joinS hm (fun (g18 : (List (Int × Int))) σ H' => ∃ (F' : Hp) (ao18_5 : Addr) (uo18_5 : List V), σ = [some (.ref a_state), some (.int x_least), some (.int x_most), some (.int (x_least + y2.1)), some (.int y3.1), some (.ref ao18_5), none, none, none, none, none, none, none] ∧ Same F9 F' ∧ W F' H' ((ao18_5, .lst uo18_5) :: (a_state, .lst vs3) :: os) ∧ A2 (rep K F') uo18_5 g18) ?_ ?_
    · intro N18 P18 hN18 hm
      refine ⟨_, rfl, _, _, rfl, rfl, _, rfl, ?_⟩
      refine post_ite hm (fun k19 hm => ?_) (fun k19 hm => ?_)
      · skip
        obtain ⟨c20, hm⟩ := pb_rng hm
        refine ⟨_, rfl, _, _, rfl, c20, fun D21 nD21 => ?_⟩
        refine lcM (K := K) (tw_rng (i := (1 : Int)) (j := (x_least + y2.1))) hm w9 nD21 (fun F' H' acc s w => trivial) ?_ ?_
        · -- one turn
          intro b21 x21 F21 H21 H21' acc21 N21 P21 s21 w21 y21 hN21 hm
          replace h9_0 := A2.mono s21 h9_0
          replace h3 := A2.mono s21 h3
          replace sF := sF.trans s21
          obtain ⟨rfl, rfl⟩ := y21
          refine ⟨rfl, _, rfl, (by show 2 ≤ sizeLine; decide), fun p23 n23 => ?_⟩
          obtain ⟨F23, s23, w23, q23⟩ := w21.frzE (o := .tup [(.int 0), (.int b21)]) n23
          replace h9_0 := A2.mono s23 h9_0
          replace h3 := A2.mono s23 h3
          replace sF := sF.trans s23
          exact hN21 _ (post_ok hm) _ _ _ w23 s23 (rep_pair q23 rep_i rep_i)
        intro us21 F21 H21 ys21 s21 w21 gg21 hm
        replace h9_0 := A2.mono s21 h9_0
        replace h3 := A2.mono s21 h3
        replace sF := sF.trans s21
        have w25 : W F21 _ ((D21, .lst us21) :: (a_state, .lst vs3) :: os) := w21.drop (pre := [_])
        exact hN18 _ (post_ok hm) _ _ ⟨_, _, _, rfl, s21, w25, gg21⟩
      · skip
        exact hN18 _ (post_ok hm) _ _ ⟨_, _, _, rfl, Same.refl _, w9, h9_0⟩
    intro g18 σ18 H18 hI hm
    obtain ⟨F18, ao18_5, uo18_5, rfl, s18, w18, ko18_5⟩ := hI
    replace h3 := A2.mono s18 h3
    replace sF := sF.trans s18
    try dsimp only
    refine joinS hm (fun (g27 : (List (Int × Int))) σ H' => ∃ (F' : Hp) (ao27_5 : Addr) (uo27_5 : List V), σ = [some (.ref a_state), some (.int x_least), some (.int x_most), some (.int (x_least + y2.1)), some (.int y3.1), some (.ref ao27_5), none, none, none, none, none, none, none] ∧ Same F18 F' ∧ W F' H' ((ao27_5, .lst uo27_5) :: (a_state, .lst vs3) :: os) ∧ A2 (rep K F') uo27_5 g27) ?_ ?_
    · intro N27 P27 hN27 hm
      refine ⟨_, rfl, _, _, rfl, rfl, _, rfl, ?_⟩
      refine post_ite hm (fun k28 hm => ?_) (fun k28 hm => ?_)
      · skip
        have h29 : A2 (rep K F18) (cutV uo18_5 (some (1 : Int)) none) (cutL g18 (some (1 : Int)) none) := sl_cut ko18_5 _ _
        refine ⟨_, rfl, _, rfl, _, _, rfl, SqL.of (w18.get (pre := [])), fun p30 n30 => ?_⟩
        have w30 : W F18 _ ((p30, .lst (cutV uo18_5 (some (1 : Int)) none)) :: (ao18_5, .lst uo18_5) :: (a_state, .lst vs3) :: os) := w18.new n30
        obtain ⟨c31, hm⟩ := pb_rng hm
        refine ⟨_, rfl, _, _, rfl, c31, fun D32 nD32 => ?_⟩
        refine lcM (K := K) (tw_rng (i := (1 : Int)) (j := (x_least + y2.1))) hm w30 nD32 (fun F' H' acc s w => trivial) ?_ ?_
        · -- one turn
          intro b32 x32 F32 H32 H32' acc32 N32 P32 s32 w32 y32 hN32 hm
          replace ko18_5 := A2.mono s32 ko18_5
          replace h3 := A2.mono s32 h3
          replace h29 := A2.mono s32 h29
          replace sF := sF.trans s32
          obtain ⟨rfl, rfl⟩ := y32
          refine ⟨rfl, _, rfl, (by show 2 ≤ sizeLine; decide), fun p34 n34 => ?_⟩
          obtain ⟨F34, s34, w34, q34⟩ := w32.frzE (o := .tup [(.int 0), (.int b32)]) n34
          replace ko18_5 := A2.mono s34 ko18_5
          replace h3 := A2.mono s34 h3
          replace h29 := A2.mono s34 h29
          replace sF := sF.trans s34
          exact hN32 _ (post_ok hm) _ _ _ w34 s34 (rep_pair q34 rep_i rep_i)
        intro us32 F32 H32 ys32 s32 w32 gg32 hm
        replace ko18_5 := A2.mono s32 ko18_5
        replace h3 := A2.mono s32 h3
        replace h29 := A2.mono s32 h29
        replace sF := sF.trans s32
        obtain ⟨l36, z36, e36, hm⟩ := pn_extend hm
        have h36 : A2 (rep K F32) ((cutV uo18_5 (some (1 : Int)) none) ++ us32) l36 := e36 ▸ A2.append h29 gg32
        refine ⟨_, _, _, _, rfl, rfl, (w32.get (pre := [_])), (w32.get (pre := [])), (A2.le2 h29 gg32 z36), fun p37 n37 => ?_⟩
        have w37 : W F32 _ ((p37, .lst ((cutV uo18_5 (some (1 : Int)) none) ++ us32)) :: (D32, .lst us32) :: (p30, .lst (cutV uo18_5 (some (1 : Int)) none)) :: (ao18_5, .lst uo18_5) :: (a_state, .lst vs3) :: os) := w32.new n37
        have w38 : W F32 _ ((p37, .lst ((cutV uo18_5 (some (1 : Int)) none) ++ us32)) :: (D32, .lst us32) :: (p30, .lst (cutV uo18_5 (some (1 : Int)) none)) :: (a_state, .lst vs3) :: os) := w37.drop (pre := [_, _, _])
        have w39 : W F32 _ ((p37, .lst ((cutV uo18_5 (some (1 : Int)) none) ++ us32)) :: (p30, .lst (cutV uo18_5 (some (1 : Int)) none)) :: (a_state, .lst vs3) :: os) := w38.drop (pre := [_])
        have w40 : W F32 _ ((p37, .lst ((cutV uo18_5 (some (1 : Int)) none) ++ us32)) :: (a_state, .lst vs3) :: os) := w39.drop (pre := [_])
        exact hN27 _ (post_ok hm) _ _ ⟨_, _, _, rfl, s32, w40, h36⟩
      · skip
        exact hN27 _ (post_ok hm) _ _ ⟨_, _, _, rfl, Same.refl _, w18, ko18_5⟩
    intro g27 σ27 H27 hI hm
    obtain ⟨F27, ao27_5, uo27_5, rfl, s27, w27, ko27_5⟩ := hI
    replace h3 := A2.mono s27 h3
    replace sF := sF.trans s27
    try dsimp only
    refine joinS hm (fun (g42 : (List (Int × Int))) σ H' => ∃ (F' : Hp) (ao42_5 : Addr) (uo42_5 : List V) (o42_6 : Option V), σ = [some (.ref a_state), some (.int x_least), some (.int x_most), some (.int (x_least + y2.1)), some (.int y3.1), some (.ref ao42_5), o42_6, none, none, none, none, none, none] ∧ Same F27 F' ∧ W F' H' ((ao42_5, .lst uo42_5) :: (a_state, .lst vs3) :: os) ∧ A2 (rep K F') uo42_5 g42) ?_ ?_
    · intro N42 P42 hN42 hm
      refine ⟨_, rfl, _, _, rfl, rfl, _, rfl, ?_⟩
      refine post_ite hm (fun k43 hm => ?_) (fun k43 hm => ?_)
      · skip
        have h44 : A2 (rep K F27) [] ([] : (List (Int × Int))) := .nil
        refine ⟨(by show 0 ≤ sizeLine; decide), fun p45 n45 => ?_⟩
        have w45 : W F27 _ ((p45, .lst []) :: (ao27_5, .lst uo27_5) :: (a_state, .lst vs3) :: os) := w27.new n45
        have w46 : W F27 _ ((p45, .lst []) :: (a_state, .lst vs3) :: os) := w45.drop (pre := [_])
        obtain ⟨c48, hm⟩ := pb_rng hm
        refine ⟨_, rfl, _, rfl, c48.2.2.1, c48.2.2.2, ?_⟩
        refine forS (tw_rng0 (j := (x_least + y2.1))) hm (fun (g47 : (List (Int × Int))) σ H' => ∃ (F' : Hp) (vs47_0 : List V) (o47_6 : Option V), σ = [some (.ref a_state), some (.int x_least), some (.int x_most), some (.int (x_least + y2.1)), some (.int y3.1), some (.ref p45), o47_6, none, none, none, none, none, none] ∧ Same F27 F' ∧ W F' H' ((p45, .lst vs47_0) :: (a_state, .lst vs3) :: os) ∧ A2 (rep K F') vs47_0 g47) ⟨_, _, _, rfl, Same.refl _, w46, h44⟩ (fun _ _ _ _ => trivial) ?_ ?_
        · -- a turn
          intro b47 g47 x47 σ47 H47 H47' N47 P47 hI hy hN47 hm
          obtain ⟨F47, vs47_0, o47_6, rfl, s47, w47, h47_0⟩ := hI
          replace h3 := A2.mono s47 h3
          replace sF := sF.trans s47
          obtain ⟨rfl, rfl⟩ := hy
          obtain ⟨c49, hm⟩ := pb_rng hm
          refine ⟨_, rfl, .inl ⟨rfl, _, SqL.of (w47.get (pre := []))⟩, _, rfl, _, rfl, c49.2.2.1, c49.2.2.2, fun D50 nD50 => ?_⟩
          refine lcM (K := K) (tw_rng0 (j := b47)) hm w47 nD50 (fun F' H' acc s w => trivial) ?_ ?_
          · -- one turn
            intro b50 x50 F50 H50 H50' acc50 N50 P50 s50 w50 y50 hN50 hm
            replace h47_0 := A2.mono s50 h47_0
            replace h3 := A2.mono s50 h3
            replace sF := sF.trans s50
            obtain ⟨rfl, rfl⟩ := y50
            refine ⟨rfl, _, rfl, _, rfl, (by show 2 ≤ sizeLine; decide), fun p52 n52 => ?_⟩
            obtain ⟨F52, s52, w52, q52⟩ := w50.frzE (o := .tup [(.int b50), (.int b47)]) n52
            replace h47_0 := A2.mono s52 h47_0
            replace h3 := A2.mono s52 h3
            replace sF := sF.trans s52
            exact hN50 _ (post_ok hm) _ _ _ w52 s52 (rep_pair q52 rep_i rep_i)
          intro us50 F50 H50 ys50 s50 w50 gg50 hm
          replace h47_0 := A2.mono s50 h47_0
          replace h3 := A2.mono s50 h3
          replace sF := sF.trans s50
          obtain ⟨l54, z54, e54, hm⟩ := pn_extend hm
          refine ⟨_, _, _, _, rfl, rfl, (w50.get (pre := [_])), (w50.get (pre := [])), (A2.le2 h47_0 gg50 z54), ?_⟩
          have h54 : A2 (rep K F50) (vs47_0 ++ us50) l54 := e54 ▸ A2.append h47_0 gg50
          have w55 : W F50 _ ((D50, .lst us50) :: (p45, .lst (vs47_0 ++ us50)) :: (a_state, .lst vs3) :: os) := w50.set (pre := [_])
          have w56 : W F50 _ ((p45, .lst (vs47_0 ++ us50)) :: (a_state, .lst vs3) :: os) := w55.drop (pre := [])
          exact hN47 _ (post_ok hm) _ _ ⟨_, _, _, rfl, (s47.trans s50), w56, h54⟩
        intro g47 σ47 H47 hI hm
        obtain ⟨F47, vs47_0, o47_6, rfl, s47, w47, h47_0⟩ := hI
        replace h3 := A2.mono s47 h3
        replace sF := sF.trans s47
        exact hN42 _ (post_ok hm) _ _ ⟨_, _, _, _, rfl, s47, w47, h47_0⟩
      · skip
        exact hN42 _ (post_ok hm) _ _ ⟨_, _, _, _, rfl, Same.refl _, w27, ko27_5⟩
    intro g42 σ42 H42 hI hm
    obtain ⟨F42, ao42_5, uo42_5, o42_6, rfl, s42, w42, ko42_5⟩ := hI
    replace h3 := A2.mono s42 h3
    replace sF := sF.trans s42
    try dsimp only
    refine joinS hm (fun (g58 : (List (Int × Int)) × (List Int)) σ H' => ∃ (F' : Hp) (ao58_5 : Addr) (uo58_5 : List V) (vs58_0 : List V) (o58_7 : Option V) (o58_8 : Option V) (o58_9 : Option V), σ = [some (.ref a_state), some (.int x_least), some (.int x_most), some (.int (x_least + y2.1)), some (.int y3.1), some (.ref ao58_5), o42_6, o58_7, o58_8, o58_9, none, none, none] ∧ Same F42 F' ∧ W F' H' ((ao58_5, .lst uo58_5) :: (a_state, .lst vs58_0) :: os) ∧ A2 (rep K F') uo58_5 g58.1 ∧ A2 (rep K F') vs58_0 g58.2) ?_ ?_
    · intro N58 P58 hN58 hm
      refine ⟨_, rfl, _, _, rfl, rfl, _, rfl, ?_⟩
      refine post_ite hm (fun k59 hm => ?_) (fun k59 hm => ?_)
      · skip
        obtain ⟨c60, hm⟩ := pb_rng hm
        refine ⟨_, rfl, _, _, rfl, c60, fun D61 nD61 => ?_⟩
        refine lcMap (K := K) (tw_rng (i := (1 : Int)) (j := (x_least + y2.1))) hm (fun (g61 : (List Int)) F' os' => ∃ (vs61_0 : List V), os' = (ao42_5, .lst uo42_5) :: (a_state, .lst vs61_0) :: os ∧ A2 (rep K F') vs61_0 g61) w42 ⟨_, rfl, h3⟩ nD61 (fun g F' H' os' acc s w o => by obtain ⟨_, rfl, _⟩ := o; exact trivial) ?_ ?_
        · -- one turn
          intro b61 g61 x61 F61 H61 H61' os61 acc61 N61 P61 s61 w61 o61 y61 hN61 hm
          obtain ⟨vs61_0, rfl, h61_0⟩ := o61
          replace ko42_5 := A2.mono s61 ko42_5
          replace sF := sF.trans s61
          obtain ⟨rfl, rfl⟩ := y61
          have w63 : W F61 _ ((a_state, .lst vs61_0) :: (D61, .lst acc61) :: (ao42_5, .lst uo42_5) :: os) := w61.front (pre := [_, _])
          refine ⟨rfl, _, rfl, _, rfl, _, _, _, _, _, _, rfl, w63, h61_0, ?_⟩
          refine (post_bind hm).mono (fun y64 hm v64 vs64 F64 H64 w64 s64 r64 h64 => ?_) (fun _ z => z)
          replace ko42_5 := A2.mono s64 ko42_5
          replace sF := sF.trans s64
          obtain rfl : v64 = V.int y64.1 := r64
          refine ⟨_, rfl, (by show 2 ≤ sizeLine; decide), fun p65 n65 => ?_⟩
          obtain ⟨F65, s65, w65, q65⟩ := w64.frzE (o := .tup [(.int y64.1), (.int b61)]) n65
          replace ko42_5 := A2.mono s65 ko42_5
          replace h64 := A2.mono s65 h64
          replace sF := sF.trans s65
          have w66 : W F65 _ ((ao42_5, .lst uo42_5) :: (a_state, .lst vs64) :: (D61, .lst acc61) :: os) := w65.front (pre := [_, _])
          have w67 : W F65 _ ((D61, .lst acc61) :: (ao42_5, .lst uo42_5) :: (a_state, .lst vs64) :: os) := w66.front (pre := [_, _])
          exact hN61 _ _ (post_ok hm) _ _ _ _ w67 (s64.trans s65) ⟨_, rfl, h64⟩ (rep_pair q65 rep_i rep_i)
        intro g61 us61 F61 H61 os61 ys61 s61 w61 o61 gg61 hm
        obtain ⟨vs61_0, rfl, h61_0⟩ := o61
        replace ko42_5 := A2.mono s61 ko42_5
        replace sF := sF.trans s61
        have w69 : W F61 _ ((D61, .lst us61) :: (a_state, .lst vs61_0) :: os) := w61.drop (pre := [_])
        have w71 : W F61 _ ((a_state, .lst vs61_0) :: (D61, .lst us61) :: os) := w69.front (pre := [_])
        refine ⟨_, rfl, _, _, _, _, _, _, rfl, w71, h61_0, ?_⟩
        refine (post_bind hm).mono (fun y72 hm v72 vs72 F72 H72 w72 s72 r72 h72 => ?_) (fun _ z => z)
        replace gg61 := A2.mono s72 gg61
        replace sF := sF.trans s72
        obtain rfl : v72 = V.int y72.1 := r72
        obtain ⟨c73, hm⟩ := pb_rng hm
        refine ⟨_, rfl, c73.2.2.1, c73.2.2.2, ?_⟩
        refine forS (tw_rng0 (j := y72.1)) hm (fun (g70 : (List Int) × (List (Int × Int))) σ H' => ∃ (F' : Hp) (vs70_0 : List V) (vs70_1 : List V) (o70_8 : Option V) (o70_9 : Option V) (o70_7 : Option V), σ = [some (.ref a_state), some (.int x_least), some (.int x_most), some (.int (x_least + y2.1)), some (.int y3.1), some (.ref D61), o42_6, o70_7, o70_8, o70_9, none, none, none] ∧ Same F72 F' ∧ W F' H' ((a_state, .lst vs70_0) :: (D61, .lst vs70_1) :: os) ∧ A2 (rep K F') vs70_0 g70.1 ∧ A2 (rep K F') vs70_1 g70.2) ⟨_, _, _, _, _, _, rfl, Same.refl _, w72, h72, gg61⟩ (fun _ _ _ _ => trivial) ?_ ?_
        · -- a turn
          intro b70 g70 x70 σ70 H70 H70' N70 P70 hI hy hN70 hm
          obtain ⟨F70, vs70_0, vs70_1, o70_8, o70_9, o70_7, rfl, s70, w70, h70_0, h70_1⟩ := hI
          replace sF := sF.trans s70
          obtain ⟨rfl, rfl⟩ := hy
          refine ⟨_, rfl, _, rfl, _, _, _, _, _, _, rfl, w70, h70_0, ?_⟩
          refine (post_bind hm).mono (fun y74 hm v74 vs74 F74 H74 w74 s74 r74 h74 => ?_) (fun _ z => z)
          replace h70_1 := A2.mono s74 h70_1
          replace sF := sF.trans s74
          obtain rfl : v74 = V.int y74.1 := r74
          refine ⟨_, rfl, _, rfl, _, _, _, _, _, _, rfl, w74, h74, ?_⟩
          refine (post_bind hm).mono (fun y75 hm v75 vs75 F75 H75 w75 s75 r75 h75 => ?_) (fun _ z => z)
          replace h70_1 := A2.mono s75 h70_1
          replace sF := sF.trans s75
          obtain rfl : v75 = V.int y75.1 := r75
          refine ⟨_, _, rfl, ?_⟩
          try dsimp only
          refine stepIf ?_
          refine cutT (fun c H' => c = (((decide (y74.1 < y75.1)) && (!inB (y74.1, y75.1) g70.2))) ∧ ∃ F', Same F75 F' ∧ W F' H' ((a_state, .lst vs75) :: (D61, .lst vs70_1) :: os)) (fun Q76 q76 => ?_) (fun c76 H76 hc76 => ?_)
          · -- the ways
            refine ⟨_, rfl, _, rfl, _, _, rfl, rfl, _, rfl, ?_⟩
            refine ifB (fun k77 => ?_) (fun k77 => ?_)
            · skip
              refine ⟨_, rfl, _, rfl, (by show 2 ≤ sizeLine; decide), fun p78 n78 => ?_⟩
              obtain ⟨F78, s78, w78, q78⟩ := w75.frzE (o := .tup [(.int y74.1), (.int y75.1)]) n78
              replace h75 := A2.mono s78 h75
              replace h70_1 := A2.mono s78 h70_1
              replace sF := sF.trans s78
              exact ⟨_, rfl, ((y74.1, y75.1) : (Int × Int)), _, (Rep.mono w78.same (rep_pair q78 rep_i rep_i)), (rep_own (pre := [_]) w78 h70_1), _, rfl, q76 _ _ ⟨(by first | rfl | exact absurd k77 (by decide) | (simp [k77]; done) | ((try simp only [Bool.not_eq_true] at k77); simp only [k77, Bool.true_or, Bool.false_or, Bool.or_false, Bool.or_true, Bool.true_and, Bool.false_and, Bool.and_true, Bool.and_false])), _, s78, w78⟩⟩
            · skip
              exact q76 _ _ ⟨(by first | rfl | exact absurd k77 (by decide) | (simp [k77]; done) | ((try simp only [Bool.not_eq_true] at k77); simp only [k77, Bool.true_or, Bool.false_or, Bool.or_false, Bool.or_true, Bool.true_and, Bool.false_and, Bool.and_true, Bool.and_false])), _, Same.refl _, w75⟩
          obtain ⟨rfl, F76, s76, w76⟩ := hc76
          replace h75 := A2.mono s76 h75
          replace h70_1 := A2.mono s76 h70_1
          replace sF := sF.trans s76
          refine post_ite hm (fun k81 hm => ?_) (fun k81 hm => ?_)
          · skip
            refine ⟨_, rfl, .inl ⟨rfl, _, SqL.of (w76.get (pre := [_]))⟩, _, rfl, _, rfl, (by show 2 ≤ sizeLine; decide), fun p82 n82 => ?_⟩
            obtain ⟨F82, s82, w82, q82⟩ := w76.frzE (o := .tup [(.int y74.1), (.int y75.1)]) n82
            replace h75 := A2.mono s82 h75
            replace h70_1 := A2.mono s82 h70_1
            replace sF := sF.trans s82
            obtain ⟨l83, z83, e83, hm⟩ := pn_app hm
            refine ⟨_, _, _, rfl, rfl, (w82.get (pre := [_])), (A2.lt h70_1 z83), ?_⟩
            have h83 : A2 (rep K F82) (vs70_1 ++ [(V.ref p82)]) l83 := e83 ▸ A2.snoc h70_1 (rep_pair q82 rep_i rep_i)
            have w84 : W F82 _ ((a_state, .lst vs75) :: (D61, .lst (vs70_1 ++ [(V.ref p82)])) :: os) := w82.set (pre := [_])
            exact hN70 _ (post_ok hm) _ _ ⟨_, _, _, _, _, _, rfl, (s70.trans (s74.trans (s75.trans (s76.trans s82)))), w84, h75, h83⟩
          · skip
            exact hN70 _ (post_ok hm) _ _ ⟨_, _, _, _, _, _, rfl, (s70.trans (s74.trans (s75.trans s76))), w76, h75, h70_1⟩
        intro g70 σ70 H70 hI hm
        obtain ⟨F70, vs70_0, vs70_1, o70_8, o70_9, o70_7, rfl, s70, w70, h70_0, h70_1⟩ := hI
        replace sF := sF.trans s70
        have w85 : W F70 _ ((D61, .lst vs70_1) :: (a_state, .lst vs70_0) :: os) := w70.front (pre := [_])
        exact hN58 _ (post_ok hm) _ _ ⟨_, _, _, _, _, _, _, rfl, (s61.trans (s72.trans s70)), w85, h70_1, h70_0⟩
      · skip
        exact hN58 _ (post_ok hm) _ _ ⟨_, _, _, _, _, _, _, rfl, Same.refl _, w42, ko42_5, h3⟩
    intro g58 σ58 H58 hI hm
    obtain ⟨F58, ao58_5, uo58_5, vs58_0, o58_7, o58_8, o58_9, rfl, s58, w58, ko58_5, h58_0⟩ := hI
    replace sF := sF.trans s58
    have h87 : A2 (rep K F58) [] ([] : (List Int)) := .nil
    refine ⟨(by show 0 ≤ sizeLine; decide), fun p88 n88 => ?_⟩
    have w88 : W F58 _ ((p88, .lst []) :: (ao58_5, .lst uo58_5) :: (a_state, .lst vs58_0) :: os) := w58.new n88
    obtain ⟨c90, hm⟩ := pb_rng hm
    refine ⟨_, rfl, _, rfl, c90.2.2.1, c90.2.2.2, ?_⟩
    refine forS (tw_rng0 (j := (x_least + y2.1))) hm (fun (g89 : (List Int) × (List Int)) σ H' => ∃ (F' : Hp) (vs89_0 : List V) (vs89_1 : List V) (o89_11 : Option V), σ = [some (.ref a_state), some (.int x_least), some (.int x_most), some (.int (x_least + y2.1)), some (.int y3.1), some (.ref ao58_5), o42_6, o58_7, o58_8, o58_9, some (.ref p88), o89_11, none] ∧ Same F58 F' ∧ W F' H' ((p88, .lst vs89_0) :: (ao58_5, .lst uo58_5) :: (a_state, .lst vs89_1) :: os) ∧ A2 (rep K F') vs89_0 g89.1 ∧ A2 (rep K F') vs89_1 g89.2) ⟨_, _, _, _, rfl, Same.refl _, w88, h87, h58_0⟩ (fun _ _ _ _ => trivial) ?_ ?_
    · -- a turn
      intro b89 g89 x89 σ89 H89 H89' N89 P89 hI hy hN89 hm
      obtain ⟨F89, vs89_0, vs89_1, o89_11, rfl, s89, w89, h89_0, h89_1⟩ := hI
      replace ko58_5 := A2.mono s89 ko58_5
      replace sF := sF.trans s89
      obtain ⟨rfl, rfl⟩ := hy
      have w91 : W F89 _ ((a_state, .lst vs89_1) :: (p88, .lst vs89_0) :: (ao58_5, .lst uo58_5) :: os) := w89.front (pre := [_, _])
      refine ⟨_, rfl, .inl ⟨rfl, _, SqL.of (w89.get (pre := []))⟩, _, rfl, _, rfl, _, _, rfl, rfl, _, _, _, _, _, _, rfl, w91, h89_1, ?_⟩
      refine (post_bind hm).mono (fun y92 hm v92 vs92 F92 H92 w92 s92 r92 h92 => ?_) (fun _ z => z)
      replace h89_0 := A2.mono s92 h89_0
      replace ko58_5 := A2.mono s92 ko58_5
      replace sF := sF.trans s92
      obtain rfl : v92 = V.int y92.1 := r92
      obtain ⟨l93, z93, e93, hm⟩ := pn_ins hm
      refine ⟨_, rfl, _, _, _, _, rfl, rfl, (w92.get (pre := [_])), (line_ins h89_0 z93.1), z93.2.1, (by have := z93.2.2; omega), ?_⟩
      have h93 : A2 (rep K F92) (vs89_0.take y92.1.toNat ++ [(.int b89)] ++ vs89_0.drop y92.1.toNat) l93 := e93 ▸ A2.ins _ h89_0 rep_i
      have w94 : W F92 _ ((a_state, .lst vs92) :: (p88, .lst (vs89_0.take y92.1.toNat ++ [(.int b89)] ++ vs89_0.drop y92.1.toNat)) :: (ao58_5, .lst uo58_5) :: os) := w92.set (pre := [_])
      have w95 : W F92 _ ((ao58_5, .lst uo58_5) :: (a_state, .lst vs92) :: (p88, .lst (vs89_0.take y92.1.toNat ++ [(.int b89)] ++ vs89_0.drop y92.1.toNat)) :: os) := w94.front (pre := [_, _])
      have w96 : W F92 _ ((p88, .lst (vs89_0.take y92.1.toNat ++ [(.int b89)] ++ vs89_0.drop y92.1.toNat)) :: (ao58_5, .lst uo58_5) :: (a_state, .lst vs92) :: os) := w95.front (pre := [_, _])
      exact hN89 _ (post_ok hm) _ _ ⟨_, _, _, _, rfl, (s89.trans s92), w96, h93, h92⟩
    intro g89 σ89 H89 hI hm
    obtain ⟨F89, vs89_0, vs89_1, o89_11, rfl, s89, w89, h89_0, h89_1⟩ := hI
    replace ko58_5 := A2.mono s89 ko58_5
    replace sF := sF.trans s89
    refine ⟨_, rfl, _, rfl, _, rfl, ⟨_, SqL.of (w89.get (pre := [_]))⟩, fun D97 nD97 => ?_⟩
    refine lcM (K := K) (tw_list (a := ao58_5) ko58_5) hm w89 nD97 (fun F' H' acc s w => SqL.of (w.get (pre := [_, _]))) ?_ ?_
    · -- one turn
      intro b97 x97 F97 H97 H97' acc97 N97 P97 s97 w97 y97 hN97 hm
      replace h89_0 := A2.mono s97 h89_0
      replace ko58_5 := A2.mono s97 ko58_5
      replace h89_1 := A2.mono s97 h89_1
      replace sF := sF.trans s97
      obtain ⟨rfl, r99⟩ := y97
      replace r99 := Rep.mono s97 r99
      obtain ⟨a100, u100, z100, rfl, q100, r100a, r100b⟩ := r99
      obtain rfl : u100 = V.int b97.1 := r100a
      obtain rfl : z100 = V.int b97.2 := r100b
      obtain ⟨t101, e101, hm⟩ := pb_get hm
      obtain ⟨u101, f101, r101⟩ := A2.at h89_0 e101
      obtain rfl : u101 = V.int t101 := r101
      obtain ⟨t102, e102, hm⟩ := pb_get hm
      obtain ⟨u102, f102, r102⟩ := A2.at h89_0 e102
      obtain rfl : u102 = V.int t102 := r102
      refine ⟨_, _, rfl, SqT.of (w97.same _ _ q100), rfl, _, _, rfl, _, _, rfl, rfl, rfl, _, rfl, _, rfl, _, _, _, _, rfl, rfl, SqL.of (w97.get (pre := [_])), f101, _, rfl, _, rfl, _, _, _, _, rfl, rfl, SqL.of (w97.get (pre := [_])), f102, (by show 2 ≤ sizeLine; decide), fun p103 n103 => ?_⟩
      obtain ⟨F103, s103, w103, q103⟩ := w97.frzE (o := .tup [(.int t101), (.int t102)]) n103
      replace h89_0 := A2.mono s103 h89_0
      replace ko58_5 := A2.mono s103 ko58_5
      replace h89_1 := A2.mono s103 h89_1
      replace q100 := s103 _ _ q100
      replace sF := sF.trans s103
      exact hN97 _ (post_ok hm) _ _ _ w103 s103 (rep_pair q103 rep_i rep_i)
    intro us97 F97 H97 ys97 s97 w97 gg97 hm
    replace h89_0 := A2.mono s97 h89_0
    replace ko58_5 := A2.mono s97 ko58_5
    replace h89_1 := A2.mono s97 h89_1
    replace sF := sF.trans s97
    refine ⟨_, _, _, _, _, _, rfl, w97, gg97, ?_⟩
    refine (post_bind hm).mono (fun y105 hm v105 F105 H105 w105 s105 r105 => ?_) (fun _ z => z)
    replace h89_0 := A2.mono s105 h89_0
    replace ko58_5 := A2.mono s105 ko58_5
    replace h89_1 := A2.mono s105 h89_1
    replace gg97 := A2.mono s105 gg97
    replace sF := sF.trans s105
    obtain ⟨a106, u106, z106, rfl, q106, r106a, r106b⟩ := r105
    obtain rfl : u106 = V.int y105.1 := r106a
    obtain ⟨a107, vs107, rfl, q107, h107⟩ := r106b
    have w108 : W F105 _ ((p88, .lst vs89_0) :: (ao58_5, .lst uo58_5) :: (a_state, .lst vs89_1) :: os) := w105.drop (pre := [])
    have w109 : W F105 _ ((ao58_5, .lst uo58_5) :: (a_state, .lst vs89_1) :: os) := w108.drop (pre := [])
    have w110 : W F105 _ ((a_state, .lst vs89_1) :: os) := w109.drop (pre := [])
    exact (post_ok hm) _ _ _ _ w110 sF (rep_pair q106 rep_i (rep_tup q107 h107)) h89_1
def sp_law_things (K : Fg) : Sp := fun vs H Q E => ∃ (F : Hp) (os : List (Addr × HO)) (v_web : V) (x_web : (Int × (Tup (Int × Int)))) (x_kind : Str), vs = [v_web, .str x_kind] ∧ W F H (os) ∧ rep K F v_web x_web ∧ Post (law_things x_web x_kind) (RetL K F os Q) noX
theorem sc_law_things : FnScope ["web", "kind", "places"] ["web", "kind"] (defScope s_law_things) := ⟨rfl, rfl, rfl, by decide +kernel, rfl, by decide +kernel, by decide +kernel⟩
theorem ok_law_things (T : Tx K mg A FD) : FnOk P w K mg base CX0 1 (A 37) (FD 37) ["web", "kind"] (sp_law_things K) := by
  refine T.d37.fn.ok sc_law_things (fun vs H Q E h => ?_) (fun cdv Ar outer s H vs Q E hr h => ?_)
  · obtain ⟨F, os, v_web, x_web, x_kind, rfl, _⟩ := h
    rfl
  · obtain ⟨F0, os, v_web, x_web, x_kind, rfl, w0, r_web, hm⟩ := h
    have sF : Same F0 F0 := Same.refl _
    obtain ⟨a1, u1, z1, rfl, q1, r1a, r1b⟩ := r_web
    obtain rfl : u1 = V.int x_web.1 := r1a
    obtain ⟨a2, vs2, rfl, q2, h2⟩ := r1b
    refine ⟨_, (pss_cons (ps_set (i := 2) sc_law_things.nd rfl (Or.inl rfl) (pe_listRg rfl (by rfl) T.n_list (prg_1 (by rfl) T.n_range (pe_ix (ix_tupK (K := K) rfl) (pv 0) pe_int (fun _ _ => rfl))))) (pss_one (ps_ret (pe_op op_cat (pe_op op_rep (pv 2) (pe_callTy call_intB (by rfl) T.n_int (by decide +kernel) (pa_cons (pe_cmpR op_neS (pv 1) pe_str (nomark _)) pa_nil))) (pe_op op_rep (pe_callTy (call_list_ofK (K := K) rfl) (by rfl) T.n_list (by decide +kernel) (pa_cons (pe_ix (ix_tupK (K := K) rfl) (pv 0) pe_int (fun _ _ => rfl)) pa_nil)) (pe_callTy call_intB (by rfl) T.n_int (by decide +kernel) (pa_cons (pe_cmpR op_neS (pv 1) pe_str (nomark _)) pa_nil))))))), ?_⟩
    obtain ⟨l3, z3, e3, hm⟩ := pb_lrng hm
    have h3 : A2 (rep K F0) (rgV 0 x_web.1) l3 := by rw [e3, rgV_eq]; exact A2.of_ints
    refine ⟨_, rfl, _, _, _, _, rfl, rfl, SqT.of (w0.same _ _ q1), rfl, _, rfl, z3, fun p4 n4 => ?_⟩
    have w4 : W F0 _ ((p4, .lst (rgV 0 x_web.1)) :: os) := w0.new n4
    obtain ⟨F5, s5, w5, q5⟩ : ∃ F', Same F0 F' ∧ W F' _ (os) ∧ F' p4 = some (.lst (rgV 0 x_web.1)) := w4.freezeE (pre := [])
    replace q1 := s5 _ _ q1
    replace q2 := s5 _ _ q2
    replace h2 := A2.mono s5 h2
    replace h3 := A2.mono s5 h3
    replace sF := sF.trans s5
    obtain ⟨l6, z6, e6, hm⟩ := pb_rep hm
    have h6 : A2 (rep K F5) (List.replicate (b2i (!decide (x_kind = ("ties" : Str)))).toNat (rgV 0 x_web.1)).flatten l6 := e6 ▸ A2.flat h3 _
    refine ⟨_, rfl, _, rfl, _, _, rfl, rfl, _, rfl, _, _, _, rfl, rfl, (w5.same _ _ q5), z6.1, z6.2.1, (by rw [h3.length]; exact z6.2.2), fun p7 n7 => ?_⟩
    have w7 : W F5 _ ((p7, .lst (List.replicate (b2i (!decide (x_kind = ("ties" : Str)))).toNat (rgV 0 x_web.1)).flatten) :: os) := w5.new n7
    have h8 : A2 (rep K F5) vs2 x_web.2.l := h2
    refine ⟨_, rfl, _, _, _, _, rfl, rfl, SqT.of (w7.same _ _ q1), rfl, _, _, rfl, .inr (SqT.of (w7.same _ _ q2)), fun p9 n9 => ?_⟩
    have w9 : W F5 _ ((p9, .lst vs2) :: (p7, .lst (List.replicate (b2i (!decide (x_kind = ("ties" : Str)))).toNat (rgV 0 x_web.1)).flatten) :: os) := w7.new n9
    obtain ⟨l10, z10, e10, hm⟩ := pb_rep hm
    have h10 : A2 (rep K F5) (List.replicate (b2i (!decide (x_kind = ("places" : Str)))).toNat vs2).flatten l10 := e10 ▸ A2.flat h8 _
    refine ⟨_, rfl, _, _, rfl, rfl, _, rfl, _, _, _, rfl, rfl, (w9.get (pre := [])), z10.1, z10.2.1, (by rw [h8.length]; exact z10.2.2), fun p11 n11 => ?_⟩
    have w11 : W F5 _ ((p11, .lst (List.replicate (b2i (!decide (x_kind = ("places" : Str)))).toNat vs2).flatten) :: (p9, .lst vs2) :: (p7, .lst (List.replicate (b2i (!decide (x_kind = ("ties" : Str)))).toNat (rgV 0 x_web.1)).flatten) :: os) := w9.new n11
    have h12 : A2 (rep K F5) (List.replicate (b2i (!decide (x_kind = ("ties" : Str)))).toNat (rgV 0 x_web.1)).flatten (mkpl l6) := A2.pl h6
    have h13 : A2 (rep K F5) (List.replicate (b2i (!decide (x_kind = ("places" : Str)))).toNat vs2).flatten (mkti l10) := A2.ti h10
    obtain ⟨l14, z14, e14, hm⟩ := pn_extend hm
    have h14 : A2 (rep K F5) ((List.replicate (b2i (!decide (x_kind = ("ties" : Str)))).toNat (rgV 0 x_web.1)).flatten ++ (List.replicate (b2i (!decide (x_kind = ("places" : Str)))).toNat vs2).flatten) l14 := e14 ▸ A2.append h12 h13
    refine ⟨_, _, _, _, rfl, rfl, (w11.get (pre := [_, _])), (w11.get (pre := [])), (A2.le2 h12 h13 z14), fun p15 n15 => ?_⟩
    generalize (((List.replicate (b2i (!decide (x_kind = ("ties" : Str)))).toNat (rgV 0 x_web.1)).flatten ++ (List.replicate (b2i (!decide (x_kind = ("places" : Str)))).toNat vs2).flatten) : List V) = u15 at h14 ⊢
    have w15 : W F5 _ ((p15, .lst u15) :: (p11, .lst (List.replicate (b2i (!decide (x_kind = ("places" : Str)))).toNat vs2).flatten) :: (p9, .lst vs2) :: (p7, .lst (List.replicate (b2i (!decide (x_kind = ("ties" : Str)))).toNat (rgV 0 x_web.1)).flatten) :: os) := w11.new n15
    have w16 : W F5 _ ((p15, .lst u15) :: (p9, .lst vs2) :: (p7, .lst (List.replicate (b2i (!decide (x_kind = ("ties" : Str)))).toNat (rgV 0 x_web.1)).flatten) :: os) := w15.drop (pre := [_])
    have w17 : W F5 _ ((p15, .lst u15) :: (p7, .lst (List.replicate (b2i (!decide (x_kind = ("ties" : Str)))).toNat (rgV 0 x_web.1)).flatten) :: os) := w16.drop (pre := [_])
    have w18 : W F5 _ ((p15, .lst u15) :: os) := w17.drop (pre := [_])
    exact (post_ok hm) _ _ _ _ w18 sF h14
def sp_law_few (K : Fg) : Sp := fun vs H Q E => ∃ (F : Hp) (os : List (Addr × HO)) (a_state : Addr) (vs_state : List V) (x_state : (List Int)) (x_least : Int), vs = [.ref a_state, .int x_least] ∧ W F H ((a_state, .lst vs_state) :: os) ∧ A2 (rep K F) vs_state x_state ∧ Post (law_few x_state x_least) (RetM K F a_state os Q) noX
theorem sc_law_few : FnScope ["state", "least", "web", "kind"] ["state", "least"] (defScope s_law_few) := ⟨rfl, rfl, rfl, by decide +kernel, rfl, by decide +kernel, by decide +kernel⟩
theorem ok_law_few (T : Tx K mg A FD) : FnOk P w K mg base CX0 4 (A 38) (FD 38) ["state", "least"] (sp_law_few K) := by
  refine T.d38.fn.ok sc_law_few (fun vs H Q E h => ?_) (fun cdv Ar outer s H vs Q E hr h => ?_)
  · obtain ⟨F, os, a_state, vs_state, x_state, x_least, rfl, _⟩ := h
    rfl
  · obtain ⟨F0, os, a_state, vs_state, x_state, x_least, rfl, w0, h_state, hm⟩ := h
    have sF : Same F0 F0 := Same.refl _
    refine ⟨_, (pss_cons (ps_set (i := 2) sc_law_few.nd rfl (Or.inl rfl) (pe_call (ok_law_web T) (hr.mono (by decide)) (by rfl) T.d36.mg T.d36.fn.kp T.d36.b .nil pass0 (pa_cons (pv 0) (pa_cons (pv 1) (pa_cons pe_int pa_nil))))) (pss_cons (ps_set (i := 3) sc_law_few.nd rfl (Or.inl rfl) (pe_ix (ix_listK (K := K) rfl) (pe_lst (pa_cons pe_str (pa_cons pe_str (pa_cons pe_str pa_nil)))) (pe_call (ok_law_next T) (hr.mono (by decide)) (by rfl) T.d35.mg T.d35.fn.kp T.d35.b .nil pass0 (pa_cons (pv 0) (pa_cons pe_int pa_nil))) (fun _ _ => rfl))) (pss_cons (ps_if (pt_not (pt_chain op_le op_le pe_int (pe_callB (call_lenN (K := K) rfl) (by rfl) T.n_len (by decide +kernel) (pa_cons (pe_call (ok_law_things T) (hr.mono (by decide)) (by rfl) T.d37.mg T.d37.fn.kp T.d37.b .nil pass0 (pa_cons (pv 2) (pa_cons (pv 3) pa_nil))) pa_nil)) pe_int)) (pss_one (ps_set (i := 3) sc_law_few.nd rfl (Or.inl rfl) pe_str1)) pss_nil) (pss_one (ps_ret (pe_tup (pa_cons (pv 2) (pa_cons (pv 3) (pa_cons (pe_call (ok_law_things T) (hr.mono (by decide)) (by rfl) T.d37.mg T.d37.fn.kp T.d37.b .nil pass0 (pa_cons (pv 2) (pa_cons (pv 3) pa_nil))) pa_nil))))))))), ?_⟩
    refine ⟨_, rfl, _, rfl, _, _, _, _, _, _, _, rfl, w0, h_state, ?_⟩
    refine (post_bind hm).mono (fun y2 hm v2 vs2 F2 H2 w2 s2 r2 h2 => ?_) (fun _ z => z)
    replace sF := sF.trans s2
    obtain ⟨a3, u3, z3, rfl, q3, r3a, r3b⟩ := r2
    obtain rfl : u3 = V.int y2.1.1 := r3a
    obtain ⟨a4, vs4, rfl, q4, h4⟩ := r3b
    have h5 : A2 (rep K F2) [(.str "places"), (.str "ties"), (.str "all")] ([("places" : Str), ("ties" : Str), ("all" : Str)] : (List Str)) := .cons rep_s (.cons rep_s (.cons rep_s (.nil)))
    refine ⟨(by show 3 ≤ sizeLine; decide), fun p6 n6 => ?_⟩
    have w6 : W F2 _ ((p6, .lst [(.str "places"), (.str "ties"), (.str "all")]) :: (a_state, .lst vs2) :: os) := w2.new n6
    have w7 : W F2 _ ((a_state, .lst vs2) :: (p6, .lst [(.str "places"), (.str "ties"), (.str "all")]) :: os) := w6.front (pre := [_])
    refine ⟨_, rfl, _, _, _, _, _, _, rfl, w7, h2, ?_⟩
    refine (post_bind hm).mono (fun y8 hm v8 vs8 F8 H8 w8 s8 r8 h8 => ?_) (fun _ z => z)
    replace q3 := s8 _ _ q3
    replace h4 := A2.mono s8 h4
    replace q4 := s8 _ _ q4
    replace h5 := A2.mono s8 h5
    replace sF := sF.trans s8
    obtain rfl : v8 = V.int y8.1 := r8
    obtain ⟨t9, e9, hm⟩ := pb_get hm
    obtain ⟨u9, f9, r9⟩ := A2.at h5 e9
    obtain rfl : u9 = V.str t9 := r9
    have w10 : W F8 _ ((a_state, .lst vs8) :: os) := w8.drop (pre := [_])
    refine ⟨_, _, _, _, rfl, rfl, SqL.of (w8.get (pre := [_])), f9, ?_⟩
    refine stepN ?_
    try dsimp only
    refine joinS hm (fun (g11 : Str) σ H' => ∃ (F' : Hp), σ = [some (.ref a_state), some (.int x_least), some (.ref a3), some (.str g11)] ∧ Same F8 F' ∧ W F' H' ((a_state, .lst vs8) :: os)) ?_ ?_
    · intro N11 P11 hN11 hm
      refine stepIf ?_
      refine stepNot ?_
      refine joinT hm (fun (j12 : Bool) c H' => c = j12 ∧ ∃ (F' : Hp), Same F8 F' ∧ W F' H' ((a_state, .lst vs8) :: os)) ?_ ?_
      · intro Q12 P12 q12 hm
        refine ⟨_, rfl, _, rfl, _, _, _, (y2.1 : (Int × (Tup (Int × Int)))), _, rfl, w10, (rep_pair q3 rep_i (rep_tup q4 h4)), ?_⟩
        refine (post_bind hm).mono (fun y13 hm p13 us13 F13 H13 w13 s13 g13 => ?_) (fun _ z => z)
        replace q3 := s13 _ _ q3
        replace h4 := A2.mono s13 h4
        replace q4 := s13 _ _ q4
        replace h8 := A2.mono s13 h8
        replace sF := sF.trans s13
        refine ⟨_, _, _, rfl, .inl (SqL.of (w13.get (pre := []))), g13.length, _, _, rfl, rfl, _, rfl, ?_⟩
        refine post_ite hm (fun k15 hm => ?_) (fun k15 hm => ?_)
        · skip
          have w17 : W F13 _ ((a_state, .lst vs8) :: os) := w13.drop (pre := [])
          exact ⟨_, _, rfl, rfl, _, rfl, q12 _ (post_ok hm) _ _ ⟨rfl, _, s13, w17⟩⟩
        · skip
          have w19 : W F13 _ ((a_state, .lst vs8) :: os) := w13.drop (pre := [])
          exact ⟨_, rfl, q12 _ (post_ok hm) _ _ ⟨rfl, _, s13, w19⟩⟩
      intro j12 c12 H12 hc12 hm
      obtain ⟨rfl, F12, s12, w12⟩ := hc12
      replace q3 := s12 _ _ q3
      replace h4 := A2.mono s12 h4
      replace q4 := s12 _ _ q4
      replace h8 := A2.mono s12 h8
      replace sF := sF.trans s12
      refine post_ite hm (fun k20 hm => ?_) (fun k20 hm => ?_)
      · skip
        exact ⟨trivial, hN11 _ (post_ok hm) _ _ ⟨_, rfl, s12, w12⟩⟩
      · skip
        exact hN11 _ (post_ok hm) _ _ ⟨_, rfl, s12, w12⟩
    intro g11 σ11 H11 hI hm
    obtain ⟨F11, rfl, s11, w11⟩ := hI
    replace q3 := s11 _ _ q3
    replace h4 := A2.mono s11 h4
    replace q4 := s11 _ _ q4
    replace h8 := A2.mono s11 h8
    replace sF := sF.trans s11
    refine ⟨_, rfl, _, rfl, _, rfl, _, rfl, _, _, _, (y2.1 : (Int × (Tup (Int × Int)))), _, rfl, w11, (rep_pair q3 rep_i (rep_tup q4 h4)), ?_⟩
    refine (post_bind hm).mono (fun y21 hm p21 us21 F21 H21 w21 s21 g21 => ?_) (fun _ z => z)
    replace q3 := s21 _ _ q3
    replace h4 := A2.mono s21 h4
    replace q4 := s21 _ _ q4
    replace h8 := A2.mono s21 h8
    replace sF := sF.trans s21
    obtain ⟨F23, s23, w23, q23⟩ : ∃ F', Same F21 F' ∧ W F' _ ((a_state, .lst vs8) :: os) ∧ F' p21 = some (.lst us21) := w21.freezeE (pre := [])
    replace q3 := s23 _ _ q3
    replace h4 := A2.mono s23 h4
    replace q4 := s23 _ _ q4
    replace h8 := A2.mono s23 h8
    replace g21 := A2.mono s23 g21
    replace sF := sF.trans s23
    refine ⟨(by show 3 ≤ sizeLine; decide), fun p24 n24 => ?_⟩
    obtain ⟨F24, s24, w24, q24⟩ := w23.frzE (o := .tup [(.ref a3), (.str g11), (.ref p21)]) n24
    replace q3 := s24 _ _ q3
    replace h4 := A2.mono s24 h4
    replace q4 := s24 _ _ q4
    replace h8 := A2.mono s24 h8
    replace g21 := A2.mono s24 g21
    replace q23 := s24 _ _ q23
    replace sF := sF.trans s24
    exact (post_ok hm) _ _ _ _ w24 sF (rep_nt3 q24 (rep_pair q3 rep_i (rep_tup q4 h4)) rep_s (rep_lst q23 g21)) h8
def sp_law_thing (K : Fg) : Sp := fun vs H Q E => ∃ (F : Hp) (os : List (Addr × HO)) (v_names : V) (x_names : (List Int)) (v_thing : V) (x_thing : Thing), vs = [v_names, v_thing] ∧ W F H (os) ∧ rep K F v_names x_names ∧ rep K F v_thing x_thing ∧ Post (law_thing x_names x_thing) (Ret K F os Q) noX
theorem sc_law_thing : FnScope ["names", "thing"] ["names", "thing"] (defScope s_law_thing) := ⟨rfl, rfl, rfl, by decide +kernel, rfl, by decide +kernel, by decide +kernel⟩
theorem ok_law_thing (T : Tx K mg A FD) : FnOk P w K mg base CX0 1 (A 39) (FD 39) ["names", "thing"] (sp_law_thing K) := by
  refine T.d39.fn.ok sc_law_thing (fun vs H Q E h => ?_) (fun cdv Ar outer s H vs Q E hr h => ?_)
  · obtain ⟨F, os, v_names, x_names, v_thing, x_thing, rfl, _⟩ := h
    rfl
  · obtain ⟨F0, os, v_names, x_names, v_thing, x_thing, rfl, w0, r_names, r_thing, hm⟩ := h
    have sF : Same F0 F0 := Same.refl _
    obtain ⟨a1, vs1, rfl, q1, h1⟩ := r_names
    refine ⟨_, (pss_cons (ps_if (pt_val (pe_callB (call_isB (K := K) rfl) (by rfl) T.n_isinstance (by decide +kernel) (pa_cons (pv 1) (pa_cons (pe_bltn (v := .ty "tuple") (by rfl) T.n_tuple (by decide +kernel) rfl) pa_nil)))) (pss_one (ps_ret (pe_tup (pa_cons (pe_callB (call_min2 rfl) (by rfl) T.n_min (by decide +kernel) (pa_cons (pe_ix (ix_listK (K := K) rfl) (pv 0) (pe_ix (ix_tupK (K := K) rfl) (pv 1) pe_int (fun _ _ => rfl)) (fun _ _ => rfl)) (pa_cons (pe_ix (ix_listK (K := K) rfl) (pv 0) (pe_ix (ix_tupK (K := K) rfl) (pv 1) pe_int (fun _ _ => rfl)) (fun _ _ => rfl)) pa_nil))) (pa_cons (pe_callB (call_max2 rfl) (by rfl) T.n_max (by decide +kernel) (pa_cons (pe_ix (ix_listK (K := K) rfl) (pv 0) (pe_ix (ix_tupK (K := K) rfl) (pv 1) pe_int (fun _ _ => rfl)) (fun _ _ => rfl)) (pa_cons (pe_ix (ix_listK (K := K) rfl) (pv 0) (pe_ix (ix_tupK (K := K) rfl) (pv 1) pe_int (fun _ _ => rfl)) (fun _ _ => rfl)) pa_nil))) pa_nil))))) pss_nil) (pss_one (ps_ret (pe_ix (ix_listK (K := K) rfl) (pv 0) (pv 1) (fun _ _ => rfl))))), ?_⟩
    obtain ⟨a3, y3, k3⟩ := th_tuple w0.same r_thing
    refine ⟨_, rfl, _, _, _, (!x_thing.isPl), rfl, y3, k3, _, rfl, ?_⟩
    refine post_ite hm (fun k4 hm => ?_) (fun k4 hm => ?_)
    · skip
      obtain ⟨t5, e5, hm⟩ := pb_asTi hm
      have r5 : rep K F0 v_thing (t5 : Int × Int) := (show rep K F0 v_thing (Thing.ti t5.1 t5.2) from e5 ▸ r_thing)
      obtain ⟨a6, u6, z6, rfl, q6, r6a, r6b⟩ := r5
      obtain rfl : u6 = V.int t5.1 := r6a
      obtain rfl : z6 = V.int t5.2 := r6b
      obtain ⟨t7, e7, hm⟩ := pb_get hm
      obtain ⟨u7, f7, r7⟩ := A2.at h1 e7
      obtain rfl : u7 = V.int t7 := r7
      obtain ⟨t8, e8, hm⟩ := pb_get hm
      obtain ⟨u8, f8, r8⟩ := A2.at h1 e8
      obtain rfl : u8 = V.int t8 := r8
      obtain ⟨t9, e9, hm⟩ := pb_get hm
      obtain ⟨u9, f9, r9⟩ := A2.at h1 e9
      obtain rfl : u9 = V.int t9 := r9
      obtain ⟨t10, e10, hm⟩ := pb_get hm
      obtain ⟨u10, f10, r10⟩ := A2.at h1 e10
      obtain rfl : u10 = V.int t10 := r10
      refine ⟨_, rfl, _, rfl, _, _, _, _, rfl, rfl, SqT.of (w0.same _ _ q6), rfl, _, _, _, _, rfl, rfl, SqL.of (w0.same _ _ q1), f7, _, rfl, _, rfl, _, _, _, _, rfl, rfl, SqT.of (w0.same _ _ q6), rfl, _, _, _, _, rfl, rfl, SqL.of (w0.same _ _ q1), f8, _, _, rfl, _, rfl, _, rfl, _, _, _, _, rfl, rfl, SqT.of (w0.same _ _ q6), rfl, _, _, _, _, rfl, rfl, SqL.of (w0.same _ _ q1), f9, _, rfl, _, rfl, _, _, _, _, rfl, rfl, SqT.of (w0.same _ _ q6), rfl, _, _, _, _, rfl, rfl, SqL.of (w0.same _ _ q1), f10, _, _, rfl, (by show 2 ≤ sizeLine; decide), fun p11 n11 => ?_⟩
      obtain ⟨F11, s11, w11, q11⟩ := w0.frzE (o := .tup [(.int (min2 t7 t8)), (.int (max2 t9 t10))]) n11
      replace q1 := s11 _ _ q1
      replace h1 := A2.mono s11 h1
      replace r_thing := Rep.mono s11 r_thing
      replace q6 := s11 _ _ q6
      replace sF := sF.trans s11
      exact (post_ok hm) _ _ _ w11 sF (rep_ti (rep_pair q11 rep_i rep_i))
    · skip
      obtain ⟨t12, e12, hm⟩ := pb_asPl hm
      have r12 : v_thing = V.int t12 := (show rep K F0 v_thing (Thing.pl t12) from e12 ▸ r_thing)
      subst r12
      obtain ⟨t13, e13, hm⟩ := pb_get hm
      obtain ⟨u13, f13, r13⟩ := A2.at h1 e13
      obtain rfl : u13 = V.int t13 := r13
      exact ⟨_, rfl, _, rfl, _, _, _, _, rfl, rfl, SqL.of (w0.same _ _ q1), f13, (post_ok hm) _ _ _ w0 sF rep_pl⟩
def sp_law_plan (d : Nat) (K : Fg) : Sp := fun vs H Q E => ∃ (F : Hp) (os : List (Addr × HO)) (v_names : V) (x_names : (List Int)) (v_plan : V) (x_plan : Pl), vs = [v_names, v_plan] ∧ W F H (os) ∧ rep K F v_names x_names ∧ rep K F v_plan x_plan ∧ Post (law_plan d x_names x_plan) (Ret K F os Q) noX
theorem sc_law_plan : FnScope ["names", "plan", "parts", "answer", "rest"] ["names", "plan"] (defScope s_law_plan) := ⟨rfl, rfl, rfl, by decide +kernel, rfl, by decide +kernel, by decide +kernel⟩
theorem ok_law_plan (T : Tx K mg A FD) (d : Nat) : FnOk P w K mg base CX0 (2 + d) (A 40) (FD 40) ["names", "plan"] (sp_law_plan d K) := by
  induction d with
  | zero =>
    refine T.d40.fn.ok (k := 1) sc_law_plan (fun vs H Q E h => ?_) (fun cdv Ar outer s H vs Q E hr h => ?_)
    · obtain ⟨F, os, v_names, x_names, v_plan, x_plan, rfl, _⟩ := h
      rfl
    · obtain ⟨F0, os, v_names, x_names, v_plan, x_plan, rfl, w0, r_names, r_plan, hm⟩ := h
      refine ⟨_, (pss_cons ps_absurd (pss_cons ps_absurd (pss_one ps_absurd))), ?_⟩
      exact hm
  | succ d ih =>
    refine T.d40.fn.ok (k := 2 + d) sc_law_plan (fun vs H Q E h => ?_) (fun cdv Ar outer s H vs Q E hr h => ?_)
    · obtain ⟨F, os, v_names, x_names, v_plan, x_plan, rfl, _⟩ := h
      rfl
    · obtain ⟨F0, os, v_names, x_names, v_plan, x_plan, rfl, w0, r_names, r_plan, hm⟩ := h
      rw [law_plan] at hm
      have sF : Same F0 F0 := Same.refl _
      obtain ⟨a1, vs1, rfl, q1, h1⟩ := r_names
      have r2 : rep K F0 v_plan (x_plan : Pl) := r_plan
      obtain ⟨a2, u2, t2, rfl, q2, o2, l2⟩ := pl_openN r2
      refine ⟨_, (pss_cons (ps_if (pt_cmpR op_eqS (pe_ix (ix_tupK (K := K) rfl) (pv 1) pe_int (fun _ _ => rfl)) pe_str (nomark _)) (pss_one (ps_ret (pe_tup (pa_cons pe_str (pa_cons (pe_call (ok_law_thing T) (hr.mono (by first | decide | omega)) (by rfl) T.d39.mg T.d39.fn.kp T.d39.b .nil pass0 (pa_cons (pv 0) (pa_cons (pe_ix (ix_tupK (K := K) rfl) (pv 1) pe_int (fun _ _ => rfl)) pa_nil))) pa_nil))))) pss_nil) (pss_cons (ps_setLc (i := 2) (own := [("answer", 3), ("rest", 4)]) (g := _) (by rfl) sc_law_plan.nd rfl rfl (sw_true rfl rfl rfl (by decide +kernel)) (pi_tupK (K := K) rfl (pe_ix (ix_tupK (K := K) rfl) (pv 1) pe_int (fun _ _ => rfl))) (blkOk_by (own := [("answer", 3), ("rest", 4)]) (N := ["names", "plan", "parts", "answer", "rest"]) (sc := defScope s_law_plan) (by decide +kernel)) (fun _ _ _ _ _ => (pg_k (K := K) (t := fun K => gTup K 2 _) rfl (pg_tup (n := 2) rfl (pgs_cons (pg_name (i := 3) sc_law_plan.nd rfl (Or.inl rfl)) (pgs_cons (pg_name (i := 4) sc_law_plan.nd rfl (Or.inl rfl)) pgs_nil))))) (fun _ _ _ _ _ => pts_nil) (fun _ _ _ _ _ => (pe_tup (pa_cons (pv 3) (pa_cons (pe_call ih (hr.mono (by first | decide | omega)) (by rfl) T.d40.mg T.d40.fn.kp T.d40.b .nil pass0 (pa_cons (pv 0) (pa_cons (pv 4) pa_nil))) pa_nil))))) (pss_one (ps_ret (pe_tup (pa_cons pe_str (pa_cons (pe_ix (ix_listK (K := K) rfl) (pv 0) (pe_ix (ix_tupK (K := K) rfl) (pv 1) pe_int (fun _ _ => rfl)) (fun _ _ => rfl)) (pa_cons (pe_callTy (call_tuple_ofK (K := K) rfl) (by rfl) T.n_tuple (by decide +kernel) (pa_cons (pv 2) pa_nil)) pa_nil)))))))), ?_⟩
      refine ⟨_, rfl, _, _, _, _, rfl, rfl, SqT.of (w0.same _ _ q2), at_0, _, _, rfl, rfl, _, rfl, ?_⟩
      refine post_ite hm (fun k3 hm => ?_) (fun k3 hm => ?_)
      · skip
        obtain ⟨t4, e4, hm⟩ := pb_asIs hm
        have o4 : rep K F0 u2 t4 := (show (x_plan).one = t4 from by rw [e4]; rfl) ▸ o2
        refine ⟨_, rfl, _, rfl, _, _, _, _, rfl, rfl, SqT.of (w0.same _ _ q2), at_1, _, _, _, (x_names : (List Int)), _, (t4 : Thing), rfl, w0, (rep_lst q1 h1), o4, ?_⟩
        refine (post_bind hm).mono (fun y5 hm v5 F5 H5 w5 s5 r5 => ?_) (fun _ z => z)
        replace q1 := s5 _ _ q1
        replace h1 := A2.mono s5 h1
        replace q2 := s5 _ _ q2
        replace r2 := Rep.mono s5 r2
        replace o2 := Rep.mono s5 o2
        replace o4 := Rep.mono s5 o4
        replace sF := sF.trans s5
        refine ⟨(by show 2 ≤ sizeLine; decide), fun p7 n7 => ?_⟩
        obtain ⟨F7, s7, w7, q7⟩ := w5.frzE (o := .tup [(.str "is"), v5]) n7
        replace q1 := s7 _ _ q1
        replace h1 := A2.mono s7 h1
        replace q2 := s7 _ _ q2
        replace r2 := Rep.mono s7 r2
        replace o2 := Rep.mono s7 o2
        replace o4 := Rep.mono s7 o4
        replace r5 := Rep.mono s7 r5
        replace sF := sF.trans s7
        have r7 : rep K F7 (.ref p7) ((Pl.is y5) : Pl) := (rep_is q7 r5)
        exact (post_ok hm) _ _ _ w7 sF r7
      · skip
        obtain ⟨i8, l8, e8, hm⟩ := pb_asAsk hm
        have r8 : rep K F0 (.ref a2) (Pl.ask i8 l8) := e8 ▸ r2
        obtain ⟨p8, b8, vs8, z8, q8, qb8, h8⟩ := ask_open r8
        have z8 : a2 = p8 := V.ref.inj z8
        subst z8
        refine ⟨_, rfl, _, _, _, _, rfl, rfl, SqT.of (w0.same _ _ q8), rfl, _, rfl, ⟨_, SqT.of (w0.same _ _ qb8)⟩, fun D9 nD9 => ?_⟩
        refine lcM (K := K) (tw_tup (a := b8) h8) hm w0 nD9 (fun F' H' acc s w => SqT.of (w.same _ _ (s _ _ qb8))) ?_ ?_
        · -- one turn
          intro b9 x9 F9 H9 H9' acc9 N9 P9 s9 w9 y9 hN9 hm
          replace q1 := s9 _ _ q1
          replace h1 := A2.mono s9 h1
          replace q2 := s9 _ _ q2
          replace r2 := Rep.mono s9 r2
          replace o2 := Rep.mono s9 o2
          replace r8 := Rep.mono s9 r8
          replace q8 := s9 _ _ q8
          replace qb8 := s9 _ _ qb8
          replace h8 := A2.mono s9 h8
          replace sF := sF.trans s9
          obtain ⟨rfl, r11⟩ := y9
          replace r11 := Rep.mono s9 r11
          obtain ⟨a12, u12, z12, rfl, q12, r12a, r12b⟩ := r11
          obtain rfl : u12 = V.int b9.1 := r12a
          have r13 : rep K F9 z12 (b9.2 : Pl) := r12b
          obtain ⟨a13, u13, t13, rfl, q13, o13, l13⟩ := pl_openN r13
          refine ⟨_, _, rfl, SqT.of (w9.same _ _ q12), rfl, _, _, rfl, _, _, rfl, rfl, rfl, _, rfl, _, rfl, _, rfl, _, _, _, (x_names : (List Int)), _, (b9.2 : Pl), rfl, w9, (rep_lst q1 h1), r13, ?_⟩
          refine (post_bind hm).mono (fun y14 hm v14 F14 H14 w14 s14 r14 => ?_) (fun _ z => z)
          replace q1 := s14 _ _ q1
          replace h1 := A2.mono s14 h1
          replace q2 := s14 _ _ q2
          replace r2 := Rep.mono s14 r2
          replace o2 := Rep.mono s14 o2
          replace r8 := Rep.mono s14 r8
          replace q8 := s14 _ _ q8
          replace qb8 := s14 _ _ qb8
          replace h8 := A2.mono s14 h8
          replace q12 := s14 _ _ q12
          replace q13 := s14 _ _ q13
          replace r13 := Rep.mono s14 r13
          replace o13 := Rep.mono s14 o13
          replace sF := sF.trans s14
          have r15 : rep K F14 v14 (y14 : Pl) := r14
          obtain ⟨a15, u15, t15, rfl, q15, o15, l15⟩ := pl_openN r15
          refine ⟨(by show 2 ≤ sizeLine; decide), fun p16 n16 => ?_⟩
          obtain ⟨F16, s16, w16, q16⟩ := w14.frzE (o := .tup [(.int b9.1), (.ref a15)]) n16
          replace q1 := s16 _ _ q1
          replace h1 := A2.mono s16 h1
          replace q2 := s16 _ _ q2
          replace r2 := Rep.mono s16 r2
          replace o2 := Rep.mono s16 o2
          replace r8 := Rep.mono s16 r8
          replace q8 := s16 _ _ q8
          replace qb8 := s16 _ _ qb8
          replace h8 := A2.mono s16 h8
          replace q12 := s16 _ _ q12
          replace q13 := s16 _ _ q13
          replace r13 := Rep.mono s16 r13
          replace o13 := Rep.mono s16 o13
          replace q15 := s16 _ _ q15
          replace r15 := Rep.mono s16 r15
          replace o15 := Rep.mono s16 o15
          replace sF := sF.trans s16
          exact hN9 _ (post_ok hm) _ _ _ w16 (s14.trans s16) (rep_pair q16 rep_i r15)
        intro us9 F9 H9 ys9 s9 w9 gg9 hm
        replace q1 := s9 _ _ q1
        replace h1 := A2.mono s9 h1
        replace q2 := s9 _ _ q2
        replace r2 := Rep.mono s9 r2
        replace o2 := Rep.mono s9 o2
        replace r8 := Rep.mono s9 r8
        replace q8 := s9 _ _ q8
        replace qb8 := s9 _ _ qb8
        replace h8 := A2.mono s9 h8
        replace sF := sF.trans s9
        obtain ⟨F18, s18, w18, q18⟩ : ∃ F', Same F9 F' ∧ W F' _ (os) ∧ F' D9 = some (.lst us9) := w9.freezeE (pre := [])
        replace q1 := s18 _ _ q1
        replace h1 := A2.mono s18 h1
        replace q2 := s18 _ _ q2
        replace r2 := Rep.mono s18 r2
        replace o2 := Rep.mono s18 o2
        replace r8 := Rep.mono s18 r8
        replace q8 := s18 _ _ q8
        replace qb8 := s18 _ _ qb8
        replace h8 := A2.mono s18 h8
        replace gg9 := A2.mono s18 gg9
        replace sF := sF.trans s18
        obtain ⟨t19, e19, hm⟩ := pb_get hm
        obtain ⟨u19, f19, r19⟩ := A2.at h1 e19
        obtain rfl : u19 = V.int t19 := r19
        have h20 : A2 (rep K F18) us9 ys9 := gg9
        refine ⟨_, rfl, _, rfl, _, _, _, _, rfl, rfl, SqT.of (w18.same _ _ q8), rfl, _, _, _, _, rfl, rfl, SqL.of (w18.same _ _ q1), f19, _, rfl, _, _, rfl, .inl ⟨SqL.of (w18.same _ _ q18), fun p21 n21 => ?_⟩⟩
        obtain ⟨F21, s21, w21, q21⟩ := w18.frzE (o := .tup us9) n21
        replace h1 := A2.mono s21 h1
        replace q1 := s21 _ _ q1
        replace q8 := s21 _ _ q8
        replace r8 := Rep.mono s21 r8
        replace h8 := A2.mono s21 h8
        replace qb8 := s21 _ _ qb8
        replace gg9 := A2.mono s21 gg9
        replace q18 := s21 _ _ q18
        replace h20 := A2.mono s21 h20
        replace sF := sF.trans s21
        refine ⟨(by show 3 ≤ sizeLine; decide), fun p22 n22 => ?_⟩
        obtain ⟨F22, s22, w22, q22⟩ := w21.frzE (o := .tup [(.str "ask"), (.int t19), (.ref p21)]) n22
        replace h1 := A2.mono s22 h1
        replace q1 := s22 _ _ q1
        replace q8 := s22 _ _ q8
        replace r8 := Rep.mono s22 r8
        replace h8 := A2.mono s22 h8
        replace qb8 := s22 _ _ qb8
        replace gg9 := A2.mono s22 gg9
        replace q18 := s22 _ _ q18
        replace h20 := A2.mono s22 h20
        replace q21 := s22 _ _ q21
        replace sF := sF.trans s22
        have r22 : rep K F22 (.ref p22) ((Pl.ask t19 ys9) : Pl) := (rep_ask q22 q21 h20)
        exact (post_ok hm) _ _ _ w22 sF r22
def sp_law_order (K : Fg) : Sp := fun vs H Q E => ∃ (F : Hp) (os : List (Addr × HO)) (a_state : Addr) (vs_state : List V) (x_state : (List Int)) (x_many : Int), vs = [.ref a_state, .int x_many] ∧ W F H ((a_state, .lst vs_state) :: os) ∧ A2 (rep K F) vs_state x_state ∧ Post (law_order x_state x_many) (RetLM K F a_state os Q) noX
theorem sc_law_order : FnScope ["state", "many", "names", "place"] ["state", "many"] (defScope s_law_order) := ⟨rfl, rfl, rfl, by decide +kernel, rfl, by decide +kernel, by decide +kernel⟩
theorem ok_law_order (T : Tx K mg A FD) : FnOk P w K mg base CX0 2 (A 41) (FD 41) ["state", "many"] (sp_law_order K) := by
  refine T.d41.fn.ok sc_law_order (fun vs H Q E h => ?_) (fun cdv Ar outer s H vs Q E hr h => ?_)
  · obtain ⟨F, os, a_state, vs_state, x_state, x_many, rfl, _⟩ := h
    rfl
  · obtain ⟨F0, os, a_state, vs_state, x_state, x_many, rfl, w0, h_state, hm⟩ := h
    have sF : Same F0 F0 := Same.refl _
    refine ⟨_, (pss_cons (ps_set (i := 2) sc_law_order.nd rfl (Or.inl rfl) (pe_lst pa_nil)) (pss_cons (ps_for PassesOwn.never rfl (pi_range1 (by rfl) T.n_range (pa_cons (pv 1) pa_nil)) (pg_name (i := 3) sc_law_order.nd rfl (Or.inl rfl)) (pss_one (ps_expr (pe_bm PySem.F.plainAttrs_list PySem.F.slot_list_insert PySem.F.type_list_insert mt_insert (pv 2) (pa_cons (pe_call (ok_law_next T) (hr.mono (by decide)) (by rfl) T.d35.mg T.d35.fn.kp T.d35.b .nil pass0 (pa_cons (pv 0) (pa_cons (pe_op op_add (pv 3) pe_int) pa_nil))) (pa_cons (pv 3) pa_nil)))))) (pss_one (ps_ret (pv 2))))), ?_⟩
    have h2 : A2 (rep K F0) [] ([] : (List Int)) := .nil
    refine ⟨(by show 0 ≤ sizeLine; decide), fun p3 n3 => ?_⟩
    have w3 : W F0 _ ((p3, .lst []) :: (a_state, .lst vs_state) :: os) := w0.new n3
    obtain ⟨c5, hm⟩ := pb_rng hm
    refine ⟨_, rfl, _, rfl, c5.2.2.1, c5.2.2.2, ?_⟩
    refine forS (tw_rng0 (j := x_many)) hm (fun (g4 : (List Int) × (List Int)) σ H' => ∃ (F' : Hp) (vs4_0 : List V) (vs4_1 : List V) (o4_3 : Option V), σ = [some (.ref a_state), some (.int x_many), some (.ref p3), o4_3] ∧ Same F0 F' ∧ W F' H' ((p3, .lst vs4_0) :: (a_state, .lst vs4_1) :: os) ∧ A2 (rep K F') vs4_0 g4.1 ∧ A2 (rep K F') vs4_1 g4.2) ⟨_, _, _, _, rfl, Same.refl _, w3, h2, h_state⟩ (fun _ _ _ _ => trivial) ?_ ?_
    · -- a turn
      intro b4 g4 x4 σ4 H4 H4' N4 P4 hI hy hN4 hm
      obtain ⟨F4, vs4_0, vs4_1, o4_3, rfl, s4, w4, h4_0, h4_1⟩ := hI
      replace sF := sF.trans s4
      obtain ⟨rfl, rfl⟩ := hy
      have w6 : W F4 _ ((a_state, .lst vs4_1) :: (p3, .lst vs4_0) :: os) := w4.front (pre := [_])
      refine ⟨_, rfl, .inl ⟨rfl, _, SqL.of (w4.get (pre := []))⟩, _, rfl, _, rfl, _, _, rfl, rfl, _, _, _, _, _, _, rfl, w6, h4_1, ?_⟩
      refine (post_bind hm).mono (fun y7 hm v7 vs7 F7 H7 w7 s7 r7 h7 => ?_) (fun _ z => z)
      replace h4_0 := A2.mono s7 h4_0
      replace sF := sF.trans s7
      obtain rfl : v7 = V.int y7.1 := r7
      obtain ⟨l8, z8, e8, hm⟩ := pn_ins hm
      refine ⟨_, rfl, _, _, _, _, rfl, rfl, (w7.get (pre := [_])), (line_ins h4_0 z8.1), z8.2.1, (by have := z8.2.2; omega), ?_⟩
      have h8 : A2 (rep K F7) (vs4_0.take y7.1.toNat ++ [(.int b4)] ++ vs4_0.drop y7.1.toNat) l8 := e8 ▸ A2.ins _ h4_0 rep_i
      have w9 : W F7 _ ((a_state, .lst vs7) :: (p3, .lst (vs4_0.take y7.1.toNat ++ [(.int b4)] ++ vs4_0.drop y7.1.toNat)) :: os) := w7.set (pre := [_])
      have w10 : W F7 _ ((p3, .lst (vs4_0.take y7.1.toNat ++ [(.int b4)] ++ vs4_0.drop y7.1.toNat)) :: (a_state, .lst vs7) :: os) := w9.front (pre := [_])
      exact hN4 _ (post_ok hm) _ _ ⟨_, _, _, _, rfl, (s4.trans s7), w10, h8, h7⟩
    intro g4 σ4 H4 hI hm
    obtain ⟨F4, vs4_0, vs4_1, o4_3, rfl, s4, w4, h4_0, h4_1⟩ := hI
    replace sF := sF.trans s4
    exact ⟨_, rfl, (post_ok hm) _ _ _ _ _ w4 sF h4_0 h4_1⟩
def sp_law_renamed_right (K : Fg) : Sp := fun vs H Q E => ∃ (F : Hp) (os : List (Addr × HO)) (a_state : Addr) (vs_state : List V) (x_state : (List Int)) (v_web : V) (x_web : (Int × (Tup (Int × Int)))) (x_kind : Str), vs = [.ref a_state, v_web, .str x_kind] ∧ W F H ((a_state, .lst vs_state) :: os) ∧ A2 (rep K F) vs_state x_state ∧ rep K F v_web x_web ∧ Post (law_renamed_right x_state x_web x_kind) (RetM K F a_state os Q) noX
theorem sc_law_renamed_right : FnScope ["state", "web", "kind", "asks", "plan", "table", "names", "other", "things", "rows", "some", "least", "named", "one", "beside", "thing"] ["state", "web", "kind"] (defScope s_law_renamed_right) := ⟨rfl, rfl, rfl, by decide +kernel, rfl, by decide +kernel, by decide +kernel⟩
set_option maxHeartbeats 40000000 in
theorem ok_law_renamed_right (T : Tx K mg A FD) : FnOk P w K mg base CX0 45 (A 42) (FD 42) ["state", "web", "kind"] (sp_law_renamed_right K) := by
  refine T.d42.fn.ok sc_law_renamed_right (fun vs H Q E h => ?_) (fun cdv Ar outer s H vs Q E hr h => ?_)
  · obtain ⟨F, os, a_state, vs_state, x_state, v_web, x_web, x_kind, rfl, _⟩ := h
    rfl
  · obtain ⟨F0, os, a_state, vs_state, x_state, v_web, x_web, x_kind, rfl, w0, h_state, r_web, hm⟩ := h
    have sF : Same F0 F0 := Same.refl _
    obtain ⟨a2, u2, z2, rfl, q2, r2a, r2b⟩ := r_web
    obtain rfl : u2 = V.int x_web.1 := r2a
    obtain ⟨a3, vs3, rfl, q3, h3⟩ := r2b
    refine ⟨_, (pss_cons (ps_asg (pe_call (ok_fewest_asks T) (hr.mono (by decide)) (by rfl) T.d24.mg T.d24.fn.kp T.d24.b .nil pass0 (pa_cons (pv 1) (pa_cons (pv 2) pa_nil))) (pg_k (K := K) (t := fun K => gTup K 3 _) rfl (pg_tup (n := 3) rfl (pgs_cons (pg_name (i := 3) sc_law_renamed_right.nd rfl (Or.inl rfl)) (pgs_cons (pg_name (i := 4) sc_law_renamed_right.nd rfl (Or.inl rfl)) (pgs_cons (pg_name (i := 5) sc_law_renamed_right.nd rfl (Or.inl rfl)) pgs_nil)))))) (pss_cons (ps_set (i := 6) sc_law_renamed_right.nd rfl (Or.inr rfl) (pe_call (ok_law_order T) (hr.mono (by decide)) (by rfl) T.d41.mg T.d41.fn.kp T.d41.b .nil pass0 (pa_cons (pv 0) (pa_cons (pe_ix (ix_tupK (K := K) rfl) (pv 1) pe_int (fun _ _ => rfl)) pa_nil)))) (pss_cons (ps_set (i := 7) sc_law_renamed_right.nd rfl (Or.inl rfl) (pe_call (ok_made_web T) (hr.mono (by decide)) (by rfl) T.d11.mg T.d11.fn.kp T.d11.b .nil pass0 (pa_cons (pe_ix (ix_tupK (K := K) rfl) (pv 1) pe_int (fun _ _ => rfl)) (pa_cons (pe_lc (own := [("one", 13), ("beside", 14)]) (g := _) (by rfl) sc_law_renamed_right.nd (pi_tupK (K := K) rfl (pe_ix (ix_tupK (K := K) rfl) (pv 1) pe_int (fun _ _ => rfl))) (blkOk_by (own := [("one", 13), ("beside", 14)]) (N := ["state", "web", "kind", "asks", "plan", "table", "names", "other", "things", "rows", "some", "least", "named", "one", "beside", "thing"]) (sc := defScope s_law_renamed_right) (by decide +kernel)) (fun _ _ _ _ _ => (pg_k (K := K) (t := fun K => gTup K 2 _) rfl (pg_tup (n := 2) rfl (pgs_cons (pg_name (i := 13) sc_law_renamed_right.nd rfl (Or.inl rfl)) (pgs_cons (pg_name (i := 14) sc_law_renamed_right.nd rfl (Or.inl rfl)) pgs_nil))))) (fun _ _ _ _ _ => pts_nil) (fun _ _ _ _ _ => (pe_tup (pa_cons (pe_ix (ix_listK (K := K) rfl) (pv 6) (pv 13) (fun _ _ => rfl)) (pa_cons (pe_ix (ix_listK (K := K) rfl) (pv 6) (pv 14) (fun _ _ => rfl)) pa_nil))))) pa_nil)))) (pss_cons (ps_if (PW.pt (pw_or (pt_cmp (pc_neI (pe_ix (ix_tupK (K := K) rfl) (pe_call (ok_fewest_asks T) (hr.mono (by decide)) (by rfl) T.d24.mg T.d24.fn.kp T.d24.b .nil pass0 (pa_cons (pv 7) (pa_cons (pv 2) pa_nil))) pe_int (fun _ _ => rfl)) (pv 3))) (pw_or1 (pt_cmpR (op_neDt (K := K) rfl (Option Int) (by decide) hr.units) (pe_call (ok_plan_asks T) (hr.mono (by decide)) (by rfl) T.d28.mg T.d28.fn.kp T.d28.b .nil pass0 (pa_cons (pv 7) (pa_cons (pv 2) (pa_cons (pe_call (ok_law_plan T 20) (hr.mono (by first | decide | omega)) (by rfl) T.d40.mg T.d40.fn.kp T.d40.b .nil pass0 (pa_cons (pv 6) (pa_cons (pv 4) pa_nil))) pa_nil)))) (pv 3) (nomark _))))) (pss_one (ps_ret pe_bl)) pss_nil) (pss_cons (ps_set (i := 8) sc_law_renamed_right.nd rfl (Or.inl rfl) (pe_call (ok_things_of T) (hr.mono (by decide)) (by rfl) T.d15.mg T.d15.fn.kp T.d15.b .nil pass0 (pa_cons (pv 7) (pa_cons (pv 2) pa_nil)))) (pss_cons (ps_set (i := 9) sc_law_renamed_right.nd rfl (Or.inl rfl) (pe_lst pa_nil)) (pss_cons (ps_for PassesOwn.never rfl (pi_listK (K := K) rfl (pv 5)) (pg_k (K := K) (t := fun K => gTup K 2 _) rfl (pg_tup (n := 2) rfl (pgs_cons (pg_name (i := 10) sc_law_renamed_right.nd rfl (Or.inl rfl)) (pgs_cons (pg_name (i := 11) sc_law_renamed_right.nd rfl (Or.inl rfl)) pgs_nil)))) (pss_cons (ps_set (i := 12) sc_law_renamed_right.nd rfl (Or.inr rfl) (pe_lc (own := [("thing", 15)]) (g := gName 15) (by rfl) sc_law_renamed_right.nd (pi_tupK (K := K) rfl (pv 10)) (blkOk_by (own := [("thing", 15)]) (N := ["state", "web", "kind", "asks", "plan", "table", "names", "other", "things", "rows", "some", "least", "named", "one", "beside", "thing"]) (sc := defScope s_law_renamed_right) (by decide +kernel)) (fun _ _ _ _ _ => (pg_name (i := 15) sc_law_renamed_right.nd rfl (Or.inl rfl))) (fun _ _ _ _ _ => pts_nil) (fun _ _ _ _ _ => (pe_call (ok_law_thing T) (hr.mono (by decide)) (by rfl) T.d39.mg T.d39.fn.kp T.d39.b .nil pass0 (pa_cons (pv 6) (pa_cons (pv 15) pa_nil)))))) (pss_one (ps_expr (pe_bm PySem.F.plainAttrs_list PySem.F.slot_list_append PySem.F.type_list_append mt_append (pv 9) (pa_cons (pe_tup (pa_cons (pe_callTy (call_tuple_ofK (K := K) rfl) (by rfl) T.n_tuple (by decide +kernel) (pa_cons (pe_lc (own := [("thing", 15)]) (g := gName 15) (by rfl) sc_law_renamed_right.nd (pi_listK (K := K) rfl (pv 8)) (blkOk_by (own := [("thing", 15)]) (N := ["state", "web", "kind", "asks", "plan", "table", "names", "other", "things", "rows", "some", "least", "named", "one", "beside", "thing"]) (sc := defScope s_law_renamed_right) (by decide +kernel)) (fun _ _ _ _ _ => (pg_name (i := 15) sc_law_renamed_right.nd rfl (Or.inl rfl))) (fun _ _ _ _ _ => (pts_one (pt_cmpR (op_inL (K := K) rfl Thing (by decide) (Room.units65 hr)) (pv 15) (pv 12) (by rfl)))) (fun _ _ _ _ _ => (pv 15))) pa_nil)) (pa_cons (pv 11) pa_nil))) pa_nil)))))) (pss_one (ps_ret (pe_call (ok_table_shows T) (hr.mono (by decide)) (by rfl) T.d30.mg T.d30.fn.kp T.d30.b .nil pass0 (pa_cons (pv 7) (pa_cons (pv 2) (pa_cons (pv 3) (pa_cons (pv 9) pa_nil)))))))))))))), ?_⟩
    refine ⟨_, rfl, _, rfl, _, _, _, (x_web : (Int × (Tup (Int × Int)))), _, rfl, w0, (rep_pair q2 rep_i (rep_tup q3 h3)), ?_⟩
    refine (post_bind hm).mono (fun y4 hm v4 F4 H4 w4 s4 r4 => ?_) (fun _ z => z)
    replace h_state := A2.mono s4 h_state
    replace q2 := s4 _ _ q2
    replace q3 := s4 _ _ q3
    replace h3 := A2.mono s4 h3
    replace sF := sF.trans s4
    obtain ⟨a5, u5_0, u5_1, u5_2, rfl, q5, r5_0, r5_1, r5_2⟩ := nt3 r4
    replace r5_0 : rep K F4 u5_0 (y4.v.1 : Int) := r5_0
    obtain rfl : u5_0 = V.int y4.v.1 := r5_0
    replace r5_1 : rep K F4 u5_1 (y4.v.2.1 : Pl) := r5_1
    have r6 : rep K F4 u5_1 (y4.v.2.1 : Pl) := r5_1
    obtain ⟨a6, u6, t6, rfl, q6, o6, l6⟩ := pl_openN r6
    replace r5_2 : rep K F4 u5_2 (y4.v.2.2.1 : (List ((Tup Thing) × Int))) := r5_2
    obtain ⟨a7, vs7, rfl, q7, h7⟩ := r5_2
    refine ⟨_, _, rfl, SqT.of (w4.same _ _ q5), rfl, _, _, rfl, _, _, rfl, _, _, rfl, rfl, _, rfl, _, rfl, _, _, _, _, rfl, rfl, SqT.of (w4.same _ _ q2), rfl, _, _, _, _, _, _, rfl, w4, h_state, ?_⟩
    refine (post_bind hm).mono (fun y8 hm p8 us8 vs8 F8 H8 w8 s8 g8 h8 => ?_) (fun _ z => z)
    replace q2 := s8 _ _ q2
    replace h3 := A2.mono s8 h3
    replace q3 := s8 _ _ q3
    replace q6 := s8 _ _ q6
    replace r6 := Rep.mono s8 r6
    replace o6 := Rep.mono s8 o6
    replace h7 := A2.mono s8 h7
    replace q7 := s8 _ _ q7
    replace sF := sF.trans s8
    obtain ⟨F10, s10, w10, q10⟩ : ∃ F', Same F8 F' ∧ W F' _ ((a_state, .lst vs8) :: os) ∧ F' p8 = some (.lst us8) := w8.freezeE (pre := [])
    replace q2 := s10 _ _ q2
    replace h3 := A2.mono s10 h3
    replace q3 := s10 _ _ q3
    replace q6 := s10 _ _ q6
    replace r6 := Rep.mono s10 r6
    replace o6 := Rep.mono s10 o6
    replace h7 := A2.mono s10 h7
    replace q7 := s10 _ _ q7
    replace h8 := A2.mono s10 h8
    replace g8 := A2.mono s10 g8
    replace sF := sF.trans s10
    refine ⟨_, rfl, _, _, _, _, rfl, rfl, SqT.of (w10.same _ _ q2), rfl, _, rfl, _, _, _, _, rfl, rfl, SqT.of (w10.same _ _ q2), rfl, _, rfl, ⟨_, SqT.of (w10.same _ _ q3)⟩, fun D11 nD11 => ?_⟩
    refine lcM (K := K) (tw_tup (a := a3) h3) hm w10 nD11 (fun F' H' acc s w => SqT.of (w.same _ _ (s _ _ q3))) ?_ ?_
    · -- one turn
      intro b11 x11 F11 H11 H11' acc11 N11 P11 s11 w11 y11 hN11 hm
      replace q2 := s11 _ _ q2
      replace h3 := A2.mono s11 h3
      replace q3 := s11 _ _ q3
      replace q6 := s11 _ _ q6
      replace r6 := Rep.mono s11 r6
      replace o6 := Rep.mono s11 o6
      replace h7 := A2.mono s11 h7
      replace q7 := s11 _ _ q7
      replace g8 := A2.mono s11 g8
      replace q10 := s11 _ _ q10
      replace h8 := A2.mono s11 h8
      replace sF := sF.trans s11
      obtain ⟨rfl, r13⟩ := y11
      replace r13 := Rep.mono s11 r13
      obtain ⟨a14, u14, z14, rfl, q14, r14a, r14b⟩ := r13
      obtain rfl : u14 = V.int b11.1 := r14a
      obtain rfl : z14 = V.int b11.2 := r14b
      obtain ⟨t15, e15, hm⟩ := pb_get hm
      obtain ⟨u15, f15, r15⟩ := A2.at g8 e15
      obtain rfl : u15 = V.int t15 := r15
      obtain ⟨t16, e16, hm⟩ := pb_get hm
      obtain ⟨u16, f16, r16⟩ := A2.at g8 e16
      obtain rfl : u16 = V.int t16 := r16
      refine ⟨_, _, rfl, SqT.of (w11.same _ _ q14), rfl, _, _, rfl, _, _, rfl, rfl, rfl, _, rfl, _, rfl, _, _, _, _, rfl, rfl, SqL.of (w11.same _ _ q10), f15, _, rfl, _, rfl, _, _, _, _, rfl, rfl, SqL.of (w11.same _ _ q10), f16, (by show 2 ≤ sizeLine; decide), fun p17 n17 => ?_⟩
      obtain ⟨F17, s17, w17, q17⟩ := w11.frzE (o := .tup [(.int t15), (.int t16)]) n17
      replace q2 := s17 _ _ q2
      replace h3 := A2.mono s17 h3
      replace q3 := s17 _ _ q3
      replace q6 := s17 _ _ q6
      replace r6 := Rep.mono s17 r6
      replace o6 := Rep.mono s17 o6
      replace h7 := A2.mono s17 h7
      replace q7 := s17 _ _ q7
      replace g8 := A2.mono s17 g8
      replace q10 := s17 _ _ q10
      replace h8 := A2.mono s17 h8
      replace q14 := s17 _ _ q14
      replace sF := sF.trans s17
      exact hN11 _ (post_ok hm) _ _ _ w17 s17 (rep_pair q17 rep_i rep_i)
    intro us11 F11 H11 ys11 s11 w11 gg11 hm
    replace q2 := s11 _ _ q2
    replace h3 := A2.mono s11 h3
    replace q3 := s11 _ _ q3
    replace q6 := s11 _ _ q6
    replace r6 := Rep.mono s11 r6
    replace o6 := Rep.mono s11 o6
    replace h7 := A2.mono s11 h7
    replace q7 := s11 _ _ q7
    replace g8 := A2.mono s11 g8
    replace q10 := s11 _ _ q10
    replace h8 := A2.mono s11 h8
    replace sF := sF.trans s11
    refine ⟨_, _, _, _, _, _, rfl, w11, gg11, ?_⟩
    refine (post_bind hm).mono (fun y19 hm v19 F19 H19 w19 s19 r19 => ?_) (fun _ z => z)
    replace q2 := s19 _ _ q2
    replace h3 := A2.mono s19 h3
    replace q3 := s19 _ _ q3
    replace q6 := s19 _ _ q6
    replace r6 := Rep.mono s19 r6
    replace o6 := Rep.mono s19 o6
    replace h7 := A2.mono s19 h7
    replace q7 := s19 _ _ q7
    replace g8 := A2.mono s19 g8
    replace q10 := s19 _ _ q10
    replace h8 := A2.mono s19 h8
    replace gg11 := A2.mono s19 gg11
    replace sF := sF.trans s19
    obtain ⟨a20, u20, z20, rfl, q20, r20a, r20b⟩ := r19
    obtain rfl : u20 = V.int y19.1 := r20a
    obtain ⟨a21, vs21, rfl, q21, h21⟩ := r20b
    have w22 : W F19 _ ((a_state, .lst vs8) :: os) := w19.drop (pre := [])
    refine stepN ?_
    try dsimp only
    refine stepSeq (stepIf ?_)
    refine joinT hm (fun (j23 : Bool) c H' => c = j23 ∧ ∃ (F' : Hp), Same F19 F' ∧ W F' H' ((a_state, .lst vs8) :: os)) ?_ ?_
    · intro Q23 P23 q23 hm
      refine ⟨_, rfl, _, rfl, _, _, _, (y19 : (Int × (Tup (Int × Int)))), _, rfl, w22, (rep_pair q20 rep_i (rep_tup q21 h21)), ?_⟩
      refine (post_bind hm).mono (fun y24 hm v24 F24 H24 w24 s24 r24 => ?_) (fun _ z => z)
      replace q2 := s24 _ _ q2
      replace h3 := A2.mono s24 h3
      replace q3 := s24 _ _ q3
      replace q6 := s24 _ _ q6
      replace r6 := Rep.mono s24 r6
      replace o6 := Rep.mono s24 o6
      replace h7 := A2.mono s24 h7
      replace q7 := s24 _ _ q7
      replace g8 := A2.mono s24 g8
      replace q10 := s24 _ _ q10
      replace q20 := s24 _ _ q20
      replace h21 := A2.mono s24 h21
      replace q21 := s24 _ _ q21
      replace h8 := A2.mono s24 h8
      replace sF := sF.trans s24
      obtain ⟨a25, u25_0, u25_1, u25_2, rfl, q25, r25_0, r25_1, r25_2⟩ := nt3 r24
      replace r25_0 : rep K F24 u25_0 (y24.v.1 : Int) := r25_0
      obtain rfl : u25_0 = V.int y24.v.1 := r25_0
      replace r25_1 : rep K F24 u25_1 (y24.v.2.1 : Pl) := r25_1
      have r26 : rep K F24 u25_1 (y24.v.2.1 : Pl) := r25_1
      obtain ⟨a26, u26, t26, rfl, q26, o26, l26⟩ := pl_openN r26
      replace r25_2 : rep K F24 u25_2 (y24.v.2.2.1 : (List ((Tup Thing) × Int))) := r25_2
      obtain ⟨a27, vs27, rfl, q27, h27⟩ := r25_2
      refine ⟨_, _, _, _, rfl, rfl, SqT.of (w24.same _ _ q25), rfl, _, rfl, _, _, rfl, rfl, _, rfl, ?_⟩
      refine post_ite hm (fun k28 hm => ?_) (fun k28 hm => ?_)
      · skip
        exact q23 _ (post_ok hm) _ _ ⟨rfl, _, s24, w24⟩
      · skip
        refine ⟨_, rfl, _, rfl, _, rfl, _, rfl, _, _, _, (y8.1 : (List Int)), _, (y4.v.2.1 : Pl), rfl, w24, (rep_lst q10 g8), r6, ?_⟩
        refine (post_bind hm).mono (fun y30 hm v30 F30 H30 w30 s30 r30 => ?_) (fun _ z => z)
        replace q2 := s30 _ _ q2
        replace h3 := A2.mono s30 h3
        replace q3 := s30 _ _ q3
        replace q6 := s30 _ _ q6
        replace r6 := Rep.mono s30 r6
        replace o6 := Rep.mono s30 o6
        replace h7 := A2.mono s30 h7
        replace q7 := s30 _ _ q7
        replace g8 := A2.mono s30 g8
        replace q10 := s30 _ _ q10
        replace q20 := s30 _ _ q20
        replace h21 := A2.mono s30 h21
        replace q21 := s30 _ _ q21
        replace h8 := A2.mono s30 h8
        replace q25 := s30 _ _ q25
        replace q26 := s30 _ _ q26
        replace r26 := Rep.mono s30 r26
        replace o26 := Rep.mono s30 o26
        replace q27 := s30 _ _ q27
        replace h27 := A2.mono s30 h27
        replace sF := sF.trans s30
        have r31 : rep K F30 v30 (y30 : Pl) := r30
        obtain ⟨a31, u31, t31, rfl, q31, o31, l31⟩ := pl_openN r31
        refine ⟨_, _, _, (y19 : (Int × (Tup (Int × Int)))), _, _, (y30 : Pl), rfl, w30, (rep_pair q20 rep_i (rep_tup q21 h21)), r31, ?_⟩
        refine (post_bind hm).mono (fun y32 hm v32 F32 H32 w32 s32 r32 => ?_) (fun _ z => z)
        replace q2 := s32 _ _ q2
        replace h3 := A2.mono s32 h3
        replace q3 := s32 _ _ q3
        replace q6 := s32 _ _ q6
        replace r6 := Rep.mono s32 r6
        replace o6 := Rep.mono s32 o6
        replace h7 := A2.mono s32 h7
        replace q7 := s32 _ _ q7
        replace g8 := A2.mono s32 g8
        replace q10 := s32 _ _ q10
        replace q20 := s32 _ _ q20
        replace h21 := A2.mono s32 h21
        replace q21 := s32 _ _ q21
        replace h8 := A2.mono s32 h8
        replace q25 := s32 _ _ q25
        replace q26 := s32 _ _ q26
        replace r26 := Rep.mono s32 r26
        replace o26 := Rep.mono s32 o26
        replace q27 := s32 _ _ q27
        replace h27 := A2.mono s32 h27
        replace q31 := s32 _ _ q31
        replace r31 := Rep.mono s32 r31
        replace o31 := Rep.mono s32 o31
        replace sF := sF.trans s32
        exact ⟨_, rfl, (y32 : (Option Int)), ((some y4.v.1) : (Option Int)), (Rep.mono w32.same r32), (Rep.mono w32.same (rep_some rep_i)), _, rfl, q23 _ (post_ok hm) _ _ ⟨rfl, _, (s24.trans (s30.trans s32)), w32⟩⟩
    intro j23 c23 H23 hc23 hm
    obtain ⟨rfl, F23, s23, w23⟩ := hc23
    replace q2 := s23 _ _ q2
    replace h3 := A2.mono s23 h3
    replace q3 := s23 _ _ q3
    replace q6 := s23 _ _ q6
    replace r6 := Rep.mono s23 r6
    replace o6 := Rep.mono s23 o6
    replace h7 := A2.mono s23 h7
    replace q7 := s23 _ _ q7
    replace g8 := A2.mono s23 g8
    replace q10 := s23 _ _ q10
    replace q20 := s23 _ _ q20
    replace h21 := A2.mono s23 h21
    replace q21 := s23 _ _ q21
    replace h8 := A2.mono s23 h8
    replace sF := sF.trans s23
    refine post_ite hm (fun k35 hm => ?_) (fun k35 hm => ?_)
    · skip
      exact (post_ok hm) _ _ _ _ w23 sF rep_b h8
    · skip
      refine ⟨_, rfl, _, rfl, _, _, _, (y19 : (Int × (Tup (Int × Int)))), _, rfl, w23, (rep_pair q20 rep_i (rep_tup q21 h21)), ?_⟩
      refine (post_bind hm).mono (fun y36 hm p36 us36 F36 H36 w36 s36 g36 => ?_) (fun _ z => z)
      replace q2 := s36 _ _ q2
      replace h3 := A2.mono s36 h3
      replace q3 := s36 _ _ q3
      replace q6 := s36 _ _ q6
      replace r6 := Rep.mono s36 r6
      replace o6 := Rep.mono s36 o6
      replace h7 := A2.mono s36 h7
      replace q7 := s36 _ _ q7
      replace g8 := A2.mono s36 g8
      replace q10 := s36 _ _ q10
      replace q20 := s36 _ _ q20
      replace h21 := A2.mono s36 h21
      replace q21 := s36 _ _ q21
      replace h8 := A2.mono s36 h8
      replace sF := sF.trans s36
      obtain ⟨F38, s38, w38, q38⟩ : ∃ F', Same F36 F' ∧ W F' _ ((a_state, .lst vs8) :: os) ∧ F' p36 = some (.lst us36) := w36.freezeE (pre := [])
      replace q2 := s38 _ _ q2
      replace h3 := A2.mono s38 h3
      replace q3 := s38 _ _ q3
      replace q6 := s38 _ _ q6
      replace r6 := Rep.mono s38 r6
      replace o6 := Rep.mono s38 o6
      replace h7 := A2.mono s38 h7
      replace q7 := s38 _ _ q7
      replace g8 := A2.mono s38 g8
      replace q10 := s38 _ _ q10
      replace q20 := s38 _ _ q20
      replace h21 := A2.mono s38 h21
      replace q21 := s38 _ _ q21
      replace h8 := A2.mono s38 h8
      replace g36 := A2.mono s38 g36
      replace sF := sF.trans s38
      have h39 : A2 (rep K F38) [] ([] : (List ((Tup Thing) × Int))) := .nil
      refine ⟨(by show 0 ≤ sizeLine; decide), fun p40 n40 => ?_⟩
      have w40 : W F38 _ ((p40, .lst []) :: (a_state, .lst vs8) :: os) := w38.new n40
      refine ⟨_, rfl, _, rfl, ⟨_, SqL.of (w40.same _ _ q7)⟩, ?_⟩
      refine forS (tw_list (a := a7) h7) hm (fun (g41 : (List ((Tup Thing) × Int))) σ H' => ∃ (F' : Hp) (vs41_0 : List V) (o41_12 : Option V) (o41_10 : Option V) (o41_11 : Option V), σ = [some (.ref a_state), some (.ref a2), some (.str x_kind), some (.int y4.v.1), some (.ref a6), some (.ref a7), some (.ref p8), some (.ref a20), some (.ref p36), some (.ref p40), o41_10, o41_11, o41_12, none, none, none] ∧ Same F38 F' ∧ W F' H' ((p40, .lst vs41_0) :: (a_state, .lst vs8) :: os) ∧ A2 (rep K F') vs41_0 g41) ⟨_, _, _, _, _, rfl, Same.refl _, w40, h39⟩ (fun g σ H' hI => by obtain ⟨F', _, _, _, _, _, s, w, _⟩ := hI; exact SqL.of (w.same _ _ (s _ _ q7))) ?_ ?_
      · -- a turn
        intro b41 g41 x41 σ41 H41 H41' N41 P41 hI hy hN41 hm
        obtain ⟨F41, vs41_0, o41_12, o41_10, o41_11, rfl, s41, w41, h41_0⟩ := hI
        replace q2 := s41 _ _ q2
        replace h3 := A2.mono s41 h3
        replace q3 := s41 _ _ q3
        replace q6 := s41 _ _ q6
        replace r6 := Rep.mono s41 r6
        replace o6 := Rep.mono s41 o6
        replace h7 := A2.mono s41 h7
        replace q7 := s41 _ _ q7
        replace g8 := A2.mono s41 g8
        replace q10 := s41 _ _ q10
        replace q20 := s41 _ _ q20
        replace h21 := A2.mono s41 h21
        replace q21 := s41 _ _ q21
        replace g36 := A2.mono s41 g36
        replace q38 := s41 _ _ q38
        replace h8 := A2.mono s41 h8
        replace sF := sF.trans s41
        obtain ⟨rfl, r42⟩ := hy
        replace r42 := Rep.mono s41 r42
        obtain ⟨a43, u43, z43, rfl, q43, r43a, r43b⟩ := r42
        obtain ⟨a44, vs44, rfl, q44, h44⟩ := r43a
        obtain rfl : z43 = V.int b41.2 := r43b
        refine ⟨_, _, rfl, SqT.of (w41.same _ _ q43), rfl, _, _, rfl, _, _, rfl, rfl, _, rfl, _, rfl, ⟨_, SqT.of (w41.same _ _ q44)⟩, fun D45 nD45 => ?_⟩
        refine lcM (K := K) (tw_tup (a := a44) h44) hm w41 nD45 (fun F' H' acc s w => SqT.of (w.same _ _ (s _ _ q44))) ?_ ?_
        · -- one turn
          intro b45 x45 F45 H45 H45' acc45 N45 P45 s45 w45 y45 hN45 hm
          replace q2 := s45 _ _ q2
          replace h3 := A2.mono s45 h3
          replace q3 := s45 _ _ q3
          replace q6 := s45 _ _ q6
          replace r6 := Rep.mono s45 r6
          replace o6 := Rep.mono s45 o6
          replace h7 := A2.mono s45 h7
          replace q7 := s45 _ _ q7
          replace g8 := A2.mono s45 g8
          replace q10 := s45 _ _ q10
          replace q20 := s45 _ _ q20
          replace h21 := A2.mono s45 h21
          replace q21 := s45 _ _ q21
          replace g36 := A2.mono s45 g36
          replace q38 := s45 _ _ q38
          replace h44 := A2.mono s45 h44
          replace q44 := s45 _ _ q44
          replace h41_0 := A2.mono s45 h41_0
          replace h8 := A2.mono s45 h8
          replace sF := sF.trans s45
          obtain ⟨rfl, r47⟩ := y45
          replace r47 := Rep.mono s45 r47
          refine ⟨rfl, _, rfl, _, rfl, _, _, _, (y8.1 : (List Int)), _, (b45 : Thing), rfl, w45, (rep_lst q10 g8), r47, ?_⟩
          refine (post_bind hm).mono (fun y49 hm v49 F49 H49 w49 s49 r49 => ?_) (fun _ z => z)
          replace q2 := s49 _ _ q2
          replace h3 := A2.mono s49 h3
          replace q3 := s49 _ _ q3
          replace q6 := s49 _ _ q6
          replace r6 := Rep.mono s49 r6
          replace o6 := Rep.mono s49 o6
          replace h7 := A2.mono s49 h7
          replace q7 := s49 _ _ q7
          replace g8 := A2.mono s49 g8
          replace q10 := s49 _ _ q10
          replace q20 := s49 _ _ q20
          replace h21 := A2.mono s49 h21
          replace q21 := s49 _ _ q21
          replace g36 := A2.mono s49 g36
          replace q38 := s49 _ _ q38
          replace h44 := A2.mono s49 h44
          replace q44 := s49 _ _ q44
          replace h41_0 := A2.mono s49 h41_0
          replace h8 := A2.mono s49 h8
          replace r47 := Rep.mono s49 r47
          replace sF := sF.trans s49
          exact hN45 _ (post_ok hm) _ _ _ w49 s49 r49
        intro us45 F45 H45 ys45 s45 w45 gg45 hm
        replace q2 := s45 _ _ q2
        replace h3 := A2.mono s45 h3
        replace q3 := s45 _ _ q3
        replace q6 := s45 _ _ q6
        replace r6 := Rep.mono s45 r6
        replace o6 := Rep.mono s45 o6
        replace h7 := A2.mono s45 h7
        replace q7 := s45 _ _ q7
        replace g8 := A2.mono s45 g8
        replace q10 := s45 _ _ q10
        replace q20 := s45 _ _ q20
        replace h21 := A2.mono s45 h21
        replace q21 := s45 _ _ q21
        replace g36 := A2.mono s45 g36
        replace q38 := s45 _ _ q38
        replace h44 := A2.mono s45 h44
        replace q44 := s45 _ _ q44
        replace h41_0 := A2.mono s45 h41_0
        replace h8 := A2.mono s45 h8
        replace sF := sF.trans s45
        obtain ⟨F52, s52, w52, q52⟩ : ∃ F', Same F45 F' ∧ W F' _ ((p40, .lst vs41_0) :: (a_state, .lst vs8) :: os) ∧ F' D45 = some (.lst us45) := w45.freezeE (pre := [])
        replace q2 := s52 _ _ q2
        replace h3 := A2.mono s52 h3
        replace q3 := s52 _ _ q3
        replace q6 := s52 _ _ q6
        replace r6 := Rep.mono s52 r6
        replace o6 := Rep.mono s52 o6
        replace h7 := A2.mono s52 h7
        replace q7 := s52 _ _ q7
        replace g8 := A2.mono s52 g8
        replace q10 := s52 _ _ q10
        replace q20 := s52 _ _ q20
        replace h21 := A2.mono s52 h21
        replace q21 := s52 _ _ q21
        replace g36 := A2.mono s52 g36
        replace q38 := s52 _ _ q38
        replace h44 := A2.mono s52 h44
        replace q44 := s52 _ _ q44
        replace h41_0 := A2.mono s52 h41_0
        replace h8 := A2.mono s52 h8
        replace gg45 := A2.mono s52 gg45
        replace sF := sF.trans s52
        refine ⟨_, rfl, .inl ⟨rfl, _, SqL.of (w52.get (pre := []))⟩, _, rfl, _, rfl, ⟨_, SqL.of (w52.same _ _ q38)⟩, fun D53 nD53 => ?_⟩
        refine lcF (K := K) (tw_list (a := p36) g36) hm w52 nD53 (fun F' H' acc s w => SqL.of (w.same _ _ (s _ _ q38))) ?_ ?_
        · -- one turn
          intro b53 x53 F53 H53 H53' acc53 N53 M53 P53 s53 w53 y53 hN53 hM53 hm
          replace q2 := s53 _ _ q2
          replace h3 := A2.mono s53 h3
          replace q3 := s53 _ _ q3
          replace q6 := s53 _ _ q6
          replace r6 := Rep.mono s53 r6
          replace o6 := Rep.mono s53 o6
          replace h7 := A2.mono s53 h7
          replace q7 := s53 _ _ q7
          replace g8 := A2.mono s53 g8
          replace q10 := s53 _ _ q10
          replace q20 := s53 _ _ q20
          replace h21 := A2.mono s53 h21
          replace q21 := s53 _ _ q21
          replace g36 := A2.mono s53 g36
          replace q38 := s53 _ _ q38
          replace gg45 := A2.mono s53 gg45
          replace q52 := s53 _ _ q52
          replace h44 := A2.mono s53 h44
          replace q44 := s53 _ _ q44
          replace h41_0 := A2.mono s53 h41_0
          replace h8 := A2.mono s53 h8
          replace sF := sF.trans s53
          obtain ⟨rfl, r55⟩ := y53
          replace r55 := Rep.mono s53 r55
          refine ⟨rfl, _, rfl, _, rfl, (b53 : Thing), _, (Rep.mono w53.same r55), (Rep.mono w53.same (rep_lst q52 gg45)), _, rfl, ?_⟩
          refine post_ite hm (fun k57 hm => ?_) (fun k57 hm => ?_)
          · skip
            exact ⟨_, rfl, hN53 _ (post_ok hm) _ _ _ w53 (Same.refl _) r55⟩
          · skip
            exact hM53 (post_ok hm) _ _ w53 (Same.refl _)
        intro us53 F53 H53 ys53 s53 w53 gg53 hm
        replace q2 := s53 _ _ q2
        replace h3 := A2.mono s53 h3
        replace q3 := s53 _ _ q3
        replace q6 := s53 _ _ q6
        replace r6 := Rep.mono s53 r6
        replace o6 := Rep.mono s53 o6
        replace h7 := A2.mono s53 h7
        replace q7 := s53 _ _ q7
        replace g8 := A2.mono s53 g8
        replace q10 := s53 _ _ q10
        replace q20 := s53 _ _ q20
        replace h21 := A2.mono s53 h21
        replace q21 := s53 _ _ q21
        replace g36 := A2.mono s53 g36
        replace q38 := s53 _ _ q38
        replace gg45 := A2.mono s53 gg45
        replace q52 := s53 _ _ q52
        replace h44 := A2.mono s53 h44
        replace q44 := s53 _ _ q44
        replace h41_0 := A2.mono s53 h41_0
        replace h8 := A2.mono s53 h8
        replace sF := sF.trans s53
        have h59 : A2 (rep K F53) us53 ys53 := gg53
        refine ⟨_, _, rfl, .inl ⟨SqL.of (w53.get (pre := [])), fun p60 n60 => ?_⟩⟩
        obtain ⟨F60, s60, w60, q60⟩ := w53.frzE (o := .tup us53) n60
        replace q2 := s60 _ _ q2
        replace h3 := A2.mono s60 h3
        replace q3 := s60 _ _ q3
        replace q6 := s60 _ _ q6
        replace r6 := Rep.mono s60 r6
        replace o6 := Rep.mono s60 o6
        replace h7 := A2.mono s60 h7
        replace q7 := s60 _ _ q7
        replace g8 := A2.mono s60 g8
        replace q10 := s60 _ _ q10
        replace q20 := s60 _ _ q20
        replace h21 := A2.mono s60 h21
        replace q21 := s60 _ _ q21
        replace g36 := A2.mono s60 g36
        replace q38 := s60 _ _ q38
        replace gg45 := A2.mono s60 gg45
        replace q52 := s60 _ _ q52
        replace h44 := A2.mono s60 h44
        replace q44 := s60 _ _ q44
        replace h41_0 := A2.mono s60 h41_0
        replace h8 := A2.mono s60 h8
        replace gg53 := A2.mono s60 gg53
        replace h59 := A2.mono s60 h59
        replace sF := sF.trans s60
        refine ⟨_, rfl, (by show 2 ≤ sizeLine; decide), fun p61 n61 => ?_⟩
        obtain ⟨F61, s61, w61, q61⟩ := w60.frzE (o := .tup [(.ref p60), (.int b41.2)]) n61
        replace q2 := s61 _ _ q2
        replace h3 := A2.mono s61 h3
        replace q3 := s61 _ _ q3
        replace q6 := s61 _ _ q6
        replace r6 := Rep.mono s61 r6
        replace o6 := Rep.mono s61 o6
        replace h7 := A2.mono s61 h7
        replace q7 := s61 _ _ q7
        replace g8 := A2.mono s61 g8
        replace q10 := s61 _ _ q10
        replace q20 := s61 _ _ q20
        replace h21 := A2.mono s61 h21
        replace q21 := s61 _ _ q21
        replace g36 := A2.mono s61 g36
        replace q38 := s61 _ _ q38
        replace gg45 := A2.mono s61 gg45
        replace q52 := s61 _ _ q52
        replace h44 := A2.mono s61 h44
        replace q44 := s61 _ _ q44
        replace h41_0 := A2.mono s61 h41_0
        replace h8 := A2.mono s61 h8
        replace gg53 := A2.mono s61 gg53
        replace h59 := A2.mono s61 h59
        replace q60 := s61 _ _ q60
        replace sF := sF.trans s61
        obtain ⟨l62, z62, e62, hm⟩ := pn_app hm
        refine ⟨_, _, _, rfl, rfl, (w61.get (pre := [_])), (A2.lt h41_0 z62), ?_⟩
        have h62 : A2 (rep K F61) (vs41_0 ++ [(V.ref p61)]) l62 := e62 ▸ A2.snoc h41_0 (rep_pair q61 (rep_tup q60 h59) rep_i)
        have w63 : W F61 _ ((D53, .lst us53) :: (p40, .lst (vs41_0 ++ [(V.ref p61)])) :: (a_state, .lst vs8) :: os) := w61.set (pre := [_])
        have w64 : W F61 _ ((p40, .lst (vs41_0 ++ [(V.ref p61)])) :: (a_state, .lst vs8) :: os) := w63.drop (pre := [])
        exact hN41 _ (post_ok hm) _ _ ⟨_, _, _, _, _, rfl, (s41.trans (s45.trans (s52.trans (s53.trans (s60.trans s61))))), w64, h62⟩
      intro g41 σ41 H41 hI hm
      obtain ⟨F41, vs41_0, o41_12, o41_10, o41_11, rfl, s41, w41, h41_0⟩ := hI
      replace q2 := s41 _ _ q2
      replace h3 := A2.mono s41 h3
      replace q3 := s41 _ _ q3
      replace q6 := s41 _ _ q6
      replace r6 := Rep.mono s41 r6
      replace o6 := Rep.mono s41 o6
      replace h7 := A2.mono s41 h7
      replace q7 := s41 _ _ q7
      replace g8 := A2.mono s41 g8
      replace q10 := s41 _ _ q10
      replace q20 := s41 _ _ q20
      replace h21 := A2.mono s41 h21
      replace q21 := s41 _ _ q21
      replace g36 := A2.mono s41 g36
      replace q38 := s41 _ _ q38
      replace h8 := A2.mono s41 h8
      replace sF := sF.trans s41
      obtain ⟨F65, s65, w65, q65⟩ : ∃ F', Same F41 F' ∧ W F' _ ((a_state, .lst vs8) :: os) ∧ F' p40 = some (.lst vs41_0) := w41.freezeE (pre := [])
      replace q2 := s65 _ _ q2
      replace h3 := A2.mono s65 h3
      replace q3 := s65 _ _ q3
      replace q6 := s65 _ _ q6
      replace r6 := Rep.mono s65 r6
      replace o6 := Rep.mono s65 o6
      replace h7 := A2.mono s65 h7
      replace q7 := s65 _ _ q7
      replace g8 := A2.mono s65 g8
      replace q10 := s65 _ _ q10
      replace q20 := s65 _ _ q20
      replace h21 := A2.mono s65 h21
      replace q21 := s65 _ _ q21
      replace g36 := A2.mono s65 g36
      replace q38 := s65 _ _ q38
      replace h41_0 := A2.mono s65 h41_0
      replace h8 := A2.mono s65 h8
      replace sF := sF.trans s65
      refine ⟨_, rfl, _, rfl, _, rfl, _, rfl, _, _, _, (y19 : (Int × (Tup (Int × Int)))), _, _, _, (g41 : (List ((Tup Thing) × Int))), rfl, w65, (rep_pair q20 rep_i (rep_tup q21 h21)), (rep_lst q65 h41_0), ?_⟩
      refine (post_bind hm).mono (fun y66 hm v66 F66 H66 w66 s66 r66 => ?_) (fun _ z => z)
      replace q2 := s66 _ _ q2
      replace h3 := A2.mono s66 h3
      replace q3 := s66 _ _ q3
      replace q6 := s66 _ _ q6
      replace r6 := Rep.mono s66 r6
      replace o6 := Rep.mono s66 o6
      replace h7 := A2.mono s66 h7
      replace q7 := s66 _ _ q7
      replace g8 := A2.mono s66 g8
      replace q10 := s66 _ _ q10
      replace q20 := s66 _ _ q20
      replace h21 := A2.mono s66 h21
      replace q21 := s66 _ _ q21
      replace g36 := A2.mono s66 g36
      replace q38 := s66 _ _ q38
      replace h41_0 := A2.mono s66 h41_0
      replace h8 := A2.mono s66 h8
      replace q65 := s66 _ _ q65
      replace sF := sF.trans s66
      obtain rfl : v66 = V.bl y66 := r66
      exact (post_ok hm) _ _ _ _ w66 sF rep_b h8
def sp_law_known_right (K : Fg) : Sp := fun vs H Q E => ∃ (F : Hp) (os : List (Addr × HO)) (a_state : Addr) (vs_state : List V) (x_state : (List Int)), vs = [.ref a_state] ∧ W F H ((a_state, .lst vs_state) :: os) ∧ A2 (rep K F) vs_state x_state ∧ Post (law_known_right x_state) (RetM K F a_state os Q) noX
theorem sc_law_known_right : FnScope ["state", "many", "names", "tied", "one", "row", "bunch", "ties", "due", "web", "asks", "plan", "table", "other", "k"] ["state"] (defScope s_law_known_right) := ⟨rfl, rfl, rfl, by decide +kernel, rfl, by decide +kernel, by decide +kernel⟩
set_option maxHeartbeats 40000000 in
theorem ok_law_known_right (T : Tx K mg A FD) : FnOk P w K mg base CX0 25 (A 43) (FD 43) ["state"] (sp_law_known_right K) := by
  refine T.d43.fn.ok sc_law_known_right (fun vs H Q E h => ?_) (fun cdv Ar outer s H vs Q E hr h => ?_)
  · obtain ⟨F, os, a_state, vs_state, x_state, rfl, _⟩ := h
    rfl
  · obtain ⟨F0, os, a_state, vs_state, x_state, rfl, w0, h_state, hm⟩ := h
    have sF : Same F0 F0 := Same.refl _
    refine ⟨_, (pss_cons (ps_set (i := 1) sc_law_known_right.nd rfl (Or.inl rfl) (pe_op op_add pe_int (pe_call (ok_law_next T) (hr.mono (by decide)) (by rfl) T.d35.mg T.d35.fn.kp T.d35.b .nil pass0 (pa_cons (pv 0) (pa_cons pe_int pa_nil))))) (pss_cons (ps_set (i := 2) sc_law_known_right.nd rfl (Or.inr rfl) (pe_call (ok_law_order T) (hr.mono (by decide)) (by rfl) T.d41.mg T.d41.fn.kp T.d41.b .nil pass0 (pa_cons (pv 0) (pa_cons (pv 1) pa_nil)))) (pss_cons (ps_set (i := 3) sc_law_known_right.nd rfl (Or.inl rfl) (pe_lst pa_nil)) (pss_cons (ps_for PassesOwn.never rfl (pi_range1 (by rfl) T.n_range (pa_cons (pv 1) pa_nil)) (pg_name (i := 4) sc_law_known_right.nd rfl (Or.inr rfl)) (pss_one (ps_expr (pe_bm PySem.F.plainAttrs_list PySem.F.slot_list_extend PySem.F.type_list_extend mt_extend (pv 3) (pa_cons (pe_lc (own := [("other", 13)]) (g := gName 13) (by rfl) sc_law_known_right.nd (pi_range1 (by rfl) T.n_range (pa_cons (pv 4) pa_nil)) (blkOk_by (own := [("other", 13)]) (N := ["state", "many", "names", "tied", "one", "row", "bunch", "ties", "due", "web", "asks", "plan", "table", "other", "k"]) (sc := defScope s_law_known_right) (by decide +kernel)) (fun _ _ _ _ _ => (pg_name (i := 13) sc_law_known_right.nd rfl (Or.inl rfl))) (fun _ _ _ _ _ => pts_nil) (fun _ _ _ _ _ => (pe_tup (pa_cons (pe_ix (ix_listK (K := K) rfl) (pv 2) (pv 4) (fun _ _ => rfl)) (pa_cons (pe_ix (ix_listK (K := K) rfl) (pv 2) (pv 13) (fun _ _ => rfl)) pa_nil))))) pa_nil))))) (pss_cons (ps_setLc (i := 5) (own := [("k", 14)]) (g := gName 14) (by rfl) sc_law_known_right.nd rfl rfl (sw_true rfl rfl rfl (by decide +kernel)) (pi_range1 (by rfl) T.n_range (pa_cons (pe_op op_sub (pv 1) pe_int) pa_nil)) (blkOk_by (own := [("k", 14)]) (N := ["state", "many", "names", "tied", "one", "row", "bunch", "ties", "due", "web", "asks", "plan", "table", "other", "k"]) (sc := defScope s_law_known_right) (by decide +kernel)) (fun _ _ _ _ _ => (pg_name (i := 14) sc_law_known_right.nd rfl (Or.inl rfl))) (fun _ _ _ _ _ => pts_nil) (fun _ _ _ _ _ => (pe_tup (pa_cons (pe_ix (ix_listK (K := K) rfl) (pv 2) (pv 14) (fun _ _ => rfl)) (pa_cons (pe_ix (ix_listK (K := K) rfl) (pv 2) (pe_op op_add (pv 14) pe_int) (fun _ _ => rfl)) pa_nil))))) (pss_cons (ps_setLc (i := 6) (own := [("k", 14)]) (g := gName 14) (by rfl) sc_law_known_right.nd rfl rfl (sw_true rfl rfl rfl (by decide +kernel)) (pi_range2 (by rfl) T.n_range (pa_cons pe_int (pa_cons (pv 1) pa_nil))) (blkOk_by (own := [("k", 14)]) (N := ["state", "many", "names", "tied", "one", "row", "bunch", "ties", "due", "web", "asks", "plan", "table", "other", "k"]) (sc := defScope s_law_known_right) (by decide +kernel)) (fun _ _ _ _ _ => (pg_name (i := 14) sc_law_known_right.nd rfl (Or.inl rfl))) (fun _ _ _ _ _ => pts_nil) (fun _ _ _ _ _ => (pe_tup (pa_cons (pe_ix (ix_listK (K := K) rfl) (pv 2) pe_int (fun _ _ => rfl)) (pa_cons (pe_ix (ix_listK (K := K) rfl) (pv 2) (pv 14) (fun _ _ => rfl)) pa_nil))))) (pss_cons (ps_for PassesOwn.never rfl (pi_listK (K := K) rfl (pe_lst (pa_cons (pe_tup (pa_cons (pv 5) (pa_cons pe_int pa_nil))) (pa_cons (pe_tup (pa_cons (pv 6) (pa_cons (pe_callB (call_max2 rfl) (by rfl) T.n_max (by decide +kernel) (pa_cons pe_int (pa_cons (pe_op op_sub (pv 1) pe_int) pa_nil))) pa_nil))) (pa_cons (pe_tup (pa_cons (pv 3) (pa_cons (pe_op op_sub (pv 1) pe_int) pa_nil))) pa_nil))))) (pg_k (K := K) (t := fun K => gTup K 2 _) rfl (pg_tup (n := 2) rfl (pgs_cons (pg_name (i := 7) sc_law_known_right.nd rfl (Or.inl rfl)) (pgs_cons (pg_name (i := 8) sc_law_known_right.nd rfl (Or.inl rfl)) pgs_nil)))) (pss_cons (ps_set (i := 9) sc_law_known_right.nd rfl (Or.inl rfl) (pe_call (ok_made_webF T) (hr.mono (by decide)) (by rfl) T.d11.mg T.d11.fn.kp T.d11.b .nil pass0 (pa_cons (pv 1) (pa_cons (pv 7) pa_nil)))) (pss_cons (ps_asg (pe_call (ok_fewest_asks T) (hr.mono (by decide)) (by rfl) T.d24.mg T.d24.fn.kp T.d24.b .nil pass0 (pa_cons (pv 9) (pa_cons pe_str pa_nil))) (pg_k (K := K) (t := fun K => gTup K 3 _) rfl (pg_tup (n := 3) rfl (pgs_cons (pg_name (i := 10) sc_law_known_right.nd rfl (Or.inl rfl)) (pgs_cons (pg_name (i := 11) sc_law_known_right.nd rfl (Or.inl rfl)) (pgs_cons (pg_name (i := 12) sc_law_known_right.nd rfl (Or.inl rfl)) pgs_nil)))))) (pss_one (ps_if (PW.pt (pw_or (pt_cmp (pc_neI (pv 10) (pv 8))) (pw_or (pt_not (pt_val (pe_call (ok_table_shows T) (hr.mono (by decide)) (by rfl) T.d30.mg T.d30.fn.kp T.d30.b .nil pass0 (pa_cons (pv 9) (pa_cons pe_str (pa_cons (pv 8) (pa_cons (pv 12) pa_nil))))))) (pw_or1 (pt_val (pe_call (ok_table_shows T) (hr.mono (by decide)) (by rfl) T.d30.mg T.d30.fn.kp T.d30.b .nil pass0 (pa_cons (pv 9) (pa_cons pe_str (pa_cons (pe_op op_add (pv 8) pe_int) (pa_cons (pv 12) pa_nil)))))))))) (pss_one (ps_ret pe_bl)) pss_nil))))) (pss_one (ps_ret pe_bl))))))))), ?_⟩
    refine ⟨_, rfl, _, _, _, _, _, _, rfl, w0, h_state, ?_⟩
    refine (post_bind hm).mono (fun y2 hm v2 vs2 F2 H2 w2 s2 r2 h2 => ?_) (fun _ z => z)
    replace sF := sF.trans s2
    obtain rfl : v2 = V.int y2.1 := r2
    refine ⟨_, _, rfl, rfl, _, rfl, _, rfl, _, _, _, _, _, _, rfl, w2, h2, ?_⟩
    refine (post_bind hm).mono (fun y3 hm p3 us3 vs3 F3 H3 w3 s3 g3 h3 => ?_) (fun _ z => z)
    replace sF := sF.trans s3
    obtain ⟨F5, s5, w5, q5⟩ : ∃ F', Same F3 F' ∧ W F' _ ((a_state, .lst vs3) :: os) ∧ F' p3 = some (.lst us3) := w3.freezeE (pre := [])
    replace h3 := A2.mono s5 h3
    replace g3 := A2.mono s5 g3
    replace sF := sF.trans s5
    have h6 : A2 (rep K F5) [] ([] : (List (Int × Int))) := .nil
    refine ⟨(by show 0 ≤ sizeLine; decide), fun p7 n7 => ?_⟩
    have w7 : W F5 _ ((p7, .lst []) :: (a_state, .lst vs3) :: os) := w5.new n7
    obtain ⟨c9, hm⟩ := pb_rng hm
    refine ⟨_, rfl, _, rfl, c9.2.2.1, c9.2.2.2, ?_⟩
    refine forS (tw_rng0 (j := ((2 : Int) + y2.1))) hm (fun (g8 : (List (Int × Int))) σ H' => ∃ (F' : Hp) (vs8_0 : List V) (o8_4 : Option V), σ = [some (.ref a_state), some (.int ((2 : Int) + y2.1)), some (.ref p3), some (.ref p7), o8_4, none, none, none, none, none, none, none, none, none, none] ∧ Same F5 F' ∧ W F' H' ((p7, .lst vs8_0) :: (a_state, .lst vs3) :: os) ∧ A2 (rep K F') vs8_0 g8) ⟨_, _, _, rfl, Same.refl _, w7, h6⟩ (fun _ _ _ _ => trivial) ?_ ?_
    · -- a turn
      intro b8 g8 x8 σ8 H8 H8' N8 P8 hI hy hN8 hm
      obtain ⟨F8, vs8_0, o8_4, rfl, s8, w8, h8_0⟩ := hI
      replace g3 := A2.mono s8 g3
      replace q5 := s8 _ _ q5
      replace h3 := A2.mono s8 h3
      replace sF := sF.trans s8
      obtain ⟨rfl, rfl⟩ := hy
      obtain ⟨c10, hm⟩ := pb_rng hm
      refine ⟨_, rfl, .inl ⟨rfl, _, SqL.of (w8.get (pre := []))⟩, _, rfl, _, rfl, c10.2.2.1, c10.2.2.2, fun D11 nD11 => ?_⟩
      refine lcM (K := K) (tw_rng0 (j := b8)) hm w8 nD11 (fun F' H' acc s w => trivial) ?_ ?_
      · -- one turn
        intro b11 x11 F11 H11 H11' acc11 N11 P11 s11 w11 y11 hN11 hm
        replace g3 := A2.mono s11 g3
        replace q5 := s11 _ _ q5
        replace h8_0 := A2.mono s11 h8_0
        replace h3 := A2.mono s11 h3
        replace sF := sF.trans s11
        obtain ⟨rfl, rfl⟩ := y11
        obtain ⟨t13, e13, hm⟩ := pb_get hm
        obtain ⟨u13, f13, r13⟩ := A2.at g3 e13
        obtain rfl : u13 = V.int t13 := r13
        obtain ⟨t14, e14, hm⟩ := pb_get hm
        obtain ⟨u14, f14, r14⟩ := A2.at g3 e14
        obtain rfl : u14 = V.int t14 := r14
        refine ⟨rfl, _, rfl, _, rfl, _, _, _, _, rfl, rfl, SqL.of (w11.same _ _ q5), f13, _, rfl, _, rfl, _, _, _, _, rfl, rfl, SqL.of (w11.same _ _ q5), f14, (by show 2 ≤ sizeLine; decide), fun p15 n15 => ?_⟩
        obtain ⟨F15, s15, w15, q15⟩ := w11.frzE (o := .tup [(.int t13), (.int t14)]) n15
        replace g3 := A2.mono s15 g3
        replace q5 := s15 _ _ q5
        replace h8_0 := A2.mono s15 h8_0
        replace h3 := A2.mono s15 h3
        replace sF := sF.trans s15
        exact hN11 _ (post_ok hm) _ _ _ w15 s15 (rep_pair q15 rep_i rep_i)
      intro us11 F11 H11 ys11 s11 w11 gg11 hm
      replace g3 := A2.mono s11 g3
      replace q5 := s11 _ _ q5
      replace h8_0 := A2.mono s11 h8_0
      replace h3 := A2.mono s11 h3
      replace sF := sF.trans s11
      obtain ⟨l17, z17, e17, hm⟩ := pn_extend hm
      refine ⟨_, _, _, _, rfl, rfl, (w11.get (pre := [_])), (w11.get (pre := [])), (A2.le2 h8_0 gg11 z17), ?_⟩
      have h17 : A2 (rep K F11) (vs8_0 ++ us11) l17 := e17 ▸ A2.append h8_0 gg11
      have w18 : W F11 _ ((D11, .lst us11) :: (p7, .lst (vs8_0 ++ us11)) :: (a_state, .lst vs3) :: os) := w11.set (pre := [_])
      have w19 : W F11 _ ((p7, .lst (vs8_0 ++ us11)) :: (a_state, .lst vs3) :: os) := w18.drop (pre := [])
      exact hN8 _ (post_ok hm) _ _ ⟨_, _, _, rfl, (s8.trans s11), w19, h17⟩
    intro g8 σ8 H8 hI hm
    obtain ⟨F8, vs8_0, o8_4, rfl, s8, w8, h8_0⟩ := hI
    replace g3 := A2.mono s8 g3
    replace q5 := s8 _ _ q5
    replace h3 := A2.mono s8 h3
    replace sF := sF.trans s8
    obtain ⟨c20, hm⟩ := pb_rng hm
    refine ⟨_, rfl, _, _, rfl, rfl, _, rfl, c20.2.2.1, c20.2.2.2, fun D21 nD21 => ?_⟩
    refine lcM (K := K) (tw_rng0 (j := (((2 : Int) + y2.1) - (1 : Int)))) hm w8 nD21 (fun F' H' acc s w => trivial) ?_ ?_
    · -- one turn
      intro b21 x21 F21 H21 H21' acc21 N21 P21 s21 w21 y21 hN21 hm
      replace g3 := A2.mono s21 g3
      replace q5 := s21 _ _ q5
      replace h8_0 := A2.mono s21 h8_0
      replace h3 := A2.mono s21 h3
      replace sF := sF.trans s21
      obtain ⟨rfl, rfl⟩ := y21
      obtain ⟨t23, e23, hm⟩ := pb_get hm
      obtain ⟨u23, f23, r23⟩ := A2.at g3 e23
      obtain rfl : u23 = V.int t23 := r23
      obtain ⟨t24, e24, hm⟩ := pb_get hm
      obtain ⟨u24, f24, r24⟩ := A2.at g3 e24
      obtain rfl : u24 = V.int t24 := r24
      refine ⟨rfl, _, rfl, _, rfl, _, _, _, _, rfl, rfl, SqL.of (w21.same _ _ q5), f23, _, rfl, _, rfl, _, _, rfl, rfl, _, _, _, _, rfl, rfl, SqL.of (w21.same _ _ q5), f24, (by show 2 ≤ sizeLine; decide), fun p25 n25 => ?_⟩
      obtain ⟨F25, s25, w25, q25⟩ := w21.frzE (o := .tup [(.int t23), (.int t24)]) n25
      replace g3 := A2.mono s25 g3
      replace q5 := s25 _ _ q5
      replace h8_0 := A2.mono s25 h8_0
      replace h3 := A2.mono s25 h3
      replace sF := sF.trans s25
      exact hN21 _ (post_ok hm) _ _ _ w25 s25 (rep_pair q25 rep_i rep_i)
    intro us21 F21 H21 ys21 s21 w21 gg21 hm
    replace g3 := A2.mono s21 g3
    replace q5 := s21 _ _ q5
    replace h8_0 := A2.mono s21 h8_0
    replace h3 := A2.mono s21 h3
    replace sF := sF.trans s21
    obtain ⟨F27, s27, w27, q27⟩ : ∃ F', Same F21 F' ∧ W F' _ ((p7, .lst vs8_0) :: (a_state, .lst vs3) :: os) ∧ F' D21 = some (.lst us21) := w21.freezeE (pre := [])
    replace g3 := A2.mono s27 g3
    replace q5 := s27 _ _ q5
    replace h8_0 := A2.mono s27 h8_0
    replace h3 := A2.mono s27 h3
    replace gg21 := A2.mono s27 gg21
    replace sF := sF.trans s27
    obtain ⟨c28, hm⟩ := pb_rng hm
    refine ⟨_, rfl, _, _, rfl, c28, fun D29 nD29 => ?_⟩
    refine lcM (K := K) (tw_rng (i := (1 : Int)) (j := ((2 : Int) + y2.1))) hm w27 nD29 (fun F' H' acc s w => trivial) ?_ ?_
    · -- one turn
      intro b29 x29 F29 H29 H29' acc29 N29 P29 s29 w29 y29 hN29 hm
      replace g3 := A2.mono s29 g3
      replace q5 := s29 _ _ q5
      replace gg21 := A2.mono s29 gg21
      replace q27 := s29 _ _ q27
      replace h8_0 := A2.mono s29 h8_0
      replace h3 := A2.mono s29 h3
      replace sF := sF.trans s29
      obtain ⟨rfl, rfl⟩ := y29
      obtain ⟨t31, e31, hm⟩ := pb_get hm
      obtain ⟨u31, f31, r31⟩ := A2.at g3 e31
      obtain rfl : u31 = V.int t31 := r31
      obtain ⟨t32, e32, hm⟩ := pb_get hm
      obtain ⟨u32, f32, r32⟩ := A2.at g3 e32
      obtain rfl : u32 = V.int t32 := r32
      refine ⟨rfl, _, rfl, _, _, _, _, rfl, rfl, SqL.of (w29.same _ _ q5), f31, _, rfl, _, rfl, _, _, _, _, rfl, rfl, SqL.of (w29.same _ _ q5), f32, (by show 2 ≤ sizeLine; decide), fun p33 n33 => ?_⟩
      obtain ⟨F33, s33, w33, q33⟩ := w29.frzE (o := .tup [(.int t31), (.int t32)]) n33
      replace g3 := A2.mono s33 g3
      replace q5 := s33 _ _ q5
      replace gg21 := A2.mono s33 gg21
      replace q27 := s33 _ _ q27
      replace h8_0 := A2.mono s33 h8_0
      replace h3 := A2.mono s33 h3
      replace sF := sF.trans s33
      exact hN29 _ (post_ok hm) _ _ _ w33 s33 (rep_pair q33 rep_i rep_i)
    intro us29 F29 H29 ys29 s29 w29 gg29 hm
    replace g3 := A2.mono s29 g3
    replace q5 := s29 _ _ q5
    replace gg21 := A2.mono s29 gg21
    replace q27 := s29 _ _ q27
    replace h8_0 := A2.mono s29 h8_0
    replace h3 := A2.mono s29 h3
    replace sF := sF.trans s29
    obtain ⟨F35, s35, w35, q35⟩ : ∃ F', Same F29 F' ∧ W F' _ ((p7, .lst vs8_0) :: (a_state, .lst vs3) :: os) ∧ F' D29 = some (.lst us29) := w29.freezeE (pre := [])
    replace g3 := A2.mono s35 g3
    replace q5 := s35 _ _ q5
    replace gg21 := A2.mono s35 gg21
    replace q27 := s35 _ _ q27
    replace h8_0 := A2.mono s35 h8_0
    replace h3 := A2.mono s35 h3
    replace gg29 := A2.mono s35 gg29
    replace sF := sF.trans s35
    refine ⟨_, rfl, (by show 2 ≤ sizeLine; decide), fun p37 n37 => ?_⟩
    obtain ⟨F37, s37, w37, q37⟩ := w35.frzE (o := .tup [(.ref D21), (.int 1)]) n37
    replace g3 := A2.mono s37 g3
    replace q5 := s37 _ _ q5
    replace gg21 := A2.mono s37 gg21
    replace q27 := s37 _ _ q27
    replace gg29 := A2.mono s37 gg29
    replace q35 := s37 _ _ q35
    replace h8_0 := A2.mono s37 h8_0
    replace h3 := A2.mono s37 h3
    replace sF := sF.trans s37
    refine ⟨_, rfl, _, rfl, _, _, rfl, rfl, _, _, rfl, (by show 2 ≤ sizeLine; decide), fun p38 n38 => ?_⟩
    obtain ⟨F38, s38, w38, q38⟩ := w37.frzE (o := .tup [(.ref D29), (.int (max2 (1 : Int) (((2 : Int) + y2.1) - (2 : Int))))]) n38
    replace g3 := A2.mono s38 g3
    replace q5 := s38 _ _ q5
    replace gg21 := A2.mono s38 gg21
    replace q27 := s38 _ _ q27
    replace gg29 := A2.mono s38 gg29
    replace q35 := s38 _ _ q35
    replace h8_0 := A2.mono s38 h8_0
    replace h3 := A2.mono s38 h3
    replace q37 := s38 _ _ q37
    replace sF := sF.trans s38
    obtain ⟨F39, s39, w39, q39⟩ : ∃ F', Same F38 F' ∧ W F' _ ((a_state, .lst vs3) :: os) ∧ F' p7 = some (.lst vs8_0) := w38.freezeE (pre := [])
    replace g3 := A2.mono s39 g3
    replace q5 := s39 _ _ q5
    replace gg21 := A2.mono s39 gg21
    replace q27 := s39 _ _ q27
    replace gg29 := A2.mono s39 gg29
    replace q35 := s39 _ _ q35
    replace h8_0 := A2.mono s39 h8_0
    replace h3 := A2.mono s39 h3
    replace q37 := s39 _ _ q37
    replace q38 := s39 _ _ q38
    replace sF := sF.trans s39
    refine ⟨_, rfl, _, rfl, _, _, rfl, rfl, (by show 2 ≤ sizeLine; decide), fun p40 n40 => ?_⟩
    obtain ⟨F40, s40, w40, q40⟩ := w39.frzE (o := .tup [(.ref p7), (.int (((2 : Int) + y2.1) - (1 : Int)))]) n40
    replace g3 := A2.mono s40 g3
    replace q5 := s40 _ _ q5
    replace gg21 := A2.mono s40 gg21
    replace q27 := s40 _ _ q27
    replace gg29 := A2.mono s40 gg29
    replace q35 := s40 _ _ q35
    replace h8_0 := A2.mono s40 h8_0
    replace h3 := A2.mono s40 h3
    replace q37 := s40 _ _ q37
    replace q38 := s40 _ _ q38
    replace q39 := s40 _ _ q39
    replace sF := sF.trans s40
    have h41 : A2 (rep K F40) [(.ref p37), (.ref p38), (.ref p40)] ([(ys21, (1 : Int)), (ys29, (max2 (1 : Int) (((2 : Int) + y2.1) - (2 : Int)))), (g8, (((2 : Int) + y2.1) - (1 : Int)))] : (List ((List (Int × Int)) × Int))) := .cons (rep_pair q37 (rep_lst q27 gg21) rep_i) (.cons (rep_pair q38 (rep_lst q35 gg29) rep_i) (.cons (rep_pair q40 (rep_lst q39 h8_0) rep_i) (.nil)))
    refine ⟨(by show 3 ≤ sizeLine; decide), fun p42 n42 => ?_⟩
    have w42 : W F40 _ ((p42, .lst [(.ref p37), (.ref p38), (.ref p40)]) :: (a_state, .lst vs3) :: os) := w40.new n42
    obtain ⟨F43, s43, w43, q43⟩ : ∃ F', Same F40 F' ∧ W F' _ ((a_state, .lst vs3) :: os) ∧ F' p42 = some (.lst [(.ref p37), (.ref p38), (.ref p40)]) := w42.freezeE (pre := [])
    replace g3 := A2.mono s43 g3
    replace q5 := s43 _ _ q5
    replace gg21 := A2.mono s43 gg21
    replace q27 := s43 _ _ q27
    replace gg29 := A2.mono s43 gg29
    replace q35 := s43 _ _ q35
    replace h8_0 := A2.mono s43 h8_0
    replace h3 := A2.mono s43 h3
    replace q37 := s43 _ _ q37
    replace q38 := s43 _ _ q38
    replace q39 := s43 _ _ q39
    replace q40 := s43 _ _ q40
    replace h41 := A2.mono s43 h41
    replace sF := sF.trans s43
    refine ⟨_, rfl, ⟨_, SqL.of (w43.same _ _ q43)⟩, ?_⟩
    refine forX (tw_list (a := p42) h41) hm (fun (g36 : Unit) σ H' => ∃ (F' : Hp) (o36_9 : Option V) (o36_10 : Option V) (o36_11 : Option V) (o36_12 : Option V) (o36_7 : Option V) (o36_8 : Option V), σ = [some (.ref a_state), some (.int ((2 : Int) + y2.1)), some (.ref p3), some (.ref p7), o8_4, some (.ref D21), some (.ref D29), o36_7, o36_8, o36_9, o36_10, o36_11, o36_12, none, none] ∧ Same F43 F' ∧ W F' H' ((a_state, .lst vs3) :: os)) ⟨_, _, _, _, _, _, _, rfl, Same.refl _, w43⟩ (fun g σ H' hI => by obtain ⟨F', _, _, _, _, _, _, _, s, w⟩ := hI; exact SqL.of (w.same _ _ (s _ _ q43))) ?_ ?_
    · -- a turn
      intro b36 g36 x36 σ36 H36 H36' N36 B36 P36 hI hy hN36 hB36 hZ36 hm
      obtain ⟨F36, o36_9, o36_10, o36_11, o36_12, o36_7, o36_8, rfl, s36, w36⟩ := hI
      replace g3 := A2.mono s36 g3
      replace q5 := s36 _ _ q5
      replace gg21 := A2.mono s36 gg21
      replace q27 := s36 _ _ q27
      replace gg29 := A2.mono s36 gg29
      replace q35 := s36 _ _ q35
      replace h8_0 := A2.mono s36 h8_0
      replace h3 := A2.mono s36 h3
      replace q37 := s36 _ _ q37
      replace q38 := s36 _ _ q38
      replace q39 := s36 _ _ q39
      replace q40 := s36 _ _ q40
      replace h41 := A2.mono s36 h41
      replace q43 := s36 _ _ q43
      replace sF := sF.trans s36
      obtain ⟨rfl, r44⟩ := hy
      replace r44 := Rep.mono s36 r44
      obtain ⟨a45, u45, z45, rfl, q45, r45a, r45b⟩ := r44
      obtain ⟨a46, vs46, rfl, q46, h46⟩ := r45a
      obtain rfl : z45 = V.int b36.2 := r45b
      refine ⟨_, _, rfl, SqT.of (w36.same _ _ q45), rfl, _, _, rfl, _, _, rfl, rfl, _, rfl, _, rfl, _, _, _, _, (b36.1 : (List (Int × Int))), rfl, w36, (rep_lst q46 h46), ?_⟩
      refine (post_bind hm).mono (fun y47 hm v47 F47 H47 w47 s47 r47 => ?_) (fun _ z => z)
      replace g3 := A2.mono s47 g3
      replace q5 := s47 _ _ q5
      replace h8_0 := A2.mono s47 h8_0
      replace q39 := s47 _ _ q39
      replace gg21 := A2.mono s47 gg21
      replace q27 := s47 _ _ q27
      replace gg29 := A2.mono s47 gg29
      replace q35 := s47 _ _ q35
      replace h46 := A2.mono s47 h46
      replace q46 := s47 _ _ q46
      replace h3 := A2.mono s47 h3
      replace sF := sF.trans s47
      obtain ⟨a48, u48, z48, rfl, q48, r48a, r48b⟩ := r47
      obtain rfl : u48 = V.int y47.1 := r48a
      obtain ⟨a49, vs49, rfl, q49, h49⟩ := r48b
      refine ⟨_, rfl, _, _, _, (y47 : (Int × (Tup (Int × Int)))), _, rfl, w47, (rep_pair q48 rep_i (rep_tup q49 h49)), ?_⟩
      refine (post_bind hm).mono (fun y50 hm v50 F50 H50 w50 s50 r50 => ?_) (fun _ z => z)
      replace g3 := A2.mono s50 g3
      replace q5 := s50 _ _ q5
      replace h8_0 := A2.mono s50 h8_0
      replace q39 := s50 _ _ q39
      replace gg21 := A2.mono s50 gg21
      replace q27 := s50 _ _ q27
      replace gg29 := A2.mono s50 gg29
      replace q35 := s50 _ _ q35
      replace q48 := s50 _ _ q48
      replace h49 := A2.mono s50 h49
      replace q49 := s50 _ _ q49
      replace h46 := A2.mono s50 h46
      replace q46 := s50 _ _ q46
      replace h3 := A2.mono s50 h3
      replace sF := sF.trans s50
      obtain ⟨a51, u51_0, u51_1, u51_2, rfl, q51, r51_0, r51_1, r51_2⟩ := nt3 r50
      replace r51_0 : rep K F50 u51_0 (y50.v.1 : Int) := r51_0
      obtain rfl : u51_0 = V.int y50.v.1 := r51_0
      replace r51_1 : rep K F50 u51_1 (y50.v.2.1 : Pl) := r51_1
      have r52 : rep K F50 u51_1 (y50.v.2.1 : Pl) := r51_1
      obtain ⟨a52, u52, t52, rfl, q52, o52, l52⟩ := pl_openN r52
      replace r51_2 : rep K F50 u51_2 (y50.v.2.2.1 : (List ((Tup Thing) × Int))) := r51_2
      obtain ⟨a53, vs53, rfl, q53, h53⟩ := r51_2
      refine ⟨_, _, rfl, SqT.of (w50.same _ _ q51), rfl, _, _, rfl, _, _, rfl, _, _, rfl, rfl, ?_⟩
      try dsimp only
      refine stepIf ?_
      refine joinT hm (fun (j54 : Bool) c H' => c = j54 ∧ ∃ (F' : Hp), Same F50 F' ∧ W F' H' ((a_state, .lst vs3) :: os)) ?_ ?_
      · intro Q54 P54 q54 hm
        refine ⟨_, rfl, _, rfl, _, _, rfl, rfl, _, rfl, ?_⟩
        refine post_ite hm (fun k55 hm => ?_) (fun k55 hm => ?_)
        · skip
          exact q54 _ (post_ok hm) _ _ ⟨rfl, _, Same.refl _, w50⟩
        · skip
          refine ⟨_, rfl, _, rfl, _, rfl, _, _, _, (y47 : (Int × (Tup (Int × Int)))), _, _, _, (y50.v.2.2.1 : (List ((Tup Thing) × Int))), rfl, w50, (rep_pair q48 rep_i (rep_tup q49 h49)), (rep_lst q53 h53), ?_⟩
          refine (post_bind hm).mono (fun y57 hm v57 F57 H57 w57 s57 r57 => ?_) (fun _ z => z)
          replace g3 := A2.mono s57 g3
          replace q5 := s57 _ _ q5
          replace h8_0 := A2.mono s57 h8_0
          replace q39 := s57 _ _ q39
          replace gg21 := A2.mono s57 gg21
          replace q27 := s57 _ _ q27
          replace gg29 := A2.mono s57 gg29
          replace q35 := s57 _ _ q35
          replace q48 := s57 _ _ q48
          replace h49 := A2.mono s57 h49
          replace q49 := s57 _ _ q49
          replace q52 := s57 _ _ q52
          replace r52 := Rep.mono s57 r52
          replace o52 := Rep.mono s57 o52
          replace h53 := A2.mono s57 h53
          replace q53 := s57 _ _ q53
          replace h46 := A2.mono s57 h46
          replace q46 := s57 _ _ q46
          replace h3 := A2.mono s57 h3
          replace sF := sF.trans s57
          obtain rfl : v57 = V.bl y57 := r57
          refine ⟨_, rfl, ?_⟩
          refine post_ite hm (fun k58 hm => ?_) (fun k58 hm => ?_)
          · skip
            exact q54 _ (post_ok hm) _ _ ⟨rfl, _, s57, w57⟩
          · skip
            refine ⟨_, rfl, _, rfl, _, _, rfl, rfl, _, rfl, _, _, _, (y47 : (Int × (Tup (Int × Int)))), _, _, _, (y50.v.2.2.1 : (List ((Tup Thing) × Int))), rfl, w57, (rep_pair q48 rep_i (rep_tup q49 h49)), (rep_lst q53 h53), ?_⟩
            refine (post_bind hm).mono (fun y60 hm v60 F60 H60 w60 s60 r60 => ?_) (fun _ z => z)
            replace g3 := A2.mono s60 g3
            replace q5 := s60 _ _ q5
            replace h8_0 := A2.mono s60 h8_0
            replace q39 := s60 _ _ q39
            replace gg21 := A2.mono s60 gg21
            replace q27 := s60 _ _ q27
            replace gg29 := A2.mono s60 gg29
            replace q35 := s60 _ _ q35
            replace q48 := s60 _ _ q48
            replace h49 := A2.mono s60 h49
            replace q49 := s60 _ _ q49
            replace q52 := s60 _ _ q52
            replace r52 := Rep.mono s60 r52
            replace o52 := Rep.mono s60 o52
            replace h53 := A2.mono s60 h53
            replace q53 := s60 _ _ q53
            replace h46 := A2.mono s60 h46
            replace q46 := s60 _ _ q46
            replace h3 := A2.mono s60 h3
            replace sF := sF.trans s60
            obtain rfl : v60 = V.bl y60 := r60
            exact ⟨_, rfl, q54 _ (post_ok hm) _ _ ⟨rfl, _, (s57.trans s60), w60⟩⟩
      intro j54 c54 H54 hc54 hm
      obtain ⟨rfl, F54, s54, w54⟩ := hc54
      replace g3 := A2.mono s54 g3
      replace q5 := s54 _ _ q5
      replace h8_0 := A2.mono s54 h8_0
      replace q39 := s54 _ _ q39
      replace gg21 := A2.mono s54 gg21
      replace q27 := s54 _ _ q27
      replace gg29 := A2.mono s54 gg29
      replace q35 := s54 _ _ q35
      replace q48 := s54 _ _ q48
      replace h49 := A2.mono s54 h49
      replace q49 := s54 _ _ q49
      replace q52 := s54 _ _ q52
      replace r52 := Rep.mono s54 r52
      replace o52 := Rep.mono s54 o52
      replace h53 := A2.mono s54 h53
      replace q53 := s54 _ _ q53
      replace h46 := A2.mono s54 h46
      replace q46 := s54 _ _ q46
      replace h3 := A2.mono s54 h3
      replace sF := sF.trans s54
      refine post_ite hm (fun k62 hm => ?_) (fun k62 hm => ?_)
      · skip
        have hm := hZ36 _ (post_ok hm)
        exact (post_ok hm) _ _ _ _ w54 sF rep_b h3
      · skip
        exact hN36 _ (post_ok hm) _ _ ⟨_, _, _, _, _, _, _, rfl, (s36.trans (s47.trans (s50.trans s54))), w54⟩
    intro g36 σ36 H36 hI hm
    obtain ⟨F36, o36_9, o36_10, o36_11, o36_12, o36_7, o36_8, rfl, s36, w36⟩ := hI
    replace g3 := A2.mono s36 g3
    replace q5 := s36 _ _ q5
    replace gg21 := A2.mono s36 gg21
    replace q27 := s36 _ _ q27
    replace gg29 := A2.mono s36 gg29
    replace q35 := s36 _ _ q35
    replace h8_0 := A2.mono s36 h8_0
    replace h3 := A2.mono s36 h3
    replace q37 := s36 _ _ q37
    replace q38 := s36 _ _ q38
    replace q39 := s36 _ _ q39
    replace q40 := s36 _ _ q40
    replace h41 := A2.mono s36 h41
    replace q43 := s36 _ _ q43
    replace sF := sF.trans s36
    exact (post_ok hm) _ _ _ _ w36 sF rep_b h3
def sp_law (K : Fg) : Sp := fun vs H Q E => ∃ (F : Hp) (os : List (Addr × HO)) (v_script : V) (x_script : Scr), vs = [v_script] ∧ W F H (os) ∧ rep K F v_script x_script ∧ Post (law x_script) (Ret K F os Q) noX
theorem sc_law : FnScope ["script", "cell", "state", "web", "kind", "things"] ["script"] (defScope s_law) := ⟨rfl, rfl, rfl, by decide +kernel, rfl, by decide +kernel, by decide +kernel⟩
theorem ok_law (T : Tx K mg A FD) : FnOk P w K mg base CX0 46 (A 44) (FD 44) ["script"] (sp_law K) := by
  refine T.d44.fn.ok sc_law (fun vs H Q E h => ?_) (fun cdv Ar outer s H vs Q E hr h => ?_)
  · obtain ⟨F, os, v_script, x_script, rfl, _⟩ := h
    rfl
  · obtain ⟨F0, os, v_script, x_script, rfl, w0, r_script, hm⟩ := h
    have sF : Same F0 F0 := Same.refl _
    obtain ⟨a1, rfl, q1⟩ := r_script
    have h1 : A2 (rep K F0) (x_script.l.map V.int) x_script.l := A2.of_ints
    refine ⟨_, (pss_cons (ps_for PassesOwn.never rfl (pi_listK (K := K) rfl (pe_call (ok_law_folded T) (hr.mono (by decide)) (by rfl) T.d33.mg T.d33.fn.kp T.d33.b .nil pass0 (pa_cons (pv 0) (pa_cons pe_int pa_nil)))) (pg_name (i := 1) sc_law.nd rfl (Or.inl rfl)) (pss_cons (ps_set (i := 2) sc_law.nd rfl (Or.inl rfl) (pe_call (ok_law_state T) (hr.mono (by decide)) (by rfl) T.d34.mg T.d34.fn.kp T.d34.b .nil pass0 (pa_cons (pv 1) pa_nil))) (pss_cons (ps_asg (pe_call (ok_law_few T) (hr.mono (by decide)) (by rfl) T.d38.mg T.d38.fn.kp T.d38.b .nil pass0 (pa_cons (pv 2) (pa_cons pe_int pa_nil))) (pg_k (K := K) (t := fun K => gTup K 3 _) rfl (pg_tup (n := 3) rfl (pgs_cons (pg_name (i := 3) sc_law.nd rfl (Or.inl rfl)) (pgs_cons (pg_name (i := 4) sc_law.nd rfl (Or.inl rfl)) (pgs_cons (pg_name (i := 5) sc_law.nd rfl (Or.inl rfl)) pgs_nil)))))) (pss_one (ps_if (PW.pt (pw_or (pt_not (pt_val (pe_call (ok_law_renamed_right T) (hr.mono (by decide)) (by rfl) T.d42.mg T.d42.fn.kp T.d42.b .nil pass0 (pa_cons (pv 2) (pa_cons (pv 3) (pa_cons (pv 4) pa_nil)))))) (pw_or1 (pt_not (pt_val (pe_call (ok_law_known_right T) (hr.mono (by decide)) (by rfl) T.d43.mg T.d43.fn.kp T.d43.b .nil pass0 (pa_cons (pv 2) pa_nil))))))) (pss_one (ps_ret pe_bl)) pss_nil))))) (pss_one (ps_ret pe_bl))), ?_⟩
    refine ⟨_, rfl, _, _, _, (x_script : Scr), _, rfl, w0, ⟨_, rfl, q1⟩, ?_⟩
    refine (post_bind hm).mono (fun y3 hm p3 us3 F3 H3 w3 s3 g3 => ?_) (fun _ z => z)
    replace q1 := s3.seq q1
    replace h1 := A2.mono s3 h1
    replace sF := sF.trans s3
    obtain ⟨F5, s5, w5, q5⟩ : ∃ F', Same F3 F' ∧ W F' _ (os) ∧ F' p3 = some (.lst us3) := w3.freezeE (pre := [])
    replace q1 := s5.seq q1
    replace h1 := A2.mono s5 h1
    replace g3 := A2.mono s5 g3
    replace sF := sF.trans s5
    refine ⟨_, rfl, ⟨_, SqL.of (w5.same _ _ q5)⟩, ?_⟩
    refine forX (tw_list (a := p3) g3) hm (fun (g2 : Unit) σ H' => ∃ (F' : Hp) (o2_2 : Option V) (o2_3 : Option V) (o2_4 : Option V) (o2_5 : Option V) (o2_1 : Option V), σ = [some (.ref a1), o2_1, o2_2, o2_3, o2_4, o2_5] ∧ Same F5 F' ∧ W F' H' (os)) ⟨_, _, _, _, _, _, rfl, Same.refl _, w5⟩ (fun g σ H' hI => by obtain ⟨F', _, _, _, _, _, _, s, w⟩ := hI; exact SqL.of (w.same _ _ (s _ _ q5))) ?_ ?_
    · -- a turn
      intro b2 g2 x2 σ2 H2 H2' N2 B2 P2 hI hy hN2 hB2 hZ2 hm
      obtain ⟨F2, o2_2, o2_3, o2_4, o2_5, o2_1, rfl, s2, w2⟩ := hI
      replace q1 := s2.seq q1
      replace h1 := A2.mono s2 h1
      replace g3 := A2.mono s2 g3
      replace q5 := s2 _ _ q5
      replace sF := sF.trans s2
      obtain ⟨rfl, r6⟩ := hy
      obtain rfl : x2 = V.int b2 := r6
      refine ⟨_, rfl, _, _, _, rfl, w2, ?_⟩
      refine (post_bind hm).mono (fun y7 hm p7 us7 F7 H7 w7 s7 g7 => ?_) (fun _ z => z)
      replace h1 := A2.mono s7 h1
      replace q1 := s7.seq q1
      replace sF := sF.trans s7
      refine ⟨_, rfl, _, _, _, _, _, _, rfl, w7, g7, ?_⟩
      refine (post_bind hm).mono (fun y9 hm v9 vs9 F9 H9 w9 s9 r9 h9 => ?_) (fun _ z => z)
      replace h1 := A2.mono s9 h1
      replace q1 := s9.seq q1
      replace sF := sF.trans s9
      obtain ⟨a10, u10_0, u10_1, u10_2, rfl, q10, r10_0, r10_1, r10_2⟩ := nt3 r9
      replace r10_0 : rep K F9 u10_0 (y9.1.v.1 : (Int × (Tup (Int × Int)))) := r10_0
      obtain ⟨a11, u11, z11, rfl, q11, r11a, r11b⟩ := r10_0
      obtain rfl : u11 = V.int y9.1.v.1.1 := r11a
      obtain ⟨a12, vs12, rfl, q12, h12⟩ := r11b
      replace r10_1 : rep K F9 u10_1 (y9.1.v.2.1 : Str) := r10_1
      obtain rfl : u10_1 = V.str y9.1.v.2.1 := r10_1
      replace r10_2 : rep K F9 u10_2 (y9.1.v.2.2.1 : (List Thing)) := r10_2
      obtain ⟨a13, vs13, rfl, q13, h13⟩ := r10_2
      refine ⟨_, _, rfl, SqT.of (w9.same _ _ q10), rfl, _, _, rfl, _, _, rfl, _, _, rfl, rfl, ?_⟩
      try dsimp only
      refine stepIf ?_
      refine joinT hm (fun (j14 : Bool × (List Int)) c H' => c = j14.1 ∧ ∃ (F' : Hp) (vs14_0 : List V), Same F9 F' ∧ W F' H' ((p7, .lst vs14_0) :: os) ∧ A2 (rep K F') vs14_0 j14.2) ?_ ?_
      · intro Q14 P14 q14 hm
        refine ⟨_, rfl, _, rfl, _, rfl, _, _, _, _, _, _, (y9.1.v.1 : (Int × (Tup (Int × Int)))), _, rfl, w9, h9, (rep_pair q11 rep_i (rep_tup q12 h12)), ?_⟩
        refine (post_bind hm).mono (fun y15 hm v15 vs15 F15 H15 w15 s15 r15 h15 => ?_) (fun _ z => z)
        replace h1 := A2.mono s15 h1
        replace q1 := s15.seq q1
        replace q11 := s15 _ _ q11
        replace h12 := A2.mono s15 h12
        replace q12 := s15 _ _ q12
        replace h13 := A2.mono s15 h13
        replace q13 := s15 _ _ q13
        replace sF := sF.trans s15
        obtain rfl : v15 = V.bl y15.1 := r15
        refine ⟨_, rfl, ?_⟩
        refine post_ite hm (fun k16 hm => ?_) (fun k16 hm => ?_)
        · skip
          exact q14 _ (post_ok hm) _ _ ⟨rfl, _, _, s15, w15, h15⟩
        · skip
          refine ⟨_, rfl, _, _, _, _, _, rfl, w15, h15, ?_⟩
          refine (post_bind hm).mono (fun y18 hm v18 vs18 F18 H18 w18 s18 r18 h18 => ?_) (fun _ z => z)
          replace h1 := A2.mono s18 h1
          replace q1 := s18.seq q1
          replace q11 := s18 _ _ q11
          replace h12 := A2.mono s18 h12
          replace q12 := s18 _ _ q12
          replace h13 := A2.mono s18 h13
          replace q13 := s18 _ _ q13
          replace sF := sF.trans s18
          obtain rfl : v18 = V.bl y18.1 := r18
          exact ⟨_, rfl, q14 _ (post_ok hm) _ _ ⟨rfl, _, _, (s15.trans s18), w18, h18⟩⟩
      intro j14 c14 H14 hc14 hm
      obtain ⟨rfl, F14, vs14_0, s14, w14, h14_0⟩ := hc14
      replace h1 := A2.mono s14 h1
      replace q1 := s14.seq q1
      replace q11 := s14 _ _ q11
      replace h12 := A2.mono s14 h12
      replace q12 := s14 _ _ q12
      replace h13 := A2.mono s14 h13
      replace q13 := s14 _ _ q13
      replace sF := sF.trans s14
      refine post_ite hm (fun k20 hm => ?_) (fun k20 hm => ?_)
      · skip
        have hm := hZ2 _ (post_ok hm)
        have w21 : W F14 _ (os) := w14.drop (pre := [])
        exact (post_ok hm) _ _ _ w21 sF rep_b
      · skip
        have w22 : W F14 _ (os) := w14.drop (pre := [])
        exact hN2 _ (post_ok hm) _ _ ⟨_, _, _, _, _, _, rfl, (s2.trans (s7.trans (s9.trans s14))), w22⟩
    intro g2 σ2 H2 hI hm
    obtain ⟨F2, o2_2, o2_3, o2_4, o2_5, o2_1, rfl, s2, w2⟩ := hI
    replace q1 := s2.seq q1
    replace h1 := A2.mono s2 h1
    replace g3 := A2.mono s2 g3
    replace q5 := s2 _ _ q5
    replace sF := sF.trans s2
    exact (post_ok hm) _ _ _ w2 sF rep_b
end
end G
/-! MA2: webs drawn from a pool -/
namespace G
open PySem L2 Z
structure TiesOk (b : Nat) (n : Int) (ts : List (Int × Int)) : Prop where
  rg : ∀ p ∈ ts, 0 ≤ p.1 ∧ p.1 < p.2 ∧ p.2 < n
  nd : ts.Nodup
  conn : Conn n ts
  len : ts.length ≤ b
theorem TiesOk.up {b c : Nat} {n : Int} {ts : List (Int × Int)} (h : TiesOk b n ts) (hl : b ≤ c) : TiesOk c n ts := ⟨h.rg, h.nd, h.conn, Nat.le_trans h.len hl⟩
structure WebOk (n : Int) (ts : List (Int × Int)) : Prop where
  n1 : 1 ≤ n
  n60 : n ≤ 60
  rg : ∀ p ∈ ts, 0 ≤ p.1 ∧ p.1 < p.2 ∧ p.2 < n
  nd : ts.Nodup
  conn : Conn n ts
  len : ts.length ≤ 700
  srt : sortP ts = ts
theorem WebOk.rg4 {n : Int} {ts : List (Int × Int)} (h : WebOk n ts) : ∀ q ∈ ts, 0 ≤ q.1 ∧ q.1 < n ∧ 0 ≤ q.2 ∧ q.2 < n := fun q hq => by
  have := h.rg q hq
  omega
def moved (o : List Int) (p : Int × Int) : Int × Int := (min2 (o.getD p.1.toNat 0) (o.getD p.2.toNat 0), max2 (o.getD p.1.toNat 0) (o.getD p.2.toNat 0))
theorem perm_get {o : List Int} {n : Int} (h : o.Perm (rng 0 n)) (n0 : 0 ≤ n) {k : Int} (k0 : 0 ≤ k) (k1 : k < n) : ∃ x, o[k.toNat]? = some x ∧ 0 ≤ x ∧ x < n := by
  have hl := h.length_eq
  rw [rng_length] at hl
  have hk : k.toNat < o.length := by omega
  refine ⟨o[k.toNat], List.getElem?_eq_getElem hk, ?_⟩
  exact rng_mem.mp (h.mem_iff.mp (List.getElem_mem hk))
theorem perm_getD {o : List Int} {n : Int} (h : o.Perm (rng 0 n)) (n0 : 0 ≤ n) {k : Int} (k0 : 0 ≤ k) (k1 : k < n) : 0 ≤ o.getD k.toNat 0 ∧ o.getD k.toNat 0 < n := by
  obtain ⟨x, e, x0, x1⟩ := perm_get h n0 k0 k1
  rw [List.getD_eq_getElem?_getD, e]
  exact ⟨x0, x1⟩
theorem perm_inj {o : List Int} {n : Int} (h : o.Perm (rng 0 n)) (n0 : 0 ≤ n) {j k : Int} (j0 : 0 ≤ j) (j1 : j < n) (k0 : 0 ≤ k) (k1 : k < n) (e : o.getD j.toNat 0 = o.getD k.toNat 0) : j = k := by
  have hl := h.length_eq
  rw [rng_length] at hl
  have hnd : o.Nodup := (h.nodup_iff).mpr (rng_nodup 0 n)
  have hj : j.toNat < o.length := by omega
  have hk : k.toNat < o.length := by omega
  rw [List.getD_eq_getElem?_getD, List.getD_eq_getElem?_getD, List.getElem?_eq_getElem hj, List.getElem?_eq_getElem hk] at e
  have e' : o[j.toNat] = o[k.toNat] := e
  have hpw := List.pairwise_iff_getElem.mp hnd
  rcases Nat.lt_trichotomy j.toNat k.toNat with q | q | q
  · exact absurd e' (hpw _ _ hj hk q)
  · omega
  · exact absurd e'.symm (hpw _ _ hk hj q)
theorem perm_surj {o : List Int} {n : Int} (h : o.Perm (rng 0 n)) (n0 : 0 ≤ n) {x : Int} (x0 : 0 ≤ x) (x1 : x < n) : ∃ k, 0 ≤ k ∧ k < n ∧ o.getD k.toNat 0 = x := by
  have hx : x ∈ o := h.mem_iff.mpr (rng_mem.mpr ⟨x0, x1⟩)
  obtain ⟨i, hi⟩ := List.mem_iff_getElem?.mp hx
  have hl := h.length_eq
  rw [rng_length] at hl
  have hil := (List.getElem?_eq_some_iff.mp hi).1
  refine ⟨i, by omega, by omega, ?_⟩
  rw [List.getD_eq_getElem?_getD, Int.toNat_natCast, hi]
  rfl
theorem mm_cases (a b : Int) : (min2 a b = a ∧ max2 a b = b ∧ a ≤ b) ∨ (min2 a b = b ∧ max2 a b = a ∧ b ≤ a) := by
  unfold min2 max2
  by_cases h : b < a
  · rw [if_pos h, if_neg (by omega)]
    exact .inr ⟨rfl, rfl, by omega⟩
  · rw [if_neg h]
    by_cases h2 : b > a
    · rw [if_pos h2]
      exact .inl ⟨rfl, rfl, by omega⟩
    · rw [if_neg h2]
      have : a = b := by omega
      subst this
      exact .inl ⟨rfl, rfl, by omega⟩
theorem moved_inj {o : List Int} {n : Int} (h : o.Perm (rng 0 n)) (n0 : 0 ≤ n) {p q : Int × Int} (hp : 0 ≤ p.1 ∧ p.1 < p.2 ∧ p.2 < n) (hq : 0 ≤ q.1 ∧ q.1 < q.2 ∧ q.2 < n) (e : moved o p = moved o q) : p = q := by
  unfold moved at e
  injection e with e1 e2
  have i1 := fun e => perm_inj h n0 (j := p.1) (k := q.1) hp.1 (by omega) hq.1 (by omega) e
  have i2 := fun e => perm_inj h n0 (j := p.2) (k := q.2) (by omega) hp.2.2 (by omega) hq.2.2 e
  have i3 := fun e => perm_inj h n0 (j := p.1) (k := q.2) hp.1 (by omega) (by omega) hq.2.2 e
  have i4 := fun e => perm_inj h n0 (j := p.2) (k := q.1) (by omega) hp.2.2 hq.1 (by omega) e
  rcases mm_cases (o.getD p.1.toNat 0) (o.getD p.2.toNat 0) with ⟨a1, a2, _⟩ | ⟨a1, a2, _⟩ <;> rcases mm_cases (o.getD q.1.toNat 0) (o.getD q.2.toNat 0) with ⟨b1, b2, _⟩ | ⟨b1, b2, _⟩ <;> rw [a1, b1] at e1 <;> rw [a2, b2] at e2
  · exact Prod.ext (i1 e1) (i2 e2)
  · have := i3 e1
    have := i4 e2
    omega
  · have := i4 e1
    have := i3 e2
    omega
  · exact Prod.ext (i1 e2) (i2 e1)
theorem moved_ok {o : List Int} {n : Int} {ts : List (Int × Int)} (ho : o.Perm (rng 0 n)) (n0 : 1 ≤ n) (n1 : n ≤ 60) (h : TiesOk 700 n ts) : WebOk n (sortP (ts.map (moved o))) := by
  have hperm := sortP_perm (ts.map (moved o))
  refine ⟨n0, n1, fun p hp => ?_, ?_, ?_, ?_, ?_⟩
  · obtain ⟨q, hq, rfl⟩ := List.mem_map.mp (hperm.mem_iff.mp hp)
    have hr := h.rg q hq
    have r1 := perm_getD ho (by omega) (k := q.1) hr.1 (by omega)
    have r2 := perm_getD ho (by omega) (k := q.2) (by omega) hr.2.2
    have ne : o.getD q.1.toNat 0 ≠ o.getD q.2.toNat 0 := fun e => by
      have := perm_inj ho (by omega) hr.1 (by omega) (by omega) hr.2.2 e
      omega
    unfold moved
    dsimp only
    rcases mm_cases (o.getD q.1.toNat 0) (o.getD q.2.toNat 0) with ⟨a1, a2, _⟩ | ⟨a1, a2, _⟩ <;> rw [a1, a2] <;> omega
  · refine hperm.nodup_iff.mpr ?_
    refine List.Pairwise.map (R := fun p q => p ≠ q ∧ p ∈ ts ∧ q ∈ ts) _ (fun p q hpq e => hpq.1 (moved_inj ho (by omega) (h.rg p hpq.2.1) (h.rg q hpq.2.2) e)) ?_
    exact h.nd.imp_of_mem fun hp hq hne => ⟨hne, hp, hq⟩
  · intro S h0 hc
    obtain ⟨r, r0, r1, er⟩ := perm_surj ho (by omega) (x := 0) (by omega) (by omega)
    have key := h.conn.any (S := fun k => S (o.getD k.toNat 0)) r0 r1 (by show S (o.getD r.toNat 0); rw [er]; exact h0) fun p hp => by
      have hm : moved o p ∈ sortP (ts.map (moved o)) := hperm.mem_iff.mpr (List.mem_map.mpr ⟨p, hp, rfl⟩)
      have := hc _ hm
      unfold moved at this
      dsimp only at this
      rcases mm_cases (o.getD p.1.toNat 0) (o.getD p.2.toNat 0) with ⟨a1, a2, _⟩ | ⟨a1, a2, _⟩
      · rw [a1, a2] at this
        exact this
      · rw [a1, a2] at this
        exact this.symm
    intro k k0 k1
    obtain ⟨j, j0, j1, ej⟩ := perm_surj ho (by omega) k0 k1
    rw [← ej]
    exact key j j0 j1
  · rw [hperm.length_eq, List.length_map]
    exact h.len
  · exact (sortP_eq (List.Perm.refl _) (sortP_sorted _)).symm
end G
/-! MB: neighbours and fars, as the program reckons them -/
namespace G
open PySem L2 Z
/-- the places tied to one, in the ties' order -/
def nbs (ts : List (Int × Int)) (i : Int) : List Int := ts.flatMap fun p => (if p.1 = i then [p.2] else []) ++ (if p.2 = i then [p.1] else [])
theorem nbs_snoc (ts : List (Int × Int)) (x : Int × Int) (i : Int) : nbs (ts ++ [x]) i = nbs ts i ++ ((if x.1 = i then [x.2] else []) ++ (if x.2 = i then [x.1] else [])) := by
  unfold nbs
  rw [List.flatMap_append]
  simp
theorem nbs_mem {ts : List (Int × Int)} {i j : Int} : j ∈ nbs ts i ↔ Adj ts i j := by
  unfold nbs Adj
  rw [List.mem_flatMap]
  constructor
  · rintro ⟨p, hp, h⟩
    rcases List.mem_append.mp h with h | h
    · split at h
      · rename_i e
        rw [List.mem_singleton] at h
        rw [← e, h]
        exact .inl hp
      · cases h
    · split at h
      · rename_i e
        rw [List.mem_singleton] at h
        rw [← e, h]
        exact .inr hp
      · cases h
  · rintro (h | h)
    · exact ⟨_, h, List.mem_append_left _ (by simp)⟩
    · exact ⟨_, h, List.mem_append_right _ (by simp)⟩
theorem nbs_len (ts : List (Int × Int)) (i : Int) : (nbs ts i).length ≤ 2 * ts.length := by
  induction ts with
  | nil => exact Nat.le_refl _
  | cons p ts ih =>
    have e : nbs (p :: ts) i = ((if p.1 = i then [p.2] else []) ++ (if p.2 = i then [p.1] else [])) ++ nbs ts i := rfl
    rw [e, List.length_append, List.length_append, List.length_cons]
    have h1 : (if p.1 = i then [p.2] else []).length ≤ 1 := by split <;> simp
    have h2 : (if p.2 = i then [p.1] else []).length ≤ 1 := by split <;> simp
    omega
theorem map_rng_get {α : Type} {n : Int} {F : Int → α} {j : Int} (h0 : 0 ≤ j) (h1 : j < n) : ((rng 0 n).map F)[j.toNat]? = some (F j) := by
  rw [List.getElem?_map, rng_atE (by omega)]
  show some (F (0 + (j.toNat : Int))) = _
  rw [show (0 : Int) + (j.toNat : Int) = j by omega]
theorem map_rng_set {α : Type} {n : Int} {F : Int → α} {j : Int} {y : α} (h0 : 0 ≤ j) : ((rng 0 n).map F).set j.toNat y = (rng 0 n).map fun i => if i = j then y else F i := by
  apply List.ext_getElem?
  intro k
  rw [List.getElem?_set, List.getElem?_map, List.getElem?_map, List.length_map]
  by_cases hk : k < (n - 0).toNat
  · rw [rng_atE hk]
    by_cases e : j.toNat = k
    · rw [if_pos e, if_pos (by rw [rng_length]; omega)]
      show some y = some (if (0 : Int) + (k : Int) = j then y else F (0 + k))
      rw [if_pos (by omega)]
    · rw [if_neg e]
      show some (F (0 + k)) = some (if (0 : Int) + (k : Int) = j then y else F (0 + k))
      rw [if_neg (by omega)]
  · rw [List.getElem?_eq_none (by rw [rng_length]; omega)]
    by_cases e : j.toNat = k
    · rw [if_pos e, if_neg (by rw [rng_length]; omega)]; rfl
    · rw [if_neg e]
      rfl
theorem map_rng_congr {α : Type} {n : Int} {F G : Int → α} (h : ∀ i, 0 ≤ i → i < n → F i = G i) : (rng 0 n).map F = (rng 0 n).map G := List.map_congr_left fun i hi => h i (rng_mem.mp hi).1 (rng_mem.mp hi).2
theorem range_get {N : Nat} {j : Int} (h0 : 0 ≤ j) (h1 : j < N) : getI (List.range N) j = R.ok j.toNat := by
  refine getI_eq h0 ?_
  rw [List.getElem?_range (by omega)]
def nears (n : Int) (ts : List (Int × Int)) : List (List Int) := (rng 0 n).map fun i => sortI (nbs ts i)
theorem near_lists_ok {n : Int} {ts : List (Int × Int)} (n0 : 0 ≤ n) (n1 : n < 1000) (hl : ts.length < 40000) (hr : ∀ p ∈ ts, 0 ≤ p.1 ∧ p.1 < n ∧ 0 ≤ p.2 ∧ p.2 < n) : near_lists (n, ⟨ts⟩) = R.ok (nears n ts) := by
  refine po_iff ?_
  unfold near_lists
  refine po_rng (by decide) (by decide) (by show -(2 ^ 62) ≤ n; omega) (by show n < 2 ^ 62; omega) ?_
  have hN : (rng 0 n).length = n.toNat := by rw [rng_length]; omega
  refine po_bind (po_mapStA (fun pre acc s => acc = List.range pre.length ∧ s = List.replicate pre.length []) (by show (rng 0 n).length < 100000; omega) ⟨rfl, rfl⟩ fun pre acc s x post e ⟨h1, h2⟩ => ?_) fun l5 ⟨a1, a2⟩ => ?_
  · refine po_newS ⟨?_, ?_⟩
    · show acc ++ [s.length] = _
      rw [h1, h2, List.length_replicate, List.length_append, List.length_singleton, List.range_succ]
    · show s ++ [[]] = _
      rw [h2, List.length_append, List.length_singleton, List.replicate_succ']
  · rw [hN] at a1 a2
    refine po_bind (po_foldP (fun pre g => g = (rng 0 n).map fun i => nbs pre i) ?_ fun pre g x post e hg => ?_) fun g11 hg => ?_
    · rw [a2]
      apply List.ext_getElem?
      intro k
      rw [List.getElem?_replicate, List.getElem?_map]
      by_cases hk : k < n.toNat
      · rw [if_pos hk, rng_atE (by omega)]; rfl
      · rw [if_neg hk, List.getElem?_eq_none (by rw [rng_length]; omega)]; rfl
    · obtain ⟨x1, x2, x3, x4⟩ := hr x (by rw [show ts = pre ++ x :: post from e]; simp)
      have hpl : pre.length < 40000 := by
        have : ts.length = pre.length + (post.length + 1) := by rw [show ts = pre ++ x :: post from e]; simp
        omega
      have hl1 := nbs_len pre x.1
      have hl2 := nbs_len pre x.2
      rw [a1]
      refine po_getE (range_get x1 (by omega)) (po_getS (by rw [hg]; exact map_rng_get x1 x2) (po_app (by omega) (po_setS ?_)))
      rw [hg, map_rng_set x1]
      refine po_getE (range_get x3 (by omega)) (po_getS (map_rng_get x3 x4) (po_app ?_ (po_setS ?_)))
      · split
        · rw [List.length_append, List.length_singleton]; omega
        · omega
      · rw [map_rng_set x3]
        show _ = _
        refine map_rng_congr fun i i0 i1 => ?_
        rw [nbs_snoc]
        by_cases e1 : x.1 = i
        · by_cases e2 : x.2 = i
          · subst e1
            rw [e2]
            simp
          · subst e1
            rw [if_neg (fun q => e2 q.symm), if_pos rfl, if_pos rfl, if_neg e2, List.append_nil]
        · by_cases e2 : x.2 = i
          · subst e2
            rw [if_pos rfl, if_neg (fun q => e1 q.symm), if_neg e1, if_pos rfl, List.nil_append]
          · rw [if_neg (fun q => e2 q.symm), if_neg (fun q => e1 q.symm), if_neg e1, if_neg e2, List.append_nil, List.append_nil]
    · have hg' : g11 = (rng 0 n).map fun i => nbs ts i := hg
      rw [a1]
      refine po_bind (Q := fun l => l = nears n ts) (po_eq (mapG_ok (g := fun b => sortI (nbs ts (b : Nat))) (by rw [List.length_range]; omega) fun b hb => ?_) ?_) fun l h => h
      · have hb' := List.mem_range.mp hb
        refine po_iff (po_getS (xs := nbs ts (b : Nat)) ?_ rfl)
        rw [hg']
        have := map_rng_get (n := n) (F := fun i => nbs ts i) (j := (b : Int)) (by omega) (by omega)
        rw [Int.toNat_natCast] at this
        exact this
      · unfold nears
        apply List.ext_getElem?
        intro k
        rw [List.getElem?_map, List.getElem?_map]
        by_cases hk : k < n.toNat
        · rw [rng_atE (by omega), List.getElem?_range hk]
          show some (sortI (nbs ts (k : Nat))) = some (sortI (nbs ts (0 + (k : Nat))))
          rw [Int.zero_add]
        · rw [List.getElem?_eq_none (by rw [List.length_range]; omega), List.getElem?_eq_none (by rw [rng_length]; omega)]; rfl
theorem sortI_mem {xs : List Int} {x : Int} : x ∈ sortI xs ↔ x ∈ xs := (sortI_perm xs).mem_iff
end G
/-! MC: drawn webs: neighbours, fars -/
namespace G
open PySem L2 Z
theorem web_near {n : Int} {ts : List (Int × Int)} (h : WebOk n ts) : near_lists (n, ⟨ts⟩) = R.ok (nears n ts) := near_lists_ok (by have := h.n1; omega) (by have := h.n60; omega) (by have := h.len; omega) h.rg4
theorem web_dist {n : Int} {ts : List (Int × Int)} {p : Int} (h : WebOk n ts) (p0 : 0 ≤ p) (p1 : p < n) : IsDist n ts p (dst n ts p) := conn_ex h.rg4 h.conn p0 p1
theorem WebOk.adj {n : Int} {ts : List (Int × Int)} (h : WebOk n ts) {a b : Int} (q : Adj ts a b) : 0 ≤ a ∧ a < n ∧ 0 ≤ b ∧ b < n ∧ a ≠ b := by
  rcases q with q | q <;> have := h.rg _ q <;> dsimp only at this <;> omega
section
variable {n : Int} {ts : List (Int × Int)} (h : WebOk n ts)
include h
theorem dst_zero {p v : Int} (p0 : 0 ≤ p) (p1 : p < n) (v0 : 0 ≤ v) (v1 : v < n) : dst n ts p v = 0 ↔ v = p := by
  have d := web_dist h p0 p1
  constructor
  · intro e
    apply Classical.byContradiction
    intro hne
    obtain ⟨w, w0, w1, _, ew⟩ := d.desc v v0 v1 hne
    have := d.nn w w0 w1
    omega
  · rintro rfl
    exact d.zero
theorem dst_nn {p v : Int} (p0 : 0 ≤ p) (p1 : p < n) (v0 : 0 ≤ v) (v1 : v < n) : 0 ≤ dst n ts p v := (web_dist h p0 p1).nn v v0 v1
end
end G
/-! MF: fars, as the program reckons them -/
namespace G
open PySem L2 Z
/-! ### fars -/
section
variable {n : Int} {ts : List (Int × Int)} {p : Int}
structure Bfs (n : Int) (ts : List (Int × Int)) (p : Int) (at_ : Nat) (line : List Int) (F : Int → Option Int) : Prop where
  le : at_ ≤ line.length
  nd : line.Nodup
  rg : ∀ v ∈ line, 0 ≤ v ∧ v < n
  mem : ∀ v, 0 ≤ v → v < n → (v ∈ line ↔ (F v).isSome = true)
  p0 : F p = some 0
  nn : ∀ v d, F v = some d → 0 ≤ d
  par : ∀ v ∈ line, v = p ∨ ∃ w ∈ line, Adj ts w v ∧ ∃ d, F w = some d ∧ F v = some (d + 1)
  mono : line.Pairwise fun a b => (F a).getD 0 ≤ (F b).getD 0
  cap : ∀ v ∈ line, ∀ u ∈ line.drop at_, (F v).getD 0 ≤ (F u).getD 0 + 1
  done : ∀ i u, i < at_ → line[i]? = some u → ∀ w, Adj ts u w → w ∈ line ∧ (F w).getD 0 ≤ (F u).getD 0 + 1
/-- within a turn: the neighbours of u that are gone through -/
structure BfsIn (n : Int) (ts : List (Int × Int)) (p : Int) (at_ : Nat) (u : Int) (pre : List Int) (line : List Int) (F : Int → Option Int) : Prop where
  b : Bfs n ts p at_ line F
  u0 : line[at_]? = some u
  ok : ∀ w ∈ pre, w ∈ line ∧ (F w).getD 0 ≤ (F u).getD 0 + 1
theorem BfsIn.add {at_ : Nat} {u w : Int} {pre line : List Int} {F : Int → Option Int} {d : Int} (h : BfsIn n ts p at_ u pre line F) (hw : Adj ts u w) (w0 : 0 ≤ w) (w1 : w < n) (hn : F w = none) (hd : F u = some d) :
    BfsIn n ts p at_ u (pre ++ [w]) (line ++ [w]) (fun v => if v = w then some (d + 1) else F v) := by
  have b := h.b
  have hu : u ∈ line := List.mem_of_getElem? h.u0
  have hat : at_ < line.length := (List.getElem?_eq_some_iff.mp h.u0).1
  have hwl : w ∉ line := fun q => by
    have := (b.mem w w0 w1).mp q
    rw [hn] at this
    cases this
  have ne : ∀ v ∈ line, v ≠ w := fun v hv e => hwl (e ▸ hv)
  have eF : ∀ v ∈ line, (if v = w then some (d + 1) else F v) = F v := fun v hv => if_neg (ne v hv)
  have eW : (if w = w then some (d + 1) else F w) = some (d + 1) := if_pos rfl
  have hpl : p ∈ line ∨ True := .inr trivial
  have hd0 := b.nn u d hd
  have hud : u ∈ line.drop at_ := by
    rw [List.mem_iff_getElem?]
    exact ⟨0, by rw [List.getElem?_drop]; exact h.u0⟩
  refine ⟨⟨?_, ?_, ?_, ?_, ?_, ?_, ?_, ?_, ?_, ?_⟩, ?_, ?_⟩
  · rw [List.length_append]; omega
  · rw [List.nodup_append]
    refine ⟨b.nd, by simp, fun a ha c hc => ?_⟩
    rw [List.mem_singleton] at hc
    rw [hc]
    exact ne a ha
  · intro v hv
    rcases List.mem_append.mp hv with hv | hv
    · exact b.rg v hv
    · rw [List.mem_singleton] at hv
      rw [hv]; exact ⟨w0, w1⟩
  · intro v v0 v1
    by_cases e : v = w
    · subst e
      simp
    · show v ∈ line ++ [w] ↔ (if v = w then some (d + 1) else F v).isSome = true
      rw [if_neg e, ← b.mem v v0 v1]
      simp [e]
  · show (if p = w then some (d + 1) else F p) = some 0
    rw [if_neg]
    · exact b.p0
    · intro e
      rw [← e, b.p0] at hn
      cases hn
  · intro v e hv
    have hv' : (if v = w then some (d + 1) else F v) = some e := hv
    by_cases q : v = w
    · rw [if_pos q] at hv'
      cases hv'
      omega
    · rw [if_neg q] at hv'
      exact b.nn v e hv'
  · intro v hv
    rcases List.mem_append.mp hv with hv | hv
    · rcases b.par v hv with e | ⟨x, hx, ha, k, h1, h2⟩
      · exact .inl e
      · refine .inr ⟨x, List.mem_append_left _ hx, ha, k, ?_, ?_⟩
        · show (if x = w then some (d + 1) else F x) = some k
          rw [eF x hx]; exact h1
        · show (if v = w then some (d + 1) else F v) = some (k + 1)
          rw [eF v hv]; exact h2
    · rw [List.mem_singleton] at hv
      subst hv
      refine .inr ⟨u, List.mem_append_left _ hu, hw, d, ?_, eW⟩
      show (if u = v then some (d + 1) else F u) = some d
      rw [eF u hu]; exact hd
  · rw [List.pairwise_append]
    refine ⟨b.mono.imp_of_mem fun {a c} ha hc q => ?_, by simp, fun a ha c hc => ?_⟩
    · show (if a = w then some (d + 1) else F a).getD 0 ≤ (if c = w then some (d + 1) else F c).getD 0
      rw [eF a ha, eF c hc]; exact q
    · rw [List.mem_singleton] at hc
      subst hc
      show (if a = c then some (d + 1) else F a).getD 0 ≤ (if c = c then some (d + 1) else F c).getD 0
      rw [eF a ha, eW]
      have := b.cap a ha u hud
      rw [hd] at this
      exact this
  · intro v hv x hx
    rw [List.drop_append_of_le_length (by omega)] at hx
    show (if v = w then some (d + 1) else F v).getD 0 ≤ (if x = w then some (d + 1) else F x).getD 0 + 1
    have key : ∀ x, x ∈ line.drop at_ → d ≤ (F x).getD 0 := by
      intro x hx
      have hs : line.drop at_ = u :: line.drop (at_ + 1) := by
        rw [List.drop_eq_getElem_cons hat]
        have := (List.getElem?_eq_some_iff.mp h.u0).2
        rw [this]
      have hm := b.mono.sublist (List.drop_sublist at_ line)
      rw [hs] at hm hx
      rcases List.mem_cons.mp hx with rfl | hx
      · rw [hd]; exact Int.le_refl _
      · have := (List.pairwise_cons.mp hm).1 x hx
        rw [hd] at this
        exact this
    have hvd : (if v = w then some (d + 1) else F v).getD 0 ≤ d + 1 := by
      rcases List.mem_append.mp hv with hv | hv
      · rw [eF v hv]
        have := b.cap v hv u hud
        rw [hd] at this
        exact this
      · rw [List.mem_singleton] at hv
        rw [if_pos hv]; exact Int.le_refl _
    rcases List.mem_append.mp hx with hx | hx
    · rw [eF x (List.mem_of_mem_drop hx)]
      have := key x hx
      omega
    · rw [List.mem_singleton] at hx
      rw [if_pos hx]
      show _ ≤ (d + 1) + 1
      omega
  · intro i x hi hx y hy
    rw [List.getElem?_append_left (by omega)] at hx
    obtain ⟨h1, h2⟩ := b.done i x hi hx y hy
    refine ⟨List.mem_append_left _ h1, ?_⟩
    show (if y = w then some (d + 1) else F y).getD 0 ≤ (if x = w then some (d + 1) else F x).getD 0 + 1
    rw [eF y h1, eF x (List.mem_of_getElem? hx)]
    exact h2
  · rw [List.getElem?_append_left hat]; exact h.u0
  · intro v hv
    show v ∈ line ++ [w] ∧ (if v = w then some (d + 1) else F v).getD 0 ≤ (if u = w then some (d + 1) else F u).getD 0 + 1
    rw [eF u hu]
    rcases List.mem_append.mp hv with hv | hv
    · obtain ⟨h1, h2⟩ := h.ok v hv
      rw [eF v h1]
      exact ⟨List.mem_append_left _ h1, h2⟩
    · rw [List.mem_singleton] at hv
      rw [if_pos hv, hd, hv]
      exact ⟨List.mem_append_right _ (List.mem_singleton_self _), Int.le_refl _⟩
theorem BfsIn.skip {at_ : Nat} {u w : Int} {pre line : List Int} {F : Int → Option Int} (h : BfsIn n ts p at_ u pre line F) (hw : (F w).isSome = true) (w0 : 0 ≤ w) (w1 : w < n) : BfsIn n ts p at_ u (pre ++ [w]) line F := by
  refine ⟨h.b, h.u0, fun v hv => ?_⟩
  rcases List.mem_append.mp hv with hv | hv
  · exact h.ok v hv
  · rw [List.mem_singleton] at hv
    subst hv
    have hl := (h.b.mem v w0 w1).mpr hw
    refine ⟨hl, h.b.cap v hl u ?_⟩
    rw [List.mem_iff_getElem?]
    exact ⟨0, by rw [List.getElem?_drop]; exact h.u0⟩
theorem BfsIn.next {at_ : Nat} {u : Int} {nb line : List Int} {F : Int → Option Int} (h : BfsIn n ts p at_ u nb line F) (hnb : ∀ w, Adj ts u w → w ∈ nb) : Bfs n ts p (at_ + 1) line F := by
  have hat : at_ < line.length := (List.getElem?_eq_some_iff.mp h.u0).1
  refine { h.b with le := hat, cap := fun v hv x hx => h.b.cap v hv x ?_, done := fun i x hi hx w hw => ?_ }
  · exact (List.drop_sublist_drop_left line (Nat.le_succ at_)).subset hx
  · by_cases e : i = at_
    · subst e
      rw [h.u0] at hx
      cases hx
      exact h.ok w (hnb w hw)
    · exact h.b.done i x (by omega) hx w hw
theorem Bfs.isDist {line : List Int} {F : Int → Option Int} (b : Bfs n ts p line.length line F) (hc : Conn n ts) (hr : ∀ q ∈ ts, 0 ≤ q.1 ∧ q.1 < n ∧ 0 ≤ q.2 ∧ q.2 < n) (p0 : 0 ≤ p) (p1 : p < n) :
    (∀ v, 0 ≤ v → v < n → (F v).isSome = true) ∧ IsDist n ts p fun v => (F v).getD 0 := by
  have hp : p ∈ line := (b.mem p p0 p1).mpr (by rw [b.p0]; rfl)
  have cl : ∀ u w, u ∈ line → Adj ts u w → w ∈ line ∧ (F w).getD 0 ≤ (F u).getD 0 + 1 := by
    intro u w hu hw
    obtain ⟨i, hi⟩ := List.mem_iff_getElem?.mp hu
    exact b.done i u (List.getElem?_eq_some_iff.mp hi).1 hi w hw
  have all : ∀ k, 0 ≤ k → k < n → k ∈ line := hc.any (S := fun k => k ∈ line) p0 p1 hp fun q hq => ⟨fun h => (cl q.1 q.2 h (.inl hq)).1, fun h => (cl q.2 q.1 h (.inr hq)).1⟩
  refine ⟨fun v v0 v1 => (b.mem v v0 v1).mp (all v v0 v1), ⟨?_, fun v v0 v1 => ?_, fun a c h => ?_, fun v v0 v1 hne => ?_⟩⟩
  · show (F p).getD 0 = 0
    rw [b.p0]; rfl
  · show 0 ≤ (F v).getD 0
    cases e : F v with
    | none => exact Int.le_refl _
    | some d => exact b.nn v d e
  · have ra : 0 ≤ a ∧ a < n := by
      rcases h with h | h
      · exact ⟨(hr _ h).1, (hr _ h).2.1⟩
      · exact ⟨(hr _ h).2.2.1, (hr _ h).2.2.2⟩
    exact (cl a c (all a ra.1 ra.2) h).2
  · rcases b.par v (all v v0 v1) with e | ⟨w, hw, ha, d, h1, h2⟩
    · exact absurd e hne
    · refine ⟨w, (b.rg w hw).1, (b.rg w hw).2, ha, ?_⟩
      show (F w).getD 0 + 1 = (F v).getD 0
      rw [h1, h2]; rfl
end
theorem fars_by_post {n : Int} {ts : List (Int × Int)} {p : Int} (n1 : n < 900) (hr : ∀ q ∈ ts, 0 ≤ q.1 ∧ q.1 < n ∧ 0 ≤ q.2 ∧ q.2 < n) (hc : Conn n ts) (p0 : 0 ≤ p) (p1 : p < n) :
    Post (fars_by (nears n ts) p) (fun l => l = ((rng 0 n).map fun v => some (dst n ts p v)) ∧ IsDist n ts p (dst n ts p)) noX := by
  unfold fars_by
  have hN : (nears n ts).length = n.toNat := by unfold nears; rw [List.length_map, rng_length]; omega
  rw [hN]
  refine po_rep (by omega) (by omega) (by decide) ?_
  have e0 : repL ([none] : List (Option Int)) (n.toNat : Nat) = (rng 0 n).map fun _ => none := by
    unfold repL
    rw [Int.toNat_natCast]
    have h1 : (rng 0 n).length = n.toNat := by rw [rng_length]; omega
    rw [← h1]
    generalize rng 0 n = l
    induction l with
    | nil => rfl
    | cons a l ih =>
      rw [List.length_cons, List.replicate_succ, List.flatten_cons, ih]
      rfl
  rw [e0]
  refine po_set p0 (by rw [List.length_map, rng_length]; omega) ?_
  rw [map_rng_set p0]
  refine po_bind (Q := fun g => g.2.2 = ((rng 0 n).map fun v => some (dst n ts p v)) ∧ IsDist n ts p (dst n ts p)) (po_while (fun g => 0 ≤ g.1 ∧ ∃ F, g.2.2 = (rng 0 n).map F ∧ Bfs n ts p g.1.toNat g.2.1 F) (fun g => n.toNat - g.1.toNat) ?_ (n := fu 1000) ?_ ?_) fun g hg => hg
  · rintro ⟨a, line, fd⟩ ⟨a0, F, e1, b⟩
    have e1' : fd = (rng 0 n).map F := e1
    have a0' : 0 ≤ a := a0
    have b' : Bfs n ts p a.toNat line F := b
    clear e1 b a0
    subst e1'
    refine ⟨fun ht => ?_, fun hf => ?_⟩
    · have ht : a < (line.length : Int) := of_decide_eq_true ht
      refine po_get a0' ht fun u hu e2 => ?_
      obtain ⟨u0, u1⟩ := b'.rg u hu
      refine po_getE (getI_eq u0 (map_rng_get u0 u1)) ?_
      have hin : BfsIn n ts p a.toNat u [] line F := ⟨b', e2, fun _ h => nomatch h⟩
      refine po_bind (po_foldP (fun pre g => ∃ F', g.2 = (rng 0 n).map F' ∧ BfsIn n ts p a.toNat u pre g.1 F') ⟨F, rfl, hin⟩ ?_) ?_
      · rintro pre ⟨ln, fd⟩ w post ew ⟨F', e3, h3⟩
        have e3' : fd = (rng 0 n).map F' := e3
        have h3' : BfsIn n ts p a.toNat u pre ln F' := h3
        clear e3 h3
        subst e3'
        have hw : w ∈ sortI (nbs ts u) := by rw [show sortI (nbs ts u) = pre ++ w :: post from ew]; simp
        have hw := nbs_mem.mp (sortI_mem.mp hw)
        have rw' : 0 ≤ w ∧ w < n := by
          rcases hw with h | h
          · exact ⟨(hr _ h).2.2.1, (hr _ h).2.2.2⟩
          · exact ⟨(hr _ h).1, (hr _ h).2.1⟩
        obtain ⟨w0, w1⟩ := rw'
        refine po_getE (getI_eq w0 (map_rng_get w0 w1)) ?_
        refine po_if (fun c => ?_) (fun c => ?_)
        · have hn : F' w = none := by
            cases e : F' w with
            | none => rfl
            | some d => rw [e] at c; cases c
          refine po_getE (getI_eq a0' h3'.u0) (po_getE (getI_eq u0 (map_rng_get u0 u1)) ?_)
          have hus := (h3'.b.mem u u0 u1).mp (List.mem_of_getElem? h3'.u0)
          obtain ⟨d, hd⟩ := Option.isSome_iff_exists.mp hus
          have hlen : ln.length ≤ n.toNat := by
            have := nodup_le h3'.b.nd (ys := rng 0 n) fun v hv => rng_mem.mpr (h3'.b.rg v hv)
            rw [rng_length] at this
            omega
          refine po_ofO hd (po_set w0 (by rw [List.length_map, rng_length]; omega) (po_app (by show ln.length < 100000; omega) ?_))
          refine ⟨_, map_rng_set w0, ?_⟩
          exact h3'.add hw w0 w1 hn hd
        · refine ⟨F', rfl, h3'.skip ?_ w0 w1⟩
          cases e : F' w with
          | none => rw [e] at c; exact absurd rfl c
          | some d => rfl
      · rintro ⟨ln, fd⟩ ⟨F', e3, h3⟩
        have h3' : BfsIn n ts p a.toNat u (sortI (nbs ts u)) ln F' := h3
        have h4 := h3'.next fun w hw => sortI_mem.mpr (nbs_mem.mpr hw)
        have hat : a.toNat < ln.length := (List.getElem?_eq_some_iff.mp h3'.u0).1
        have hlen : ln.length ≤ n.toNat := by
          have := nodup_le h3'.b.nd (ys := rng 0 n) fun v hv => rng_mem.mpr (h3'.b.rg v hv)
          rw [rng_length] at this
          omega
        refine ⟨⟨by show 0 ≤ a + 1; omega, F', e3, ?_⟩, ?_⟩
        · show Bfs n ts p (a + 1).toNat ln F'
          rw [show (a + 1).toNat = a.toNat + 1 by omega]
          exact h4
        · show n.toNat - (a + 1).toNat < n.toNat - a.toNat
          omega
    · have hf : ¬ a < (line.length : Int) := of_decide_eq_false hf
      have hle := b'.le
      have ea : a.toNat = line.length := by omega
      rw [ea] at b'
      obtain ⟨h1, h2⟩ := b'.isDist hc hr p0 p1
      refine ⟨map_rng_congr fun v v0 v1 => ?_, dst_is h2⟩
      have h3 := dst_eq h2 v v0 v1
      obtain ⟨d, hd⟩ := Option.isSome_iff_exists.mp (h1 v v0 v1)
      have h3' : (F v).getD 0 = dst n ts p v := h3
      rw [hd] at h3' ⊢
      exact congrArg some h3'
  · refine ⟨Int.le_refl 0, _, rfl, ?_⟩
    show Bfs n ts p 0 [p] (fun i => if i = p then some 0 else none)
    refine ⟨Nat.zero_le _, by simp, fun v hv => ?_, fun v v0 v1 => ?_, if_pos rfl, fun v d hv => ?_, fun v hv => ?_, by simp, fun v hv u hu => ?_, fun i u hi => absurd hi (Nat.not_lt_zero _)⟩
    · rw [List.mem_singleton] at hv
      rw [hv]; exact ⟨p0, p1⟩
    · show v ∈ [p] ↔ (if v = p then some (0 : Int) else none).isSome = true
      rw [List.mem_singleton]
      by_cases e : v = p
      · rw [if_pos e]; simp [e]
      · rw [if_neg e]; simp [e]
    · have hv' : (if v = p then some (0 : Int) else none) = some d := hv
      split at hv'
      · cases hv'; exact Int.le_refl _
      · cases hv'
    · exact .inl (List.mem_singleton.mp hv)
    · rw [List.drop_zero] at hu
      rw [List.mem_singleton] at hv hu
      subst hv hu
      show (if u = u then some (0 : Int) else none).getD 0 ≤ (if u = u then some (0 : Int) else none).getD 0 + 1
      rw [if_pos rfl]
      decide
  · rw [fu_eq]
    show n.toNat - (0 : Int).toNat < 1000
    omega
theorem fars_by_ok {n : Int} {ts : List (Int × Int)} {p : Int} (n1 : n < 900) (hr : ∀ q ∈ ts, 0 ≤ q.1 ∧ q.1 < n ∧ 0 ≤ q.2 ∧ q.2 < n) (hc : Conn n ts) (p0 : 0 ≤ p) (p1 : p < n) :
    fars_by (nears n ts) p = R.ok ((rng 0 n).map fun v => some (dst n ts p v)) := po_iff ((fars_by_post n1 hr hc p0 p1).mono (fun _ h => h.1) fun _ h => h)
theorem web_fars {n : Int} {ts : List (Int × Int)} {p : Int} (h : WebOk n ts) (p0 : 0 ≤ p) (p1 : p < n) : fars_by (nears n ts) p = R.ok ((rng 0 n).map fun v => some (dst n ts p v)) := fars_by_ok (by have := h.n60; omega) h.rg4 h.conn p0 p1
end G
/-! MD: webs made, nothing refused -/
namespace G
open PySem L2 Z
def nrm (p : Int × Int) : Int × Int := (min2 p.1 p.2, max2 p.1 p.2)
theorem made_ok {n : Int} {ts us : List (Int × Int)} (h : WebOk n ts) (hp : (us.map nrm).Perm ts) : made_web n us = R.ok (n, ⟨ts⟩) := by
  refine po_iff ?_
  unfold made_web
  have h1 := h.n1
  have h60 := h.n60
  refine po_if (fun c => ?_) fun _ => ?_
  · exfalso
    rw [decide_eq_true h1, decide_eq_true h60] at c
    exact absurd c (by decide)
  have hnd : (us.map nrm).Nodup := hp.nodup_iff.mpr h.nd
  have e1 : sorted_ties n us = R.ok ⟨ts⟩ := by
    refine po_iff ?_
    unfold sorted_ties
    refine po_bind (po_foldP (fun pre g => g = pre.map nrm) rfl fun pre g x post e hg => ?_) fun g hg => ?_
    · have hx : nrm x ∈ ts := hp.mem_iff.mp (List.mem_map.mpr ⟨x, by rw [e]; simp, rfl⟩)
      have hr := h.rg _ hx
      have hle : us.length ≤ 700 := by
        have := hp.length_eq
        rw [List.length_map] at this
        have := h.len
        omega
      have hel := congrArg List.length e
      simp at hel
      have hnin : nrm x ∉ pre.map nrm := by
        rw [e, List.map_append, List.map_cons] at hnd
        have := (List.nodup_append.mp hnd).2.2
        exact fun q => this _ q _ List.mem_cons_self rfl
      refine po_if (fun c => ?_) fun _ => po_app (by rw [hg, List.length_map]; omega) ?_
      · exfalso
        have hne : x.1 ≠ x.2 := fun e2 => by
          have : (nrm x).1 = (nrm x).2 := by
            unfold nrm min2 max2
            rw [e2]
          omega
        have c1 : ¬ (min2 x.1 x.2 < 0) := by have := hr.1; exact fun q => by unfold nrm at this; dsimp only at this; omega
        have c2 : ¬ (n ≤ max2 x.1 x.2) := by have := hr.2.2; exact fun q => by unfold nrm at this; dsimp only at this; omega
        have c3 : (min2 x.1 x.2, max2 x.1 x.2) ∉ g := by rw [hg]; exact hnin
        rw [decide_eq_false c1, decide_eq_false c2, decide_eq_false hne, inB_f.mpr c3] at c
        exact absurd c (by decide)
      · show _ = _
        rw [hg, List.map_append]
        rfl
    · show (⟨sortP g⟩ : Tup (Int × Int)) = ⟨ts⟩
      have e : sortP g = ts := by
        rw [show g = us.map nrm from hg]
        have : (sortP ts).Perm (us.map nrm) := (sortP_perm ts).trans hp.symm
        rw [← sortP_eq this (sortP_sorted ts)]
        exact h.srt
      rw [e]
  rw [e1, ok_bind, web_near h, ok_bind, web_fars h (Int.le_refl 0) (by omega), ok_bind]
  refine po_rng (by decide) (by decide) (by omega) (by omega) (po_bind (po_fold (fun _ => True) trivial fun s x _ hx => ?_) fun _ _ => rfl)
  obtain ⟨x0, x1⟩ := rng_mem.mp hx
  exact po_getE (getI_eq x0 (map_rng_get x0 x1)) trivial
end G
namespace G
open PySem L2 Z
def Ok2 (s : List Int) : Prop := ∃ a b, s = [a, b] ∧ 0 ≤ a ∧ 0 ≤ b ∧ b < 2147483647
theorem next_ok {s : List Int} {m : Int} (h : Ok2 s) (h0 : 0 < m) (h1 : m < 1073741824) : Post (law_next s m) (fun p => 0 ≤ p.1 ∧ p.1 < m ∧ Ok2 p.2) noX := by
  obtain ⟨a, b, rfl, ha, hb, hb2⟩ := h
  unfold law_next
  refine po_getE (x := a) rfl ?_
  refine po_if (fun c => ?_) (fun c => ?_)
  · have c' : 0 < a := of_decide_eq_true c
    refine po_getE (x := a) rfl (po_mod h0 fun r0 r1 => po_getE (x := a) rfl (po_div h0 h1 (po_set (Int.le_refl 0) (by show (0 : Int) < 2; decide) ?_)))
    exact ⟨r0, r1, _, _, rfl, Int.ediv_nonneg ha (by omega), hb, hb2⟩
  · refine po_getE (x := b) rfl (po_set (by decide) (by show (1 : Int) < 2; decide) ?_)
    refine po_getE (x := (b * 69621 + 40692) % 2147483647) rfl (po_getE (x := (b * 69621 + 40692) % 2147483647) rfl ?_)
    have h2 : 0 ≤ (b * 69621 + 40692) % 2147483647 := Int.emod_nonneg _ (by decide)
    have h3 : (b * 69621 + 40692) % 2147483647 < 2147483647 := Int.emod_lt_of_pos _ (by decide)
    exact po_mul (by left; omega) (po_mod h0 fun r0 r1 => ⟨r0, r1, _, _, rfl, ha, h2, h3⟩)
theorem cell_ok {sc : List Int} {k : Int} (h0 : 0 ≤ k) : Post (law_cell_at ⟨sc⟩ k) (fun _ => True) noX := by
  unfold law_cell_at
  refine po_if (fun c => po_get h0 (of_decide_eq_true c) fun _ _ _ => trivial) fun c => ?_
  refine po_bind (Q := fun _ => True) (po_if (fun c => ?_) fun _ => trivial) fun _ _ => trivial
  have hne : sc ≠ [] := fun e => by
    subst e
    exact absurd c (by decide)
  have hl : 0 < (sc.length : Int) := by
    have := List.length_pos_iff.mpr hne
    omega
  exact po_mod hl fun r0 r1 => po_get r0 r1 fun _ _ _ => trivial
theorem folded_ok {sc : List Int} {N : Int} (h : sc.length ≤ 63) (n0 : 0 < N) (n1 : N ≤ 100) : Post (law_folded ⟨sc⟩ N) (fun l => (l.length : Int) = N) noX := by
  unfold law_folded
  refine po_rng (by omega) (by omega) (by omega) (by omega) ?_
  have hN : ((rng 0 N).length : Int) = N := by rw [rng_length]; omega
  have hx : ∀ x ∈ rng 0 N, 0 ≤ x := fun x hx => (rng_mem.mp hx).1
  generalize hl : rng 0 N = l at hN hx ⊢
  refine po_bind (po_mapG (fun _ => True) (by omega) fun x h => po_bind (cell_ok (hx x h)) fun _ _ => po_ok trivial) fun l3 h3 => ?_
  have e : rngI N ((⟨sc⟩ : Scr).l.length : Int) = R.ok (rng N sc.length) := by
    unfold rngI
    rw [if_pos]
    exact ⟨by omega, by omega, by show _ ≤ (sc.length : Int); omega, by show (sc.length : Int) < _; omega⟩
  rw [e, ok_bind]
  have h3' : (l3.length : Int) = N := by rw [h3.1]; exact hN
  refine po_bind (po_fold (fun g => (g.length : Int) = N) h3' fun g x hg hx => ?_) fun g hg => po_ok hg
  obtain ⟨hx0, hx1⟩ := rng_mem.mp hx
  refine po_mod n0 fun r0 r1 => po_get r0 (by omega) fun _ _ _ => po_get (by omega) hx1 fun _ _ _ => po_set r0 (by omega) ?_
  show ((List.set _ _ _).length : Int) = N
  rw [List.length_set]
  exact hg
theorem state_ok (c : Int) : Post (law_state c) Ok2 noX := by
  unfold law_state
  refine po_bind (Q := fun g => 0 ≤ g) (po_if (fun k => ?_) fun _ => Int.le_refl 0) fun g hg => ?_
  · have : (10 : Int) ^ (18 : Int).toNat ≤ c := of_decide_eq_true k
    have h2 : (0 : Int) ≤ (10 : Int) ^ (18 : Int).toNat := by decide
    show 0 ≤ c
    omega
  · exact ⟨_, _, rfl, hg, Int.emod_nonneg _ (by decide), Int.emod_lt_of_pos _ (by decide)⟩
theorem place_ok {n p : Int} {t : Tup (Int × Int)} (p0 : 0 ≤ p) (p1 : p < n) : place_asked (n, t) p = R.ok () := by
  unfold place_asked
  dsimp only
  rw [decide_eq_true p0, decide_eq_true p1]
  rfl
/-- how far each place is from one -/
noncomputable def farL (n : Int) (ts : List (Int × Int)) (p : Int) : List Int := (rng 0 n).map (dst n ts p)
theorem allS_map {α : Type} (l : List α) : allS (l.map some) = R.ok l := allS_iff.mpr rfl
theorem fars_ok {n p : Int} {ts : List (Int × Int)} (h : WebOk n ts) (p0 : 0 ≤ p) (p1 : p < n) : fars_from (n, ⟨ts⟩) p = R.ok (farL n ts p) := by
  unfold fars_from
  rw [place_ok p0 p1, ok_bind, web_near h, ok_bind, web_fars h p0 p1, ok_bind]
  have e : (rng 0 n).map (fun v => some (dst n ts p v)) = ((rng 0 n).map (dst n ts p)).map some := by rw [List.map_map]; rfl
  rw [e, allS_map]
  rfl
/-- how far all places are from all -/
noncomputable def tabL (n : Int) (ts : List (Int × Int)) : List (List Int) := (rng 0 n).map fun p => (rng 0 n).map (dst n ts p)
theorem tab_get {n p : Int} {ts : List (Int × Int)} (p0 : 0 ≤ p) (p1 : p < n) : getI (tabL n ts) p = R.ok ((rng 0 n).map (dst n ts p)) := getI_eq p0 (map_rng_get p0 p1)
theorem row_get {n p v : Int} {ts : List (Int × Int)} (v0 : 0 ≤ v) (v1 : v < n) : getI ((rng 0 n).map (dst n ts p)) v = R.ok (dst n ts p v) := getI_eq v0 (map_rng_get v0 v1)
/-- how far a thing is -/
noncomputable def farT (n : Int) (ts : List (Int × Int)) (p : Int) : Thing → Int
  | .pl i => dst n ts p i
  | .ti a b => min2 (dst n ts p a) (dst n ts p b)
def ThOk (n : Int) (ts : List (Int × Int)) : Thing → Prop
  | .pl i => 0 ≤ i ∧ i < n
  | .ti a b => (a, b) ∈ ts
def allT (n : Int) (ts : List (Int × Int)) : List Thing := mkpl (rng 0 n) ++ mkti ts
def kindT (n : Int) (ts : List (Int × Int)) (k : Str) : List Thing := if decide (k = "places") = true then mkpl (rng 0 n) else if decide (k = "ties") = true then mkti ts else allT n ts
theorem pl_mem {n : Int} {t : Thing} : t ∈ mkpl (rng 0 n) ↔ ∃ i, t = .pl i ∧ 0 ≤ i ∧ i < n := by
  unfold mkpl
  rw [List.mem_map]
  constructor
  · rintro ⟨i, hi, rfl⟩
    exact ⟨i, rfl, rng_mem.mp hi⟩
  · rintro ⟨i, rfl, hi⟩
    exact ⟨i, rng_mem.mpr hi, rfl⟩
theorem ti_mem {ts : List (Int × Int)} {t : Thing} : t ∈ mkti ts ↔ ∃ a b, t = .ti a b ∧ (a, b) ∈ ts := by
  unfold mkti
  rw [List.mem_map]
  constructor
  · rintro ⟨p, hp, rfl⟩
    exact ⟨p.1, p.2, rfl, hp⟩
  · rintro ⟨a, b, rfl, h⟩
    exact ⟨(a, b), h, rfl⟩
theorem allT_mem {n : Int} {ts : List (Int × Int)} {t : Thing} : t ∈ allT n ts ↔ ThOk n ts t := by
  unfold allT
  rw [List.mem_append, pl_mem, ti_mem]
  cases t with
  | pl i =>
    constructor
    · rintro (⟨j, e, h⟩ | ⟨a, b, e, _⟩)
      · cases e; exact h
      · cases e
    · intro h
      exact .inl ⟨i, rfl, h⟩
  | ti a b =>
    constructor
    · rintro (⟨j, e, h⟩ | ⟨c, d, e, h⟩)
      · cases e
      · cases e; exact h
    · intro h
      exact .inr ⟨a, b, rfl, h⟩
theorem kindT_ok {n : Int} {ts : List (Int × Int)} {k : Str} {t : Thing} (h : t ∈ kindT n ts k) : ThOk n ts t := by
  unfold kindT at h
  split at h
  · exact allT_mem.mp (List.mem_append_left _ h)
  · split at h
    · exact allT_mem.mp (List.mem_append_right _ h)
    · exact allT_mem.mp h
/-- a rising list of places -/
structure LooksOk (n : Int) (ls : List Int) : Prop where
  rg : ∀ l ∈ ls, 0 ≤ l ∧ l < n
  up : ls.Pairwise (· < ·)
theorem LooksOk.len {n : Int} {ls : List Int} (h : LooksOk n ls) : ls.length ≤ n.toNat := by
  have := nodup_le (h.up.imp fun z => Int.ne_of_lt z) (ys := rng 0 n) fun v hv => rng_mem.mpr (h.rg v hv)
  rw [rng_length] at this
  omega
theorem things_ok {n : Int} {ts : List (Int × Int)} {k : Str} (h : WebOk n ts) : things_of (n, ⟨ts⟩) k = R.ok (kindT n ts k) := by
  have hn1 := h.n1
  have hn := h.n60
  have hl := h.len
  refine po_iff ?_
  unfold things_of kindT
  refine po_listRng (by decide) (by decide) (by show -(2 ^ 62) ≤ n; omega) (by show n < 2 ^ 62; omega) (by show (n - 0).toNat ≤ 100000; omega) ?_
  by_cases e1 : decide (k = "places") = true
  · rw [if_pos e1, if_pos e1]; rfl
  · rw [if_neg e1, if_neg e1]
    by_cases e2 : decide (k = "ties") = true
    · rw [if_pos e2, if_pos e2]; rfl
    · rw [if_neg e2, if_neg e2]
      refine po_extend ?_ rfl
      show (mkpl (rng 0 n)).length + (mkti ts).length < 100000
      unfold mkpl mkti
      rw [List.length_map, List.length_map, rng_length]
      omega
section
variable {κ α : Type} [DecidableEq κ]
def kstep (ks : List κ) (k : κ) : List κ := if k ∈ ks then ks else ks ++ [k]
def keysG (c : α → κ) (ts : List α) : List κ := (ts.map c).foldl kstep []
def rowsG (c : α → κ) (ks : List κ) (ts : List α) : List (List α) := ks.map fun k => ts.filter fun t => decide (c t = k)
theorem keysG_snoc (c : α → κ) (ts : List α) (t : α) : keysG c (ts ++ [t]) = kstep (keysG c ts) (c t) := by
  unfold keysG
  rw [List.map_append, List.foldl_append]
  rfl
theorem kstep_mem {ks : List κ} {k j : κ} : j ∈ kstep ks k ↔ j ∈ ks ∨ j = k := by
  unfold kstep
  by_cases h : k ∈ ks
  · rw [if_pos h]
    exact ⟨.inl, fun z => z.elim id fun e => e ▸ h⟩
  · rw [if_neg h]
    simp
theorem kstep_nodup {ks : List κ} {k : κ} (h : ks.Nodup) : (kstep ks k).Nodup := by
  unfold kstep
  by_cases q : k ∈ ks
  · rw [if_pos q]; exact h
  · rw [if_neg q]
    rw [List.nodup_append]
    refine ⟨h, by simp, fun a ha b hb e => ?_⟩
    simp at hb
    subst hb
    exact q (e ▸ ha)
theorem snoc_ind {α : Type} {P : List α → Prop} (h0 : P []) (hs : ∀ xs x, P xs → P (xs ++ [x])) (xs : List α) : P xs := by
  have : P xs.reverse.reverse := by
    induction xs.reverse with
    | nil => exact h0
    | cons x l ih =>
      rw [List.reverse_cons]
      exact hs _ _ ih
  rwa [List.reverse_reverse] at this
theorem keysG_mem {c : α → κ} {ts : List α} {k : κ} : k ∈ keysG c ts ↔ ∃ t ∈ ts, c t = k := by
  induction ts using snoc_ind with
  | h0 => simp [keysG]
  | hs ts t ih =>
    rw [keysG_snoc, kstep_mem, ih]
    constructor
    · rintro (⟨u, hu, e⟩ | rfl)
      · exact ⟨u, List.mem_append_left _ hu, e⟩
      · exact ⟨t, by simp, rfl⟩
    · rintro ⟨u, hu, e⟩
      rcases List.mem_append.mp hu with h | h
      · exact .inl ⟨u, h, e⟩
      · simp at h
        exact .inr (h ▸ e.symm)
theorem keysG_nodup {c : α → κ} {ts : List α} : (keysG c ts).Nodup := by
  induction ts using snoc_ind with
  | h0 => exact List.Pairwise.nil
  | hs ts t ih => rw [keysG_snoc]; exact kstep_nodup ih
theorem keysG_len {c : α → κ} {ts : List α} : (keysG c ts).length ≤ ts.length := by
  induction ts using snoc_ind with
  | h0 => exact Nat.le_refl _
  | hs ts t ih =>
    rw [keysG_snoc, List.length_append]
    unfold kstep
    split
    · omega
    · rw [List.length_append]; simp; omega
/-- the rows once a new code has an empty row -/
theorem rowsG_new {c : α → κ} {ts : List α} {k : κ} (h : k ∉ keysG c ts) : rowsG c (keysG c ts ++ [k]) ts = rowsG c (keysG c ts) ts ++ [[]] := by
  unfold rowsG
  rw [List.map_append, List.map_cons, List.map_nil]
  congr 2
  rw [List.filter_eq_nil_iff]
  intro t ht e
  exact h (keysG_mem.mpr ⟨t, ht, of_decide_eq_true e⟩)
theorem rowsG_get {c : α → κ} {ks : List κ} {ts : List α} {j : Nat} {k : κ} (h : ks[j]? = some k) : (rowsG c ks ts)[j]? = some (ts.filter fun t => decide (c t = k)) := by
  unfold rowsG
  rw [List.getElem?_map, h]
  rfl
theorem rowsG_set {c : α → κ} {ks : List κ} {ts : List α} {t : α} {j : Nat} (hd : ks.Nodup) (h : ks[j]? = some (c t)) : (rowsG c ks ts).set j ((ts.filter fun u => decide (c u = c t)) ++ [t]) = rowsG c ks (ts ++ [t]) := by
  refine List.ext_getElem? fun i => ?_
  unfold rowsG
  rw [List.getElem?_set, List.getElem?_map, List.getElem?_map, List.length_map]
  obtain ⟨hj, ej⟩ := List.getElem?_eq_some_iff.mp h
  by_cases e : j = i
  · subst e
    rw [if_pos rfl, if_pos hj, h]
    simp
  · rw [if_neg e]
    cases q : ks[i]? with
    | none => rfl
    | some k =>
      have : c t ≠ k := fun z => by
        obtain ⟨hi, ei⟩ := List.getElem?_eq_some_iff.mp q
        rcases Nat.lt_or_gt_of_ne e with l | l
        · exact List.pairwise_iff_getElem.mp hd _ _ hj hi l (by rw [ej, ei, z])
        · exact List.pairwise_iff_getElem.mp hd _ _ hi hj l (by rw [ej, ei, z])
      simp [this]
end
theorem po_foldXP {β α ρ : Type} {f : β → α → R (Sum ρ (Bool × β))} {s : β} {xs : List α} {X : Exn → Prop} (I : List α → β → Prop) (P : ρ → Prop) (h0 : I [] s)
    (hf : ∀ pre s x post, xs = pre ++ x :: post → I pre s → Post (f s x) (fun r => (∃ z, r = .inl z ∧ P z) ∨ ∃ s', r = .inr (true, s') ∧ I (pre ++ [x]) s') X) : Post (foldX f s xs) (fun r => (∃ z, r = .inl z ∧ P z) ∨ ∃ s', r = .inr s' ∧ I xs s') X := by
  have key : ∀ (l pre : List α) (s : β), xs = pre ++ l → I pre s → Post (foldX f s l) (fun r => (∃ z, r = .inl z ∧ P z) ∨ ∃ s', r = .inr s' ∧ I xs s') X := by
    intro l
    induction l with
    | nil =>
      intro pre s e h
      rw [List.append_nil] at e
      rw [e]
      exact .inr ⟨s, rfl, h⟩
    | cons x l ih =>
      intro pre s e h
      refine po_bind (hf pre s x l e h) fun r hr => ?_
      rcases hr with ⟨z, rfl, hz⟩ | ⟨s', rfl, hs⟩
      · exact .inl ⟨z, rfl, hz⟩
      · exact ih (pre ++ [x]) s' (by rw [e, List.append_assoc]; rfl) hs
  exact key xs [] s rfl h0
section
variable {n : Int} {ts : List (Int × Int)} {o : List Int}
def nmO (o : List Int) (k : Int) : Int := o.getD k.toNat 0
def mvT (o : List Int) : Thing → Thing
  | .pl i => .pl (nmO o i)
  | .ti a b => .ti (moved o (a, b)).1 (moved o (a, b)).2
theorem moved_two (a b : Int) : moved o (a, b) = (nmO o a, nmO o b) ∨ moved o (a, b) = (nmO o b, nmO o a) := by
  unfold moved nmO
  rcases mm_cases (o.getD a.toNat 0) (o.getD b.toNat 0) with ⟨w1, w2, _⟩ | ⟨w1, w2, _⟩
  · exact .inl (by dsimp only; rw [w1, w2])
  · exact .inr (by dsimp only; rw [w1, w2])
variable (ho : o.Perm (rng 0 n)) (h : WebOk n ts)
include ho h
theorem moved_web : WebOk n (sortP (ts.map (moved o))) := moved_ok ho h.n1 h.n60 ⟨h.rg, h.nd, h.conn, h.len⟩
theorem nm_rg {a : Int} (a0 : 0 ≤ a) (a1 : a < n) : 0 ≤ nmO o a ∧ nmO o a < n := perm_getD ho (by omega) a0 a1
theorem nm_inj {a b : Int} (a0 : 0 ≤ a) (a1 : a < n) (b0 : 0 ≤ b) (b1 : b < n) (e : nmO o a = nmO o b) : a = b := perm_inj ho (by omega) a0 a1 b0 b1 e
theorem adj_moved {a b : Int} (a0 : 0 ≤ a) (a1 : a < n) (b0 : 0 ≤ b) (b1 : b < n) : Adj (sortP (ts.map (moved o))) (nmO o a) (nmO o b) ↔ Adj ts a b := by
  have hp := sortP_perm (ts.map (moved o))
  have back : ∀ x y, 0 ≤ x → x < n → 0 ≤ y → y < n → (nmO o x, nmO o y) ∈ sortP (ts.map (moved o)) → Adj ts x y := fun x y x0 x1 y0 y1 hm => by
    obtain ⟨q, hq, e⟩ := List.mem_map.mp (hp.mem_iff.mp hm)
    have hr := h.rg4 q hq
    obtain ⟨c, d⟩ := q
    rcases moved_two (o := o) c d with w | w <;> rw [w] at e <;> injection e with e1 e2
    · have i1 := nm_inj ho h hr.1 hr.2.1 x0 x1 e1
      have i2 := nm_inj ho h hr.2.2.1 hr.2.2.2 y0 y1 e2
      dsimp only at i1 i2
      subst i1
      subst i2
      exact .inl hq
    · have i1 := nm_inj ho h hr.2.2.1 hr.2.2.2 x0 x1 e1
      have i2 := nm_inj ho h hr.1 hr.2.1 y0 y1 e2
      dsimp only at i1 i2
      subst i1
      subst i2
      exact .inr hq
  have fwd : ∀ x y, (x, y) ∈ ts → Adj (sortP (ts.map (moved o))) (nmO o x) (nmO o y) := fun x y hm => by
    have : moved o (x, y) ∈ sortP (ts.map (moved o)) := hp.mem_iff.mpr (List.mem_map_of_mem hm)
    rcases moved_two (o := o) x y with w | w <;> rw [w] at this
    · exact .inl this
    · exact .inr this
  constructor
  · intro q
    rcases q with q | q
    · exact back a b a0 a1 b0 b1 q
    · exact (back b a b0 b1 a0 a1 q).symm
  · intro q
    rcases q with q | q
    · exact fwd a b q
    · exact (fwd b a q).symm
theorem dst_moved {p v : Int} (p0 : 0 ≤ p) (p1 : p < n) (v0 : 0 ≤ v) (v1 : v < n) : dst n (sortP (ts.map (moved o))) (nmO o p) (nmO o v) = dst n ts p v := by
  have h' := moved_web ho h
  have hI : ∀ x, ∃ y, 0 ≤ x → x < n → 0 ≤ y ∧ y < n ∧ nmO o y = x := fun x => by
    by_cases c : 0 ≤ x ∧ x < n
    · obtain ⟨y, y0, y1, e⟩ := perm_surj ho (by omega) c.1 c.2
      exact ⟨y, fun _ _ => ⟨y0, y1, e⟩⟩
    · exact ⟨0, fun a b => absurd ⟨a, b⟩ c⟩
  obtain ⟨I, hI⟩ := Classical.axiomOfChoice hI
  have hIO : ∀ x, 0 ≤ x → x < n → I (nmO o x) = x := fun x x0 x1 => by
    have hr := nm_rg ho h x0 x1
    obtain ⟨y0, y1, e⟩ := hI _ hr.1 hr.2
    exact nm_inj ho h y0 y1 x0 x1 e
  have hr := nm_rg ho h p0 p1
  have hrv := nm_rg ho h v0 v1
  have d := web_dist h p0 p1
  have key : IsDist n (sortP (ts.map (moved o))) (nmO o p) (fun w => dst n ts p (I w)) := by
    refine ⟨?_, fun w w0 w1 => ?_, fun a b q => ?_, fun w w0 w1 hne => ?_⟩
    · show dst n ts p (I (nmO o p)) = 0
      rw [hIO p p0 p1]
      exact d.zero
    · obtain ⟨y0, y1, _⟩ := hI w w0 w1
      exact d.nn _ y0 y1
    · obtain ⟨a0, a1, b0, b1, _⟩ := h'.adj q
      obtain ⟨x0, x1, ex⟩ := hI a a0 a1
      obtain ⟨y0, y1, ey⟩ := hI b b0 b1
      rw [← ex, ← ey] at q
      exact d.lip _ _ ((adj_moved ho h x0 x1 y0 y1).mp q)
    · obtain ⟨y0, y1, ey⟩ := hI w w0 w1
      have hyp : I w ≠ p := fun e => hne (by rw [← ey, e])
      obtain ⟨z, z0, z1, qz, ez⟩ := d.desc (I w) y0 y1 hyp
      have hz := nm_rg ho h z0 z1
      refine ⟨nmO o z, hz.1, hz.2, ?_, ?_⟩
      · have := (adj_moved ho h z0 z1 y0 y1).mpr qz
        rwa [ey] at this
      · show dst n ts p (I (nmO o z)) + 1 = _
        rw [hIO z z0 z1]
        exact ez
  rw [← dst_eq key _ hrv.1 hrv.2]
  show dst n ts p (I (nmO o v)) = _
  rw [hIO v v0 v1]
theorem far_moved {X : Thing} {l : Int} (hX : ThOk n ts X) (l0 : 0 ≤ l) (l1 : l < n) : farT n (sortP (ts.map (moved o))) (nmO o l) (mvT o X) = farT n ts l X := by
  cases X with
  | pl i => exact dst_moved ho h l0 l1 hX.1 hX.2
  | ti a b =>
    have hab : (a, b) ∈ ts := hX
    have hr := h.rg4 _ hab
    have ea := dst_moved ho h l0 l1 (v := a) hr.1 hr.2.1
    have eb := dst_moved ho h l0 l1 (v := b) hr.2.2.1 hr.2.2.2
    show min2 (dst n _ (nmO o l) (moved o (a, b)).1) (dst n _ (nmO o l) (moved o (a, b)).2) = min2 (dst n ts l a) (dst n ts l b)
    rcases moved_two (o := o) a b with w | w <;> rw [w] <;> dsimp only <;> rw [ea, eb]
    rcases mm_cases (dst n ts l a) (dst n ts l b) with ⟨w1, _, c1⟩ | ⟨w1, _, c1⟩ <;> rcases mm_cases (dst n ts l b) (dst n ts l a) with ⟨w2, _, c2⟩ | ⟨w2, _, c2⟩ <;> rw [w1, w2] <;> omega
theorem mv_inj {X Y : Thing} (hX : ThOk n ts X) (hY : ThOk n ts Y) (e : mvT o X = mvT o Y) : X = Y := by
  cases X with
  | pl i =>
    cases Y with
    | pl j =>
      have e' : nmO o i = nmO o j := by injection e
      rw [nm_inj ho h hX.1 hX.2 hY.1 hY.2 e']
    | ti c d => cases e
  | ti a b =>
    cases Y with
    | pl j => cases e
    | ti c d =>
      have e' : moved o (a, b) = moved o (c, d) := by
        injection e with e1 e2
        exact Prod.ext e1 e2
      have := moved_inj ho (by have := h.n1; omega) (h.rg _ (show (a, b) ∈ ts from hX)) (h.rg _ (show (c, d) ∈ ts from hY)) e'
      injection this with e1 e2
      rw [e1, e2]
theorem kind_moved {k : Str} {X' : Thing} : X' ∈ kindT n (sortP (ts.map (moved o))) k ↔ ∃ X ∈ kindT n ts k, X' = mvT o X := by
  have pl : X' ∈ mkpl (rng 0 n) ↔ ∃ X ∈ mkpl (rng 0 n), X' = mvT o X := by
    rw [pl_mem]
    constructor
    · rintro ⟨i, rfl, i0, i1⟩
      obtain ⟨j, j0, j1, e⟩ := perm_surj ho (by omega) i0 i1
      exact ⟨.pl j, pl_mem.mpr ⟨j, rfl, j0, j1⟩, by rw [← e]; rfl⟩
    · rintro ⟨X, hX, rfl⟩
      obtain ⟨j, rfl, j0, j1⟩ := pl_mem.mp hX
      exact ⟨_, rfl, nm_rg ho h j0 j1⟩
  have ti : X' ∈ mkti (sortP (ts.map (moved o))) ↔ ∃ X ∈ mkti ts, X' = mvT o X := by
    rw [ti_mem]
    constructor
    · rintro ⟨a, b, rfl, hab⟩
      obtain ⟨q, hq, e⟩ := List.mem_map.mp ((sortP_perm _).mem_iff.mp hab)
      refine ⟨.ti q.1 q.2, ti_mem.mpr ⟨_, _, rfl, hq⟩, ?_⟩
      show _ = Thing.ti (moved o (q.1, q.2)).1 (moved o (q.1, q.2)).2
      rw [show (q.1, q.2) = q from rfl, e]
    · rintro ⟨X, hX, rfl⟩
      obtain ⟨a, b, rfl, hab⟩ := ti_mem.mp hX
      exact ⟨_, _, rfl, (sortP_perm _).mem_iff.mpr (List.mem_map_of_mem (f := moved o) hab)⟩
  unfold kindT
  split
  · exact pl
  · split
    · exact ti
    · unfold allT
      rw [List.mem_append, pl, ti]
      constructor
      · rintro (⟨X, hX, e⟩ | ⟨X, hX, e⟩)
        · exact ⟨X, List.mem_append_left _ hX, e⟩
        · exact ⟨X, List.mem_append_right _ hX, e⟩
      · rintro ⟨X, hX, e⟩
        rcases List.mem_append.mp hX with hX | hX
        · exact .inl ⟨X, hX, e⟩
        · exact .inr ⟨X, hX, e⟩
end
theorem nm_get {m : Int} {o : List Int} (ho : o.Perm (rng 0 m)) {x : Int} (x0 : 0 ≤ x) (x1 : x < m) : getI o x = R.ok (nmO o x) := by
  obtain ⟨y, ey, _⟩ := perm_get ho (by omega) x0 x1
  refine getI_eq x0 ?_
  unfold nmO
  rw [List.getD_eq_getElem?_getD, ey]
  rfl
theorem few_up {ps : List (Int × Int)} {n : Int} (hn : n ≤ 26) (hd : ps.Nodup) (hr : ∀ p ∈ ps, 0 ≤ p.1 ∧ p.1 < p.2 ∧ p.2 < n) : ps.length ≤ 700 := by
  have h1 : (ps.map fun p => p.1 * 26 + p.2).Nodup := by
    refine List.pairwise_map.mpr (hd.imp_of_mem ?_)
    intro a b ha hb hne e
    have ra := hr a ha
    have rb := hr b hb
    exact hne (Prod.ext (by omega) (by omega))
  have h2 := nodup_le h1 (ys := rng 0 676) fun x hx => by
    obtain ⟨p, hp, rfl⟩ := List.mem_map.mp hx
    have := hr p hp
    exact rng_mem.mpr ⟨by omega, by omega⟩
  rw [List.length_map, rng_length] at h2
  have : ((676 : Int) - 0).toNat = 676 := by decide
  omega
structure UpOk (n : Int) (g : List (Int × Int)) : Prop where
  rg : ∀ p ∈ g, 0 ≤ p.1 ∧ p.1 < p.2 ∧ p.2 < n
  nd : g.Nodup
  dn : ∀ j, 1 ≤ j → j < n → ∃ i, 0 ≤ i ∧ i < j ∧ (i, j) ∈ g
theorem UpOk.len {n : Int} {g : List (Int × Int)} (h : UpOk n g) (hn : n ≤ 26) : g.length ≤ 700 := few_up hn h.nd h.rg
theorem UpOk.ties {n : Int} {g : List (Int × Int)} (h : UpOk n g) (hn : n ≤ 26) : TiesOk 700 n g := ⟨h.rg, h.nd, conn_tree fun k k1 kn => by
  obtain ⟨i, i0, ik, hi⟩ := h.dn k k1 kn
  exact ⟨i, i0, ik, .inl hi⟩, h.len hn⟩
theorem UpOk.add {n : Int} {g us : List (Int × Int)} (h : UpOk n g) (hr : ∀ p ∈ us, 0 ≤ p.1 ∧ p.1 < p.2 ∧ p.2 < n) (hd : us.Nodup) (hx : ∀ p ∈ us, p ∉ g) : UpOk n (g ++ us) := ⟨fun p hp => (List.mem_append.mp hp).elim (h.rg p) (hr p), by
  rw [List.nodup_append]
  exact ⟨h.nd, hd, fun a ha b hb e => hx b hb (e ▸ ha)⟩, fun j j1 jn => by
  obtain ⟨i, i0, ik, hi⟩ := h.dn j j1 jn
  exact ⟨i, i0, ik, List.mem_append_left _ hi⟩⟩
def rowP (n : Int) : List (Int × Int) := (rng 0 (n - 1)).map fun b => (b, b + 1)
def starP (n : Int) : List (Int × Int) := (rng 1 n).map fun b => (0, b)
theorem row_up {n : Int} : UpOk n (rowP n) := ⟨fun p hp => by
    obtain ⟨b, hb, rfl⟩ := List.mem_map.mp hp
    have := rng_mem.mp hb
    exact ⟨this.1, by show b < b + 1; omega, by show b + 1 < n; omega⟩, by
    refine List.pairwise_map.mpr ((rng_nodup 0 (n - 1)).imp ?_)
    intro a b hab e
    exact hab (congrArg Prod.fst e), fun j j1 jn => ⟨j - 1, by omega, by omega, List.mem_map.mpr ⟨j - 1, rng_mem.mpr ⟨by omega, by omega⟩, Prod.ext rfl (by show j - 1 + 1 = j; omega)⟩⟩⟩
theorem star_up {n : Int} : UpOk n (starP n) := ⟨fun p hp => by
    obtain ⟨b, hb, rfl⟩ := List.mem_map.mp hp
    have := rng_mem.mp hb
    exact ⟨Int.le_refl 0, by show 0 < b; omega, this.2⟩, by
    refine List.pairwise_map.mpr ((rng_nodup 1 n).imp ?_)
    intro a b hab e
    exact hab (congrArg Prod.snd e), fun j j1 jn => ⟨0, by omega, by omega, List.mem_map.mpr ⟨j, rng_mem.mpr ⟨j1, jn⟩, rfl⟩⟩⟩
theorem row_tail {n : Int} {p : Int × Int} (h : p ∈ (rowP n).drop 1) : 1 ≤ p.1 ∧ p ∈ rowP n := by
  refine ⟨?_, List.mem_of_mem_drop h⟩
  obtain ⟨i, hi⟩ := List.mem_iff_getElem?.mp h
  rw [List.getElem?_drop] at hi
  unfold rowP at hi
  rw [List.getElem?_map] at hi
  cases e : (rng 0 (n - 1))[1 + i]? with
  | none => rw [e] at hi; cases hi
  | some x =>
    rw [e] at hi
    cases hi
    have hl := (List.getElem?_eq_some_iff.mp e).1
    rw [rng_length] at hl
    rw [rng_atE hl] at e
    cases e
    show (1 : Int) ≤ 0 + ((1 + i : Nat) : Int)
    omega
theorem fan_up {n : Int} : UpOk n ((rowP n).drop 1 ++ starP n) := by
  refine ⟨fun p hp => (List.mem_append.mp hp).elim (fun z => row_up.rg p (row_tail z).2) (star_up.rg p), ?_, fun j j1 jn => ?_⟩
  · rw [List.nodup_append]
    refine ⟨List.Pairwise.drop row_up.nd, star_up.nd, fun a ha b hb e => ?_⟩
    have h1 := (row_tail ha).1
    obtain ⟨x, _, rfl⟩ := List.mem_map.mp hb
    rw [e] at h1
    have : (1 : Int) ≤ 0 := h1
    omega
  · obtain ⟨i, i0, ik, hi⟩ := star_up.dn j j1 jn
    exact ⟨i, i0, ik, List.mem_append_right _ hi⟩
theorem cut_one {α : Type} (xs : List α) : cutL xs (some (1 : Int)) none = xs.drop 1 := by
  cases xs with
  | nil => rfl
  | cons x xs =>
    unfold cutL
    have h1 : HT.sIx (x :: xs).length 0 (some (1 : Int)) = 1 := by
      unfold HT.sIx
      simp
    have h2 : HT.sIx (x :: xs).length (x :: xs).length (none : Option Int) = (x :: xs).length := rfl
    rw [h1, h2]
    simp
theorem web_named {s : List Int} {lo hi : Int} (h : Ok2 s) (l1 : 1 ≤ lo) (l2 : lo ≤ hi) (l3 : hi ≤ 26) : Post (law_web s lo hi) (fun r => ∃ n ts, r.1 = (n, ⟨ts⟩) ∧ lo ≤ n ∧ n ≤ hi ∧ WebOk n ts ∧ Ok2 r.2) noX := by
  unfold law_web
  refine po_bind (next_ok h (by omega) (by omega)) fun y3 ⟨a0, a1, h3⟩ => po_bind (next_ok h3 (by decide) (by decide)) fun y5 ⟨b0, b1, h5⟩ => ?_
  generalize hn : lo + y3.1 = n
  have n1 : 1 ≤ n := by omega
  have n2 : n ≤ 26 := by omega
  refine po_rng (by decide) (by decide) (by omega) (by omega) ?_
  refine po_mapGE (g := fun b => (b, b + 1)) (by rw [rng_length]; omega) (fun b _ => rfl) ?_
  have er : (rng 0 (n - 1)).map (fun b => (b, b + 1)) = rowP n := rfl
  rw [er]
  have lr : (rowP n).length ≤ 700 := row_up.len n2
  refine po_bind (Q := fun g => UpOk n g ∧ (y5.1 ≠ 1 → g = rowP n)) (po_if (fun c => ?_) fun c => ⟨row_up, fun _ => rfl⟩) fun g12 ⟨u12, e12⟩ => ?_
  · rw [Bool.and_eq_true] at c
    have c1 := of_decide_eq_true c.1
    have c2 := of_decide_eq_true c.2
    refine po_app (by omega) ⟨row_up.add (fun p hp => ?_) (by simp) (fun p hp z => ?_), fun z => absurd c1 z⟩
    · rw [List.mem_singleton.mp hp]
      exact ⟨by show (0 : Int) ≤ 0; omega, by show (0 : Int) < n - 1; omega, by show n - 1 < n; omega⟩
    · rw [List.mem_singleton.mp hp] at z
      obtain ⟨x, _, ex⟩ := List.mem_map.mp z
      have e1 : x = 0 := congrArg Prod.fst ex
      have e2 : x + 1 = n - 1 := congrArg Prod.snd ex
      omega
  refine po_bind (Q := fun g => UpOk n g ∧ (y5.1 = 3 → g = rowP n)) (po_if (fun c => ?_) fun c => ⟨u12, fun z => e12 (by omega)⟩) fun g22 ⟨u22, e22⟩ => ?_
  · have c1 := of_decide_eq_true c
    refine po_rng (by decide) (by decide) (by omega) (by omega) ?_
    refine po_mapGE (g := fun b => ((0 : Int), b)) (by rw [rng_length]; omega) (fun b _ => rfl) ⟨star_up, fun z => by omega⟩
  refine po_bind (Q := fun g => UpOk n g) (po_if (fun c => ?_) fun c => u22) fun g32 u32 => ?_
  · have c1 := of_decide_eq_true c
    rw [e22 c1, cut_one]
    refine po_rng (by decide) (by decide) (by omega) (by omega) ?_
    refine po_mapGE (g := fun b => ((0 : Int), b)) (by rw [rng_length]; omega) (fun b _ => rfl) ?_
    have e2 : (rng 1 n).map (fun b => ((0 : Int), b)) = starP n := rfl
    rw [e2]
    have ls : (starP n).length ≤ 700 := star_up.len n2
    have ld : ((rowP n).drop 1).length ≤ (rowP n).length := by rw [List.length_drop]; omega
    exact po_extend (by omega) fan_up
  refine po_bind (Q := fun g => UpOk n g) (po_if (fun c => ?_) fun c => u32) fun g48 u48 => ?_
  · refine po_rng (by decide) (by decide) (by omega) (by omega) ?_
    refine po_bind (po_foldP (fun pre (g : List (Int × Int)) => (∀ p ∈ g, 0 ≤ p.1 ∧ p.1 < p.2 ∧ p.2 < n ∧ p.2 ∈ pre) ∧ g.Nodup ∧ ∀ j ∈ pre, 1 ≤ j → (0, j) ∈ g) ⟨fun _ z => (nomatch z), List.nodup_nil, fun _ z => (nomatch z)⟩ ?_) ?_
    · rintro pre g x post e ⟨h1, h2, h3⟩
      obtain ⟨ep, x0, x1⟩ := rng_split e
      have hl : g.length ≤ 700 := few_up n2 h2 fun p hp => ⟨(h1 p hp).1, (h1 p hp).2.1, (h1 p hp).2.2.1⟩
      refine po_rng (by decide) (by decide) (by omega) (by omega) ?_
      refine po_mapGE (g := fun b => (b, x)) (by rw [rng_length]; omega) (fun b _ => rfl) ?_
      refine po_extend (by rw [List.length_map, rng_length]; omega) ⟨fun p hp => ?_, ?_, fun j hj j1 => ?_⟩
      · rcases List.mem_append.mp hp with hp | hp
        · have := h1 p hp
          exact ⟨this.1, this.2.1, this.2.2.1, List.mem_append_left _ this.2.2.2⟩
        · obtain ⟨b, hb, rfl⟩ := List.mem_map.mp hp
          have := rng_mem.mp hb
          exact ⟨this.1, this.2, x1, List.mem_append_right _ (List.mem_singleton.mpr rfl)⟩
      · rw [List.nodup_append]
        refine ⟨h2, List.pairwise_map.mpr ((rng_nodup 0 x).imp fun hab e => hab (congrArg Prod.fst e)), fun a ha b hb e2 => ?_⟩
        obtain ⟨c, _, rfl⟩ := List.mem_map.mp hb
        have hp := (h1 a ha).2.2.2
        rw [e2, ep] at hp
        have := (rng_mem.mp hp).2
        dsimp only at this
        omega
      · rcases List.mem_append.mp hj with hj | hj
        · exact List.mem_append_left _ (h3 j hj j1)
        · rw [List.mem_singleton.mp hj] at j1 ⊢
          exact List.mem_append_right _ (List.mem_map.mpr ⟨0, rng_mem.mpr ⟨by omega, by omega⟩, rfl⟩)
    · rintro g ⟨h1, h2, h3⟩
      exact ⟨fun p hp => ⟨(h1 p hp).1, (h1 p hp).2.1, (h1 p hp).2.2.1⟩, h2, fun j j1 jn => ⟨0, by omega, by omega, h3 j (rng_mem.mpr ⟨by omega, jn⟩) j1⟩⟩
  refine po_bind (Q := fun (g : List (Int × Int) × List Int) => UpOk n g.1 ∧ Ok2 g.2) (po_if (fun c => ?_) fun c => ⟨u48, h5⟩) fun g66 ⟨u66, h66⟩ => ?_
  · refine po_rng (by decide) (by decide) (by omega) (by omega) ?_
    refine po_bind (po_mapStA (fun pre (ys : List (Int × Int)) (s : List Int) => Ok2 s ∧ ys.map (·.2) = pre ∧ ∀ p ∈ ys, 0 ≤ p.1 ∧ p.1 < p.2) (by rw [rng_length]; omega) ⟨h5, rfl, fun _ z => (nomatch z)⟩ ?_) ?_
    · rintro pre ys s x post e ⟨q1, q2, q3⟩
      obtain ⟨ep, x0, x1⟩ := rng_split e
      refine po_bind (next_ok q1 (by omega) (by omega)) fun y ⟨y0, y1, hy⟩ => ⟨hy, ?_, fun p hp => ?_⟩
      · rw [List.map_append, q2]
        rfl
      · rcases List.mem_append.mp hp with hp | hp
        · exact q3 p hp
        · rw [List.mem_singleton.mp hp]
          exact ⟨y0, y1⟩
    · rintro l71 ⟨q1, q2, q3⟩
      have ut : UpOk n l71.1 := by
        refine ⟨fun p hp => ?_, ?_, fun j j1 jn => ?_⟩
        · have hm : p.2 ∈ rng 1 n := by rw [← q2]; exact List.mem_map.mpr ⟨p, hp, rfl⟩
          have := q3 p hp
          exact ⟨this.1, this.2, (rng_mem.mp hm).2⟩
        · have := rng_nodup 1 n
          rw [← q2] at this
          exact (List.pairwise_map.mp this).imp fun hab e => hab (congrArg Prod.snd e)
        · have hm : j ∈ l71.1.map (·.2) := by rw [q2]; exact rng_mem.mpr ⟨j1, jn⟩
          obtain ⟨p, hp, rfl⟩ := List.mem_map.mp hm
          exact ⟨p.1, (q3 p hp).1, (q3 p hp).2, hp⟩
      refine po_bind (next_ok q1 (by decide) (by decide)) fun y82 ⟨c0, c1, h82⟩ => ?_
      refine po_rng (by decide) (by decide) (by omega) (by omega) ?_
      refine po_bind (po_fold (fun (g : List Int × List (Int × Int)) => Ok2 g.1 ∧ UpOk n g.2) ⟨h82, ut⟩ ?_) fun g ⟨k1, k2⟩ => ⟨k2, k1⟩
      rintro ⟨s, g⟩ x ⟨k1, k2⟩ _
      have k2' : UpOk n g := k2
      have hl := k2'.len n2
      refine po_bind (next_ok k1 (by omega) (by omega)) fun u ⟨u0, u1, hu⟩ => po_bind (next_ok hu (by omega) (by omega)) fun v ⟨v0, v1, hv⟩ => ?_
      refine po_if (fun c => ?_) fun _ => ⟨hv, k2⟩
      rw [Bool.and_eq_true] at c
      have c1 := of_decide_eq_true c.1
      refine po_app (by show g.length < 100000; omega) ⟨hv, k2'.add (fun p hp => ?_) (by simp) fun p hp z => ?_⟩
      · rw [List.mem_singleton.mp hp]
        exact ⟨u0, c1, v1⟩
      · rw [List.mem_singleton.mp hp] at z
        have c2 := c.2
        rw [inB_t.mpr z] at c2
        cases c2
  refine po_rng (by decide) (by decide) (by omega) (by omega) ?_
  refine po_bind (po_foldP (fun pre (g : List Int × List Int) => g.1.Perm pre ∧ Ok2 g.2) ⟨List.Perm.refl _, h66⟩ ?_) ?_
  · rintro pre ⟨l, p⟩ x post e ⟨h1, h2⟩
    have h1' : l.Perm pre := h1
    have hx := rng_pre e
    obtain ⟨_, x0, x1⟩ := rng_split e
    have hl := h1'.length_eq
    refine po_bind (next_ok h2 (by omega) (by omega)) fun y ⟨y0, y1, hy⟩ => ?_
    have hi : insR l y.1 x = R.ok (l.take y.1.toNat ++ [x] ++ l.drop y.1.toNat) := by
      unfold insR
      rw [if_pos ⟨by omega, y0, by omega⟩]
    show Post (insR l y.1 x >>= _) _ _
    rw [hi, ok_bind]
    refine ⟨?_, hy⟩
    show (l.take y.1.toNat ++ [x] ++ l.drop y.1.toNat).Perm (pre ++ [x])
    have p1 : (l.take y.1.toNat ++ [x] ++ l.drop y.1.toNat).Perm (l.take y.1.toNat ++ l.drop y.1.toNat ++ [x]) := by
      rw [List.append_assoc, List.append_assoc]
      exact List.Perm.append_left _ List.perm_append_comm
    rw [List.take_append_drop] at p1
    exact p1.trans (h1'.append_right _)
  · rintro ⟨o, s'⟩ ⟨ho, hs⟩
    have ho' : o.Perm (rng 0 n) := ho
    have hl := u66.len n2
    refine po_mapGE (g := fun p => (nmO o p.1, nmO o p.2)) (by omega) (fun p hp => ?_) ?_
    · have hr := u66.rg p hp
      show (getI o p.1 >>= _) = _
      rw [nm_get ho' hr.1 (by omega), ok_bind]
      show (getI o p.2 >>= _) = _
      rw [nm_get ho' (by omega) hr.2.2, ok_bind]
    · have w := moved_ok ho' n1 (by omega) (u66.ties n2)
      rw [made_ok w (us := g66.1.map fun p => (nmO o p.1, nmO o p.2)) (by
        rw [List.map_map]
        have : (nrm ∘ fun p : Int × Int => (nmO o p.1, nmO o p.2)) = moved o := rfl
        rw [this]
        exact (sortP_perm _).symm), ok_bind]
      exact ⟨n, _, rfl, by omega, by omega, w, hs⟩
theorem mget_at {κ β : Type} [DecidableEq κ] {k : κ} : ∀ {m : List (κ × β)}, mhas m k = true → ∃ (j : Nat) (v : β), m[j]? = some (k, v) ∧ mget m k = some v
  | [], h => by cases h
  | p :: m, h => by
    rw [mget_cons]
    by_cases e : p.1 = k
    · rw [if_pos e]
      exact ⟨0, p.2, by rw [← e]; rfl, rfl⟩
    · rw [if_neg e]
      have h' : mhas m k = true := by
        unfold mhas at h ⊢
        rw [List.any_cons, decide_eq_false e, Bool.false_or] at h
        exact h
      obtain ⟨j, v, h1, h2⟩ := mget_at h'
      exact ⟨j + 1, v, by simpa using h1, h2⟩
/-- a dict of numbers of lists, and what these hold -/
structure GH {κ : Type} (ks : List κ) (rows : List (List Thing)) (g : List (κ × Nat) × List (List Thing)) : Prop where
  ks : g.1.map (·.1) = ks
  nd : (g.1.map (·.2)).Nodup
  vals : g.1.map (fun p => g.2[p.2]?) = rows.map some
theorem GH.lt {κ : Type} {ks : List κ} {rows : List (List Thing)} {g : List (κ × Nat) × List (List Thing)} (h : GH ks rows g) {p : κ × Nat} (hp : p ∈ g.1) : p.2 < g.2.length := by
  have hm : g.2[p.2]? ∈ g.1.map (fun p => g.2[p.2]?) := List.mem_map.mpr ⟨p, hp, rfl⟩
  rw [h.vals] at hm
  obtain ⟨r, _, hr⟩ := List.mem_map.mp hm
  exact (List.getElem?_eq_some_iff.mp hr.symm).1
theorem GH.step {κ : Type} [DecidableEq κ] {c : Thing → κ} {pre : List Thing} {x : Thing} {g : List (κ × Nat) × List (List Thing)} (h : GH (keysG c pre) (rowsG c (keysG c pre) pre) g) (hl : pre.length < 1000) : Post (do
      let r20 ← newS g.2 ([] : (List Thing))
      let l21 ← msetdR g.1 (c x) r20.1
      let t21 ← mgetR l21 (c x)
      let x24 ← getS r20.2 t21
      let l25 ← app x24 x
      let r25 ← setS r20.2 t21 l25
      R.ok (l21, r25)) (fun g => GH (keysG c (pre ++ [x])) (rowsG c (keysG c (pre ++ [x])) (pre ++ [x])) g) noX := by
  obtain ⟨m, st⟩ := g
  have hk : m.map (·.1) = keysG c pre := h.ks
  have hv : m.map (fun p => st[p.2]?) = (rowsG c (keysG c pre) pre).map some := h.vals
  have hd : (m.map (·.2)).Nodup := h.nd
  have hml : m.length ≤ pre.length := by
    have := congrArg List.length hk
    rw [List.length_map] at this
    have := keysG_len (c := c) (ts := pre)
    omega
  have hfl : ∀ k, (pre.filter fun u => decide (c u = k)).length < 1000 := fun k => Nat.lt_of_le_of_lt (List.length_filter_le _ _) hl
  refine po_newS ?_
  refine po_msetd (by show m.length < 100000; omega) ?_
  show Post (mgetR (msetd m (c x) st.length) (c x) >>= _) _ _
  by_cases q : c x ∈ keysG c pre
  · have hm : mhas m (c x) = true := by
      rw [mhas_keys]
      unfold mkeys
      rw [hk]
      exact q
    have e1 : msetd m (c x) st.length = m := by
      unfold msetd
      rw [if_pos hm]
    rw [e1]
    obtain ⟨j, t, hj, hg⟩ := mget_at hm
    refine po_mgetE hg ?_
    have hkj : (keysG c pre)[j]? = some (c x) := by rw [← hk, List.getElem?_map, hj]; rfl
    have hrow := rowsG_get (ts := pre) (c := c) hkj
    have hst : st[t]? = some (pre.filter fun u => decide (c u = c x)) := by
      have := congrArg (fun l => l[j]?) hv
      rw [List.getElem?_map, List.getElem?_map, hj, hrow] at this
      simpa using this
    have ht := (List.getElem?_eq_some_iff.mp hst).1
    refine po_getS (by show (st ++ [[]])[t]? = _; rw [List.getElem?_append_left ht]; exact hst) ?_
    refine po_app (by have := hfl (c x); omega) (po_setS ?_)
    have ek : keysG c (pre ++ [x]) = keysG c pre := by
      rw [keysG_snoc]
      unfold kstep
      rw [if_pos q]
    rw [ek]
    refine ⟨hk, hd, ?_⟩
    rw [← rowsG_set keysG_nodup hkj]
    refine List.ext_getElem? fun i => ?_
    rw [List.getElem?_map, List.getElem?_map, List.getElem?_set]
    show (m[i]?).map (fun p => ((st ++ [[]]).set t ((pre.filter fun u => decide (c u = c x)) ++ [x]))[p.2]?) = _
    have hlen : (rowsG c (keysG c pre) pre).length = m.length := by
      have := congrArg List.length hv
      rw [List.length_map, List.length_map] at this
      exact this.symm
    by_cases e : j = i
    · subst e
      have hjl : j < m.length := (List.getElem?_eq_some_iff.mp hj).1
      rw [if_pos rfl, if_pos (by omega), hj]
      show some (((st ++ [[]]).set t _)[t]?) = _
      rw [List.getElem?_set_self (by rw [List.length_append]; omega)]
      rfl
    · rw [if_neg e]
      have hvi := congrArg (fun l => l[i]?) hv
      rw [List.getElem?_map, List.getElem?_map] at hvi
      rw [← hvi]
      cases ei : m[i]? with
      | none => rfl
      | some p =>
        have hp : p ∈ m := List.mem_of_getElem? ei
        have hpl : p.2 < st.length := h.lt hp
        have hne : t ≠ p.2 := by
          intro z
          have hi := (List.getElem?_eq_some_iff.mp ei).1
          have hjl := (List.getElem?_eq_some_iff.mp hj).1
          have a1 : (m.map (·.2))[j]? = some t := by rw [List.getElem?_map, hj]; rfl
          have a2 : (m.map (·.2))[i]? = some t := by rw [List.getElem?_map, ei, z]; rfl
          obtain ⟨b1, c1⟩ := List.getElem?_eq_some_iff.mp a1
          obtain ⟨b2, c2⟩ := List.getElem?_eq_some_iff.mp a2
          rcases Nat.lt_or_gt_of_ne e with l | l
          · exact List.pairwise_iff_getElem.mp hd _ _ b1 b2 l (by rw [c1, c2])
          · exact List.pairwise_iff_getElem.mp hd _ _ b2 b1 l (by rw [c1, c2])
        show some (((st ++ [[]]).set t _)[p.2]?) = some (st[p.2]?)
        rw [List.getElem?_set_ne hne, List.getElem?_append_left hpl]
  · have hm : mhas m (c x) = false := by
      cases z : mhas m (c x) with
      | false => rfl
      | true =>
        rw [mhas_keys] at z
        unfold mkeys at z
        rw [hk] at z
        exact absurd z q
    have e1 : msetd m (c x) st.length = m ++ [(c x, st.length)] := by
      unfold msetd
      rw [if_neg (by rw [hm]; decide), mput_new hm]
    rw [e1]
    have hg : mget (m ++ [(c x, st.length)]) (c x) = some st.length := by
      have : mget m (c x) = none := by
        have := mhas_mget m (c x)
        rw [hm] at this
        cases z : mget m (c x) with
        | none => rfl
        | some v => rw [z] at this; cases this
      rw [mget_append, this, mget_cons, if_pos rfl]
      rfl
    refine po_mgetE hg ?_
    refine po_getS (xs := []) (by show (st ++ [[]])[st.length]? = _; rw [List.getElem?_append_right (Nat.le_refl _)]; simp) ?_
    refine po_app (by decide) (po_setS ?_)
    have ek : keysG c (pre ++ [x]) = keysG c pre ++ [c x] := by
      rw [keysG_snoc]
      unfold kstep
      rw [if_neg q]
    have hf0 : (pre.filter fun u => decide (c u = c x)) = [] := by
      rw [List.filter_eq_nil_iff]
      intro t ht e
      exact q (keysG_mem.mpr ⟨t, ht, of_decide_eq_true e⟩)
    have er : rowsG c (keysG c pre ++ [c x]) (pre ++ [x]) = rowsG c (keysG c pre) pre ++ [[x]] := by
      have hn : (keysG c pre ++ [c x]).Nodup := by rw [← ek]; exact keysG_nodup
      have hj : (keysG c pre ++ [c x])[(keysG c pre).length]? = some (c x) := by
        rw [List.getElem?_append_right (Nat.le_refl _)]
        simp
      rw [← rowsG_set hn hj, rowsG_new q, hf0]
      have hl2 : (rowsG c (keysG c pre) pre).length = (keysG c pre).length := by unfold rowsG; rw [List.length_map]
      rw [← hl2, List.set_append_right _ _ (Nat.le_refl _)]
      simp
    rw [ek, er]
    refine ⟨?_, ?_, ?_⟩
    · show (m ++ [(c x, st.length)]).map (·.1) = _
      rw [List.map_append, hk]
      rfl
    · show ((m ++ [(c x, st.length)]).map (·.2)).Nodup
      rw [List.map_append, List.nodup_append]
      refine ⟨hd, by simp, fun a ha b hb e => ?_⟩
      obtain ⟨p, hp, rfl⟩ := List.mem_map.mp ha
      have hb' : b = st.length := by simpa using hb
      have hpl : p.2 < st.length := h.lt hp
      omega
    · show (m ++ [(c x, st.length)]).map (fun p => ((st ++ [[]]).set st.length ([] ++ [x]))[p.2]?) = _
      have es : (st ++ [[]]).set st.length ([] ++ [x]) = st ++ [[x]] := by
        rw [List.set_append_right _ _ (Nat.le_refl _)]
        simp
      rw [es, List.map_append, List.map_append, ← hv]
      congr 1
      · refine List.map_congr_left fun p hp => ?_
        rw [List.getElem?_append_left (h.lt hp)]
      · show [(st ++ [[x]])[st.length]?] = _
        rw [List.getElem?_append_right (Nat.le_refl _)]
        simp
theorem all_fars_ok {n : Int} {ts : List (Int × Int)} (h : WebOk n ts) : all_fars (n, ⟨ts⟩) = R.ok (tabL n ts) := by
  have hn1 := h.n1
  have hn := h.n60
  refine po_iff ?_
  unfold all_fars
  refine po_rng (by decide) (by decide) (by show -(2 ^ 62) ≤ n; omega) (by show n < 2 ^ 62; omega) ?_
  refine po_mapGE (g := fun p => (rng 0 n).map (dst n ts p)) (by show (rng 0 n).length < 100000; rw [rng_length]; omega) (fun p hp => ?_) rfl
  rw [fars_ok h (rng_mem.mp hp).1 (rng_mem.mp hp).2]
  rfl
theorem far_thing_ok {n p : Int} {ts : List (Int × Int)} {t : Thing} (h : WebOk n ts) (p0 : 0 ≤ p) (p1 : p < n) (ht : ThOk n ts t) : far_thing (tabL n ts) p t = R.ok (farT n ts p t) := by
  unfold far_thing
  cases t with
  | pl i =>
    show (asPl (.pl i) >>= _) = _
    rw [show asPl (.pl i) = R.ok i from rfl, ok_bind, tab_get p0 p1, ok_bind, row_get ht.1 ht.2]
    rfl
  | ti a b =>
    have hr := h.rg4 _ (show (a, b) ∈ ts from ht)
    show (asTi (.ti a b) >>= _) = _
    rw [show asTi (.ti a b) = R.ok (a, b) from rfl, ok_bind, tab_get p0 p1, ok_bind, row_get hr.1 hr.2.1, ok_bind, ok_bind, row_get hr.2.2.1 hr.2.2.2]
    rfl
/-- the parts of some things by how far they are, rising -/
def partsG (g : Thing → Int) (l : List Thing) : List (Int × Tup Thing) := (sortI (keysG g l)).map fun a => (a, ⟨l.filter fun t => decide (g t = a)⟩)
theorem parts_by_ok {n p : Int} {ts : List (Int × Int)} {l : List Thing} (h : WebOk n ts) (p0 : 0 ≤ p) (p1 : p < n) (hl : ∀ t ∈ l, ThOk n ts t) (hn : l.length < 1000) : parts_by (tabL n ts) ⟨l⟩ p = R.ok (partsG (farT n ts p) l) := by
  refine po_iff ?_
  unfold parts_by
  refine po_bind (po_foldP (fun pre (g : List (Int × Nat) × List (List Thing)) => GH (keysG (farT n ts p) pre) (rowsG (farT n ts p) (keysG (farT n ts p) pre) pre) g) ⟨rfl, List.Pairwise.nil, rfl⟩ ?_) ?_
  · rintro pre g x post e hg
    have e' : l = pre ++ x :: post := e
    rw [far_thing_ok h p0 p1 (hl x (by rw [e']; simp)), ok_bind]
    exact hg.step (by have := congrArg List.length e'; rw [List.length_append, List.length_cons] at this; omega)
  · rintro g hg
    have hk : g.1.map (·.1) = keysG (farT n ts p) l := hg.ks
    have hv : g.1.map (fun q => g.2[q.2]?) = (rowsG (farT n ts p) (keysG (farT n ts p) l) l).map some := hg.vals
    rw [hk]
    refine po_mapGE (g := fun a => (a, (⟨l.filter fun t => decide (farT n ts p t = a)⟩ : Tup Thing))) ?_ (fun a ha => ?_) rfl
    · rw [(sortI_perm _).length_eq]
      have := keysG_len (c := farT n ts p) (ts := l)
      omega
    · have ha' := (sortI_perm _).mem_iff.mp ha
      have hm : mhas g.1 a = true := by
        rw [mhas_keys]
        unfold mkeys
        rw [hk]
        exact ha'
      obtain ⟨j, v, hj, e⟩ := mget_at hm
      have hkj : (keysG (farT n ts p) l)[j]? = some a := by rw [← hk, List.getElem?_map, hj]; rfl
      have hst : g.2[v]? = some (l.filter fun t => decide (farT n ts p t = a)) := by
        have := congrArg (fun z => z[j]?) hv
        rw [List.getElem?_map, List.getElem?_map, hj, rowsG_get hkj] at this
        simpa using this
      refine po_iff ?_
      refine po_mgetE e (po_getS hst ?_)
      rfl
theorem partsG_mem {g : Thing → Int} {l : List Thing} {q : Int × Tup Thing} : q ∈ partsG g l ↔ (∃ t ∈ l, g t = q.1) ∧ q.2 = ⟨l.filter fun t => decide (g t = q.1)⟩ := by
  unfold partsG
  rw [List.mem_map]
  constructor
  · rintro ⟨a, ha, rfl⟩
    exact ⟨keysG_mem.mp ((sortI_perm _).mem_iff.mp ha), rfl⟩
  · rintro ⟨h1, h2⟩
    exact ⟨q.1, (sortI_perm _).mem_iff.mpr (keysG_mem.mpr h1), by rw [← h2]⟩
theorem partsG_sub {g : Thing → Int} {l : List Thing} {q : Int × Tup Thing} (h : q ∈ partsG g l) : q.2.l.Sublist l := by
  rw [(partsG_mem.mp h).2]
  exact List.filter_sublist
theorem partsG_ne {g : Thing → Int} {l : List Thing} {q : Int × Tup Thing} (h : q ∈ partsG g l) : q.2.l ≠ [] := by
  obtain ⟨⟨t, ht, e⟩, h2⟩ := partsG_mem.mp h
  rw [h2]
  exact List.ne_nil_of_mem (List.mem_filter.mpr ⟨ht, by rw [decide_eq_true_eq]; exact e⟩)
theorem partsG_nodup {g : Thing → Int} {l : List Thing} : ((partsG g l).map (·.1)).Nodup := by
  have e : (partsG g l).map (·.1) = sortI (keysG g l) := by
    unfold partsG
    rw [List.map_map]
    exact List.map_id _
  rw [e]
  exact ((sortI_perm _).nodup_iff).mpr keysG_nodup
theorem partsG_lt {g : Thing → Int} {l : List Thing} {q : Int × Tup Thing} (h1 : 1 < (partsG g l).length) (h : q ∈ partsG g l) : q.2.l.length < l.length := by
  obtain ⟨r, hr, hne⟩ : ∃ r ∈ partsG g l, r.1 ≠ q.1 := by
    have hd := partsG_nodup (g := g) (l := l)
    have h0 : (partsG g l)[0]? = some (partsG g l)[0] := List.getElem?_eq_getElem (by omega)
    have h1' : (partsG g l)[1]? = some (partsG g l)[1] := List.getElem?_eq_getElem h1
    have hd' := List.pairwise_iff_getElem.mp hd 0 1 (by rw [List.length_map]; omega) (by rw [List.length_map]; omega) (by omega)
    rw [List.getElem_map, List.getElem_map] at hd'
    by_cases c : (partsG g l)[0].1 = q.1
    · exact ⟨_, List.getElem_mem h1, fun z => hd' (c.trans z.symm)⟩
    · exact ⟨_, List.getElem_mem (by omega), c⟩
  obtain ⟨⟨t, ht, e⟩, _⟩ := partsG_mem.mp hr
  rw [(partsG_mem.mp h).2]
  refine List.length_filter_lt_length_iff_exists.mpr ⟨t, ht, ?_⟩
  rw [decide_eq_true_eq]
  exact fun z => hne (e.symm.trans z)
theorem partsG_len {g : Thing → Int} {l : List Thing} : (partsG g l).length ≤ l.length := by
  unfold partsG
  rw [List.length_map, (sortI_perm _).length_eq]
  exact keysG_len
def mxI (l : List Int) : Int := l.max?.getD 0
def ndStep (v : List Thing → Int) (f : Int → Thing → Int) (l : List Thing) (s : Int × Option Int) (p : Int) : Int × Option Int :=
  if 1 < (partsG (f p) l).length then
    if 1 + mxI ((partsG (f p) l).map fun q => v q.2.l) < s.1 ∨ s.2 = none then (1 + mxI ((partsG (f p) l).map fun q => v q.2.l), some p) else s
  else s
def ndB (v : List Thing → Int) (f : Int → Thing → Int) (l : List Thing) (ps : List Int) : Int × Option Int := ps.foldl (ndStep v f l) ((l.length : Int), none)
def nd (f : Int → Thing → Int) (n : Int) : Nat → List Thing → Int
  | 0, _ => 0
  | d + 1, l => if 1 < l.length then (ndB (nd f n d) f l (rng 0 n)).1 else 0
theorem ndB_congr {v w : List Thing → Int} {f : Int → Thing → Int} {l : List Thing} (h : ∀ q, q.length < l.length → v q = w q) (ps : List Int) : ndB v f l ps = ndB w f l ps := by
  have e : ndStep v f l = ndStep w f l := by
    funext s p
    unfold ndStep
    by_cases c : 1 < (partsG (f p) l).length
    · rw [if_pos c, if_pos c, List.map_congr_left (l := partsG (f p) l) (f := fun q => v q.2.l) (g := fun q => w q.2.l) fun q hq => h _ (partsG_lt c hq)]
    · rw [if_neg c, if_neg c]
  unfold ndB
  rw [e]
theorem nd_st {f : Int → Thing → Int} {n : Int} : ∀ (d d' : Nat) (l : List Thing), l.length ≤ d → l.length ≤ d' → nd f n d l = nd f n d' l
  | 0, 0, _, _, _ => rfl
  | 0, d' + 1, l, h, _ => by
    show 0 = if 1 < l.length then _ else 0
    rw [if_neg (by omega)]
  | d + 1, 0, l, _, h => by
    show (if 1 < l.length then _ else 0) = 0
    rw [if_neg (by omega)]
  | d + 1, d' + 1, l, h, h' => by
    show (if 1 < l.length then _ else 0) = if 1 < l.length then _ else 0
    rw [ndB_congr fun q hq => nd_st d d' q (by omega) (by omega)]
/-- the fewest asks for some things -/
def ndv (f : Int → Thing → Int) (n : Int) (l : List Thing) : Int := nd f n l.length l
theorem ndv_eq {f : Int → Thing → Int} {n : Int} (l : List Thing) : ndv f n l = if 1 < l.length then (ndB (ndv f n) f l (rng 0 n)).1 else 0 := by
  unfold ndv
  cases e : l.length with
  | zero => rfl
  | succ d =>
    show (if 1 < l.length then _ else 0) = _
    rw [e]
    by_cases c : 1 < d + 1
    · rw [if_pos c, if_pos c]
      rw [ndB_congr (v := nd f n d) (w := fun l => nd f n l.length l) fun q hq => nd_st d q.length q (by omega) (Nat.le_refl _)]
    · rw [if_neg c, if_neg c]
/-- the best place to ask at -/
def ndp (f : Int → Thing → Int) (n : Int) (l : List Thing) : Option Int := (ndB (ndv f n) f l (rng 0 n)).2
def subsL : List Thing → List (List Thing)
  | [] => [[]]
  | x :: l => subsL l ++ (subsL l).map (x :: ·)
theorem subsL_len : ∀ l : List Thing, (subsL l).length = 2 ^ l.length
  | [] => rfl
  | x :: l => by
    show (subsL l ++ (subsL l).map (x :: ·)).length = 2 ^ (l.length + 1)
    rw [List.length_append, List.length_map, subsL_len l, Nat.pow_succ]
    omega
theorem subsL_mem {s l : List Thing} (h : s.Sublist l) : s ∈ subsL l := by
  induction h with
  | slnil => exact List.mem_singleton_self _
  | cons x _ ih => exact List.mem_append_left _ ih
  | cons_cons x _ ih => exact List.mem_append_right _ (List.mem_map.mpr ⟨_, ih, rfl⟩)
theorem keys_sub {ks : List (Tup Thing)} {base : List Thing} (hd : ks.Nodup) (hs : ∀ t ∈ ks, t.l.Sublist base) (hb : base.length ≤ 8) : ks.length ≤ 256 := by
  have h1 : (ks.map (·.l)).Nodup := List.pairwise_map.mpr (hd.imp fun {a b} hne e => hne (by
    cases a
    cases b
    exact congrArg Tup.mk e))
  have h2 := nodup_le h1 (ys := subsL base) fun x hx => by
    obtain ⟨t, ht, rfl⟩ := List.mem_map.mp hx
    exact subsL_mem (hs t ht)
  rw [List.length_map, subsL_len] at h2
  have h3 : 2 ^ base.length ≤ 2 ^ 8 := Nat.pow_le_pow_right (by decide) hb
  have h4 : (2 : Nat) ^ 8 = 256 := by decide
  omega
/-- what is reckoned already is right; P: what is under way -/
structure Memo (f : Int → Thing → Int) (n : Int) (base : List Thing) (P : Tup Thing → Prop) (least best : List (Tup Thing × Int)) : Prop where
  nd1 : (mkeys least).Nodup
  nd2 : (mkeys best).Nodup
  sub1 : ∀ t ∈ mkeys least, t.l.Sublist base
  sub2 : ∀ t ∈ mkeys best, t.l.Sublist base
  val : ∀ t v, mget least t = some v → v = ndv f n t.l
  bst : ∀ t ∈ mkeys least, 1 < t.l.length → mget best t = ndp f n t.l
  cl : ∀ t ∈ mkeys least, ∀ p ∈ rng 0 n, 1 < (partsG (f p) t.l).length → ∀ q ∈ partsG (f p) t.l, q.2 ∈ mkeys least
  new : ∀ t ∈ mkeys best, t ∈ mkeys least ∨ P t
  ne : ∀ t ∈ mkeys least, t.l ≠ []
theorem Memo.weak {f : Int → Thing → Int} {n : Int} {base : List Thing} {P Q : Tup Thing → Prop} {least best : List (Tup Thing × Int)} (m : Memo f n base P least best) (h : ∀ t, P t → Q t) : Memo f n base Q least best :=
  ⟨m.nd1, m.nd2, m.sub1, m.sub2, m.val, m.bst, m.cl, fun t ht => (m.new t ht).imp id (h t), m.ne⟩
theorem Memo.lenL {f : Int → Thing → Int} {n : Int} {base : List Thing} {P : Tup Thing → Prop} {least best : List (Tup Thing × Int)} (m : Memo f n base P least best) (hb : base.length ≤ 8) : least.length < 100000 := by
  have := keys_sub m.nd1 m.sub1 hb
  rw [mkeys_length] at this
  omega
theorem Memo.lenB {f : Int → Thing → Int} {n : Int} {base : List Thing} {P : Tup Thing → Prop} {least best : List (Tup Thing × Int)} (m : Memo f n base P least best) (hb : base.length ≤ 8) : best.length < 100000 := by
  have := keys_sub m.nd2 m.sub2 hb
  rw [mkeys_length] at this
  omega
theorem mkeys_put_mem {m : List (Tup Thing × Int)} {k j : Tup Thing} {v : Int} : j ∈ mkeys (mput m k v) ↔ j ∈ mkeys m ∨ j = k := by
  rw [mget_keys, mget_keys]
  constructor
  · rintro ⟨u, hu⟩
    rw [mget_mput] at hu
    by_cases c : j = k
    · exact .inr c
    · rw [if_neg c] at hu
      exact .inl ⟨u, hu⟩
  · intro hj
    by_cases c : j = k
    · exact ⟨v, by rw [mget_mput, if_pos c]⟩
    · rcases hj with ⟨u, hu⟩ | e
      · exact ⟨u, by rw [mget_mput, if_neg c]; exact hu⟩
      · exact absurd e c
/-- a best place is put for what is under way -/
theorem Memo.putB {f : Int → Thing → Int} {n : Int} {base : List Thing} {P : Tup Thing → Prop} {least best : List (Tup Thing × Int)} (m : Memo f n base P least best) {k : Tup Thing} {v : Int} (hk : k.l.Sublist base) (hP : P k) (hn : k ∉ mkeys least) : Memo f n base P least (mput best k v) :=
  ⟨m.nd1, mkeys_nodup m.nd2, m.sub1, fun t ht => (mkeys_put_mem.mp ht).elim (m.sub2 t) (fun e => e ▸ hk), m.val, fun t ht h1 => by
    rw [mget_mput, if_neg (fun e : t = k => hn (e ▸ ht))]
    exact m.bst t ht h1, m.cl, fun t ht => (mkeys_put_mem.mp ht).elim (m.new t) (fun e => .inr (e ▸ hP)), m.ne⟩
/-- what was under way is done -/
theorem Memo.putL {f : Int → Thing → Int} {n : Int} {base : List Thing} {P : Tup Thing → Prop} {least best : List (Tup Thing × Int)} {k : Tup Thing} (m : Memo f n base (fun t => P t ∨ t = k) least best) (hk : k.l.Sublist base) (hne : k.l ≠ [])
    (hb : 1 < k.l.length → mget best k = ndp f n k.l) (hc : ∀ p ∈ rng 0 n, 1 < (partsG (f p) k.l).length → ∀ q ∈ partsG (f p) k.l, q.2 ∈ mkeys least) : Memo f n base P (mput least k (ndv f n k.l)) best :=
  ⟨mkeys_nodup m.nd1, m.nd2, fun t ht => (mkeys_put_mem.mp ht).elim (m.sub1 t) (fun e => e ▸ hk), m.sub2, fun t v hv => by
    rw [mget_mput] at hv
    by_cases c : t = k
    · rw [if_pos c] at hv
      rw [c]
      exact (Option.some.inj hv).symm
    · rw [if_neg c] at hv
      exact m.val t v hv, fun t ht h1 => by
    rcases mkeys_put_mem.mp ht with h | e
    · exact m.bst t h h1
    · subst e
      exact hb h1, fun t ht p hp h1 q hq => by
    refine mkeys_put_mem.mpr (.inl ?_)
    rcases mkeys_put_mem.mp ht with h | e
    · exact m.cl t h p hp h1 q hq
    · subst e
      exact hc p hp h1 q hq, fun t ht => by
    rcases m.new t ht with h | h | h
    · exact .inl (mkeys_put_mem.mpr (.inl h))
    · exact .inr h
    · exact .inl (mkeys_put_mem.mpr (.inr h)), fun t ht => (mkeys_put_mem.mp ht).elim (m.ne t) (fun e => e ▸ hne)⟩
theorem maxL_mx {l : List Int} (h : l ≠ []) : maxL l = R.ok (mxI l) := by
  obtain ⟨m, em⟩ : ∃ m, l.max? = some m := Option.isSome_iff_exists.mp (by rw [List.isSome_max?_iff]; exact h)
  unfold maxL mxI
  rw [em]
  rfl
theorem ndB_snoc {v : List Thing → Int} {f : Int → Thing → Int} {l : List Thing} {ps : List Int} {p : Int} : ndB v f l (ps ++ [p]) = ndStep v f l (ndB v f l ps) p := by
  unfold ndB
  rw [List.foldl_append]
  rfl
theorem ndStep_no {v : List Thing → Int} {f : Int → Thing → Int} {l : List Thing} {s : Int × Option Int} {p : Int} (h : ¬1 < (partsG (f p) l).length) : ndStep v f l s p = s := by
  unfold ndStep
  rw [if_neg h]
theorem ndStep_yes {v : List Thing → Int} {f : Int → Thing → Int} {l : List Thing} {s : Int × Option Int} {p : Int} (h : 1 < (partsG (f p) l).length) : ndStep v f l s p = if 1 + mxI ((partsG (f p) l).map fun q => v q.2.l) < s.1 ∨ s.2 = none then (1 + mxI ((partsG (f p) l).map fun q => v q.2.l), some p) else s := by
  unfold ndStep
  rw [if_pos h]
theorem tabL_len {n : Int} {ts : List (Int × Int)} (n0 : 0 ≤ n) : ((tabL n ts).length : Int) = n := by
  unfold tabL
  rw [List.length_map, rng_length]
  omega
structure NeedOk (f : Int → Thing → Int) (n : Int) (base : List Thing) (P : Tup Thing → Prop) (l : List Thing) (least best : List (Tup Thing × Int)) (r : Int × List (Tup Thing × Int) × List (Tup Thing × Int)) : Prop where
  val : r.1 = ndv f n l
  memo : Memo f n base P r.2.1 r.2.2
  mem : (⟨l⟩ : Tup Thing) ∈ mkeys r.2.1
  keep : ∀ t ∈ mkeys least, t ∈ mkeys r.2.1
  way : ∀ t, P t → (t ∈ mkeys r.2.1 → t ∈ mkeys least) ∧ mget r.2.2 t = mget best t
theorem need_ok {n : Int} {ts : List (Int × Int)} {base : List Thing} (h : WebOk n ts) (hb : base.length ≤ 8) (hbt : ∀ t ∈ base, ThOk n ts t) : ∀ (d : Nat) (l : List Thing) (P : Tup Thing → Prop) (least best : List (Tup Thing × Int)), l.length ≤ d → l ≠ [] → l.Sublist base → Memo (farT n ts) n base P least best → (∀ t, P t → l.length < t.l.length) →
    Post (Asking_need d (tabL n ts, least, best, ()) ⟨l⟩) (NeedOk (farT n ts) n base P l least best) noX
  | 0, l, _, _, _, hd, hne, _, _, _ => absurd (List.eq_nil_of_length_eq_zero (by omega)) hne
  | d + 1, l, P, least, best, hd, hne, hs, m, hP => by
    have hn1 := h.n1
    have hn := h.n60
    have hll : l.length ≤ 8 := Nat.le_trans hs.length_le hb
    show Post (Asking_need_b (Asking_need d) (tabL n ts, least, best, ()) ⟨l⟩) _ _
    unfold Asking_need_b
    dsimp only
    by_cases c : mhas least (⟨l⟩ : Tup Thing) = true
    · rw [if_pos c]
      have hk := mhas_keys.mp c
      obtain ⟨v, hv⟩ := mget_keys.mp hk
      refine po_mgetE hv ?_
      exact ⟨m.val _ _ hv, m, hk, fun _ z => z, fun t _ => ⟨fun z => z, rfl⟩⟩
    · rw [if_neg c]
      have hk : (⟨l⟩ : Tup Thing) ∉ mkeys least := fun z => c (mhas_keys.mpr z)
      have hPl : ¬P ⟨l⟩ := fun z => Nat.lt_irrefl _ (hP _ z)
      have hbn : mget best (⟨l⟩ : Tup Thing) = none := by
        cases e : mget best (⟨l⟩ : Tup Thing) with
        | none => rfl
        | some v => exact ((m.new _ (mget_keys.mpr ⟨v, e⟩)).elim hk hPl).elim
      have m' : Memo (farT n ts) n base (fun t => P t ∨ t = ⟨l⟩) least best := m.weak fun t z => .inl z
      refine po_bind (Q := fun (g9 : Int × List (Tup Thing × Int) × List (Tup Thing × Int)) => g9.1 = ndv (farT n ts) n l ∧ Memo (farT n ts) n base (fun t => P t ∨ t = ⟨l⟩) g9.2.1 g9.2.2 ∧ (∀ t ∈ mkeys least, t ∈ mkeys g9.2.1) ∧ (∀ t, P t → (t ∈ mkeys g9.2.1 → t ∈ mkeys least) ∧ mget g9.2.2 t = mget best t) ∧
        (1 < l.length → mget g9.2.2 (⟨l⟩ : Tup Thing) = ndp (farT n ts) n l) ∧ (∀ p ∈ rng 0 n, 1 < (partsG (farT n ts p) l).length → ∀ q ∈ partsG (farT n ts p) l, q.2 ∈ mkeys g9.2.1)) ?_ ?_
      · by_cases c1 : 1 < l.length
        · rw [if_pos (decide_eq_true (by omega : (1 : Int) < (l.length : Int)))]
          rw [tabL_len (by omega)]
          refine po_rng (by decide) (by decide) (by show -(2 ^ 62) ≤ n; omega) (by show n < 2 ^ 62; omega) ?_
          refine po_bind (po_foldP (fun pre (g : Int × List (Tup Thing × Int) × List (Tup Thing × Int)) => g.1 = (ndB (ndv (farT n ts) n) (farT n ts) l pre).1 ∧ mget g.2.2 (⟨l⟩ : Tup Thing) = (ndB (ndv (farT n ts) n) (farT n ts) l pre).2 ∧
            Memo (farT n ts) n base (fun t => P t ∨ t = ⟨l⟩) g.2.1 g.2.2 ∧ (⟨l⟩ : Tup Thing) ∉ mkeys g.2.1 ∧ (∀ t ∈ mkeys least, t ∈ mkeys g.2.1) ∧ (∀ t, P t → (t ∈ mkeys g.2.1 → t ∈ mkeys least) ∧ mget g.2.2 t = mget best t) ∧
            (∀ p ∈ pre, 1 < (partsG (farT n ts p) l).length → ∀ q ∈ partsG (farT n ts p) l, q.2 ∈ mkeys g.2.1)) ⟨rfl, hbn, m', hk, fun _ z => z, fun t _ => ⟨fun z => z, rfl⟩, fun p z => nomatch z⟩ ?_) ?_
          · rintro pre g x post e ⟨i1, i2, i3, i4, i5, i6, i7⟩
            have hx : x ∈ rng 0 n := by rw [e]; simp
            obtain ⟨x0, x1⟩ := rng_mem.mp hx
            rw [parts_by_ok h x0 x1 (fun t ht => hbt t (hs.subset ht)) (by omega), ok_bind, ndB_snoc]
            by_cases c2 : 1 < (partsG (farT n ts x) l).length
            · rw [if_pos (decide_eq_true (by omega : (1 : Int) < ((partsG (farT n ts x) l).length : Int)))]
              rw [ndStep_yes c2]
              have hpl : (partsG (farT n ts x) l).length < 100000 := by
                unfold partsG
                rw [List.length_map, (sortI_perm _).length_eq]
                have := keysG_len (c := farT n ts x) (ts := l)
                omega
              refine po_bind (po_mapStA (fun (p2 : List (Int × Tup Thing)) (acc : List Int) (s : List (Tup Thing × Int) × List (Tup Thing × Int)) => acc = p2.map (fun q => ndv (farT n ts) n q.2.l) ∧ Memo (farT n ts) n base (fun t => P t ∨ t = ⟨l⟩) s.1 s.2 ∧
                (∀ t ∈ mkeys g.2.1, t ∈ mkeys s.1) ∧ (∀ t, (P t ∨ t = ⟨l⟩) → (t ∈ mkeys s.1 → t ∈ mkeys g.2.1) ∧ mget s.2 t = mget g.2.2 t) ∧ ∀ q ∈ p2, q.2 ∈ mkeys s.1) hpl ⟨rfl, i3, fun _ z => z, fun t _ => ⟨fun z => z, rfl⟩, fun _ z => nomatch z⟩ ?_) ?_
              · rintro p2 acc s q post2 e2 ⟨j1, j2, j3, j4, j5⟩
                have hq : q ∈ partsG (farT n ts x) l := by rw [e2]; simp
                have hlt := partsG_lt c2 hq
                refine po_bind (need_ok h hb hbt d q.2.l (fun t => P t ∨ t = ⟨l⟩) s.1 s.2 (by omega) (partsG_ne hq) ((partsG_sub hq).trans hs) j2 (fun t z => z.elim (fun z => Nat.lt_trans hlt (hP t z)) (fun z => by rw [z]; exact hlt))) fun r hr => ?_
                refine ⟨?_, hr.memo, fun t z => hr.keep t (j3 t z), fun t z => ⟨fun y => (j4 t z).1 ((hr.way t z).1 y), (hr.way t z).2.trans (j4 t z).2⟩, fun q' hq' => ?_⟩
                · rw [j1, hr.val, List.map_append]
                  rfl
                · rcases List.mem_append.mp hq' with z | z
                  · exact hr.keep _ (j5 q' z)
                  · rw [List.mem_singleton.mp z]
                    exact hr.mem
              · rintro y ⟨j1, j2, j3, j4, j5⟩
                have hne2 : y.1 ≠ [] := by
                  rw [j1]
                  intro z
                  have := congrArg List.length z
                  rw [List.length_map, List.length_nil] at this
                  omega
                rw [maxL_mx hne2, ok_bind, j1]
                have hl' : (⟨l⟩ : Tup Thing) ∉ mkeys y.2.1 := fun z => i4 ((j4 _ (.inr rfl)).1 z)
                have all : ∀ p ∈ pre ++ [x], 1 < (partsG (farT n ts p) l).length → ∀ q ∈ partsG (farT n ts p) l, q.2 ∈ mkeys y.2.1 := fun p z w q hq => by
                  rcases List.mem_append.mp z with z | z
                  · exact j3 _ (i7 p z w q hq)
                  · rw [List.mem_singleton.mp z] at hq
                    exact j5 q hq
                have e6 : mhas y.2.2 (⟨l⟩ : Tup Thing) = (ndB (ndv (farT n ts) n) (farT n ts) l pre).2.isSome := by
                  rw [mhas_mget, (j4 _ (.inr rfl)).2, i2]
                by_cases c3 : 1 + mxI ((partsG (farT n ts x) l).map fun q => ndv (farT n ts) n q.2.l) < (ndB (ndv (farT n ts) n) (farT n ts) l pre).1 ∨ (ndB (ndv (farT n ts) n) (farT n ts) l pre).2 = none
                · rw [if_pos c3]
                  rw [if_pos (by
                    rw [e6, i1, Bool.or_eq_true, decide_eq_true_eq]
                    rcases c3 with z | z
                    · exact .inl z
                    · exact .inr (by rw [z]; rfl))]
                  refine po_mput (j2.lenB hb) ?_
                  refine ⟨rfl, by rw [mget_mput, if_pos rfl], j2.putB hs (.inr rfl) hl', hl', fun t z => j3 t (i5 t z), fun t z => ⟨fun u => (i6 t z).1 ((j4 t (.inl z)).1 u), ?_⟩, fun p z w q hq => ?_⟩
                  · rw [mget_mput, if_neg (fun u : t = ⟨l⟩ => hPl (u ▸ z)), (j4 t (.inl z)).2, (i6 t z).2]
                  · exact all p z w q hq
                · rw [if_neg c3]
                  rw [if_neg (by
                    rw [e6, i1, Bool.or_eq_true, decide_eq_true_eq]
                    rintro (z | z)
                    · exact c3 (.inl z)
                    · refine c3 (.inr ?_)
                      cases w : (ndB (ndv (farT n ts) n) (farT n ts) l pre).2 with
                      | none => rfl
                      | some u => rw [w] at z; cases z)]
                  exact ⟨i1, (j4 _ (.inr rfl)).2.trans i2, j2, hl', fun t z => j3 t (i5 t z), fun t z => ⟨fun u => (i6 t z).1 ((j4 t (.inl z)).1 u), (j4 t (.inl z)).2.trans (i6 t z).2⟩, all⟩
            · rw [if_neg (by rw [decide_eq_true_eq]; omega)]
              rw [ndStep_no c2]
              exact ⟨i1, i2, i3, i4, i5, i6, fun p z w q hq => by
                rcases List.mem_append.mp z with z | z
                · exact i7 p z w q hq
                · rw [List.mem_singleton.mp z] at w
                  exact absurd w c2⟩
          · rintro g ⟨i1, i2, i3, i4, i5, i6, i7⟩
            refine ⟨?_, i3, i5, i6, fun _ => i2, i7⟩
            rw [ndv_eq, if_pos c1]
            exact i1
        · rw [if_neg (by rw [decide_eq_true_eq]; omega)]
          refine ⟨?_, m', fun _ z => z, fun t _ => ⟨fun z => z, rfl⟩, fun z => absurd z c1, fun p _ w q hq => absurd (Nat.le_trans w partsG_len) c1⟩
          rw [ndv_eq, if_neg c1]
      · rintro g ⟨i1, i2, i3, i4, i5, i6⟩
        refine po_mput (i2.lenL hb) ?_
        rw [i1]
        refine ⟨rfl, i2.putL (k := ⟨l⟩) hs hne i5 i6, mkeys_put_mem.mpr (.inr rfl), fun t z => mkeys_put_mem.mpr (.inl (i3 t z)), fun t z => ⟨fun y => ?_, (i4 t z).2⟩⟩
        rcases mkeys_put_mem.mp y with y | y
        · exact (i4 t z).1 y
        · exact absurd (y ▸ z) hPl
theorem ndB_inv {v : List Thing → Int} {f : Int → Thing → Int} {l : List Thing} (ps : List Int) : ((ndB v f l ps).2 = none → ∀ p ∈ ps, ¬1 < (partsG (f p) l).length) ∧ (∀ p, (ndB v f l ps).2 = some p → p ∈ ps ∧ 1 < (partsG (f p) l).length ∧ (ndB v f l ps).1 = 1 + mxI ((partsG (f p) l).map fun q => v q.2.l) ∧
    ∀ p' ∈ ps, 1 < (partsG (f p') l).length → (ndB v f l ps).1 ≤ 1 + mxI ((partsG (f p') l).map fun q => v q.2.l)) := by
  induction ps using snoc_ind with
  | h0 => exact ⟨fun _ _ z => (nomatch z), fun p z => (by cases z)⟩
  | hs ps x ih =>
    rw [ndB_snoc]
    obtain ⟨h1, h2⟩ := ih
    by_cases c : 1 < (partsG (f x) l).length
    · rw [ndStep_yes c]
      by_cases c3 : 1 + mxI ((partsG (f x) l).map fun q => v q.2.l) < (ndB v f l ps).1 ∨ (ndB v f l ps).2 = none
      · rw [if_pos c3]
        refine ⟨fun z => (by cases z), fun p z => ?_⟩
        obtain rfl : x = p := Option.some.inj z
        refine ⟨by simp, c, rfl, fun p' hp' c' => ?_⟩
        show 1 + mxI ((partsG (f x) l).map fun q => v q.2.l) ≤ _
        rcases List.mem_append.mp hp' with y | y
        · cases e : (ndB v f l ps).2 with
          | none => exact absurd c' (h1 e p' y)
          | some p0 =>
            have := (h2 p0 e).2.2.2 p' y c'
            rcases c3 with w | w
            · omega
            · rw [e] at w
              cases w
        · rw [List.mem_singleton.mp y]
          exact Int.le_refl _
      · rw [if_neg c3]
        refine ⟨fun z => absurd (.inr z) c3, fun p z => ?_⟩
        obtain ⟨a1, a2, a3, a4⟩ := h2 p z
        refine ⟨List.mem_append_left _ a1, a2, a3, fun p' hp' c' => ?_⟩
        rcases List.mem_append.mp hp' with y | y
        · exact a4 p' y c'
        · rw [List.mem_singleton.mp y]
          exact Int.not_lt.mp fun w => c3 (.inl w)
    · rw [ndStep_no c]
      refine ⟨fun z p hp => ?_, fun p z => ?_⟩
      · rcases List.mem_append.mp hp with y | y
        · exact h1 z p y
        · rw [List.mem_singleton.mp y]
          exact c
      · obtain ⟨a1, a2, a3, a4⟩ := h2 p z
        refine ⟨List.mem_append_left _ a1, a2, a3, fun p' hp' c' => ?_⟩
        rcases List.mem_append.mp hp' with y | y
        · exact a4 p' y c'
        · rw [List.mem_singleton.mp y] at c'
          exact absurd c' c
theorem mxI_mem {l : List Int} (h : l ≠ []) : mxI l ∈ l ∧ ∀ x ∈ l, x ≤ mxI l := by
  obtain ⟨m, em⟩ : ∃ m, l.max? = some m := Option.isSome_iff_exists.mp (by rw [List.isSome_max?_iff]; exact h)
  obtain ⟨h1, h2⟩ := List.max?_eq_some_iff.mp em
  unfold mxI
  rw [em]
  exact ⟨h1, h2⟩
/-- things that some place parts, part by part -/
def Sep (f : Int → Thing → Int) (n : Int) (l : List Thing) : Prop := ∀ x ∈ l, ∀ y ∈ l, x ≠ y → ∃ p ∈ rng 0 n, f p x ≠ f p y
theorem split_of {g : Thing → Int} {l : List Thing} {x y : Thing} (hx : x ∈ l) (hy : y ∈ l) (h : g x ≠ g y) : 1 < (partsG g l).length := by
  have e : (partsG g l).length = (keysG g l).length := by
    unfold partsG
    rw [List.length_map, (sortI_perm _).length_eq]
  rw [e]
  have h1 : g x ∈ keysG g l := keysG_mem.mpr ⟨x, hx, rfl⟩
  have h2 : g y ∈ keysG g l := keysG_mem.mpr ⟨y, hy, rfl⟩
  match hk : keysG g l, h1, h2 with
  | [], h1, _ => cases h1
  | [a], h1, h2 =>
    rw [List.mem_singleton] at h1 h2
    exact absurd (h1.trans h2.symm) h
  | _ :: _ :: _, _, _ => exact Nat.lt_of_lt_of_le (by decide : 1 < 2) (by rw [List.length_cons, List.length_cons]; omega)
theorem Sep.sub {f : Int → Thing → Int} {n : Int} {l l' : List Thing} (h : Sep f n l) (hs : ∀ x ∈ l', x ∈ l) : Sep f n l' := fun x hx y hy => h x (hs x hx) y (hs y hy)
theorem Sep.ndp {f : Int → Thing → Int} {n : Int} {l : List Thing} (h : Sep f n l) (hd : l.Nodup) (h1 : 1 < l.length) : ∃ p, ndp f n l = some p ∧ p ∈ rng 0 n ∧ 1 < (partsG (f p) l).length ∧ ndv f n l = 1 + mxI ((partsG (f p) l).map fun q => ndv f n q.2.l) ∧
    ∀ p' ∈ rng 0 n, 1 < (partsG (f p') l).length → ndv f n l ≤ 1 + mxI ((partsG (f p') l).map fun q => ndv f n q.2.l) := by
  obtain ⟨a1, a2⟩ := ndB_inv (v := ndv f n) (f := f) (l := l) (rng 0 n)
  have e : ndv f n l = (ndB (ndv f n) f l (rng 0 n)).1 := by rw [ndv_eq, if_pos h1]
  cases c : (ndB (ndv f n) f l (rng 0 n)).2 with
  | none =>
    match l, hd, h1 with
    | x :: y :: l, hd, _ =>
      have hne : x ≠ y := fun z => by
        rw [List.nodup_cons] at hd
        exact hd.1 (z ▸ List.mem_cons_self)
      obtain ⟨p, hp, hf⟩ := h x (by simp) y (by simp) hne
      exact absurd (split_of (by simp) (by simp) hf) (a1 c p hp)
    | [], _, h1 => exact absurd h1 (Nat.not_lt_zero 1)
    | [_], _, h1 => exact absurd h1 (Nat.lt_irrefl 1)
  | some p =>
    obtain ⟨b1, b2, b3, b4⟩ := a2 p c
    rw [e]
    exact ⟨p, c, b1, b2, b3, b4⟩
def planG (f : Int → Thing → Int) (n : Int) : Nat → List Thing → Pl
  | 0, l => .is (l.headD (.pl 0))
  | d + 1, l => if l.length = 1 then .is (l.headD (.pl 0)) else .ask ((ndp f n l).getD 0) ((partsG (f ((ndp f n l).getD 0)) l).map fun q => (q.1, planG f n d q.2.l))
theorem plan_ok {n : Int} {ts : List (Int × Int)} {base : List Thing} {least best : List (Tup Thing × Int)} {P : Tup Thing → Prop} (h : WebOk n ts) (hb : base.length ≤ 8) (hbt : ∀ t ∈ base, ThOk n ts t) (hnd : base.Nodup) (hsep : Sep (farT n ts) n base) (m : Memo (farT n ts) n base P least best) :
    ∀ (d : Nat) (l : List Thing), l.length ≤ d → l ≠ [] → l.Sublist base → (⟨l⟩ : Tup Thing) ∈ mkeys least → Asking_plan d (tabL n ts, least, best, ()) ⟨l⟩ = R.ok (planG (farT n ts) n d l)
  | 0, l, hd, hne, _, _ => absurd (List.eq_nil_of_length_eq_zero (by omega)) hne
  | d + 1, l, hd, hne, hs, hm => by
    have hll : l.length ≤ 8 := Nat.le_trans hs.length_le hb
    show Asking_plan_b (Asking_plan d) (tabL n ts, least, best, ()) ⟨l⟩ = R.ok (if l.length = 1 then _ else _)
    unfold Asking_plan_b
    dsimp only
    by_cases c : l.length = 1
    · rw [if_pos (decide_eq_true (by omega)), if_pos c]
      match l, c with
      | [t], _ => rfl
    · have h1 : 1 < l.length := by
        have := List.length_pos_iff.mpr hne
        omega
      rw [if_neg (by rw [decide_eq_true_eq]; omega), if_neg c]
      obtain ⟨p, hp, hpr, hsp, _, _⟩ := (hsep.sub fun x hx => hs.subset hx).ndp (hnd.sublist hs) h1
      obtain ⟨p0, p1⟩ := rng_mem.mp hpr
      have e := m.bst _ hm h1
      rw [hp] at e ⊢
      show (mgetR best (⟨l⟩ : Tup Thing) >>= _) = R.ok (Pl.ask p ((partsG (farT n ts p) l).map fun q => (q.1, planG (farT n ts) n d q.2.l)))
      refine po_iff (po_mgetE e ?_)
      rw [parts_by_ok h p0 p1 (fun t ht => hbt t (hs.subset ht)) (by omega), ok_bind]
      have hpl := partsG_len (g := farT n ts p) (l := l)
      refine po_mapGE (g := fun (q : Int × Tup Thing) => (q.1, planG (farT n ts) n d q.2.l)) (by omega) (fun q hq => ?_) rfl
      have hlt := partsG_lt hsp hq
      show (Asking_plan d (tabL n ts, least, best, ()) q.2 >>= _) = _
      rw [show q.2 = (⟨q.2.l⟩ : Tup Thing) from rfl, plan_ok h hb hbt hnd hsep m d q.2.l (by omega) (partsG_ne hq) ((partsG_sub hq).trans hs) (m.cl _ hm p hpr hsp q hq)]
      rfl
theorem ndv_one {f : Int → Thing → Int} {n : Int} {l : List Thing} (h : ¬1 < l.length) : ndv f n l = 0 := by rw [ndv_eq, if_neg h]
theorem asks_is (rc : List (List Int) → Tup Thing → Pl → R (Option Int)) (F : List (List Int)) (t : Thing) : asks_of_b rc F ⟨[t]⟩ (.is t) = R.ok (some 0) := by
  unfold asks_of_b
  have e1 : decide (((Pl.is t).lenN : Int) = 2) = true := decide_eq_true (by rfl)
  have e2 : decide ((Pl.is t).w = ("is" : Str)) = true := decide_eq_true (by rfl)
  rw [e1, if_pos rfl, e2, ok_bind, if_pos rfl, show asIs (.is t) = R.ok t from rfl, ok_bind, decide_eq_true rfl]
  rfl
theorem asks_ask (rc : List (List Int) → Tup Thing → Pl → R (Option Int)) (F : List (List Int)) (l : Tup Thing) (p : Int) (L : List (Int × Pl)) : asks_of_b rc F l (.ask p L) = plan_of_parts rc F l (.ask p L) := by
  unfold asks_of_b
  have e1 : decide (((Pl.ask p L).lenN : Int) = 2) = false := decide_eq_false (by show ¬((3 : Int) = 2); decide)
  have e2 : decide (((Pl.ask p L).lenN : Int) = 3) = true := decide_eq_true (by rfl)
  have e3 : decide ((Pl.ask p L).w = ("ask" : Str)) = true := decide_eq_true (by rfl)
  have n1 : ¬(false = true) := by decide
  rw [e1, if_neg n1, ok_bind, if_neg n1, e2, if_pos rfl, e3, ok_bind, if_pos rfl, show asAsk (.ask p L) = R.ok (p, L) from rfl, ok_bind]
  cases plan_of_parts rc F l (.ask p L) <;> rfl
theorem kindT_nodup {n : Int} {ts : List (Int × Int)} {k : Str} (h : WebOk n ts) : (kindT n ts k).Nodup := by
  have h1 : (mkpl (rng 0 n)).Nodup := by
    unfold mkpl
    refine List.Pairwise.map _ (fun a b (e : a ≠ b) q => e ?_) (rng_nodup 0 n)
    injection q
  have h2 : (mkti ts).Nodup := by
    unfold mkti
    refine List.Pairwise.map _ (fun a b (e : a ≠ b) q => e ?_) h.nd
    injection q with q1 q2
    exact Prod.ext q1 q2
  unfold kindT
  split
  · exact h1
  · split
    · exact h2
    · unfold allT
      rw [List.nodup_append]
      refine ⟨h1, h2, fun a ha b hb e => ?_⟩
      obtain ⟨i, rfl, _⟩ := pl_mem.mp ha
      obtain ⟨c, d, rfl, _⟩ := ti_mem.mp hb
      cases e
def touch (p : Int) : Thing → Prop
  | .pl i => i = p
  | .ti a b => a = p ∨ b = p
theorem far_zero {n p : Int} {ts : List (Int × Int)} {t : Thing} (h : WebOk n ts) (p0 : 0 ≤ p) (p1 : p < n) (ht : ThOk n ts t) : farT n ts p t = 0 ↔ touch p t := by
  cases t with
  | pl i => exact dst_zero h p0 p1 ht.1 ht.2
  | ti a b =>
    have hr := h.rg4 _ (show (a, b) ∈ ts from ht)
    have za := dst_zero h p0 p1 hr.1 hr.2.1
    have zb := dst_zero h p0 p1 hr.2.2.1 hr.2.2.2
    have na := dst_nn h p0 p1 hr.1 hr.2.1
    have nb := dst_nn h p0 p1 hr.2.2.1 hr.2.2.2
    dsimp only at za zb na nb
    show min2 (dst n ts p a) (dst n ts p b) = 0 ↔ a = p ∨ b = p
    rw [← za, ← zb]
    show (if dst n ts p b < dst n ts p a then dst n ts p b else dst n ts p a) = 0 ↔ _
    by_cases c : dst n ts p b < dst n ts p a
    · rw [if_pos c]
      omega
    · rw [if_neg c]
      omega
theorem sep_all {n : Int} {ts : List (Int × Int)} (h : WebOk n ts) {l : List Thing} (hl : ∀ t ∈ l, ThOk n ts t) : Sep (farT n ts) n l := by
  intro X hX Y hY hne
  have oX := hl X hX
  have oY := hl Y hY
  have go : ∀ p, 0 ≤ p → p < n → ¬(touch p X ↔ touch p Y) → ∃ p ∈ rng 0 n, farT n ts p X ≠ farT n ts p Y := fun p p0 p1 hn => ⟨p, rng_mem.mpr ⟨p0, p1⟩, fun e => hn (by rw [← far_zero h p0 p1 oX, ← far_zero h p0 p1 oY, e])⟩
  cases X with
  | pl i =>
    cases Y with
    | pl j => exact go i oX.1 oX.2 (by show ¬(i = i ↔ j = i); exact fun z => hne (by rw [z.mp rfl]))
    | ti a b =>
      have hr := h.rg _ (show (a, b) ∈ ts from oY)
      dsimp only at hr
      by_cases c : i = a
      · exact go b (by omega) (by omega) (by show ¬(i = b ↔ (a = b ∨ b = b)); omega)
      · exact go a (by omega) (by omega) (by show ¬(i = a ↔ (a = a ∨ b = a)); omega)
  | ti a b =>
    have hr := h.rg _ (show (a, b) ∈ ts from oX)
    dsimp only at hr
    cases Y with
    | pl i =>
      by_cases c : i = a
      · exact go b (by omega) (by omega) (by show ¬((a = b ∨ b = b) ↔ i = b); omega)
      · exact go a (by omega) (by omega) (by show ¬((a = a ∨ b = a) ↔ i = a); omega)
    | ti c d =>
      have hs := h.rg _ (show (c, d) ∈ ts from oY)
      dsimp only at hs
      by_cases e : a = c ∨ a = d
      · by_cases e' : b = c ∨ b = d
        · refine absurd ?_ hne
          rw [show a = c by omega, show b = d by omega]
        · exact go b (by omega) (by omega) (by show ¬((a = b ∨ b = b) ↔ (c = b ∨ d = b)); omega)
      · exact go a (by omega) (by omega) (by show ¬((a = a ∨ b = a) ↔ (c = a ∨ d = a)); omega)
theorem few_things_ok {n : Int} {ts : List (Int × Int)} {k : Str} (h : WebOk n ts) (h7 : n ≤ 7) (h1 : 1 ≤ (kindT n ts k).length) (h8 : (kindT n ts k).length ≤ 8) : few_things (n, ⟨ts⟩) k = R.ok (kindT n ts k) := by
  unfold few_things
  rw [things_ok h, ok_bind]
  rw [if_neg (by
    dsimp only
    rw [Bool.or_eq_true, decide_eq_true_eq, decide_eq_true (by omega : (1 : Int) ≤ ((kindT n ts k).length : Int)), decide_eq_true (by omega : ((kindT n ts k).length : Int) ≤ 8)]
    rintro (z | z)
    · omega
    · exact absurd z (by decide))]
/-- the told table: sets of things that come by asking, each with its fewest asks -/
structure RowsOk (f : Int → Thing → Int) (n : Int) (l : List Thing) (rows : List (Tup Thing × Int)) : Prop where
  nd : (mkeys rows).Nodup
  sub : ∀ r ∈ rows, r.1.l.Sublist l ∧ r.1.l ≠ [] ∧ r.2 = ndv f n r.1.l
  all : (⟨l⟩ : Tup Thing) ∈ mkeys rows
  cl : ∀ t ∈ mkeys rows, ∀ p ∈ rng 0 n, 1 < (partsG (f p) t.l).length → ∀ q ∈ partsG (f p) t.l, q.2 ∈ mkeys rows
/-- what fewest_asks tells -/
structure FewOk (n : Int) (ts : List (Int × Int)) (l : List Thing) (r : Nt (Int × Pl × List (Tup Thing × Int) × Unit)) : Prop where
  asks : r.v.1 = ndv (farT n ts) n l
  plan : r.v.2.1 = planG (farT n ts) n 20 l
  rows : RowsOk (farT n ts) n l r.v.2.2.1
theorem RowsOk.perm {f : Int → Thing → Int} {n : Int} {l : List Thing} {a b : List (Tup Thing × Int)} (h : RowsOk f n l a) (hp : b.Perm a) : RowsOk f n l b := by
  have hk : (mkeys b).Perm (mkeys a) := by
    unfold mkeys
    exact hp.map _
  exact ⟨hk.nodup_iff.mpr h.nd, fun r hr => h.sub r (hp.mem_iff.mp hr), hk.mem_iff.mpr h.all, fun t ht p hp' h1 q hq => hk.mem_iff.mpr (h.cl t (hk.mem_iff.mp ht) p hp' h1 q hq)⟩
theorem rows_of {f : Int → Thing → Int} {n : Int} {l : List Thing} {P : Tup Thing → Prop} {least best : List (Tup Thing × Int)} {r : Int × List (Tup Thing × Int) × List (Tup Thing × Int)} (h : NeedOk f n l P l least best r) : RowsOk f n l ((mkeys r.2.1).map fun b => (b, (mget r.2.1 b).getD 0)) := by
  have e : mkeys ((mkeys r.2.1).map fun b => (b, (mget r.2.1 b).getD 0)) = mkeys r.2.1 := by
    show ((mkeys r.2.1).map _).map _ = _
    rw [List.map_map]
    exact List.map_id _
  refine ⟨by rw [e]; exact h.memo.nd1, fun x hx => ?_, by rw [e]; exact h.mem, by rw [e]; exact h.memo.cl⟩
  obtain ⟨t, ht, rfl⟩ := List.mem_map.mp hx
  obtain ⟨v, hv⟩ := mget_keys.mp ht
  refine ⟨h.memo.sub1 t ht, h.memo.ne t ht, ?_⟩
  show (mget r.2.1 t).getD 0 = _
  rw [hv]
  exact h.memo.val t v hv
theorem fewest_ok {n : Int} {ts : List (Int × Int)} {k : Str} (h : WebOk n ts) (h7 : n ≤ 7) (h1 : 1 ≤ (kindT n ts k).length) (h8 : (kindT n ts k).length ≤ 8) : Post (fewest_asks (n, ⟨ts⟩) k) (FewOk n ts (kindT n ts k)) noX := by
  have hok : ∀ t ∈ kindT n ts k, ThOk n ts t := fun t ht => kindT_ok ht
  have hne : kindT n ts k ≠ [] := fun z => by rw [z] at h1; exact absurd h1 (by decide)
  have hsep := sep_all h hok
  unfold fewest_asks
  rw [few_things_ok h h7 h1 h8, ok_bind]
  rw [show Asking_init (n, ⟨ts⟩) = R.ok (tabL n ts, [], [], ()) by unfold Asking_init; rw [all_fars_ok h]; rfl, ok_bind]
  have m0 : Memo (farT n ts) n (kindT n ts k) (fun _ => False) [] [] := ⟨List.Pairwise.nil, List.Pairwise.nil, fun _ z => (nomatch z), fun _ z => (nomatch z), fun _ _ z => (by cases z), fun _ z => (nomatch z), fun _ z => (nomatch z), fun _ z => (nomatch z), fun _ z => (nomatch z)⟩
  refine po_bind (need_ok h h8 hok 20 (kindT n ts k) (fun _ => False) [] [] (by omega) hne (List.Sublist.refl _) m0 (fun _ z => z.elim)) fun r hr => ?_
  have hlen := hr.memo.lenL h8
  refine po_mapGE (g := fun b => (b, ((mget r.2.1 b).getD 0))) (by rw [List.length_map]; exact hlen) (fun b hb => ?_) ?_
  · obtain ⟨v, hv⟩ := mget_keys.mp (show b ∈ mkeys r.2.1 from hb)
    refine po_iff (po_mgetE hv ?_)
    rw [hv]
    rfl
  · rw [plan_ok h h8 hok (kindT_nodup h) hsep hr.memo 20 (kindT n ts k) (by omega) hne (List.Sublist.refl _) hr.mem, ok_bind]
    rw [sortByR_ok (f := len_first) (g := fun b => (b.1.l.length : Int)) (fun _ _ => rfl), ok_bind]
    exact ⟨hr.val, rfl, (rows_of hr).perm (List.mergeSort_perm _ _)⟩
def dep (f : Int → Thing → Int) (n : Int) : Nat → List Thing → Thing → Int
  | 0, _, _ => 0
  | d + 1, l, t => if l.length = 1 then 0 else 1 + dep f n d (l.filter fun u => decide (f ((ndp f n l).getD 0) u = f ((ndp f n l).getD 0) t)) t
theorem part_of {g : Thing → Int} {l : List Thing} {t : Thing} (ht : t ∈ l) : (g t, (⟨l.filter fun u => decide (g u = g t)⟩ : Tup Thing)) ∈ partsG g l := partsG_mem.mpr ⟨⟨t, ht, rfl⟩, rfl⟩
theorem dep_ok {f : Int → Thing → Int} {n : Int} : ∀ (d : Nat) (l : List Thing), l.length ≤ d → l ≠ [] → l.Nodup → Sep f n l → (∀ t ∈ l, 0 ≤ dep f n d l t ∧ dep f n d l t < l.length ∧ dep f n d l t ≤ ndv f n l) ∧ ∃ t ∈ l, dep f n d l t = ndv f n l := by
  intro d
  induction d with
  | zero =>
    intro l hd hne
    exact absurd (List.eq_nil_of_length_eq_zero (by omega)) hne
  | succ d ih =>
    intro l hd hne hnd hs
    by_cases c : l.length = 1
    · have e : ∀ t, dep f n (d + 1) l t = 0 := fun t => by
        show (if l.length = 1 then _ else _) = _
        rw [if_pos c]
      have z := ndv_one (f := f) (n := n) (l := l) (by omega)
      refine ⟨fun t _ => by rw [e, z]; omega, ?_⟩
      match l, c with
      | [t], _ => exact ⟨t, List.mem_singleton_self t, by rw [e, z]⟩
    · have h1 : 1 < l.length := by
        have := List.length_pos_iff.mpr hne
        omega
      obtain ⟨p, hp, _, hsp, hv, _⟩ := hs.ndp hnd h1
      have e : ∀ t, dep f n (d + 1) l t = 1 + dep f n d (l.filter fun u => decide (f p u = f p t)) t := fun t => by
        show (if l.length = 1 then _ else _) = _
        rw [if_neg c, hp]
        rfl
      have ne2 : (partsG (f p) l).map (fun q => ndv f n q.2.l) ≠ [] := fun z => by
        have := congrArg List.length z
        rw [List.length_map, List.length_nil] at this
        omega
      obtain ⟨m1, m2⟩ := mxI_mem ne2
      have part : ∀ q ∈ partsG (f p) l, (∀ t ∈ q.2.l, 0 ≤ dep f n d q.2.l t ∧ dep f n d q.2.l t < q.2.l.length ∧ dep f n d q.2.l t ≤ ndv f n q.2.l) ∧ ∃ t ∈ q.2.l, dep f n d q.2.l t = ndv f n q.2.l := fun q hq => by
        have hlt := partsG_lt hsp hq
        exact ih q.2.l (by omega) (partsG_ne hq) (hnd.sublist (partsG_sub hq)) (hs.sub fun x hx => (partsG_sub hq).subset hx)
      constructor
      · intro t ht
        have hq := part_of (g := f p) ht
        have hlt := partsG_lt hsp hq
        obtain ⟨a1, a2, a3⟩ := (part _ hq).1 t (List.mem_filter.mpr ⟨ht, decide_eq_true rfl⟩)
        have a4 := m2 _ (List.mem_map.mpr ⟨_, hq, rfl⟩)
        rw [e, hv]
        dsimp only at a1 a2 a3 a4 hlt
        omega
      · obtain ⟨q, hq, eq⟩ := List.mem_map.mp m1
        obtain ⟨t, ht, et⟩ := (part q hq).2
        have h2 := (partsG_mem.mp hq).2
        refine ⟨t, (partsG_sub hq).subset ht, ?_⟩
        have ft : f p t = q.1 := by
          rw [h2] at ht
          exact of_decide_eq_true (List.mem_filter.mp ht).2
        rw [e, hv, ← eq, ← et, ft, h2]
theorem ndv_looks {f : Int → Thing → Int} {n : Int} : ∀ (ls : List Int) (l : List Thing), l.Nodup → Sep f n l → (∀ p ∈ ls, p ∈ rng 0 n) → (∀ x ∈ l, ∀ y ∈ l, x ≠ y → ∃ p ∈ ls, f p x ≠ f p y) → ndv f n l ≤ ls.length := by
  intro ls
  induction ls with
  | nil =>
    intro l hd _ _ h
    refine Int.le_of_eq (ndv_one fun c => ?_)
    match l, hd, c with
    | x :: y :: l, hd, _ =>
      have hne : x ≠ y := fun z => by
        rw [List.nodup_cons] at hd
        exact hd.1 (z ▸ List.mem_cons_self)
      obtain ⟨p, hp, _⟩ := h x (by simp) y (by simp) hne
      cases hp
    | [], _, h1 => exact absurd h1 (Nat.not_lt_zero 1)
    | [_], _, h1 => exact absurd h1 (Nat.lt_irrefl 1)
  | cons p ls ih =>
    intro l hd hs hr h
    by_cases c : 1 < l.length
    · obtain ⟨_, _, _, _, _, hle⟩ := hs.ndp hd c
      by_cases c2 : 1 < (partsG (f p) l).length
      · have h1 := hle p (hr p List.mem_cons_self) c2
        have ne2 : (partsG (f p) l).map (fun q => ndv f n q.2.l) ≠ [] := fun z => by
          have := congrArg List.length z
          rw [List.length_map, List.length_nil] at this
          omega
        obtain ⟨q, hq, eq⟩ := List.mem_map.mp (mxI_mem ne2).1
        have hsub := partsG_sub hq
        have h2 := ih q.2.l (hd.sublist hsub) (hs.sub fun x hx => hsub.subset hx) (fun p' hp' => hr p' (List.mem_cons_of_mem _ hp')) fun x hx y hy hne => by
          obtain ⟨p', hp', hf⟩ := h x (hsub.subset hx) y (hsub.subset hy) hne
          rcases List.mem_cons.mp hp' with e | e
          · subst e
            rw [(partsG_mem.mp hq).2] at hx hy
            exact absurd ((of_decide_eq_true (List.mem_filter.mp hx).2).trans (of_decide_eq_true (List.mem_filter.mp hy).2).symm) hf
          · exact ⟨p', e, hf⟩
        rw [List.length_cons]
        omega
      · have h2 := ih l hd hs (fun p' hp' => hr p' (List.mem_cons_of_mem _ hp')) fun x hx y hy hne => by
          obtain ⟨p', hp', hf⟩ := h x hx y hy hne
          rcases List.mem_cons.mp hp' with e | e
          · subst e
            exact absurd (split_of hx hy hf) c2
          · exact ⟨p', e, hf⟩
        rw [List.length_cons]
        omega
    · rw [ndv_one c]
      exact Int.natCast_nonneg _
theorem ndv_nn {f : Int → Thing → Int} {n : Int} {l : List Thing} (hd : l.Nodup) (hs : Sep f n l) (hne : l ≠ []) : 0 ≤ ndv f n l ∧ ndv f n l < l.length := by
  obtain ⟨h1, t, ht, e⟩ := dep_ok l.length l (Nat.le_refl _) hne hd hs
  obtain ⟨a, b, _⟩ := h1 t ht
  omega
theorem repL1 {α : Type} (xs : List α) : repL xs 1 = xs := by
  show (List.replicate 1 xs).flatten = xs
  simp
theorem repR_b {α β : Type} {xs : List α} {b : Bool} {k : List α → R β} (h : xs.length < 1000) : (repR xs (b2i b) >>= k) = k (if b = true then xs else []) := by
  unfold repR
  cases b with
  | true =>
    rw [if_pos ⟨by decide, by decide, by show xs.length * 1 < 100000; omega⟩, if_pos rfl, ok_bind]
    show k (repL xs 1) = _
    rw [repL1]
  | false =>
    rw [if_pos ⟨by decide, by decide, by show xs.length * 0 < 100000; omega⟩, if_neg (by decide), ok_bind]
    rfl
theorem law_things_k {n : Int} {ts : List (Int × Int)} {k : Str} (h : WebOk n ts) (hk : k = "places" ∨ k = "ties" ∨ k = "all") : law_things (n, ⟨ts⟩) k = R.ok (kindT n ts k) := by
  have hn1 := h.n1
  have hn := h.n60
  have hl := h.len
  refine po_iff ?_
  unfold law_things kindT
  refine po_listRng (by decide) (by decide) (by show -(2 ^ 62) ≤ n; omega) (by show n < 2 ^ 62; omega) (by show (n - 0).toNat ≤ 100000; omega) ?_
  have hr : (rng 0 n).length < 1000 := by rw [rng_length]; omega
  have hm1 : (mkpl (rng 0 n)).length = (rng 0 n).length := by unfold mkpl; rw [List.length_map]
  have hm2 : (mkti ts).length = ts.length := by unfold mkti; rw [List.length_map]
  rw [repR_b hr, repR_b (show (Tup.mk ts).l.length < 1000 from by show ts.length < 1000; omega)]
  rcases hk with rfl | rfl | rfl
  · rw [if_pos (by decide +kernel), if_neg (by decide +kernel), if_pos (by decide +kernel)]
    refine po_extend (by rw [hm1]; show (rng 0 n).length + 0 < 100000; omega) ?_
    exact List.append_nil _
  · rw [if_neg (by decide +kernel), if_pos (by decide +kernel), if_neg (by decide +kernel), if_pos (by decide +kernel)]
    refine po_extend (by show 0 + (mkti ts).length < 100000; omega) ?_
    rfl
  · rw [if_pos (by decide +kernel), if_pos (by decide +kernel), if_neg (by decide +kernel), if_neg (by decide +kernel)]
    refine po_extend (by rw [hm1]; show (rng 0 n).length + (mkti ts).length < 100000; omega) ?_
    rfl
structure CaseOk (r : Nt ((Int × Tup (Int × Int)) × Str × List Thing × Unit)) (n : Int) (ts : List (Int × Int)) (k : Str) : Prop where
  e : r = Nt.mk ((n, ⟨ts⟩), k, kindT n ts k, ())
  web : WebOk n ts
  n7 : n ≤ 7
  l1 : 1 ≤ (kindT n ts k).length
  l8 : (kindT n ts k).length ≤ 8
theorem places_len {n : Int} {ts : List (Int × Int)} : (kindT n ts ("places" : Str)).length = n.toNat := by
  unfold kindT
  rw [if_pos (by decide +kernel)]
  unfold mkpl
  rw [List.length_map, rng_length]
  omega
theorem law_few_okL {s : List Int} {lo : Int} (h : Ok2 s) (lo1 : 1 ≤ lo) (lo7 : lo ≤ 7) : Post (law_few s lo) (fun r => (∃ n ts k, CaseOk r.1 n ts k ∧ lo ≤ n) ∧ Ok2 r.2) noX := by
  unfold law_few
  refine po_bind (web_named h lo1 lo7 (by decide)) fun y2 ⟨n, ts, e, n1, n7, hw, h2⟩ => ?_
  refine po_bind (next_ok h2 (by decide) (by decide)) fun y8 ⟨a0, a1, h8⟩ => ?_
  obtain ⟨k, hk, ek⟩ : ∃ k : Str, (k = "places" ∨ k = "ties" ∨ k = "all") ∧ getI ([("places" : Str), ("ties" : Str), ("all" : Str)] : (List Str)) y8.1 = R.ok k := by
    have : y8.1 = 0 ∨ y8.1 = 1 ∨ y8.1 = 2 := by omega
    rcases this with z | z | z <;> rw [z]
    · exact ⟨"places", .inl rfl, rfl⟩
    · exact ⟨"ties", .inr (.inl rfl), rfl⟩
    · exact ⟨"all", .inr (.inr rfl), rfl⟩
  rw [ek, ok_bind, e]
  rw [law_things_k hw hk, ok_bind]
  have hpl := places_len (n := n) (ts := ts)
  have fin : ∀ k : Str, (k = "places" ∨ k = "ties" ∨ k = "all") → 1 ≤ (kindT n ts k).length → (kindT n ts k).length ≤ 8 → Post (law_things (n, ⟨ts⟩) k >>= fun y19 => R.ok ((Nt.mk ((n, (⟨ts⟩ : Tup (Int × Int))), k, y19, ()) : Nt ((Int × Tup (Int × Int)) × Str × List Thing × Unit)), y8.2)) (fun r => (∃ n ts k, CaseOk r.1 n ts k ∧ lo ≤ n) ∧ Ok2 r.2) noX := fun k hk l1 l8 => by
    rw [law_things_k hw hk, ok_bind]
    exact ⟨⟨n, ts, k, ⟨rfl, hw, n7, l1, l8⟩, n1⟩, h8⟩
  by_cases c1 : 1 ≤ (kindT n ts k).length
  · rw [if_pos (decide_eq_true (by omega)), ok_bind]
    by_cases c2 : (kindT n ts k).length ≤ 8
    · rw [decide_eq_true (by omega : ((kindT n ts k).length : Int) ≤ 8), if_neg (by decide), ok_bind]
      exact fin k hk c1 c2
    · rw [decide_eq_false (by omega : ¬((kindT n ts k).length : Int) ≤ 8), if_pos (by decide), ok_bind]
      exact fin "places" (.inl rfl) (by omega) (by omega)
  · rw [if_neg (by rw [decide_eq_true_eq]; omega), ok_bind, if_pos (by decide), ok_bind]
    exact fin "places" (.inl rfl) (by omega) (by omega)
theorem po_foldXu {α ρ : Type} {f : Unit → α → R (Sum ρ (Bool × Unit))} {P : ρ → Prop} {N : α → Prop} {X : Exn → Prop} : ∀ {xs : List α}, (∀ b ∈ xs, Post (f () b) (fun r => (∃ z, r = .inl z ∧ P z) ∨ (r = .inr (true, ()) ∧ N b)) X) → Post (foldX f () xs) (fun r => (∃ z, r = .inl z ∧ P z) ∨ (r = .inr () ∧ ∀ b ∈ xs, N b)) X
  | [], _ => .inr ⟨rfl, fun _ h => nomatch h⟩
  | x :: xs, hf => by
    refine po_bind (hf x List.mem_cons_self) fun r hr => ?_
    rcases hr with ⟨z, rfl, hz⟩ | ⟨rfl, hn⟩
    · exact .inl ⟨z, rfl, hz⟩
    · refine Post.mono (po_foldXu fun b hb => hf b (List.mem_cons_of_mem _ hb)) (fun r hr => hr.imp id fun ⟨e, h⟩ => ⟨e, fun b hb => ?_⟩) fun _ z => z
      rcases List.mem_cons.mp hb with rfl | hb
      · exact hn
      · exact h b hb
def shownB (f : Int → Thing → Int) (n : Int) (known : List (Tup Thing × Int)) (some : Tup Thing) : Bool :=
  if ((decide ((mget known some).getD 0 = (0 : Int))) || ((decide ((1 : Int) < (some.l.length : Int))) && (decide ((mget known some).getD 0 = (1 : Int))))) = true then true
  else if ((decide ((some.l.length : Int) < (2 : Int))) || (decide ((mget known some).getD 0 < (0 : Int)))) = true then false
  else (rng 0 n).all fun p => ((partsG (f p) some.l).map fun q => decide ((mget known some).getD 0 - 1 ≤ (mget known q.2).getD 0)).any id
theorem row_shown_ok {n : Int} {ts : List (Int × Int)} {known : List (Tup Thing × Int)} {some : Tup Thing} (h : WebOk n ts) (hs : ∀ t ∈ some.l, ThOk n ts t) (hl : some.l.length < 1000) (hm : some ∈ mkeys known) : is_row_shown (tabL n ts) ⟨known⟩ some = R.ok (shownB (farT n ts) n known some) := by
  have hn1 := h.n1
  have hn := h.n60
  obtain ⟨v, hv⟩ := mget_keys.mp hm
  unfold is_row_shown shownB
  refine po_iff (po_mgetE hv ?_)
  rw [hv]
  dsimp only [Option.getD]
  refine po_if (fun c => ?_) fun c => ?_
  · rw [if_pos c]
    rfl
  · rw [if_neg c]
    refine po_if (fun c => ?_) fun c => ?_
    · rw [if_pos c]
      rfl
    · rw [if_neg c, tabL_len (by omega)]
      refine po_rng (by decide) (by decide) (by show -(2 ^ 62) ≤ n; omega) (by show n < 2 ^ 62; omega) ?_
      refine po_bind (po_foldXu (P := fun z => z = false ∧ ∃ p ∈ rng 0 n, ¬((partsG (farT n ts p) some.l).map fun q => decide (v - 1 ≤ (mget known q.2).getD 0)).any id = true) (N := fun p => ((partsG (farT n ts p) some.l).map fun q => decide (v - 1 ≤ (mget known q.2).getD 0)).any id = true) fun p hp => ?_) fun r hr => ?_
      · obtain ⟨p0, p1⟩ := rng_mem.mp hp
        rw [parts_by_ok h p0 p1 hs hl, ok_bind]
        have hpl := partsG_len (g := farT n ts p) (l := some.l)
        refine po_mapGE (g := fun (q : Int × Tup Thing) => decide (v - 1 ≤ (mget known q.2).getD 0)) (by omega) (fun _ _ => rfl) ?_
        refine po_if (fun c => ?_) fun c => ?_
        · exact .inl ⟨_, rfl, rfl, p, hp, by
            rw [Bool.not_eq_true'] at c
            rw [c]
            decide⟩
        · refine .inr ⟨rfl, ?_⟩
          cases e : ((partsG (farT n ts p) some.l).map fun q => decide (v - 1 ≤ (mget known q.2).getD 0)).any id with
          | true => rfl
          | false => rw [e] at c; exact absurd rfl c
      · rcases hr with ⟨z, rfl, rfl, p, hp, hz⟩ | ⟨rfl, hN⟩
        · show false = _
          symm
          rw [← Bool.not_eq_true]
          intro c
          exact hz (List.all_eq_true.mp c p hp)
        · show true = _
          exact (List.all_eq_true.mpr hN).symm
/-- the rows as a dict; none where a row is none -/
def tabStep (things : List Thing) (o : Option (List (Tup Thing × Int))) (r : Tup Thing × Int) : Option (List (Tup Thing × Int)) :=
  o.bind fun known => if r.1.l.isEmpty = true ∨ mhas known r.1 = true ∨ r.1.l ≠ things.filterMap (fun t => if inB t r.1.l = true then some t else none) then none else some (mput known r.1 r.2)
def tabK (things : List Thing) (rows : List (Tup Thing × Int)) : Option (List (Tup Thing × Int)) := rows.foldl (tabStep things) (some [])
theorem tabK_snoc {things : List Thing} {rows : List (Tup Thing × Int)} {r : Tup Thing × Int} : tabK things (rows ++ [r]) = tabStep things (tabK things rows) r := by
  unfold tabK
  rw [List.foldl_append]
  rfl
theorem tabK_none {things : List Thing} {a b : List (Tup Thing × Int)} (h : tabK things a = none) : tabK things (a ++ b) = none := by
  induction b using snoc_ind with
  | h0 => rw [List.append_nil]; exact h
  | hs b x ih => rw [← List.append_assoc, tabK_snoc, ih]; rfl
theorem sub_filt {l base : List Thing} (h : l.Sublist base) (hd : base.Nodup) : l = base.filterMap fun t => if inB t l = true then some t else none := by
  have e : ∀ b : List Thing, b.filterMap (fun t => if inB t l = true then some t else none) = b.filter fun t => inB t l := fun b => by
    induction b with
    | nil => rfl
    | cons x b ih =>
      by_cases c : inB x l = true
      · rw [List.filterMap_cons_some (b := x) (by rw [if_pos c]), List.filter_cons_of_pos (p := fun t => inB t l) c, ih]
      · rw [List.filterMap_cons_none (by rw [if_neg c]), List.filter_cons_of_neg (p := fun t => inB t l) c, ih]
  rw [e]
  clear e
  induction h with
  | slnil => rfl
  | @cons l b x h ih =>
    rw [List.nodup_cons] at hd
    have hx : ¬inB x l = true := fun z => hd.1 (h.subset (inB_t.mp z))
    rw [List.filter_cons_of_neg (p := fun t => inB t l) hx]
    exact ih hd.2
  | @cons_cons l b x h ih =>
    rw [List.nodup_cons] at hd
    rw [List.filter_cons_of_pos (p := fun t => inB t (x :: l)) (inB_t.mpr List.mem_cons_self)]
    have e2 : b.filter (fun t => inB t (x :: l)) = b.filter fun t => inB t l := List.filter_congr fun t ht => by
      have hne : t ≠ x := fun z => hd.1 (z ▸ ht)
      cases c : inB t l with
      | true => exact inB_t.mpr (List.mem_cons_of_mem _ (inB_t.mp c))
      | false =>
        cases c2 : inB t (x :: l) with
        | false => rfl
        | true =>
          rcases List.mem_cons.mp (inB_t.mp c2) with z | z
          · exact absurd z hne
          · rw [inB_t.mpr z] at c
            cases c
    rw [e2, ← ih hd.2]
theorem filt_sub {base : List Thing} {P : Thing → Bool} : (base.filterMap fun t => if P t = true then some t else none).Sublist base := by
  induction base with
  | nil => exact List.Sublist.slnil
  | cons x b ih =>
    by_cases c : P x = true
    · rw [List.filterMap_cons_some (b := x) (by rw [if_pos c])]
      exact ih.cons_cons x
    · rw [List.filterMap_cons_none (by rw [if_neg c])]
      exact ih.cons x
theorem tabK_inv {things : List Thing} : ∀ {rows known : List (Tup Thing × Int)}, tabK things rows = some known → known = rows ∧ (mkeys rows).Nodup ∧ ∀ r ∈ rows, r.1.l ≠ [] ∧ r.1.l = things.filterMap fun t => if inB t r.1.l = true then some t else none := by
  intro rows
  induction rows using snoc_ind with
  | h0 =>
    intro known h
    obtain rfl : [] = known := Option.some.inj h
    exact ⟨rfl, List.Pairwise.nil, fun _ z => nomatch z⟩
  | hs rows r ih =>
    intro known h
    rw [tabK_snoc] at h
    unfold tabStep at h
    cases e : tabK things rows with
    | none => rw [e] at h; cases h
    | some k0 =>
      rw [e] at h
      obtain ⟨e1, h1, h2⟩ := ih e
      subst e1
      have h : (if _ then none else some (mput k0 r.1 r.2)) = some known := h
      by_cases c : r.1.l.isEmpty = true ∨ mhas k0 r.1 = true ∨ r.1.l ≠ things.filterMap (fun t => if inB t r.1.l = true then some t else none)
      · rw [if_pos c] at h
        cases h
      · rw [if_neg c] at h
        have hnew : mhas k0 r.1 = false := by
          cases z : mhas k0 r.1 with
          | false => rfl
          | true => exact absurd (.inr (.inl z)) c
        rw [mput_new hnew] at h
        refine ⟨(Option.some.inj h).symm, ?_, fun x hx => ?_⟩
        · unfold mkeys
          rw [List.map_append, List.nodup_append]
          refine ⟨h1, by simp, fun a ha b hb e => ?_⟩
          rw [List.map_singleton, List.mem_singleton] at hb
          have : mhas k0 r.1 = true := mhas_keys.mpr (by rw [← hb, ← e]; exact ha)
          rw [hnew] at this
          cases this
        · rcases List.mem_append.mp hx with z | z
          · exact h2 x z
          · rw [List.mem_singleton.mp z]
            refine ⟨fun w => c (.inl (by rw [w]; rfl)), ?_⟩
            exact Classical.byContradiction fun w => c (.inr (.inr w))
theorem tabK_some {things : List Thing} {rows : List (Tup Thing × Int)} (h1 : (mkeys rows).Nodup) (h2 : ∀ r ∈ rows, r.1.l ≠ [] ∧ r.1.l = things.filterMap fun t => if inB t r.1.l = true then some t else none) : tabK things rows = some rows := by
  induction rows using snoc_ind with
  | h0 => rfl
  | hs rows r ih =>
    unfold mkeys at h1
    rw [List.map_append, List.nodup_append] at h1
    rw [tabK_snoc, ih h1.1 fun x hx => h2 x (List.mem_append_left _ hx)]
    have hnew : mhas rows r.1 = false := by
      cases z : mhas rows r.1 with
      | false => rfl
      | true => exact absurd rfl (h1.2.2 _ (mhas_keys.mp z) r.1 (by simp))
    obtain ⟨a1, a2⟩ := h2 r (by simp)
    unfold tabStep
    show (if _ then none else some (mput rows r.1 r.2)) = _
    rw [if_neg, mput_new hnew]
    rintro (z | z | z)
    · exact a1 (List.isEmpty_iff.mp z)
    · rw [hnew] at z
      cases z
    · exact z a2
def showsB (f : Int → Thing → Int) (n : Int) (things : List Thing) (asks : Int) (rows : List (Tup Thing × Int)) : Bool :=
  match tabK things rows with
  | none => false
  | some known => if mhas known (⟨things⟩ : Tup Thing) = false ∨ (mget known (⟨things⟩ : Tup Thing)).getD 0 < asks then false else (mkeys known).all (shownB f n known)
theorem table_shows_ok {n asks : Int} {ts : List (Int × Int)} {k : Str} {rows : List (Tup Thing × Int)} (h : WebOk n ts) (h7 : n ≤ 7) (h1 : 1 ≤ (kindT n ts k).length) (h8 : (kindT n ts k).length ≤ 8) (hr : rows.length < 1000) : table_shows (n, ⟨ts⟩) k asks rows = R.ok (showsB (farT n ts) n (kindT n ts k) asks rows) := by
  refine po_iff ?_
  unfold table_shows
  rw [few_things_ok h h7 h1 h8, ok_bind]
  refine po_bind (po_foldXP (fun pre (g : List (Tup Thing × Int)) => tabK (kindT n ts k) pre = some g) (fun z => z = false ∧ tabK (kindT n ts k) rows = none) rfl ?_) ?_
  · rintro pre g r post e hg
    have hgl : g.length = pre.length := by rw [(tabK_inv hg).1]
    have hpre : pre.length < 1000 := by
      have := congrArg List.length e
      rw [List.length_append, List.length_cons] at this
      omega
    have hst : tabK (kindT n ts k) (pre ++ [r]) = if r.1.l.isEmpty = true ∨ mhas g r.1 = true ∨ r.1.l ≠ (kindT n ts k).filterMap (fun t => if inB t r.1.l = true then some t else none) then none else some (mput g r.1 r.2) := by
      rw [tabK_snoc, hg]
      rfl
    refine po_bind (Q := fun (j : Bool) => j = decide (r.1.l.isEmpty = true ∨ mhas g r.1 = true ∨ r.1.l ≠ (kindT n ts k).filterMap (fun t => if inB t r.1.l = true then some t else none))) ?_ ?_
    · refine po_if (fun c => (decide_eq_true (.inl c)).symm) fun c => po_if (fun c2 => (decide_eq_true (.inr (.inl c2))).symm) fun c2 => ?_
      refine po_filGE (g := fun t => if inB t r.1.l = true then some t else none) (by omega) (fun t _ => ?_) ?_
      · by_cases q : inB t r.1.l = true
        · rw [if_pos q, if_pos q]
        · rw [if_neg q, if_neg q]
      · show (!decide (r.1.l = _)) = _
        by_cases q : r.1.l = (kindT n ts k).filterMap (fun t => if inB t r.1.l = true then some t else none)
        · rw [decide_eq_true q, decide_eq_false]
          · rfl
          · rintro (z | z | z)
            · exact c z
            · exact c2 z
            · exact z q
        · rw [decide_eq_false q, decide_eq_true (.inr (.inr q))]
          rfl
    · rintro j rfl
      refine po_if (fun c => ?_) fun c => ?_
      · rw [if_pos (of_decide_eq_true c)] at hst
        refine .inl ⟨_, rfl, rfl, ?_⟩
        rw [e, show pre ++ r :: post = (pre ++ [r]) ++ post by simp]
        exact tabK_none hst
      · rw [if_neg (fun z => c (decide_eq_true z))] at hst
        refine po_mput (by omega) (.inr ⟨_, rfl, hst⟩)
  · rintro r (⟨z, rfl, rfl, hz⟩ | ⟨g, rfl, hg⟩)
    · show false = _
      unfold showsB
      rw [hz]
    · have hi := tabK_inv hg
      show Post ((_ : R Bool) >>= _) _ _
      unfold showsB
      rw [hg]
      dsimp only
      refine po_bind (Q := fun (j : Bool) => j = decide (mhas g (⟨kindT n ts k⟩ : Tup Thing) = false ∨ (mget g (⟨kindT n ts k⟩ : Tup Thing)).getD 0 < asks)) ?_ ?_
      · refine po_if (fun c => ?_) fun c => ?_
        · rw [Bool.not_eq_true'] at c
          exact (decide_eq_true (.inl c)).symm
        · have c' : mhas g (⟨kindT n ts k⟩ : Tup Thing) = true := by
            cases z : mhas g (⟨kindT n ts k⟩ : Tup Thing) with
            | true => rfl
            | false => rw [z] at c; exact absurd rfl c
          obtain ⟨v, hv⟩ := mget_keys.mp (mhas_keys.mp c')
          refine po_mgetE hv ?_
          rw [hv]
          show decide (v < asks) = _
          by_cases q : v < asks
          · rw [decide_eq_true q, decide_eq_true]
            exact .inr q
          · rw [decide_eq_false q, decide_eq_false]
            rintro (z | z)
            · rw [c'] at z
              cases z
            · exact q z
      · rintro j rfl
        refine po_if (fun c => ?_) fun c => ?_
        · rw [if_pos (of_decide_eq_true c)]
          rfl
        · rw [if_neg (fun z => c (decide_eq_true z)), all_fars_ok h, ok_bind]
          have hlen : g.length < 1000 := by rw [hi.1]; exact hr
          refine po_mapGE (g := fun b => shownB (farT n ts) n g b) (by rw [List.length_map]; omega) (fun b hb => ?_) ?_
          · have hb' : b ∈ mkeys rows := by rw [← hi.1]; exact hb
            obtain ⟨r, hr', rfl⟩ := List.mem_map.mp hb'
            have hs := (hi.2.2 r hr').2
            have hsub : r.1.l.Sublist (kindT n ts k) := by rw [hs]; exact filt_sub
            have := hsub.length_le
            rw [row_shown_ok h (fun t ht => kindT_ok (hsub.subset ht)) (by omega) hb]
            rfl
          · show (((g.map (·.1)).map fun b => shownB (farT n ts) n g b).all id) = _
            rw [List.all_map]
            rfl
/-- a right table shows just its number -/
theorem rows_show {f : Int → Thing → Int} {n asks : Int} {l : List Thing} {rows : List (Tup Thing × Int)} (h : RowsOk f n l rows) (hd : l.Nodup) (hs : Sep f n l) : showsB f n l asks rows = decide (asks ≤ ndv f n l) := by
  have e := tabK_some (things := l) h.nd fun r hr => ⟨(h.sub r hr).2.1, sub_filt (h.sub r hr).1 hd⟩
  have get : ∀ t ∈ mkeys rows, t.l.Sublist l ∧ t.l ≠ [] ∧ mget rows t = some (ndv f n t.l) := fun t ht => by
    obtain ⟨v, hv⟩ := mget_keys.mp ht
    obtain ⟨j, u, hj, hu⟩ := mget_at (mhas_keys.mpr ht)
    obtain ⟨a1, a2, a3⟩ := h.sub _ (List.mem_of_getElem? hj)
    refine ⟨a1, a2, ?_⟩
    rw [hu]
    exact congrArg some a3
  unfold showsB
  rw [e]
  show (if _ then _ else _) = _
  obtain ⟨_, _, e2⟩ := get _ h.all
  by_cases c : asks ≤ ndv f n l
  · rw [if_neg, decide_eq_true c]
    · refine List.all_eq_true.mpr fun t ht => ?_
      obtain ⟨b1, b2, b3⟩ := get t ht
      unfold shownB
      rw [b3]
      dsimp only [Option.getD]
      have hnn := ndv_nn (hd.sublist b1) (hs.sub fun x hx => b1.subset hx) b2
      have hpos := List.length_pos_iff.mpr b2
      by_cases c1 : ((decide (ndv f n t.l = (0 : Int))) || ((decide ((1 : Int) < (t.l.length : Int))) && (decide (ndv f n t.l = (1 : Int))))) = true
      · rw [if_pos c1]
      · rw [if_neg c1]
        rw [Bool.or_eq_true, Bool.and_eq_true, decide_eq_true_eq, decide_eq_true_eq, decide_eq_true_eq] at c1
        have hge : 2 ≤ ndv f n t.l := by omega
        rw [if_neg (by rw [Bool.or_eq_true, decide_eq_true_eq, decide_eq_true_eq]; omega)]
        refine List.all_eq_true.mpr fun p hp => ?_
        refine List.any_eq_true.mpr ?_
        by_cases c2 : 1 < (partsG (f p) t.l).length
        · obtain ⟨_, _, _, _, _, hle⟩ := (hs.sub fun x hx => b1.subset hx).ndp (hd.sublist b1) (by omega)
          have h1 := hle p hp c2
          have ne2 : (partsG (f p) t.l).map (fun q => ndv f n q.2.l) ≠ [] := fun z => by
            have := congrArg List.length z
            rw [List.length_map, List.length_nil] at this
            omega
          obtain ⟨q, hq, eq⟩ := List.mem_map.mp (mxI_mem ne2).1
          refine ⟨_, List.mem_map.mpr ⟨q, hq, rfl⟩, ?_⟩
          rw [(get _ (h.cl t ht p hp c2 q hq)).2.2]
          exact decide_eq_true (by show _ ≤ ndv f n q.2.l; omega)
        · obtain ⟨x, hx⟩ := List.exists_mem_of_ne_nil _ b2
          have hq := part_of (g := f p) hx
          refine ⟨_, List.mem_map.mpr ⟨_, hq, rfl⟩, ?_⟩
          have e3 : t.l.filter (fun u => decide (f p u = f p x)) = t.l := List.filter_eq_self.mpr fun y hy => decide_eq_true (Classical.byContradiction fun z => c2 (split_of hy hx z))
          rw [e3, show (⟨t.l⟩ : Tup Thing) = t from rfl, b3]
          exact decide_eq_true (by show _ ≤ ndv f n t.l; omega)
    · rintro (z | z)
      · rw [mhas_keys.mpr h.all] at z
        cases z
      · rw [e2] at z
        have : ndv f n l < asks := z
        omega
  · rw [if_pos, decide_eq_false c]
    refine .inr ?_
    rw [e2]
    show ndv f n l < asks
    omega
end G
namespace G
open PySem L2 Z
theorem max2_le (a b : Int) : a ≤ max2 a b ∧ b ≤ max2 a b ∧ (max2 a b = a ∨ max2 a b = b) := by
  unfold max2
  by_cases c : a < b
  · rw [if_pos c]
    omega
  · rw [if_neg c]
    omega
theorem fm_congr2 {α β : Type} {f g : α → Option β} : ∀ {l : List α}, (∀ x ∈ l, f x = g x) → l.filterMap f = l.filterMap g
  | [], _ => rfl
  | x :: l, h => by
    rw [List.filterMap_cons, List.filterMap_cons, h x List.mem_cons_self, fm_congr2 fun y hy => h y (List.mem_cons_of_mem _ hy)]
/-! ### things carried over to the same web, its places called otherwise -/
structure Carry (f f' : Int → Thing → Int) (n : Int) (base base' : List Thing) (T : Thing → Thing) (m : Int → Int) : Prop where
  nd : base.Nodup
  nd' : base'.Nodup
  mem : ∀ x', x' ∈ base' ↔ ∃ x ∈ base, x' = T x
  inj : ∀ x ∈ base, ∀ y ∈ base, T x = T y → x = y
  far : ∀ p ∈ rng 0 n, ∀ x ∈ base, f' (m p) (T x) = f p x
  rg : ∀ p ∈ rng 0 n, m p ∈ rng 0 n
  onto : ∀ p' ∈ rng 0 n, ∃ p ∈ rng 0 n, m p = p'
  sep : Sep f n base
def carry (base' : List Thing) (T : Thing → Thing) (l : List Thing) : List Thing := base'.filter fun t => inB t (l.map T)
section
variable {f f' : Int → Thing → Int} {n : Int} {base base' : List Thing} {T : Thing → Thing} {m : Int → Int} (c : Carry f f' n base base' T m)
include c
theorem Carry.cmem {l : List Thing} (hl : l.Sublist base) {x' : Thing} : x' ∈ carry base' T l ↔ ∃ x ∈ l, x' = T x := by
  unfold carry
  rw [List.mem_filter, inB_t, List.mem_map]
  constructor
  · rintro ⟨_, x, hx, e⟩
    exact ⟨x, hx, e.symm⟩
  · rintro ⟨x, hx, rfl⟩
    exact ⟨(c.mem _).mpr ⟨x, hl.subset hx, rfl⟩, x, hx, rfl⟩
theorem Carry.perm {l : List Thing} (hl : l.Sublist base) : (carry base' T l).Perm (l.map T) := by
  refine (List.perm_ext_iff_of_nodup (c.nd'.filter _) ?_).mpr fun x' => ?_
  · exact List.pairwise_map.mpr ((c.nd.sublist hl).imp_of_mem fun {a b} ha hb hne e => hne (c.inj a (hl.subset ha) b (hl.subset hb) e))
  · show x' ∈ carry base' T l ↔ _
    rw [c.cmem hl, List.mem_map]
    exact ⟨fun ⟨x, hx, e⟩ => ⟨x, hx, e.symm⟩, fun ⟨x, hx, e⟩ => ⟨x, hx, e.symm⟩⟩
theorem Carry.len {l : List Thing} (hl : l.Sublist base) : (carry base' T l).length = l.length := by rw [(c.perm hl).length_eq, List.length_map]
theorem Carry.sub {l : List Thing} : (carry base' T l).Sublist base' := List.filter_sublist
theorem Carry.sep' : Sep f' n base' := fun x hx y hy hne => by
  obtain ⟨a, ha, rfl⟩ := (c.mem x).mp hx
  obtain ⟨b, hb, rfl⟩ := (c.mem y).mp hy
  obtain ⟨p, hp, h⟩ := c.sep a ha b hb fun e => hne (by rw [e])
  exact ⟨m p, c.rg p hp, by rw [c.far p hp a ha, c.far p hp b hb]; exact h⟩
theorem Carry.parts {l : List Thing} (hl : l.Sublist base) {p : Int} (hp : p ∈ rng 0 n) : partsG (f' (m p)) (carry base' T l) = (partsG (f p) l).map fun q => (q.1, (⟨carry base' T q.2.l⟩ : Tup Thing)) := by
  have hk : sortI (keysG (f' (m p)) (carry base' T l)) = sortI (keysG (f p) l) := by
    refine sortI_eq ?_ (sortI_sorted _)
    refine (sortI_perm _).trans ?_
    refine (List.perm_ext_iff_of_nodup keysG_nodup keysG_nodup).mpr fun a => ?_
    rw [keysG_mem, keysG_mem]
    constructor
    · rintro ⟨x', hx', e⟩
      obtain ⟨x, hx, rfl⟩ := (c.cmem hl).mp hx'
      exact ⟨x, hx, by rw [← e, c.far p hp x (hl.subset hx)]⟩
    · rintro ⟨x, hx, e⟩
      exact ⟨T x, (c.cmem hl).mpr ⟨x, hx, rfl⟩, by rw [c.far p hp x (hl.subset hx)]; exact e⟩
  unfold partsG
  rw [hk, List.map_map]
  refine List.map_congr_left fun a _ => ?_
  show (a, (⟨_⟩ : Tup Thing)) = (a, (⟨_⟩ : Tup Thing))
  congr 2
  unfold carry
  rw [List.filter_filter]
  refine List.filter_congr fun x' hx' => ?_
  obtain ⟨x, hx, rfl⟩ := (c.mem x').mp hx'
  rw [c.far p hp x hx]
  have e1 : ∀ l : List Thing, l.Sublist base → (inB (T x) (l.map T) = true ↔ x ∈ l) := fun l hl => by
    rw [inB_t, List.mem_map]
    constructor
    · rintro ⟨y, hy, e⟩
      rw [← c.inj y (hl.subset hy) x hx e]
      exact hy
    · exact fun z => ⟨x, z, rfl⟩
  rw [Bool.eq_iff_iff, Bool.and_eq_true, e1 l hl, e1 _ (List.filter_sublist.trans hl), List.mem_filter, decide_eq_true_eq]
  exact ⟨fun ⟨a, b⟩ => ⟨b, a⟩, fun ⟨a, b⟩ => ⟨b, a⟩⟩
theorem Carry.ndv : ∀ (d : Nat) (l : List Thing), l.length ≤ d → l.Sublist base → ndv f' n (carry base' T l) = ndv f n l := by
  intro d
  induction d with
  | zero =>
    intro l hd hl
    rw [ndv_one (l := l) (by omega), ndv_one (by rw [c.len hl]; omega)]
  | succ d ih =>
    intro l hd hl
    by_cases h1 : 1 < l.length
    · obtain ⟨p, _, hpr, hsp, hv, hle⟩ := (c.sep.sub fun x hx => hl.subset hx).ndp (c.nd.sublist hl) h1
      obtain ⟨p', _, hpr', hsp', hv', hle'⟩ := (c.sep'.sub fun x hx => (c.sub (l := l)).subset hx).ndp (c.nd'.sublist (c.sub (l := l))) (by rw [c.len hl]; exact h1)
      have e : ∀ q ∈ rng 0 n, 1 < (partsG (f q) l).length → (partsG (f' (m q)) (carry base' T l)).map (fun r => G.ndv f' n r.2.l) = (partsG (f q) l).map fun r => G.ndv f n r.2.l := fun q hq h2 => by
        rw [c.parts hl hq, List.map_map]
        refine List.map_congr_left fun r hr => ?_
        have hlt := partsG_lt h2 hr
        exact ih r.2.l (by omega) ((partsG_sub hr).trans hl)
      have e2 : ∀ q ∈ rng 0 n, (partsG (f' (m q)) (carry base' T l)).length = (partsG (f q) l).length := fun q hq => by rw [c.parts hl hq, List.length_map]
      obtain ⟨q, hq, rfl⟩ := c.onto p' hpr'
      rw [e2 q hq] at hsp'
      have a1 := hle q hq hsp'
      have a2 := hle' (m p) (c.rg p hpr) (by rw [e2 p hpr]; exact hsp)
      rw [e p hpr hsp] at a2
      rw [e q hq hsp'] at hv'
      omega
    · rw [ndv_one (l := l) h1, ndv_one (by rw [c.len hl]; exact h1)]
theorem Carry.inj' {l1 l2 : List Thing} (h1 : l1.Sublist base) (h2 : l2.Sublist base) (e : carry base' T l1 = carry base' T l2) : l1 = l2 := by
  rw [sub_filt h1 c.nd, sub_filt h2 c.nd]
  refine fm_congr2 fun x hx => ?_
  have hm : ∀ l : List Thing, l.Sublist base → (x ∈ l ↔ T x ∈ carry base' T l) := fun l hl => by
    rw [c.cmem hl]
    exact ⟨fun z => ⟨x, z, rfl⟩, fun ⟨y, hy, e⟩ => by rw [c.inj x hx y (hl.subset hy) e]; exact hy⟩
  have : inB x l1 = inB x l2 := by rw [Bool.eq_iff_iff, inB_t, inB_t, hm l1 h1, hm l2 h2, e]
  rw [this]
theorem Carry.all : carry base' T base = base' := List.filter_eq_self.mpr fun x' hx' => by
  obtain ⟨x, hx, rfl⟩ := (c.mem x').mp hx'
  exact inB_t.mpr (List.mem_map.mpr ⟨x, hx, rfl⟩)
theorem Carry.rows {rows : List (Tup Thing × Int)} (h : RowsOk f n base rows) : RowsOk f' n base' (rows.map fun r => ((⟨carry base' T r.1.l⟩ : Tup Thing), r.2)) := by
  have hk : mkeys (rows.map fun r => ((⟨carry base' T r.1.l⟩ : Tup Thing), r.2)) = (mkeys rows).map fun t => (⟨carry base' T t.l⟩ : Tup Thing) := by
    unfold mkeys
    rw [List.map_map, List.map_map]
    rfl
  have hsub : ∀ t ∈ mkeys rows, t.l.Sublist base := fun t ht => by
    obtain ⟨r, hr, rfl⟩ := List.mem_map.mp ht
    exact (h.sub r hr).1
  refine ⟨?_, fun r hr => ?_, ?_, fun t ht p' hp' h1 q hq => ?_⟩
  · rw [hk]
    refine List.pairwise_map.mpr (h.nd.imp_of_mem fun {a b} ha hb hne e => hne ?_)
    have : a.l = b.l := c.inj' (hsub a ha) (hsub b hb) (congrArg Tup.l e)
    cases a
    cases b
    exact congrArg Tup.mk this
  · obtain ⟨r, hr2, rfl⟩ := List.mem_map.mp hr
    obtain ⟨a1, a2, a3⟩ := h.sub r hr2
    refine ⟨c.sub, fun z => a2 (List.eq_nil_of_length_eq_zero ?_), ?_⟩
    · have := c.len a1
      have z : carry base' T r.1.l = [] := z
      rw [z] at this
      exact this.symm
    · show r.2 = _
      rw [a3]
      exact (c.ndv _ r.1.l (Nat.le_refl _) a1).symm
  · rw [hk]
    exact List.mem_map.mpr ⟨_, h.all, congrArg Tup.mk c.all⟩
  · rw [hk] at ht ⊢
    obtain ⟨t, ht2, rfl⟩ := List.mem_map.mp ht
    obtain ⟨p, hp, rfl⟩ := c.onto p' hp'
    have hs := hsub t ht2
    have e := c.parts hs hp
    have h1 : 1 < (partsG (f' (m p)) (carry base' T t.l)).length := h1
    have hq : q ∈ partsG (f' (m p)) (carry base' T t.l) := hq
    rw [e, List.length_map] at h1
    rw [e] at hq
    obtain ⟨r, hr, rfl⟩ := List.mem_map.mp hq
    exact List.mem_map.mpr ⟨r.2, h.cl t ht2 p hp h1 r hr, rfl⟩
end
theorem zip_self {α : Type} : ∀ l : List α, l.zip l = l.map fun x => (x, x)
  | [] => rfl
  | x :: l => by rw [List.zip_cons_cons, zip_self l, List.map_cons]
/-- of a part's answer: how many asks its things want -/
def mapBack (ps : List (Int × Tup Thing)) (f : Int → Thing → Int) (n : Int) (a : Int) : Int := (((ps.find? fun q => decide (q.1 = a)).map fun q => ndv f n q.2.l)).getD 0
theorem mapBack_ok {g : Thing → Int} {l : List Thing} {f : Int → Thing → Int} {n : Int} {q : Int × Tup Thing} (hq : q ∈ partsG g l) : mapBack (partsG g l) f n q.1 = ndv f n q.2.l := by
  unfold mapBack
  cases e : (partsG g l).find? fun r => decide (r.1 = q.1) with
  | none =>
    have := List.find?_eq_none.mp e q hq
    exact absurd (decide_eq_true rfl) this
  | some r =>
    have h1 := of_decide_eq_true (List.find?_some (p := fun r : Int × Tup Thing => decide (r.1 = q.1)) e)
    have h2 := (partsG_mem.mp (List.mem_of_find?_eq_some e)).2
    have h3 := (partsG_mem.mp hq).2
    show ndv f n r.2.l = _
    rw [h2, h3, h1]
/-- the plan by other names -/
def planR (f : Int → Thing → Int) (n : Int) (T : Thing → Thing) (m : Int → Int) : Nat → List Thing → Pl
  | 0, l => .is (T (l.headD (.pl 0)))
  | d + 1, l => if l.length = 1 then .is (T (l.headD (.pl 0))) else .ask (m ((ndp f n l).getD 0)) ((partsG (f ((ndp f n l).getD 0)) l).map fun q => (q.1, planR f n T m d q.2.l))
theorem asks_ofR {n : Int} {ts ts' : List (Int × Int)} {base base' : List Thing} {T : Thing → Thing} {m : Int → Int} (c : Carry (farT n ts) (farT n ts') n base base' T m) (h : WebOk n ts') (hb : base.length ≤ 8) (hbt : ∀ t ∈ base', ThOk n ts' t) :
    ∀ (d d' : Nat) (l : List Thing), l.length ≤ d → l.length ≤ d' → l ≠ [] → l.Sublist base → asks_of d (tabL n ts') ⟨carry base' T l⟩ (planR (farT n ts) n T m d' l) = R.ok (some (ndv (farT n ts) n l)) := by
  intro d
  induction d with
  | zero =>
    intro d' l hd _ hne _
    exact absurd (List.eq_nil_of_length_eq_zero (by omega)) hne
  | succ d ih =>
    intro d' l hd hd' hne hs
    obtain ⟨d', rfl⟩ : ∃ e, d' = e + 1 := ⟨d' - 1, by
      have := List.length_pos_iff.mpr hne
      omega⟩
    have hn1 := h.n1
    have hn := h.n60
    have hll : l.length ≤ 8 := Nat.le_trans hs.length_le hb
    show asks_of_b (asks_of d) (tabL n ts') ⟨carry base' T l⟩ (if l.length = 1 then _ else _) = _
    by_cases c1 : l.length = 1
    · rw [if_pos c1, ndv_one (by omega)]
      match l, c1, hs with
      | [t], _, hs =>
        have e : carry base' T [t] = [T t] := List.perm_singleton.mp (c.perm hs)
        rw [e]
        exact asks_is _ _ _
    · have h1 : 1 < l.length := by
        have := List.length_pos_iff.mpr hne
        omega
      rw [if_neg c1]
      obtain ⟨p, hp, hpr, hsp, hv, _⟩ := (c.sep.sub fun x hx => hs.subset hx).ndp (c.nd.sublist hs) h1
      obtain ⟨p0, p1⟩ := rng_mem.mp (c.rg p hpr)
      rw [hp, hv]
      refine (asks_ask _ _ _ (m p) _).trans ?_
      have hpl := partsG_len (g := farT n ts p) (l := l)
      have hpar := c.parts hs hpr
      have hlc := c.len hs
      have key : plan_of_parts (asks_of d) (tabL n ts') ⟨carry base' T l⟩ (Pl.ask (m p) ((partsG (farT n ts p) l).map fun q => (q.1, planR (farT n ts) n T m d' q.2.l))) = R.ok (some (1 + mxI ((partsG (farT n ts p) l).map fun q => ndv (farT n ts) n q.2.l))) := by
        unfold plan_of_parts
        rw [show asAsk (Pl.ask (m p) ((partsG (farT n ts p) l).map fun q => (q.1, planR (farT n ts) n T m d' q.2.l))) = R.ok (m p, (partsG (farT n ts p) l).map fun q => (q.1, planR (farT n ts) n T m d' q.2.l)) from rfl, ok_bind, tabL_len (by omega)]
        refine po_iff (po_listRng (by decide) (by decide) (by show -(2 ^ 62) ≤ n; omega) (by show n < 2 ^ 62; omega) (by show (n - 0).toNat ≤ 100000; omega) ?_)
        rw [if_neg (by rw [inB_t.mpr (c.rg p hpr)]; decide)]
        rw [parts_by_ok h p0 p1 (fun t ht => hbt t ((c.sub (l := l)).subset ht)) (by omega), ok_bind]
        rw [hpar]
        rw [if_neg (by rw [decide_eq_true_eq, List.length_map]; omega)]
        rw [mapG_ok (g := fun (q : Int × Tup Thing) => q.1) (by rw [List.length_map]; omega) (fun _ _ => rfl), ok_bind]
        rw [mapG_ok (g := fun (q : Int × Pl) => q.1) (by rw [List.length_map]; omega) (fun _ _ => rfl), ok_bind, ok_bind]
        rw [List.map_map, List.map_map]
        rw [if_neg (by
          rw [decide_eq_true (by rfl)]
          decide)]
        rw [List.zip_map, zip_self]
        rw [List.map_map]
        rw [mapG_ok (g := fun (b : (Int × Tup Thing) × Int × Pl) => some (mapBack (partsG (farT n ts p) l) (farT n ts) n b.1.1)) (by rw [List.length_map]; omega) (fun b hb' => by
          obtain ⟨q, hq, rfl⟩ := List.mem_map.mp hb'
          have hlt := partsG_lt hsp hq
          show (asks_of d (tabL n ts') ⟨carry base' T q.2.l⟩ (planR (farT n ts) n T m d' q.2.l) >>= _) = R.ok (some (mapBack (partsG (farT n ts p) l) (farT n ts) n q.1))
          rw [ih d' q.2.l (by omega) (by omega) (partsG_ne hq) ((partsG_sub hq).trans hs), mapBack_ok hq]
          rfl), ok_bind]
        have e : ((partsG (farT n ts p) l).map ((Prod.map (fun q => (q.1, (⟨carry base' T q.2.l⟩ : Tup Thing))) fun q => (q.1, planR (farT n ts) n T m d' q.2.l)) ∘ fun x => (x, x))).map (fun (b : (Int × Tup Thing) × Int × Pl) => some (mapBack (partsG (farT n ts p) l) (farT n ts) n b.1.1)) = ((partsG (farT n ts p) l).map fun q => ndv (farT n ts) n q.2.l).map some := by
          rw [List.map_map, List.map_map]
          exact List.map_congr_left fun q hq => congrArg some (mapBack_ok hq)
        rw [e]
        rw [if_neg (fun z => by
          have := inB_t.mp z
          obtain ⟨_, _, w⟩ := List.mem_map.mp this
          cases w)]
        rw [allS_map, ok_bind, maxL_mx (fun z => by
          have := congrArg List.length z
          rw [List.length_map, List.length_nil] at this
          omega), ok_bind]
        rfl
      exact key
/-! ### rows, bunches, all tied -/
theorem up_web {n : Int} {g : List (Int × Int)} (u : UpOk n g) (n1 : 1 ≤ n) (n26 : n ≤ 26) : WebOk n (sortP g) := by
  have hp := sortP_perm g
  have t := u.ties n26
  exact ⟨n1, by omega, fun p hp' => u.rg p (hp.mem_iff.mp hp'), hp.nodup_iff.mpr u.nd, fun S h0 hc => t.conn S h0 fun p hp' => hc p (hp.mem_iff.mpr hp'), by rw [hp.length_eq]; exact t.len, (sortP_eq (hp.symm.symm) (sortP_sorted _)) ▸ (sortP_eq (List.Perm.refl _) (sortP_sorted _)).symm⟩
theorem dst_up {n p : Int} {g : List (Int × Int)} {D : Int → Int} (h : IsDist n g p D) {v : Int} (v0 : 0 ≤ v) (v1 : v < n) : dst n (sortP g) p v = D v := by
  have ha : ∀ a b, Adj (sortP g) a b ↔ Adj g a b := fun a b => by
    unfold Adj
    rw [(sortP_perm g).mem_iff, (sortP_perm g).mem_iff]
  exact (dst_eq (f := D) ⟨h.zero, h.nn, fun a b q => h.lip a b ((ha a b).mp q), fun v a b c => by
    obtain ⟨w, w0, w1, q, e⟩ := h.desc v a b c
    exact ⟨w, w0, w1, (ha _ _).mpr q, e⟩⟩ v v0 v1).symm
/-- things of which an ask tells one at the most from the others -/
theorem ndv_twins {f : Int → Thing → Int} {n : Int} {S : Thing → Bool} (hS : ∀ p ∈ rng 0 n, ∃ x0, ∀ x y, S x = true → S y = true → x ≠ x0 → y ≠ x0 → f p x = f p y) : ∀ (d : Nat) (l : List Thing), l.length ≤ d → l ≠ [] → l.Nodup → Sep f n l → ((l.filter S).length : Int) - 1 ≤ ndv f n l := by
  intro d
  induction d with
  | zero =>
    intro l hd hne
    exact absurd (List.eq_nil_of_length_eq_zero (by omega)) hne
  | succ d ih =>
    intro l hd hne hnd hs
    have hfl := List.length_filter_le S l
    have hnn := (ndv_nn hnd hs hne).1
    by_cases h1 : 1 < l.length
    · obtain ⟨p, _, hpr, hsp, hv, _⟩ := hs.ndp hnd h1
      obtain ⟨x0, hx0⟩ := hS p hpr
      by_cases c : ∃ y ∈ l, S y = true ∧ y ≠ x0
      · obtain ⟨y, hy, sy, ny⟩ := c
        have hq := part_of (g := f p) hy
        have hlt := partsG_lt hsp hq
        have hsub := partsG_sub hq
        have h2 := ih _ (by omega) (partsG_ne hq) (hnd.sublist hsub) (hs.sub fun x hx => hsub.subset hx)
        have h3 := nodup_le (hnd.filter S) (ys := x0 :: ((l.filter fun u => decide (f p u = f p y)).filter S)) fun x hx => by
          obtain ⟨a, b⟩ := List.mem_filter.mp hx
          by_cases e : x = x0
          · rw [e]
            exact List.mem_cons_self
          · exact List.mem_cons_of_mem _ (List.mem_filter.mpr ⟨List.mem_filter.mpr ⟨a, decide_eq_true (hx0 x y b sy e ny)⟩, b⟩)
        rw [List.length_cons] at h3
        have ne2 : (partsG (f p) l).map (fun q => ndv f n q.2.l) ≠ [] := fun z => by
          have := congrArg List.length z
          rw [List.length_map, List.length_nil] at this
          omega
        have h4 := (mxI_mem ne2).2 _ (List.mem_map.mpr ⟨_, hq, rfl⟩)
        dsimp only at h2 h4
        omega
      · have h3 := nodup_le (hnd.filter S) (ys := [x0]) fun x hx => by
          obtain ⟨a, b⟩ := List.mem_filter.mp hx
          rw [List.mem_singleton]
          exact Classical.byContradiction fun e => c ⟨x, a, b, e⟩
        rw [List.length_singleton] at h3
        omega
    · omega
theorem ndv_pos {f : Int → Thing → Int} {n : Int} {l : List Thing} (hnd : l.Nodup) (hs : Sep f n l) (h1 : 1 < l.length) : 1 ≤ ndv f n l := by
  obtain ⟨p, _, hpr, hsp, hv, _⟩ := hs.ndp hnd h1
  have ne2 : (partsG (f p) l).map (fun q => ndv f n q.2.l) ≠ [] := fun z => by
    have := congrArg List.length z
    rw [List.length_map, List.length_nil] at this
    omega
  obtain ⟨q, hq, eq⟩ := List.mem_map.mp (mxI_mem ne2).1
  have := (ndv_nn (hnd.sublist (partsG_sub hq)) (hs.sub fun x hx => (partsG_sub hq).subset hx) (partsG_ne hq)).1
  omega
def fullP (n : Int) : List (Int × Int) := (rng 0 n).flatMap fun b => (rng 0 b).map fun j => (j, b)
theorem full_mem {n : Int} {p : Int × Int} : p ∈ fullP n ↔ 0 ≤ p.1 ∧ p.1 < p.2 ∧ p.2 < n := by
  unfold fullP
  rw [List.mem_flatMap]
  constructor
  · rintro ⟨b, hb, hp⟩
    obtain ⟨j, hj, rfl⟩ := List.mem_map.mp hp
    have h1 := rng_mem.mp hb
    have h2 := rng_mem.mp hj
    exact ⟨h2.1, h2.2, h1.2⟩
  · rintro ⟨a, b, c⟩
    exact ⟨p.2, rng_mem.mpr ⟨by omega, c⟩, List.mem_map.mpr ⟨p.1, rng_mem.mpr ⟨a, b⟩, rfl⟩⟩
theorem full_up {n : Int} : UpOk n (fullP n) := ⟨fun p hp => full_mem.mp hp, by
  unfold fullP
  refine List.pairwise_flatMap.mpr ⟨fun b _ => List.pairwise_map.mpr ((rng_nodup 0 b).imp fun hab e => hab (congrArg Prod.fst e)), (rng_nodup 0 n).imp fun hab x hx y hy e => ?_⟩
  obtain ⟨_, _, rfl⟩ := List.mem_map.mp hx
  obtain ⟨_, _, rfl⟩ := List.mem_map.mp hy
  exact hab (congrArg Prod.snd e), fun j j1 jn => ⟨0, by omega, by omega, full_mem.mpr ⟨by show (0 : Int) ≤ 0; omega, by show (0 : Int) < j; omega, jn⟩⟩⟩
theorem row_dist {n : Int} (n1 : 1 ≤ n) : IsDist n (rowP n) 0 (fun v => v) := ⟨rfl, fun v v0 _ => v0, fun a b q => by
    have go : ∀ x y, (x, y) ∈ rowP n → y = x + 1 := fun x y h => by
      obtain ⟨k, _, e⟩ := List.mem_map.mp h
      injection e with e1 e2
      omega
    show b ≤ a + 1
    rcases q with q | q <;> have := go _ _ q <;> omega, fun v v0 v1 hne => ⟨v - 1, by omega, by omega, .inl (List.mem_map.mpr ⟨v - 1, rng_mem.mpr ⟨by omega, by omega⟩, Prod.ext rfl (by show v - 1 + 1 = v; omega)⟩), by show v - 1 + 1 = v; omega⟩⟩
def starD (p v : Int) : Int := if p = v then 0 else if p = 0 ∨ v = 0 then 1 else 2
theorem star_v0 {p v : Int} (h : p = v) : starD p v = 0 := if_pos h
theorem star_v1 {p v : Int} (h : p ≠ v) (h1 : p = 0 ∨ v = 0) : starD p v = 1 := by
  unfold starD
  rw [if_neg h, if_pos h1]
theorem star_v2 {p v : Int} (h : p ≠ v) (h1 : ¬(p = 0 ∨ v = 0)) : starD p v = 2 := by
  unfold starD
  rw [if_neg h, if_neg h1]
theorem star_vs (p v : Int) : (p = v ∧ starD p v = 0) ∨ (p ≠ v ∧ (p = 0 ∨ v = 0) ∧ starD p v = 1) ∨ (p ≠ v ∧ ¬(p = 0 ∨ v = 0) ∧ starD p v = 2) := by
  by_cases c : p = v
  · exact .inl ⟨c, star_v0 c⟩
  · by_cases c1 : p = 0 ∨ v = 0
    · exact .inr (.inl ⟨c, c1, star_v1 c c1⟩)
    · exact .inr (.inr ⟨c, c1, star_v2 c c1⟩)
theorem star_dist {n p : Int} (p0 : 0 ≤ p) (p1 : p < n) : IsDist n (starP n) p (starD p) := by
  have go : ∀ x y, (x, y) ∈ starP n → x = 0 ∧ 1 ≤ y := fun x y h => by
    obtain ⟨k, hk, e⟩ := List.mem_map.mp h
    injection e with e1 e2
    have := rng_mem.mp hk
    omega
  have tie : ∀ y, 1 ≤ y → y < n → (0, y) ∈ starP n := fun y y1 y2 => List.mem_map.mpr ⟨y, rng_mem.mpr ⟨y1, y2⟩, rfl⟩
  refine ⟨if_pos rfl, fun v _ _ => ?_, fun a b q => ?_, fun v v0 v1 hne => ?_⟩
  · have := star_vs p v
    omega
  · have : (a = 0 ∧ 1 ≤ b) ∨ (b = 0 ∧ 1 ≤ a) := by
      rcases q with q | q
      · exact .inl (go _ _ q)
      · exact .inr (go _ _ q)
    have h1 := star_vs p a
    have h2 := star_vs p b
    omega
  · by_cases c : p = 0 ∨ v = 0
    · refine ⟨p, p0, p1, ?_, by rw [star_v0 rfl, star_v1 (fun e => hne e.symm) c]; omega⟩
      rcases c with c | c
      · subst c
        exact .inl (tie v (by omega) v1)
      · subst c
        exact .inr (tie p (by omega) p1)
    · refine ⟨0, by omega, by omega, .inl (tie v (by omega) v1), ?_⟩
      rw [star_v1 (by omega) (.inr rfl), star_v2 (fun e => hne e.symm) c]
      omega
def fullD (p v : Int) : Int := if p = v then 0 else 1
theorem full_dist {n p : Int} (p0 : 0 ≤ p) (p1 : p < n) : IsDist n (fullP n) p (fullD p) := by
  refine ⟨if_pos rfl, fun v _ _ => ?_, fun a b q => ?_, fun v v0 v1 hne => ⟨p, p0, p1, ?_, ?_⟩⟩
  · unfold fullD
    split <;> omega
  · unfold fullD
    split <;> split <;> omega
  · by_cases c : p < v
    · exact .inl (full_mem.mpr ⟨p0, c, v1⟩)
    · exact .inr (full_mem.mpr ⟨v0, by show v < p; omega, p1⟩)
  · unfold fullD
    rw [if_pos rfl, if_neg (fun e => hne e.symm)]
    omega
theorem kind_pl {n : Int} {ts : List (Int × Int)} : kindT n ts ("places" : Str) = mkpl (rng 0 n) := by
  unfold kindT
  rw [if_pos (by decide +kernel)]
theorem pl_len {n : Int} : (mkpl (rng 0 n)).length = n.toNat := by
  unfold mkpl
  rw [List.length_map, rng_length]
  omega
section
variable {n : Int} (n2 : 2 ≤ n) (n7 : n ≤ 7)
include n2 n7
theorem ndv_base {g : List (Int × Int)} (u : UpOk n g) : (mkpl (rng 0 n)).Nodup ∧ Sep (farT n (sortP g)) n (mkpl (rng 0 n)) ∧ 1 < (mkpl (rng 0 n)).length := by
  have w := up_web u (by omega) (by omega)
  refine ⟨kind_pl (ts := sortP g) ▸ kindT_nodup w, sep_all w fun t ht => kindT_ok (k := ("places" : Str)) (by rw [kind_pl]; exact ht), by rw [pl_len]; omega⟩
theorem ndv_row : ndv (farT n (sortP (rowP n))) n (mkpl (rng 0 n)) = 1 := by
  obtain ⟨h1, h2, h3⟩ := ndv_base n2 n7 (row_up (n := n))
  have a := ndv_pos h1 h2 h3
  have b := ndv_looks [0] _ h1 h2 (fun p hp => by rw [List.mem_singleton.mp hp]; exact rng_mem.mpr ⟨by omega, by omega⟩) fun x hx y hy hne => by
    obtain ⟨i, rfl, i0, i1⟩ := pl_mem.mp hx
    obtain ⟨j, rfl, j0, j1⟩ := pl_mem.mp hy
    refine ⟨0, by simp, ?_⟩
    show dst n _ 0 i ≠ dst n _ 0 j
    rw [dst_up (row_dist (by omega)) i0 i1, dst_up (row_dist (by omega)) j0 j1]
    exact fun e => hne (congrArg Thing.pl e)
  have b' : ndv (farT n (sortP (rowP n))) n (mkpl (rng 0 n)) ≤ 1 := b
  omega
theorem ndv_star : ndv (farT n (sortP (starP n))) n (mkpl (rng 0 n)) = max2 (1 : Int) (n - 2) := by
  obtain ⟨h1, h2, h3⟩ := ndv_base n2 n7 (star_up (n := n))
  have a := ndv_pos h1 h2 h3
  have hd : ∀ p v, 0 ≤ p → p < n → 0 ≤ v → v < n → dst n (sortP (starP n)) p v = starD p v := fun p v p0 p1 v0 v1 => dst_up (star_dist p0 p1) v0 v1
  have lo := ndv_twins (f := farT n (sortP (starP n))) (n := n) (S := fun t => match t with | .pl i => decide (1 ≤ i ∧ i < n) | _ => false) (fun p hp => ⟨.pl p, fun x y sx sy nx ny => by
    obtain ⟨p0, p1⟩ := rng_mem.mp hp
    cases x with
    | ti _ _ => cases sx
    | pl i =>
      cases y with
      | ti _ _ => cases sy
      | pl j =>
        have hi := of_decide_eq_true sx
        have hj := of_decide_eq_true sy
        have ni : i ≠ p := fun e => nx (by rw [e])
        have nj : j ≠ p := fun e => ny (by rw [e])
        show dst n _ p i = dst n _ p j
        rw [hd p i p0 p1 (by omega) hi.2, hd p j p0 p1 (by omega) hj.2]
        have h1 := star_vs p i
        have h2 := star_vs p j
        omega⟩) _ _ (Nat.le_refl _) (fun z => by rw [z] at h3; exact absurd h3 (by decide)) h1 h2
  have hc : n - 1 ≤ (((mkpl (rng 0 n)).filter fun t => match t with | .pl i => decide (1 ≤ i ∧ i < n) | _ => false).length : Int) := by
    have h4 : (mkpl (rng 1 n)).Nodup := by
      unfold mkpl
      exact List.pairwise_map.mpr ((rng_nodup 1 n).imp fun hab e => hab (by injection e))
    have := nodup_le h4 (ys := (mkpl (rng 0 n)).filter fun t => match t with | .pl i => decide (1 ≤ i ∧ i < n) | _ => false) fun x hx => by
      obtain ⟨i, hi, rfl⟩ := List.mem_map.mp hx
      have := rng_mem.mp hi
      exact List.mem_filter.mpr ⟨pl_mem.mpr ⟨i, rfl, by omega, this.2⟩, decide_eq_true this⟩
    unfold mkpl at this
    rw [List.length_map, rng_length] at this
    unfold mkpl
    omega
  by_cases c : n = 2
  · subst c
    have hi := ndv_looks [0] _ h1 h2 (fun p hp => by rw [List.mem_singleton.mp hp]; exact rng_mem.mpr ⟨by omega, by omega⟩) fun x hx y hy hne => by
      obtain ⟨i, rfl, i0, i1⟩ := pl_mem.mp hx
      obtain ⟨j, rfl, j0, j1⟩ := pl_mem.mp hy
      refine ⟨0, by simp, ?_⟩
      have : i ≠ j := fun e => hne (congrArg Thing.pl e)
      show dst 2 _ 0 i ≠ dst 2 _ 0 j
      rw [hd 0 i (by omega) (by omega) i0 i1, hd 0 j (by omega) (by omega) j0 j1]
      have h1 := star_vs 0 i
      have h2 := star_vs 0 j
      omega
    have hi' : ndv (farT 2 (sortP (starP 2))) 2 (mkpl (rng 0 2)) ≤ 1 := hi
    rw [show max2 (1 : Int) (2 - 2) = 1 by decide]
    omega
  · have hi := ndv_looks (rng 1 (n - 1)) _ h1 h2 (fun p hp => by
      have := rng_mem.mp hp
      exact rng_mem.mpr ⟨by omega, by omega⟩) fun x hx y hy hne => by
      obtain ⟨i, rfl, i0, i1⟩ := pl_mem.mp hx
      obtain ⟨j, rfl, j0, j1⟩ := pl_mem.mp hy
      have hij : i ≠ j := fun e => hne (congrArg Thing.pl e)
      have self : ∀ p i j, 1 ≤ p → p < n - 1 → 0 ≤ i → i < n → 0 ≤ j → j < n → p = i → i ≠ j → dst n (sortP (starP n)) p i ≠ dst n (sortP (starP n)) p j := fun p i j p0 p1 i0 i1 j0 j1 e q => by
        rw [hd p i (by omega) (by omega) i0 i1, hd p j (by omega) (by omega) j0 j1]
        have h1 := star_vs p i
        have h2 := star_vs p j
        omega
      by_cases ci : 1 ≤ i ∧ i < n - 1
      · exact ⟨i, rng_mem.mpr ci, self i i j ci.1 ci.2 i0 i1 j0 j1 rfl hij⟩
      · by_cases cj : 1 ≤ j ∧ j < n - 1
        · exact ⟨j, rng_mem.mpr cj, fun e => self j j i cj.1 cj.2 j0 j1 i0 i1 rfl (fun z => hij z.symm) e.symm⟩
        · refine ⟨1, rng_mem.mpr ⟨by omega, by omega⟩, ?_⟩
          show dst n _ 1 i ≠ dst n _ 1 j
          rw [hd 1 i (by omega) (by omega) i0 i1, hd 1 j (by omega) (by omega) j0 j1]
          have h1 := star_vs 1 i
          have h2 := star_vs 1 j
          omega
    rw [rng_length] at hi
    obtain ⟨x1, x2, x3⟩ := max2_le (1 : Int) (n - 2)
    omega
theorem ndv_full : ndv (farT n (sortP (fullP n))) n (mkpl (rng 0 n)) = n - 1 := by
  obtain ⟨h1, h2, h3⟩ := ndv_base n2 n7 (full_up (n := n))
  have hd : ∀ p v, 0 ≤ p → p < n → 0 ≤ v → v < n → dst n (sortP (fullP n)) p v = fullD p v := fun p v p0 p1 v0 v1 => dst_up (full_dist p0 p1) v0 v1
  have lo := ndv_twins (f := farT n (sortP (fullP n))) (n := n) (S := fun t => match t with | .pl i => decide (0 ≤ i ∧ i < n) | _ => false) (fun p hp => ⟨.pl p, fun x y sx sy nx ny => by
    obtain ⟨p0, p1⟩ := rng_mem.mp hp
    cases x with
    | ti _ _ => cases sx
    | pl i =>
      cases y with
      | ti _ _ => cases sy
      | pl j =>
        have hi := of_decide_eq_true sx
        have hj := of_decide_eq_true sy
        have ni : i ≠ p := fun e => nx (by rw [e])
        have nj : j ≠ p := fun e => ny (by rw [e])
        show dst n _ p i = dst n _ p j
        rw [hd p i p0 p1 (by omega) hi.2, hd p j p0 p1 (by omega) hj.2]
        unfold fullD
        rw [if_neg (fun e => ni e.symm), if_neg (fun e => nj e.symm)]⟩) _ _ (Nat.le_refl _) (fun z => by rw [z] at h3; exact absurd h3 (by decide)) h1 h2
  have hc : n ≤ (((mkpl (rng 0 n)).filter fun t => match t with | .pl i => decide (0 ≤ i ∧ i < n) | _ => false).length : Int) := by
    have e : ((mkpl (rng 0 n)).filter fun t => match t with | .pl i => decide (0 ≤ i ∧ i < n) | _ => false) = mkpl (rng 0 n) := List.filter_eq_self.mpr fun x hx => by
      obtain ⟨i, rfl, i0, i1⟩ := pl_mem.mp hx
      exact decide_eq_true ⟨i0, i1⟩
    rw [e, pl_len]
    omega
  have hi := ndv_looks (rng 0 (n - 1)) _ h1 h2 (fun p hp => by
      have := rng_mem.mp hp
      exact rng_mem.mpr ⟨by omega, by omega⟩) fun x hx y hy hne => by
    obtain ⟨i, rfl, i0, i1⟩ := pl_mem.mp hx
    obtain ⟨j, rfl, j0, j1⟩ := pl_mem.mp hy
    have hij : i ≠ j := fun e => hne (congrArg Thing.pl e)
    by_cases ci : i < n - 1
    · refine ⟨i, rng_mem.mpr ⟨i0, ci⟩, ?_⟩
      show dst n _ i i ≠ dst n _ i j
      rw [hd i i i0 i1 i0 i1, hd i j i0 i1 j0 j1]
      unfold fullD
      rw [if_pos rfl, if_neg hij]
      omega
    · refine ⟨j, rng_mem.mpr ⟨j0, by omega⟩, ?_⟩
      show dst n _ j i ≠ dst n _ j j
      rw [hd j i j0 j1 i0 i1, hd j j j0 j1 j0 j1]
      unfold fullD
      rw [if_pos rfl, if_neg (fun e => hij e.symm)]
      omega
  rw [rng_length] at hi
  omega
end
end G
namespace G
open PySem L2 Z
theorem order_ok {s : List Int} {n : Int} (h : Ok2 s) (n0 : 0 ≤ n) (n1 : n ≤ 1000) : Post (law_order s n) (fun r => r.1.Perm (rng 0 n) ∧ Ok2 r.2) noX := by
  unfold law_order
  refine po_rng (by decide) (by decide) (by omega) (by omega) ?_
  refine po_bind (po_foldP (fun pre (g : List Int × List Int) => g.1.Perm pre ∧ Ok2 g.2) ⟨List.Perm.refl _, h⟩ ?_) fun g hg => po_ok hg
  rintro pre ⟨l, p⟩ x post e ⟨h1, h2⟩
  have h1' : l.Perm pre := h1
  have hx := rng_pre e
  obtain ⟨_, x0, x1⟩ := rng_split e
  have hl := h1'.length_eq
  refine po_bind (next_ok h2 (by omega) (by omega)) fun y ⟨y0, y1, hy⟩ => ?_
  have hi : insR l y.1 x = R.ok (l.take y.1.toNat ++ [x] ++ l.drop y.1.toNat) := by
    unfold insR
    rw [if_pos ⟨by omega, y0, by omega⟩]
  show Post (insR l y.1 x >>= _) _ _
  rw [hi, ok_bind]
  refine ⟨?_, hy⟩
  show (l.take y.1.toNat ++ [x] ++ l.drop y.1.toNat).Perm (pre ++ [x])
  have p1 : (l.take y.1.toNat ++ [x] ++ l.drop y.1.toNat).Perm (l.take y.1.toNat ++ l.drop y.1.toNat ++ [x]) := by
    rw [List.append_assoc, List.append_assoc]
    exact List.Perm.append_left _ List.perm_append_comm
  rw [List.take_append_drop] at p1
  exact p1.trans (h1'.append_right _)
theorem mapR_map {α β γ : Type} {g : γ → α} {f : α → R β} {h : γ → β} : ∀ {l : List γ}, (∀ x ∈ l, f (g x) = R.ok (h x)) → mapR f (l.map g) = R.ok (l.map h)
  | [], _ => rfl
  | x :: l, hx => by
    show (f (g x) >>= _) = _
    rw [hx x List.mem_cons_self, ok_bind, mapR_map fun y hy => hx y (List.mem_cons_of_mem _ hy)]
    rfl
theorem mapG_map {α β γ : Type} {g : γ → α} {f : α → R β} {h : γ → β} {l : List γ} (hl : l.length < 100000) (hx : ∀ x ∈ l, f (g x) = R.ok (h x)) : mapG f (l.map g) = R.ok (l.map h) := by
  unfold mapG
  rw [grd_t (decide_eq_true (by rw [List.length_map]; exact hl))]
  exact mapR_map hx
/-! ### the web with its places called otherwise -/
theorem carry_web {n : Int} {ts : List (Int × Int)} {o : List Int} {k : Str} (ho : o.Perm (rng 0 n)) (h : WebOk n ts) : Carry (farT n ts) (farT n (sortP (ts.map (moved o)))) n (kindT n ts k) (kindT n (sortP (ts.map (moved o))) k) (mvT o) (nmO o) := by
  have h' := moved_web ho h
  refine ⟨kindT_nodup h, kindT_nodup h', fun x' => kind_moved ho h, fun x hx y hy e => mv_inj ho h (kindT_ok hx) (kindT_ok hy) e, fun p hp x hx => ?_, fun p hp => ?_, fun p' hp' => ?_, sep_all h fun t ht => kindT_ok ht⟩
  · obtain ⟨p0, p1⟩ := rng_mem.mp hp
    exact far_moved ho h (kindT_ok hx) p0 p1
  · obtain ⟨p0, p1⟩ := rng_mem.mp hp
    exact rng_mem.mpr (nm_rg ho h p0 p1)
  · obtain ⟨p0, p1⟩ := rng_mem.mp hp'
    obtain ⟨p, q0, q1, e⟩ := perm_surj ho (by have := h.n1; omega) p0 p1
    exact ⟨p, rng_mem.mpr ⟨q0, q1⟩, e⟩
theorem nrm_moved' (o : List Int) (p : Int × Int) : nrm (nmO o p.2, nmO o p.1) = moved o p := by
  refine Prod.ext (show min2 (nmO o p.2) (nmO o p.1) = min2 (nmO o p.1) (nmO o p.2) from ?_) (show max2 (nmO o p.2) (nmO o p.1) = max2 (nmO o p.1) (nmO o p.2) from ?_)
  · rcases mm_cases (nmO o p.2) (nmO o p.1) with ⟨a, b, c⟩ | ⟨a, b, c⟩ <;> rcases mm_cases (nmO o p.1) (nmO o p.2) with ⟨a', b', c'⟩ | ⟨a', b', c'⟩ <;> omega
  · rcases mm_cases (nmO o p.2) (nmO o p.1) with ⟨a, b, c⟩ | ⟨a, b, c⟩ <;> rcases mm_cases (nmO o p.1) (nmO o p.2) with ⟨a', b', c'⟩ | ⟨a', b', c'⟩ <;> omega
theorem made_moved {n : Int} {ts : List (Int × Int)} {o : List Int} (ho : o.Perm (rng 0 n)) (h : WebOk n ts) : made_web n (ts.map fun p => (nmO o p.1, nmO o p.2)) = R.ok (n, ⟨sortP (ts.map (moved o))⟩) := by
  refine made_ok (moved_web ho h) ?_
  rw [List.map_map]
  have : (nrm ∘ fun p : Int × Int => (nmO o p.1, nmO o p.2)) = moved o := rfl
  rw [this]
  exact (sortP_perm _).symm
theorem law_thing_ok {n : Int} {ts : List (Int × Int)} {o : List Int} {t : Thing} (ho : o.Perm (rng 0 n)) (h : WebOk n ts) (ht : ThOk n ts t) : law_thing o t = R.ok (mvT o t) := by
  unfold law_thing
  cases t with
  | pl i =>
    show (asPl (.pl i) >>= _) = _
    rw [show asPl (.pl i) = R.ok i from rfl, ok_bind, nm_get ho ht.1 ht.2]
    rfl
  | ti a b =>
    have hr := h.rg4 _ (show (a, b) ∈ ts from ht)
    show (asTi (.ti a b) >>= _) = _
    rw [show asTi (.ti a b) = R.ok (a, b) from rfl, ok_bind]
    dsimp only
    rw [nm_get ho hr.1 hr.2.1, ok_bind, nm_get ho hr.2.2.1 hr.2.2.2, ok_bind, ok_bind, ok_bind]
    rfl
theorem law_plan_ok {n : Int} {ts : List (Int × Int)} {o : List Int} {base : List Thing} (ho : o.Perm (rng 0 n)) (h : WebOk n ts) (hb : base.length ≤ 8) (hbt : ∀ t ∈ base, ThOk n ts t) (hnd : base.Nodup) : ∀ (d d' : Nat) (l : List Thing), l.length ≤ d → l.length ≤ d' → l ≠ [] → l.Sublist base → law_plan d o (planG (farT n ts) n d' l) = R.ok (planR (farT n ts) n (mvT o) (nmO o) d' l) := by
  have hsep := sep_all h hbt
  intro d
  induction d with
  | zero =>
    intro d' l hd _ hne _
    exact absurd (List.eq_nil_of_length_eq_zero (by omega)) hne
  | succ d ih =>
    intro d' l hd hd' hne hs
    obtain ⟨d', rfl⟩ : ∃ e, d' = e + 1 := ⟨d' - 1, by
      have := List.length_pos_iff.mpr hne
      omega⟩
    have hll : l.length ≤ 8 := Nat.le_trans hs.length_le hb
    show law_plan_b (law_plan d) o (if l.length = 1 then _ else _) = R.ok (if l.length = 1 then _ else _)
    by_cases c : l.length = 1
    · rw [if_pos c, if_pos c]
      match l, c, hs with
      | [t], _, hs =>
        unfold law_plan_b
        have e1 : decide ((Pl.is t).w = ("is" : Str)) = true := decide_eq_true (by rfl)
        show (if decide ((Pl.is t).w = ("is" : Str)) = true then _ else _) = _
        rw [e1, if_pos rfl]
        show (asIs (.is t) >>= _) = _
        rw [show asIs (.is t) = R.ok t from rfl, ok_bind, law_thing_ok ho h (hbt t (hs.subset (List.mem_singleton_self t)))]
        rfl
    · have h1 : 1 < l.length := by
        have := List.length_pos_iff.mpr hne
        omega
      rw [if_neg c, if_neg c]
      obtain ⟨p, hp, hpr, hsp, hv, _⟩ := (hsep.sub fun x hx => hs.subset hx).ndp (hnd.sublist hs) h1
      obtain ⟨p0, p1⟩ := rng_mem.mp hpr
      rw [hp]
      show law_plan_b (law_plan d) o (.ask p ((partsG (farT n ts p) l).map fun q => (q.1, planG (farT n ts) n d' q.2.l))) = R.ok (Pl.ask (nmO o p) ((partsG (farT n ts p) l).map fun q => (q.1, planR (farT n ts) n (mvT o) (nmO o) d' q.2.l)))
      unfold law_plan_b
      have e1 : ∀ L, decide ((Pl.ask p L).w = ("is" : Str)) = false := fun L => decide_eq_false (by show ¬(("ask" : Str) = ("is" : Str)); decide +kernel)
      have hpl := partsG_len (g := farT n ts p) (l := l)
      have n1 : ¬(false = true) := by decide
      rw [e1, if_neg n1]
      rw [show asAsk (Pl.ask p ((partsG (farT n ts p) l).map fun q => (q.1, planG (farT n ts) n d' q.2.l))) = R.ok (p, (partsG (farT n ts p) l).map fun q => (q.1, planG (farT n ts) n d' q.2.l)) from rfl, ok_bind]
      dsimp only
      have hm : ∀ q ∈ partsG (farT n ts p) l, law_plan d o (planG (farT n ts) n d' q.2.l) = R.ok (planR (farT n ts) n (mvT o) (nmO o) d' q.2.l) := fun q hq => by
        have hlt := partsG_lt hsp hq
        exact ih d' q.2.l (by omega) (by omega) (partsG_ne hq) ((partsG_sub hq).trans hs)
      rw [mapG_map (h := fun (q : Int × Tup Thing) => (q.1, planR (farT n ts) n (mvT o) (nmO o) d' q.2.l)) (by omega) fun q hq => by
        show (law_plan d o (planG (farT n ts) n d' q.2.l) >>= _) = _
        rw [hm q hq]
        rfl, ok_bind, nm_get ho p0 p1]
      rfl
theorem post_ex {α : Type} {r : R α} {Q : α → Prop} (h : Post r Q noX) : ∃ a, r = R.ok a ∧ Q a := by
  cases r with
  | ok a => exact ⟨a, rfl, h⟩
  | exc e => exact h.elim
  | bad => exact h.elim
theorem rows_len {f : Int → Thing → Int} {n : Int} {l : List Thing} {rows : List (Tup Thing × Int)} (h : RowsOk f n l rows) (h8 : l.length ≤ 8) : rows.length < 1000 := by
  have := keys_sub h.nd (base := l) (fun t ht => by
    obtain ⟨r, hr, rfl⟩ := List.mem_map.mp ht
    exact (h.sub r hr).1) h8
  rw [mkeys_length] at this
  omega
theorem fil_pick {α : Type} {P : α → Bool} : ∀ l : List α, l.filterMap (fun t => if P t = true then some t else none) = l.filter P
  | [] => rfl
  | x :: l => by
    by_cases c : P x = true
    · rw [List.filterMap_cons_some (b := x) (by rw [if_pos c]), List.filter_cons_of_pos c, fil_pick l]
    · rw [List.filterMap_cons_none (by rw [if_neg c]), List.filter_cons_of_neg c, fil_pick l]
theorem renamed_right {n : Int} {ts : List (Int × Int)} {k : Str} {s : List Int} (hs : Ok2 s) (h : WebOk n ts) (h7 : n ≤ 7) (h1 : 1 ≤ (kindT n ts k).length) (h8 : (kindT n ts k).length ≤ 8) : Post (law_renamed_right s (n, ⟨ts⟩) k) (fun r => r.1 = true ∧ Ok2 r.2) noX := by
  have hn1 := h.n1
  have hok : ∀ t ∈ kindT n ts k, ThOk n ts t := fun t ht => kindT_ok ht
  have hne : kindT n ts k ≠ [] := fun z => by rw [z] at h1; exact absurd h1 (by decide)
  have hnd := kindT_nodup (k := k) h
  unfold law_renamed_right
  refine po_bind (fewest_ok h h7 h1 h8) fun y4 h4 => ?_
  refine po_bind (order_ok hs (by show 0 ≤ n; omega) (by show n ≤ 1000; omega)) ?_
  rintro ⟨o, s'⟩ ⟨ho, hs'⟩
  have ho' : o.Perm (rng 0 n) := ho
  have h' := moved_web ho' h
  have c := carry_web (k := k) ho' h
  have hl : (kindT n (sortP (ts.map (moved o))) k).length = (kindT n ts k).length := by
    rw [← c.all]
    exact c.len (List.Sublist.refl _)
  have hv : ndv (farT n (sortP (ts.map (moved o)))) n (kindT n (sortP (ts.map (moved o))) k) = ndv (farT n ts) n (kindT n ts k) := by
    rw [← c.ndv _ (kindT n ts k) (Nat.le_refl _) (List.Sublist.refl _), c.all]
  dsimp only
  refine po_mapGE (g := fun p => (nmO o p.1, nmO o p.2)) (by have := h.len; omega) (fun p hp => ?_) ?_
  · have hr := h.rg p hp
    rw [nm_get ho' hr.1 (by omega), ok_bind, nm_get ho' (by omega) hr.2.2]
    rfl
  rw [made_moved ho' h, ok_bind]
  refine po_bind (Q := fun (j : Bool) => j = false) ?_ ?_
  · refine po_bind (fewest_ok h' h7 (by omega) (by omega)) fun y24 h24 => ?_
    rw [h24.asks, h4.asks, hv]
    refine po_if (fun z => ?_) fun _ => ?_
    · rw [decide_eq_true rfl] at z
      cases z
    · rw [h4.plan, law_plan_ok ho' h h8 hok hnd 20 20 _ (by omega) (by omega) hne (List.Sublist.refl _), ok_bind]
      have e := asks_ofR c h' h8 (fun t ht => kindT_ok ht) 20 20 (kindT n ts k) (by omega) (by omega) hne (List.Sublist.refl _)
      rw [c.all] at e
      unfold plan_asks
      rw [few_things_ok h' h7 (by omega) (by omega), ok_bind, all_fars_ok h', ok_bind, e]
      show (!decide (some (ndv (farT n ts) n (kindT n ts k)) = some (ndv (farT n ts) n (kindT n ts k)))) = false
      rw [decide_eq_true rfl]
      rfl
  · rintro j rfl
    refine po_if (fun z => by cases z) fun _ => ?_
    rw [things_ok h', ok_bind]
    have hrl := rows_len h4.rows h8
    refine po_bind (po_foldP (fun pre (g : List (Tup Thing × Int)) => g = pre.map fun r => ((⟨carry (kindT n (sortP (ts.map (moved o))) k) (mvT o) r.1.l⟩ : Tup Thing), r.2)) rfl ?_) ?_
    · rintro pre g r post e rfl
      have hr : r ∈ y4.v.2.2.1 := by rw [e]; simp
      obtain ⟨a1, a2, a3⟩ := h4.rows.sub r hr
      have hrl' := a1.length_le
      have hpl : pre.length < 1000 := by
        have := congrArg List.length e
        rw [List.length_append] at this
        omega
      refine po_mapGE (g := mvT o) (by omega) (fun t ht => ?_) ?_
      · rw [law_thing_ok ho' h (hok t (a1.subset ht))]
        rfl
      refine po_filGE (g := fun t => if inB t (r.1.l.map (mvT o)) = true then some t else none) (by omega) (fun t _ => ?_) ?_
      · by_cases q : inB t (r.1.l.map (mvT o)) = true
        · rw [if_pos q, if_pos q]
        · rw [if_neg q, if_neg q]
      refine po_app (by rw [List.length_map]; omega) ?_
      show _ ++ [((⟨_⟩ : Tup Thing), r.2)] = _
      rw [List.map_append, fil_pick]
      rfl
    · rintro g rfl
      have hrows := c.rows h4.rows
      rw [table_shows_ok h' h7 (by omega) (by omega) (by rw [List.length_map]; exact hrl), ok_bind, rows_show hrows (kindT_nodup h') (sep_all h' fun t ht => kindT_ok ht), hv, h4.asks]
      exact ⟨decide_eq_true (Int.le_refl _), hs'⟩
theorem made_okF {n : Int} {ts us : List (Int × Int)} (h : WebOk n ts) (hp : (us.map nrm).Perm ts) : made_webF n us = R.ok (n, ⟨ts⟩) := by
  have e : made_webF = made_web := rfl
  rw [e]
  exact made_ok h hp
theorem known_web {n : Int} {o : List Int} {us : List (Int × Int)} {g : List (Int × Int)} {v : Int} (ho : o.Perm (rng 0 n)) (u : UpOk n g) (n2 : 2 ≤ n) (n7 : n ≤ 7) (hu : (us.map nrm).Perm (g.map (moved o))) (hv : ndv (farT n (sortP g)) n (mkpl (rng 0 n)) = v) :
    Post (made_webF n us >>= fun y47 => fewest_asks y47 ("places" : Str) >>= fun y50 => (do
        if (!decide (y50.v.1 = v)) = true then do
          R.ok true
        else do
          let y57 ← table_shows y47 ("places" : Str) v y50.v.2.2.1
          if (!y57) = true then do
            R.ok true
          else do
            let y60 ← table_shows y47 ("places" : Str) (v + (1 : Int)) y50.v.2.2.1
            R.ok y60 : R (Bool))) (fun j => j = false) noX := by
  have w := up_web u (by omega) (by omega)
  have w' := moved_web ho w
  have c := carry_web (k := ("places" : Str)) ho w
  rw [made_okF w' (((hu.trans ((sortP_perm g).symm.map _))).trans (sortP_perm _).symm), ok_bind]
  have hl : (kindT n (sortP ((sortP g).map (moved o))) ("places" : Str)).length = n.toNat := by rw [kind_pl, pl_len]
  have e := c.ndv _ (kindT n (sortP g) ("places" : Str)) (Nat.le_refl _) (List.Sublist.refl _)
  rw [c.all] at e
  rw [kind_pl (ts := sortP g), hv] at e
  refine po_bind (fewest_ok w' n7 (by omega) (by omega)) fun y50 h50 => ?_
  have e1 : y50.v.1 = v := by rw [h50.asks]; exact e
  have hrl := rows_len h50.rows (by omega)
  rw [e1]
  refine po_if (fun z => ?_) fun _ => ?_
  · rw [decide_eq_true rfl] at z
    cases z
  · rw [table_shows_ok w' n7 (by omega) (by omega) hrl, ok_bind, rows_show h50.rows (kindT_nodup w') (sep_all w' fun t ht => kindT_ok ht), e, decide_eq_true (Int.le_refl _)]
    refine po_if (fun z => by cases z) fun _ => ?_
    rw [table_shows_ok w' n7 (by omega) (by omega) hrl, ok_bind, rows_show h50.rows (kindT_nodup w') (sep_all w' fun t ht => kindT_ok ht), e]
    exact decide_eq_false (by omega)
theorem known_right {s : List Int} (hs : Ok2 s) : Post (law_known_right s) (fun r => r.1 = true ∧ Ok2 r.2) noX := by
  unfold law_known_right
  refine po_bind (next_ok hs (by decide) (by decide)) fun y2 ⟨a0, a1, h2⟩ => ?_
  generalize hn : (2 : Int) + y2.1 = n
  have n2 : 2 ≤ n := by omega
  have n7 : n ≤ 7 := by omega
  refine po_bind (order_ok h2 (by omega) (by omega)) ?_
  rintro ⟨o, s'⟩ ⟨ho, hs'⟩
  have ho' : o.Perm (rng 0 n) := ho
  dsimp only
  refine po_rng (by decide) (by decide) (by omega) (by omega) ?_
  refine po_bind (po_foldP (fun pre (g : List (Int × Int)) => g = pre.flatMap fun b => (rng 0 b).map fun j => (nmO o b, nmO o j)) rfl ?_) ?_
  · rintro pre g b post e rfl
    obtain ⟨ep, b0, b1⟩ := rng_split e
    refine po_rng (by decide) (by decide) (by omega) (by omega) ?_
    refine po_mapGE (g := fun j => (nmO o b, nmO o j)) (by rw [rng_length]; omega) (fun j hj => ?_) ?_
    · have := rng_mem.mp hj
      rw [nm_get ho' b0 b1, ok_bind, nm_get ho' this.1 (by omega)]
      rfl
    · have hlen : (pre.flatMap fun b => (rng 0 b).map fun j => (nmO o b, nmO o j)).length ≤ 1000 := by
        rw [List.length_flatMap]
        have : ∀ l : List Int, (∀ x ∈ l, x < 7) → (l.map fun b => ((rng 0 b).map fun j => (nmO o b, nmO o j)).length).sum ≤ l.length * 7 := fun l => by
          induction l with
          | nil => exact fun _ => Nat.le_refl _
          | cons x l ih =>
            intro hx
            have h1 := ih fun y hy => hx y (List.mem_cons_of_mem _ hy)
            have h2 := hx x List.mem_cons_self
            rw [List.map_cons, List.sum_cons, List.length_map, rng_length, List.length_cons]
            omega
        have h1 := this pre fun x hx => by
          have : x ∈ rng 0 n := by rw [e]; exact List.mem_append_left _ hx
          have := rng_mem.mp this
          omega
        have h2 : pre.length ≤ 7 := by
          rw [ep, rng_length]
          omega
        omega
      refine po_extend (by rw [List.length_map, rng_length]; omega) ?_
      show _ = _
      rw [List.flatMap_append]
      simp
  · rintro g rfl
    refine po_rng (by decide) (by decide) (by omega) (by omega) ?_
    refine po_mapGE (g := fun k => (nmO o k, nmO o (k + 1))) (by rw [rng_length]; omega) (fun k hk => ?_) ?_
    · have := rng_mem.mp hk
      rw [nm_get ho' this.1 (by omega), ok_bind, nm_get ho' (by omega) (by omega)]
      rfl
    refine po_rng (by decide) (by decide) (by omega) (by omega) ?_
    refine po_mapGE (g := fun k => (nmO o 0, nmO o k)) (by rw [rng_length]; omega) (fun k hk => ?_) ?_
    · have := rng_mem.mp hk
      rw [nm_get ho' (by omega) (by omega), ok_bind, nm_get ho' (by omega) (by omega)]
      rfl
    have w1 := known_web (us := (rng 0 (n - 1)).map fun k => (nmO o k, nmO o (k + 1))) ho' row_up n2 n7 (by
      unfold rowP
      rw [List.map_map, List.map_map]
      exact List.Perm.refl _) (ndv_row n2 n7)
    have w2 := known_web (us := (rng 1 n).map fun k => (nmO o 0, nmO o k)) ho' star_up n2 n7 (by
      unfold starP
      rw [List.map_map, List.map_map]
      exact List.Perm.refl _) (ndv_star n2 n7)
    have w3 := known_web (us := (rng 0 n).flatMap fun b => (rng 0 b).map fun j => (nmO o b, nmO o j)) ho' full_up n2 n7 (by
      have e : (((rng 0 n).flatMap fun b => (rng 0 b).map fun j => (nmO o b, nmO o j)).map nrm) = (fullP n).map (moved o) := by
        unfold fullP
        rw [List.map_flatMap, List.map_flatMap]
        congr 1
        funext b
        rw [List.map_map, List.map_map]
        exact List.map_congr_left fun j _ => nrm_moved' o (j, b)
      rw [e]) (ndv_full n2 n7)
    refine po_bind (po_foldX (fun _ => True) trivial fun _ b _ hb => ?_) ?_
    · have hb' : b = ((rng 0 (n - 1)).map (fun k => (nmO o k, nmO o (k + 1))), (1 : Int)) ∨ b = ((rng 1 n).map (fun k => (nmO o 0, nmO o k)), max2 (1 : Int) (n - 2)) ∨ b = ((rng 0 n).flatMap (fun b => (rng 0 b).map fun j => (nmO o b, nmO o j)), n - 1) := by
        simpa using hb
      have fin : ∀ {us : List (Int × Int)} {v : Int}, Post (made_webF n us >>= fun y47 => fewest_asks y47 ("places" : Str) >>= fun y50 => (do
        if (!decide (y50.v.1 = v)) = true then do
          R.ok true
        else do
          let y57 ← table_shows y47 ("places" : Str) v y50.v.2.2.1
          if (!y57) = true then do
            R.ok true
          else do
            let y60 ← table_shows y47 ("places" : Str) (v + (1 : Int)) y50.v.2.2.1
            R.ok y60 : R (Bool))) (fun j => j = false) noX → Post (do
      let y47 ← made_webF n us
      let y50 ← fewest_asks y47 ("places" : Str)
      let j54 ← (do
        if (!decide (y50.v.1 = v)) = true then do
          R.ok true
        else do
          let y57 ← table_shows y47 ("places" : Str) v y50.v.2.2.1
          if (!y57) = true then do
            R.ok true
          else do
            let y60 ← table_shows y47 ("places" : Str) (v + (1 : Int)) y50.v.2.2.1
            R.ok y60 : R (Bool))
      if j54 = true then do
        R.ok (.inl (false, s'))
      else do
        R.ok (.inr (true, ())) : R (Sum (Bool × List Int) (Bool × Unit))) (fun r => ∃ z, r = .inr (true, z) ∧ True) noX := fun {us v} hp => by
        obtain ⟨j, e, hj⟩ := post_ex hp
        subst hj
        cases e1 : made_webF n us with
        | exc x => rw [e1] at e; cases e
        | bad => rw [e1] at e; cases e
        | ok y47 =>
          rw [e1, ok_bind] at e
          rw [ok_bind]
          cases e2 : fewest_asks y47 ("places" : Str) with
          | exc x => rw [e2] at e; cases e
          | bad => rw [e2] at e; cases e
          | ok y50 =>
            rw [e2, ok_bind] at e
            rw [ok_bind]
            rw [e, ok_bind, if_neg (by decide)]
            exact ⟨(), rfl, trivial⟩
      rcases hb' with rfl | rfl | rfl
      · exact fin w1
      · exact fin w2
      · exact fin w3
    · rintro r ⟨g, rfl, _⟩
      exact ⟨rfl, hs'⟩
theorem law_true (ns : List Int) (h : ns.length ≤ 63) : law ⟨ns⟩ = R.ok true := by
  refine po_iff ?_
  unfold law
  refine po_bind (folded_ok h (by decide) (by decide)) fun y3 h3 => ?_
  refine po_bind (po_foldX (fun _ => True) trivial fun _ b _ hb => ?_) ?_
  · refine po_bind (state_ok b) fun y7 h7 => po_bind (law_few_okL h7 (by decide) (by decide)) fun y9 ⟨⟨n, ts, k, hc, _⟩, h9⟩ => ?_
    obtain ⟨r9, s9⟩ := y9
    obtain ⟨he, w, n7, l1, l8⟩ := hc
    have he' : r9 = _ := he
    subst he'
    refine po_bind (Q := fun (j : Bool × List Int) => j.1 = false ∧ Ok2 j.2) ?_ ?_
    · refine po_bind (renamed_right h9 w n7 l1 l8) fun y15 ⟨e15, h15⟩ => ?_
      rw [e15]
      refine po_if (fun z => by cases z) fun _ => ?_
      refine po_bind (known_right h15) fun y18 ⟨e18, h18⟩ => ?_
      rw [e18]
      exact ⟨rfl, h18⟩
    · rintro ⟨j, s⟩ ⟨hj, hs⟩
      have hj' : j = false := hj
      subst hj'
      exact po_if (fun c => by cases c) fun _ => ⟨_, rfl, trivial⟩
  · rintro r ⟨g, rfl, _⟩
    exact rfl
end G
namespace HD
open PySem (PyData Obj Params Str)
@[reducible] noncomputable def en (P : PySem.Params) (k : PySem.Str) (t : Nat) (v : PySem.Value) : PySem.DictEntry := .mk (PyData.keyHash P k) (.str k t) v
@[reducible] noncomputable def ob (c : PySem.Value) (d : PySem.Data) : PySem.Obj := .mk c none d (Array.mk [])
@[reducible] noncomputable def fO (c : PySem.Value) (n : PySem.Str) (s : PySem.Stmt) (pm cd : PySem.Value) : PySem.Obj := .mk c none (.func (PySem.W.fnOf n n (L2.defArgs s) (L2.defBody s) (L2.defScope s) .none .none .none pm none cd .none)) (Array.mk [])
@[reducible] noncomputable def cO (n : PySem.Str) (s : PySem.Stmt) : PySem.Obj := .mk .none none (.func (.mk n n (L2.defArgs s) (.stmts (L2.defBody s)) (L2.defScope s) 0 [] .none .none .none .none none .none .none 0)) (Array.mk [])
@[reducible] noncomputable def i (x : Int) : PySem.Value := .int x 0
@[reducible] noncomputable def n (o : PySem.Obj) (x y : PySem.W.BT) : PySem.W.BT := .node o x y
@[reducible] noncomputable def l (o : PySem.Obj) : PySem.W.BT := .node o .nil .nil
noncomputable def a0 : Str := ⟨⟨[95,95,110,97,109,101,95,95]⟩⟩
noncomputable def a1 : Str := ⟨⟨[72,97,105,108,69,114,114,111,114]⟩⟩
noncomputable def a2 : Str := ⟨⟨[86,97,108,117,101,69,114,114,111,114]⟩⟩
noncomputable def a3 : Str := ⟨⟨[78,111,87,101,98]⟩⟩
noncomputable def a4 : Str := ⟨⟨[78,111,80,108,97,99,101]⟩⟩
noncomputable def a5 : Str := ⟨⟨[84,111,111,77,97,110,121]⟩⟩
noncomputable def a6 : Str := ⟨⟨[65,112,97,114,116]⟩⟩
noncomputable def a7 : Str := ⟨⟨[77,79,83,84,95,80,76,65,67,69,83,95,119,101,98,115]⟩⟩
noncomputable def a8 : Str := ⟨⟨[110,101,97,114,95,108,105,115,116,115]⟩⟩
noncomputable def a9 : Str := ⟨⟨[102,97,114,115,95,98,121]⟩⟩
noncomputable def a10 : Str := ⟨⟨[115,111,114,116,101,100,95,116,105,101,115]⟩⟩
noncomputable def a11 : Str := ⟨⟨[109,97,100,101,95,119,101,98]⟩⟩
noncomputable def a12 : Str := ⟨⟨[112,108,97,99,101,95,97,115,107,101,100]⟩⟩
noncomputable def a13 : Str := ⟨⟨[102,97,114,115,95,102,114,111,109]⟩⟩
noncomputable def a14 : Str := ⟨⟨[116,104,105,110,103,115,95,111,102]⟩⟩
noncomputable def a15 : Str := ⟨⟨[77,79,83,84,95,80,76,65,67,69,83,95,97,115,107,115]⟩⟩
noncomputable def a16 : Str := ⟨⟨[77,79,83,84,95,84,72,73,78,71,83]⟩⟩
noncomputable def a17 : Str := ⟨⟨[102,101,119,95,116,104,105,110,103,115]⟩⟩
noncomputable def a18 : Str := ⟨⟨[97,108,108,95,102,97,114,115]⟩⟩
noncomputable def a19 : Str := ⟨⟨[102,97,114,95,116,104,105,110,103]⟩⟩
noncomputable def a20 : Str := ⟨⟨[112,97,114,116,115,95,98,121]⟩⟩
noncomputable def a21 : Str := ⟨⟨[65,115,107,105,110,103]⟩⟩
noncomputable def a22 : Str := ⟨⟨[102,101,119,101,115,116,95,97,115,107,115]⟩⟩
noncomputable def a23 : Str := ⟨⟨[108,101,110,95,102,105,114,115,116]⟩⟩
noncomputable def a24 : Str := ⟨⟨[112,108,97,110,95,111,102,95,112,97,114,116,115]⟩⟩
noncomputable def a25 : Str := ⟨⟨[97,115,107,115,95,111,102]⟩⟩
noncomputable def a26 : Str := ⟨⟨[112,108,97,110,95,97,115,107,115]⟩⟩
noncomputable def a27 : Str := ⟨⟨[105,115,95,114,111,119,95,115,104,111,119,110]⟩⟩
noncomputable def a28 : Str := ⟨⟨[116,97,98,108,101,95,115,104,111,119,115]⟩⟩
noncomputable def a29 : Str := ⟨⟨[95,108,97,119,95,99,101,108,108,95,97,116]⟩⟩
noncomputable def a30 : Str := ⟨⟨[95,108,97,119,95,102,111,108,100,101,100]⟩⟩
noncomputable def a31 : Str := ⟨⟨[95,108,97,119,95,115,116,97,116,101]⟩⟩
noncomputable def a32 : Str := ⟨⟨[95,108,97,119,95,110,101,120,116]⟩⟩
noncomputable def a33 : Str := ⟨⟨[95,108,97,119,95,119,101,98]⟩⟩
noncomputable def a34 : Str := ⟨⟨[95,108,97,119,95,116,104,105,110,103,115]⟩⟩
noncomputable def a35 : Str := ⟨⟨[95,108,97,119,95,102,101,119]⟩⟩
noncomputable def a36 : Str := ⟨⟨[95,108,97,119,95,116,104,105,110,103]⟩⟩
noncomputable def a37 : Str := ⟨⟨[95,108,97,119,95,112,108,97,110]⟩⟩
noncomputable def a38 : Str := ⟨⟨[95,108,97,119,95,111,114,100,101,114]⟩⟩
noncomputable def a39 : Str := ⟨⟨[95,108,97,119,95,114,101,110,97,109,101,100,95,114,105,103,104,116]⟩⟩
noncomputable def a40 : Str := ⟨⟨[95,108,97,119,95,107,110,111,119,110,95,114,105,103,104,116]⟩⟩
noncomputable def a41 : Str := ⟨⟨[108,97,119]⟩⟩
noncomputable def env : PySem.Env := ⟨(.mk .module [(a0, .local),(a1, .local),(a2, .globalImplicit),(a3, .local),(a4, .local),(a5, .local),(a6, .local),(a7, .local),(a8, .local),(a9, .local),(a10, .local),(a11, .local),(a12, .local),(a13, .local),(a14, .local),(a15, .local),(a16, .local),(a17, .local),(a18, .local),(a19, .local),(a20, .local),(a21, .local),(a22, .local),(a23, .local),(a24, .local),(a25, .local),(a26, .local),(a27, .local),(a28, .local),(a29, .local),(a30, .local),(a31, .local),(a32, .local),(a33, .local),(a34, .local),(a35, .local),(a36, .local),(a37, .local),(a38, .local),(a39, .local),(a40, .local),(a41, .local)] .false .false []), PySem.mainNs, PySem.mainNs, [], PySem.Str.empty, none, (.ref 13), (some 14), 0⟩
noncomputable abbrev q0 (P : Params) : Obj := PySem.W.boot_o_0 P
noncomputable abbrev q1 (P : Params) : Obj := PySem.W.boot_o_1 P
noncomputable abbrev q2 (P : Params) : Obj := PySem.W.boot_o_2 P
noncomputable abbrev q3 (P : Params) : Obj := PySem.W.boot_o_3 P
noncomputable abbrev q4 (P : Params) : Obj := PySem.W.boot_o_4 P
noncomputable abbrev q5 (P : Params) : Obj := PySem.W.boot_o_5 P
noncomputable abbrev q6 (P : Params) : Obj := PySem.W.boot_o_6 P
noncomputable abbrev q7 (P : Params) : Obj := PySem.W.boot_o_7 P
noncomputable abbrev q8 (P : Params) : Obj := PySem.W.boot_o_8 P
noncomputable abbrev q9 (P : Params) : Obj := PySem.W.boot_o_9 P
noncomputable abbrev q10 (P : Params) : Obj := PySem.W.boot_o_10 P
noncomputable abbrev b0 : String := PySem.W.SL.s2766695959194262286x5
noncomputable def o0 : Obj := (ob (.type b0) (.seq ⟨[]⟩ 0))
noncomputable def o1 : Obj := (ob .none (.fields ⟨[]⟩))
noncomputable abbrev b1 : String := PySem.W.SL.s5856160107412720595x4
noncomputable def a42 : Str := ⟨⟨[60,109,111,100,117,108,101,62]⟩⟩
noncomputable def a43 : Str := ⟨⟨[47,99,108,97,105,109,47,99,117,116,46,112,121]⟩⟩
noncomputable def o2 : Obj := (ob (.type b1) (.fields ⟨[(.str a42 182),(.str a42 183),(.str a43 184),(i 1),(i 0),(i 0),(i 0),(i 0),(.ref 11),(.bool .false),(i 181),(.ref 12),.none,.none,.none,.none,(i 185),(i 1),(.str a43 186)]⟩))
noncomputable abbrev b2 : String := PySem.W.SL.s658472552662922059x5
noncomputable def a44 : Str := ⟨⟨[95,95,109,97,105,110,95,95]⟩⟩
noncomputable def o3 : Obj := (.mk (.type b2) none .plain ⟨[(some (.ref 13)),(some (.ref 3)),(some (.ref 3)),none,(some (.str a44 164)),none,(some (.ref 0))]⟩)
noncomputable def hA (P : PySem.Params) : PySem.Heap := ⟨⟨[(q0 P), (q1 P), (q2 P), (q3 P), (q4 P), (q5 P), (q6 P), (q7 P), (q8 P), (q9 P), (q10 P), o0, o1, o2, o3]⟩, (.mk [] [] [] 0 [] [] .false ⟨[]⟩ [] 0 .false .false .false 0 [2000,10,10] .false 0 .true [] [] 0 .false)⟩
noncomputable def tB (P : PySem.Params) : PySem.W.BT := (n (q0 P) (n (q1 P) (n (q3 P) (l (q7 P)) (l o0)) (n (q5 P) (l (q9 P)) (l o2))) (n (q2 P) (n (q4 P) (l (q8 P)) (l o1)) (n (q6 P) (l (q10 P)) (l o3))))
noncomputable abbrev code : PySem.Code := .body (PySem.W.behindTheImports PySem.Challenge.pw_farhail_k57_whole_asks_of_known_webs) env
noncomputable abbrev B : List PySem.Frame := [PySem.W.topFrame (.mk 0 0 0 0)]
theorem pre0 (w : PySem.World) : (fun os : PySem.OsState => PySem.W.Fast.tw15667345088766844465 PySem.W.Fast.tw14364793385576792824 PySem.Challenge.pw_farhail_k57_whole_asks_of_known_webs w 11 (some (.ref 6)) 12 (PySem.Shared.mk (PySem.W.boot_heap w.params) (Array.mk ([] : List PySem.GenState)) PySem.W.boot_drawn PySem.W.boot_toks os) (PySem.W.topStub PySem.Challenge.pw_farhail_k57_whole_asks_of_known_webs)) = fun os => some ((PySem.Shared.mk (hA w.params) (Array.mk ([] : List PySem.GenState)) (.mk 0 0 0 0) 187 os), PySem.Thread.mk (PySem.W.Fast.tw11892475500146522536 PySem.W.Fast.tw14364793385576792824 code) code (.mk 0 0 0 0) B) := by kernel_rfl
theorem pre (w : PySem.World) (os : PySem.OsState) : PySem.W.topGo PySem.treeTable PySem.Challenge.pw_farhail_k57_whole_asks_of_known_webs w 11 (some (.ref 6)) 12 (PySem.Shared.mk (PySem.W.boot_heap w.params) (Array.mk ([] : List PySem.GenState)) PySem.W.boot_drawn PySem.W.boot_toks os) (PySem.W.topStub PySem.Challenge.pw_farhail_k57_whole_asks_of_known_webs) = some ((PySem.Shared.mk (hA w.params) (Array.mk ([] : List PySem.GenState)) (.mk 0 0 0 0) 187 os), PySem.Thread.mk (PySem.denote PySem.treeTable code) code (.mk 0 0 0 0) B) := by rw [PySem.W.Fast.te15667345088766844465, PySem.W.Fast.te14364793385576792824, PySem.W.Fast.te11892475500146522536]; exact congrFun (pre0 w) os
theorem block0 (w : PySem.World) : (fun os : PySem.OsState => PySem.W.Fast.tw14374325043358763698 PySem.W.Fast.tw14364793385576792824 PySem.Challenge.pw_farhail_k57_whole_asks_of_known_webs w 11 (some (.ref 6)) 1 1 (PySem.Shared.mk (hA w.params) (Array.mk ([] : List PySem.GenState)) (.mk 0 0 0 0) 187 os) (PySem.W.blockOf (PySem.W.behindTheImports PySem.Challenge.pw_farhail_k57_whole_asks_of_known_webs) env code (.mk 0 0 0 0) B)) = fun os => some (PySem.Flow.next, (PySem.W.SharedT.mk (tB w.params) 15 (.mk [] [] [] 0 [] [] .false ⟨[]⟩ [] 0 .false .false .false 0 [2000,10,10] .false 0 .true [] [] 0 .false) (Array.mk ([] : List PySem.GenState)) (.mk 0 0 0 0) 187 os).abs, code, (.mk 0 0 0 0)) := by kernel_rfl
theorem block (w : PySem.World) (os : PySem.OsState) : PySem.W.segRun PySem.treeTable PySem.Challenge.pw_farhail_k57_whole_asks_of_known_webs w 11 (some (.ref 6)) 1 1 (PySem.Shared.mk (hA w.params) (Array.mk ([] : List PySem.GenState)) (.mk 0 0 0 0) 187 os) (PySem.W.blockOf (PySem.W.behindTheImports PySem.Challenge.pw_farhail_k57_whole_asks_of_known_webs) env code (.mk 0 0 0 0) B) = some (PySem.Flow.next, (PySem.W.SharedT.mk (tB w.params) 15 (.mk [] [] [] 0 [] [] .false ⟨[]⟩ [] 0 .false .false .false 0 [2000,10,10] .false 0 .true [] [] 0 .false) (Array.mk ([] : List PySem.GenState)) (.mk 0 0 0 0) 187 os).abs, code, (.mk 0 0 0 0)) := by rw [PySem.W.Fast.te14374325043358763698, PySem.W.Fast.te14364793385576792824]; exact congrFun (block0 w) os
noncomputable def a45 : Str := ⟨⟨[102,97,114,104,97,105,108,46,101,114,114,111,114,115]⟩⟩
noncomputable def sts0 : List PySem.Stmt := [(.Assign [(.Name a0 (.mk 1 0 1 8))] (.Constant (.str a45) 0 (.mk 1 11 1 27)) (.mk 1 0 1 27)), (.ClassDef a1 [(.Name a2 (.mk 2 16 2 26))] [] [(.Pass (.mk 3 4 3 8))] [] [] (.mk .class [] .false .false []) none a1 [] (.mk 2 0 3 8))]
noncomputable abbrev b3 : String := PySem.W.SL.s14018661285674007319x4
noncomputable def a46 : Str := ⟨⟨[95,95,100,111,99,95,95]⟩⟩
noncomputable def a47 : Str := ⟨⟨[95,95,112,97,99,107,97,103,101,95,95]⟩⟩
noncomputable def a48 : Str := ⟨⟨[95,95,108,111,97,100,101,114,95,95]⟩⟩
noncomputable abbrev b4 : String := PySem.W.SL.s7097527257260152453x26
noncomputable def a49 : Str := ⟨⟨[95,95,115,112,101,99,95,95]⟩⟩
noncomputable def a50 : Str := ⟨⟨[95,95,97,110,110,111,116,97,116,105,111,110,115,95,95]⟩⟩
noncomputable def a51 : Str := ⟨⟨[95,95,98,117,105,108,116,105,110,115,95,95]⟩⟩
noncomputable def a52 : Str := ⟨⟨[95,95,102,105,108,101,95,95]⟩⟩
noncomputable def a53 : Str := ⟨⟨[95,95,99,97,99,104,101,100,95,95]⟩⟩
noncomputable def o4 (P : Params) : Obj := (ob (.type b3) (.dict ⟨[(en P a0 165 (.str a45 187)),(en P a46 166 .none),(en P a47 167 .none),(en P a48 168 (.builtin b4)),(en P a49 169 .none),(en P a50 170 (.ref 6)),(en P a51 171 (.ref 4)),(en P a52 173 (.str a43 172)),(en P a53 174 .none),(en P a1 206 (.ref 24))]⟩ 10))
noncomputable def o5 : Obj := (ob .none (.fields ⟨[(i 2),(i 0),(.ref 20)]⟩))
noncomputable abbrev b5 : String := PySem.W.SL.s6070975301684473832x10
noncomputable def o6 : Obj := (ob (.type b0) (.seq ⟨[(.type b5)]⟩ 0))
noncomputable abbrev b6 : String := PySem.W.SL.s11030030927630378310x26
noncomputable abbrev b7 : String := PySem.W.SL.s10062305145149207511x16
noncomputable abbrev b8 : String := PySem.W.SL.s17162191345867700912x4
noncomputable def o7 : Obj := (ob (.type b6) (.fields ⟨[(.builtin b7),(.type b8)]⟩))
noncomputable def a54 : Str := ⟨⟨[95,95,109,111,100,117,108,101,95,95]⟩⟩
noncomputable def a55 : Str := ⟨⟨[95,95,113,117,97,108,110,97,109,101,95,95]⟩⟩
noncomputable def a56 : Str := ⟨⟨[95,95,102,105,114,115,116,108,105,110,101,110,111,95,95]⟩⟩
noncomputable def a57 : Str := ⟨⟨[95,95,115,116,97,116,105,99,95,97,116,116,114,105,98,117,116,101,115,95,95]⟩⟩
noncomputable def o8 (P : Params) : Obj := (ob (.type b3) (.dict ⟨[(en P a54 196 (.str a45 187)),(en P a55 198 (.str a1 197)),(en P a56 200 (.int 2 199)),(en P a57 201 (.ref 22))]⟩ 4))
noncomputable def o9 : Obj := (ob (.type b0) (.seq ⟨[]⟩ 0))
noncomputable def o10 : Obj := (ob .none (.fields ⟨[]⟩))
noncomputable def o11 : Obj := (ob (.type b1) (.fields ⟨[(.str a1 191),(.str a1 192),(.str a43 193),(i 2),(i 0),(i 0),(i 0),(i 0),(.ref 18),(.bool .false),(i 181),(.ref 19),.none,.none,.none,.none,(i 194),(i 2),(.str a43 195)]⟩))
noncomputable def o12 : Obj := (.mk (.type b2) none .plain ⟨[(some (.ref 20)),(some (.ref 3)),(some (.ref 17)),none,(some (.str a45 187)),none,(some (.ref 0))]⟩)
noncomputable def o13 : Obj := (ob (.type b0) (.seq ⟨[]⟩ 0))
noncomputable def a58 : Str := ⟨⟨[95,95,119,101,97,107,114,101,102,95,95]⟩⟩
noncomputable def o14 (P : Params) : Obj := (ob (.type b3) (.dict ⟨[(en P a54 196 (.str a45 187)),(en P a56 200 (.int 2 199)),(en P a57 201 (.ref 22)),(en P a58 203 (.ref 25)),(en P a46 204 .none)]⟩ 3))
noncomputable abbrev b9 : String := PySem.W.SL.s5946037652744460706x9
noncomputable abbrev b10 : String := PySem.W.SL.s4278001404047624695x13
noncomputable abbrev b11 : String := PySem.W.SL.s2742458400755230247x6
noncomputable abbrev b12 : String := PySem.W.SL.s4209523147560561109x18
noncomputable def o15 : Obj := (.mk (.type b8) none (.cls (.mk a1 [(.type b5)] [(.ref 24),(.type b5),(.type b9),(.type b10),(.type b11)] 23 a1 .true [] [] .false none .false)) ⟨[(some (.ref 15)),none,(some (.str a1 189)),(some (.str a1 197)),(some (.builtin b12)),(some (.bool .true))]⟩)
noncomputable abbrev b13 : String := PySem.W.SL.s14755015743595814543x17
noncomputable abbrev b14 : String := PySem.W.SL.s10220274742760427390x26
noncomputable def o16 : Obj := (ob (.type b13) (.fields ⟨[(.str a58 202),(.ref 24),(.builtin b14),.none]⟩))
noncomputable abbrev b15 : String := PySem.W.SL.s4290257624100764138x5
noncomputable def o17 : Obj := (ob (.type b15) (.fields ⟨[(.ref 24),(.ref 24),(.ref 24)]⟩))
noncomputable abbrev b16 : String := PySem.W.SL.s4860613602091757760x24
noncomputable def o18 : Obj := (ob (.type b6) (.fields ⟨[(.builtin b16),(.ref 24)]⟩))
noncomputable def t0 (P : PySem.Params) : PySem.W.BT := (n (q0 P) (n (q1 P) (n (o4 P) (n (q7 P) (l o6) (l (o14 P))) (n o0 (l o10) (l o18))) (n (q5 P) (n (q9 P) (l (o8 P)) (l o16)) (n o2 (l o12) .nil))) (n (q2 P) (n (q4 P) (n (q8 P) (l o7) (l o15)) (n o5 (l o11) .nil)) (n (q6 P) (n (q10 P) (l o9) (l o17)) (n o3 (l o13) .nil))))
theorem pz0 : ∀ w : PySem.World, (fun os : PySem.OsState => PySem.W.Fast.tw10110043849684766642 PySem.W.Fast.tw14364793385576792824 PySem.Challenge.pw_farhail_k57_whole_asks_of_known_webs w 11 (some (.ref 6)) 1 196 (PySem.W.SharedT.mk (tB w.params) 15 (.mk [] [] [] 0 [] [] .false ⟨[]⟩ [] 0 .false .false .false 0 [2000,10,10] .false 0 .true [] [] 0 .false) (Array.mk ([] : List PySem.GenState)) (.mk 0 0 0 0) 187 os) (PySem.W.piecesOf sts0 env code (.mk 0 0 0 0) B)) = fun os => some (PySem.Flow.next, (PySem.W.SharedT.mk (t0 w.params) 28 (.mk [] [] [] 0 [] [] .false ⟨[]⟩ [] 0 .false .false .false 0 [2000,10,10] .false 0 .true [] [] 0 .false) (Array.mk ([] : List PySem.GenState)) (.mk 0 0 0 0) 207 os), code, (.mk 2 0 3 8)) := fun w => by kernel_rfl
theorem p0 (w : PySem.World) (os : PySem.OsState) : PySem.W.segRun PySem.treeTable PySem.Challenge.pw_farhail_k57_whole_asks_of_known_webs w 11 (some (.ref 6)) 1 196 (PySem.W.SharedT.mk (tB w.params) 15 (.mk [] [] [] 0 [] [] .false ⟨[]⟩ [] 0 .false .false .false 0 [2000,10,10] .false 0 .true [] [] 0 .false) (Array.mk ([] : List PySem.GenState)) (.mk 0 0 0 0) 187 os).abs (PySem.W.piecesOf sts0 env code (.mk 0 0 0 0) B) = some (PySem.Flow.next, (PySem.W.SharedT.mk (t0 w.params) 28 (.mk [] [] [] 0 [] [] .false ⟨[]⟩ [] 0 .false .false .false 0 [2000,10,10] .false 0 .true [] [] 0 .false) (Array.mk ([] : List PySem.GenState)) (.mk 0 0 0 0) 207 os).abs, code, (.mk 2 0 3 8)) := PySem.W.segRun_of (by rw [PySem.W.Fast.te10110043849684766642, PySem.W.Fast.te14364793385576792824]; exact congrFun (pz0 w) os)
noncomputable def sts1 : List PySem.Stmt := [(.ClassDef a3 [(.Name a1 (.mk 4 12 4 21))] [] [(.Pass (.mk 5 4 5 8))] [] [] (.mk .class [] .false .false []) none a3 [] (.mk 4 0 5 8))]
noncomputable def o19 (P : Params) : Obj := (ob (.type b3) (.dict ⟨[(en P a0 165 (.str a45 187)),(en P a46 166 .none),(en P a47 167 .none),(en P a48 168 (.builtin b4)),(en P a49 169 .none),(en P a50 170 (.ref 6)),(en P a51 171 (.ref 4)),(en P a52 173 (.str a43 172)),(en P a53 174 .none),(en P a1 206 (.ref 24)),(en P a3 222 (.ref 37))]⟩ 11))
noncomputable def o20 : Obj := (ob .none (.fields ⟨[(i 2),(i 0),(.ref 20),(i 4),(i 0),(.ref 33)]⟩))
noncomputable def o21 : Obj := (.mk (.type b8) none (.cls (.mk a1 [(.type b5)] [(.ref 24),(.type b5),(.type b9),(.type b10),(.type b11)] 23 a1 .true [] [(.ref 37)] .false none .false)) ⟨[(some (.ref 15)),none,(some (.str a1 189)),(some (.str a1 197)),(some (.builtin b12)),(some (.bool .true))]⟩)
noncomputable def o22 : Obj := (ob (.type b0) (.seq ⟨[(.ref 24)]⟩ 0))
noncomputable def o23 : Obj := (ob (.type b6) (.fields ⟨[(.builtin b7),(.type b8)]⟩))
noncomputable def o24 (P : Params) : Obj := (ob (.type b3) (.dict ⟨[(en P a54 214 (.str a45 187)),(en P a55 216 (.str a3 215)),(en P a56 218 (.int 4 217)),(en P a57 219 (.ref 35))]⟩ 4))
noncomputable def o25 : Obj := (ob (.type b0) (.seq ⟨[]⟩ 0))
noncomputable def o26 : Obj := (ob .none (.fields ⟨[]⟩))
noncomputable def o27 : Obj := (ob (.type b1) (.fields ⟨[(.str a3 209),(.str a3 210),(.str a43 211),(i 4),(i 0),(i 0),(i 0),(i 0),(.ref 31),(.bool .false),(i 181),(.ref 32),.none,.none,.none,.none,(i 212),(i 4),(.str a43 213)]⟩))
noncomputable def o28 : Obj := (.mk (.type b2) none .plain ⟨[(some (.ref 33)),(some (.ref 3)),(some (.ref 30)),none,(some (.str a45 187)),none,(some (.ref 0))]⟩)
noncomputable def o29 : Obj := (ob (.type b0) (.seq ⟨[]⟩ 0))
noncomputable def o30 (P : Params) : Obj := (ob (.type b3) (.dict ⟨[(en P a54 214 (.str a45 187)),(en P a56 218 (.int 4 217)),(en P a57 219 (.ref 35)),(en P a46 220 .none)]⟩ 2))
noncomputable def o31 : Obj := (.mk (.type b8) none (.cls (.mk a3 [(.ref 24)] [(.ref 37),(.ref 24),(.type b5),(.type b9),(.type b10),(.type b11)] 36 a3 .true [] [] .false none .false)) ⟨[(some (.ref 28)),none,(some (.str a3 207)),(some (.str a3 215)),(some (.builtin b12)),(some (.bool .true))]⟩)
noncomputable def o32 : Obj := (ob (.type b15) (.fields ⟨[(.ref 37),(.ref 37),(.ref 37)]⟩))
noncomputable def o33 : Obj := (ob (.type b6) (.fields ⟨[(.builtin b16),(.ref 37)]⟩))
noncomputable def t1 (P : PySem.Params) : PySem.W.BT := (n (q0 P) (n (q1 P) (n (o19 P) (n (q7 P) (n o6 (l o25) .nil) (n (o14 P) (l o33) .nil)) (n o0 (n o10 (l o29) .nil) (l o18))) (n (q5 P) (n (q9 P) (n (o8 P) (l o27) .nil) (l o16)) (n o2 (n o12 (l o31) .nil) (l o23)))) (n (q2 P) (n (q4 P) (n (q8 P) (n o7 (l o26) .nil) (l o21)) (n o20 (n o11 (l (o30 P)) .nil) (l o22))) (n (q6 P) (n (q10 P) (n o9 (l o28) .nil) (l o17)) (n o3 (n o13 (l o32) .nil) (l (o24 P))))))
theorem pz1 : ∀ w : PySem.World, (fun os : PySem.OsState => PySem.W.Fast.tw10110043849684766642 PySem.W.Fast.tw14364793385576792824 PySem.Challenge.pw_farhail_k57_whole_asks_of_known_webs w 11 (some (.ref 6)) 1 214 (PySem.W.SharedT.mk (t0 w.params) 28 (.mk [] [] [] 0 [] [] .false ⟨[]⟩ [] 0 .false .false .false 0 [2000,10,10] .false 0 .true [] [] 0 .false) (Array.mk ([] : List PySem.GenState)) (.mk 0 0 0 0) 207 os) (PySem.W.piecesOf sts1 env code (.mk 2 0 3 8) B)) = fun os => some (PySem.Flow.next, (PySem.W.SharedT.mk (t1 w.params) 40 (.mk [] [] [] 0 [] [] .false ⟨[]⟩ [] 0 .false .false .false 0 [2000,10,10] .false 0 .true [] [] 0 .false) (Array.mk ([] : List PySem.GenState)) (.mk 0 0 0 0) 223 os), code, (.mk 4 0 5 8)) := fun w => by kernel_rfl
theorem p1 (w : PySem.World) (os : PySem.OsState) : PySem.W.segRun PySem.treeTable PySem.Challenge.pw_farhail_k57_whole_asks_of_known_webs w 11 (some (.ref 6)) 1 214 (PySem.W.SharedT.mk (t0 w.params) 28 (.mk [] [] [] 0 [] [] .false ⟨[]⟩ [] 0 .false .false .false 0 [2000,10,10] .false 0 .true [] [] 0 .false) (Array.mk ([] : List PySem.GenState)) (.mk 0 0 0 0) 207 os).abs (PySem.W.piecesOf sts1 env code (.mk 2 0 3 8) B) = some (PySem.Flow.next, (PySem.W.SharedT.mk (t1 w.params) 40 (.mk [] [] [] 0 [] [] .false ⟨[]⟩ [] 0 .false .false .false 0 [2000,10,10] .false 0 .true [] [] 0 .false) (Array.mk ([] : List PySem.GenState)) (.mk 0 0 0 0) 223 os).abs, code, (.mk 4 0 5 8)) := PySem.W.segRun_of (by rw [PySem.W.Fast.te10110043849684766642, PySem.W.Fast.te14364793385576792824]; exact congrFun (pz1 w) os)
noncomputable def sts2 : List PySem.Stmt := [(.ClassDef a4 [(.Name a1 (.mk 6 14 6 23))] [] [(.Pass (.mk 7 4 7 8))] [] [] (.mk .class [] .false .false []) none a4 [] (.mk 6 0 7 8))]
noncomputable def o34 (P : Params) : Obj := (ob (.type b3) (.dict ⟨[(en P a0 165 (.str a45 187)),(en P a46 166 .none),(en P a47 167 .none),(en P a48 168 (.builtin b4)),(en P a49 169 .none),(en P a50 170 (.ref 6)),(en P a51 171 (.ref 4)),(en P a52 173 (.str a43 172)),(en P a53 174 .none),(en P a1 206 (.ref 24)),(en P a3 222 (.ref 37)),(en P a4 238 (.ref 49))]⟩ 12))
noncomputable def o35 : Obj := (ob .none (.fields ⟨[(i 2),(i 0),(.ref 20),(i 4),(i 0),(.ref 33),(i 6),(i 0),(.ref 45)]⟩))
noncomputable def o36 : Obj := (.mk (.type b8) none (.cls (.mk a1 [(.type b5)] [(.ref 24),(.type b5),(.type b9),(.type b10),(.type b11)] 23 a1 .true [] [(.ref 37),(.ref 49)] .false none .false)) ⟨[(some (.ref 15)),none,(some (.str a1 189)),(some (.str a1 197)),(some (.builtin b12)),(some (.bool .true))]⟩)
noncomputable def o37 : Obj := (ob (.type b0) (.seq ⟨[(.ref 24)]⟩ 0))
noncomputable def o38 : Obj := (ob (.type b6) (.fields ⟨[(.builtin b7),(.type b8)]⟩))
noncomputable def o39 (P : Params) : Obj := (ob (.type b3) (.dict ⟨[(en P a54 230 (.str a45 187)),(en P a55 232 (.str a4 231)),(en P a56 234 (.int 6 233)),(en P a57 235 (.ref 47))]⟩ 4))
noncomputable def o40 : Obj := (ob (.type b0) (.seq ⟨[]⟩ 0))
noncomputable def o41 : Obj := (ob .none (.fields ⟨[]⟩))
noncomputable def o42 : Obj := (ob (.type b1) (.fields ⟨[(.str a4 225),(.str a4 226),(.str a43 227),(i 6),(i 0),(i 0),(i 0),(i 0),(.ref 43),(.bool .false),(i 181),(.ref 44),.none,.none,.none,.none,(i 228),(i 6),(.str a43 229)]⟩))
noncomputable def o43 : Obj := (.mk (.type b2) none .plain ⟨[(some (.ref 45)),(some (.ref 3)),(some (.ref 42)),none,(some (.str a45 187)),none,(some (.ref 0))]⟩)
noncomputable def o44 : Obj := (ob (.type b0) (.seq ⟨[]⟩ 0))
noncomputable def o45 (P : Params) : Obj := (ob (.type b3) (.dict ⟨[(en P a54 230 (.str a45 187)),(en P a56 234 (.int 6 233)),(en P a57 235 (.ref 47)),(en P a46 236 .none)]⟩ 2))
noncomputable def o46 : Obj := (.mk (.type b8) none (.cls (.mk a4 [(.ref 24)] [(.ref 49),(.ref 24),(.type b5),(.type b9),(.type b10),(.type b11)] 48 a4 .true [] [] .false none .false)) ⟨[(some (.ref 40)),none,(some (.str a4 223)),(some (.str a4 231)),(some (.builtin b12)),(some (.bool .true))]⟩)
noncomputable def o47 : Obj := (ob (.type b15) (.fields ⟨[(.ref 49),(.ref 49),(.ref 49)]⟩))
noncomputable def o48 : Obj := (ob (.type b6) (.fields ⟨[(.builtin b16),(.ref 49)]⟩))
noncomputable def t2 (P : PySem.Params) : PySem.W.BT := (n (q0 P) (n (q1 P) (n (o34 P) (n (q7 P) (n o6 (l o25) (l o44)) (n (o14 P) (l o33) .nil)) (n o0 (n o10 (l o29) (l o48)) (n o18 (l o40) .nil))) (n (q5 P) (n (q9 P) (n (o8 P) (l o27) (l o46)) (n o16 (l o38) .nil)) (n o2 (n o12 (l o31) .nil) (n o23 (l o42) .nil)))) (n (q2 P) (n (q4 P) (n (q8 P) (n o7 (l o26) (l (o45 P))) (n o36 (l o37) .nil)) (n o35 (n o11 (l (o30 P)) .nil) (n o22 (l o41) .nil))) (n (q6 P) (n (q10 P) (n o9 (l o28) (l o47)) (n o17 (l (o39 P)) .nil)) (n o3 (n o13 (l o32) .nil) (n (o24 P) (l o43) .nil)))))
theorem pz2 : ∀ w : PySem.World, (fun os : PySem.OsState => PySem.W.Fast.tw10110043849684766642 PySem.W.Fast.tw14364793385576792824 PySem.Challenge.pw_farhail_k57_whole_asks_of_known_webs w 11 (some (.ref 6)) 1 214 (PySem.W.SharedT.mk (t1 w.params) 40 (.mk [] [] [] 0 [] [] .false ⟨[]⟩ [] 0 .false .false .false 0 [2000,10,10] .false 0 .true [] [] 0 .false) (Array.mk ([] : List PySem.GenState)) (.mk 0 0 0 0) 223 os) (PySem.W.piecesOf sts2 env code (.mk 4 0 5 8) B)) = fun os => some (PySem.Flow.next, (PySem.W.SharedT.mk (t2 w.params) 52 (.mk [] [] [] 0 [] [] .false ⟨[]⟩ [] 0 .false .false .false 0 [2000,10,10] .false 0 .true [] [] 0 .false) (Array.mk ([] : List PySem.GenState)) (.mk 0 0 0 0) 239 os), code, (.mk 6 0 7 8)) := fun w => by kernel_rfl
theorem p2 (w : PySem.World) (os : PySem.OsState) : PySem.W.segRun PySem.treeTable PySem.Challenge.pw_farhail_k57_whole_asks_of_known_webs w 11 (some (.ref 6)) 1 214 (PySem.W.SharedT.mk (t1 w.params) 40 (.mk [] [] [] 0 [] [] .false ⟨[]⟩ [] 0 .false .false .false 0 [2000,10,10] .false 0 .true [] [] 0 .false) (Array.mk ([] : List PySem.GenState)) (.mk 0 0 0 0) 223 os).abs (PySem.W.piecesOf sts2 env code (.mk 4 0 5 8) B) = some (PySem.Flow.next, (PySem.W.SharedT.mk (t2 w.params) 52 (.mk [] [] [] 0 [] [] .false ⟨[]⟩ [] 0 .false .false .false 0 [2000,10,10] .false 0 .true [] [] 0 .false) (Array.mk ([] : List PySem.GenState)) (.mk 0 0 0 0) 239 os).abs, code, (.mk 6 0 7 8)) := PySem.W.segRun_of (by rw [PySem.W.Fast.te10110043849684766642, PySem.W.Fast.te14364793385576792824]; exact congrFun (pz2 w) os)
noncomputable def sts3 : List PySem.Stmt := [(.ClassDef a5 [(.Name a1 (.mk 8 14 8 23))] [] [(.Pass (.mk 9 4 9 8))] [] [] (.mk .class [] .false .false []) none a5 [] (.mk 8 0 9 8))]
noncomputable def o49 (P : Params) : Obj := (ob (.type b3) (.dict ⟨[(en P a0 165 (.str a45 187)),(en P a46 166 .none),(en P a47 167 .none),(en P a48 168 (.builtin b4)),(en P a49 169 .none),(en P a50 170 (.ref 6)),(en P a51 171 (.ref 4)),(en P a52 173 (.str a43 172)),(en P a53 174 .none),(en P a1 206 (.ref 24)),(en P a3 222 (.ref 37)),(en P a4 238 (.ref 49)),(en P a5 254 (.ref 61))]⟩ 13))
noncomputable def o50 : Obj := (ob .none (.fields ⟨[(i 2),(i 0),(.ref 20),(i 4),(i 0),(.ref 33),(i 6),(i 0),(.ref 45),(i 8),(i 0),(.ref 57)]⟩))
noncomputable def o51 : Obj := (.mk (.type b8) none (.cls (.mk a1 [(.type b5)] [(.ref 24),(.type b5),(.type b9),(.type b10),(.type b11)] 23 a1 .true [] [(.ref 37),(.ref 49),(.ref 61)] .false none .false)) ⟨[(some (.ref 15)),none,(some (.str a1 189)),(some (.str a1 197)),(some (.builtin b12)),(some (.bool .true))]⟩)
noncomputable def o52 : Obj := (ob (.type b0) (.seq ⟨[(.ref 24)]⟩ 0))
noncomputable def o53 : Obj := (ob (.type b6) (.fields ⟨[(.builtin b7),(.type b8)]⟩))
noncomputable def o54 (P : Params) : Obj := (ob (.type b3) (.dict ⟨[(en P a54 246 (.str a45 187)),(en P a55 248 (.str a5 247)),(en P a56 250 (.int 8 249)),(en P a57 251 (.ref 59))]⟩ 4))
noncomputable def o55 : Obj := (ob (.type b0) (.seq ⟨[]⟩ 0))
noncomputable def o56 : Obj := (ob .none (.fields ⟨[]⟩))
noncomputable def o57 : Obj := (ob (.type b1) (.fields ⟨[(.str a5 241),(.str a5 242),(.str a43 243),(i 8),(i 0),(i 0),(i 0),(i 0),(.ref 55),(.bool .false),(i 181),(.ref 56),.none,.none,.none,.none,(i 244),(i 8),(.str a43 245)]⟩))
noncomputable def o58 : Obj := (.mk (.type b2) none .plain ⟨[(some (.ref 57)),(some (.ref 3)),(some (.ref 54)),none,(some (.str a45 187)),none,(some (.ref 0))]⟩)
noncomputable def o59 : Obj := (ob (.type b0) (.seq ⟨[]⟩ 0))
noncomputable def o60 (P : Params) : Obj := (ob (.type b3) (.dict ⟨[(en P a54 246 (.str a45 187)),(en P a56 250 (.int 8 249)),(en P a57 251 (.ref 59)),(en P a46 252 .none)]⟩ 2))
noncomputable def o61 : Obj := (.mk (.type b8) none (.cls (.mk a5 [(.ref 24)] [(.ref 61),(.ref 24),(.type b5),(.type b9),(.type b10),(.type b11)] 60 a5 .true [] [] .false none .false)) ⟨[(some (.ref 52)),none,(some (.str a5 239)),(some (.str a5 247)),(some (.builtin b12)),(some (.bool .true))]⟩)
noncomputable def o62 : Obj := (ob (.type b15) (.fields ⟨[(.ref 61),(.ref 61),(.ref 61)]⟩))
noncomputable def o63 : Obj := (ob (.type b6) (.fields ⟨[(.builtin b16),(.ref 61)]⟩))
noncomputable def t3 (P : PySem.Params) : PySem.W.BT := (n (q0 P) (n (q1 P) (n (o49 P) (n (q7 P) (n o6 (n o25 (l o63) .nil) (l o44)) (n (o14 P) (l o33) (l o55))) (n o0 (n o10 (l o29) (l o48)) (n o18 (l o40) (l o59)))) (n (q5 P) (n (q9 P) (n (o8 P) (l o27) (l o46)) (n o16 (l o38) (l o57))) (n o2 (n o12 (l o31) (l o53)) (n o23 (l o42) (l o61))))) (n (q2 P) (n (q4 P) (n (q8 P) (n o7 (l o26) (l (o45 P))) (n o51 (l o37) (l o56))) (n o50 (n o11 (l (o30 P)) (l o52)) (n o22 (l o41) (l (o60 P))))) (n (q6 P) (n (q10 P) (n o9 (l o28) (l o47)) (n o17 (l (o39 P)) (l o58))) (n o3 (n o13 (l o32) (l (o54 P))) (n (o24 P) (l o43) (l o62))))))
theorem pz3 : ∀ w : PySem.World, (fun os : PySem.OsState => PySem.W.Fast.tw10110043849684766642 PySem.W.Fast.tw14364793385576792824 PySem.Challenge.pw_farhail_k57_whole_asks_of_known_webs w 11 (some (.ref 6)) 1 214 (PySem.W.SharedT.mk (t2 w.params) 52 (.mk [] [] [] 0 [] [] .false ⟨[]⟩ [] 0 .false .false .false 0 [2000,10,10] .false 0 .true [] [] 0 .false) (Array.mk ([] : List PySem.GenState)) (.mk 0 0 0 0) 239 os) (PySem.W.piecesOf sts3 env code (.mk 6 0 7 8) B)) = fun os => some (PySem.Flow.next, (PySem.W.SharedT.mk (t3 w.params) 64 (.mk [] [] [] 0 [] [] .false ⟨[]⟩ [] 0 .false .false .false 0 [2000,10,10] .false 0 .true [] [] 0 .false) (Array.mk ([] : List PySem.GenState)) (.mk 0 0 0 0) 255 os), code, (.mk 8 0 9 8)) := fun w => by kernel_rfl
theorem p3 (w : PySem.World) (os : PySem.OsState) : PySem.W.segRun PySem.treeTable PySem.Challenge.pw_farhail_k57_whole_asks_of_known_webs w 11 (some (.ref 6)) 1 214 (PySem.W.SharedT.mk (t2 w.params) 52 (.mk [] [] [] 0 [] [] .false ⟨[]⟩ [] 0 .false .false .false 0 [2000,10,10] .false 0 .true [] [] 0 .false) (Array.mk ([] : List PySem.GenState)) (.mk 0 0 0 0) 239 os).abs (PySem.W.piecesOf sts3 env code (.mk 6 0 7 8) B) = some (PySem.Flow.next, (PySem.W.SharedT.mk (t3 w.params) 64 (.mk [] [] [] 0 [] [] .false ⟨[]⟩ [] 0 .false .false .false 0 [2000,10,10] .false 0 .true [] [] 0 .false) (Array.mk ([] : List PySem.GenState)) (.mk 0 0 0 0) 255 os).abs, code, (.mk 8 0 9 8)) := PySem.W.segRun_of (by rw [PySem.W.Fast.te10110043849684766642, PySem.W.Fast.te14364793385576792824]; exact congrFun (pz3 w) os)
noncomputable def a59 : Str := ⟨⟨[95,95,105,110,105,116,95,95]⟩⟩
noncomputable def a60 : Str := ⟨⟨[112,108,97,99,101]⟩⟩
noncomputable def a61 : Str := ⟨⟨[102,97,114,104,97,105,108,46,119,101,98,115]⟩⟩
noncomputable def sts4 : List PySem.Stmt := [(.ClassDef a6 [(.Name a1 (.mk 10 12 10 21))] [] [(.FunctionDef a59 (L2.defArgs (L2.inClass (G.top 5) 0)) (L2.defBody (L2.inClass (G.top 5) 0)) [] none [] (L2.defScope (L2.inClass (G.top 5) 0)) none a59 (.mk 12 4 14 26))] [] [] (.mk .class [(a59, .local)] .false .false []) none a6 [a60] (.mk 10 0 14 26)), (.Assign [(.Name a0 (.mk 15 0 15 8))] (.Constant (.str a61) 0 (.mk 15 11 15 25)) (.mk 15 0 15 25)), (.Assign [(.Name a7 (.mk 16 0 16 16))] (.Constant (.int 60) 0 (.mk 16 19 16 21)) (.mk 16 0 16 21)), (.FunctionDef a8 (L2.defArgs (G.top 8)) (L2.defBody (G.top 8)) [] none [] (L2.defScope (G.top 8)) none a8 (.mk 17 0 22 41)), (.FunctionDef a9 (L2.defArgs (G.top 9)) (L2.defBody (G.top 9)) [] none [] (L2.defScope (G.top 9)) none a9 (.mk 23 0 34 16)), (.FunctionDef a10 (L2.defArgs (G.top 10)) (L2.defBody (G.top 10)) [] none [] (L2.defScope (G.top 10)) none a10 (.mk 35 0 42 31)), (.FunctionDef a11 (L2.defArgs (G.top 11)) (L2.defBody (G.top 11)) [] none [] (L2.defScope (G.top 11)) none a11 (.mk 43 0 51 14))]
noncomputable def o64 (P : Params) : Obj := (ob (.type b3) (.dict ⟨[(en P a0 165 (.str a61 280)),(en P a46 166 .none),(en P a47 167 .none),(en P a48 168 (.builtin b4)),(en P a49 169 .none),(en P a50 170 (.ref 6)),(en P a51 171 (.ref 4)),(en P a52 173 (.str a43 172)),(en P a53 174 .none),(en P a1 206 (.ref 24)),(en P a3 222 (.ref 37)),(en P a4 238 (.ref 49)),(en P a5 254 (.ref 61)),(en P a6 279 (.ref 80)),(en P a7 283 (.int 60 282)),(en P a8 289 (.ref 87)),(en P a9 301 (.ref 94)),(en P a10 313 (.ref 101)),(en P a11 324 (.ref 108))]⟩ 19))
noncomputable def c0 (t : List PySem.Value) : List PySem.Value := (i 43)::(i 0)::(.ref 107)::t
noncomputable def c1 (t : List PySem.Value) : List PySem.Value := (i 0)::(.ref 86)::(i 23)::(i 0)::(.ref 93)::(i 35)::(i 0)::(.ref 100)::t
noncomputable def c2 (t : List PySem.Value) : List PySem.Value := (.ref 45)::(i 8)::(i 0)::(.ref 57)::(i 10)::(i 0)::(.ref 69)::(i 17)::t
noncomputable def c3 (t : List PySem.Value) : List PySem.Value := (i 2)::(i 0)::(.ref 20)::(i 4)::(i 0)::(.ref 33)::(i 6)::(i 0)::t
noncomputable def o65 : Obj := (ob .none (.fields ⟨(c3 (c2 (c1 (c0 []))))⟩))
noncomputable def o66 : Obj := (.mk (.type b8) none (.cls (.mk a1 [(.type b5)] [(.ref 24),(.type b5),(.type b9),(.type b10),(.type b11)] 23 a1 .true [] [(.ref 37),(.ref 49),(.ref 61),(.ref 80)] .false none .false)) ⟨[(some (.ref 15)),none,(some (.str a1 189)),(some (.str a1 197)),(some (.builtin b12)),(some (.bool .true))]⟩)
noncomputable def o67 : Obj := (ob (.type b0) (.seq ⟨[(.ref 24)]⟩ 0))
noncomputable def o68 : Obj := (ob (.type b6) (.fields ⟨[(.builtin b7),(.type b8)]⟩))
noncomputable def o69 (P : Params) : Obj := (ob (.type b3) (.dict ⟨[(en P a54 262 (.str a45 187)),(en P a55 264 (.str a6 263)),(en P a56 266 (.int 10 265)),(en P a59 274 (.ref 77)),(en P a57 276 (.ref 78))]⟩ 5))
noncomputable def o70 : Obj := (ob (.type b0) (.seq ⟨[]⟩ 0))
noncomputable def o71 : Obj := (ob .none (.fields ⟨[(i 12),(i 4),(.ref 76)]⟩))
noncomputable def o72 : Obj := (ob (.type b1) (.fields ⟨[(.str a6 257),(.str a6 258),(.str a43 259),(i 10),(i 0),(i 0),(i 0),(i 0),(.ref 67),(.bool .false),(i 181),(.ref 68),.none,.none,.none,.none,(i 260),(i 10),(.str a43 261)]⟩))
noncomputable def o73 : Obj := (.mk (.type b2) none .plain ⟨[(some (.ref 69)),(some (.ref 3)),(some (.ref 66)),none,(some (.str a45 187)),none,(some (.ref 0))]⟩)
noncomputable def o74 : Obj := (ob (.type b0) (.seq ⟨[]⟩ 0))
noncomputable def o75 : Obj := (ob .none (.fields ⟨[]⟩))
noncomputable def a62 : Str := ⟨⟨[115,101,108,102]⟩⟩
noncomputable def o76 : Obj := (ob (.type b0) (.seq ⟨[(.str a62 270),(.str a60 271)]⟩ 0))
noncomputable def o77 : Obj := (ob (.type b0) (.seq ⟨[]⟩ 0))
noncomputable def a63 : Str := ⟨⟨[65,112,97,114,116,46,95,95,105,110,105,116,95,95]⟩⟩
noncomputable def o78 : Obj := (.mk .none none (.func (.mk a59 a63 (L2.defArgs (L2.inClass (G.top 5) 0)) (.stmts (L2.defBody (L2.inClass (G.top 5) 0))) (L2.defScope (L2.inClass (G.top 5) 0)) 0 [] .none .none .none .none none .none .none 0)) ⟨[]⟩)
noncomputable def o79 : Obj := (ob (.type b1) (.fields ⟨[(.str a59 267),(.str a63 268),(.str a43 269),(i 12),(i 2),(i 0),(i 0),(i 3),(.ref 71),(.bool .true),(i 181),(.ref 72),.none,(.ref 73),(.ref 74),(.ref 75),(i 272),(i 12),(.str a43 273)]⟩))
noncomputable abbrev b17 : String := PySem.W.SL.s7174869446012820540x8
noncomputable def o80 : Obj := (.mk (.type b17) none (.func (PySem.W.fnOf a59 a63 (L2.defArgs (L2.inClass (G.top 5) 0)) (L2.defBody (L2.inClass (G.top 5) 0)) (L2.defScope (L2.inClass (G.top 5) 0)) .none .none .none (.str a45 187) none (.ref 76) .none)) ⟨[]⟩)
noncomputable def o81 : Obj := (ob (.type b0) (.seq ⟨[(.str a60 275)]⟩ 0))
noncomputable def o82 (P : Params) : Obj := (ob (.type b3) (.dict ⟨[(en P a54 262 (.str a45 187)),(en P a56 266 (.int 10 265)),(en P a59 274 (.ref 77)),(en P a57 276 (.ref 78)),(en P a46 277 .none)]⟩ 2))
noncomputable def o83 : Obj := (.mk (.type b8) none (.cls (.mk a6 [(.ref 24)] [(.ref 80),(.ref 24),(.type b5),(.type b9),(.type b10),(.type b11)] 79 a6 .true [] [] .false none .false)) ⟨[(some (.ref 64)),none,(some (.str a6 255)),(some (.str a6 263)),(some (.builtin b12)),(some (.bool .true))]⟩)
noncomputable def o84 : Obj := (ob (.type b15) (.fields ⟨[(.ref 80),(.ref 80),(.ref 80)]⟩))
noncomputable def o85 : Obj := (ob (.type b6) (.fields ⟨[(.builtin b16),(.ref 80)]⟩))
noncomputable def o86 : Obj := (ob (.type b0) (.seq ⟨[]⟩ 0))
noncomputable def o87 : Obj := (ob .none (.fields ⟨[]⟩))
noncomputable def o88 : Obj := (cO a8 (G.top 8))
noncomputable def o89 : Obj := (ob (.type b1) (.fields ⟨[(.str a8 284),(.str a8 285),(.str a43 286),(i 17),(i 1),(i 0),(i 0),(i 3),(.ref 83),(.bool .true),(i 181),(.ref 84),.none,.none,.none,(.ref 85),(i 287),(i 17),(.str a43 288)]⟩))
noncomputable def o90 : Obj := (fO (.type b17) a8 (G.top 8) (.str a61 280) (.ref 86))
noncomputable def o91 : Obj := (ob (.type b0) (.seq ⟨[]⟩ 0))
noncomputable def o92 : Obj := (ob .none (.fields ⟨[]⟩))
noncomputable def a64 : Str := ⟨⟨[110,101,97,114]⟩⟩
noncomputable def a65 : Str := ⟨⟨[102,111,117,110,100]⟩⟩
noncomputable def a66 : Str := ⟨⟨[108,105,110,101]⟩⟩
noncomputable def a67 : Str := ⟨⟨[97,116]⟩⟩
noncomputable def a68 : Str := ⟨⟨[111,116,104,101,114]⟩⟩
noncomputable def o93 : Obj := (ob (.type b0) (.seq ⟨[(.str a64 293),(.str a60 294),(.str a65 295),(.str a66 296),(.str a67 297),(.str a68 298)]⟩ 0))
noncomputable def o94 : Obj := (ob (.type b0) (.seq ⟨[]⟩ 0))
noncomputable def o95 : Obj := (cO a9 (G.top 9))
noncomputable def o96 : Obj := (ob (.type b1) (.fields ⟨[(.str a9 290),(.str a9 291),(.str a43 292),(i 23),(i 2),(i 0),(i 0),(i 3),(.ref 88),(.bool .true),(i 181),(.ref 89),.none,(.ref 90),(.ref 91),(.ref 92),(i 299),(i 23),(.str a43 300)]⟩))
noncomputable def o97 : Obj := (fO (.type b17) a9 (G.top 9) (.str a61 280) (.ref 93))
noncomputable def o98 : Obj := (ob (.type b0) (.seq ⟨[]⟩ 0))
noncomputable def o99 : Obj := (ob .none (.fields ⟨[]⟩))
noncomputable def a69 : Str := ⟨⟨[109,97,110,121]⟩⟩
noncomputable def a70 : Str := ⟨⟨[116,105,101,115]⟩⟩
noncomputable def a71 : Str := ⟨⟨[111,110,101]⟩⟩
noncomputable def a72 : Str := ⟨⟨[116,105,101]⟩⟩
noncomputable def o100 : Obj := (ob (.type b0) (.seq ⟨[(.str a69 305),(.str a70 306),(.str a65 307),(.str a71 308),(.str a68 309),(.str a72 310)]⟩ 0))
noncomputable def o101 : Obj := (ob (.type b0) (.seq ⟨[]⟩ 0))
noncomputable def o102 : Obj := (cO a10 (G.top 10))
noncomputable def o103 : Obj := (ob (.type b1) (.fields ⟨[(.str a10 302),(.str a10 303),(.str a43 304),(i 35),(i 2),(i 0),(i 0),(i 3),(.ref 95),(.bool .true),(i 181),(.ref 96),.none,(.ref 97),(.ref 98),(.ref 99),(i 311),(i 35),(.str a43 312)]⟩))
noncomputable def o104 : Obj := (fO (.type b17) a10 (G.top 10) (.str a61 280) (.ref 100))
noncomputable def o105 : Obj := (ob (.type b0) (.seq ⟨[]⟩ 0))
noncomputable def o106 : Obj := (ob .none (.fields ⟨[]⟩))
noncomputable def a73 : Str := ⟨⟨[119,101,98]⟩⟩
noncomputable def a74 : Str := ⟨⟨[102,97,114,115]⟩⟩
noncomputable def o107 : Obj := (ob (.type b0) (.seq ⟨[(.str a69 317),(.str a70 318),(.str a73 319),(.str a74 320),(.str a60 321)]⟩ 0))
noncomputable def o108 : Obj := (ob (.type b0) (.seq ⟨[]⟩ 0))
noncomputable def o109 : Obj := (cO a11 (G.top 11))
noncomputable def o110 : Obj := (ob (.type b1) (.fields ⟨[(.str a11 314),(.str a11 315),(.str a43 316),(i 43),(i 2),(i 0),(i 0),(i 3),(.ref 102),(.bool .true),(i 181),(.ref 103),.none,(.ref 104),(.ref 105),(.ref 106),(i 322),(i 43),(.str a43 323)]⟩))
noncomputable def o111 : Obj := (fO (.type b17) a11 (G.top 11) (.str a61 280) (.ref 107))
noncomputable def t4 (P : PySem.Params) : PySem.W.BT := (n (q0 P) (n (q1 P) (n (o64 P) (n (q7 P) (n o6 (n o25 (l o63) (l o98)) (n o44 (l (o82 P)) .nil)) (n (o14 P) (n o33 (l o74) (l o106)) (n o55 (l o90) .nil))) (n o0 (n o10 (n o29 (l o70) (l o102)) (n o48 (l o86) .nil)) (n o18 (n o40 (l o78) (l o110)) (n o59 (l o94) .nil)))) (n (q5 P) (n (q9 P) (n (o8 P) (n o27 (l o68) (l o100)) (n o46 (l o84) .nil)) (n o16 (n o38 (l o76) (l o108)) (n o57 (l o92) .nil))) (n o2 (n o12 (n o31 (l o72) (l o104)) (n o53 (l o88) .nil)) (n o23 (n o42 (l o80) .nil) (n o61 (l o96) .nil))))) (n (q2 P) (n (q4 P) (n (q8 P) (n o7 (n o26 (l o67) (l o99)) (n (o45 P) (l o83) .nil)) (n o66 (n o37 (l o75) (l o107)) (n o56 (l o91) .nil))) (n o65 (n o11 (n (o30 P) (l o71) (l o103)) (n o52 (l o87) .nil)) (n o22 (n o41 (l o79) (l o111)) (n (o60 P) (l o95) .nil)))) (n (q6 P) (n (q10 P) (n o9 (n o28 (l (o69 P)) (l o101)) (n o47 (l o85) .nil)) (n o17 (n (o39 P) (l o77) (l o109)) (n o58 (l o93) .nil))) (n o3 (n o13 (n o32 (l o73) (l o105)) (n (o54 P) (l o89) .nil)) (n (o24 P) (n o43 (l o81) .nil) (n o62 (l o97) .nil))))))
theorem pz4 : ∀ w : PySem.World, (fun os : PySem.OsState => PySem.W.Fast.tw10110043849684766642 PySem.W.Fast.tw14364793385576792824 PySem.Challenge.pw_farhail_k57_whole_asks_of_known_webs w 11 (some (.ref 6)) 1 391 (PySem.W.SharedT.mk (t3 w.params) 64 (.mk [] [] [] 0 [] [] .false ⟨[]⟩ [] 0 .false .false .false 0 [2000,10,10] .false 0 .true [] [] 0 .false) (Array.mk ([] : List PySem.GenState)) (.mk 0 0 0 0) 255 os) (PySem.W.piecesOf sts4 env code (.mk 8 0 9 8) B)) = fun os => some (PySem.Flow.next, (PySem.W.SharedT.mk (t4 w.params) 109 (.mk [] [] [] 0 [] [] .false ⟨[]⟩ [] 0 .false .false .false 0 [2000,10,10] .false 0 .true [] [] 0 .false) (Array.mk ([] : List PySem.GenState)) (.mk 0 0 0 0) 325 os), code, (.mk 43 0 51 14)) := fun w => by kernel_rfl
theorem p4 (w : PySem.World) (os : PySem.OsState) : PySem.W.segRun PySem.treeTable PySem.Challenge.pw_farhail_k57_whole_asks_of_known_webs w 11 (some (.ref 6)) 1 391 (PySem.W.SharedT.mk (t3 w.params) 64 (.mk [] [] [] 0 [] [] .false ⟨[]⟩ [] 0 .false .false .false 0 [2000,10,10] .false 0 .true [] [] 0 .false) (Array.mk ([] : List PySem.GenState)) (.mk 0 0 0 0) 255 os).abs (PySem.W.piecesOf sts4 env code (.mk 8 0 9 8) B) = some (PySem.Flow.next, (PySem.W.SharedT.mk (t4 w.params) 109 (.mk [] [] [] 0 [] [] .false ⟨[]⟩ [] 0 .false .false .false 0 [2000,10,10] .false 0 .true [] [] 0 .false) (Array.mk ([] : List PySem.GenState)) (.mk 0 0 0 0) 325 os).abs, code, (.mk 43 0 51 14)) := PySem.W.segRun_of (by rw [PySem.W.Fast.te10110043849684766642, PySem.W.Fast.te14364793385576792824]; exact congrFun (pz4 w) os)
noncomputable def a75 : Str := ⟨⟨[102,97,114,104,97,105,108,46,99,111,100,101,115]⟩⟩
noncomputable def a76 : Str := ⟨⟨[102,97,114,104,97,105,108,46,97,115,107,115]⟩⟩
noncomputable def sts5 : List PySem.Stmt := [(.FunctionDef a12 (L2.defArgs (G.top 12)) (L2.defBody (G.top 12)) [] none [] (L2.defScope (G.top 12)) none a12 (.mk 52 0 54 33)), (.FunctionDef a13 (L2.defArgs (G.top 13)) (L2.defBody (G.top 13)) [] none [] (L2.defScope (G.top 13)) none a13 (.mk 55 0 57 42)), (.Assign [(.Name a0 (.mk 58 0 58 8))] (.Constant (.str a75) 0 (.mk 58 11 58 26)) (.mk 58 0 58 26)), (.FunctionDef a14 (L2.defArgs (G.top 15)) (L2.defBody (G.top 15)) [] none [] (L2.defScope (G.top 15)) none a14 (.mk 59 0 65 32)), (.Assign [(.Name a0 (.mk 66 0 66 8))] (.Constant (.str a76) 0 (.mk 66 11 66 25)) (.mk 66 0 66 25)), (.Assign [(.Name a15 (.mk 67 0 67 16))] (.Constant (.int 7) 0 (.mk 67 19 67 20)) (.mk 67 0 67 20)), (.Assign [(.Name a16 (.mk 68 0 68 11))] (.Constant (.int 8) 0 (.mk 68 14 68 15)) (.mk 68 0 68 15)), (.FunctionDef a17 (L2.defArgs (G.top 19)) (L2.defBody (G.top 19)) [] none [] (L2.defScope (G.top 19)) none a17 (.mk 69 0 73 17)), (.FunctionDef a18 (L2.defArgs (G.top 20)) (L2.defBody (G.top 20)) [] none [] (L2.defScope (G.top 20)) none a18 (.mk 74 0 75 61)), (.FunctionDef a19 (L2.defArgs (G.top 21)) (L2.defBody (G.top 21)) [] none [] (L2.defScope (G.top 21)) none a19 (.mk 76 0 79 29)), (.FunctionDef a20 (L2.defArgs (G.top 22)) (L2.defBody (G.top 22)) [] none [] (L2.defScope (G.top 22)) none a20 (.mk 80 0 84 71))]
noncomputable def c4 (P : PySem.Params) (t : List PySem.DictEntry) : List PySem.DictEntry := (en P a17 366 (.ref 136))::(en P a18 372 (.ref 141))::(en P a19 381 (.ref 148))::(en P a20 387 (.ref 153))::t
noncomputable def c5 (P : PySem.Params) (t : List PySem.DictEntry) : List PySem.DictEntry := (en P a9 301 (.ref 94))::(en P a10 313 (.ref 101))::(en P a11 324 (.ref 108))::(en P a12 332 (.ref 115))::(en P a13 340 (.ref 122))::(en P a14 351 (.ref 129))::(en P a15 355 (.int 7 354))::(en P a16 357 (.int 8 356))::t
noncomputable def c6 (P : PySem.Params) (t : List PySem.DictEntry) : List PySem.DictEntry := (en P a53 174 .none)::(en P a1 206 (.ref 24))::(en P a3 222 (.ref 37))::(en P a4 238 (.ref 49))::(en P a5 254 (.ref 61))::(en P a6 279 (.ref 80))::(en P a7 283 (.int 60 282))::(en P a8 289 (.ref 87))::t
noncomputable def c7 (P : PySem.Params) (t : List PySem.DictEntry) : List PySem.DictEntry := (en P a0 165 (.str a76 352))::(en P a46 166 .none)::(en P a47 167 .none)::(en P a48 168 (.builtin b4))::(en P a49 169 .none)::(en P a50 170 (.ref 6))::(en P a51 171 (.ref 4))::(en P a52 173 (.str a43 172))::t
noncomputable def o112 (P : Params) : Obj := (ob (.type b3) (.dict ⟨(c7 P (c6 P (c5 P (c4 P []))))⟩ 28))
noncomputable def c8 (t : List PySem.Value) : List PySem.Value := (i 0)::(.ref 140)::(i 76)::(i 0)::(.ref 147)::(i 80)::(i 0)::(.ref 152)::t
noncomputable def c9 (t : List PySem.Value) : List PySem.Value := (.ref 121)::(i 59)::(i 0)::(.ref 128)::(i 69)::(i 0)::(.ref 135)::(i 74)::t
noncomputable def c10 (t : List PySem.Value) : List PySem.Value := (i 43)::(i 0)::(.ref 107)::(i 52)::(i 0)::(.ref 114)::(i 55)::(i 0)::t
noncomputable def o113 : Obj := (ob .none (.fields ⟨(c3 (c2 (c1 (c10 (c9 (c8 []))))))⟩))
noncomputable def o114 : Obj := (ob (.type b0) (.seq ⟨[]⟩ 0))
noncomputable def o115 : Obj := (ob .none (.fields ⟨[]⟩))
noncomputable def o116 : Obj := (ob (.type b0) (.seq ⟨[(.str a73 328),(.str a60 329)]⟩ 0))
noncomputable def o117 : Obj := (ob (.type b0) (.seq ⟨[]⟩ 0))
noncomputable def o118 : Obj := (cO a12 (G.top 12))
noncomputable def o119 : Obj := (ob (.type b1) (.fields ⟨[(.str a12 325),(.str a12 326),(.str a43 327),(i 52),(i 2),(i 0),(i 0),(i 3),(.ref 109),(.bool .true),(i 181),(.ref 110),.none,(.ref 111),(.ref 112),(.ref 113),(i 330),(i 52),(.str a43 331)]⟩))
noncomputable def o120 : Obj := (fO (.type b17) a12 (G.top 12) (.str a61 280) (.ref 114))
noncomputable def o121 : Obj := (ob (.type b0) (.seq ⟨[]⟩ 0))
noncomputable def o122 : Obj := (ob .none (.fields ⟨[]⟩))
noncomputable def o123 : Obj := (ob (.type b0) (.seq ⟨[(.str a73 336),(.str a60 337)]⟩ 0))
noncomputable def o124 : Obj := (ob (.type b0) (.seq ⟨[]⟩ 0))
noncomputable def o125 : Obj := (cO a13 (G.top 13))
noncomputable def o126 : Obj := (ob (.type b1) (.fields ⟨[(.str a13 333),(.str a13 334),(.str a43 335),(i 55),(i 2),(i 0),(i 0),(i 3),(.ref 116),(.bool .true),(i 181),(.ref 117),.none,(.ref 118),(.ref 119),(.ref 120),(i 338),(i 55),(.str a43 339)]⟩))
noncomputable def o127 : Obj := (fO (.type b17) a13 (G.top 13) (.str a61 280) (.ref 121))
noncomputable def o128 : Obj := (ob (.type b0) (.seq ⟨[]⟩ 0))
noncomputable def o129 : Obj := (ob .none (.fields ⟨[]⟩))
noncomputable def a77 : Str := ⟨⟨[107,105,110,100]⟩⟩
noncomputable def a78 : Str := ⟨⟨[112,108,97,99,101,115]⟩⟩
noncomputable def o130 : Obj := (ob (.type b0) (.seq ⟨[(.str a73 346),(.str a77 347),(.str a78 348)]⟩ 0))
noncomputable def o131 : Obj := (ob (.type b0) (.seq ⟨[]⟩ 0))
noncomputable def o132 : Obj := (cO a14 (G.top 15))
noncomputable def o133 : Obj := (ob (.type b1) (.fields ⟨[(.str a14 343),(.str a14 344),(.str a43 345),(i 59),(i 2),(i 0),(i 0),(i 3),(.ref 123),(.bool .true),(i 181),(.ref 124),.none,(.ref 125),(.ref 126),(.ref 127),(i 349),(i 59),(.str a43 350)]⟩))
noncomputable def o134 : Obj := (fO (.type b17) a14 (G.top 15) (.str a75 341) (.ref 128))
noncomputable def o135 : Obj := (ob (.type b0) (.seq ⟨[]⟩ 0))
noncomputable def o136 : Obj := (ob .none (.fields ⟨[]⟩))
noncomputable def a79 : Str := ⟨⟨[116,104,105,110,103,115]⟩⟩
noncomputable def o137 : Obj := (ob (.type b0) (.seq ⟨[(.str a73 361),(.str a77 362),(.str a79 363)]⟩ 0))
noncomputable def o138 : Obj := (ob (.type b0) (.seq ⟨[]⟩ 0))
noncomputable def o139 : Obj := (cO a17 (G.top 19))
noncomputable def o140 : Obj := (ob (.type b1) (.fields ⟨[(.str a17 358),(.str a17 359),(.str a43 360),(i 69),(i 2),(i 0),(i 0),(i 3),(.ref 130),(.bool .true),(i 181),(.ref 131),.none,(.ref 132),(.ref 133),(.ref 134),(i 364),(i 69),(.str a43 365)]⟩))
noncomputable def o141 : Obj := (fO (.type b17) a17 (G.top 19) (.str a76 352) (.ref 135))
noncomputable def o142 : Obj := (ob (.type b0) (.seq ⟨[]⟩ 0))
noncomputable def o143 : Obj := (ob .none (.fields ⟨[]⟩))
noncomputable def o144 : Obj := (cO a18 (G.top 20))
noncomputable def o145 : Obj := (ob (.type b1) (.fields ⟨[(.str a18 367),(.str a18 368),(.str a43 369),(i 74),(i 1),(i 0),(i 0),(i 3),(.ref 137),(.bool .true),(i 181),(.ref 138),.none,.none,.none,(.ref 139),(i 370),(i 74),(.str a43 371)]⟩))
noncomputable def o146 : Obj := (fO (.type b17) a18 (G.top 20) (.str a76 352) (.ref 140))
noncomputable def o147 : Obj := (ob (.type b0) (.seq ⟨[]⟩ 0))
noncomputable def o148 : Obj := (ob .none (.fields ⟨[]⟩))
noncomputable def a80 : Str := ⟨⟨[116,104,105,110,103]⟩⟩
noncomputable def o149 : Obj := (ob (.type b0) (.seq ⟨[(.str a74 376),(.str a60 377),(.str a80 378)]⟩ 0))
noncomputable def o150 : Obj := (ob (.type b0) (.seq ⟨[]⟩ 0))
noncomputable def o151 : Obj := (cO a19 (G.top 21))
noncomputable def o152 : Obj := (ob (.type b1) (.fields ⟨[(.str a19 373),(.str a19 374),(.str a43 375),(i 76),(i 3),(i 0),(i 0),(i 3),(.ref 142),(.bool .true),(i 181),(.ref 143),.none,(.ref 144),(.ref 145),(.ref 146),(i 379),(i 76),(.str a43 380)]⟩))
noncomputable def o153 : Obj := (fO (.type b17) a19 (G.top 21) (.str a76 352) (.ref 147))
noncomputable def o154 : Obj := (ob (.type b0) (.seq ⟨[]⟩ 0))
noncomputable def o155 : Obj := (ob .none (.fields ⟨[]⟩))
noncomputable def o156 : Obj := (cO a20 (G.top 22))
noncomputable def o157 : Obj := (ob (.type b1) (.fields ⟨[(.str a20 382),(.str a20 383),(.str a43 384),(i 80),(i 3),(i 0),(i 0),(i 3),(.ref 149),(.bool .true),(i 181),(.ref 150),.none,.none,.none,(.ref 151),(i 385),(i 80),(.str a43 386)]⟩))
noncomputable def o158 : Obj := (fO (.type b17) a20 (G.top 22) (.str a76 352) (.ref 152))
noncomputable def t5 (P : PySem.Params) : PySem.W.BT := (n (q0 P) (n (q1 P) (n (o112 P) (n (q7 P) (n o6 (n o25 (n o63 (l o132) .nil) (l o98)) (n o44 (n (o82 P) (l o148) .nil) (l o116))) (n (o14 P) (n o33 (n o74 (l o140) .nil) (l o106)) (n o55 (n o90 (l o156) .nil) (l o124)))) (n o0 (n o10 (n o29 (n o70 (l o136) .nil) (l o102)) (n o48 (n o86 (l o152) .nil) (l o120))) (n o18 (n o40 (n o78 (l o144) .nil) (l o110)) (n o59 (l o94) (l o128))))) (n (q5 P) (n (q9 P) (n (o8 P) (n o27 (n o68 (l o134) .nil) (l o100)) (n o46 (n o84 (l o150) .nil) (l o118))) (n o16 (n o38 (n o76 (l o142) .nil) (l o108)) (n o57 (n o92 (l o158) .nil) (l o126)))) (n o2 (n o12 (n o31 (n o72 (l o138) .nil) (l o104)) (n o53 (n o88 (l o154) .nil) (l o122))) (n o23 (n o42 (n o80 (l o146) .nil) (l o114)) (n o61 (l o96) (l o130)))))) (n (q2 P) (n (q4 P) (n (q8 P) (n o7 (n o26 (n o67 (l o133) .nil) (l o99)) (n (o45 P) (n o83 (l o149) .nil) (l o117))) (n o66 (n o37 (n o75 (l o141) .nil) (l o107)) (n o56 (n o91 (l o157) .nil) (l o125)))) (n o113 (n o11 (n (o30 P) (n o71 (l o137) .nil) (l o103)) (n o52 (n o87 (l o153) .nil) (l o121))) (n o22 (n o41 (n o79 (l o145) .nil) (l o111)) (n (o60 P) (l o95) (l o129))))) (n (q6 P) (n (q10 P) (n o9 (n o28 (n (o69 P) (l o135) .nil) (l o101)) (n o47 (n o85 (l o151) .nil) (l o119))) (n o17 (n (o39 P) (n o77 (l o143) .nil) (l o109)) (n o58 (l o93) (l o127)))) (n o3 (n o13 (n o32 (n o73 (l o139) .nil) (l o105)) (n (o54 P) (n o89 (l o155) .nil) (l o123))) (n (o24 P) (n o43 (n o81 (l o147) .nil) (l o115)) (n o62 (l o97) (l o131)))))))
theorem pz5 : ∀ w : PySem.World, (fun os : PySem.OsState => PySem.W.Fast.tw10110043849684766642 PySem.W.Fast.tw14364793385576792824 PySem.Challenge.pw_farhail_k57_whole_asks_of_known_webs w 11 (some (.ref 6)) 1 242 (PySem.W.SharedT.mk (t4 w.params) 109 (.mk [] [] [] 0 [] [] .false ⟨[]⟩ [] 0 .false .false .false 0 [2000,10,10] .false 0 .true [] [] 0 .false) (Array.mk ([] : List PySem.GenState)) (.mk 0 0 0 0) 325 os) (PySem.W.piecesOf sts5 env code (.mk 43 0 51 14) B)) = fun os => some (PySem.Flow.next, (PySem.W.SharedT.mk (t5 w.params) 154 (.mk [] [] [] 0 [] [] .false ⟨[]⟩ [] 0 .false .false .false 0 [2000,10,10] .false 0 .true [] [] 0 .false) (Array.mk ([] : List PySem.GenState)) (.mk 0 0 0 0) 388 os), code, (.mk 80 0 84 71)) := fun w => by kernel_rfl
theorem p5 (w : PySem.World) (os : PySem.OsState) : PySem.W.segRun PySem.treeTable PySem.Challenge.pw_farhail_k57_whole_asks_of_known_webs w 11 (some (.ref 6)) 1 242 (PySem.W.SharedT.mk (t4 w.params) 109 (.mk [] [] [] 0 [] [] .false ⟨[]⟩ [] 0 .false .false .false 0 [2000,10,10] .false 0 .true [] [] 0 .false) (Array.mk ([] : List PySem.GenState)) (.mk 0 0 0 0) 325 os).abs (PySem.W.piecesOf sts5 env code (.mk 43 0 51 14) B) = some (PySem.Flow.next, (PySem.W.SharedT.mk (t5 w.params) 154 (.mk [] [] [] 0 [] [] .false ⟨[]⟩ [] 0 .false .false .false 0 [2000,10,10] .false 0 .true [] [] 0 .false) (Array.mk ([] : List PySem.GenState)) (.mk 0 0 0 0) 388 os).abs, code, (.mk 80 0 84 71)) := PySem.W.segRun_of (by rw [PySem.W.Fast.te10110043849684766642, PySem.W.Fast.te14364793385576792824]; exact congrFun (pz5 w) os)
noncomputable def a81 : Str := ⟨⟨[110,101,101,100]⟩⟩
noncomputable def a82 : Str := ⟨⟨[112,108,97,110]⟩⟩
noncomputable def a83 : Str := ⟨⟨[98,101,115,116]⟩⟩
noncomputable def a84 : Str := ⟨⟨[108,101,97,115,116]⟩⟩
noncomputable def sts6 : List PySem.Stmt := [(.ClassDef a21 [] [] [(.FunctionDef a59 (L2.defArgs (L2.inClass (G.top 23) 0)) (L2.defBody (L2.inClass (G.top 23) 0)) [] none [] (L2.defScope (L2.inClass (G.top 23) 0)) none a59 (.mk 87 4 90 22)), (.FunctionDef a81 (L2.defArgs (L2.inClass (G.top 23) 1)) (L2.defBody (L2.inClass (G.top 23) 1)) [] none [] (L2.defScope (L2.inClass (G.top 23) 1)) none a81 (.mk 92 4 105 21)), (.FunctionDef a82 (L2.defArgs (L2.inClass (G.top 23) 2)) (L2.defBody (L2.inClass (G.top 23) 2)) [] none [] (L2.defScope (L2.inClass (G.top 23) 2)) none a82 (.mk 107 4 112 91))] [] [] (.mk .class [(a59, .local),(a81, .local),(a82, .local)] .false .false []) none a21 [a83,a74,a84] (.mk 85 0 112 91)), (.FunctionDef a22 (L2.defArgs (G.top 24)) (L2.defBody (G.top 24)) [] none [] (L2.defScope (G.top 24)) none a22 (.mk 113 0 118 68)), (.FunctionDef a23 (L2.defArgs (G.top 25)) (L2.defBody (G.top 25)) [] none [] (L2.defScope (G.top 25)) none a23 (.mk 119 0 120 22)), (.FunctionDef a24 (L2.defArgs (G.top 26)) (L2.defBody (G.top 26)) [] none [] (L2.defScope (G.top 26)) none a24 (.mk 121 0 130 25)), (.FunctionDef a25 (L2.defArgs (G.top 27)) (L2.defBody (G.top 27)) [] none [] (L2.defScope (G.top 27)) none a25 (.mk 131 0 136 15))]
noncomputable def c11 (P : PySem.Params) (t : List PySem.DictEntry) : List PySem.DictEntry := (en P a25 458 (.ref 208))::t
noncomputable def c12 (P : PySem.Params) (t : List PySem.DictEntry) : List PySem.DictEntry := (en P a17 366 (.ref 136))::(en P a18 372 (.ref 141))::(en P a19 381 (.ref 148))::(en P a20 387 (.ref 153))::(en P a21 430 (.ref 180))::(en P a22 436 (.ref 189))::(en P a23 443 (.ref 196))::(en P a24 449 (.ref 201))::t
noncomputable def o159 (P : Params) : Obj := (ob (.type b3) (.dict ⟨(c7 P (c6 P (c5 P (c12 P (c11 P [])))))⟩ 33))
noncomputable def c13 (t : List PySem.Value) : List PySem.Value := (.ref 195)::(i 121)::(i 0)::(.ref 200)::(i 131)::(i 0)::(.ref 207)::t
noncomputable def c14 (t : List PySem.Value) : List PySem.Value := (i 85)::(i 0)::(.ref 159)::(i 113)::(i 0)::(.ref 188)::(i 119)::(i 0)::t
noncomputable def o160 : Obj := (ob .none (.fields ⟨(c3 (c2 (c1 (c10 (c9 (c8 (c14 (c13 []))))))))⟩))
noncomputable def o161 : Obj := (ob (.type b0) (.seq ⟨[]⟩ 0))
noncomputable def o162 : Obj := (ob (.type b6) (.fields ⟨[(.builtin b7),(.type b8)]⟩))
noncomputable def o163 (P : Params) : Obj := (ob (.type b3) (.dict ⟨[(en P a54 395 (.str a76 352)),(en P a55 397 (.str a21 396)),(en P a56 399 (.int 85 398)),(en P a59 407 (.ref 167)),(en P a81 413 (.ref 172)),(en P a82 419 (.ref 177)),(en P a57 423 (.ref 178))]⟩ 7))
noncomputable def o164 : Obj := (ob (.type b0) (.seq ⟨[]⟩ 0))
noncomputable def o165 : Obj := (ob .none (.fields ⟨[(i 87),(i 4),(.ref 166),(i 92),(i 4),(.ref 171),(i 107),(i 4),(.ref 176)]⟩))
noncomputable def o166 : Obj := (ob (.type b1) (.fields ⟨[(.str a21 390),(.str a21 391),(.str a43 392),(i 85),(i 0),(i 0),(i 0),(i 0),(.ref 157),(.bool .false),(i 181),(.ref 158),.none,.none,.none,.none,(i 393),(i 85),(.str a43 394)]⟩))
noncomputable def o167 : Obj := (.mk (.type b2) none .plain ⟨[(some (.ref 159)),(some (.ref 3)),(some (.ref 156)),none,(some (.str a76 352)),none,(some (.ref 0))]⟩)
noncomputable def o168 : Obj := (ob (.type b0) (.seq ⟨[]⟩ 0))
noncomputable def o169 : Obj := (ob .none (.fields ⟨[]⟩))
noncomputable def o170 : Obj := (ob (.type b0) (.seq ⟨[(.str a62 403),(.str a73 404)]⟩ 0))
noncomputable def o171 : Obj := (ob (.type b0) (.seq ⟨[]⟩ 0))
noncomputable def a85 : Str := ⟨⟨[65,115,107,105,110,103,46,95,95,105,110,105,116,95,95]⟩⟩
noncomputable def o172 : Obj := (.mk .none none (.func (.mk a59 a85 (L2.defArgs (L2.inClass (G.top 23) 0)) (.stmts (L2.defBody (L2.inClass (G.top 23) 0))) (L2.defScope (L2.inClass (G.top 23) 0)) 0 [] .none .none .none .none none .none .none 0)) ⟨[]⟩)
noncomputable def o173 : Obj := (ob (.type b1) (.fields ⟨[(.str a59 400),(.str a85 401),(.str a43 402),(i 87),(i 2),(i 0),(i 0),(i 3),(.ref 161),(.bool .true),(i 181),(.ref 162),.none,(.ref 163),(.ref 164),(.ref 165),(i 405),(i 87),(.str a43 406)]⟩))
noncomputable def o174 : Obj := (.mk (.type b17) none (.func (PySem.W.fnOf a59 a85 (L2.defArgs (L2.inClass (G.top 23) 0)) (L2.defBody (L2.inClass (G.top 23) 0)) (L2.defScope (L2.inClass (G.top 23) 0)) .none .none .none (.str a76 352) none (.ref 166) .none)) ⟨[]⟩)
noncomputable def o175 : Obj := (ob (.type b0) (.seq ⟨[]⟩ 0))
noncomputable def o176 : Obj := (ob .none (.fields ⟨[]⟩))
noncomputable def a86 : Str := ⟨⟨[65,115,107,105,110,103,46,110,101,101,100]⟩⟩
noncomputable def o177 : Obj := (.mk .none none (.func (.mk a81 a86 (L2.defArgs (L2.inClass (G.top 23) 1)) (.stmts (L2.defBody (L2.inClass (G.top 23) 1))) (L2.defScope (L2.inClass (G.top 23) 1)) 0 [] .none .none .none .none none .none .none 0)) ⟨[]⟩)
noncomputable def o178 : Obj := (ob (.type b1) (.fields ⟨[(.str a81 408),(.str a86 409),(.str a43 410),(i 92),(i 2),(i 0),(i 0),(i 3),(.ref 168),(.bool .true),(i 181),(.ref 169),.none,.none,.none,(.ref 170),(i 411),(i 92),(.str a43 412)]⟩))
noncomputable def o179 : Obj := (.mk (.type b17) none (.func (PySem.W.fnOf a81 a86 (L2.defArgs (L2.inClass (G.top 23) 1)) (L2.defBody (L2.inClass (G.top 23) 1)) (L2.defScope (L2.inClass (G.top 23) 1)) .none .none .none (.str a76 352) none (.ref 171) .none)) ⟨[]⟩)
noncomputable def o180 : Obj := (ob (.type b0) (.seq ⟨[]⟩ 0))
noncomputable def o181 : Obj := (ob .none (.fields ⟨[]⟩))
noncomputable def a87 : Str := ⟨⟨[65,115,107,105,110,103,46,112,108,97,110]⟩⟩
noncomputable def o182 : Obj := (.mk .none none (.func (.mk a82 a87 (L2.defArgs (L2.inClass (G.top 23) 2)) (.stmts (L2.defBody (L2.inClass (G.top 23) 2))) (L2.defScope (L2.inClass (G.top 23) 2)) 0 [] .none .none .none .none none .none .none 0)) ⟨[]⟩)
noncomputable def o183 : Obj := (ob (.type b1) (.fields ⟨[(.str a82 414),(.str a87 415),(.str a43 416),(i 107),(i 2),(i 0),(i 0),(i 3),(.ref 173),(.bool .true),(i 181),(.ref 174),.none,.none,.none,(.ref 175),(i 417),(i 107),(.str a43 418)]⟩))
noncomputable def o184 : Obj := (.mk (.type b17) none (.func (PySem.W.fnOf a82 a87 (L2.defArgs (L2.inClass (G.top 23) 2)) (L2.defBody (L2.inClass (G.top 23) 2)) (L2.defScope (L2.inClass (G.top 23) 2)) .none .none .none (.str a76 352) none (.ref 176) .none)) ⟨[]⟩)
noncomputable def o185 : Obj := (ob (.type b0) (.seq ⟨[(.str a83 420),(.str a74 421),(.str a84 422)]⟩ 0))
noncomputable def a88 : Str := ⟨⟨[95,95,100,105,99,116,95,95]⟩⟩
noncomputable def o186 (P : Params) : Obj := (ob (.type b3) (.dict ⟨[(en P a54 395 (.str a76 352)),(en P a56 399 (.int 85 398)),(en P a59 407 (.ref 167)),(en P a81 413 (.ref 172)),(en P a82 419 (.ref 177)),(en P a57 423 (.ref 178)),(en P a88 425 (.ref 181)),(en P a58 427 (.ref 182)),(en P a46 428 .none)]⟩ 4))
noncomputable abbrev b18 : String := PySem.W.SL.s11443829558043349243x14
noncomputable def o187 : Obj := (.mk (.type b8) none (.cls (.mk a21 [(.type b11)] [(.ref 180),(.type b11)] 179 a21 .true [] [] .false none .false)) ⟨[none,none,(some (.str a21 388)),(some (.str a21 396)),(some (.builtin b18)),(some (.bool .true))]⟩)
noncomputable abbrev b19 : String := PySem.W.SL.s6511155373996960695x17
noncomputable abbrev b20 : String := PySem.W.SL.s12411053484034534018x21
noncomputable def o188 : Obj := (ob (.type b13) (.fields ⟨[(.str a88 424),(.ref 180),(.builtin b19),(.builtin b20)]⟩))
noncomputable def o189 : Obj := (ob (.type b13) (.fields ⟨[(.str a58 426),(.ref 180),(.builtin b14),.none]⟩))
noncomputable def o190 : Obj := (ob (.type b15) (.fields ⟨[(.ref 180),(.ref 180),(.ref 180)]⟩))
noncomputable def o191 : Obj := (ob (.type b6) (.fields ⟨[(.builtin b16),(.ref 180)]⟩))
noncomputable def o192 : Obj := (ob (.type b0) (.seq ⟨[]⟩ 0))
noncomputable def o193 : Obj := (ob .none (.fields ⟨[]⟩))
noncomputable def o194 : Obj := (cO a22 (G.top 24))
noncomputable def o195 : Obj := (ob (.type b1) (.fields ⟨[(.str a22 431),(.str a22 432),(.str a43 433),(i 113),(i 2),(i 0),(i 0),(i 3),(.ref 185),(.bool .true),(i 181),(.ref 186),.none,.none,.none,(.ref 187),(i 434),(i 113),(.str a43 435)]⟩))
noncomputable def o196 : Obj := (fO (.type b17) a22 (G.top 24) (.str a76 352) (.ref 188))
noncomputable def o197 : Obj := (ob (.type b0) (.seq ⟨[]⟩ 0))
noncomputable def o198 : Obj := (ob .none (.fields ⟨[]⟩))
noncomputable def a89 : Str := ⟨⟨[114,111,119]⟩⟩
noncomputable def o199 : Obj := (ob (.type b0) (.seq ⟨[(.str a89 440)]⟩ 0))
noncomputable def o200 : Obj := (ob (.type b0) (.seq ⟨[]⟩ 0))
noncomputable def o201 : Obj := (cO a23 (G.top 25))
noncomputable def o202 : Obj := (ob (.type b1) (.fields ⟨[(.str a23 437),(.str a23 438),(.str a43 439),(i 119),(i 1),(i 0),(i 0),(i 3),(.ref 190),(.bool .true),(i 181),(.ref 191),.none,(.ref 192),(.ref 193),(.ref 194),(i 441),(i 119),(.str a43 442)]⟩))
noncomputable def o203 : Obj := (fO (.type b17) a23 (G.top 25) (.str a76 352) (.ref 195))
noncomputable def o204 : Obj := (ob (.type b0) (.seq ⟨[]⟩ 0))
noncomputable def o205 : Obj := (ob .none (.fields ⟨[]⟩))
noncomputable def o206 : Obj := (cO a24 (G.top 26))
noncomputable def o207 : Obj := (ob (.type b1) (.fields ⟨[(.str a24 444),(.str a24 445),(.str a43 446),(i 121),(i 3),(i 0),(i 0),(i 3),(.ref 197),(.bool .true),(i 181),(.ref 198),.none,.none,.none,(.ref 199),(i 447),(i 121),(.str a43 448)]⟩))
noncomputable def o208 : Obj := (fO (.type b17) a24 (G.top 26) (.str a76 352) (.ref 200))
noncomputable def o209 : Obj := (ob (.type b0) (.seq ⟨[]⟩ 0))
noncomputable def o210 : Obj := (ob .none (.fields ⟨[]⟩))
noncomputable def o211 : Obj := (ob (.type b0) (.seq ⟨[(.str a74 453),(.str a79 454),(.str a82 455)]⟩ 0))
noncomputable def o212 : Obj := (ob (.type b0) (.seq ⟨[]⟩ 0))
noncomputable def o213 : Obj := (cO a25 (G.top 27))
noncomputable def o214 : Obj := (ob (.type b1) (.fields ⟨[(.str a25 450),(.str a25 451),(.str a43 452),(i 131),(i 3),(i 0),(i 0),(i 3),(.ref 202),(.bool .true),(i 181),(.ref 203),.none,(.ref 204),(.ref 205),(.ref 206),(i 456),(i 131),(.str a43 457)]⟩))
noncomputable def o215 : Obj := (fO (.type b17) a25 (G.top 27) (.str a76 352) (.ref 207))
noncomputable def t6 (P : PySem.Params) : PySem.W.BT := (n (q0 P) (n (q1 P) (n (o159 P) (n (q7 P) (n o6 (n o25 (n o63 (l o132) (l o198)) (n o98 (l o166) .nil)) (n o44 (n (o82 P) (l o148) (l o214)) (n o116 (l o182) .nil))) (n (o14 P) (n o33 (n o74 (l o140) (l o206)) (n o106 (l o174) .nil)) (n o55 (n o90 (l o156) .nil) (n o124 (l o190) .nil)))) (n o0 (n o10 (n o29 (n o70 (l o136) (l o202)) (n o102 (l o170) .nil)) (n o48 (n o86 (l o152) .nil) (n o120 (l (o186 P)) .nil))) (n o18 (n o40 (n o78 (l o144) (l o210)) (n o110 (l o178) .nil)) (n o59 (n o94 (l o162) .nil) (n o128 (l o194) .nil))))) (n (q5 P) (n (q9 P) (n (o8 P) (n o27 (n o68 (l o134) (l o200)) (n o100 (l o168) .nil)) (n o46 (n o84 (l o150) .nil) (n o118 (l o184) .nil))) (n o16 (n o38 (n o76 (l o142) (l o208)) (n o108 (l o176) .nil)) (n o57 (n o92 (l o158) .nil) (n o126 (l o192) .nil)))) (n o2 (n o12 (n o31 (n o72 (l o138) (l o204)) (n o104 (l o172) .nil)) (n o53 (n o88 (l o154) .nil) (n o122 (l o188) .nil))) (n o23 (n o42 (n o80 (l o146) (l o212)) (n o114 (l o180) .nil)) (n o61 (n o96 (l o164) .nil) (n o130 (l o196) .nil)))))) (n (q2 P) (n (q4 P) (n (q8 P) (n o7 (n o26 (n o67 (l o133) (l o199)) (n o99 (l o167) .nil)) (n (o45 P) (n o83 (l o149) (l o215)) (n o117 (l o183) .nil))) (n o66 (n o37 (n o75 (l o141) (l o207)) (n o107 (l o175) .nil)) (n o56 (n o91 (l o157) .nil) (n o125 (l o191) .nil)))) (n o160 (n o11 (n (o30 P) (n o71 (l o137) (l o203)) (n o103 (l o171) .nil)) (n o52 (n o87 (l o153) .nil) (n o121 (l o187) .nil))) (n o22 (n o41 (n o79 (l o145) (l o211)) (n o111 (l o179) .nil)) (n (o60 P) (n o95 (l (o163 P)) .nil) (n o129 (l o195) .nil))))) (n (q6 P) (n (q10 P) (n o9 (n o28 (n (o69 P) (l o135) (l o201)) (n o101 (l o169) .nil)) (n o47 (n o85 (l o151) .nil) (n o119 (l o185) .nil))) (n o17 (n (o39 P) (n o77 (l o143) (l o209)) (n o109 (l o177) .nil)) (n o58 (n o93 (l o161) .nil) (n o127 (l o193) .nil)))) (n o3 (n o13 (n o32 (n o73 (l o139) (l o205)) (n o105 (l o173) .nil)) (n (o54 P) (n o89 (l o155) .nil) (n o123 (l o189) .nil))) (n (o24 P) (n o43 (n o81 (l o147) (l o213)) (n o115 (l o181) .nil)) (n o62 (n o97 (l o165) .nil) (n o131 (l o197) .nil)))))))
theorem pz6 : ∀ w : PySem.World, (fun os : PySem.OsState => PySem.W.Fast.tw10110043849684766642 PySem.W.Fast.tw14364793385576792824 PySem.Challenge.pw_farhail_k57_whole_asks_of_known_webs w 11 (some (.ref 6)) 1 393 (PySem.W.SharedT.mk (t5 w.params) 154 (.mk [] [] [] 0 [] [] .false ⟨[]⟩ [] 0 .false .false .false 0 [2000,10,10] .false 0 .true [] [] 0 .false) (Array.mk ([] : List PySem.GenState)) (.mk 0 0 0 0) 388 os) (PySem.W.piecesOf sts6 env code (.mk 80 0 84 71) B)) = fun os => some (PySem.Flow.next, (PySem.W.SharedT.mk (t6 w.params) 209 (.mk [] [] [] 0 [] [] .false ⟨[]⟩ [] 0 .false .false .false 0 [2000,10,10] .false 0 .true [] [] 0 .false) (Array.mk ([] : List PySem.GenState)) (.mk 0 0 0 0) 459 os), code, (.mk 131 0 136 15)) := fun w => by kernel_rfl
theorem p6 (w : PySem.World) (os : PySem.OsState) : PySem.W.segRun PySem.treeTable PySem.Challenge.pw_farhail_k57_whole_asks_of_known_webs w 11 (some (.ref 6)) 1 393 (PySem.W.SharedT.mk (t5 w.params) 154 (.mk [] [] [] 0 [] [] .false ⟨[]⟩ [] 0 .false .false .false 0 [2000,10,10] .false 0 .true [] [] 0 .false) (Array.mk ([] : List PySem.GenState)) (.mk 0 0 0 0) 388 os).abs (PySem.W.piecesOf sts6 env code (.mk 80 0 84 71) B) = some (PySem.Flow.next, (PySem.W.SharedT.mk (t6 w.params) 209 (.mk [] [] [] 0 [] [] .false ⟨[]⟩ [] 0 .false .false .false 0 [2000,10,10] .false 0 .true [] [] 0 .false) (Array.mk ([] : List PySem.GenState)) (.mk 0 0 0 0) 459 os).abs, code, (.mk 131 0 136 15)) := PySem.W.segRun_of (by rw [PySem.W.Fast.te10110043849684766642, PySem.W.Fast.te14364793385576792824]; exact congrFun (pz6 w) os)
noncomputable def a90 : Str := ⟨⟨[108,97,119,95,102,97,114,104,97,105,108,95,107,53,55,95,119,104,111,108,101,95,97,115,107,115,95,111,102,95,107,110,111,119,110,95,119,101,98,115]⟩⟩
noncomputable def sts7 : List PySem.Stmt := [(.FunctionDef a26 (L2.defArgs (G.top 28)) (L2.defBody (G.top 28)) [] none [] (L2.defScope (G.top 28)) none a26 (.mk 137 0 139 47)), (.FunctionDef a27 (L2.defArgs (G.top 29)) (L2.defBody (G.top 29)) [] none [] (L2.defScope (G.top 29)) none a27 (.mk 140 0 149 15)), (.FunctionDef a28 (L2.defArgs (G.top 30)) (L2.defBody (G.top 30)) [] none [] (L2.defScope (G.top 30)) none a28 (.mk 150 0 160 67)), (.Assign [(.Name a0 (.mk 161 0 161 8))] (.Constant (.str a90) 0 (.mk 161 11 161 53)) (.mk 161 0 161 53)), (.FunctionDef a29 (L2.defArgs (G.top 32)) (L2.defBody (G.top 32)) [] none [] (L2.defScope (G.top 32)) none a29 (.mk 162 0 168 33)), (.FunctionDef a30 (L2.defArgs (G.top 33)) (L2.defBody (G.top 33)) [] none [] (L2.defScope (G.top 33)) none a30 (.mk 169 0 174 16)), (.FunctionDef a31 (L2.defArgs (G.top 34)) (L2.defBody (G.top 34)) [] none [] (L2.defScope (G.top 34)) none a31 (.mk 175 0 179 64)), (.FunctionDef a32 (L2.defArgs (G.top 35)) (L2.defBody (G.top 35)) [] none [] (L2.defScope (G.top 35)) none a32 (.mk 180 0 186 55)), (.FunctionDef a33 (L2.defArgs (G.top 36)) (L2.defBody (G.top 36)) [] none [] (L2.defScope (G.top 36)) none a33 (.mk 187 0 210 78)), (.FunctionDef a34 (L2.defArgs (G.top 37)) (L2.defBody (G.top 37)) [] none [] (L2.defScope (G.top 37)) none a34 (.mk 211 0 213 78)), (.FunctionDef a35 (L2.defArgs (G.top 38)) (L2.defBody (G.top 38)) [] none [] (L2.defScope (G.top 38)) none a35 (.mk 214 0 219 46)), (.FunctionDef a36 (L2.defArgs (G.top 39)) (L2.defBody (G.top 39)) [] none [] (L2.defScope (G.top 39)) none a36 (.mk 220 0 223 23)), (.FunctionDef a37 (L2.defArgs (G.top 40)) (L2.defBody (G.top 40)) [] none [] (L2.defScope (G.top 40)) none a37 (.mk 224 0 228 48)), (.FunctionDef a38 (L2.defArgs (G.top 41)) (L2.defBody (G.top 41)) [] none [] (L2.defScope (G.top 41)) none a38 (.mk 229 0 233 16))]
noncomputable def c15 (P : PySem.Params) (t : List PySem.DictEntry) : List PySem.DictEntry := (en P a33 520 (.ref 256))::(en P a34 529 (.ref 263))::(en P a35 539 (.ref 270))::(en P a36 547 (.ref 277))::(en P a37 553 (.ref 282))::(en P a38 563 (.ref 289))::t
noncomputable def c16 (P : PySem.Params) (t : List PySem.DictEntry) : List PySem.DictEntry := (en P a25 458 (.ref 208))::(en P a26 468 (.ref 215))::(en P a27 474 (.ref 220))::(en P a28 480 (.ref 225))::(en P a29 491 (.ref 232))::(en P a30 497 (.ref 237))::(en P a31 505 (.ref 244))::(en P a32 514 (.ref 251))::t
noncomputable def c17 (P : PySem.Params) (t : List PySem.DictEntry) : List PySem.DictEntry := (en P a0 165 (.str a90 481))::(en P a46 166 .none)::(en P a47 167 .none)::(en P a48 168 (.builtin b4))::(en P a49 169 .none)::(en P a50 170 (.ref 6))::(en P a51 171 (.ref 4))::(en P a52 173 (.str a43 172))::t
noncomputable def o216 (P : Params) : Obj := (ob (.type b3) (.dict ⟨(c17 P (c6 P (c5 P (c12 P (c16 P (c15 P []))))))⟩ 46))
noncomputable def c18 (t : List PySem.Value) : List PySem.Value := (i 224)::(i 0)::(.ref 281)::(i 229)::(i 0)::(.ref 288)::t
noncomputable def c19 (t : List PySem.Value) : List PySem.Value := (i 0)::(.ref 262)::(i 214)::(i 0)::(.ref 269)::(i 220)::(i 0)::(.ref 276)::t
noncomputable def c20 (t : List PySem.Value) : List PySem.Value := (.ref 243)::(i 180)::(i 0)::(.ref 250)::(i 187)::(i 0)::(.ref 255)::(i 211)::t
noncomputable def c21 (t : List PySem.Value) : List PySem.Value := (i 162)::(i 0)::(.ref 231)::(i 169)::(i 0)::(.ref 236)::(i 175)::(i 0)::t
noncomputable def c22 (t : List PySem.Value) : List PySem.Value := (i 0)::(.ref 214)::(i 140)::(i 0)::(.ref 219)::(i 150)::(i 0)::(.ref 224)::t
noncomputable def c23 (t : List PySem.Value) : List PySem.Value := (.ref 195)::(i 121)::(i 0)::(.ref 200)::(i 131)::(i 0)::(.ref 207)::(i 137)::t
noncomputable def o217 : Obj := (ob .none (.fields ⟨(c3 (c2 (c1 (c10 (c9 (c8 (c14 (c23 (c22 (c21 (c20 (c19 (c18 [])))))))))))))⟩))
noncomputable def o218 : Obj := (ob (.type b0) (.seq ⟨[]⟩ 0))
noncomputable def o219 : Obj := (ob .none (.fields ⟨[]⟩))
noncomputable def o220 : Obj := (ob (.type b0) (.seq ⟨[(.str a73 462),(.str a77 463),(.str a82 464),(.str a79 465)]⟩ 0))
noncomputable def o221 : Obj := (ob (.type b0) (.seq ⟨[]⟩ 0))
noncomputable def o222 : Obj := (cO a26 (G.top 28))
noncomputable def o223 : Obj := (ob (.type b1) (.fields ⟨[(.str a26 459),(.str a26 460),(.str a43 461),(i 137),(i 3),(i 0),(i 0),(i 3),(.ref 209),(.bool .true),(i 181),(.ref 210),.none,(.ref 211),(.ref 212),(.ref 213),(i 466),(i 137),(.str a43 467)]⟩))
noncomputable def o224 : Obj := (fO (.type b17) a26 (G.top 28) (.str a76 352) (.ref 214))
noncomputable def o225 : Obj := (ob (.type b0) (.seq ⟨[]⟩ 0))
noncomputable def o226 : Obj := (ob .none (.fields ⟨[]⟩))
noncomputable def o227 : Obj := (cO a27 (G.top 29))
noncomputable def o228 : Obj := (ob (.type b1) (.fields ⟨[(.str a27 469),(.str a27 470),(.str a43 471),(i 140),(i 3),(i 0),(i 0),(i 3),(.ref 216),(.bool .true),(i 181),(.ref 217),.none,.none,.none,(.ref 218),(i 472),(i 140),(.str a43 473)]⟩))
noncomputable def o229 : Obj := (fO (.type b17) a27 (G.top 29) (.str a76 352) (.ref 219))
noncomputable def o230 : Obj := (ob (.type b0) (.seq ⟨[]⟩ 0))
noncomputable def o231 : Obj := (ob .none (.fields ⟨[]⟩))
noncomputable def o232 : Obj := (cO a28 (G.top 30))
noncomputable def o233 : Obj := (ob (.type b1) (.fields ⟨[(.str a28 475),(.str a28 476),(.str a43 477),(i 150),(i 4),(i 0),(i 0),(i 3),(.ref 221),(.bool .true),(i 181),(.ref 222),.none,.none,.none,(.ref 223),(i 478),(i 150),(.str a43 479)]⟩))
noncomputable def o234 : Obj := (fO (.type b17) a28 (G.top 30) (.str a76 352) (.ref 224))
noncomputable def o235 : Obj := (ob (.type b0) (.seq ⟨[]⟩ 0))
noncomputable def o236 : Obj := (ob .none (.fields ⟨[]⟩))
noncomputable def a91 : Str := ⟨⟨[115,99,114,105,112,116]⟩⟩
noncomputable def a92 : Str := ⟨⟨[107]⟩⟩
noncomputable def a93 : Str := ⟨⟨[99,101,108,108]⟩⟩
noncomputable def o237 : Obj := (ob (.type b0) (.seq ⟨[(.str a91 486),(.str a92 487),(.str a93 488)]⟩ 0))
noncomputable def o238 : Obj := (ob (.type b0) (.seq ⟨[]⟩ 0))
noncomputable def o239 : Obj := (cO a29 (G.top 32))
noncomputable def o240 : Obj := (ob (.type b1) (.fields ⟨[(.str a29 483),(.str a29 484),(.str a43 485),(i 162),(i 2),(i 0),(i 0),(i 3),(.ref 226),(.bool .true),(i 181),(.ref 227),.none,(.ref 228),(.ref 229),(.ref 230),(i 489),(i 162),(.str a43 490)]⟩))
noncomputable def o241 : Obj := (fO (.type b17) a29 (G.top 32) (.str a90 481) (.ref 231))
noncomputable def o242 : Obj := (ob (.type b0) (.seq ⟨[]⟩ 0))
noncomputable def o243 : Obj := (ob .none (.fields ⟨[]⟩))
noncomputable def o244 : Obj := (cO a30 (G.top 33))
noncomputable def o245 : Obj := (ob (.type b1) (.fields ⟨[(.str a30 492),(.str a30 493),(.str a43 494),(i 169),(i 2),(i 0),(i 0),(i 3),(.ref 233),(.bool .true),(i 181),(.ref 234),.none,.none,.none,(.ref 235),(i 495),(i 169),(.str a43 496)]⟩))
noncomputable def o246 : Obj := (fO (.type b17) a30 (G.top 33) (.str a90 481) (.ref 236))
noncomputable def o247 : Obj := (ob (.type b0) (.seq ⟨[]⟩ 0))
noncomputable def o248 : Obj := (ob .none (.fields ⟨[]⟩))
noncomputable def a94 : Str := ⟨⟨[108,101,102,116]⟩⟩
noncomputable def o249 : Obj := (ob (.type b0) (.seq ⟨[(.str a93 501),(.str a94 502)]⟩ 0))
noncomputable def o250 : Obj := (ob (.type b0) (.seq ⟨[]⟩ 0))
noncomputable def o251 : Obj := (cO a31 (G.top 34))
noncomputable def o252 : Obj := (ob (.type b1) (.fields ⟨[(.str a31 498),(.str a31 499),(.str a43 500),(i 175),(i 1),(i 0),(i 0),(i 3),(.ref 238),(.bool .true),(i 181),(.ref 239),.none,(.ref 240),(.ref 241),(.ref 242),(i 503),(i 175),(.str a43 504)]⟩))
noncomputable def o253 : Obj := (fO (.type b17) a31 (G.top 34) (.str a90 481) (.ref 243))
noncomputable def o254 : Obj := (ob (.type b0) (.seq ⟨[]⟩ 0))
noncomputable def o255 : Obj := (ob .none (.fields ⟨[]⟩))
noncomputable def a95 : Str := ⟨⟨[115,116,97,116,101]⟩⟩
noncomputable def o256 : Obj := (ob (.type b0) (.seq ⟨[(.str a95 509),(.str a69 510),(.str a65 511)]⟩ 0))
noncomputable def o257 : Obj := (ob (.type b0) (.seq ⟨[]⟩ 0))
noncomputable def o258 : Obj := (cO a32 (G.top 35))
noncomputable def o259 : Obj := (ob (.type b1) (.fields ⟨[(.str a32 506),(.str a32 507),(.str a43 508),(i 180),(i 2),(i 0),(i 0),(i 3),(.ref 245),(.bool .true),(i 181),(.ref 246),.none,(.ref 247),(.ref 248),(.ref 249),(i 512),(i 180),(.str a43 513)]⟩))
noncomputable def o260 : Obj := (fO (.type b17) a32 (G.top 35) (.str a90 481) (.ref 250))
noncomputable def o261 : Obj := (ob (.type b0) (.seq ⟨[]⟩ 0))
noncomputable def o262 : Obj := (ob .none (.fields ⟨[]⟩))
noncomputable def o263 : Obj := (cO a33 (G.top 36))
noncomputable def o264 : Obj := (ob (.type b1) (.fields ⟨[(.str a33 515),(.str a33 516),(.str a43 517),(i 187),(i 3),(i 0),(i 0),(i 3),(.ref 252),(.bool .true),(i 181),(.ref 253),.none,.none,.none,(.ref 254),(i 518),(i 187),(.str a43 519)]⟩))
noncomputable def o265 : Obj := (fO (.type b17) a33 (G.top 36) (.str a90 481) (.ref 255))
noncomputable def o266 : Obj := (ob (.type b0) (.seq ⟨[]⟩ 0))
noncomputable def o267 : Obj := (ob .none (.fields ⟨[]⟩))
noncomputable def o268 : Obj := (ob (.type b0) (.seq ⟨[(.str a73 524),(.str a77 525),(.str a78 526)]⟩ 0))
noncomputable def o269 : Obj := (ob (.type b0) (.seq ⟨[]⟩ 0))
noncomputable def o270 : Obj := (cO a34 (G.top 37))
noncomputable def o271 : Obj := (ob (.type b1) (.fields ⟨[(.str a34 521),(.str a34 522),(.str a43 523),(i 211),(i 2),(i 0),(i 0),(i 3),(.ref 257),(.bool .true),(i 181),(.ref 258),.none,(.ref 259),(.ref 260),(.ref 261),(i 527),(i 211),(.str a43 528)]⟩))
noncomputable def o272 : Obj := (fO (.type b17) a34 (G.top 37) (.str a90 481) (.ref 262))
noncomputable def o273 : Obj := (ob (.type b0) (.seq ⟨[]⟩ 0))
noncomputable def o274 : Obj := (ob .none (.fields ⟨[]⟩))
noncomputable def o275 : Obj := (ob (.type b0) (.seq ⟨[(.str a95 533),(.str a84 534),(.str a73 535),(.str a77 536)]⟩ 0))
noncomputable def o276 : Obj := (ob (.type b0) (.seq ⟨[]⟩ 0))
noncomputable def o277 : Obj := (cO a35 (G.top 38))
noncomputable def o278 : Obj := (ob (.type b1) (.fields ⟨[(.str a35 530),(.str a35 531),(.str a43 532),(i 214),(i 2),(i 0),(i 0),(i 3),(.ref 264),(.bool .true),(i 181),(.ref 265),.none,(.ref 266),(.ref 267),(.ref 268),(i 537),(i 214),(.str a43 538)]⟩))
noncomputable def o279 : Obj := (fO (.type b17) a35 (G.top 38) (.str a90 481) (.ref 269))
noncomputable def o280 : Obj := (ob (.type b0) (.seq ⟨[]⟩ 0))
noncomputable def o281 : Obj := (ob .none (.fields ⟨[]⟩))
noncomputable def a96 : Str := ⟨⟨[110,97,109,101,115]⟩⟩
noncomputable def o282 : Obj := (ob (.type b0) (.seq ⟨[(.str a96 543),(.str a80 544)]⟩ 0))
noncomputable def o283 : Obj := (ob (.type b0) (.seq ⟨[]⟩ 0))
noncomputable def o284 : Obj := (cO a36 (G.top 39))
noncomputable def o285 : Obj := (ob (.type b1) (.fields ⟨[(.str a36 540),(.str a36 541),(.str a43 542),(i 220),(i 2),(i 0),(i 0),(i 3),(.ref 271),(.bool .true),(i 181),(.ref 272),.none,(.ref 273),(.ref 274),(.ref 275),(i 545),(i 220),(.str a43 546)]⟩))
noncomputable def o286 : Obj := (fO (.type b17) a36 (G.top 39) (.str a90 481) (.ref 276))
noncomputable def o287 : Obj := (ob (.type b0) (.seq ⟨[]⟩ 0))
noncomputable def o288 : Obj := (ob .none (.fields ⟨[]⟩))
noncomputable def o289 : Obj := (cO a37 (G.top 40))
noncomputable def o290 : Obj := (ob (.type b1) (.fields ⟨[(.str a37 548),(.str a37 549),(.str a43 550),(i 224),(i 2),(i 0),(i 0),(i 3),(.ref 278),(.bool .true),(i 181),(.ref 279),.none,.none,.none,(.ref 280),(i 551),(i 224),(.str a43 552)]⟩))
noncomputable def o291 : Obj := (fO (.type b17) a37 (G.top 40) (.str a90 481) (.ref 281))
noncomputable def o292 : Obj := (ob (.type b0) (.seq ⟨[]⟩ 0))
noncomputable def o293 : Obj := (ob .none (.fields ⟨[]⟩))
noncomputable def o294 : Obj := (ob (.type b0) (.seq ⟨[(.str a95 557),(.str a69 558),(.str a96 559),(.str a60 560)]⟩ 0))
noncomputable def o295 : Obj := (ob (.type b0) (.seq ⟨[]⟩ 0))
noncomputable def o296 : Obj := (cO a38 (G.top 41))
noncomputable def o297 : Obj := (ob (.type b1) (.fields ⟨[(.str a38 554),(.str a38 555),(.str a43 556),(i 229),(i 2),(i 0),(i 0),(i 3),(.ref 283),(.bool .true),(i 181),(.ref 284),.none,(.ref 285),(.ref 286),(.ref 287),(i 561),(i 229),(.str a43 562)]⟩))
noncomputable def o298 : Obj := (fO (.type b17) a38 (G.top 41) (.str a90 481) (.ref 288))
noncomputable def t7 (P : PySem.Params) : PySem.W.BT := (n (q0 P) (n (q1 P) (n (o216 P) (n (q7 P) (n o6 (n o25 (n o63 (n o132 (l o264) .nil) (l o198)) (n o98 (n o166 (l o296) .nil) (l o232))) (n o44 (n (o82 P) (n o148 (l o280) .nil) (l o214)) (n o116 (l o182) (l o248)))) (n (o14 P) (n o33 (n o74 (n o140 (l o272) .nil) (l o206)) (n o106 (l o174) (l o240))) (n o55 (n o90 (n o156 (l o288) .nil) (l o224)) (n o124 (l o190) (l o256))))) (n o0 (n o10 (n o29 (n o70 (n o136 (l o268) .nil) (l o202)) (n o102 (l o170) (l o236))) (n o48 (n o86 (n o152 (l o284) .nil) (l o220)) (n o120 (l (o186 P)) (l o252)))) (n o18 (n o40 (n o78 (n o144 (l o276) .nil) (l o210)) (n o110 (l o178) (l o244))) (n o59 (n o94 (n o162 (l o292) .nil) (l o228)) (n o128 (l o194) (l o260)))))) (n (q5 P) (n (q9 P) (n (o8 P) (n o27 (n o68 (n o134 (l o266) .nil) (l o200)) (n o100 (n o168 (l o298) .nil) (l o234))) (n o46 (n o84 (n o150 (l o282) .nil) (l o218)) (n o118 (l o184) (l o250)))) (n o16 (n o38 (n o76 (n o142 (l o274) .nil) (l o208)) (n o108 (l o176) (l o242))) (n o57 (n o92 (n o158 (l o290) .nil) (l o226)) (n o126 (l o192) (l o258))))) (n o2 (n o12 (n o31 (n o72 (n o138 (l o270) .nil) (l o204)) (n o104 (l o172) (l o238))) (n o53 (n o88 (n o154 (l o286) .nil) (l o222)) (n o122 (l o188) (l o254)))) (n o23 (n o42 (n o80 (n o146 (l o278) .nil) (l o212)) (n o114 (l o180) (l o246))) (n o61 (n o96 (n o164 (l o294) .nil) (l o230)) (n o130 (l o196) (l o262))))))) (n (q2 P) (n (q4 P) (n (q8 P) (n o7 (n o26 (n o67 (n o133 (l o265) .nil) (l o199)) (n o99 (n o167 (l o297) .nil) (l o233))) (n (o45 P) (n o83 (n o149 (l o281) .nil) (l o215)) (n o117 (l o183) (l o249)))) (n o66 (n o37 (n o75 (n o141 (l o273) .nil) (l o207)) (n o107 (l o175) (l o241))) (n o56 (n o91 (n o157 (l o289) .nil) (l o225)) (n o125 (l o191) (l o257))))) (n o217 (n o11 (n (o30 P) (n o71 (n o137 (l o269) .nil) (l o203)) (n o103 (l o171) (l o237))) (n o52 (n o87 (n o153 (l o285) .nil) (l o221)) (n o121 (l o187) (l o253)))) (n o22 (n o41 (n o79 (n o145 (l o277) .nil) (l o211)) (n o111 (l o179) (l o245))) (n (o60 P) (n o95 (n (o163 P) (l o293) .nil) (l o229)) (n o129 (l o195) (l o261)))))) (n (q6 P) (n (q10 P) (n o9 (n o28 (n (o69 P) (n o135 (l o267) .nil) (l o201)) (n o101 (l o169) (l o235))) (n o47 (n o85 (n o151 (l o283) .nil) (l o219)) (n o119 (l o185) (l o251)))) (n o17 (n (o39 P) (n o77 (n o143 (l o275) .nil) (l o209)) (n o109 (l o177) (l o243))) (n o58 (n o93 (n o161 (l o291) .nil) (l o227)) (n o127 (l o193) (l o259))))) (n o3 (n o13 (n o32 (n o73 (n o139 (l o271) .nil) (l o205)) (n o105 (l o173) (l o239))) (n (o54 P) (n o89 (n o155 (l o287) .nil) (l o223)) (n o123 (l o189) (l o255)))) (n (o24 P) (n o43 (n o81 (n o147 (l o279) .nil) (l o213)) (n o115 (l o181) (l o247))) (n o62 (n o97 (n o165 (l o295) .nil) (l o231)) (n o131 (l o197) (l o263))))))))
theorem pz7 : ∀ w : PySem.World, (fun os : PySem.OsState => PySem.W.Fast.tw10110043849684766642 PySem.W.Fast.tw14364793385576792824 PySem.Challenge.pw_farhail_k57_whole_asks_of_known_webs w 11 (some (.ref 6)) 1 389 (PySem.W.SharedT.mk (t6 w.params) 209 (.mk [] [] [] 0 [] [] .false ⟨[]⟩ [] 0 .false .false .false 0 [2000,10,10] .false 0 .true [] [] 0 .false) (Array.mk ([] : List PySem.GenState)) (.mk 0 0 0 0) 459 os) (PySem.W.piecesOf sts7 env code (.mk 131 0 136 15) B)) = fun os => some (PySem.Flow.next, (PySem.W.SharedT.mk (t7 w.params) 290 (.mk [] [] [] 0 [] [] .false ⟨[]⟩ [] 0 .false .false .false 0 [2000,10,10] .false 0 .true [] [] 0 .false) (Array.mk ([] : List PySem.GenState)) (.mk 0 0 0 0) 564 os), code, (.mk 229 0 233 16)) := fun w => by kernel_rfl
theorem p7 (w : PySem.World) (os : PySem.OsState) : PySem.W.segRun PySem.treeTable PySem.Challenge.pw_farhail_k57_whole_asks_of_known_webs w 11 (some (.ref 6)) 1 389 (PySem.W.SharedT.mk (t6 w.params) 209 (.mk [] [] [] 0 [] [] .false ⟨[]⟩ [] 0 .false .false .false 0 [2000,10,10] .false 0 .true [] [] 0 .false) (Array.mk ([] : List PySem.GenState)) (.mk 0 0 0 0) 459 os).abs (PySem.W.piecesOf sts7 env code (.mk 131 0 136 15) B) = some (PySem.Flow.next, (PySem.W.SharedT.mk (t7 w.params) 290 (.mk [] [] [] 0 [] [] .false ⟨[]⟩ [] 0 .false .false .false 0 [2000,10,10] .false 0 .true [] [] 0 .false) (Array.mk ([] : List PySem.GenState)) (.mk 0 0 0 0) 564 os).abs, code, (.mk 229 0 233 16)) := PySem.W.segRun_of (by rw [PySem.W.Fast.te10110043849684766642, PySem.W.Fast.te14364793385576792824]; exact congrFun (pz7 w) os)
noncomputable def sts8 : List PySem.Stmt := [(.FunctionDef a39 (L2.defArgs (G.top 42)) (L2.defBody (G.top 42)) [] none [] (L2.defScope (G.top 42)) none a39 (.mk 234 0 245 47)), (.FunctionDef a40 (L2.defArgs (G.top 43)) (L2.defBody (G.top 43)) [] none [] (L2.defScope (G.top 43)) none a40 (.mk 246 0 259 15)), (.FunctionDef a41 (L2.defArgs (G.top 44)) (L2.defBody (G.top 44)) [] none [] (L2.defScope (G.top 44)) none a41 (.mk 260 0 266 15))]
noncomputable def c24 (P : PySem.Params) (t : List PySem.DictEntry) : List PySem.DictEntry := (en P a41 587 (.ref 306))::t
noncomputable def c25 (P : PySem.Params) (t : List PySem.DictEntry) : List PySem.DictEntry := (en P a33 520 (.ref 256))::(en P a34 529 (.ref 263))::(en P a35 539 (.ref 270))::(en P a36 547 (.ref 277))::(en P a37 553 (.ref 282))::(en P a38 563 (.ref 289))::(en P a39 569 (.ref 294))::(en P a40 575 (.ref 299))::t
noncomputable def o299 (P : Params) : Obj := (ob (.type b3) (.dict ⟨(c17 P (c6 P (c5 P (c12 P (c16 P (c25 P (c24 P [])))))))⟩ 49))
noncomputable def c26 (t : List PySem.Value) : List PySem.Value := (.ref 293)::(i 246)::(i 0)::(.ref 298)::(i 260)::(i 0)::(.ref 305)::t
noncomputable def c27 (t : List PySem.Value) : List PySem.Value := (i 224)::(i 0)::(.ref 281)::(i 229)::(i 0)::(.ref 288)::(i 234)::(i 0)::t
noncomputable def o300 : Obj := (ob .none (.fields ⟨(c3 (c2 (c1 (c10 (c9 (c8 (c14 (c23 (c22 (c21 (c20 (c19 (c27 (c26 []))))))))))))))⟩))
noncomputable def o301 : Obj := (ob (.type b0) (.seq ⟨[]⟩ 0))
noncomputable def o302 : Obj := (ob .none (.fields ⟨[]⟩))
noncomputable def o303 : Obj := (cO a39 (G.top 42))
noncomputable def o304 : Obj := (ob (.type b1) (.fields ⟨[(.str a39 564),(.str a39 565),(.str a43 566),(i 234),(i 3),(i 0),(i 0),(i 3),(.ref 290),(.bool .true),(i 181),(.ref 291),.none,.none,.none,(.ref 292),(i 567),(i 234),(.str a43 568)]⟩))
noncomputable def o305 : Obj := (fO (.type b17) a39 (G.top 42) (.str a90 481) (.ref 293))
noncomputable def o306 : Obj := (ob (.type b0) (.seq ⟨[]⟩ 0))
noncomputable def o307 : Obj := (ob .none (.fields ⟨[]⟩))
noncomputable def o308 : Obj := (cO a40 (G.top 43))
noncomputable def o309 : Obj := (ob (.type b1) (.fields ⟨[(.str a40 570),(.str a40 571),(.str a43 572),(i 246),(i 1),(i 0),(i 0),(i 3),(.ref 295),(.bool .true),(i 181),(.ref 296),.none,.none,.none,(.ref 297),(i 573),(i 246),(.str a43 574)]⟩))
noncomputable def o310 : Obj := (fO (.type b17) a40 (G.top 43) (.str a90 481) (.ref 298))
noncomputable def o311 : Obj := (ob (.type b0) (.seq ⟨[]⟩ 0))
noncomputable def o312 : Obj := (ob .none (.fields ⟨[]⟩))
noncomputable def o313 : Obj := (ob (.type b0) (.seq ⟨[(.str a91 579),(.str a93 580),(.str a95 581),(.str a73 582),(.str a77 583),(.str a79 584)]⟩ 0))
noncomputable def o314 : Obj := (ob (.type b0) (.seq ⟨[]⟩ 0))
noncomputable def o315 : Obj := (cO a41 (G.top 44))
noncomputable def o316 : Obj := (ob (.type b1) (.fields ⟨[(.str a41 576),(.str a41 577),(.str a43 578),(i 260),(i 1),(i 0),(i 0),(i 3),(.ref 300),(.bool .true),(i 181),(.ref 301),.none,(.ref 302),(.ref 303),(.ref 304),(i 585),(i 260),(.str a43 586)]⟩))
noncomputable def o317 : Obj := (fO (.type b17) a41 (G.top 44) (.str a90 481) (.ref 305))
noncomputable def t8 (P : PySem.Params) : PySem.W.BT := (n (q0 P) (n (q1 P) (n (o299 P) (n (q7 P) (n o6 (n o25 (n o63 (n o132 (l o264) .nil) (l o198)) (n o98 (n o166 (l o296) .nil) (l o232))) (n o44 (n (o82 P) (n o148 (l o280) .nil) (l o214)) (n o116 (n o182 (l o314) .nil) (l o248)))) (n (o14 P) (n o33 (n o74 (n o140 (l o272) .nil) (l o206)) (n o106 (n o174 (l o306) .nil) (l o240))) (n o55 (n o90 (n o156 (l o288) .nil) (l o224)) (n o124 (l o190) (l o256))))) (n o0 (n o10 (n o29 (n o70 (n o136 (l o268) .nil) (l o202)) (n o102 (n o170 (l o302) .nil) (l o236))) (n o48 (n o86 (n o152 (l o284) .nil) (l o220)) (n o120 (l (o186 P)) (l o252)))) (n o18 (n o40 (n o78 (n o144 (l o276) .nil) (l o210)) (n o110 (n o178 (l o310) .nil) (l o244))) (n o59 (n o94 (n o162 (l o292) .nil) (l o228)) (n o128 (l o194) (l o260)))))) (n (q5 P) (n (q9 P) (n (o8 P) (n o27 (n o68 (n o134 (l o266) .nil) (l o200)) (n o100 (n o168 (l o298) .nil) (l o234))) (n o46 (n o84 (n o150 (l o282) .nil) (l o218)) (n o118 (n o184 (l o316) .nil) (l o250)))) (n o16 (n o38 (n o76 (n o142 (l o274) .nil) (l o208)) (n o108 (n o176 (l o308) .nil) (l o242))) (n o57 (n o92 (n o158 (l o290) .nil) (l o226)) (n o126 (l o192) (l o258))))) (n o2 (n o12 (n o31 (n o72 (n o138 (l o270) .nil) (l o204)) (n o104 (n o172 (l o304) .nil) (l o238))) (n o53 (n o88 (n o154 (l o286) .nil) (l o222)) (n o122 (l o188) (l o254)))) (n o23 (n o42 (n o80 (n o146 (l o278) .nil) (l o212)) (n o114 (n o180 (l o312) .nil) (l o246))) (n o61 (n o96 (n o164 (l o294) .nil) (l o230)) (n o130 (l o196) (l o262))))))) (n (q2 P) (n (q4 P) (n (q8 P) (n o7 (n o26 (n o67 (n o133 (l o265) .nil) (l o199)) (n o99 (n o167 (l o297) .nil) (l o233))) (n (o45 P) (n o83 (n o149 (l o281) .nil) (l o215)) (n o117 (n o183 (l o315) .nil) (l o249)))) (n o66 (n o37 (n o75 (n o141 (l o273) .nil) (l o207)) (n o107 (n o175 (l o307) .nil) (l o241))) (n o56 (n o91 (n o157 (l o289) .nil) (l o225)) (n o125 (l o191) (l o257))))) (n o300 (n o11 (n (o30 P) (n o71 (n o137 (l o269) .nil) (l o203)) (n o103 (n o171 (l o303) .nil) (l o237))) (n o52 (n o87 (n o153 (l o285) .nil) (l o221)) (n o121 (l o187) (l o253)))) (n o22 (n o41 (n o79 (n o145 (l o277) .nil) (l o211)) (n o111 (n o179 (l o311) .nil) (l o245))) (n (o60 P) (n o95 (n (o163 P) (l o293) .nil) (l o229)) (n o129 (l o195) (l o261)))))) (n (q6 P) (n (q10 P) (n o9 (n o28 (n (o69 P) (n o135 (l o267) .nil) (l o201)) (n o101 (n o169 (l o301) .nil) (l o235))) (n o47 (n o85 (n o151 (l o283) .nil) (l o219)) (n o119 (n o185 (l o317) .nil) (l o251)))) (n o17 (n (o39 P) (n o77 (n o143 (l o275) .nil) (l o209)) (n o109 (n o177 (l o309) .nil) (l o243))) (n o58 (n o93 (n o161 (l o291) .nil) (l o227)) (n o127 (l o193) (l o259))))) (n o3 (n o13 (n o32 (n o73 (n o139 (l o271) .nil) (l o205)) (n o105 (n o173 (l o305) .nil) (l o239))) (n (o54 P) (n o89 (n o155 (l o287) .nil) (l o223)) (n o123 (l o189) (l o255)))) (n (o24 P) (n o43 (n o81 (n o147 (l o279) .nil) (l o213)) (n o115 (n o181 (l o313) .nil) (l o247))) (n o62 (n o97 (n o165 (l o295) .nil) (l o231)) (n o131 (l o197) (l o263))))))))
theorem pz8 : ∀ w : PySem.World, (fun os : PySem.OsState => PySem.W.Fast.tw10110043849684766642 PySem.W.Fast.tw14364793385576792824 PySem.Challenge.pw_farhail_k57_whole_asks_of_known_webs w 11 (some (.ref 6)) 1 87 (PySem.W.SharedT.mk (t7 w.params) 290 (.mk [] [] [] 0 [] [] .false ⟨[]⟩ [] 0 .false .false .false 0 [2000,10,10] .false 0 .true [] [] 0 .false) (Array.mk ([] : List PySem.GenState)) (.mk 0 0 0 0) 564 os) (PySem.W.piecesOf sts8 env code (.mk 229 0 233 16) B)) = fun os => some (PySem.Flow.next, (PySem.W.SharedT.mk (t8 w.params) 307 (.mk [] [] [] 0 [] [] .false ⟨[]⟩ [] 0 .false .false .false 0 [2000,10,10] .false 0 .true [] [] 0 .false) (Array.mk ([] : List PySem.GenState)) (.mk 0 0 0 0) 588 os), code, (.mk 260 0 266 15)) := fun w => by kernel_rfl
theorem p8 (w : PySem.World) (os : PySem.OsState) : PySem.W.segRun PySem.treeTable PySem.Challenge.pw_farhail_k57_whole_asks_of_known_webs w 11 (some (.ref 6)) 1 87 (PySem.W.SharedT.mk (t7 w.params) 290 (.mk [] [] [] 0 [] [] .false ⟨[]⟩ [] 0 .false .false .false 0 [2000,10,10] .false 0 .true [] [] 0 .false) (Array.mk ([] : List PySem.GenState)) (.mk 0 0 0 0) 564 os).abs (PySem.W.piecesOf sts8 env code (.mk 229 0 233 16) B) = some (PySem.Flow.next, (PySem.W.SharedT.mk (t8 w.params) 307 (.mk [] [] [] 0 [] [] .false ⟨[]⟩ [] 0 .false .false .false 0 [2000,10,10] .false 0 .true [] [] 0 .false) (Array.mk ([] : List PySem.GenState)) (.mk 0 0 0 0) 588 os).abs, code, (.mk 260 0 266 15)) := PySem.W.segRun_of (by rw [PySem.W.Fast.te10110043849684766642, PySem.W.Fast.te14364793385576792824]; exact congrFun (pz8 w) os)
noncomputable def hF (P : PySem.Params) : PySem.Heap := ⟨⟨[(q0 P), (q1 P), (q2 P), (o299 P), (q4 P), (q5 P), (q6 P), (q7 P), (q8 P), (q9 P), (q10 P), o0, o300, o2, o3, o6, o7, (o8 P), o9, o10, o11, o12, o13, (o14 P), o66, o16, o17, o18, o22, o23, (o24 P), o25, o26, o27, o28, o29, (o30 P), o31, o32, o33, o37, o38, (o39 P), o40, o41, o42, o43, o44, (o45 P), o46, o47, o48, o52, o53, (o54 P), o55, o56, o57, o58, o59, (o60 P), o61, o62, o63, o67, o68, (o69 P), o70, o71, o72, o73, o74, o75, o76, o77, o78, o79, o80, o81, (o82 P), o83, o84, o85, o86, o87, o88, o89, o90, o91, o92, o93, o94, o95, o96, o97, o98, o99, o100, o101, o102, o103, o104, o105, o106, o107, o108, o109, o110, o111, o114, o115, o116, o117, o118, o119, o120, o121, o122, o123, o124, o125, o126, o127, o128, o129, o130, o131, o132, o133, o134, o135, o136, o137, o138, o139, o140, o141, o142, o143, o144, o145, o146, o147, o148, o149, o150, o151, o152, o153, o154, o155, o156, o157, o158, o161, o162, (o163 P), o164, o165, o166, o167, o168, o169, o170, o171, o172, o173, o174, o175, o176, o177, o178, o179, o180, o181, o182, o183, o184, o185, (o186 P), o187, o188, o189, o190, o191, o192, o193, o194, o195, o196, o197, o198, o199, o200, o201, o202, o203, o204, o205, o206, o207, o208, o209, o210, o211, o212, o213, o214, o215, o218, o219, o220, o221, o222, o223, o224, o225, o226, o227, o228, o229, o230, o231, o232, o233, o234, o235, o236, o237, o238, o239, o240, o241, o242, o243, o244, o245, o246, o247, o248, o249, o250, o251, o252, o253, o254, o255, o256, o257, o258, o259, o260, o261, o262, o263, o264, o265, o266, o267, o268, o269, o270, o271, o272, o273, o274, o275, o276, o277, o278, o279, o280, o281, o282, o283, o284, o285, o286, o287, o288, o289, o290, o291, o292, o293, o294, o295, o296, o297, o298, o301, o302, o303, o304, o305, o306, o307, o308, o309, o310, o311, o312, o313, o314, o315, o316, o317]⟩, (.mk [] [] [] 0 [] [] .false ⟨[]⟩ [] 0 .false .false .false 0 [2000,10,10] .false 0 .true [] [] 0 .false)⟩
theorem fin0 (w : PySem.World) : (fun os : PySem.OsState => PySem.W.Fast.tw14082659384304107361 PySem.W.Fast.tw14364793385576792824 PySem.Challenge.pw_farhail_k57_whole_asks_of_known_webs w 11 (some (.ref 6)) 2 (PySem.W.SharedT.mk (t8 w.params) 307 (.mk [] [] [] 0 [] [] .false ⟨[]⟩ [] 0 .false .false .false 0 [2000,10,10] .false 0 .true [] [] 0 .false) (Array.mk ([] : List PySem.GenState)) (.mk 0 0 0 0) 588 os).abs (PySem.Thread.mk (PySem.W.doneF PySem.Flow.next) code (.mk 260 0 266 15) B)) = fun os => some (PySem.Shared.mk (hF w.params) (Array.mk ([] : List PySem.GenState)) (.mk 0 0 0 0) 588 os) := by kernel_rfl
theorem fin (w : PySem.World) (os : PySem.OsState) : PySem.W.topRun PySem.treeTable PySem.Challenge.pw_farhail_k57_whole_asks_of_known_webs w 11 (some (.ref 6)) 2 (PySem.W.SharedT.mk (t8 w.params) 307 (.mk [] [] [] 0 [] [] .false ⟨[]⟩ [] 0 .false .false .false 0 [2000,10,10] .false 0 .true [] [] 0 .false) (Array.mk ([] : List PySem.GenState)) (.mk 0 0 0 0) 588 os).abs (PySem.W.restOf [] env code (.mk 260 0 266 15) B) = some (PySem.Shared.mk (hF w.params) (Array.mk ([] : List PySem.GenState)) (.mk 0 0 0 0) 588 os) := by rw [show PySem.W.restOf [] env code (.mk 260 0 266 15) B = (PySem.Thread.mk (PySem.W.doneF PySem.Flow.next) code (.mk 260 0 266 15) B) by kernel_rfl, PySem.W.Fast.te14082659384304107361, PySem.W.Fast.te14364793385576792824]; exact congrFun (fin0 w) os
theorem parts : PySem.W.behindTheImports PySem.Challenge.pw_farhail_k57_whole_asks_of_known_webs = (sts0 ++ (sts1 ++ (sts2 ++ (sts3 ++ (sts4 ++ (sts5 ++ (sts6 ++ (sts7 ++ (sts8 ++ []))))))))) := by kernel_rfl
noncomputable abbrev SF (w : PySem.World) (os : PySem.OsState) : PySem.Shared := (PySem.Shared.mk (hF w.params) (Array.mk ([] : List PySem.GenState)) (.mk 0 0 0 0) 588 os)
theorem with_parts {tb : String → Option PySem.Builtin} {p : PySem.Program} {w : PySem.World} {n₀ : Nat} {a : Option PySem.Value} {N : Nat} {s : PySem.Shared} {r : Option PySem.Shared} {b b' : List PySem.Stmt} {e : PySem.Env} {c : PySem.Code} {q : PySem.Pos} {F : List PySem.Frame} (h : b = b') (k : PySem.W.topRun tb p w n₀ a N s (PySem.W.restOf b' e c q F) = r) : PySem.W.topRun tb p w n₀ a N s (PySem.W.restOf b e c q F) = r := by rw [h]; exact k
theorem run (w : PySem.World) (os : PySem.OsState) : PySem.W.topRun PySem.treeTable PySem.Challenge.pw_farhail_k57_whole_asks_of_known_webs w 11 (some (.ref 6)) (12 + (1 + (196 + (214 + (214 + (214 + (391 + (242 + (393 + (389 + (87 + 2))))))))))) (PySem.Shared.mk (PySem.W.boot_heap w.params) (Array.mk ([] : List PySem.GenState)) PySem.W.boot_drawn PySem.W.boot_toks os) (PySem.W.topStub PySem.Challenge.pw_farhail_k57_whole_asks_of_known_webs) = some (PySem.Shared.mk (hF w.params) (Array.mk ([] : List PySem.GenState)) (.mk 0 0 0 0) 588 os) := PySem.W.go_top (pre w os) (PySem.W.piece_block (block w os) (with_parts parts (PySem.W.piece_app (p0 w os) (PySem.W.piece_app (p1 w os) (PySem.W.piece_app (p2 w os) (PySem.W.piece_app (p3 w os) (PySem.W.piece_app (p4 w os) (PySem.W.piece_app (p5 w os) (PySem.W.piece_app (p6 w os) (PySem.W.piece_app (p7 w os) (PySem.W.piece_app (p8 w os) (fin w os))))))))))))
theorem opens : ∀ w : PySem.World, (PySem.W.fencedOpening PySem.treeTable PySem.Challenge.pw_farhail_k57_whole_asks_of_known_webs w 4788).map (fun s => (s.heap, s.gens, s.drawn, s.toks)) = some (PySem.W.boot_heap w.params, Array.mk [], PySem.W.boot_drawn, PySem.W.boot_toks) := PySem.W.boot_open (by kernel_rfl) (by kernel_rfl) (fun s => by kernel_rfl)
theorem size : ∀ w : PySem.World, ((PySem.W.boot_heap w.params).isNs PySem.mainGlobals && (Array.mk [] : Array PySem.GenState).size == 0, (PySem.W.boot_heap w.params).objs.size, (PySem.W.boot_heap w.params).nsMap PySem.mainGlobals "__annotations__") = (true, 11, (some (.ref 6))) := fun w => by kernel_rfl
noncomputable def K : PySem.Params → PySem.W.Frag := fun P => (nat_lit 2, (ob .none (.dict ⟨[]⟩ 0))) :: (nat_lit 3, (ob (.type "dict") (.dict ⟨[(.mk (PyData.keyHash P "__name__") (.str "__name__" 165) (.str "law_farhail_k57_whole_asks_of_known_webs" 481)),(.mk (PyData.keyHash P "__doc__") (.str "__doc__" 166) .none),(.mk (PyData.keyHash P "__package__") (.str "__package__" 167) .none),(.mk (PyData.keyHash P "__loader__") (.str "__loader__" 168) (.builtin "__main__.__loader__#opaque")),(.mk (PyData.keyHash P "__spec__") (.str "__spec__" 169) .none),(.mk (PyData.keyHash P "__annotations__") (.str "__annotations__" 170) (.ref 6)),(.mk (PyData.keyHash P "__builtins__") (.str "__builtins__" 171) (.ref 4)),(.mk (PyData.keyHash P "__file__") (.str "__file__" 173) (.str "/claim/cut.py" 172)),(.mk (PyData.keyHash P "__cached__") (.str "__cached__" 174) .none),(.mk (PyData.keyHash P "HailError") (.str "HailError" 206) (.ref 24)),(.mk (PyData.keyHash P "NoWeb") (.str "NoWeb" 222) (.ref 37)),(.mk (PyData.keyHash P "NoPlace") (.str "NoPlace" 238) (.ref 49)),(.mk (PyData.keyHash P "TooMany") (.str "TooMany" 254) (.ref 61)),(.mk (PyData.keyHash P "Apart") (.str "Apart" 279) (.ref 80)),(.mk (PyData.keyHash P "MOST_PLACES_webs") (.str "MOST_PLACES_webs" 283) (.int 60 282)),(.mk (PyData.keyHash P "near_lists") (.str "near_lists" 289) (.ref 87)),(.mk (PyData.keyHash P "fars_by") (.str "fars_by" 301) (.ref 94)),(.mk (PyData.keyHash P "sorted_ties") (.str "sorted_ties" 313) (.ref 101)),(.mk (PyData.keyHash P "made_web") (.str "made_web" 324) (.ref 108)),(.mk (PyData.keyHash P "place_asked") (.str "place_asked" 332) (.ref 115)),(.mk (PyData.keyHash P "fars_from") (.str "fars_from" 340) (.ref 122)),(.mk (PyData.keyHash P "things_of") (.str "things_of" 351) (.ref 129)),(.mk (PyData.keyHash P "MOST_PLACES_asks") (.str "MOST_PLACES_asks" 355) (.int 7 354)),(.mk (PyData.keyHash P "MOST_THINGS") (.str "MOST_THINGS" 357) (.int 8 356)),(.mk (PyData.keyHash P "few_things") (.str "few_things" 366) (.ref 136)),(.mk (PyData.keyHash P "all_fars") (.str "all_fars" 372) (.ref 141)),(.mk (PyData.keyHash P "far_thing") (.str "far_thing" 381) (.ref 148)),(.mk (PyData.keyHash P "parts_by") (.str "parts_by" 387) (.ref 153)),(.mk (PyData.keyHash P "Asking") (.str "Asking" 430) (.ref 180)),(.mk (PyData.keyHash P "fewest_asks") (.str "fewest_asks" 436) (.ref 189)),(.mk (PyData.keyHash P "len_first") (.str "len_first" 443) (.ref 196)),(.mk (PyData.keyHash P "plan_of_parts") (.str "plan_of_parts" 449) (.ref 201)),(.mk (PyData.keyHash P "asks_of") (.str "asks_of" 458) (.ref 208)),(.mk (PyData.keyHash P "plan_asks") (.str "plan_asks" 468) (.ref 215)),(.mk (PyData.keyHash P "is_row_shown") (.str "is_row_shown" 474) (.ref 220)),(.mk (PyData.keyHash P "table_shows") (.str "table_shows" 480) (.ref 225)),(.mk (PyData.keyHash P "_law_cell_at") (.str "_law_cell_at" 491) (.ref 232)),(.mk (PyData.keyHash P "_law_folded") (.str "_law_folded" 497) (.ref 237)),(.mk (PyData.keyHash P "_law_state") (.str "_law_state" 505) (.ref 244)),(.mk (PyData.keyHash P "_law_next") (.str "_law_next" 514) (.ref 251)),(.mk (PyData.keyHash P "_law_web") (.str "_law_web" 520) (.ref 256)),(.mk (PyData.keyHash P "_law_things") (.str "_law_things" 529) (.ref 263)),(.mk (PyData.keyHash P "_law_few") (.str "_law_few" 539) (.ref 270)),(.mk (PyData.keyHash P "_law_thing") (.str "_law_thing" 547) (.ref 277)),(.mk (PyData.keyHash P "_law_plan") (.str "_law_plan" 553) (.ref 282)),(.mk (PyData.keyHash P "_law_order") (.str "_law_order" 563) (.ref 289)),(.mk (PyData.keyHash P "_law_renamed_right") (.str "_law_renamed_right" 569) (.ref 294)),(.mk (PyData.keyHash P "_law_known_right") (.str "_law_known_right" 575) (.ref 299)),(.mk (PyData.keyHash P "law") (.str "law" 587) (.ref 306))]⟩ 49))) :: (nat_lit 15, (ob (.type "tuple") (.seq ⟨[(.type "ValueError")]⟩ 0))) :: (nat_lit 22, (ob (.type "tuple") (.seq ⟨[]⟩ 0))) :: (nat_lit 23, (ob (.type "dict") (.dict ⟨[(.mk (PyData.keyHash P "__module__") (.str "__module__" 196) (.str "farhail.errors" 187)),(.mk (PyData.keyHash P "__firstlineno__") (.str "__firstlineno__" 200) (.int 2 199)),(.mk (PyData.keyHash P "__static_attributes__") (.str "__static_attributes__" 201) (.ref 22)),(.mk (PyData.keyHash P "__weakref__") (.str "__weakref__" 203) (.ref 25)),(.mk (PyData.keyHash P "__doc__") (.str "__doc__" 204) .none)]⟩ 3))) :: (nat_lit 24, (.mk (.type "type") none (.cls (.mk "HailError" [(.type "ValueError")] [(.ref 24),(.type "ValueError"),(.type "Exception"),(.type "BaseException"),(.type "object")] 23 "HailError" .true [] [(.ref 37),(.ref 49),(.ref 61),(.ref 80)] .false none .false)) ⟨[(some (.ref 15)),none,(some (.str "HailError" 189)),(some (.str "HailError" 197)),(some (.builtin "ValueError.__new__")),(some (.bool .true))]⟩)) :: (nat_lit 25, (ob (.type "getset_descriptor") (.fields ⟨[(.str "__weakref__" 202),(.ref 24),(.builtin "ExceptionGroup.__weakref__"),.none]⟩))) :: (nat_lit 28, (ob (.type "tuple") (.seq ⟨[(.ref 24)]⟩ 0))) :: (nat_lit 35, (ob (.type "tuple") (.seq ⟨[]⟩ 0))) :: (nat_lit 36, (ob (.type "dict") (.dict ⟨[(.mk (PyData.keyHash P "__module__") (.str "__module__" 214) (.str "farhail.errors" 187)),(.mk (PyData.keyHash P "__firstlineno__") (.str "__firstlineno__" 218) (.int 4 217)),(.mk (PyData.keyHash P "__static_attributes__") (.str "__static_attributes__" 219) (.ref 35)),(.mk (PyData.keyHash P "__doc__") (.str "__doc__" 220) .none)]⟩ 2))) :: (nat_lit 37, (.mk (.type "type") none (.cls (.mk "NoWeb" [(.ref 24)] [(.ref 37),(.ref 24),(.type "ValueError"),(.type "Exception"),(.type "BaseException"),(.type "object")] 36 "NoWeb" .true [] [] .false none .false)) ⟨[(some (.ref 28)),none,(some (.str "NoWeb" 207)),(some (.str "NoWeb" 215)),(some (.builtin "ValueError.__new__")),(some (.bool .true))]⟩)) :: (nat_lit 40, (ob (.type "tuple") (.seq ⟨[(.ref 24)]⟩ 0))) :: (nat_lit 47, (ob (.type "tuple") (.seq ⟨[]⟩ 0))) :: (nat_lit 48, (ob (.type "dict") (.dict ⟨[(.mk (PyData.keyHash P "__module__") (.str "__module__" 230) (.str "farhail.errors" 187)),(.mk (PyData.keyHash P "__firstlineno__") (.str "__firstlineno__" 234) (.int 6 233)),(.mk (PyData.keyHash P "__static_attributes__") (.str "__static_attributes__" 235) (.ref 47)),(.mk (PyData.keyHash P "__doc__") (.str "__doc__" 236) .none)]⟩ 2))) :: (nat_lit 49, (.mk (.type "type") none (.cls (.mk "NoPlace" [(.ref 24)] [(.ref 49),(.ref 24),(.type "ValueError"),(.type "Exception"),(.type "BaseException"),(.type "object")] 48 "NoPlace" .true [] [] .false none .false)) ⟨[(some (.ref 40)),none,(some (.str "NoPlace" 223)),(some (.str "NoPlace" 231)),(some (.builtin "ValueError.__new__")),(some (.bool .true))]⟩)) :: (nat_lit 52, (ob (.type "tuple") (.seq ⟨[(.ref 24)]⟩ 0))) :: (nat_lit 59, (ob (.type "tuple") (.seq ⟨[]⟩ 0))) :: (nat_lit 60, (ob (.type "dict") (.dict ⟨[(.mk (PyData.keyHash P "__module__") (.str "__module__" 246) (.str "farhail.errors" 187)),(.mk (PyData.keyHash P "__firstlineno__") (.str "__firstlineno__" 250) (.int 8 249)),(.mk (PyData.keyHash P "__static_attributes__") (.str "__static_attributes__" 251) (.ref 59)),(.mk (PyData.keyHash P "__doc__") (.str "__doc__" 252) .none)]⟩ 2))) :: (nat_lit 61, (.mk (.type "type") none (.cls (.mk "TooMany" [(.ref 24)] [(.ref 61),(.ref 24),(.type "ValueError"),(.type "Exception"),(.type "BaseException"),(.type "object")] 60 "TooMany" .true [] [] .false none .false)) ⟨[(some (.ref 52)),none,(some (.str "TooMany" 239)),(some (.str "TooMany" 247)),(some (.builtin "ValueError.__new__")),(some (.bool .true))]⟩)) :: (nat_lit 64, (ob (.type "tuple") (.seq ⟨[(.ref 24)]⟩ 0))) :: (nat_lit 71, (ob (.type "tuple") (.seq ⟨[]⟩ 0))) :: (nat_lit 73, (ob (.type "tuple") (.seq ⟨[(.str "self" 270),(.str "place" 271)]⟩ 0))) :: (nat_lit 74, (ob (.type "tuple") (.seq ⟨[]⟩ 0))) :: (nat_lit 76, (ob (.type "code") (.fields ⟨[(.str "__init__" 267),(.str "Apart.__init__" 268),(.str "/claim/cut.py" 269),(.int 12 0),(.int 2 0),(.int 0 0),(.int 0 0),(.int 3 0),(.ref 71),(.bool .true),(.int 181 0),(.ref 72),.none,(.ref 73),(.ref 74),(.ref 75),(.int 272 0),(.int 12 0),(.str "/claim/cut.py" 273)]⟩))) :: (nat_lit 77, (.mk (.type "function") none (.func (PySem.W.fnOf "__init__" "Apart.__init__" (L2.defArgs (L2.inClass (G.top 5) 0)) (L2.defBody (L2.inClass (G.top 5) 0)) (L2.defScope (L2.inClass (G.top 5) 0)) .none .none .none (.str "farhail.errors" 187) none (.ref 76) .none)) ⟨[]⟩)) :: (nat_lit 78, (ob (.type "tuple") (.seq ⟨[(.str "place" 275)]⟩ 0))) :: (nat_lit 79, (ob (.type "dict") (.dict ⟨[(.mk (PyData.keyHash P "__module__") (.str "__module__" 262) (.str "farhail.errors" 187)),(.mk (PyData.keyHash P "__firstlineno__") (.str "__firstlineno__" 266) (.int 10 265)),(.mk (PyData.keyHash P "__init__") (.str "__init__" 274) (.ref 77)),(.mk (PyData.keyHash P "__static_attributes__") (.str "__static_attributes__" 276) (.ref 78)),(.mk (PyData.keyHash P "__doc__") (.str "__doc__" 277) .none)]⟩ 2))) :: (nat_lit 80, (.mk (.type "type") none (.cls (.mk "Apart" [(.ref 24)] [(.ref 80),(.ref 24),(.type "ValueError"),(.type "Exception"),(.type "BaseException"),(.type "object")] 79 "Apart" .true [] [] .false none .false)) ⟨[(some (.ref 64)),none,(some (.str "Apart" 255)),(some (.str "Apart" 263)),(some (.builtin "ValueError.__new__")),(some (.bool .true))]⟩)) :: (nat_lit 83, (ob (.type "tuple") (.seq ⟨[]⟩ 0))) :: (nat_lit 86, (ob (.type "code") (.fields ⟨[(.str "near_lists" 284),(.str "near_lists" 285),(.str "/claim/cut.py" 286),(.int 17 0),(.int 1 0),(.int 0 0),(.int 0 0),(.int 3 0),(.ref 83),(.bool .true),(.int 181 0),(.ref 84),.none,.none,.none,(.ref 85),(.int 287 0),(.int 17 0),(.str "/claim/cut.py" 288)]⟩))) :: (nat_lit 87, (fO (.type "function") "near_lists" (G.top 8) (.str "farhail.webs" 280) (.ref 86))) :: (nat_lit 88, (ob (.type "tuple") (.seq ⟨[]⟩ 0))) :: (nat_lit 90, (ob (.type "tuple") (.seq ⟨[(.str "near" 293),(.str "place" 294),(.str "found" 295),(.str "line" 296),(.str "at" 297),(.str "other" 298)]⟩ 0))) :: (nat_lit 91, (ob (.type "tuple") (.seq ⟨[]⟩ 0))) :: (nat_lit 93, (ob (.type "code") (.fields ⟨[(.str "fars_by" 290),(.str "fars_by" 291),(.str "/claim/cut.py" 292),(.int 23 0),(.int 2 0),(.int 0 0),(.int 0 0),(.int 3 0),(.ref 88),(.bool .true),(.int 181 0),(.ref 89),.none,(.ref 90),(.ref 91),(.ref 92),(.int 299 0),(.int 23 0),(.str "/claim/cut.py" 300)]⟩))) :: (nat_lit 94, (fO (.type "function") "fars_by" (G.top 9) (.str "farhail.webs" 280) (.ref 93))) :: (nat_lit 95, (ob (.type "tuple") (.seq ⟨[]⟩ 0))) :: (nat_lit 97, (ob (.type "tuple") (.seq ⟨[(.str "many" 305),(.str "ties" 306),(.str "found" 307),(.str "one" 308),(.str "other" 309),(.str "tie" 310)]⟩ 0))) :: (nat_lit 98, (ob (.type "tuple") (.seq ⟨[]⟩ 0))) :: (nat_lit 100, (ob (.type "code") (.fields ⟨[(.str "sorted_ties" 302),(.str "sorted_ties" 303),(.str "/claim/cut.py" 304),(.int 35 0),(.int 2 0),(.int 0 0),(.int 0 0),(.int 3 0),(.ref 95),(.bool .true),(.int 181 0),(.ref 96),.none,(.ref 97),(.ref 98),(.ref 99),(.int 311 0),(.int 35 0),(.str "/claim/cut.py" 312)]⟩))) :: (nat_lit 101, (fO (.type "function") "sorted_ties" (G.top 10) (.str "farhail.webs" 280) (.ref 100))) :: (nat_lit 102, (ob (.type "tuple") (.seq ⟨[]⟩ 0))) :: (nat_lit 104, (ob (.type "tuple") (.seq ⟨[(.str "many" 317),(.str "ties" 318),(.str "web" 319),(.str "fars" 320),(.str "place" 321)]⟩ 0))) :: (nat_lit 105, (ob (.type "tuple") (.seq ⟨[]⟩ 0))) :: (nat_lit 107, (ob (.type "code") (.fields ⟨[(.str "made_web" 314),(.str "made_web" 315),(.str "/claim/cut.py" 316),(.int 43 0),(.int 2 0),(.int 0 0),(.int 0 0),(.int 3 0),(.ref 102),(.bool .true),(.int 181 0),(.ref 103),.none,(.ref 104),(.ref 105),(.ref 106),(.int 322 0),(.int 43 0),(.str "/claim/cut.py" 323)]⟩))) :: (nat_lit 108, (fO (.type "function") "made_web" (G.top 11) (.str "farhail.webs" 280) (.ref 107))) :: (nat_lit 109, (ob (.type "tuple") (.seq ⟨[]⟩ 0))) :: (nat_lit 111, (ob (.type "tuple") (.seq ⟨[(.str "web" 328),(.str "place" 329)]⟩ 0))) :: (nat_lit 112, (ob (.type "tuple") (.seq ⟨[]⟩ 0))) :: (nat_lit 114, (ob (.type "code") (.fields ⟨[(.str "place_asked" 325),(.str "place_asked" 326),(.str "/claim/cut.py" 327),(.int 52 0),(.int 2 0),(.int 0 0),(.int 0 0),(.int 3 0),(.ref 109),(.bool .true),(.int 181 0),(.ref 110),.none,(.ref 111),(.ref 112),(.ref 113),(.int 330 0),(.int 52 0),(.str "/claim/cut.py" 331)]⟩))) :: (nat_lit 115, (fO (.type "function") "place_asked" (G.top 12) (.str "farhail.webs" 280) (.ref 114))) :: (nat_lit 116, (ob (.type "tuple") (.seq ⟨[]⟩ 0))) :: (nat_lit 118, (ob (.type "tuple") (.seq ⟨[(.str "web" 336),(.str "place" 337)]⟩ 0))) :: (nat_lit 119, (ob (.type "tuple") (.seq ⟨[]⟩ 0))) :: (nat_lit 121, (ob (.type "code") (.fields ⟨[(.str "fars_from" 333),(.str "fars_from" 334),(.str "/claim/cut.py" 335),(.int 55 0),(.int 2 0),(.int 0 0),(.int 0 0),(.int 3 0),(.ref 116),(.bool .true),(.int 181 0),(.ref 117),.none,(.ref 118),(.ref 119),(.ref 120),(.int 338 0),(.int 55 0),(.str "/claim/cut.py" 339)]⟩))) :: (nat_lit 122, (fO (.type "function") "fars_from" (G.top 13) (.str "farhail.webs" 280) (.ref 121))) :: (nat_lit 123, (ob (.type "tuple") (.seq ⟨[]⟩ 0))) :: (nat_lit 125, (ob (.type "tuple") (.seq ⟨[(.str "web" 346),(.str "kind" 347),(.str "places" 348)]⟩ 0))) :: (nat_lit 126, (ob (.type "tuple") (.seq ⟨[]⟩ 0))) :: (nat_lit 128, (ob (.type "code") (.fields ⟨[(.str "things_of" 343),(.str "things_of" 344),(.str "/claim/cut.py" 345),(.int 59 0),(.int 2 0),(.int 0 0),(.int 0 0),(.int 3 0),(.ref 123),(.bool .true),(.int 181 0),(.ref 124),.none,(.ref 125),(.ref 126),(.ref 127),(.int 349 0),(.int 59 0),(.str "/claim/cut.py" 350)]⟩))) :: (nat_lit 129, (fO (.type "function") "things_of" (G.top 15) (.str "farhail.codes" 341) (.ref 128))) :: (nat_lit 130, (ob (.type "tuple") (.seq ⟨[]⟩ 0))) :: (nat_lit 132, (ob (.type "tuple") (.seq ⟨[(.str "web" 361),(.str "kind" 362),(.str "things" 363)]⟩ 0))) :: (nat_lit 133, (ob (.type "tuple") (.seq ⟨[]⟩ 0))) :: (nat_lit 135, (ob (.type "code") (.fields ⟨[(.str "few_things" 358),(.str "few_things" 359),(.str "/claim/cut.py" 360),(.int 69 0),(.int 2 0),(.int 0 0),(.int 0 0),(.int 3 0),(.ref 130),(.bool .true),(.int 181 0),(.ref 131),.none,(.ref 132),(.ref 133),(.ref 134),(.int 364 0),(.int 69 0),(.str "/claim/cut.py" 365)]⟩))) :: (nat_lit 136, (fO (.type "function") "few_things" (G.top 19) (.str "farhail.asks" 352) (.ref 135))) :: (nat_lit 137, (ob (.type "tuple") (.seq ⟨[]⟩ 0))) :: (nat_lit 140, (ob (.type "code") (.fields ⟨[(.str "all_fars" 367),(.str "all_fars" 368),(.str "/claim/cut.py" 369),(.int 74 0),(.int 1 0),(.int 0 0),(.int 0 0),(.int 3 0),(.ref 137),(.bool .true),(.int 181 0),(.ref 138),.none,.none,.none,(.ref 139),(.int 370 0),(.int 74 0),(.str "/claim/cut.py" 371)]⟩))) :: (nat_lit 141, (fO (.type "function") "all_fars" (G.top 20) (.str "farhail.asks" 352) (.ref 140))) :: (nat_lit 142, (ob (.type "tuple") (.seq ⟨[]⟩ 0))) :: (nat_lit 144, (ob (.type "tuple") (.seq ⟨[(.str "fars" 376),(.str "place" 377),(.str "thing" 378)]⟩ 0))) :: (nat_lit 145, (ob (.type "tuple") (.seq ⟨[]⟩ 0))) :: (nat_lit 147, (ob (.type "code") (.fields ⟨[(.str "far_thing" 373),(.str "far_thing" 374),(.str "/claim/cut.py" 375),(.int 76 0),(.int 3 0),(.int 0 0),(.int 0 0),(.int 3 0),(.ref 142),(.bool .true),(.int 181 0),(.ref 143),.none,(.ref 144),(.ref 145),(.ref 146),(.int 379 0),(.int 76 0),(.str "/claim/cut.py" 380)]⟩))) :: (nat_lit 148, (fO (.type "function") "far_thing" (G.top 21) (.str "farhail.asks" 352) (.ref 147))) :: (nat_lit 149, (ob (.type "tuple") (.seq ⟨[]⟩ 0))) :: (nat_lit 152, (ob (.type "code") (.fields ⟨[(.str "parts_by" 382),(.str "parts_by" 383),(.str "/claim/cut.py" 384),(.int 80 0),(.int 3 0),(.int 0 0),(.int 0 0),(.int 3 0),(.ref 149),(.bool .true),(.int 181 0),(.ref 150),.none,.none,.none,(.ref 151),(.int 385 0),(.int 80 0),(.str "/claim/cut.py" 386)]⟩))) :: (nat_lit 153, (fO (.type "function") "parts_by" (G.top 22) (.str "farhail.asks" 352) (.ref 152))) :: (nat_lit 161, (ob (.type "tuple") (.seq ⟨[]⟩ 0))) :: (nat_lit 163, (ob (.type "tuple") (.seq ⟨[(.str "self" 403),(.str "web" 404)]⟩ 0))) :: (nat_lit 164, (ob (.type "tuple") (.seq ⟨[]⟩ 0))) :: (nat_lit 166, (ob (.type "code") (.fields ⟨[(.str "__init__" 400),(.str "Asking.__init__" 401),(.str "/claim/cut.py" 402),(.int 87 0),(.int 2 0),(.int 0 0),(.int 0 0),(.int 3 0),(.ref 161),(.bool .true),(.int 181 0),(.ref 162),.none,(.ref 163),(.ref 164),(.ref 165),(.int 405 0),(.int 87 0),(.str "/claim/cut.py" 406)]⟩))) :: (nat_lit 167, (.mk (.type "function") none (.func (PySem.W.fnOf "__init__" "Asking.__init__" (L2.defArgs (L2.inClass (G.top 23) 0)) (L2.defBody (L2.inClass (G.top 23) 0)) (L2.defScope (L2.inClass (G.top 23) 0)) .none .none .none (.str "farhail.asks" 352) none (.ref 166) .none)) ⟨[]⟩)) :: (nat_lit 168, (ob (.type "tuple") (.seq ⟨[]⟩ 0))) :: (nat_lit 171, (ob (.type "code") (.fields ⟨[(.str "need" 408),(.str "Asking.need" 409),(.str "/claim/cut.py" 410),(.int 92 0),(.int 2 0),(.int 0 0),(.int 0 0),(.int 3 0),(.ref 168),(.bool .true),(.int 181 0),(.ref 169),.none,.none,.none,(.ref 170),(.int 411 0),(.int 92 0),(.str "/claim/cut.py" 412)]⟩))) :: (nat_lit 172, (.mk (.type "function") none (.func (PySem.W.fnOf "need" "Asking.need" (L2.defArgs (L2.inClass (G.top 23) 1)) (L2.defBody (L2.inClass (G.top 23) 1)) (L2.defScope (L2.inClass (G.top 23) 1)) .none .none .none (.str "farhail.asks" 352) none (.ref 171) .none)) ⟨[]⟩)) :: (nat_lit 173, (ob (.type "tuple") (.seq ⟨[]⟩ 0))) :: (nat_lit 176, (ob (.type "code") (.fields ⟨[(.str "plan" 414),(.str "Asking.plan" 415),(.str "/claim/cut.py" 416),(.int 107 0),(.int 2 0),(.int 0 0),(.int 0 0),(.int 3 0),(.ref 173),(.bool .true),(.int 181 0),(.ref 174),.none,.none,.none,(.ref 175),(.int 417 0),(.int 107 0),(.str "/claim/cut.py" 418)]⟩))) :: (nat_lit 177, (.mk (.type "function") none (.func (PySem.W.fnOf "plan" "Asking.plan" (L2.defArgs (L2.inClass (G.top 23) 2)) (L2.defBody (L2.inClass (G.top 23) 2)) (L2.defScope (L2.inClass (G.top 23) 2)) .none .none .none (.str "farhail.asks" 352) none (.ref 176) .none)) ⟨[]⟩)) :: (nat_lit 178, (ob (.type "tuple") (.seq ⟨[(.str "best" 420),(.str "fars" 421),(.str "least" 422)]⟩ 0))) :: (nat_lit 179, (ob (.type "dict") (.dict ⟨[(.mk (PyData.keyHash P "__module__") (.str "__module__" 395) (.str "farhail.asks" 352)),(.mk (PyData.keyHash P "__firstlineno__") (.str "__firstlineno__" 399) (.int 85 398)),(.mk (PyData.keyHash P "__init__") (.str "__init__" 407) (.ref 167)),(.mk (PyData.keyHash P "need") (.str "need" 413) (.ref 172)),(.mk (PyData.keyHash P "plan") (.str "plan" 419) (.ref 177)),(.mk (PyData.keyHash P "__static_attributes__") (.str "__static_attributes__" 423) (.ref 178)),(.mk (PyData.keyHash P "__dict__") (.str "__dict__" 425) (.ref 181)),(.mk (PyData.keyHash P "__weakref__") (.str "__weakref__" 427) (.ref 182)),(.mk (PyData.keyHash P "__doc__") (.str "__doc__" 428) .none)]⟩ 4))) :: (nat_lit 180, (.mk (.type "type") none (.cls (.mk "Asking" [(.type "object")] [(.ref 180),(.type "object")] 179 "Asking" .true [] [] .false none .false)) ⟨[none,none,(some (.str "Asking" 388)),(some (.str "Asking" 396)),(some (.builtin "object.__new__")),(some (.bool .true))]⟩)) :: (nat_lit 181, (ob (.type "getset_descriptor") (.fields ⟨[(.str "__dict__" 424),(.ref 180),(.builtin "function.__dict__"),(.builtin "function.__dict__#set")]⟩))) :: (nat_lit 182, (ob (.type "getset_descriptor") (.fields ⟨[(.str "__weakref__" 426),(.ref 180),(.builtin "ExceptionGroup.__weakref__"),.none]⟩))) :: (nat_lit 185, (ob (.type "tuple") (.seq ⟨[]⟩ 0))) :: (nat_lit 188, (ob (.type "code") (.fields ⟨[(.str "fewest_asks" 431),(.str "fewest_asks" 432),(.str "/claim/cut.py" 433),(.int 113 0),(.int 2 0),(.int 0 0),(.int 0 0),(.int 3 0),(.ref 185),(.bool .true),(.int 181 0),(.ref 186),.none,.none,.none,(.ref 187),(.int 434 0),(.int 113 0),(.str "/claim/cut.py" 435)]⟩))) :: (nat_lit 189, (fO (.type "function") "fewest_asks" (G.top 24) (.str "farhail.asks" 352) (.ref 188))) :: (nat_lit 190, (ob (.type "tuple") (.seq ⟨[]⟩ 0))) :: (nat_lit 192, (ob (.type "tuple") (.seq ⟨[(.str "row" 440)]⟩ 0))) :: (nat_lit 193, (ob (.type "tuple") (.seq ⟨[]⟩ 0))) :: (nat_lit 195, (ob (.type "code") (.fields ⟨[(.str "len_first" 437),(.str "len_first" 438),(.str "/claim/cut.py" 439),(.int 119 0),(.int 1 0),(.int 0 0),(.int 0 0),(.int 3 0),(.ref 190),(.bool .true),(.int 181 0),(.ref 191),.none,(.ref 192),(.ref 193),(.ref 194),(.int 441 0),(.int 119 0),(.str "/claim/cut.py" 442)]⟩))) :: (nat_lit 196, (fO (.type "function") "len_first" (G.top 25) (.str "farhail.asks" 352) (.ref 195))) :: (nat_lit 197, (ob (.type "tuple") (.seq ⟨[]⟩ 0))) :: (nat_lit 200, (ob (.type "code") (.fields ⟨[(.str "plan_of_parts" 444),(.str "plan_of_parts" 445),(.str "/claim/cut.py" 446),(.int 121 0),(.int 3 0),(.int 0 0),(.int 0 0),(.int 3 0),(.ref 197),(.bool .true),(.int 181 0),(.ref 198),.none,.none,.none,(.ref 199),(.int 447 0),(.int 121 0),(.str "/claim/cut.py" 448)]⟩))) :: (nat_lit 201, (fO (.type "function") "plan_of_parts" (G.top 26) (.str "farhail.asks" 352) (.ref 200))) :: (nat_lit 202, (ob (.type "tuple") (.seq ⟨[]⟩ 0))) :: (nat_lit 204, (ob (.type "tuple") (.seq ⟨[(.str "fars" 453),(.str "things" 454),(.str "plan" 455)]⟩ 0))) :: (nat_lit 205, (ob (.type "tuple") (.seq ⟨[]⟩ 0))) :: (nat_lit 207, (ob (.type "code") (.fields ⟨[(.str "asks_of" 450),(.str "asks_of" 451),(.str "/claim/cut.py" 452),(.int 131 0),(.int 3 0),(.int 0 0),(.int 0 0),(.int 3 0),(.ref 202),(.bool .true),(.int 181 0),(.ref 203),.none,(.ref 204),(.ref 205),(.ref 206),(.int 456 0),(.int 131 0),(.str "/claim/cut.py" 457)]⟩))) :: (nat_lit 208, (fO (.type "function") "asks_of" (G.top 27) (.str "farhail.asks" 352) (.ref 207))) :: (nat_lit 209, (ob (.type "tuple") (.seq ⟨[]⟩ 0))) :: (nat_lit 211, (ob (.type "tuple") (.seq ⟨[(.str "web" 462),(.str "kind" 463),(.str "plan" 464),(.str "things" 465)]⟩ 0))) :: (nat_lit 212, (ob (.type "tuple") (.seq ⟨[]⟩ 0))) :: (nat_lit 214, (ob (.type "code") (.fields ⟨[(.str "plan_asks" 459),(.str "plan_asks" 460),(.str "/claim/cut.py" 461),(.int 137 0),(.int 3 0),(.int 0 0),(.int 0 0),(.int 3 0),(.ref 209),(.bool .true),(.int 181 0),(.ref 210),.none,(.ref 211),(.ref 212),(.ref 213),(.int 466 0),(.int 137 0),(.str "/claim/cut.py" 467)]⟩))) :: (nat_lit 215, (fO (.type "function") "plan_asks" (G.top 28) (.str "farhail.asks" 352) (.ref 214))) :: (nat_lit 216, (ob (.type "tuple") (.seq ⟨[]⟩ 0))) :: (nat_lit 219, (ob (.type "code") (.fields ⟨[(.str "is_row_shown" 469),(.str "is_row_shown" 470),(.str "/claim/cut.py" 471),(.int 140 0),(.int 3 0),(.int 0 0),(.int 0 0),(.int 3 0),(.ref 216),(.bool .true),(.int 181 0),(.ref 217),.none,.none,.none,(.ref 218),(.int 472 0),(.int 140 0),(.str "/claim/cut.py" 473)]⟩))) :: (nat_lit 220, (fO (.type "function") "is_row_shown" (G.top 29) (.str "farhail.asks" 352) (.ref 219))) :: (nat_lit 221, (ob (.type "tuple") (.seq ⟨[]⟩ 0))) :: (nat_lit 224, (ob (.type "code") (.fields ⟨[(.str "table_shows" 475),(.str "table_shows" 476),(.str "/claim/cut.py" 477),(.int 150 0),(.int 4 0),(.int 0 0),(.int 0 0),(.int 3 0),(.ref 221),(.bool .true),(.int 181 0),(.ref 222),.none,.none,.none,(.ref 223),(.int 478 0),(.int 150 0),(.str "/claim/cut.py" 479)]⟩))) :: (nat_lit 225, (fO (.type "function") "table_shows" (G.top 30) (.str "farhail.asks" 352) (.ref 224))) :: (nat_lit 226, (ob (.type "tuple") (.seq ⟨[]⟩ 0))) :: (nat_lit 228, (ob (.type "tuple") (.seq ⟨[(.str "script" 486),(.str "k" 487),(.str "cell" 488)]⟩ 0))) :: (nat_lit 229, (ob (.type "tuple") (.seq ⟨[]⟩ 0))) :: (nat_lit 231, (ob (.type "code") (.fields ⟨[(.str "_law_cell_at" 483),(.str "_law_cell_at" 484),(.str "/claim/cut.py" 485),(.int 162 0),(.int 2 0),(.int 0 0),(.int 0 0),(.int 3 0),(.ref 226),(.bool .true),(.int 181 0),(.ref 227),.none,(.ref 228),(.ref 229),(.ref 230),(.int 489 0),(.int 162 0),(.str "/claim/cut.py" 490)]⟩))) :: (nat_lit 232, (fO (.type "function") "_law_cell_at" (G.top 32) (.str "law_farhail_k57_whole_asks_of_known_webs" 481) (.ref 231))) :: (nat_lit 233, (ob (.type "tuple") (.seq ⟨[]⟩ 0))) :: (nat_lit 236, (ob (.type "code") (.fields ⟨[(.str "_law_folded" 492),(.str "_law_folded" 493),(.str "/claim/cut.py" 494),(.int 169 0),(.int 2 0),(.int 0 0),(.int 0 0),(.int 3 0),(.ref 233),(.bool .true),(.int 181 0),(.ref 234),.none,.none,.none,(.ref 235),(.int 495 0),(.int 169 0),(.str "/claim/cut.py" 496)]⟩))) :: (nat_lit 237, (fO (.type "function") "_law_folded" (G.top 33) (.str "law_farhail_k57_whole_asks_of_known_webs" 481) (.ref 236))) :: (nat_lit 238, (ob (.type "tuple") (.seq ⟨[]⟩ 0))) :: (nat_lit 240, (ob (.type "tuple") (.seq ⟨[(.str "cell" 501),(.str "left" 502)]⟩ 0))) :: (nat_lit 241, (ob (.type "tuple") (.seq ⟨[]⟩ 0))) :: (nat_lit 243, (ob (.type "code") (.fields ⟨[(.str "_law_state" 498),(.str "_law_state" 499),(.str "/claim/cut.py" 500),(.int 175 0),(.int 1 0),(.int 0 0),(.int 0 0),(.int 3 0),(.ref 238),(.bool .true),(.int 181 0),(.ref 239),.none,(.ref 240),(.ref 241),(.ref 242),(.int 503 0),(.int 175 0),(.str "/claim/cut.py" 504)]⟩))) :: (nat_lit 244, (fO (.type "function") "_law_state" (G.top 34) (.str "law_farhail_k57_whole_asks_of_known_webs" 481) (.ref 243))) :: (nat_lit 245, (ob (.type "tuple") (.seq ⟨[]⟩ 0))) :: (nat_lit 247, (ob (.type "tuple") (.seq ⟨[(.str "state" 509),(.str "many" 510),(.str "found" 511)]⟩ 0))) :: (nat_lit 248, (ob (.type "tuple") (.seq ⟨[]⟩ 0))) :: (nat_lit 250, (ob (.type "code") (.fields ⟨[(.str "_law_next" 506),(.str "_law_next" 507),(.str "/claim/cut.py" 508),(.int 180 0),(.int 2 0),(.int 0 0),(.int 0 0),(.int 3 0),(.ref 245),(.bool .true),(.int 181 0),(.ref 246),.none,(.ref 247),(.ref 248),(.ref 249),(.int 512 0),(.int 180 0),(.str "/claim/cut.py" 513)]⟩))) :: (nat_lit 251, (fO (.type "function") "_law_next" (G.top 35) (.str "law_farhail_k57_whole_asks_of_known_webs" 481) (.ref 250))) :: (nat_lit 252, (ob (.type "tuple") (.seq ⟨[]⟩ 0))) :: (nat_lit 255, (ob (.type "code") (.fields ⟨[(.str "_law_web" 515),(.str "_law_web" 516),(.str "/claim/cut.py" 517),(.int 187 0),(.int 3 0),(.int 0 0),(.int 0 0),(.int 3 0),(.ref 252),(.bool .true),(.int 181 0),(.ref 253),.none,.none,.none,(.ref 254),(.int 518 0),(.int 187 0),(.str "/claim/cut.py" 519)]⟩))) :: (nat_lit 256, (fO (.type "function") "_law_web" (G.top 36) (.str "law_farhail_k57_whole_asks_of_known_webs" 481) (.ref 255))) :: (nat_lit 257, (ob (.type "tuple") (.seq ⟨[]⟩ 0))) :: (nat_lit 259, (ob (.type "tuple") (.seq ⟨[(.str "web" 524),(.str "kind" 525),(.str "places" 526)]⟩ 0))) :: (nat_lit 260, (ob (.type "tuple") (.seq ⟨[]⟩ 0))) :: (nat_lit 262, (ob (.type "code") (.fields ⟨[(.str "_law_things" 521),(.str "_law_things" 522),(.str "/claim/cut.py" 523),(.int 211 0),(.int 2 0),(.int 0 0),(.int 0 0),(.int 3 0),(.ref 257),(.bool .true),(.int 181 0),(.ref 258),.none,(.ref 259),(.ref 260),(.ref 261),(.int 527 0),(.int 211 0),(.str "/claim/cut.py" 528)]⟩))) :: (nat_lit 263, (fO (.type "function") "_law_things" (G.top 37) (.str "law_farhail_k57_whole_asks_of_known_webs" 481) (.ref 262))) :: (nat_lit 264, (ob (.type "tuple") (.seq ⟨[]⟩ 0))) :: (nat_lit 266, (ob (.type "tuple") (.seq ⟨[(.str "state" 533),(.str "least" 534),(.str "web" 535),(.str "kind" 536)]⟩ 0))) :: (nat_lit 267, (ob (.type "tuple") (.seq ⟨[]⟩ 0))) :: (nat_lit 269, (ob (.type "code") (.fields ⟨[(.str "_law_few" 530),(.str "_law_few" 531),(.str "/claim/cut.py" 532),(.int 214 0),(.int 2 0),(.int 0 0),(.int 0 0),(.int 3 0),(.ref 264),(.bool .true),(.int 181 0),(.ref 265),.none,(.ref 266),(.ref 267),(.ref 268),(.int 537 0),(.int 214 0),(.str "/claim/cut.py" 538)]⟩))) :: (nat_lit 270, (fO (.type "function") "_law_few" (G.top 38) (.str "law_farhail_k57_whole_asks_of_known_webs" 481) (.ref 269))) :: (nat_lit 271, (ob (.type "tuple") (.seq ⟨[]⟩ 0))) :: (nat_lit 273, (ob (.type "tuple") (.seq ⟨[(.str "names" 543),(.str "thing" 544)]⟩ 0))) :: (nat_lit 274, (ob (.type "tuple") (.seq ⟨[]⟩ 0))) :: (nat_lit 276, (ob (.type "code") (.fields ⟨[(.str "_law_thing" 540),(.str "_law_thing" 541),(.str "/claim/cut.py" 542),(.int 220 0),(.int 2 0),(.int 0 0),(.int 0 0),(.int 3 0),(.ref 271),(.bool .true),(.int 181 0),(.ref 272),.none,(.ref 273),(.ref 274),(.ref 275),(.int 545 0),(.int 220 0),(.str "/claim/cut.py" 546)]⟩))) :: (nat_lit 277, (fO (.type "function") "_law_thing" (G.top 39) (.str "law_farhail_k57_whole_asks_of_known_webs" 481) (.ref 276))) :: (nat_lit 278, (ob (.type "tuple") (.seq ⟨[]⟩ 0))) :: (nat_lit 281, (ob (.type "code") (.fields ⟨[(.str "_law_plan" 548),(.str "_law_plan" 549),(.str "/claim/cut.py" 550),(.int 224 0),(.int 2 0),(.int 0 0),(.int 0 0),(.int 3 0),(.ref 278),(.bool .true),(.int 181 0),(.ref 279),.none,.none,.none,(.ref 280),(.int 551 0),(.int 224 0),(.str "/claim/cut.py" 552)]⟩))) :: (nat_lit 282, (fO (.type "function") "_law_plan" (G.top 40) (.str "law_farhail_k57_whole_asks_of_known_webs" 481) (.ref 281))) :: (nat_lit 283, (ob (.type "tuple") (.seq ⟨[]⟩ 0))) :: (nat_lit 285, (ob (.type "tuple") (.seq ⟨[(.str "state" 557),(.str "many" 558),(.str "names" 559),(.str "place" 560)]⟩ 0))) :: (nat_lit 286, (ob (.type "tuple") (.seq ⟨[]⟩ 0))) :: (nat_lit 288, (ob (.type "code") (.fields ⟨[(.str "_law_order" 554),(.str "_law_order" 555),(.str "/claim/cut.py" 556),(.int 229 0),(.int 2 0),(.int 0 0),(.int 0 0),(.int 3 0),(.ref 283),(.bool .true),(.int 181 0),(.ref 284),.none,(.ref 285),(.ref 286),(.ref 287),(.int 561 0),(.int 229 0),(.str "/claim/cut.py" 562)]⟩))) :: (nat_lit 289, (fO (.type "function") "_law_order" (G.top 41) (.str "law_farhail_k57_whole_asks_of_known_webs" 481) (.ref 288))) :: (nat_lit 290, (ob (.type "tuple") (.seq ⟨[]⟩ 0))) :: (nat_lit 293, (ob (.type "code") (.fields ⟨[(.str "_law_renamed_right" 564),(.str "_law_renamed_right" 565),(.str "/claim/cut.py" 566),(.int 234 0),(.int 3 0),(.int 0 0),(.int 0 0),(.int 3 0),(.ref 290),(.bool .true),(.int 181 0),(.ref 291),.none,.none,.none,(.ref 292),(.int 567 0),(.int 234 0),(.str "/claim/cut.py" 568)]⟩))) :: (nat_lit 294, (fO (.type "function") "_law_renamed_right" (G.top 42) (.str "law_farhail_k57_whole_asks_of_known_webs" 481) (.ref 293))) :: (nat_lit 295, (ob (.type "tuple") (.seq ⟨[]⟩ 0))) :: (nat_lit 298, (ob (.type "code") (.fields ⟨[(.str "_law_known_right" 570),(.str "_law_known_right" 571),(.str "/claim/cut.py" 572),(.int 246 0),(.int 1 0),(.int 0 0),(.int 0 0),(.int 3 0),(.ref 295),(.bool .true),(.int 181 0),(.ref 296),.none,.none,.none,(.ref 297),(.int 573 0),(.int 246 0),(.str "/claim/cut.py" 574)]⟩))) :: (nat_lit 299, (fO (.type "function") "_law_known_right" (G.top 43) (.str "law_farhail_k57_whole_asks_of_known_webs" 481) (.ref 298))) :: (nat_lit 300, (ob (.type "tuple") (.seq ⟨[]⟩ 0))) :: (nat_lit 302, (ob (.type "tuple") (.seq ⟨[(.str "script" 579),(.str "cell" 580),(.str "state" 581),(.str "web" 582),(.str "kind" 583),(.str "things" 584)]⟩ 0))) :: (nat_lit 303, (ob (.type "tuple") (.seq ⟨[]⟩ 0))) :: (nat_lit 305, (ob (.type "code") (.fields ⟨[(.str "law" 576),(.str "law" 577),(.str "/claim/cut.py" 578),(.int 260 0),(.int 1 0),(.int 0 0),(.int 0 0),(.int 3 0),(.ref 300),(.bool .true),(.int 181 0),(.ref 301),.none,(.ref 302),(.ref 303),(.ref 304),(.int 585 0),(.int 260 0),(.str "/claim/cut.py" 586)]⟩))) :: (nat_lit 306, (fO (.type "function") "law" (G.top 44) (.str "law_farhail_k57_whole_asks_of_known_webs" 481) (.ref 305))) :: []
noncomputable abbrev as : List PySem.Addr := nat_lit 2 :: nat_lit 3 :: nat_lit 15 :: nat_lit 22 :: nat_lit 23 :: nat_lit 24 :: nat_lit 25 :: nat_lit 28 :: nat_lit 35 :: nat_lit 36 :: nat_lit 37 :: nat_lit 40 :: nat_lit 47 :: nat_lit 48 :: nat_lit 49 :: nat_lit 52 :: nat_lit 59 :: nat_lit 60 :: nat_lit 61 :: nat_lit 64 :: nat_lit 71 :: nat_lit 73 :: nat_lit 74 :: nat_lit 76 :: nat_lit 77 :: nat_lit 78 :: nat_lit 79 :: nat_lit 80 :: nat_lit 83 :: nat_lit 86 :: nat_lit 87 :: nat_lit 88 :: nat_lit 90 :: nat_lit 91 :: nat_lit 93 :: nat_lit 94 :: nat_lit 95 :: nat_lit 97 :: nat_lit 98 :: nat_lit 100 :: nat_lit 101 :: nat_lit 102 :: nat_lit 104 :: nat_lit 105 :: nat_lit 107 :: nat_lit 108 :: nat_lit 109 :: nat_lit 111 :: nat_lit 112 :: nat_lit 114 :: nat_lit 115 :: nat_lit 116 :: nat_lit 118 :: nat_lit 119 :: nat_lit 121 :: nat_lit 122 :: nat_lit 123 :: nat_lit 125 :: nat_lit 126 :: nat_lit 128 :: nat_lit 129 :: nat_lit 130 :: nat_lit 132 :: nat_lit 133 :: nat_lit 135 :: nat_lit 136 :: nat_lit 137 :: nat_lit 140 :: nat_lit 141 :: nat_lit 142 :: nat_lit 144 :: nat_lit 145 :: nat_lit 147 :: nat_lit 148 :: nat_lit 149 :: nat_lit 152 :: nat_lit 153 :: nat_lit 161 :: nat_lit 163 :: nat_lit 164 :: nat_lit 166 :: nat_lit 167 :: nat_lit 168 :: nat_lit 171 :: nat_lit 172 :: nat_lit 173 :: nat_lit 176 :: nat_lit 177 :: nat_lit 178 :: nat_lit 179 :: nat_lit 180 :: nat_lit 181 :: nat_lit 182 :: nat_lit 185 :: nat_lit 188 :: nat_lit 189 :: nat_lit 190 :: nat_lit 192 :: nat_lit 193 :: nat_lit 195 :: nat_lit 196 :: nat_lit 197 :: nat_lit 200 :: nat_lit 201 :: nat_lit 202 :: nat_lit 204 :: nat_lit 205 :: nat_lit 207 :: nat_lit 208 :: nat_lit 209 :: nat_lit 211 :: nat_lit 212 :: nat_lit 214 :: nat_lit 215 :: nat_lit 216 :: nat_lit 219 :: nat_lit 220 :: nat_lit 221 :: nat_lit 224 :: nat_lit 225 :: nat_lit 226 :: nat_lit 228 :: nat_lit 229 :: nat_lit 231 :: nat_lit 232 :: nat_lit 233 :: nat_lit 236 :: nat_lit 237 :: nat_lit 238 :: nat_lit 240 :: nat_lit 241 :: nat_lit 243 :: nat_lit 244 :: nat_lit 245 :: nat_lit 247 :: nat_lit 248 :: nat_lit 250 :: nat_lit 251 :: nat_lit 252 :: nat_lit 255 :: nat_lit 256 :: nat_lit 257 :: nat_lit 259 :: nat_lit 260 :: nat_lit 262 :: nat_lit 263 :: nat_lit 264 :: nat_lit 266 :: nat_lit 267 :: nat_lit 269 :: nat_lit 270 :: nat_lit 271 :: nat_lit 273 :: nat_lit 274 :: nat_lit 276 :: nat_lit 277 :: nat_lit 278 :: nat_lit 281 :: nat_lit 282 :: nat_lit 283 :: nat_lit 285 :: nat_lit 286 :: nat_lit 288 :: nat_lit 289 :: nat_lit 290 :: nat_lit 293 :: nat_lit 294 :: nat_lit 295 :: nat_lit 298 :: nat_lit 299 :: nat_lit 300 :: nat_lit 302 :: nat_lit 303 :: nat_lit 305 :: nat_lit 306 :: []
noncomputable def view : PySem.Program := { PySem.Challenge.pw_farhail_k57_whole_asks_of_known_webs with main := { PySem.Challenge.pw_farhail_k57_whole_asks_of_known_webs.main with body := [G.top 44] } }
noncomputable def loose : List PySem.Str := [a1, a3, a4, a5, a6, a7, a8, a9, a10, a11, a12, a13, a14, a15, a16, a17, a18, a19, a20, a21, a22, a23, a24, a25, a26, a27, a28, a29, a30, a31, a32, a33, a34, a35, a36, a37, a38, a39, a40]
noncomputable def the : PySem.DefRec := ⟨"law", L2.defArgs (G.top 44), L2.defBody (G.top 44), L2.defScope (G.top 44), (.mk 260 0 266 15)⟩
noncomputable abbrev N : Nat := 4788
theorem as_eq : ∀ P, as = (K P).map (·.1) := fun P => by kernel_rfl
noncomputable abbrev hook : PySem.W.Hook := PySem.W.kHook K as as_eq
noncomputable abbrev Xt : PySem.Shared → Bool := fun s => PySem.W.xlAt view [] s && PySem.W.recOk PySem.Challenge.rw_farhail_k57_whole_asks_of_known_webs.row.toRowW.records s
noncomputable abbrev mods := PySem.importedModules PySem.Challenge.pw_farhail_k57_whole_asks_of_known_webs.main.body
theorem look1 (w : PySem.World) : (fun os : PySem.OsState => PySem.W.staticsOk mods (PySem.W.boot_heap w.params) (hF w.params) && PySem.W.namesBound PySem.Challenge.pw_farhail_k57_whole_asks_of_known_webs (hF w.params) && PySem.W.gensDone (SF w os) && PySem.W.laidKept (PySem.W.boot_heap w.params) (hF w.params)) = fun _ => true := by kernel_rfl
theorem look3 (w : PySem.World) : (fun os => hook.obs (SF w os)) = fun _ => hook.val w := by kernel_rfl
theorem look2 (w : PySem.World) : (fun os => PySem.W.openSeen view loose mods Xt true (SF w os)) = fun _ => PySem.W.openGood view loose := by kernel_rfl
theorem left : PySem.W.LeftO PySem.Challenge.rw_farhail_k57_whole_asks_of_known_webs.row.toRowW.prog view loose Xt hook.obs hook.val N :=
  PySem.W.LeftO.of_pieces opens size run (by decide +kernel) fun w => funext fun os => Prod.ext (congrFun (look1 w) os) (Prod.ext (congrFun (look2 w) os) (congrFun (look3 w) os))
open PySem PySem.W PyProof.Rows in
set_option maxHeartbeats 0 in
theorem whole (hc : WalkO view loose (XL view []) (PySem.W.kHook K as as_eq).says PySem.Challenge.rw_farhail_k57_whole_asks_of_known_webs.row.toRowW the [] (fun f vs => PySem.call f vs)) : PySem.Challenge.rw_farhail_k57_whole_asks_of_known_webs.Holds := by
  w_on; o_law
  refine PySem.W.holds_open (r := PySem.Challenge.rw_farhail_k57_whole_asks_of_known_webs.row) (q := view) (loose := loose) (Xt := Xt) (XP := PySem.W.XL view []) (Yf := hook.obs) (Ya := hook.val) (YP := hook.says) (d := the) (kwd := []) (N := N) left hook.of hook.keeps (fun s e => xl_of s (Bool.and_eq_true_iff.mp e).1) XL.keeps (by kernel_rfl) (by kernel_rfl) (by kernel_rfl) (fun s e => recFacts_of (Bool.and_eq_true_iff.mp e).2) (by rfl) (by first | assumption | decide +kernel) (by decide +kernel) ⟨rfl, rfl, rfl, rfl, rfl, by decide +kernel⟩ ?hw hc
  case hw => w_witness2
end HD
namespace G
open PySem L2 Z
open Rep (rep)
theorem us1 : ∀ {us : List Value}, us.length = 1 → ∃ a0, us = [a0]
  | [a0], _ => ⟨a0, rfl⟩
theorem us2 : ∀ {us : List Value}, us.length = 2 → ∃ a0 a1, us = [a0, a1]
  | [a0, a1], _ => ⟨a0, a1, rfl⟩
theorem us3 : ∀ {us : List Value}, us.length = 3 → ∃ a0 a1 a2, us = [a0, a1, a2]
  | [a0, a1, a2], _ => ⟨a0, a1, a2, rfl⟩
theorem us4 : ∀ {us : List Value}, us.length = 4 → ∃ a0 a1 a2 a3, us = [a0, a1, a2, a3]
  | [a0, a1, a2, a3], _ => ⟨a0, a1, a2, a3, rfl⟩
theorem dn_mk {K : Fg} {h : Heap} {mg : Str → Option Value} (X : K.In h) (G : h.Ns mainGlobals mg) {x y : Str} {st : Stmt} {ps : List Str} {f : Addr} {od an : Option Addr} {sl : Array (Option Value)} {oc kV dc pm cd ct : Value}
    (a : PySem.W.nsIn K mainGlobals x = some (some (.ref f))) (l : K.lookup f = some ⟨oc, od, .func (PySem.W.fnOf y y (defArgs st) (defBody st) (defScope st) .none kV dc pm an cd ct), sl⟩) (c : PySem.W.codeIn K cd y = true) (k : PySem.W.keepIn K (.ref f) = true)
    (b : ∀ (kV doc pm : Value) (an : Option Addr) (cdv ct : Value) (us : List Value), us.length = ps.length → bindArgs (PySem.W.fnOf y y (defArgs st) (defBody st) (defScope st) .none kV doc pm an cdv ct) ⟨us, []⟩ = pure (ps.zip us)) :
    Dn K mg x y st ps f (PySem.W.fnOf y y (defArgs st) (defBody st) (defScope st) .none kV dc pm an cd ct) := ⟨fun_mk l c k, PySem.W.mg_of X G a, (fun_mk l c k).binds b⟩
theorem all_mk {l : PySem.W.OpenLaw} {w : World} {K : PySem.W.Frag} {h : Heap} {mg : Str → Option Value} {fa : Addr} (X : K.In h) (G : h.Ns mainGlobals mg) (hfa : mg "law" = some (.ref fa))
    {f8 : Addr} {od8 an8 : Option Addr} {sl8 : Array (Option Value)} {oc8 kV8 dc8 pm8 cd8 ct8 : Value}
    {f9 : Addr} {od9 an9 : Option Addr} {sl9 : Array (Option Value)} {oc9 kV9 dc9 pm9 cd9 ct9 : Value}
    {f10 : Addr} {od10 an10 : Option Addr} {sl10 : Array (Option Value)} {oc10 kV10 dc10 pm10 cd10 ct10 : Value}
    {f11 : Addr} {od11 an11 : Option Addr} {sl11 : Array (Option Value)} {oc11 kV11 dc11 pm11 cd11 ct11 : Value}
    {f12 : Addr} {od12 an12 : Option Addr} {sl12 : Array (Option Value)} {oc12 kV12 dc12 pm12 cd12 ct12 : Value}
    {f13 : Addr} {od13 an13 : Option Addr} {sl13 : Array (Option Value)} {oc13 kV13 dc13 pm13 cd13 ct13 : Value}
    {f15 : Addr} {od15 an15 : Option Addr} {sl15 : Array (Option Value)} {oc15 kV15 dc15 pm15 cd15 ct15 : Value}
    {f19 : Addr} {od19 an19 : Option Addr} {sl19 : Array (Option Value)} {oc19 kV19 dc19 pm19 cd19 ct19 : Value}
    {f20 : Addr} {od20 an20 : Option Addr} {sl20 : Array (Option Value)} {oc20 kV20 dc20 pm20 cd20 ct20 : Value}
    {f21 : Addr} {od21 an21 : Option Addr} {sl21 : Array (Option Value)} {oc21 kV21 dc21 pm21 cd21 ct21 : Value}
    {f22 : Addr} {od22 an22 : Option Addr} {sl22 : Array (Option Value)} {oc22 kV22 dc22 pm22 cd22 ct22 : Value}
    {f24 : Addr} {od24 an24 : Option Addr} {sl24 : Array (Option Value)} {oc24 kV24 dc24 pm24 cd24 ct24 : Value}
    {f25 : Addr} {od25 an25 : Option Addr} {sl25 : Array (Option Value)} {oc25 kV25 dc25 pm25 cd25 ct25 : Value}
    {f26 : Addr} {od26 an26 : Option Addr} {sl26 : Array (Option Value)} {oc26 kV26 dc26 pm26 cd26 ct26 : Value}
    {f27 : Addr} {od27 an27 : Option Addr} {sl27 : Array (Option Value)} {oc27 kV27 dc27 pm27 cd27 ct27 : Value}
    {f28 : Addr} {od28 an28 : Option Addr} {sl28 : Array (Option Value)} {oc28 kV28 dc28 pm28 cd28 ct28 : Value}
    {f29 : Addr} {od29 an29 : Option Addr} {sl29 : Array (Option Value)} {oc29 kV29 dc29 pm29 cd29 ct29 : Value}
    {f30 : Addr} {od30 an30 : Option Addr} {sl30 : Array (Option Value)} {oc30 kV30 dc30 pm30 cd30 ct30 : Value}
    {f32 : Addr} {od32 an32 : Option Addr} {sl32 : Array (Option Value)} {oc32 kV32 dc32 pm32 cd32 ct32 : Value}
    {f33 : Addr} {od33 an33 : Option Addr} {sl33 : Array (Option Value)} {oc33 kV33 dc33 pm33 cd33 ct33 : Value}
    {f34 : Addr} {od34 an34 : Option Addr} {sl34 : Array (Option Value)} {oc34 kV34 dc34 pm34 cd34 ct34 : Value}
    {f35 : Addr} {od35 an35 : Option Addr} {sl35 : Array (Option Value)} {oc35 kV35 dc35 pm35 cd35 ct35 : Value}
    {f36 : Addr} {od36 an36 : Option Addr} {sl36 : Array (Option Value)} {oc36 kV36 dc36 pm36 cd36 ct36 : Value}
    {f37 : Addr} {od37 an37 : Option Addr} {sl37 : Array (Option Value)} {oc37 kV37 dc37 pm37 cd37 ct37 : Value}
    {f38 : Addr} {od38 an38 : Option Addr} {sl38 : Array (Option Value)} {oc38 kV38 dc38 pm38 cd38 ct38 : Value}
    {f39 : Addr} {od39 an39 : Option Addr} {sl39 : Array (Option Value)} {oc39 kV39 dc39 pm39 cd39 ct39 : Value}
    {f40 : Addr} {od40 an40 : Option Addr} {sl40 : Array (Option Value)} {oc40 kV40 dc40 pm40 cd40 ct40 : Value}
    {f41 : Addr} {od41 an41 : Option Addr} {sl41 : Array (Option Value)} {oc41 kV41 dc41 pm41 cd41 ct41 : Value}
    {f42 : Addr} {od42 an42 : Option Addr} {sl42 : Array (Option Value)} {oc42 kV42 dc42 pm42 cd42 ct42 : Value}
    {f43 : Addr} {od43 an43 : Option Addr} {sl43 : Array (Option Value)} {oc43 kV43 dc43 pm43 cd43 ct43 : Value}
    {f44 : Addr} {od44 an44 : Option Addr} {sl44 : Array (Option Value)} {oc44 kV44 dc44 pm44 cd44 ct44 : Value}
    {f24000 : Addr} {od24000 an24000 : Option Addr} {sl24000 : Array (Option Value)} {oc24000 kV24000 dc24000 pm24000 cd24000 ct24000 : Value}
    {f24001 : Addr} {od24001 an24001 : Option Addr} {sl24001 : Array (Option Value)} {oc24001 kV24001 dc24001 pm24001 cd24001 ct24001 : Value}
    {f24002 : Addr} {od24002 an24002 : Option Addr} {sl24002 : Array (Option Value)} {oc24002 kV24002 dc24002 pm24002 cd24002 ct24002 : Value}
    {g3 : Addr}
    {g4 : Addr}
    {g23 : Addr}
    {tk_MOST_PLACES_asks : Tok}
    {tk_MOST_PLACES_webs : Tok}
    {tk_MOST_THINGS : Tok}
    (a8 : PySem.W.nsIn K mainGlobals "near_lists" = some (some (.ref f8))) (l8 : K.lookup f8 = some ⟨oc8, od8, .func (PySem.W.fnOf "near_lists" "near_lists" (defArgs s_near_lists) (defBody s_near_lists) (defScope s_near_lists) .none kV8 dc8 pm8 an8 cd8 ct8), sl8⟩) (c8 : PySem.W.codeIn K cd8 "near_lists" = true) (k8 : PySem.W.keepIn K (.ref f8) = true)
    (a9 : PySem.W.nsIn K mainGlobals "fars_by" = some (some (.ref f9))) (l9 : K.lookup f9 = some ⟨oc9, od9, .func (PySem.W.fnOf "fars_by" "fars_by" (defArgs s_fars_by) (defBody s_fars_by) (defScope s_fars_by) .none kV9 dc9 pm9 an9 cd9 ct9), sl9⟩) (c9 : PySem.W.codeIn K cd9 "fars_by" = true) (k9 : PySem.W.keepIn K (.ref f9) = true)
    (a10 : PySem.W.nsIn K mainGlobals "sorted_ties" = some (some (.ref f10))) (l10 : K.lookup f10 = some ⟨oc10, od10, .func (PySem.W.fnOf "sorted_ties" "sorted_ties" (defArgs s_sorted_ties) (defBody s_sorted_ties) (defScope s_sorted_ties) .none kV10 dc10 pm10 an10 cd10 ct10), sl10⟩) (c10 : PySem.W.codeIn K cd10 "sorted_ties" = true) (k10 : PySem.W.keepIn K (.ref f10) = true)
    (a11 : PySem.W.nsIn K mainGlobals "made_web" = some (some (.ref f11))) (l11 : K.lookup f11 = some ⟨oc11, od11, .func (PySem.W.fnOf "made_web" "made_web" (defArgs s_made_web) (defBody s_made_web) (defScope s_made_web) .none kV11 dc11 pm11 an11 cd11 ct11), sl11⟩) (c11 : PySem.W.codeIn K cd11 "made_web" = true) (k11 : PySem.W.keepIn K (.ref f11) = true)
    (a12 : PySem.W.nsIn K mainGlobals "place_asked" = some (some (.ref f12))) (l12 : K.lookup f12 = some ⟨oc12, od12, .func (PySem.W.fnOf "place_asked" "place_asked" (defArgs s_place_asked) (defBody s_place_asked) (defScope s_place_asked) .none kV12 dc12 pm12 an12 cd12 ct12), sl12⟩) (c12 : PySem.W.codeIn K cd12 "place_asked" = true) (k12 : PySem.W.keepIn K (.ref f12) = true)
    (a13 : PySem.W.nsIn K mainGlobals "fars_from" = some (some (.ref f13))) (l13 : K.lookup f13 = some ⟨oc13, od13, .func (PySem.W.fnOf "fars_from" "fars_from" (defArgs s_fars_from) (defBody s_fars_from) (defScope s_fars_from) .none kV13 dc13 pm13 an13 cd13 ct13), sl13⟩) (c13 : PySem.W.codeIn K cd13 "fars_from" = true) (k13 : PySem.W.keepIn K (.ref f13) = true)
    (a15 : PySem.W.nsIn K mainGlobals "things_of" = some (some (.ref f15))) (l15 : K.lookup f15 = some ⟨oc15, od15, .func (PySem.W.fnOf "things_of" "things_of" (defArgs s_things_of) (defBody s_things_of) (defScope s_things_of) .none kV15 dc15 pm15 an15 cd15 ct15), sl15⟩) (c15 : PySem.W.codeIn K cd15 "things_of" = true) (k15 : PySem.W.keepIn K (.ref f15) = true)
    (a19 : PySem.W.nsIn K mainGlobals "few_things" = some (some (.ref f19))) (l19 : K.lookup f19 = some ⟨oc19, od19, .func (PySem.W.fnOf "few_things" "few_things" (defArgs s_few_things) (defBody s_few_things) (defScope s_few_things) .none kV19 dc19 pm19 an19 cd19 ct19), sl19⟩) (c19 : PySem.W.codeIn K cd19 "few_things" = true) (k19 : PySem.W.keepIn K (.ref f19) = true)
    (a20 : PySem.W.nsIn K mainGlobals "all_fars" = some (some (.ref f20))) (l20 : K.lookup f20 = some ⟨oc20, od20, .func (PySem.W.fnOf "all_fars" "all_fars" (defArgs s_all_fars) (defBody s_all_fars) (defScope s_all_fars) .none kV20 dc20 pm20 an20 cd20 ct20), sl20⟩) (c20 : PySem.W.codeIn K cd20 "all_fars" = true) (k20 : PySem.W.keepIn K (.ref f20) = true)
    (a21 : PySem.W.nsIn K mainGlobals "far_thing" = some (some (.ref f21))) (l21 : K.lookup f21 = some ⟨oc21, od21, .func (PySem.W.fnOf "far_thing" "far_thing" (defArgs s_far_thing) (defBody s_far_thing) (defScope s_far_thing) .none kV21 dc21 pm21 an21 cd21 ct21), sl21⟩) (c21 : PySem.W.codeIn K cd21 "far_thing" = true) (k21 : PySem.W.keepIn K (.ref f21) = true)
    (a22 : PySem.W.nsIn K mainGlobals "parts_by" = some (some (.ref f22))) (l22 : K.lookup f22 = some ⟨oc22, od22, .func (PySem.W.fnOf "parts_by" "parts_by" (defArgs s_parts_by) (defBody s_parts_by) (defScope s_parts_by) .none kV22 dc22 pm22 an22 cd22 ct22), sl22⟩) (c22 : PySem.W.codeIn K cd22 "parts_by" = true) (k22 : PySem.W.keepIn K (.ref f22) = true)
    (a24 : PySem.W.nsIn K mainGlobals "fewest_asks" = some (some (.ref f24))) (l24 : K.lookup f24 = some ⟨oc24, od24, .func (PySem.W.fnOf "fewest_asks" "fewest_asks" (defArgs s_fewest_asks) (defBody s_fewest_asks) (defScope s_fewest_asks) .none kV24 dc24 pm24 an24 cd24 ct24), sl24⟩) (c24 : PySem.W.codeIn K cd24 "fewest_asks" = true) (k24 : PySem.W.keepIn K (.ref f24) = true)
    (a25 : PySem.W.nsIn K mainGlobals "len_first" = some (some (.ref f25))) (l25 : K.lookup f25 = some ⟨oc25, od25, .func (PySem.W.fnOf "len_first" "len_first" (defArgs s_len_first) (defBody s_len_first) (defScope s_len_first) .none kV25 dc25 pm25 an25 cd25 ct25), sl25⟩) (c25 : PySem.W.codeIn K cd25 "len_first" = true) (k25 : PySem.W.keepIn K (.ref f25) = true)
    (a26 : PySem.W.nsIn K mainGlobals "plan_of_parts" = some (some (.ref f26))) (l26 : K.lookup f26 = some ⟨oc26, od26, .func (PySem.W.fnOf "plan_of_parts" "plan_of_parts" (defArgs s_plan_of_parts) (defBody s_plan_of_parts) (defScope s_plan_of_parts) .none kV26 dc26 pm26 an26 cd26 ct26), sl26⟩) (c26 : PySem.W.codeIn K cd26 "plan_of_parts" = true) (k26 : PySem.W.keepIn K (.ref f26) = true)
    (a27 : PySem.W.nsIn K mainGlobals "asks_of" = some (some (.ref f27))) (l27 : K.lookup f27 = some ⟨oc27, od27, .func (PySem.W.fnOf "asks_of" "asks_of" (defArgs s_asks_of) (defBody s_asks_of) (defScope s_asks_of) .none kV27 dc27 pm27 an27 cd27 ct27), sl27⟩) (c27 : PySem.W.codeIn K cd27 "asks_of" = true) (k27 : PySem.W.keepIn K (.ref f27) = true)
    (a28 : PySem.W.nsIn K mainGlobals "plan_asks" = some (some (.ref f28))) (l28 : K.lookup f28 = some ⟨oc28, od28, .func (PySem.W.fnOf "plan_asks" "plan_asks" (defArgs s_plan_asks) (defBody s_plan_asks) (defScope s_plan_asks) .none kV28 dc28 pm28 an28 cd28 ct28), sl28⟩) (c28 : PySem.W.codeIn K cd28 "plan_asks" = true) (k28 : PySem.W.keepIn K (.ref f28) = true)
    (a29 : PySem.W.nsIn K mainGlobals "is_row_shown" = some (some (.ref f29))) (l29 : K.lookup f29 = some ⟨oc29, od29, .func (PySem.W.fnOf "is_row_shown" "is_row_shown" (defArgs s_is_row_shown) (defBody s_is_row_shown) (defScope s_is_row_shown) .none kV29 dc29 pm29 an29 cd29 ct29), sl29⟩) (c29 : PySem.W.codeIn K cd29 "is_row_shown" = true) (k29 : PySem.W.keepIn K (.ref f29) = true)
    (a30 : PySem.W.nsIn K mainGlobals "table_shows" = some (some (.ref f30))) (l30 : K.lookup f30 = some ⟨oc30, od30, .func (PySem.W.fnOf "table_shows" "table_shows" (defArgs s_table_shows) (defBody s_table_shows) (defScope s_table_shows) .none kV30 dc30 pm30 an30 cd30 ct30), sl30⟩) (c30 : PySem.W.codeIn K cd30 "table_shows" = true) (k30 : PySem.W.keepIn K (.ref f30) = true)
    (a32 : PySem.W.nsIn K mainGlobals "_law_cell_at" = some (some (.ref f32))) (l32 : K.lookup f32 = some ⟨oc32, od32, .func (PySem.W.fnOf "_law_cell_at" "_law_cell_at" (defArgs s_law_cell_at) (defBody s_law_cell_at) (defScope s_law_cell_at) .none kV32 dc32 pm32 an32 cd32 ct32), sl32⟩) (c32 : PySem.W.codeIn K cd32 "_law_cell_at" = true) (k32 : PySem.W.keepIn K (.ref f32) = true)
    (a33 : PySem.W.nsIn K mainGlobals "_law_folded" = some (some (.ref f33))) (l33 : K.lookup f33 = some ⟨oc33, od33, .func (PySem.W.fnOf "_law_folded" "_law_folded" (defArgs s_law_folded) (defBody s_law_folded) (defScope s_law_folded) .none kV33 dc33 pm33 an33 cd33 ct33), sl33⟩) (c33 : PySem.W.codeIn K cd33 "_law_folded" = true) (k33 : PySem.W.keepIn K (.ref f33) = true)
    (a34 : PySem.W.nsIn K mainGlobals "_law_state" = some (some (.ref f34))) (l34 : K.lookup f34 = some ⟨oc34, od34, .func (PySem.W.fnOf "_law_state" "_law_state" (defArgs s_law_state) (defBody s_law_state) (defScope s_law_state) .none kV34 dc34 pm34 an34 cd34 ct34), sl34⟩) (c34 : PySem.W.codeIn K cd34 "_law_state" = true) (k34 : PySem.W.keepIn K (.ref f34) = true)
    (a35 : PySem.W.nsIn K mainGlobals "_law_next" = some (some (.ref f35))) (l35 : K.lookup f35 = some ⟨oc35, od35, .func (PySem.W.fnOf "_law_next" "_law_next" (defArgs s_law_next) (defBody s_law_next) (defScope s_law_next) .none kV35 dc35 pm35 an35 cd35 ct35), sl35⟩) (c35 : PySem.W.codeIn K cd35 "_law_next" = true) (k35 : PySem.W.keepIn K (.ref f35) = true)
    (a36 : PySem.W.nsIn K mainGlobals "_law_web" = some (some (.ref f36))) (l36 : K.lookup f36 = some ⟨oc36, od36, .func (PySem.W.fnOf "_law_web" "_law_web" (defArgs s_law_web) (defBody s_law_web) (defScope s_law_web) .none kV36 dc36 pm36 an36 cd36 ct36), sl36⟩) (c36 : PySem.W.codeIn K cd36 "_law_web" = true) (k36 : PySem.W.keepIn K (.ref f36) = true)
    (a37 : PySem.W.nsIn K mainGlobals "_law_things" = some (some (.ref f37))) (l37 : K.lookup f37 = some ⟨oc37, od37, .func (PySem.W.fnOf "_law_things" "_law_things" (defArgs s_law_things) (defBody s_law_things) (defScope s_law_things) .none kV37 dc37 pm37 an37 cd37 ct37), sl37⟩) (c37 : PySem.W.codeIn K cd37 "_law_things" = true) (k37 : PySem.W.keepIn K (.ref f37) = true)
    (a38 : PySem.W.nsIn K mainGlobals "_law_few" = some (some (.ref f38))) (l38 : K.lookup f38 = some ⟨oc38, od38, .func (PySem.W.fnOf "_law_few" "_law_few" (defArgs s_law_few) (defBody s_law_few) (defScope s_law_few) .none kV38 dc38 pm38 an38 cd38 ct38), sl38⟩) (c38 : PySem.W.codeIn K cd38 "_law_few" = true) (k38 : PySem.W.keepIn K (.ref f38) = true)
    (a39 : PySem.W.nsIn K mainGlobals "_law_thing" = some (some (.ref f39))) (l39 : K.lookup f39 = some ⟨oc39, od39, .func (PySem.W.fnOf "_law_thing" "_law_thing" (defArgs s_law_thing) (defBody s_law_thing) (defScope s_law_thing) .none kV39 dc39 pm39 an39 cd39 ct39), sl39⟩) (c39 : PySem.W.codeIn K cd39 "_law_thing" = true) (k39 : PySem.W.keepIn K (.ref f39) = true)
    (a40 : PySem.W.nsIn K mainGlobals "_law_plan" = some (some (.ref f40))) (l40 : K.lookup f40 = some ⟨oc40, od40, .func (PySem.W.fnOf "_law_plan" "_law_plan" (defArgs s_law_plan) (defBody s_law_plan) (defScope s_law_plan) .none kV40 dc40 pm40 an40 cd40 ct40), sl40⟩) (c40 : PySem.W.codeIn K cd40 "_law_plan" = true) (k40 : PySem.W.keepIn K (.ref f40) = true)
    (a41 : PySem.W.nsIn K mainGlobals "_law_order" = some (some (.ref f41))) (l41 : K.lookup f41 = some ⟨oc41, od41, .func (PySem.W.fnOf "_law_order" "_law_order" (defArgs s_law_order) (defBody s_law_order) (defScope s_law_order) .none kV41 dc41 pm41 an41 cd41 ct41), sl41⟩) (c41 : PySem.W.codeIn K cd41 "_law_order" = true) (k41 : PySem.W.keepIn K (.ref f41) = true)
    (a42 : PySem.W.nsIn K mainGlobals "_law_renamed_right" = some (some (.ref f42))) (l42 : K.lookup f42 = some ⟨oc42, od42, .func (PySem.W.fnOf "_law_renamed_right" "_law_renamed_right" (defArgs s_law_renamed_right) (defBody s_law_renamed_right) (defScope s_law_renamed_right) .none kV42 dc42 pm42 an42 cd42 ct42), sl42⟩) (c42 : PySem.W.codeIn K cd42 "_law_renamed_right" = true) (k42 : PySem.W.keepIn K (.ref f42) = true)
    (a43 : PySem.W.nsIn K mainGlobals "_law_known_right" = some (some (.ref f43))) (l43 : K.lookup f43 = some ⟨oc43, od43, .func (PySem.W.fnOf "_law_known_right" "_law_known_right" (defArgs s_law_known_right) (defBody s_law_known_right) (defScope s_law_known_right) .none kV43 dc43 pm43 an43 cd43 ct43), sl43⟩) (c43 : PySem.W.codeIn K cd43 "_law_known_right" = true) (k43 : PySem.W.keepIn K (.ref f43) = true)
    (a44 : PySem.W.nsIn K mainGlobals "law" = some (some (.ref f44))) (l44 : K.lookup f44 = some ⟨oc44, od44, .func (PySem.W.fnOf "law" "law" (defArgs s_law) (defBody s_law) (defScope s_law) .none kV44 dc44 pm44 an44 cd44 ct44), sl44⟩) (c44 : PySem.W.codeIn K cd44 "law" = true) (k44 : PySem.W.keepIn K (.ref f44) = true)
    (a24000 : PySem.W.findIn K (.ref g23) "__init__" = some (some (.ref f24000))) (i24000 : PySem.W.isFn K (.ref f24000) = true) (l24000 : K.lookup f24000 = some ⟨oc24000, od24000, .func (PySem.W.fnOf "__init__" "Asking.__init__" (defArgs s_Asking_init) (defBody s_Asking_init) (defScope s_Asking_init) .none kV24000 dc24000 pm24000 an24000 cd24000 ct24000), sl24000⟩) (c24000 : PySem.W.codeIn K cd24000 "Asking.__init__" = true) (k24000 : PySem.W.keepIn K (.ref f24000) = true)
    (a24001 : PySem.W.findIn K (.ref g23) "need" = some (some (.ref f24001))) (i24001 : PySem.W.isFn K (.ref f24001) = true) (l24001 : K.lookup f24001 = some ⟨oc24001, od24001, .func (PySem.W.fnOf "need" "Asking.need" (defArgs s_Asking_need) (defBody s_Asking_need) (defScope s_Asking_need) .none kV24001 dc24001 pm24001 an24001 cd24001 ct24001), sl24001⟩) (c24001 : PySem.W.codeIn K cd24001 "Asking.need" = true) (k24001 : PySem.W.keepIn K (.ref f24001) = true)
    (a24002 : PySem.W.findIn K (.ref g23) "plan" = some (some (.ref f24002))) (i24002 : PySem.W.isFn K (.ref f24002) = true) (l24002 : K.lookup f24002 = some ⟨oc24002, od24002, .func (PySem.W.fnOf "plan" "Asking.plan" (defArgs s_Asking_plan) (defBody s_Asking_plan) (defScope s_Asking_plan) .none kV24002 dc24002 pm24002 an24002 cd24002 ct24002), sl24002⟩) (c24002 : PySem.W.codeIn K cd24002 "Asking.plan" = true) (k24002 : PySem.W.keepIn K (.ref f24002) = true)
    (ns_NoPlace : PySem.W.nsIn K mainGlobals "NoPlace" = some (some (.ref g3)))
    (ns_TooMany : PySem.W.nsIn K mainGlobals "TooMany" = some (some (.ref g4)))
    (ns_Asking : PySem.W.nsIn K mainGlobals "Asking" = some (some (.ref g23)))
    (xc_TooMany : PySem.W.excIn K g4 [.type "ValueError", .type "Exception", .type "BaseException", .type "object"] "ValueError.__new__" = true)
    (kp_TooMany : PySem.W.keepIn K (.ref g4) = true)
    (b_TooMany : PySem.W.subIn K (.ref g4) (.type "BaseException") = some true)
    (t_TooMany : PySem.W.typeIn K (.ref g4) = some (.type "type"))
    (hg_TooMany : PySem.W.findIn K (.ref g4) "__getattribute__" = some (some (.builtin "BaseException.__getattribute__")))
    (hk_TooMany : PySem.W.findIn K (.ref g4) "__getattr__" = some none)
    (hd_TooMany : PySem.W.hasDictIn K g4 = true)
    (ha_TooMany : PySem.W.findIn K (.ref g4) "__class__" = some (some (.builtin "object.__class__")))
    (hm_TooMany : PySem.W.mroIn K g4 (.type "object") = some true)
    (xc_NoPlace : PySem.W.excIn K g3 [.type "ValueError", .type "Exception", .type "BaseException", .type "object"] "ValueError.__new__" = true)
    (kp_NoPlace : PySem.W.keepIn K (.ref g3) = true)
    (b_NoPlace : PySem.W.subIn K (.ref g3) (.type "BaseException") = some true)
    (t_NoPlace : PySem.W.typeIn K (.ref g3) = some (.type "type"))
    (hg_NoPlace : PySem.W.findIn K (.ref g3) "__getattribute__" = some (some (.builtin "BaseException.__getattribute__")))
    (hk_NoPlace : PySem.W.findIn K (.ref g3) "__getattr__" = some none)
    (hd_NoPlace : PySem.W.hasDictIn K g3 = true)
    (ha_NoPlace : PySem.W.findIn K (.ref g3) "__class__" = some (some (.builtin "object.__class__")))
    (hm_NoPlace : PySem.W.mroIn K g3 (.type "object") = some true)
    (op_Asking : PySem.W.plainGet K g23 Str.empty = true)
    (oh_Asking : PySem.W.hasDictIn K g23 = true)
    (oo_Asking : PySem.W.plainOver K g23 = true)
    (os_Asking : PySem.W.findIn K (.ref g23) "__setattr__" = some (some (.builtin "object.__setattr__")))
    (om_Asking : PySem.W.makesIn K g23 = true)
    (ok_Asking : PySem.W.keepIn K (.ref g23) = true)
    (of_Asking_fars : PySem.W.findIn K (.ref g23) "fars" = some none)
    (of_Asking_least : PySem.W.findIn K (.ref g23) "least" = some none)
    (of_Asking_best : PySem.W.findIn K (.ref g23) "best" = some none)
    (hn_ : PySem.W.specialIn K (.builtin "object.__class__") "__get__" = some (some (.builtin "getset_descriptor.__get__")))
    (ht_ : PySem.W.takesIn K (.builtin "object.__class__") = some true)
    (kc_MOST_PLACES_asks : PySem.W.nsIn K mainGlobals "MOST_PLACES_asks" = some (some (.int 7 tk_MOST_PLACES_asks)))
    (kc_MOST_PLACES_webs : PySem.W.nsIn K mainGlobals "MOST_PLACES_webs" = some (some (.int 60 tk_MOST_PLACES_webs)))
    (kc_MOST_THINGS : PySem.W.nsIn K mainGlobals "MOST_THINGS" = some (some (.int 8 tk_MOST_THINGS)))
    (z_all : PySem.W.nsIn K mainGlobals "all" = some none)
    (z_any : PySem.W.nsIn K mainGlobals "any" = some none)
    (z_int : PySem.W.nsIn K mainGlobals "int" = some none)
    (z_isinstance : PySem.W.nsIn K mainGlobals "isinstance" = some none)
    (z_len : PySem.W.nsIn K mainGlobals "len" = some none)
    (z_list : PySem.W.nsIn K mainGlobals "list" = some none)
    (z_max : PySem.W.nsIn K mainGlobals "max" = some none)
    (z_min : PySem.W.nsIn K mainGlobals "min" = some none)
    (z_range : PySem.W.nsIn K mainGlobals "range" = some none)
    (z_sorted : PySem.W.nsIn K mainGlobals "sorted" = some none)
    (z_tuple : PySem.W.nsIn K mainGlobals "tuple" = some none)
    (z_zip : PySem.W.nsIn K mainGlobals "zip" = some none) :
    ∃ fd : FuncData, (∀ (s : Shared) (v : Value), BindsTo s fd ⟨[v], []⟩ [("script", v)]) ∧ ∀ base : Heap, K.In base → base.Ns mainGlobals mg → FnOk l.prog w K mg base CX0 46 fa fd ["script"] (sp_law K) := by
  have e := hfa.symm.trans (PySem.W.mg_of X G a44)
  cases e
  let A : Nat → Addr := fun i => match i with | 8 => f8 | 9 => f9 | 10 => f10 | 11 => f11 | 12 => f12 | 13 => f13 | 15 => f15 | 19 => f19 | 20 => f20 | 21 => f21 | 22 => f22 | 24 => f24 | 25 => f25 | 26 => f26 | 27 => f27 | 28 => f28 | 29 => f29 | 30 => f30 | 32 => f32 | 33 => f33 | 34 => f34 | 35 => f35 | 36 => f36 | 37 => f37 | 38 => f38 | 39 => f39 | 40 => f40 | 41 => f41 | 42 => f42 | 43 => f43 | 44 => fa | 24000 => f24000 | 24001 => f24001 | 24002 => f24002 | 3 => g3 | 4 => g4 | 23 => g23 | _ => fa
  let FD : Nat → FuncData := fun i => match i with | 8 => (PySem.W.fnOf "near_lists" "near_lists" (defArgs s_near_lists) (defBody s_near_lists) (defScope s_near_lists) .none kV8 dc8 pm8 an8 cd8 ct8) | 9 => (PySem.W.fnOf "fars_by" "fars_by" (defArgs s_fars_by) (defBody s_fars_by) (defScope s_fars_by) .none kV9 dc9 pm9 an9 cd9 ct9) | 10 => (PySem.W.fnOf "sorted_ties" "sorted_ties" (defArgs s_sorted_ties) (defBody s_sorted_ties) (defScope s_sorted_ties) .none kV10 dc10 pm10 an10 cd10 ct10) | 11 => (PySem.W.fnOf "made_web" "made_web" (defArgs s_made_web) (defBody s_made_web) (defScope s_made_web) .none kV11 dc11 pm11 an11 cd11 ct11) | 12 => (PySem.W.fnOf "place_asked" "place_asked" (defArgs s_place_asked) (defBody s_place_asked) (defScope s_place_asked) .none kV12 dc12 pm12 an12 cd12 ct12) | 13 => (PySem.W.fnOf "fars_from" "fars_from" (defArgs s_fars_from) (defBody s_fars_from) (defScope s_fars_from) .none kV13 dc13 pm13 an13 cd13 ct13) | 15 => (PySem.W.fnOf "things_of" "things_of" (defArgs s_things_of) (defBody s_things_of) (defScope s_things_of) .none kV15 dc15 pm15 an15 cd15 ct15) | 19 => (PySem.W.fnOf "few_things" "few_things" (defArgs s_few_things) (defBody s_few_things) (defScope s_few_things) .none kV19 dc19 pm19 an19 cd19 ct19) | 20 => (PySem.W.fnOf "all_fars" "all_fars" (defArgs s_all_fars) (defBody s_all_fars) (defScope s_all_fars) .none kV20 dc20 pm20 an20 cd20 ct20) | 21 => (PySem.W.fnOf "far_thing" "far_thing" (defArgs s_far_thing) (defBody s_far_thing) (defScope s_far_thing) .none kV21 dc21 pm21 an21 cd21 ct21) | 22 => (PySem.W.fnOf "parts_by" "parts_by" (defArgs s_parts_by) (defBody s_parts_by) (defScope s_parts_by) .none kV22 dc22 pm22 an22 cd22 ct22) | 24 => (PySem.W.fnOf "fewest_asks" "fewest_asks" (defArgs s_fewest_asks) (defBody s_fewest_asks) (defScope s_fewest_asks) .none kV24 dc24 pm24 an24 cd24 ct24) | 25 => (PySem.W.fnOf "len_first" "len_first" (defArgs s_len_first) (defBody s_len_first) (defScope s_len_first) .none kV25 dc25 pm25 an25 cd25 ct25) | 26 => (PySem.W.fnOf "plan_of_parts" "plan_of_parts" (defArgs s_plan_of_parts) (defBody s_plan_of_parts) (defScope s_plan_of_parts) .none kV26 dc26 pm26 an26 cd26 ct26) | 27 => (PySem.W.fnOf "asks_of" "asks_of" (defArgs s_asks_of) (defBody s_asks_of) (defScope s_asks_of) .none kV27 dc27 pm27 an27 cd27 ct27) | 28 => (PySem.W.fnOf "plan_asks" "plan_asks" (defArgs s_plan_asks) (defBody s_plan_asks) (defScope s_plan_asks) .none kV28 dc28 pm28 an28 cd28 ct28) | 29 => (PySem.W.fnOf "is_row_shown" "is_row_shown" (defArgs s_is_row_shown) (defBody s_is_row_shown) (defScope s_is_row_shown) .none kV29 dc29 pm29 an29 cd29 ct29) | 30 => (PySem.W.fnOf "table_shows" "table_shows" (defArgs s_table_shows) (defBody s_table_shows) (defScope s_table_shows) .none kV30 dc30 pm30 an30 cd30 ct30) | 32 => (PySem.W.fnOf "_law_cell_at" "_law_cell_at" (defArgs s_law_cell_at) (defBody s_law_cell_at) (defScope s_law_cell_at) .none kV32 dc32 pm32 an32 cd32 ct32) | 33 => (PySem.W.fnOf "_law_folded" "_law_folded" (defArgs s_law_folded) (defBody s_law_folded) (defScope s_law_folded) .none kV33 dc33 pm33 an33 cd33 ct33) | 34 => (PySem.W.fnOf "_law_state" "_law_state" (defArgs s_law_state) (defBody s_law_state) (defScope s_law_state) .none kV34 dc34 pm34 an34 cd34 ct34) | 35 => (PySem.W.fnOf "_law_next" "_law_next" (defArgs s_law_next) (defBody s_law_next) (defScope s_law_next) .none kV35 dc35 pm35 an35 cd35 ct35) | 36 => (PySem.W.fnOf "_law_web" "_law_web" (defArgs s_law_web) (defBody s_law_web) (defScope s_law_web) .none kV36 dc36 pm36 an36 cd36 ct36) | 37 => (PySem.W.fnOf "_law_things" "_law_things" (defArgs s_law_things) (defBody s_law_things) (defScope s_law_things) .none kV37 dc37 pm37 an37 cd37 ct37) | 38 => (PySem.W.fnOf "_law_few" "_law_few" (defArgs s_law_few) (defBody s_law_few) (defScope s_law_few) .none kV38 dc38 pm38 an38 cd38 ct38) | 39 => (PySem.W.fnOf "_law_thing" "_law_thing" (defArgs s_law_thing) (defBody s_law_thing) (defScope s_law_thing) .none kV39 dc39 pm39 an39 cd39 ct39) | 40 => (PySem.W.fnOf "_law_plan" "_law_plan" (defArgs s_law_plan) (defBody s_law_plan) (defScope s_law_plan) .none kV40 dc40 pm40 an40 cd40 ct40) | 41 => (PySem.W.fnOf "_law_order" "_law_order" (defArgs s_law_order) (defBody s_law_order) (defScope s_law_order) .none kV41 dc41 pm41 an41 cd41 ct41) | 42 => (PySem.W.fnOf "_law_renamed_right" "_law_renamed_right" (defArgs s_law_renamed_right) (defBody s_law_renamed_right) (defScope s_law_renamed_right) .none kV42 dc42 pm42 an42 cd42 ct42) | 43 => (PySem.W.fnOf "_law_known_right" "_law_known_right" (defArgs s_law_known_right) (defBody s_law_known_right) (defScope s_law_known_right) .none kV43 dc43 pm43 an43 cd43 ct43) | 44 => (PySem.W.fnOf "law" "law" (defArgs s_law) (defBody s_law) (defScope s_law) .none kV44 dc44 pm44 an44 cd44 ct44) | 24000 => (PySem.W.fnOf "__init__" "Asking.__init__" (defArgs s_Asking_init) (defBody s_Asking_init) (defScope s_Asking_init) .none kV24000 dc24000 pm24000 an24000 cd24000 ct24000) | 24001 => (PySem.W.fnOf "need" "Asking.need" (defArgs s_Asking_need) (defBody s_Asking_need) (defScope s_Asking_need) .none kV24001 dc24001 pm24001 an24001 cd24001 ct24001) | 24002 => (PySem.W.fnOf "plan" "Asking.plan" (defArgs s_Asking_plan) (defBody s_Asking_plan) (defScope s_Asking_plan) .none kV24002 dc24002 pm24002 an24002 cd24002 ct24002) | _ => (PySem.W.fnOf "law" "law" (defArgs s_law) (defBody s_law) (defScope s_law) .none kV44 dc44 pm44 an44 cd44 ct44)
  have T : Tx K mg A FD := {
    d8 := dn_mk (st := s_near_lists) (ps := ["web"]) X G a8 l8 c8 k8 fun _ _ _ _ _ _ us hl => by (obtain ⟨_, rfl⟩ := us1 hl; rfl)
    d9 := dn_mk (st := s_fars_by) (ps := ["near", "place"]) X G a9 l9 c9 k9 fun _ _ _ _ _ _ us hl => by (obtain ⟨_, _, rfl⟩ := us2 hl; rfl)
    d10 := dn_mk (st := s_sorted_ties) (ps := ["many", "ties"]) X G a10 l10 c10 k10 fun _ _ _ _ _ _ us hl => by (obtain ⟨_, _, rfl⟩ := us2 hl; rfl)
    d11 := dn_mk (st := s_made_web) (ps := ["many", "ties"]) X G a11 l11 c11 k11 fun _ _ _ _ _ _ us hl => by (obtain ⟨_, _, rfl⟩ := us2 hl; rfl)
    d12 := dn_mk (st := s_place_asked) (ps := ["web", "place"]) X G a12 l12 c12 k12 fun _ _ _ _ _ _ us hl => by (obtain ⟨_, _, rfl⟩ := us2 hl; rfl)
    d13 := dn_mk (st := s_fars_from) (ps := ["web", "place"]) X G a13 l13 c13 k13 fun _ _ _ _ _ _ us hl => by (obtain ⟨_, _, rfl⟩ := us2 hl; rfl)
    d15 := dn_mk (st := s_things_of) (ps := ["web", "kind"]) X G a15 l15 c15 k15 fun _ _ _ _ _ _ us hl => by (obtain ⟨_, _, rfl⟩ := us2 hl; rfl)
    d19 := dn_mk (st := s_few_things) (ps := ["web", "kind"]) X G a19 l19 c19 k19 fun _ _ _ _ _ _ us hl => by (obtain ⟨_, _, rfl⟩ := us2 hl; rfl)
    d20 := dn_mk (st := s_all_fars) (ps := ["web"]) X G a20 l20 c20 k20 fun _ _ _ _ _ _ us hl => by (obtain ⟨_, rfl⟩ := us1 hl; rfl)
    d21 := dn_mk (st := s_far_thing) (ps := ["fars", "place", "thing"]) X G a21 l21 c21 k21 fun _ _ _ _ _ _ us hl => by (obtain ⟨_, _, _, rfl⟩ := us3 hl; rfl)
    d22 := dn_mk (st := s_parts_by) (ps := ["fars", "things", "place"]) X G a22 l22 c22 k22 fun _ _ _ _ _ _ us hl => by (obtain ⟨_, _, _, rfl⟩ := us3 hl; rfl)
    d24 := dn_mk (st := s_fewest_asks) (ps := ["web", "kind"]) X G a24 l24 c24 k24 fun _ _ _ _ _ _ us hl => by (obtain ⟨_, _, rfl⟩ := us2 hl; rfl)
    d25 := dn_mk (st := s_len_first) (ps := ["row"]) X G a25 l25 c25 k25 fun _ _ _ _ _ _ us hl => by (obtain ⟨_, rfl⟩ := us1 hl; rfl)
    d26 := dn_mk (st := s_plan_of_parts) (ps := ["fars", "things", "plan"]) X G a26 l26 c26 k26 fun _ _ _ _ _ _ us hl => by (obtain ⟨_, _, _, rfl⟩ := us3 hl; rfl)
    d27 := dn_mk (st := s_asks_of) (ps := ["fars", "things", "plan"]) X G a27 l27 c27 k27 fun _ _ _ _ _ _ us hl => by (obtain ⟨_, _, _, rfl⟩ := us3 hl; rfl)
    d28 := dn_mk (st := s_plan_asks) (ps := ["web", "kind", "plan"]) X G a28 l28 c28 k28 fun _ _ _ _ _ _ us hl => by (obtain ⟨_, _, _, rfl⟩ := us3 hl; rfl)
    d29 := dn_mk (st := s_is_row_shown) (ps := ["fars", "known", "some"]) X G a29 l29 c29 k29 fun _ _ _ _ _ _ us hl => by (obtain ⟨_, _, _, rfl⟩ := us3 hl; rfl)
    d30 := dn_mk (st := s_table_shows) (ps := ["web", "kind", "asks", "table"]) X G a30 l30 c30 k30 fun _ _ _ _ _ _ us hl => by (obtain ⟨_, _, _, _, rfl⟩ := us4 hl; rfl)
    d32 := dn_mk (st := s_law_cell_at) (ps := ["script", "k"]) X G a32 l32 c32 k32 fun _ _ _ _ _ _ us hl => by (obtain ⟨_, _, rfl⟩ := us2 hl; rfl)
    d33 := dn_mk (st := s_law_folded) (ps := ["script", "many"]) X G a33 l33 c33 k33 fun _ _ _ _ _ _ us hl => by (obtain ⟨_, _, rfl⟩ := us2 hl; rfl)
    d34 := dn_mk (st := s_law_state) (ps := ["cell"]) X G a34 l34 c34 k34 fun _ _ _ _ _ _ us hl => by (obtain ⟨_, rfl⟩ := us1 hl; rfl)
    d35 := dn_mk (st := s_law_next) (ps := ["state", "many"]) X G a35 l35 c35 k35 fun _ _ _ _ _ _ us hl => by (obtain ⟨_, _, rfl⟩ := us2 hl; rfl)
    d36 := dn_mk (st := s_law_web) (ps := ["state", "least", "most"]) X G a36 l36 c36 k36 fun _ _ _ _ _ _ us hl => by (obtain ⟨_, _, _, rfl⟩ := us3 hl; rfl)
    d37 := dn_mk (st := s_law_things) (ps := ["web", "kind"]) X G a37 l37 c37 k37 fun _ _ _ _ _ _ us hl => by (obtain ⟨_, _, rfl⟩ := us2 hl; rfl)
    d38 := dn_mk (st := s_law_few) (ps := ["state", "least"]) X G a38 l38 c38 k38 fun _ _ _ _ _ _ us hl => by (obtain ⟨_, _, rfl⟩ := us2 hl; rfl)
    d39 := dn_mk (st := s_law_thing) (ps := ["names", "thing"]) X G a39 l39 c39 k39 fun _ _ _ _ _ _ us hl => by (obtain ⟨_, _, rfl⟩ := us2 hl; rfl)
    d40 := dn_mk (st := s_law_plan) (ps := ["names", "plan"]) X G a40 l40 c40 k40 fun _ _ _ _ _ _ us hl => by (obtain ⟨_, _, rfl⟩ := us2 hl; rfl)
    d41 := dn_mk (st := s_law_order) (ps := ["state", "many"]) X G a41 l41 c41 k41 fun _ _ _ _ _ _ us hl => by (obtain ⟨_, _, rfl⟩ := us2 hl; rfl)
    d42 := dn_mk (st := s_law_renamed_right) (ps := ["state", "web", "kind"]) X G a42 l42 c42 k42 fun _ _ _ _ _ _ us hl => by (obtain ⟨_, _, _, rfl⟩ := us3 hl; rfl)
    d43 := dn_mk (st := s_law_known_right) (ps := ["state"]) X G a43 l43 c43 k43 fun _ _ _ _ _ _ us hl => by (obtain ⟨_, rfl⟩ := us1 hl; rfl)
    d44 := dn_mk (st := s_law) (ps := ["script"]) X G a44 l44 c44 k44 fun _ _ _ _ _ _ us hl => by (obtain ⟨_, rfl⟩ := us1 hl; rfl)
    d24000 := ⟨fun_mk (st := s_Asking_init) l24000 c24000 k24000, ⟨a24000, i24000, k24000⟩, (fun_mk (st := s_Asking_init) l24000 c24000 k24000).binds (ps := ["self", "web"]) fun _ _ _ _ _ _ us hl => by (obtain ⟨_, _, rfl⟩ := us2 hl; rfl)⟩
    d24001 := ⟨fun_mk (st := s_Asking_need) l24001 c24001 k24001, ⟨a24001, i24001, k24001⟩, (fun_mk (st := s_Asking_need) l24001 c24001 k24001).binds (ps := ["self", "things"]) fun _ _ _ _ _ _ us hl => by (obtain ⟨_, _, rfl⟩ := us2 hl; rfl)⟩
    d24002 := ⟨fun_mk (st := s_Asking_plan) l24002 c24002 k24002, ⟨a24002, i24002, k24002⟩, (fun_mk (st := s_Asking_plan) l24002 c24002 k24002).binds (ps := ["self", "things"]) fun _ _ _ _ _ _ us hl => by (obtain ⟨_, _, rfl⟩ := us2 hl; rfl)⟩
    n_all := PySem.W.mg_none_of X G z_all
    n_any := PySem.W.mg_none_of X G z_any
    n_int := PySem.W.mg_none_of X G z_int
    n_isinstance := PySem.W.mg_none_of X G z_isinstance
    n_len := PySem.W.mg_none_of X G z_len
    n_list := PySem.W.mg_none_of X G z_list
    n_max := PySem.W.mg_none_of X G z_max
    n_min := PySem.W.mg_none_of X G z_min
    n_range := PySem.W.mg_none_of X G z_range
    n_sorted := PySem.W.mg_none_of X G z_sorted
    n_tuple := PySem.W.mg_none_of X G z_tuple
    n_zip := PySem.W.mg_none_of X G z_zip
    c_MOST_PLACES_asks := ⟨_, PySem.W.mg_of X G kc_MOST_PLACES_asks⟩
    c_MOST_PLACES_webs := ⟨_, PySem.W.mg_of X G kc_MOST_PLACES_webs⟩
    c_MOST_THINGS := ⟨_, PySem.W.mg_of X G kc_MOST_THINGS⟩
    cl_Asking := ⟨op_Asking, oh_Asking, oo_Asking, os_Asking⟩
    nm_Asking := ns_Asking
    mg_Asking := PySem.W.mg_of X G ns_Asking
    mk_Asking := ⟨om_Asking, a24000, i24000, ok_Asking⟩
    na_Asking_fars := of_Asking_fars
    na_Asking_least := of_Asking_least
    na_Asking_best := of_Asking_best
    x_TooMany := ⟨ns_TooMany, PySem.W.mg_of X G ns_TooMany, xc_TooMany, kp_TooMany, b_TooMany, t_TooMany, ⟨hg_TooMany, hk_TooMany, b_TooMany, hd_TooMany, ha_TooMany, hn_, ht_, hm_TooMany⟩⟩
    x_NoPlace := ⟨ns_NoPlace, PySem.W.mg_of X G ns_NoPlace, xc_NoPlace, kp_NoPlace, b_NoPlace, t_NoPlace, ⟨hg_NoPlace, hk_NoPlace, b_NoPlace, hd_NoPlace, ha_NoPlace, hn_, ht_, hm_NoPlace⟩⟩ }
  exact ⟨(PySem.W.fnOf "law" "law" (defArgs s_law) (defBody s_law) (defScope s_law) .none kV44 dc44 pm44 an44 cd44 ct44), fun s v => .of_eq rfl, fun base _ _ => ok_law (A := A) (FD := FD) T⟩
theorem walk {l : PySem.W.OpenLaw} {q : Program} {loose : List Str} {XP : (Str → Option Value) → Heap → Prop} {YP : World → Heap → Prop} {d : DefRec} {K : Params → PySem.W.Frag} (hn : l.most = some 63) (hdf : d.params.defaults = [])
    (hY : ∀ (w : World) (h : Heap), YP w h → (K w.params).In h)
    (F : ∀ (w : World) (mg : Str → Option Value) (fa : Addr) (h : Heap), (K w.params).In h → h.Ns mainGlobals mg → mg d.name = some (.ref fa) →
      ∃ fd : FuncData, (∀ (s : Shared) (u : Value), BindsTo s fd ⟨[u], []⟩ [("script", u)]) ∧ ∀ base : Heap, (K w.params).In base → base.Ns mainGlobals mg → FnOk l.prog w (K w.params) mg base CX0 46 fa fd ["script"] (sp_law (K w.params))) :
    PySem.W.WalkO q loose XP YP l.row.toRowW d [] (fun f vs => PySem.call f vs) :=
  L2.walk_of (n := 63) (k := 46) (x := "script") (CX := fun _ => CX0) (sp := fun w => sp_law (K w.params)) hn (by decide) hdf ⟨rfl, by decide, by decide⟩ hY F
    (fun _ H a ns hl _ hS => ⟨H, [], .ref a, ⟨ns⟩, rfl, ⟨Same.refl _, (fun _ z => nomatch z), List.Pairwise.nil, (fun _ z => nomatch z)⟩, ⟨a, rfl, hS⟩, by rw [law_true ns hl]; exact fun v F2 H2 w s r => r⟩) fun _ _ _ _ _ z => z
end G
open PySem PySem.W PyProof.Rows
set_option maxRecDepth 100000 in
set_option maxHeartbeats 0 in
theorem PySem.Challenge.cw_farhail_k57_whole_asks_of_known_webs_holds : PySem.Challenge.rw_farhail_k57_whole_asks_of_known_webs.Holds := by
  refine HD.whole ?_
  k_fill
  refine G.walk (l := PySem.Challenge.rw_farhail_k57_whole_asks_of_known_webs) rfl rfl (fun w h Y => PySem.W.kIn_of Y) ?F
  case F =>
    intro w mg fa h KX Gn hmg
    refine' G.all_mk KX Gn hmg ?a8 ?l8 ?c8 ?k8 ?a9 ?l9 ?c9 ?k9 ?a10 ?l10 ?c10 ?k10 ?a11 ?l11 ?c11 ?k11 ?a12 ?l12 ?c12 ?k12 ?a13 ?l13 ?c13 ?k13 ?a15 ?l15 ?c15 ?k15 ?a19 ?l19 ?c19 ?k19 ?a20 ?l20 ?c20 ?k20 ?a21 ?l21 ?c21 ?k21 ?a22 ?l22 ?c22 ?k22 ?a24 ?l24 ?c24 ?k24 ?a25 ?l25 ?c25 ?k25 ?a26 ?l26 ?c26 ?k26 ?a27 ?l27 ?c27 ?k27 ?a28 ?l28 ?c28 ?k28 ?a29 ?l29 ?c29 ?k29 ?a30 ?l30 ?c30 ?k30 ?a32 ?l32 ?c32 ?k32 ?a33 ?l33 ?c33 ?k33 ?a34 ?l34 ?c34 ?k34 ?a35 ?l35 ?c35 ?k35 ?a36 ?l36 ?c36 ?k36 ?a37 ?l37 ?c37 ?k37 ?a38 ?l38 ?c38 ?k38 ?a39 ?l39 ?c39 ?k39 ?a40 ?l40 ?c40 ?k40 ?a41 ?l41 ?c41 ?k41 ?a42 ?l42 ?c42 ?k42 ?a43 ?l43 ?c43 ?k43 ?a44 ?l44 ?c44 ?k44 ?a24000 ?i24000 ?l24000 ?c24000 ?k24000 ?a24001 ?i24001 ?l24001 ?c24001 ?k24001 ?a24002 ?i24002 ?l24002 ?c24002 ?k24002 ?ns_NoPlace ?ns_TooMany ?ns_Asking ?xc_TooMany ?kp_TooMany ?b_TooMany ?t_TooMany ?hg_TooMany ?hk_TooMany ?hd_TooMany ?ha_TooMany ?hm_TooMany ?xc_NoPlace ?kp_NoPlace ?b_NoPlace ?t_NoPlace ?hg_NoPlace ?hk_NoPlace ?hd_NoPlace ?ha_NoPlace ?hm_NoPlace ?op_Asking ?oh_Asking ?oo_Asking ?os_Asking ?om_Asking ?ok_Asking ?of_Asking_fars ?of_Asking_least ?of_Asking_best ?hn_ ?ht_ ?kc_MOST_PLACES_asks ?kc_MOST_PLACES_webs ?kc_MOST_THINGS ?z_all ?z_any ?z_int ?z_isinstance ?z_len ?z_list ?z_max ?z_min ?z_range ?z_sorted ?z_tuple ?z_zip
    (case a8 => k_is); (case l8 => k_is); (case c8 => k_is); (case k8 => k_is)
    (case a9 => k_is); (case l9 => k_is); (case c9 => k_is); (case k9 => k_is)
    (case a10 => k_is); (case l10 => k_is); (case c10 => k_is); (case k10 => k_is)
    (case a11 => k_is); (case l11 => k_is); (case c11 => k_is); (case k11 => k_is)
    (case a12 => k_is); (case l12 => k_is); (case c12 => k_is); (case k12 => k_is)
    (case a13 => k_is); (case l13 => k_is); (case c13 => k_is); (case k13 => k_is)
    (case a15 => k_is); (case l15 => k_is); (case c15 => k_is); (case k15 => k_is)
    (case a19 => k_is); (case l19 => k_is); (case c19 => k_is); (case k19 => k_is)
    (case a20 => k_is); (case l20 => k_is); (case c20 => k_is); (case k20 => k_is)
    (case a21 => k_is); (case l21 => k_is); (case c21 => k_is); (case k21 => k_is)
    (case a22 => k_is); (case l22 => k_is); (case c22 => k_is); (case k22 => k_is)
    (case a24 => k_is); (case l24 => k_is); (case c24 => k_is); (case k24 => k_is)
    (case a25 => k_is); (case l25 => k_is); (case c25 => k_is); (case k25 => k_is)
    (case a26 => k_is); (case l26 => k_is); (case c26 => k_is); (case k26 => k_is)
    (case a27 => k_is); (case l27 => k_is); (case c27 => k_is); (case k27 => k_is)
    (case a28 => k_is); (case l28 => k_is); (case c28 => k_is); (case k28 => k_is)
    (case a29 => k_is); (case l29 => k_is); (case c29 => k_is); (case k29 => k_is)
    (case a30 => k_is); (case l30 => k_is); (case c30 => k_is); (case k30 => k_is)
    (case a32 => k_is); (case l32 => k_is); (case c32 => k_is); (case k32 => k_is)
    (case a33 => k_is); (case l33 => k_is); (case c33 => k_is); (case k33 => k_is)
    (case a34 => k_is); (case l34 => k_is); (case c34 => k_is); (case k34 => k_is)
    (case a35 => k_is); (case l35 => k_is); (case c35 => k_is); (case k35 => k_is)
    (case a36 => k_is); (case l36 => k_is); (case c36 => k_is); (case k36 => k_is)
    (case a37 => k_is); (case l37 => k_is); (case c37 => k_is); (case k37 => k_is)
    (case a38 => k_is); (case l38 => k_is); (case c38 => k_is); (case k38 => k_is)
    (case a39 => k_is); (case l39 => k_is); (case c39 => k_is); (case k39 => k_is)
    (case a40 => k_is); (case l40 => k_is); (case c40 => k_is); (case k40 => k_is)
    (case a41 => k_is); (case l41 => k_is); (case c41 => k_is); (case k41 => k_is)
    (case a42 => k_is); (case l42 => k_is); (case c42 => k_is); (case k42 => k_is)
    (case a43 => k_is); (case l43 => k_is); (case c43 => k_is); (case k43 => k_is)
    (case a44 => k_is); (case l44 => k_is); (case c44 => k_is); (case k44 => k_is)
    (case ns_NoPlace => k_is)
    (case ns_TooMany => k_is)
    (case ns_Asking => k_is)
    (case a24000 => k_is); (case i24000 => k_is); (case l24000 => k_is); (case c24000 => k_is); (case k24000 => k_is)
    (case a24001 => k_is); (case i24001 => k_is); (case l24001 => k_is); (case c24001 => k_is); (case k24001 => k_is)
    (case a24002 => k_is); (case i24002 => k_is); (case l24002 => k_is); (case c24002 => k_is); (case k24002 => k_is)
    (case xc_TooMany => k_exc)
    (case kp_TooMany => k_is)
    (case b_TooMany => k_is)
    (case t_TooMany => k_is)
    (case hg_TooMany => k_is)
    (case hk_TooMany => k_is)
    (case hd_TooMany => k_is)
    (case ha_TooMany => k_is)
    (case hm_TooMany => k_is)
    (case xc_NoPlace => k_exc)
    (case kp_NoPlace => k_is)
    (case b_NoPlace => k_is)
    (case t_NoPlace => k_is)
    (case hg_NoPlace => k_is)
    (case hk_NoPlace => k_is)
    (case hd_NoPlace => k_is)
    (case ha_NoPlace => k_is)
    (case hm_NoPlace => k_is)
    (case op_Asking => k_is)
    (case oh_Asking => k_is)
    (case oo_Asking => k_is)
    (case os_Asking => k_is)
    (case om_Asking => k_is)
    (case ok_Asking => k_is)
    (case of_Asking_fars => k_is)
    (case of_Asking_least => k_is)
    (case of_Asking_best => k_is)
    (case hn_ => k_is)
    (case ht_ => k_is)
    (case kc_MOST_PLACES_asks => k_is)
    (case kc_MOST_PLACES_webs => k_is)
    (case kc_MOST_THINGS => k_is)
    (case z_all => k_is)
    (case z_any => k_is)
    (case z_int => k_is)
    (case z_isinstance => k_is)
    (case z_len => k_is)
    (case z_list => k_is)
    (case z_max => k_is)
    (case z_min => k_is)
    (case z_range => k_is)
    (case z_sorted => k_is)
    (case z_tuple => k_is)
    (case z_zip => k_is)
#print axioms PySem.Challenge.cw_farhail_k57_whole_asks_of_known_webs_holds
