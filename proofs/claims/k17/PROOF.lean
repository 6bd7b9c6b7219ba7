import PyProof.Rows.All
import Wide.All
import OpenK.AllK
import Wide.FinOn
import HandS.ForMost
import HandS.Wide
import HandS.Walk
import HandS.Deep
import HandS.SortInts
import HandS.Flow
import HandS.IsInst
import PyProof.P3In
import HandS.TupSets
import HandS.Dict
import HandS.Conv
import HandS.SortRule
import KE.KIsAll
import HandS.Base
import HandS.Call
import HandS.Exc
import HandS.ExcOwn
import HandS.ExcIs
import HandS.ExcValue
import HandS.TryOnly
import HandS.WordsExc
import HandS.TupAny
import HandS.DictTup
import KE.KDictWalk
import HandS.List
import HandS.Words
import HandS.Ends
import HandS.Iter
import KE.SortData
import PyProof.ReprRoads
import HandS.SetFor
import HandS.Strs
import HandS.More
import KE.IntBitsLaws
import PyProof.AutoSeq1
import PySem.Challenge.RW_farhail_k17_whole_webs_numbered_otherwis
set_option Elab.async false
set_option linter.all false
set_option maxRecDepth 100000
set_option maxHeartbeats 4000000
/-! Z0: results with refusals, data as it stands in a heap, the heap in a frozen part and cells of one's own -/
namespace Z
open PySem L2
abbrev Fg := PySem.W.Frag
/-! ### results -/
structure Exn where
  cls : Str
  arg : Int
  deriving DecidableEq
inductive R (α : Type) where
  | ok (a : α)
  | exc (e : Exn)
  | bad
def R.bind {α β : Type} (m : R α) (f : α → R β) : R β :=
  match m with
  | .ok a => f a
  | .exc e => .exc e
  | .bad => .bad
instance : Monad R where
  pure := R.ok
  bind := R.bind
section
variable {α β γ : Type}
theorem ok_bind (a : α) (f : α → R β) : (R.ok a >>= f) = f a := rfl
theorem bind_bind (m : R α) (f : α → R β) (g : β → R γ) : ((m >>= f) >>= g) = (m >>= fun a => f a >>= g) := by
  cases m <;> rfl
theorem bind_ok_iff {m : R α} {f : α → R β} {b : β} : (m >>= f) = R.ok b ↔ ∃ a, m = R.ok a ∧ f a = R.ok b := by
  cases m with
  | ok a => exact ⟨fun h => ⟨a, rfl, h⟩, fun ⟨_, h1, h2⟩ => by cases h1; exact h2⟩
  | exc e => exact ⟨fun h => (nomatch (show R.exc e = R.ok b from h)), fun ⟨_, h1, _⟩ => nomatch h1⟩
  | bad => exact ⟨fun h => (nomatch (show R.bad = R.ok b from h)), fun ⟨_, h1, _⟩ => nomatch h1⟩
def grd (b : Bool) : R Unit := if b = true then .ok () else .bad
theorem grd_t {b : Bool} (h : b = true) : grd b = R.ok () := by rw [h]; rfl
def ofO (o : Option α) : R α :=
  match o with
  | some a => .ok a
  | none => .bad
/-- the item at an index of any sign -/
def getI (xs : List α) (i : Int) : R α := ofO (atI xs i)
/-- the list with another item at an index -/
def setI (xs : List α) (i : Int) (x : α) : R (List α) :=
  match ixN xs.length i with
  | some j => .ok (xs.set j x)
  | none => .bad
/-- a list of at most a thousand items grows by one -/
def app (xs : List α) (x : α) : R (List α) := if xs.length < 100000 then .ok (xs ++ [x]) else .bad
def extend (xs ys : List α) : R (List α) := if xs.length + ys.length < 100000 then .ok (xs ++ ys) else .bad
@[irreducible] def mulI (i j : Int) : R Int := if (-(2 ^ 64) < i ∧ i < 2 ^ 64) ∨ (-(2 ^ 64) < j ∧ j < 2 ^ 64) then .ok (i * j) else .bad
@[irreducible] def modI (i j : Int) : R Int := if 0 < j then .ok (i % j) else .bad
@[irreducible] def divI (i j : Int) : R Int := if 0 < j ∧ j.natAbs.log2 < 9000 then .ok (i / j) else .bad
/-- the ints from i on below j -/
def rng (i j : Int) : List Int := (List.range (j - i).toNat).map fun (k : Nat) => i + (k : Int)
@[irreducible] def rngI (i j : Int) : R (List Int) := if -(2 ^ 62) ≤ i ∧ i < 2 ^ 62 ∧ -(2 ^ 62) ≤ j ∧ j < 2 ^ 62 then .ok (rng i j) else .bad
/-- items for items -/
def mapR (f : α → R β) : List α → R (List β)
  | [] => .ok []
  | x :: xs => do
    let y ← f x
    let ys ← mapR f xs
    pure (y :: ys)
/-- a fold whose turn may leave -/
def foldR (f : β → α → R β) : β → List α → R β
  | s, [] => .ok s
  | s, x :: xs => f s x >>= fun s' => foldR f s' xs
/-- a fold whose turn may end the whole with a value (inl), or the loop alone (inr inl) -/
def foldX {ρ : Type} (f : β → α → R (Sum ρ (Bool × β))) : β → List α → R (Sum ρ β)
  | s, [] => .ok (.inr s)
  | s, x :: xs => f s x >>= fun r =>
    match r with
    | .inl z => .ok (.inl z)
    | .inr (true, s') => foldX f s' xs
    | .inr (false, s') => .ok (.inr s')
/-- what holds of a result -/
def Post (m : R α) (P : α → Prop) (E : Exn → Prop) : Prop :=
  match m with
  | .ok a => P a
  | .exc e => E e
  | .bad => False
variable {P P' : α → Prop} {Q : β → Prop} {E E' : Exn → Prop}
theorem Post.mono {m : R α} (h : Post m P E) (hP : ∀ a, P a → P' a) (hE : ∀ e, E e → E' e) : Post m P' E' := by
  cases m with
  | ok a => exact hP a h
  | exc e => exact hE e h
  | bad => exact h
theorem post_bind {m : R α} {f : α → R β} (h : Post (m >>= f) Q E) : Post m (fun a => Post (f a) Q E) E := by
  cases m <;> exact h
theorem post_ok {a : α} (h : Post (R.ok a) P E) : P a := h
theorem pb_assoc {m : R α} {f : α → R β} {g : β → R γ} {Q : γ → Prop} (h : Post ((m >>= f) >>= g) Q E) : Post (m >>= fun a => f a >>= g) Q E := by
  rw [bind_bind] at h
  exact h
theorem pb_grd {b : Bool} {f : Unit → R β} (h : Post (grd b >>= f) Q E) : b = true ∧ Post (f ()) Q E := by
  cases b with
  | true => exact ⟨rfl, h⟩
  | false => exact (show False from h).elim
theorem pb_ofO {o : Option α} {f : α → R β} (h : Post (ofO o >>= f) Q E) : ∃ a, o = some a ∧ Post (f a) Q E := by
  cases o with
  | some a => exact ⟨a, rfl, h⟩
  | none => exact (show False from h).elim
theorem pb_get {xs : List α} {i : Int} {f : α → R β} (h : Post (getI xs i >>= f) Q E) : ∃ a, atI xs i = some a ∧ Post (f a) Q E := pb_ofO h
theorem pb_set {xs : List α} {i : Int} {x : α} {f : List α → R β} (h : Post (setI xs i x >>= f) Q E) : ∃ j, ixN xs.length i = some j ∧ Post (f (xs.set j x)) Q E := by
  unfold setI at h
  cases e : ixN xs.length i with
  | some j => rw [e] at h; exact ⟨j, rfl, h⟩
  | none => rw [e] at h; exact (show False from h).elim
theorem pb_if {c : Prop} [Decidable c] {a : α} {f : α → R β} (h : Post ((if c then R.ok a else R.bad) >>= f) Q E) : c ∧ Post (f a) Q E := by
  by_cases hc : c
  · rw [if_pos hc] at h
    exact ⟨hc, h⟩
  · rw [if_neg hc] at h
    exact (show False from h).elim
theorem line5 : 100000 ≤ sizeLine := by decide
theorem pb_app {xs : List α} {x : α} {f : List α → R β} (h : Post (app xs x >>= f) Q E) : xs.length < sizeLine ∧ Post (f (xs ++ [x])) Q E :=
  let ⟨a, b⟩ := pb_if h
  ⟨Nat.lt_of_lt_of_le a line5, b⟩
theorem pb_extend {xs ys : List α} {f : List α → R β} (h : Post (extend xs ys >>= f) Q E) : xs.length + ys.length ≤ sizeLine ∧ Post (f (xs ++ ys)) Q E :=
  let ⟨a, b⟩ := pb_if h
  ⟨Nat.le_of_lt (Nat.lt_of_lt_of_le a line5), b⟩
theorem pb_mul {i j : Int} {f : Int → R β} (h : Post (mulI i j >>= f) Q E) : CMul i j ∧ Post (f (i * j)) Q E := by
  unfold mulI at h
  exact let ⟨a, b⟩ := pb_if (c := (-(2 ^ 64) < i ∧ i < 2 ^ 64) ∨ (-(2 ^ 64) < j ∧ j < 2 ^ 64)) h
  ⟨a, b⟩
theorem pb_mod {i j : Int} {f : Int → R β} (h : Post (modI i j >>= f) Q E) : 0 < j ∧ Post (f (i % j)) Q E := by
  unfold modI at h
  exact pb_if h
theorem pb_div {i j : Int} {f : Int → R β} (h : Post (divI i j >>= f) Q E) : CDivW i j ∧ Post (f (i / j)) Q E := by
  unfold divI at h
  exact let ⟨a, b⟩ := pb_if (c := 0 < j ∧ j.natAbs.log2 < 9000) h
  ⟨a, b⟩
theorem pb_rng {i j : Int} {f : List Int → R β} (h : Post (rngI i j >>= f) Q E) : (-(2 ^ 62) ≤ i ∧ i < 2 ^ 62 ∧ -(2 ^ 62) ≤ j ∧ j < 2 ^ 62) ∧ Post (f (rng i j)) Q E := by
  unfold rngI at h
  exact pb_if h
theorem post_ite {c : Bool} {m n : R α} {A B : Prop} (h : Post (if c = true then m else n) P E) (ht : c = true → Post m P E → A) (hf : c = false → Post n P E → B) : if c = true then A else B := by
  cases c with
  | true => exact ht rfl h
  | false => exact hf rfl h
theorem pb_foldR {f : γ → α → R γ} {s : γ} {x : α} {xs : List α} {g : γ → R β} (h : Post (foldR f s (x :: xs) >>= g) Q E) : Post (f s x >>= fun s' => foldR f s' xs >>= g) Q E := by
  have h' : Post ((f s x >>= fun s' => foldR f s' xs) >>= g) Q E := h
  rw [bind_bind] at h'
  exact h'
end
/-! ### lists of values and what they stand for -/
inductive A2 {α : Type} (r : V → α → Prop) : List V → List α → Prop
  | nil : A2 r [] []
  | cons {v : V} {x : α} {vs : List V} {xs : List α} : r v x → A2 r vs xs → A2 r (v :: vs) (x :: xs)
section
variable {α : Type} {r r' : V → α → Prop} {vs us : List V} {xs ys : List α} {v : V} {x : α}
theorem A2.length : ∀ {vs : List V} {xs : List α}, A2 r vs xs → vs.length = xs.length
  | _, _, .nil => rfl
  | _, _, .cons _ t => by rw [List.length_cons, List.length_cons, A2.length t]
theorem A2.imp (f : ∀ v x, r v x → r' v x) : ∀ {vs : List V} {xs : List α}, A2 r vs xs → A2 r' vs xs
  | _, _, .nil => .nil
  | _, _, .cons h t => .cons (f _ _ h) (A2.imp f t)
theorem A2.append : ∀ {vs us : List V} {xs ys : List α}, A2 r vs xs → A2 r us ys → A2 r (vs ++ us) (xs ++ ys)
  | _, _, _, _, .nil, h => h
  | _, _, _, _, .cons a t, h => .cons a (A2.append t h)
theorem A2.snoc (h : A2 r vs xs) (a : r v x) : A2 r (vs ++ [v]) (xs ++ [x]) := h.append (.cons a .nil)
theorem A2.get : ∀ {vs : List V} {xs : List α} {i : Nat} {x : α}, A2 r vs xs → xs[i]? = some x → ∃ v, vs[i]? = some v ∧ r v x
  | _, _, _, _, .nil, e => by simp at e
  | _, _, 0, _, .cons a _, e => by simp at e; subst e; exact ⟨_, rfl, a⟩
  | _, _, i + 1, x, .cons _ t, e => by
    obtain ⟨v, h1, h2⟩ := A2.get (i := i) (x := x) t (by simpa using e)
    exact ⟨v, by simpa using h1, h2⟩
theorem A2.getV : ∀ {vs : List V} {xs : List α} {i : Nat} {v : V}, A2 r vs xs → vs[i]? = some v → ∃ x, xs[i]? = some x ∧ r v x
  | _, _, _, _, .nil, e => by simp at e
  | _, _, 0, _, .cons a _, e => by simp at e; subst e; exact ⟨_, rfl, a⟩
  | _, _, i + 1, x, .cons _ t, e => by
    obtain ⟨v, h1, h2⟩ := A2.getV (i := i) (v := x) t (by simpa using e)
    exact ⟨v, by simpa using h1, h2⟩
theorem A2.at {i : Int} (h : A2 r vs xs) (e : atI xs i = some x) : ∃ v, atI vs i = some v ∧ r v x := by
  unfold atI at e ⊢
  rw [h.length]
  cases q : ixN xs.length i with
  | none => rw [q] at e; cases e
  | some j =>
    rw [q] at e
    exact h.get e
theorem A2.set (a : r v x) : ∀ {vs : List V} {xs : List α} (i : Nat), A2 r vs xs → A2 r (vs.set i v) (xs.set i x)
  | _, _, _, .nil => .nil
  | _, _, 0, .cons _ t => .cons a t
  | _, _, i + 1, .cons q t => .cons q (A2.set a i t)
theorem A2.take : ∀ {vs : List V} {xs : List α} (n : Nat), A2 r vs xs → A2 r (vs.take n) (xs.take n)
  | _, _, 0, _ => .nil
  | _, _, _ + 1, .nil => .nil
  | _, _, n + 1, .cons a t => .cons a (A2.take n t)
theorem A2.drop : ∀ {vs : List V} {xs : List α} (n : Nat), A2 r vs xs → A2 r (vs.drop n) (xs.drop n)
  | _, _, 0, h => h
  | _, _, _ + 1, .nil => .nil
  | _, _, n + 1, .cons _ t => A2.drop n t
theorem A2.reverse : ∀ {vs : List V} {xs : List α}, A2 r vs xs → A2 r vs.reverse xs.reverse
  | _, _, .nil => .nil
  | _, _, .cons a t => by
    rw [List.reverse_cons, List.reverse_cons]
    exact (A2.reverse t).snoc a
theorem A2.eraseIdx : ∀ {vs : List V} {xs : List α} (i : Nat), A2 r vs xs → A2 r (vs.eraseIdx i) (xs.eraseIdx i)
  | _, _, _, .nil => .nil
  | _, _, 0, .cons _ t => t
  | _, _, i + 1, .cons a t => .cons a (A2.eraseIdx i t)
theorem A2.dropLast : ∀ {vs : List V} {xs : List α}, A2 r vs xs → A2 r vs.dropLast xs.dropLast
  | _, _, .nil => .nil
  | _, _, .cons _ .nil => .nil
  | _, _, .cons a (.cons b t) => .cons a (A2.dropLast (.cons b t))
end
/-! ### data in a heap -/
class Rep (α : Type) where
  rep : Fg → Hp → V → α → Prop
  mono : ∀ {K : Fg} {H H' : Hp} {v : V} {x : α}, Same H H' → rep K H v x → rep K H' v x
open Rep (rep)
section
variable {α β : Type} [Rep α] [Rep β] {K : Fg} {H H' : Hp} {v : V}
theorem A2.mono {vs : List V} {xs : List α} (s : Same H H') (h : A2 (rep K H) vs xs) : A2 (rep K H') vs xs := h.imp fun _ _ => Rep.mono s
instance : Rep Int := ⟨fun _ _ v x => v = .int x, fun _ h => h⟩
instance : Rep Bool := ⟨fun _ _ v x => v = .bl x, fun _ h => h⟩
instance : Rep Unit := ⟨fun _ _ v _ => v = .non, fun _ h => h⟩
instance : Rep Str := ⟨fun _ _ v x => v = .str x, fun _ h => h⟩
instance repOpt : Rep (Option α) := ⟨fun K H v x => match x with
  | none => v = .non
  | some y => rep K H v y, fun {_ _ _ _ x} s h => by
    cases x with
    | none => exact h
    | some y => exact Rep.mono (α := α) s h⟩
instance repPair : Rep (α × β) := ⟨fun K H v x => ∃ a u w, v = .ref a ∧ H a = some (.tup [u, w]) ∧ rep K H u x.1 ∧ rep K H w x.2,
  fun s ⟨a, u, w, e, q, h1, h2⟩ => ⟨a, u, w, e, s _ _ q, Rep.mono s h1, Rep.mono s h2⟩⟩
instance repList : Rep (List α) := ⟨fun K H v xs => ∃ a vs, v = .ref a ∧ H a = some (.lst vs) ∧ A2 (rep K H) vs xs,
  fun s ⟨a, vs, e, q, h⟩ => ⟨a, vs, e, s _ _ q, h.mono s⟩⟩
/-- the script -/
structure Scr where
  l : List Int
  deriving DecidableEq
instance repScr : Rep Scr := ⟨fun K H v xs => ∃ a, v = .ref a ∧ SqL K H a (xs.l.map V.int), fun s ⟨a, e, q⟩ => ⟨a, e, s.seq q⟩⟩
/-- a tuple of any number of like things -/
structure Tup (α : Type) where
  l : List α
  deriving DecidableEq
instance repTup : Rep (Tup α) := ⟨fun K H v xs => ∃ a vs, v = .ref a ∧ H a = some (.tup vs) ∧ A2 (rep K H) vs xs.l,
  fun s ⟨a, vs, e, q, h⟩ => ⟨a, vs, e, s _ _ q, h.mono s⟩⟩
/-- a place, or a pair -/
inductive Thing where
  | pl (i : Int)
  | ti (a b : Int)
  deriving DecidableEq
instance repThing : Rep Thing := ⟨fun K H v x => match x with
  | .pl i => v = .int i
  | .ti a b => rep K H v (a, b), fun {_ _ _ _ x} s h => by
    cases x with
    | pl i => exact h
    | ti a b => exact Rep.mono (α := Int × Int) s h⟩
theorem A2.ints {vs : List V} {xs : List Int} (h : A2 (rep K H) vs xs) : vs = xs.map V.int := by
  induction h with
  | nil => rfl
  | cons a _ ih =>
    have a' : _ = V.int _ := a
    rw [a', ih]
    rfl
theorem A2.of_ints {xs : List Int} : A2 (rep K H) (xs.map V.int) xs := by
  induction xs with
  | nil => exact .nil
  | cons x xs ih => exact .cons rfl ih
theorem A2.bools {vs : List V} {xs : List Bool} (h : A2 (rep K H) vs xs) : vs = xs.map V.bl := by
  induction h with
  | nil => rfl
  | cons a _ ih =>
    have a' : _ = V.bl _ := a
    rw [a', ih]
    rfl
end
/-! ### the heap: F, frozen, is read alone; the cells os are one's own, not in F -/
structure W (F H : Hp) (os : List (Addr × HO)) : Prop where
  same : Same F H
  own : ∀ p ∈ os, H p.1 = some p.2 ∧ F p.1 = none
  nd : os.Pairwise fun p q => p.1 ≠ q.1
  nt : ∀ p ∈ os, ∀ vs, p.2 ≠ .tup vs
theorem same_new {H : Hp} {p : Addr} {o : HO} (h : H p = none) : Same H (upd H p o) := fun a u e => by
  rw [upd_ne (ne_of_none e h)]
  exact e
section
variable {F H : Hp} {os pre post : List (Addr × HO)} {a p : Addr} {o o' : HO}
theorem W.free (w : W F H os) (n : H p = none) : F p = none := w.same.free n
theorem W.get (w : W F H (pre ++ (a, o) :: post)) : H a = some o := (w.own (a, o) (List.mem_append_right _ List.mem_cons_self)).1
theorem W.no (w : W F H (pre ++ (a, o) :: post)) : F a = none := (w.own (a, o) (List.mem_append_right _ List.mem_cons_self)).2
theorem W.ne (w : W F H os) (n : H p = none) : ∀ q ∈ os, q.1 ≠ p := fun q hq e => by
  have h := (w.own q hq).1
  rw [e, n] at h
  cases h
/-- a new thing, never to be written -/
theorem W.frz (w : W F H os) (n : H p = none) : W (upd F p o) (upd H p o) os where
  same := fun b u e => by
    by_cases hb : b = p
    · subst hb
      rw [upd_same] at e ⊢
      exact e
    · rw [upd_ne hb] at e ⊢
      exact w.same b u e
  own := fun q hq => by
    have hne := w.ne n q hq
    rw [upd_ne hne, upd_ne hne]
    exact w.own q hq
  nd := w.nd
  nt := w.nt
theorem W.frzS (w : W F H os) (n : H p = none) : Same F (upd F p o) := same_new (w.free n)
/-- a new cell of one's own -/
theorem W.new (w : W F H os) (n : H p = none) (ho : ∀ vs, o ≠ .tup vs := by exact fun _ h => nomatch h) : W F (upd H p o) ((p, o) :: os) where
  same := w.same.trans (same_new n)
  own := fun q hq => by
    rcases List.mem_cons.mp hq with rfl | hq
    · exact ⟨upd_same, w.free n⟩
    · rw [upd_ne (w.ne n q hq)]
      exact w.own q hq
  nd := List.pairwise_cons.mpr ⟨fun q hq => fun e => w.ne n q hq e.symm, w.nd⟩
  nt := fun q hq => by
    rcases List.mem_cons.mp hq with rfl | hq
    · exact ho
    · exact w.nt q hq
/-- a cell of one's own is written -/
theorem W.set (w : W F H (pre ++ (a, o) :: post)) (ho : ∀ vs, o' ≠ .tup vs := by exact fun _ h => nomatch h) : W F (upd H a o') (pre ++ (a, o') :: post) where
  same := fun b u e => by
    have hn := w.no
    rw [upd_ne (ne_of_none e hn)]
    exact w.same b u e
  own := fun q hq => by
    have nd := w.nd
    rw [List.pairwise_append] at nd
    obtain ⟨_, n2, n3⟩ := nd
    rw [List.pairwise_cons] at n2
    rcases List.mem_append.mp hq with hq | hq
    · have hne : q.1 ≠ a := n3 q hq (a, o) List.mem_cons_self
      rw [upd_ne hne]
      exact w.own q (List.mem_append_left _ hq)
    · rcases List.mem_cons.mp hq with rfl | hq
      · exact ⟨upd_same, w.no⟩
      · have hne : q.1 ≠ a := fun e => n2.1 q hq e.symm
        rw [upd_ne hne]
        exact w.own q (List.mem_append_right _ (List.mem_cons_of_mem _ hq))
  nd := by
    have nd := w.nd
    rw [List.pairwise_append] at nd ⊢
    obtain ⟨n1, n2, n3⟩ := nd
    rw [List.pairwise_cons] at n2 ⊢
    refine ⟨n1, ⟨n2.1, n2.2⟩, fun x hx y hy => ?_⟩
    rcases List.mem_cons.mp hy with rfl | hy
    · exact n3 x hx (a, o) List.mem_cons_self
    · exact n3 x hx y (List.mem_cons_of_mem _ hy)
  nt := fun q hq => by
    rcases List.mem_append.mp hq with hq | hq
    · exact w.nt q (List.mem_append_left _ hq)
    · rcases List.mem_cons.mp hq with rfl | hq
      · exact ho
      · exact w.nt q (List.mem_append_right _ (List.mem_cons_of_mem _ hq))
/-- a cell is forgotten -/
theorem W.drop (w : W F H (pre ++ (a, o) :: post)) : W F H (pre ++ post) where
  same := w.same
  own := fun q hq => w.own q (by
    rcases List.mem_append.mp hq with h | h
    · exact List.mem_append_left _ h
    · exact List.mem_append_right _ (List.mem_cons_of_mem _ h))
  nd := by
    have nd := w.nd
    rw [List.pairwise_append] at nd ⊢
    obtain ⟨n1, n2, n3⟩ := nd
    rw [List.pairwise_cons] at n2
    exact ⟨n1, n2.2, fun x hx y hy => n3 x hx y (List.mem_cons_of_mem _ hy)⟩
  nt := fun q hq => w.nt q (by
    rcases List.mem_append.mp hq with h | h
    · exact List.mem_append_left _ h
    · exact List.mem_append_right _ (List.mem_cons_of_mem _ h))
/-- a cell of one's own is never written again -/
theorem W.freeze (w : W F H (pre ++ (a, o) :: post)) : W (upd F a o) H (pre ++ post) where
  same := fun b u e => by
    by_cases hb : b = a
    · subst hb
      rw [upd_same] at e
      rw [← e]
      exact w.get
    · rw [upd_ne hb] at e
      exact w.same b u e
  own := fun q hq => by
    have nd := w.nd
    rw [List.pairwise_append] at nd
    obtain ⟨n1, n2, n3⟩ := nd
    rw [List.pairwise_cons] at n2
    have hne : q.1 ≠ a := by
      rcases List.mem_append.mp hq with h | h
      · exact n3 q h (a, o) List.mem_cons_self
      · exact fun e => n2.1 q h e.symm
    have h := w.drop.own q hq
    rw [upd_ne hne]
    exact h
  nd := w.drop.nd
  nt := w.drop.nt
theorem W.freezeS (w : W F H (pre ++ (a, o) :: post)) : Same F (upd F a o) := same_new w.no
/-- a cell is told first -/
theorem W.front (w : W F H (pre ++ (a, o) :: post)) : W F H ((a, o) :: (pre ++ post)) where
  same := w.same
  own := fun x hx => w.own x (by
    rcases List.mem_cons.mp hx with rfl | h
    · exact List.mem_append_right _ List.mem_cons_self
    · rcases List.mem_append.mp h with h | h
      · exact List.mem_append_left _ h
      · exact List.mem_append_right _ (List.mem_cons_of_mem _ h))
  nd := by
    have nd := w.nd
    have nd' := w.drop.nd
    rw [List.pairwise_append] at nd
    obtain ⟨n1, n2, n3⟩ := nd
    rw [List.pairwise_cons] at n2
    refine List.pairwise_cons.mpr ⟨fun x hx => ?_, nd'⟩
    rcases List.mem_append.mp hx with h | h
    · exact fun e => n3 x h (a, o) List.mem_cons_self e.symm
    · exact n2.1 x h
  nt := fun x hx => w.nt x (by
    rcases List.mem_cons.mp hx with rfl | h
    · exact List.mem_append_right _ List.mem_cons_self
    · rcases List.mem_append.mp h with h | h
      · exact List.mem_append_left _ h
      · exact List.mem_append_right _ (List.mem_cons_of_mem _ h))
end
/-! ### what a call hands back -/
section
variable {α β : Type} [Rep α] [Rep β]
/-- a value of the frozen part -/
def Ret (K : Fg) (F : Hp) (os : List (Addr × HO)) (Q : VK) (y : α) : Prop := ∀ v F' H', W F' H' os → Same F F' → rep K F' v y → Q v H'
/-- a new list, the caller's own -/
def RetL (K : Fg) (F : Hp) (os : List (Addr × HO)) (Q : VK) (ys : List α) : Prop := ∀ p vs F' H', W F' H' ((p, .lst vs) :: os) → Same F F' → A2 (rep K F') vs ys → Q (.ref p) H'
/-- a value, and what the list at a holds now -/
def RetM (K : Fg) (F : Hp) (a : Addr) (os : List (Addr × HO)) (Q : VK) (y : α × List β) : Prop :=
  ∀ v vs F' H', W F' H' ((a, .lst vs) :: os) → Same F F' → rep K F' v y.1 → A2 (rep K F') vs y.2 → Q v H'
/-- a new list, the caller's own, and what the list at a holds now -/
def RetLM (K : Fg) (F : Hp) (a : Addr) (os : List (Addr × HO)) (Q : VK) (y : List α × List β) : Prop :=
  ∀ p us vs F' H', W F' H' ((p, .lst us) :: (a, .lst vs) :: os) → Same F F' → A2 (rep K F') us y.1 → A2 (rep K F') vs y.2 → Q (.ref p) H'
def noX : Exn → Prop := fun _ => False
end
end Z
/-! Z1: loops, comprehensions and joins against their mirrors; calls by typed data -/
namespace Z
open PySem L2
open Rep (rep)
/-! ### ways that join -/
section
variable {γ δ : Type} {m : R γ} {k : γ → R δ} {P : δ → Prop} {X : Exn → Prop}
theorem joinS {t u : TS} {D : Ends} {σ : St} {H : Hp} (hm : Post (m >>= k) P X) (J : γ → St → Hp → Prop)
    (h : ∀ (N : St → Hp → Prop) (P' : γ → Prop), (∀ g, P' g → ∀ σ' H', J g σ' H' → N σ' H') → Post m P' X → t { D with nx := N } σ H)
    (h2 : ∀ g σ' H', J g σ' H' → Post (k g) P X → u D σ' H') : tSeq t u D σ H :=
  h _ _ (fun g p σ' H' j => h2 g σ' H' j p) (post_bind hm)
theorem joinT {t : TT} {σ : St} {H : Hp} {Q : Bool → Hp → Prop} (hm : Post (m >>= k) P X) (J : γ → Bool → Hp → Prop)
    (h : ∀ (Q' : Bool → Hp → Prop) (P' : γ → Prop), (∀ g, P' g → ∀ c H', J g c H' → Q' c H') → Post m P' X → t σ H Q')
    (h2 : ∀ g c H', J g c H' → Post (k g) P X → Q c H') : t σ H Q :=
  h _ _ (fun g p c H' j => h2 g c H' j p) (post_bind hm)
/-- a test of a value that is told -/
theorem cutT {t : TT} {σ : St} {H : Hp} {Q : Bool → Hp → Prop} (J : Bool → Hp → Prop) (h : ∀ Q' : Bool → Hp → Prop, (∀ c H', J c H' → Q' c H') → t σ H Q') (h2 : ∀ c H', J c H' → Q c H') : t σ H Q := h _ h2
theorem ifB {c : Bool} {A B : Prop} (h1 : c = true → A) (h2 : c = false → B) : if c = true then A else B := by
  cases c with
  | true => exact h1 rfl
  | false => exact h2 rfl
end
/-! ### what is walked, typed -/
structure TW (J : It) {β : Type} (items : List β) (G : Hp → Prop) (Y : β → Hp → V → Hp → Prop) : Prop where
  walk : Walk J items.length G (fun i H x H' => ∃ b, items[i]? = some b ∧ Y b H x H')
section
variable {K : Fg} {F : Hp} {a : Addr} {α β : Type} [Rep α] [Rep β] {vs us : List V} {xs : List α} {ys : List β}
theorem tw_list (h : A2 (rep K F) vs xs) : TW (Itl K a) xs (fun H => SqL K H a vs) (fun b H x H' => H' = H ∧ rep K F x b) := ⟨by
  rw [← h.length]
  exact walk_list.mono (fun _ g => g) fun i H x H' _ _ y => by
    obtain ⟨y1, y2⟩ := y
    obtain ⟨b, h1, h2⟩ := h.getV y2
    exact ⟨b, h1, y1, h2⟩⟩
theorem tw_tup (h : A2 (rep K F) vs xs) : TW (Itt K a) xs (fun H => SqT K H a vs) (fun b H x H' => H' = H ∧ rep K F x b) := ⟨by
  rw [← h.length]
  exact walk_tup.mono (fun _ g => g) fun i H x H' _ _ y => by
    obtain ⟨y1, y2⟩ := y
    obtain ⟨b, h1, h2⟩ := h.getV y2
    exact ⟨b, h1, y1, h2⟩⟩
theorem rng_length (i j : Int) : (rng i j).length = (j - i).toNat := by
  unfold rng
  rw [List.length_map, List.length_range]
theorem rng_get {i j : Int} {n : Nat} (h : n < (j - i).toNat) : (rng i j)[n]? = some (i + (n : Int)) := by
  unfold rng
  rw [List.getElem?_map, List.getElem?_range h]
  rfl
theorem tw_rng {i j : Int} : TW (Itr i (j - i).toNat) (rng i j) (fun _ => True) (fun b H x H' => H' = H ∧ x = .int b) := ⟨by
  rw [rng_length]
  exact walk_range.mono (fun _ g => g) fun n H x H' hn _ y => ⟨_, rng_get hn, y.1, y.2⟩⟩
theorem tw_rng0 {j : Int} : TW (Itr 0 j.toNat) (rng 0 j) (fun _ => True) (fun b H x H' => H' = H ∧ x = .int b) := by
  have h := tw_rng (i := 0) (j := j)
  rw [Int.sub_zero] at h
  exact h
/-- pairs of a place and the item there -/
def enum (xs : List α) : List (Int × α) := (rng 0 xs.length).zip xs
theorem enum_length (xs : List α) : (enum xs).length = xs.length := by
  unfold enum
  rw [List.length_zip, rng_length]
  omega
theorem enum_get {xs : List α} {i : Nat} {x : α} (h : xs[i]? = some x) : (enum xs)[i]? = some ((i : Int), x) := by
  have hl := (List.getElem?_eq_some_iff.mp h).1
  unfold enum
  rw [List.getElem?_zip_eq_some]
  refine ⟨?_, h⟩
  rw [rng_get (by omega)]
  simp
theorem tw_enum (h : A2 (rep K F) vs xs) : TW (Ite K a) (enum xs) (fun H => SqL K H a vs) (fun b H v H' => ∃ T x, v = .ref T ∧ H T = none ∧ H' = upd H T (.tup [.int b.1, x]) ∧ rep K F x b.2) := ⟨by
  rw [enum_length, ← h.length]
  exact walk_enum.mono (fun _ g => g) fun i H x H' _ _ y => by
    obtain ⟨T, u, w, e1, e2, e3, e4, e5⟩ := y
    obtain ⟨b, h1, h2⟩ := h.getV e5
    cases e4
    exact ⟨((i : Int), b), enum_get h1, T, w, e1, e2, e3, h2⟩⟩
end
/-! ### for -/
section
variable {J : It} {β γ δ ρ : Type} {items : List β} {G : Hp → Prop} {Y : β → Hp → V → Hp → Prop} {g : TG} {tb : TS} {D : Ends} {σ : St} {H : Hp} {P : δ → Prop} {X : Exn → Prop}
theorem drop_cons {l : List β} {i : Nat} {b : β} (h : l[i]? = some b) : l.drop i = b :: l.drop (i + 1) := by
  obtain ⟨hl, e⟩ := List.getElem?_eq_some_iff.mp h
  rw [List.drop_eq_getElem_cons hl, e]
theorem forS (tw : TW J items G Y) {body : γ → β → R γ} {s0 : γ} {k : γ → R δ} (hm : Post (foldR body s0 items >>= k) P X) (I : γ → St → Hp → Prop) (h0 : I s0 σ H) (hG : ∀ c σ H, I c σ H → G H)
    (hs : ∀ (b : β) (c : γ) (x : V) (σ : St) (H H' : Hp) (N : St → Hp → Prop) (P' : γ → Prop), I c σ H → Y b H x H' → (∀ c', P' c' → ∀ σ' H', I c' σ' H' → N σ' H') → Post (body c b) P' X → g x σ H' fun σ2 H2 => tb { D with nx := N, ct := N, bk := D.nx } σ2 H2)
    (hd : ∀ c σ H, I c σ H → Post (k c) P X → D.nx σ H) :
    ∃ W : Nat → Nat → St → Hp → Prop, (∃ m, W 0 m σ H) ∧ ∀ i m σ H, W i m σ H →
      (J.stop i H ∧ D.nx σ H) ∨ (J.go i H ∧ ∃ N : St → Hp → Prop, (∀ σ' H', N σ' H' → ∃ m', m' < m ∧ W (i + 1) m' σ' H') ∧ ∀ x H', J.yld i H x H' → g x σ H' fun σ2 H2 => tb { D with nx := N, ct := N, bk := D.nx } σ2 H2) := by
  refine for_it tw.walk (fun i σ H => ∃ c, I c σ H ∧ Post (foldR body c (items.drop i) >>= k) P X) ⟨s0, h0, hm⟩ (fun i σ H _ ⟨c, h, _⟩ => hG c σ H h) ?_ ?_
  · rintro i x σ H H' hi ⟨c, h, hm⟩ ⟨b, hb, y⟩
    rw [drop_cons hb] at hm
    exact hs b c x σ H H' _ _ h y (fun c' p' σ' H' h' => ⟨c', h', p'⟩) (post_bind (pb_foldR hm))
  · rintro σ H ⟨c, h, hm⟩
    rw [List.drop_length] at hm
    exact hd c σ H h hm
/-- a for that may end the whole, or itself -/
theorem forX (tw : TW J items G Y) {body : γ → β → R (Sum ρ (Bool × γ))} {s0 : γ} {k : Sum ρ γ → R δ} (hm : Post (foldX body s0 items >>= k) P X) (I : γ → St → Hp → Prop) (h0 : I s0 σ H) (hG : ∀ c σ H, I c σ H → G H)
    (hs : ∀ (b : β) (c : γ) (x : V) (σ : St) (H H' : Hp) (N B : St → Hp → Prop) (P' : Sum ρ (Bool × γ) → Prop), I c σ H → Y b H x H' → (∀ c', P' (.inr (true, c')) → ∀ σ' H', I c' σ' H' → N σ' H') → (∀ c', P' (.inr (false, c')) → ∀ σ' H', I c' σ' H' → B σ' H') →
      (∀ z, P' (.inl z) → Post (k (.inl z)) P X) → Post (body c b) P' X → g x σ H' fun σ2 H2 => tb { D with nx := N, ct := N, bk := B } σ2 H2)
    (hd : ∀ c σ H, I c σ H → Post (k (.inr c)) P X → D.nx σ H) :
    ∃ W : Nat → Nat → St → Hp → Prop, (∃ m, W 0 m σ H) ∧ ∀ i m σ H, W i m σ H →
      (J.stop i H ∧ D.nx σ H) ∨ (J.go i H ∧ ∃ N : St → Hp → Prop, (∀ σ' H', N σ' H' → ∃ m', m' < m ∧ W (i + 1) m' σ' H') ∧ ∀ x H', J.yld i H x H' → g x σ H' fun σ2 H2 => tb { D with nx := N, ct := N, bk := D.nx } σ2 H2) := by
  refine for_it tw.walk (fun i σ H => ∃ c, I c σ H ∧ Post (foldX body c (items.drop i) >>= k) P X) ⟨s0, h0, hm⟩ (fun i σ H _ ⟨c, h, _⟩ => hG c σ H h) ?_ ?_
  · rintro i x σ H H' hi ⟨c, h, hm⟩ ⟨b, hb, y⟩
    rw [drop_cons hb] at hm
    have hm' : Post ((body c b >>= fun r => match r with
      | .inl z => (R.ok (.inl z) : R (Sum ρ γ))
      | .inr (true, s') => foldX body s' (items.drop (i + 1))
      | .inr (false, s') => R.ok (.inr s')) >>= k) P X := hm
    rw [bind_bind] at hm'
    exact hs b c x σ H H' _ _ _ h y (fun c' p' σ' H' h' => ⟨c', h', p'⟩) (fun c' p' σ' H' h' => hd c' σ' H' h' p') (fun z p' => p') (post_bind hm')
  · rintro σ H ⟨c, h, hm⟩
    rw [List.drop_length] at hm
    exact hd c σ H h hm
end
/-! ### comprehensions -/
/-- items for items, of a list that is not too long -/
def mapG {α β : Type} (f : α → R β) (xs : List α) : R (List β) := grd (decide (xs.length < 100000)) >>= fun _ => mapR f xs
/-- items for some items -/
def filR {α β : Type} (f : α → R (Option β)) : List α → R (List β)
  | [] => .ok []
  | x :: xs => f x >>= fun o => filR f xs >>= fun ys => match o with
    | some y => .ok (y :: ys)
    | none => .ok ys
def filG {α β : Type} (f : α → R (Option β)) (xs : List α) : R (List β) := grd (decide (xs.length < 100000)) >>= fun _ => filR f xs
/-- items for items, by a state that turns -/
def mapSt {α β γ : Type} (f : γ → α → R (β × γ)) : γ → List α → R (List β × γ)
  | s, [] => .ok ([], s)
  | s, x :: xs => f s x >>= fun p => mapSt f p.2 xs >>= fun q => .ok (p.1 :: q.1, q.2)
def mapStG {α β γ : Type} (f : γ → α → R (β × γ)) (s : γ) (xs : List α) : R (List β × γ) := grd (decide (xs.length < 100000)) >>= fun _ => mapSt f s xs
/-- items for some items, by a state that turns -/
def filSt {α β γ : Type} (f : γ → α → R (Option β × γ)) : γ → List α → R (List β × γ)
  | s, [] => .ok ([], s)
  | s, x :: xs => f s x >>= fun p => filSt f p.2 xs >>= fun q => match p.1 with
    | some y => .ok (y :: q.1, q.2)
    | none => .ok q
def filStG {α β γ : Type} (f : γ → α → R (Option β × γ)) (s : γ) (xs : List α) : R (List β × γ) := grd (decide (xs.length < 100000)) >>= fun _ => filSt f s xs
section
variable {J : It} {β γ δ ε : Type} {items : List β} {G : Hp → Prop} {Y : β → Hp → V → Hp → Prop} {g : TG} {tt : TT} {te : TE} {P : ε → Prop} {X : Exn → Prop} {K : Fg} {vs : List Nat} {σ : St} {F H1 : Hp} {os : List (Addr × HO)} {D : Addr} {Qd : Hp → Prop}
/-- what is asked of a comprehension's list D behind its walk J: by the readings' own words -/
abbrev LcAsk (J : It) (g : TG) (tt : TT) (te : TE) (vs : List Nat) (σ : St) (H1 : Hp) (D : Addr) (Qd : Hp → Prop) : Prop :=
  ∃ W : Nat → Nat → Hp → Prop, (∃ m, W 0 m (upd H1 D (.lst []))) ∧ ∀ i m H, W i m H →
      (J.stop i H ∧ Qd H) ∨ (J.go i H ∧ ∃ Nx : Hp → Prop, (∀ H', Nx H' → ∃ m', m' < m ∧ W (i + 1) m' H') ∧ ∀ x H', J.yld i H x H' → g x (wipe σ vs) H' fun σ2 H2 => wipe σ2 vs = wipe σ vs ∧ tt σ2 H2 fun b H3 =>
        if b = true then te σ2 H3 fun y H4 => ∃ acc, H4 D = some (.lst acc) ∧ acc.length < sizeLine ∧ Nx (upd H4 D (.lst (acc ++ [y]))) else Nx H3)
/-- the state and the items told of a comprehension: os by the state -/
theorem lcFil [Rep δ] (tw : TW J items G Y) {f : γ → β → R (Option δ × γ)} {s0 : γ} {k : List δ × γ → R ε} (hm : Post (filStG f s0 items >>= k) P X) (O : γ → Hp → List (Addr × HO) → Prop) (w : W F H1 os) (o0 : O s0 F os) (nD : H1 D = none)
    (hG : ∀ c F' H' os' acc, Same F F' → W F' H' ((D, .lst acc) :: os') → O c F' os' → G H')
    (hs : ∀ (b : β) (c : γ) (x : V) (F' H' H'' : Hp) (os' : List (Addr × HO)) (acc : List V) (N : V → Hp → Prop) (N0 : Hp → Prop) (P' : Option δ × γ → Prop), Same F F' → W F' H' ((D, .lst acc) :: os') → O c F' os' → Y b H' x H'' →
      (∀ d c', P' (some d, c') → ∀ y F'' H'' os'', W F'' H'' ((D, .lst acc) :: os'') → Same F' F'' → O c' F'' os'' → rep K F'' y d → N y H'') →
      (∀ c', P' (none, c') → ∀ F'' H'' os'', W F'' H'' ((D, .lst acc) :: os'') → Same F' F'' → O c' F'' os'' → N0 H'') → Post (f c b) P' X →
      g x (wipe σ vs) H'' fun σ2 H2 => wipe σ2 vs = wipe σ vs ∧ tt σ2 H2 fun b H3 => if b = true then te σ2 H3 N else N0 H3)
    (hd : ∀ c us F' H' os' ys, Same F F' → W F' H' ((D, .lst us) :: os') → O c F' os' → A2 (rep K F') us ys → Post (k (ys, c)) P X → Qd H') : LcAsk J g tt te vs σ H1 D Qd := by
  obtain ⟨hlen, hm⟩ := pb_grd (pb_assoc hm)
  have hlen : items.length < sizeLine := Nat.lt_of_lt_of_le (of_decide_eq_true hlen) line5
  refine lc_it tw.walk (fun i H => ∃ c F' os' us ys, i ≤ items.length ∧ Same F F' ∧ W F' H ((D, .lst us) :: os') ∧ O c F' os' ∧ A2 (rep K F') us ys ∧ ys.length ≤ i ∧ Post (filSt f c (items.drop i) >>= fun q => k (ys ++ q.1, q.2)) P X) ?_ ?_ ?_ ?_
  · exact ⟨s0, F, os, [], [], Nat.zero_le _, Same.refl _, w.new nD, o0, .nil, Nat.le_refl _, hm⟩
  · rintro i H _ ⟨c, F', os', us, ys, _, s, w', o, _⟩
    exact hG c F' H os' us s w' o
  · rintro i x H H' hi ⟨c, F', os', us, ys, _, s, w', o, h, hl, hm⟩ ⟨b, hb, y⟩
    rw [drop_cons hb] at hm
    have hm' : Post ((f c b >>= fun p => filSt f p.2 (items.drop (i + 1)) >>= fun q => match p.1 with
      | some y => (R.ok (y :: q.1, q.2) : R (List δ × γ))
      | none => R.ok q) >>= fun q => k (ys ++ q.1, q.2)) P X := hm
    rw [bind_bind] at hm'
    have hm2 := post_bind hm'
    have hul : us.length = ys.length := h.length
    refine hs b c x F' H H' os' us (fun y H4 => ∃ acc, H4 D = some (.lst acc) ∧ acc.length < sizeLine ∧ _) _ _ s w' o y ?_ ?_ hm2
    · intro d c' p2 y F'' H'' os'' w2 s2 o2 r2
      refine ⟨us, w2.get (pre := []), by omega, c', F'', os'', us ++ [y], ys ++ [d], hi, s.trans s2, w2.set (pre := []), o2, (h.mono s2).snoc r2, by rw [List.length_append, List.length_singleton]; omega, ?_⟩
      have p3 : Post ((filSt f c' (items.drop (i + 1)) >>= fun q => (R.ok (d :: q.1, q.2) : R (List δ × γ))) >>= fun q => k (ys ++ q.1, q.2)) P X := p2
      rw [bind_bind] at p3
      have e : (fun q : List δ × γ => (R.ok (d :: q.1, q.2) : R (List δ × γ)) >>= fun q => k (ys ++ q.1, q.2)) = fun q => k (ys ++ [d] ++ q.1, q.2) := by
        funext q
        show k (ys ++ (d :: q.1), q.2) = k (ys ++ [d] ++ q.1, q.2)
        rw [List.append_assoc]
        rfl
      rw [e] at p3
      exact p3
    · intro c' p2 F'' H'' os'' w2 s2 o2
      refine ⟨c', F'', os'', us, ys, hi, s.trans s2, w2, o2, h.mono s2, by omega, ?_⟩
      have p3 : Post ((filSt f c' (items.drop (i + 1)) >>= fun q => (R.ok q : R (List δ × γ))) >>= fun q => k (ys ++ q.1, q.2)) P X := p2
      rw [bind_bind] at p3
      exact p3
  · rintro H ⟨c, F', os', us, ys, _, s, w', o, h, _, hm⟩
    rw [List.drop_length] at hm
    have hm' : Post (k (ys ++ [], c)) P X := hm
    rw [List.append_nil] at hm'
    exact hd c us F' H os' ys s w' o h hm'
/-- without a test -/
theorem lcMap [Rep δ] (tw : TW J items G Y) {f : γ → β → R (δ × γ)} {s0 : γ} {k : List δ × γ → R ε} (hm : Post (mapStG f s0 items >>= k) P X) (O : γ → Hp → List (Addr × HO) → Prop) (w : W F H1 os) (o0 : O s0 F os) (nD : H1 D = none)
    (hG : ∀ c F' H' os' acc, Same F F' → W F' H' ((D, .lst acc) :: os') → O c F' os' → G H')
    (hs : ∀ (b : β) (c : γ) (x : V) (F' H' H'' : Hp) (os' : List (Addr × HO)) (acc : List V) (N : V → Hp → Prop) (P' : δ × γ → Prop), Same F F' → W F' H' ((D, .lst acc) :: os') → O c F' os' → Y b H' x H'' →
      (∀ d c', P' (d, c') → ∀ y F'' H'' os'', W F'' H'' ((D, .lst acc) :: os'') → Same F' F'' → O c' F'' os'' → rep K F'' y d → N y H'') → Post (f c b) P' X →
      g x (wipe σ vs) H'' fun σ2 H2 => wipe σ2 vs = wipe σ vs ∧ te σ2 H2 N)
    (hd : ∀ c us F' H' os' ys, Same F F' → W F' H' ((D, .lst us) :: os') → O c F' os' → A2 (rep K F') us ys → Post (k (ys, c)) P X → Qd H') : LcAsk J g tYes te vs σ H1 D Qd := by
  have e : ∀ (s : γ) (l : List β), filSt (fun c b => f c b >>= fun p => R.ok (some p.1, p.2)) s l = mapSt f s l := by
    intro s l
    induction l generalizing s with
    | nil => rfl
    | cons b l ih =>
      show ((f s b >>= fun p => R.ok (some p.1, p.2)) >>= fun p => filSt (fun c b => f c b >>= fun p => R.ok (some p.1, p.2)) p.2 l >>= fun q => match p.1 with
        | some y => (R.ok (y :: q.1, q.2) : R (List δ × γ))
        | none => R.ok q) = (f s b >>= fun p => mapSt f p.2 l >>= fun q => .ok (p.1 :: q.1, q.2))
      rw [bind_bind]
      refine congrArg (f s b >>= ·) ?_
      funext p
      show (filSt (fun c b => f c b >>= fun p => R.ok (some p.1, p.2)) p.2 l >>= fun q => (R.ok (p.1 :: q.1, q.2) : R (List δ × γ))) = _
      rw [ih]
  have hm' : Post (filStG (fun c b => f c b >>= fun p => R.ok (some p.1, p.2)) s0 items >>= k) P X := by
    unfold filStG
    simp only [e]
    exact hm
  refine lcFil tw hm' O w o0 nD hG (fun b c x F' H' H'' os' acc N N0 P' s w' o y hN hN0 hp => ?_) hd
  exact hs b c x F' H' H'' os' acc N _ s w' o y (fun d c' p2 y F'' H'' os'' w2 s2 o2 r2 => hN d c' p2 y F'' H'' os'' w2 s2 o2 r2) (post_bind hp)
/-- without a state -/
theorem lcM [Rep δ] (tw : TW J items G Y) {f : β → R δ} {k : List δ → R ε} (hm : Post (mapG f items >>= k) P X) (w : W F H1 os) (nD : H1 D = none)
    (hG : ∀ F' H' acc, Same F F' → W F' H' ((D, .lst acc) :: os) → G H')
    (hs : ∀ (b : β) (x : V) (F' H' H'' : Hp) (acc : List V) (N : V → Hp → Prop) (P' : δ → Prop), Same F F' → W F' H' ((D, .lst acc) :: os) → Y b H' x H'' →
      (∀ d, P' d → ∀ y F'' H'', W F'' H'' ((D, .lst acc) :: os) → Same F' F'' → rep K F'' y d → N y H'') → Post (f b) P' X →
      g x (wipe σ vs) H'' fun σ2 H2 => wipe σ2 vs = wipe σ vs ∧ te σ2 H2 N)
    (hd : ∀ us F' H' ys, Same F F' → W F' H' ((D, .lst us) :: os) → A2 (rep K F') us ys → Post (k ys) P X → Qd H') : LcAsk J g tYes te vs σ H1 D Qd := by
  have e : ∀ (l : List β), (mapSt (fun (_ : Unit) b => f b >>= fun d => R.ok (d, ())) () l >>= fun q => R.ok q.1) = mapR f l := by
    intro l
    induction l with
    | nil => rfl
    | cons b l ih =>
      show (((f b >>= fun d => R.ok (d, ())) >>= fun p => mapSt (fun (_ : Unit) b => f b >>= fun d => R.ok (d, ())) p.2 l >>= fun q => (R.ok (p.1 :: q.1, q.2) : R (List δ × Unit))) >>= fun q => R.ok q.1) = (f b >>= fun y => mapR f l >>= fun ys => R.ok (y :: ys))
      rw [bind_bind, bind_bind]
      refine congrArg (f b >>= ·) ?_
      funext d
      show ((mapSt (fun (_ : Unit) b => f b >>= fun d => R.ok (d, ())) () l >>= fun q => (R.ok (d :: q.1, q.2) : R (List δ × Unit))) >>= fun q => R.ok q.1) = _
      rw [bind_bind, ← ih, bind_bind]
      rfl
  have hm' : Post (mapStG (fun (_ : Unit) b => f b >>= fun d => R.ok (d, ())) () items >>= fun q => k q.1) P X := by
    have e2 : (mapStG (fun (_ : Unit) b => f b >>= fun d => R.ok (d, ())) () items >>= fun q => R.ok q.1) = mapG f items := by
      unfold mapStG mapG
      rw [bind_bind]
      simp only [e]
    have h2 : Post ((mapStG (fun (_ : Unit) b => f b >>= fun d => R.ok (d, ())) () items >>= fun q => R.ok q.1) >>= k) P X := by
      rw [e2]
      exact hm
    rw [bind_bind] at h2
    exact h2
  refine lcMap tw hm' (fun _ _ os' => os = os') w rfl nD (fun c F' H' os' acc s w' o => by subst o; exact hG F' H' acc s w') (fun b c x F' H' H'' os' acc N P' s w' o y hN hp => ?_) (fun c us F' H' os' ys s w' o h hm => by subst o; exact hd us F' H' ys s w' h hm)
  subst o
  exact hs b x F' H' H'' acc N _ s w' y (fun d p2 y F'' H'' w2 s2 r2 => hN d () p2 y F'' H'' _ w2 s2 rfl r2) (post_bind hp)
/-- .. with a test -/
theorem lcF [Rep δ] (tw : TW J items G Y) {f : β → R (Option δ)} {k : List δ → R ε} (hm : Post (filG f items >>= k) P X) (w : W F H1 os) (nD : H1 D = none)
    (hG : ∀ F' H' acc, Same F F' → W F' H' ((D, .lst acc) :: os) → G H')
    (hs : ∀ (b : β) (x : V) (F' H' H'' : Hp) (acc : List V) (N : V → Hp → Prop) (N0 : Hp → Prop) (P' : Option δ → Prop), Same F F' → W F' H' ((D, .lst acc) :: os) → Y b H' x H'' →
      (∀ d, P' (some d) → ∀ y F'' H'', W F'' H'' ((D, .lst acc) :: os) → Same F' F'' → rep K F'' y d → N y H'') →
      (P' none → ∀ F'' H'', W F'' H'' ((D, .lst acc) :: os) → Same F' F'' → N0 H'') → Post (f b) P' X →
      g x (wipe σ vs) H'' fun σ2 H2 => wipe σ2 vs = wipe σ vs ∧ tt σ2 H2 fun b H3 => if b = true then te σ2 H3 N else N0 H3)
    (hd : ∀ us F' H' ys, Same F F' → W F' H' ((D, .lst us) :: os) → A2 (rep K F') us ys → Post (k ys) P X → Qd H') : LcAsk J g tt te vs σ H1 D Qd := by
  have e : ∀ (l : List β), (filSt (fun (_ : Unit) b => f b >>= fun d => R.ok (d, ())) () l >>= fun q => R.ok q.1) = filR f l := by
    intro l
    induction l with
    | nil => rfl
    | cons b l ih =>
      show (((f b >>= fun d => R.ok (d, ())) >>= fun p => filSt (fun (_ : Unit) b => f b >>= fun d => R.ok (d, ())) p.2 l >>= fun q => match p.1 with
        | some y => (R.ok (y :: q.1, q.2) : R (List δ × Unit))
        | none => R.ok q) >>= fun q => R.ok q.1) = (f b >>= fun o => filR f l >>= fun ys => match o with
        | some y => .ok (y :: ys)
        | none => .ok ys)
      rw [bind_bind, bind_bind]
      refine congrArg (f b >>= ·) ?_
      funext d
      show ((filSt (fun (_ : Unit) b => f b >>= fun d => R.ok (d, ())) () l >>= fun q => match d with
        | some y => (R.ok (y :: q.1, q.2) : R (List δ × Unit))
        | none => R.ok q) >>= fun q => R.ok q.1) = _
      rw [bind_bind, ← ih, bind_bind]
      cases d <;> rfl
  have hm' : Post (filStG (fun (_ : Unit) b => f b >>= fun d => R.ok (d, ())) () items >>= fun q => k q.1) P X := by
    have e2 : (filStG (fun (_ : Unit) b => f b >>= fun d => R.ok (d, ())) () items >>= fun q => R.ok q.1) = filG f items := by
      unfold filStG filG
      rw [bind_bind]
      simp only [e]
    have h2 : Post ((filStG (fun (_ : Unit) b => f b >>= fun d => R.ok (d, ())) () items >>= fun q => R.ok q.1) >>= k) P X := by
      rw [e2]
      exact hm
    rw [bind_bind] at h2
    exact h2
  refine lcFil tw hm' (fun _ _ os' => os = os') w rfl nD (fun c F' H' os' acc s w' o => by subst o; exact hG F' H' acc s w') (fun b c x F' H' H'' os' acc N N0 P' s w' o y hN hN0 hp => ?_) (fun c us F' H' os' ys s w' o h hm => by subst o; exact hd us F' H' ys s w' h hm)
  subst o
  exact hs b x F' H' H'' acc N N0 _ s w' y (fun d p2 y F'' H'' w2 s2 r2 => hN d () p2 y F'' H'' _ w2 s2 rfl r2) (fun p2 F'' H'' w2 s2 => hN0 () p2 F'' H'' _ w2 s2 rfl) (post_bind hp)
end
end Z
namespace Z
open PySem L2
open Rep (rep)
/-! ### short words for a walk -/
section
variable {F F1 F2 H H1 : Hp} {os os' pre post : List (Addr × HO)} {a p : Addr} {o o' : HO} {K : Fg}
theorem W.frzE (w : W F H os) (n : H p = none) : ∃ F', Same F F' ∧ W F' (upd H p o) os ∧ F' p = some o := ⟨_, w.frzS n, w.frz n, upd_same⟩
theorem W.freezeE (w : W F H (pre ++ (a, o) :: post)) : ∃ F', Same F F' ∧ W F' H (pre ++ post) ∧ F' a = some o := ⟨_, w.freezeS, w.freeze, upd_same⟩
theorem rep_own {α : Type} [Rep α] {vs : List V} {xs : List α} (w : W F H (pre ++ (a, .lst vs) :: post)) (h : A2 (rep K F) vs xs) : rep K H (.ref a) xs := ⟨a, vs, rfl, w.get, h.mono w.same⟩
theorem rep_lst {α : Type} [Rep α] {vs : List V} {xs : List α} (q : F a = some (.lst vs)) (h : A2 (rep K F) vs xs) : rep K F (.ref a) xs := ⟨a, vs, rfl, q, h⟩
theorem rep_tup {α : Type} [Rep α] {vs : List V} {xs : List α} (q : F a = some (.tup vs)) (h : A2 (rep K F) vs xs) : rep K F (.ref a) (Tup.mk xs) := ⟨a, vs, rfl, q, h⟩
theorem rep_pair {α β : Type} [Rep α] [Rep β] {u v : V} {x : α} {y : β} (q : F a = some (.tup [u, v])) (h1 : rep K F u x) (h2 : rep K F v y) : rep K F (.ref a) (x, y) := ⟨a, u, v, rfl, q, h1, h2⟩
theorem ints_q {vs : List V} {xs : List Int} (q : SqL K H a vs) (h : A2 (rep K F) vs xs) : SqL K H a (xs.map V.int) := h.ints ▸ q
theorem Room.units65 {k : Nat} {A : Around} (r : Room k A) : A.units + 65 < cLine := by
  have := r.un
  omega
theorem sl_cut {α : Type} {r : V → α → Prop} {vs : List V} {xs : List α} (h : A2 r vs xs) (lo hi : Option Int) : A2 r (cutV vs lo hi) (((xs.drop (HT.sIx xs.length 0 lo)).take (HT.sIx xs.length xs.length hi - HT.sIx xs.length 0 lo))) := by
  unfold cutV
  rw [h.length]
  exact (h.drop _).take _
/-- xs[lo:hi] -/
def cutL {α : Type} (xs : List α) (lo hi : Option Int) : List α := (xs.drop (HT.sIx xs.length 0 lo)).take (HT.sIx xs.length xs.length hi - HT.sIx xs.length 0 lo)
end
end Z
namespace Z
open PySem L2
open Rep (rep)
/-- a while by its fuel -/
def whileR {γ : Type} (c : γ → R Bool) (b : γ → R γ) : Nat → γ → R γ
  | 0, _ => .bad
  | n + 1, s => c s >>= fun t => if t = true then b s >>= fun s' => whileR c b n s' else .ok s
section
variable {γ δ : Type} {P : δ → Prop} {X : Exn → Prop} {tc : TT} {tb : TS} {D : Ends} {σ : St} {H : Hp}
theorem whileS {c : γ → R Bool} {b : γ → R γ} {n : Nat} {s0 : γ} {k : γ → R δ} (hm : Post (whileR c b n s0 >>= k) P X) (I : γ → St → Hp → Prop) (h0 : I s0 σ H)
    (hc : ∀ (g : γ) (σ : St) (H : Hp) (Q' : Bool → Hp → Prop) (P' : Bool → Prop), I g σ H → (∀ t, P' t → ∀ H', I g σ H' → Q' t H') → Post (c g) P' X → tc σ H Q')
    (hs : ∀ (g : γ) (σ : St) (H : Hp) (N : St → Hp → Prop) (P' : γ → Prop), I g σ H → (∀ g', P' g' → ∀ σ' H', I g' σ' H' → N σ' H') → Post (b g) P' X → tb { D with nx := N, ct := N, bk := D.nx } σ H)
    (hd : ∀ g σ H, I g σ H → Post (k g) P X → D.nx σ H) : tWhile tc tb D σ H := by
  refine ⟨fun m σ H => ∃ g, I g σ H ∧ Post (whileR c b m g >>= k) P X, ⟨n, s0, h0, hm⟩, ?_⟩
  rintro m σ H ⟨g, h, hm⟩
  cases m with
  | zero => exact (show False from hm).elim
  | succ m =>
    have hm' : Post ((c g >>= fun t => if t = true then b g >>= fun s' => whileR c b m s' else .ok g) >>= k) P X := hm
    rw [bind_bind] at hm'
    refine hc g σ H _ _ h (fun t p H' h' => ?_) (post_bind hm')
    cases t with
    | false => exact iteF (hd g σ H' h' p)
    | true =>
      refine iteT ?_
      have p' : Post ((b g >>= fun s' => whileR c b m s') >>= k) P X := p
      rw [bind_bind] at p'
      exact ⟨fun σ' H' => ∃ g', I g' σ' H' ∧ Post (whileR c b m g' >>= k) P X, fun σ' H' ⟨g', h1, h2⟩ => ⟨m, Nat.lt_succ_self m, g', h1, h2⟩, hs g σ H' _ _ h' (fun g' p2 σ' H' h2 => ⟨g', h2, p2⟩) (post_bind p')⟩
end
section
variable {α β : Type} {Q : β → Prop} {E : Exn → Prop}
theorem pn_set {xs : List α} {i : Int} {x : α} {f : List α → R β} (h : Post (setI xs i x >>= f) Q E) : ∃ j ys, ixN xs.length i = some j ∧ ys = xs.set j x ∧ Post (f ys) Q E :=
  let ⟨j, a, b⟩ := pb_set h
  ⟨j, _, a, rfl, b⟩
theorem pn_app {xs : List α} {x : α} {f : List α → R β} (h : Post (app xs x >>= f) Q E) : ∃ ys, xs.length < sizeLine ∧ ys = xs ++ [x] ∧ Post (f ys) Q E :=
  let ⟨a, b⟩ := pb_app h
  ⟨_, a, rfl, b⟩
theorem pn_extend {xs ys : List α} {f : List α → R β} (h : Post (extend xs ys >>= f) Q E) : ∃ zs, xs.length + ys.length ≤ sizeLine ∧ zs = xs ++ ys ∧ Post (f zs) Q E :=
  let ⟨a, b⟩ := pb_extend h
  ⟨_, a, rfl, b⟩
theorem A2.lt {r : V → α → Prop} {vs : List V} {xs : List α} {n : Nat} (h : A2 r vs xs) (z : xs.length < n) : vs.length < n := by rw [h.length]; exact z
theorem A2.ix {r : V → α → Prop} {vs : List V} {xs : List α} {i : Int} {j : Nat} (h : A2 r vs xs) (z : ixN xs.length i = some j) : ixN vs.length i = some j := by rw [h.length]; exact z
theorem A2.le2 {γ : Type} {r : V → α → Prop} {r' : V → γ → Prop} {vs us : List V} {xs : List α} {ys : List γ} {n : Nat} (h : A2 r vs xs) (h' : A2 r' us ys) (z : xs.length + ys.length ≤ n) : vs.length + us.length ≤ n := by rw [h.length, h'.length]; exact z
/-- the last item, and the rest -/
def popI (xs : List α) : R (α × List α) := match xs.getLast? with
  | some x => .ok (x, xs.dropLast)
  | none => .bad
def popAt (xs : List α) (i : Int) : R (α × List α) := match ixN xs.length i with
  | some j => match xs[j]? with
    | some x => .ok (x, xs.eraseIdx j)
    | none => .bad
  | none => .bad
theorem pn_popAt {xs : List α} {i : Int} {f : α × List α → R β} (h : Post (popAt xs i >>= f) Q E) : ∃ j x ys, ixN xs.length i = some j ∧ xs[j]? = some x ∧ ys = xs.eraseIdx j ∧ Post (f (x, ys)) Q E := by
  unfold popAt at h
  cases e : ixN xs.length i with
  | none => rw [e] at h; exact (show False from h).elim
  | some j =>
    rw [e] at h
    cases e2 : xs[j]? with
    | none =>
      have h' : Post ((match xs[j]? with
        | some x => (R.ok (x, xs.eraseIdx j) : R (α × List α))
        | none => .bad) >>= f) Q E := h
      rw [e2] at h'
      exact (show False from h').elim
    | some x =>
      have h' : Post ((match xs[j]? with
        | some x => (R.ok (x, xs.eraseIdx j) : R (α × List α))
        | none => .bad) >>= f) Q E := h
      rw [e2] at h'
      exact ⟨j, x, _, rfl, e2, rfl, h'⟩
end
section
variable {K : Fg} {F : Hp}
theorem rep_i {i : Int} : rep K F (.int i) i := rfl
theorem rep_b {i : Bool} : rep K F (.bl i) i := rfl
theorem rep_s {i : Str} : rep K F (.str i) i := rfl
theorem rep_n : rep K F .non () := rfl
end
end Z
namespace Z
open PySem L2
section
variable {X : Cx} {D : Ends} {σ : L2.St} {H : Hp}
def tC1 (v : V) : TE := fun _ H Q => True ∧ Q v H
theorem pe_int1 {i j pos} : PE X (.Constant (.int i) j pos) (tC1 (.int i)) := ⟨fun pins s σ H Q I h => pe_int.run pins s σ H Q I h.2⟩
theorem stepN {i : Nat} {v : V} {Q : L2.St → Hp → Prop} (h : Q (σ.set i (some v)) H) : gName i v σ H Q := h
theorem stepX (h : D.nx σ H) : tNext D σ H := h
theorem stepSeq {t u : TS} (h : t { D with nx := u D } σ H) : tSeq t u D σ H := h
theorem stepIf {c : TT} {a b : TS} (h : c σ H fun t H1 => if t = true then a D σ H1 else b D σ H1) : tIfS c a b D σ H := h
end
end Z
namespace Z
open PySem L2
open Rep (rep)
section
variable {α : Type} [Rep α] {K : Fg} {F : Hp} {v : V} {x : α}
theorem rep_none : rep K F .non (none : Option α) := rfl
theorem rep_some (h : rep K F v x) : rep K F v (some x) := h
theorem rep_pl {i : Int} : rep K F (.int i) (Thing.pl i) := rfl
theorem rep_ti {a b : Int} (h : rep K F v (a, b)) : rep K F v (Thing.ti a b) := h
end
end Z
/-! Z2: rules by typed data -/
namespace Z
open PySem L2 PySem.Spec PyProof.Rows
open Rep (rep)
/-! ### data that is compared -/
class Dat (α : Type) extends Rep α where
  toD : α → PyData
  dmax : Nat
  dp : ∀ {K : Fg} {H : Hp} {v : V} {x : α}, rep K H v x → Dp K H v (toD x)
  lay : ∀ x : α, (toD x).canLay0 = true
  dep : ∀ x : α, (toD x).depth ≤ dmax
  eqv : ∀ x y : α, PyData.eqv (toD x) (toD y) = true ↔ x = y
section
variable {α β : Type} {K : Fg} {H : Hp}
instance : Dat Int where
  toD := .int
  dmax := 0
  dp := fun h => by
    have h' : _ = V.int _ := h
    subst h'
    exact .int _
  lay := fun x => by simp only [PyData.canLay0]
  dep := fun x => by simp only [PyData.depth, Nat.le_refl]
  eqv := fun x y => by simp [PyData.eqv]
instance : Dat Bool where
  toD := .bool
  dmax := 0
  dp := fun h => by
    have h' : _ = V.bl _ := h
    subst h'
    exact .bl _
  lay := fun x => by simp only [PyData.canLay0]
  dep := fun x => by simp only [PyData.depth, Nat.le_refl]
  eqv := fun x y => by simp [PyData.eqv]
instance datOptInt : Dat (Option Int) where
  toD := fun x => match x with
    | none => .none
    | some i => .int i
  dmax := 0
  dp := fun {K H v x} h => by
    cases x with
    | none =>
      have h' : v = V.non := h
      subst h'
      exact .non
    | some i =>
      have h' : v = V.int i := h
      subst h'
      exact .int _
  lay := fun x => by cases x <;> simp only [PyData.canLay0]
  dep := fun x => by cases x <;> simp only [PyData.depth, Nat.le_refl]
  eqv := fun x y => by cases x <;> cases y <;> simp [PyData.eqv]
instance datPair [Dat α] [Dat β] : Dat (α × β) where
  toD := fun x => .tuple [Dat.toD x.1, Dat.toD x.2]
  dmax := max (Dat.dmax α) (Dat.dmax β) + 1
  dp := fun {K H v x} h => by
    obtain ⟨a, u, w, rfl, q, h1, h2⟩ := h
    exact .tup (SqT.of q) (.cons (Dat.dp h1) (.cons (Dat.dp h2) .nil))
  lay := fun x => by simp only [PyData.canLay0, PyData.canLayAll0, Dat.lay, Bool.and_true]
  dep := fun x => by
    have h1 := Dat.dep x.1
    have h2 := Dat.dep x.2
    simp only [PyData.depth, PyData.depthAll]
    omega
  eqv := fun x y => by
    obtain ⟨x1, x2⟩ := x
    obtain ⟨y1, y2⟩ := y
    simp only [PyData.eqv, PyData.eqvAll, Bool.and_true, Bool.and_eq_true, Dat.eqv, Prod.mk.injEq]
theorem dp_all [Dat α] : ∀ {vs : List V} {xs : List α}, A2 (rep K H) vs xs → DpAll K H vs (xs.map Dat.toD)
  | _, _, .nil => .nil
  | _, _, .cons h t => .cons (Dat.dp h) (dp_all t)
theorem lay_all [Dat α] : ∀ xs : List α, PyData.canLayAll0 (xs.map Dat.toD) = true
  | [] => by simp only [List.map_nil, PyData.canLayAll0]
  | x :: xs => by simp only [List.map_cons, PyData.canLayAll0, Dat.lay, lay_all xs, Bool.and_true]
theorem dep_all [Dat α] : ∀ xs : List α, PyData.depthAll (xs.map Dat.toD) ≤ Dat.dmax α
  | [] => by simp only [List.map_nil, PyData.depthAll, Nat.zero_le]
  | x :: xs => by
    have h1 := dep_all xs
    have h2 := Dat.dep x
    simp only [List.map_cons, PyData.depthAll]
    omega
theorem eqv_all [Dat α] : ∀ xs ys : List α, PyData.eqvAll (xs.map Dat.toD) (ys.map Dat.toD) = true ↔ xs = ys
  | [], [] => by simp [PyData.eqvAll]
  | x :: xs, [] => by simp [PyData.eqvAll]
  | [], y :: ys => by simp [PyData.eqvAll]
  | x :: xs, y :: ys => by simp only [List.map_cons, PyData.eqvAll, Bool.and_eq_true, Dat.eqv, eqv_all xs ys, List.cons.injEq]
instance datList [Dat α] : Dat (List α) where
  toD := fun xs => .list (xs.map Dat.toD)
  dmax := Dat.dmax α + 1
  dp := fun {K H v x} h => by
    obtain ⟨a, vs, rfl, q, h⟩ := h
    exact .lst (SqL.of q) (dp_all h)
  lay := fun x => by
    simp only [PyData.canLay0]
    exact lay_all x
  dep := fun x => by
    have h := dep_all x
    simp only [PyData.depth]
    omega
  eqv := fun x y => by
    simp only [PyData.eqv]
    exact eqv_all x y
instance datTup [Dat α] : Dat (Tup α) where
  toD := fun xs => .tuple (xs.l.map Dat.toD)
  dmax := Dat.dmax α + 1
  dp := fun {K H v x} h => by
    obtain ⟨a, vs, rfl, q, h⟩ := h
    exact .tup (SqT.of q) (dp_all h)
  lay := fun x => by
    simp only [PyData.canLay0]
    exact lay_all x.l
  dep := fun x => by
    have h := dep_all x.l
    simp only [PyData.depth]
    omega
  eqv := fun x y => by
    obtain ⟨x⟩ := x
    obtain ⟨y⟩ := y
    simp only [PyData.eqv, Tup.mk.injEq]
    exact eqv_all x y
instance datThing : Dat Thing where
  toD := fun x => match x with
    | .pl i => .int i
    | .ti a b => .tuple [.int a, .int b]
  dmax := 1
  dp := fun {K H v x} h => by
    cases x with
    | pl i =>
      have h' : v = V.int i := h
      subst h'
      exact .int _
    | ti a b =>
      obtain ⟨p, u, w, rfl, q, h1, h2⟩ := (show rep K H v (a, b) from h)
      have h1' : u = V.int a := h1
      have h2' : w = V.int b := h2
      subst h1' h2'
      exact .tup (SqT.of q) (.cons (.int _) (.cons (.int _) .nil))
  lay := fun x => by cases x <;> simp [PyData.canLay0, PyData.canLayAll0]
  dep := fun x => by cases x <;> simp [PyData.depth, PyData.depthAll]
  eqv := fun x y => by cases x <;> cases y <;> simp [PyData.eqv, PyData.eqvAll]
instance datScr : Dat Scr where
  toD := fun xs => .list (xs.l.map PyData.int)
  dmax := 1
  dp := fun {K H v x} h => by
    obtain ⟨a, rfl, q⟩ := h
    have e : ∀ l : List Int, DpAll K H (l.map V.int) (l.map PyData.int) := fun l => by
      induction l with
      | nil => exact .nil
      | cons x l ih => exact .cons (.int _) ih
    exact .lst q (e x.l)
  lay := fun x => by
    simp only [PyData.canLay0]
    exact lay_all (α := Int) x.l
  dep := fun x => by
    have h := dep_all (α := Int) x.l
    have h' : PyData.depthAll (x.l.map PyData.int) ≤ 0 := h
    simp only [PyData.depth]
    omega
  eqv := fun x y => by
    obtain ⟨x⟩ := x
    obtain ⟨y⟩ := y
    simp only [PyData.eqv, Scr.mk.injEq]
    exact eqv_all (α := Int) x y
theorem shapedD [Dat α] (hd : Dat.dmax α ≤ 60) (x : α) : SeqAt.shaped (Dat.toD x) = true := by
  have h := Dat.dep x
  show ((Dat.toD x).canLay0 && decide ((Dat.toD x).depth ≤ 64)) = true
  rw [Bool.and_eq_true]
  exact ⟨Dat.lay x, decide_eq_true (by omega)⟩
theorem eqvD [Dat α] [DecidableEq α] (x y : α) : PyData.eqv (Dat.toD x) (Dat.toD y) = decide (x = y) := by
  by_cases h : x = y
  · rw [decide_eq_true h]
    exact (Dat.eqv x y).mpr h
  · rw [decide_eq_false h]
    exact Bool.eq_false_iff.mpr fun e => h ((Dat.eqv x y).mp e)
theorem anyD [Dat α] [DecidableEq α] (x : α) : ∀ ys : List α, ((ys.map Dat.toD).any fun z => PyData.eqv z (Dat.toD x)) = decide (x ∈ ys)
  | [] => by simp
  | y :: ys => by
    rw [List.map_cons, List.any_cons, anyD x ys, eqvD]
    by_cases h : y = x
    · subst h; simp
    · have h' : ¬ x = y := fun e => h e.symm
      simp [h, h']
end
section
variable {X : Cx} {α β : Type} {K : Fg}
/-- ==, != of data -/
theorem op_eqDt (hK : X.K = K) (α : Type) [Dat α] [DecidableEq α] (hd : Dat.dmax α ≤ 60) (hu : X.A.units + 64 < cLine) : OpR X (compareOp .Eq) (fun x y H Q => ∃ a b : α, rep K H x a ∧ rep K H y b ∧ Q (.bl (decide (a = b))) H) := by
  subst hK
  intro pins s σ H x y v u Q I rx ry ⟨a, b, h1, h2, q⟩
  exact op_eqD hu pins s σ H x y v u Q I rx ry ⟨Dat.toD a, Dat.toD b, Dat.dp h1, Dat.dp h2, shapedD hd a, shapedD hd b, by rw [eqvD]; exact q⟩
theorem op_neDt (hK : X.K = K) (α : Type) [Dat α] [DecidableEq α] (hd : Dat.dmax α ≤ 60) (hu : X.A.units + 64 < cLine) : OpR X (compareOp .NotEq) (fun x y H Q => ∃ a b : α, rep K H x a ∧ rep K H y b ∧ Q (.bl (!decide (a = b))) H) := by
  subst hK
  intro pins s σ H x y v u Q I rx ry ⟨a, b, h1, h2, q⟩
  exact op_neD hu pins s σ H x y v u Q I rx ry ⟨Dat.toD a, Dat.toD b, Dat.dp h1, Dat.dp h2, shapedD hd a, shapedD hd b, by rw [eqvD]; exact q⟩
/-- in, not in a list, a tuple of data -/
theorem op_inL (hK : X.K = K) (α : Type) [Dat α] [DecidableEq α] (hd : Dat.dmax α ≤ 50) (hu : X.A.units + 65 < cLine) : OpR X (compareOp .In) (fun x y H Q => ∃ (a : α) (b : List α), rep K H x a ∧ rep K H y b ∧ Q (.bl (decide (a ∈ b))) H) := by
  subst hK
  intro pins s σ H x y v u Q I rx ry ⟨a, b, h1, h2, q⟩
  exact op_inD hu pins s σ H x y v u Q I rx ry ⟨Dat.toD a, b.map Dat.toD, Dat.dp h1, Dat.dp h2, shapedD (by omega) a, shapedD (α := List α) (by show Dat.dmax α + 1 ≤ 60; omega) b, by rw [anyD]; exact q⟩
theorem op_notInL (hK : X.K = K) (α : Type) [Dat α] [DecidableEq α] (hd : Dat.dmax α ≤ 50) (hu : X.A.units + 65 < cLine) : OpR X (compareOp .NotIn) (fun x y H Q => ∃ (a : α) (b : List α), rep K H x a ∧ rep K H y b ∧ Q (.bl (!decide (a ∈ b))) H) := by
  subst hK
  intro pins s σ H x y v u Q I rx ry ⟨a, b, h1, h2, q⟩
  exact op_notInD hu pins s σ H x y v u Q I rx ry ⟨Dat.toD a, b.map Dat.toD, Dat.dp h1, Dat.dp h2, shapedD (by omega) a, shapedD (α := List α) (by show Dat.dmax α + 1 ≤ 60; omega) b, by rw [anyD]; exact q⟩
theorem op_notInT (hK : X.K = K) (α : Type) [Dat α] [DecidableEq α] (hd : Dat.dmax α ≤ 50) (hu : X.A.units + 65 < cLine) : OpR X (compareOp .NotIn) (fun x y H Q => ∃ (a : α) (b : Tup α), rep K H x a ∧ rep K H y b ∧ Q (.bl (!decide (a ∈ b.l))) H) := by
  subst hK
  intro pins s σ H x y v u Q I rx ry ⟨a, b, h1, h2, q⟩
  have sd := shapedD (by omega : Dat.dmax α ≤ 60) a
  have se : SeqAt.shaped (.tuple (b.l.map Dat.toD)) = true := shapedD (α := Tup α) (by show Dat.dmax α + 1 ≤ 60; omega) b
  obtain ⟨as, r1⟩ := Dp.reads I (Dat.toD a) x v (Dat.dp h1) rx
  obtain ⟨bs, r2⟩ := Dp.reads I (.tuple (b.l.map Dat.toD)) y u (Dat.dp h2) ry
  refine SeqAt.notIn_tuple_reads r2 r1 (SeqAt.canLay_of_shaped se) (SeqAt.canLay_of_shaped sd) (room_in_shaped sd hu) ?_
  rw [anyD]
  exact ⟨.bl _, H, I, rfl, q⟩
/-- == of texts -/
theorem decS (x y : Str) : decide (V.str x = V.str y) = decide (x = y) := by
  by_cases h : x = y
  · subst h; simp
  · rw [decide_eq_false h, decide_eq_false (fun e => h (V.str.inj e))]
theorem op_eqS : OpR X (compareOp .Eq) (fun x y H Q => ∃ a b : Str, x = .str a ∧ y = .str b ∧ Q (.bl (decide (a = b))) H) := by
  intro pins s σ H x y v u Q I rx ry ⟨a, b, h1, h2, q⟩
  subst h1 h2
  exact op_eq pins s σ H _ _ v u Q I rx ry ⟨rfl, by rw [decS]; exact q⟩
/-! ### built-ins -/
theorem call_lenN (hK : X.K = K) : CallR X (.builtin "len") (fun xs H Q => ∃ (p : Addr) (ys : List V) (n : Nat), xs = [.ref p] ∧ (SqL K H p ys ∨ SqT K H p ys) ∧ ys.length = n ∧ Q (.int (n : Int)) H) := by
  subst hK
  intro pins s σ H xs us Q I r ⟨p, ys, n, e, h, hn, q⟩
  subst hn
  exact call_len_seq pins s σ H xs us Q I r ⟨p, ys, e, h, q⟩
def absI (i : Int) : Int := if i < 0 then -i else i
def max2 (i j : Int) : Int := if j > i then j else i
def min2 (i j : Int) : Int := if j < i then j else i
/-- the ints in order -/
def sortI (xs : List Int) : List Int := xs.mergeSort fun a b => decide (a ≤ b)
theorem sortI_perm (xs : List Int) : (sortI xs).Perm xs := List.mergeSort_perm xs _
theorem sortI_sorted (xs : List Int) : (sortI xs).Pairwise (· ≤ ·) := by
  have h := List.pairwise_mergeSort (le := fun a b : Int => decide (a ≤ b)) (fun a b c h1 h2 => by simp only [decide_eq_true_eq] at *; omega) (fun a b => by simp only [Bool.or_eq_true, decide_eq_true_eq]; omega) xs
  exact h.imp fun h => by simpa using h
theorem sort_uniq {xs ys : List Int} (h : xs.Perm ys) (hx : xs.Pairwise (· ≤ ·)) (hy : ys.Pairwise (· ≤ ·)) : xs = ys := by
  induction xs generalizing ys with
  | nil => exact (List.nil_perm.mp h).symm
  | cons x xs ih =>
    cases ys with
    | nil => exact absurd h.symm (by simp)
    | cons y ys =>
      rw [List.pairwise_cons] at hx hy
      have e : x = y := by
        have h1 : x ∈ y :: ys := h.mem_iff.mp List.mem_cons_self
        have h2 : y ∈ x :: xs := h.mem_iff.mpr List.mem_cons_self
        rcases List.mem_cons.mp h1 with h1 | h1
        · exact h1
        · rcases List.mem_cons.mp h2 with h2 | h2
          · exact h2.symm
          · have := hx.1 y h2
            have := hy.1 x h1
            omega
      subst e
      rw [ih (List.perm_cons x |>.mp h) hx.2 hy.2]
theorem sortI_eq {xs ys : List Int} (h : ys.Perm xs) (hy : ys.Pairwise (· ≤ ·)) : ys = sortI xs := sort_uniq (h.trans (sortI_perm xs).symm) hy (sortI_sorted xs)
theorem cr_sortI (hK : X.K = K) : CallR X (.builtin "sorted") (fun vs H Q => ∃ (a : Addr) (ns : List Int), vs = [V.ref a] ∧ SqL K H a (ns.map V.int) ∧ ∀ p, H p = none → Q (.ref p) (upd H p (.lst ((sortI ns).map V.int)))) := by
  subst hK
  intro pins s σ H xs us Q I r ⟨a, ns, e, h, q⟩
  refine cr_sortedI pins s σ H xs us Q I r ⟨a, ns, e, h, fun ns' p h1 h2 hp => ?_⟩
  rw [sortI_eq h1 h2]
  exact q p hp
theorem ix_listK (hK : X.K = K) : IxR X (rIxL K) := hK ▸ ix_list
theorem ix_tupK (hK : X.K = K) : IxR X (rIxT K) := hK ▸ ix_tup
theorem sl_listK (hK : X.K = K) : SlR X (rSlL K) := hK ▸ sl_list
theorem call_list_ofK (hK : X.K = K) : CallR X (.type "list") (fun xs H Q => ∃ p ys, xs = [.ref p] ∧ (SqL K H p ys ∨ SqT K H p ys) ∧ ∀ l, H l = none → Q (.ref l) (upd H l (.lst ys))) := hK ▸ call_list_of
theorem call_tuple_ofK (hK : X.K = K) : CallR X (.type "tuple") (fun xs H Q => ∃ p ys, xs = [.ref p] ∧ ((SqL K H p ys ∧ ∀ l, H l = none → Q (.ref l) (upd H l (.tup ys))) ∨ (SqT K H p ys ∧ Q (.ref p) H))) := hK ▸ call_tuple_of
theorem pi_listK {tg l : Expr} {tl : TE} (hK : X.K = K) (hl : PE X l tl) : PI X tg l (iList K tl) := hK ▸ pi_list hl
theorem pi_tupK {tg l : Expr} {tl : TE} (hK : X.K = K) (hl : PE X l tl) : PI X tg l (iTup K tl) := hK ▸ pi_tup hl
theorem pi_k {tg l : Expr} {wi : Fg → TI} (hK : X.K = K) (h : PI X tg l (wi X.K)) : PI X tg l (wi K) := hK ▸ h
theorem pe_k {e : Expr} {t : Fg → TE} (hK : X.K = K) (h : PE X e (t X.K)) : PE X e (t K) := hK ▸ h
theorem pg_k {tg : Expr} {t : Fg → TG} (hK : X.K = K) (h : PG X tg (t X.K)) : PG X tg (t K) := hK ▸ h
end
end Z
/-! Z3: sets of tuples by their number, isinstance -/
namespace Z
open PySem L2 PySem.Spec PyProof.Rows
open Rep (rep)
/-- each once -/
def nub {α : Type} [DecidableEq α] : List α → List α
  | [] => []
  | x :: xs => if x ∈ xs then nub xs else x :: nub xs
section
variable {α : Type} [DecidableEq α]
theorem nub_mem {y : α} : ∀ {xs : List α}, y ∈ nub xs ↔ y ∈ xs
  | [] => Iff.rfl
  | x :: xs => by
    unfold nub
    by_cases h : x ∈ xs
    · rw [if_pos h, nub_mem]
      exact ⟨List.mem_cons_of_mem _, fun q => (List.mem_cons.mp q).elim (fun e => e ▸ h) id⟩
    · rw [if_neg h, List.mem_cons, List.mem_cons, nub_mem]
theorem nub_nodup : ∀ (xs : List α), (nub xs).Nodup
  | [] => List.nodup_nil
  | x :: xs => by
    unfold nub
    by_cases h : x ∈ xs
    · rw [if_pos h]
      exact nub_nodup xs
    · rw [if_neg h]
      exact List.nodup_cons.mpr ⟨fun q => h (nub_mem.mp q), nub_nodup xs⟩
theorem nodup_le : ∀ {xs ys : List α}, xs.Nodup → (∀ y ∈ xs, y ∈ ys) → xs.length ≤ ys.length
  | [], _, _, _ => Nat.zero_le _
  | x :: xs, ys, h, hs => by
    obtain ⟨h1, h2⟩ := List.nodup_cons.mp h
    have hx : x ∈ ys := hs x List.mem_cons_self
    have := nodup_le (xs := xs) (ys := ys.erase x) h2 fun y hy => (List.mem_erase_of_ne (show y ≠ x from fun e => by subst e; exact h1 hy)).mpr (hs y (List.mem_cons_of_mem _ hy))
    rw [List.length_erase_of_mem hx] at this
    have := List.length_pos_of_mem hx
    rw [List.length_cons]
    omega
theorem nodup_len {xs ys : List α} (h1 : xs.Nodup) (h2 : ys.Nodup) (h : ∀ y, y ∈ xs ↔ y ∈ ys) : xs.length = ys.length := by
  refine Nat.le_antisymm ?_ ?_
  · exact nodup_le h1 fun y hy => (h y).mp hy
  · exact nodup_le h2 fun y hy => (h y).mpr hy
end
section
variable {X : Cx} {K : Fg} {P : Program} {w : World} {F H : Hp}
/-- isinstance of a plain value and a built-in class -/
theorem call_isB (hK : X.K = K) : CallR X (.builtin "isinstance") (fun xs H Q => ∃ (x : V) (a b : String) (r : Bool), xs = [x, .ty b] ∧ TyOf K H x (.type a) ∧ kitB a b = some r ∧ Q (.bl r) H) := by
  subst hK
  intro pins s σ H xs us Q I r ⟨x, a, b, c, e, h1, h2, q⟩
  exact call_isi pins s σ H xs us Q I r ⟨x, .ty b, .type a, .type b, c, e, .ty b, .base h1, kit_ty h2, q⟩
end
end Z
namespace Z
open PySem L2 PySem.Spec PyProof.Rows
open Rep (rep)
section
variable {α : Type}
/-- the first place of an item -/
def fidx [DecidableEq α] (y : α) : List α → Option Nat
  | [] => none
  | x :: xs => if x = y then some 0 else (fidx y xs).map (· + 1)
variable {δ : Type} {P : δ → Prop} {E : Exn → Prop}
end
section
variable {X : Cx} {K : Fg} {F H : Hp}
theorem bools_q {a : Addr} {vs : List V} {xs : List Bool} (q : SqL K H a vs) (h : A2 (rep K F) vs xs) : SqL K H a (xs.map V.bl) := h.bools ▸ q
theorem cr_allK (hK : X.K = K) (hc : X.calm = true) : CallR X (.builtin "all") (rAll K) := hK ▸ cr_all hc
end
end Z
namespace Z
open PySem L2 PySem.Spec PyProof.Rows
open Rep (rep)
section
variable {X : Cx} {K : Fg} {F H : Hp}
theorem A2.two {α : Type} {r : V → α → Prop} {vs : List V} {x y : α} (h : A2 r vs [x, y]) : ∃ u w, vs = [u, w] ∧ r u x ∧ r w y := by
  cases h with
  | cons a t =>
    cases t with
    | cons b t =>
      cases t
      exact ⟨_, _, rfl, a, b⟩
/-- xs * k -/
def repL {α : Type} (xs : List α) (k : Int) : List α := (List.replicate k.toNat xs).flatten
@[irreducible] def repR {α : Type} (xs : List α) (k : Int) : R (List α) := if -(2 ^ 62) ≤ k ∧ k < 2 ^ 62 ∧ xs.length * k.toNat < 100000 then .ok (repL xs k) else .bad
theorem pb_rep {α δ : Type} {xs : List α} {k : Int} {f : List α → R δ} {P : δ → Prop} {E : Exn → Prop} (h : Post (repR xs k >>= f) P E) : ∃ ys, (-(2 ^ 63) ≤ k ∧ k < 2 ^ 63 ∧ xs.length * k.toNat ≤ sizeLine) ∧ ys = repL xs k ∧ Post (f ys) P E := by
  unfold repR at h
  obtain ⟨⟨a, b, c⟩, d⟩ := pb_if h
  exact ⟨_, ⟨by omega, by omega, Nat.le_of_lt (Nat.lt_of_lt_of_le c line5)⟩, rfl, d⟩
theorem A2.flat {α : Type} {r : V → α → Prop} {vs : List V} {xs : List α} (h : A2 r vs xs) (n : Nat) : A2 r (List.replicate n vs).flatten (List.replicate n xs).flatten := by
  induction n with
  | zero => exact .nil
  | succ n ih =>
    rw [List.replicate_succ, List.replicate_succ, List.flatten_cons, List.flatten_cons]
    exact h.append ih
/-! ### None -/
class NonN (α : Type) extends Rep α where
  no : ∀ {K : Fg} {H : Hp} {v : V} {x : α}, rep K H v x → v ≠ .non
instance : NonN Int := ⟨fun h e => by have h' : _ = V.int _ := h; rw [h'] at e; cases e⟩
instance : NonN Bool := ⟨fun h e => by have h' : _ = V.bl _ := h; rw [h'] at e; cases e⟩
instance {α β : Type} [Rep α] [Rep β] : NonN (α × β) := ⟨fun {K H v x} h q => by
  obtain ⟨a, u, w, e, _⟩ := h
  rw [e] at q
  cases q⟩
instance {α : Type} [Rep α] : NonN (List α) := ⟨fun {K H v x} h q => by
  obtain ⟨a, u, e, _⟩ := h
  rw [e] at q
  cases q⟩
instance {α : Type} [Rep α] : NonN (Tup α) := ⟨fun {K H v x} h q => by
  obtain ⟨a, u, e, _⟩ := h
  rw [e] at q
  cases q⟩
theorem isN_eq {α : Type} [NonN α] {v : V} {o : Option α} (h : rep K F v o) : decide (v = .non) = o.isNone := by
  cases o with
  | none =>
    have h' : v = V.non := h
    rw [h']
    rfl
  | some x => exact decide_eq_false (NonN.no (α := α) h)
theorem op_isN2 : OpR X (compareOp .Is) (fun x y H Q => y = V.non ∧ ∃ b, decide (x = .non) = b ∧ Q (.bl b) H) := by
  intro pins s σ H x y v u Q I rx ry ⟨e, b, hb, q⟩
  exact op_isN pins s σ H x y v u Q I rx ry ⟨e, by rw [hb]; exact q⟩
instance datOptBool : Dat (Option Bool) where
  toD := fun x => match x with
    | none => .none
    | some i => .bool i
  dmax := 0
  dp := fun {K H v x} h => by
    cases x with
    | none =>
      have h' : v = V.non := h
      subst h'
      exact .non
    | some i =>
      have h' : v = V.bl i := h
      subst h'
      exact .bl _
  lay := fun x => by cases x <;> simp only [PyData.canLay0]
  dep := fun x => by cases x <;> simp only [PyData.depth, Nat.le_refl]
  eqv := fun x y => by cases x <;> cases y <;> simp [PyData.eqv]
end
end Z
/-! Z4: statements never reached, tuples into the frozen part, pairs sorted, dicts of scalars, list(range), pop -/
namespace Z
open PySem L2
open Rep (rep)
section
variable {X : Cx}
theorem ps_absurd {st : Stmt} : PS X st (fun _ _ _ => False) := ⟨fun _ _ _ _ _ _ h => h.elim⟩
theorem stepOr {t u : TT} {σ : L2.St} {H : Hp} {Q : Bool → Hp → Prop} (h : t σ H fun c H1 => if c = true then Q true H1 else u σ H1 Q) : tOr t u σ H Q := h
theorem stepNot {t : TT} {σ : L2.St} {H : Hp} {Q : Bool → Hp → Prop} (h : t σ H fun c H1 => Q (!c) H1) : tNot t σ H Q := h
/-! ### sorted, of pairs -/
def leP (p q : Int × Int) : Bool := decide (p.1 < q.1 ∨ (p.1 = q.1 ∧ p.2 ≤ q.2))
def sortP (xs : List (Int × Int)) : List (Int × Int) := xs.mergeSort leP
theorem sortP_perm (xs : List (Int × Int)) : (sortP xs).Perm xs := List.mergeSort_perm xs _
theorem sortP_sorted (xs : List (Int × Int)) : (sortP xs).Pairwise fun p q => leP p q = true := by
  refine List.pairwise_mergeSort (le := leP) (fun a b c h1 h2 => ?_) (fun a b => ?_) xs
  · unfold leP at *
    simp only [decide_eq_true_eq] at *
    omega
  · unfold leP
    simp only [Bool.or_eq_true, decide_eq_true_eq]
    omega
theorem sortP_uniq {xs ys : List (Int × Int)} (h : xs.Perm ys) (hx : xs.Pairwise fun p q => leP p q = true) (hy : ys.Pairwise fun p q => leP p q = true) : xs = ys := by
  induction xs generalizing ys with
  | nil => exact (List.nil_perm.mp h).symm
  | cons x xs ih =>
    cases ys with
    | nil => exact absurd h.length_eq (by simp)
    | cons y ys =>
      rw [List.pairwise_cons] at hx hy
      have e : x = y := by
        have h1 : y ∈ x :: xs := h.mem_iff.mpr List.mem_cons_self
        have h2 : x ∈ y :: ys := h.mem_iff.mp List.mem_cons_self
        rcases List.mem_cons.mp h1 with e | h1
        · exact e.symm
        · rcases List.mem_cons.mp h2 with e | h2
          · exact e
          · have a := hx.1 y h1
            have b := hy.1 x h2
            unfold leP at a b
            simp only [decide_eq_true_eq] at a b
            exact Prod.ext (by omega) (by omega)
      subst e
      rw [ih h.cons_inv hx.2 hy.2]
theorem sortP_eq {xs ys : List (Int × Int)} (h : ys.Perm xs) (hy : ys.Pairwise fun p q => leP p q = true) : ys = sortP xs := sortP_uniq (h.trans (sortP_perm xs).symm) hy (sortP_sorted xs)
/-- which pair stands at a reference -/
def keyP (H : Hp) (v : V) : Int × Int := match v with
  | .ref t => match H t with
    | some (.tup [.int i, .int j]) => (i, j)
    | _ => (0, 0)
  | _ => (0, 0)
theorem keyP_of {K : Fg} {F H : Hp} {v : V} {x : Int × Int} (s : Same F H) (r : rep K F v x) : ∃ t, v = .ref t ∧ F t = some (.tup [.int x.1, .int x.2]) ∧ keyP H v = x := by
  obtain ⟨t, u, z, rfl, q, r1, r2⟩ := r
  obtain rfl : u = V.int x.1 := r1
  obtain rfl : z = V.int x.2 := r2
  refine ⟨t, rfl, q, ?_⟩
  have h := s _ _ q
  unfold keyP
  dsimp only
  rw [h]
theorem keyP_all {K : Fg} {F H : Hp} {vs : List V} {xs : List (Int × Int)} (s : Same F H) (h : A2 (rep K F) vs xs) : xs = vs.map (keyP H) ∧ ∀ v ∈ vs, ∃ t, v = .ref t ∧ F t = some (.tup [.int (keyP H v).1, .int (keyP H v).2]) := by
  induction h with
  | nil => exact ⟨rfl, fun _ z => nomatch z⟩
  | cons a b ih =>
    obtain ⟨t, e, q, k⟩ := keyP_of s a
    refine ⟨by rw [List.map_cons, k, ← ih.1], fun v hv => ?_⟩
    rcases List.mem_cons.mp hv with rfl | hv
    · exact ⟨t, e, by rw [k]; exact q⟩
    · exact ih.2 v hv
theorem rep_keys {K : Fg} {F H : Hp} : ∀ {ys : List V}, (∀ v ∈ ys, ∃ t, v = V.ref t ∧ F t = some (.tup [.int (keyP H v).1, .int (keyP H v).2])) → A2 (rep K F) ys (ys.map (keyP H))
  | [], _ => .nil
  | v :: ys, h => by
    obtain ⟨t, e, q⟩ := h v List.mem_cons_self
    refine .cons ?_ (rep_keys fun y hy => h y (List.mem_cons_of_mem _ hy))
    subst e
    exact ⟨t, _, _, rfl, q, rfl, rfl⟩
theorem cr_sortP {K : Fg} (hK : X.K = K) : CallR X (.builtin "sorted") (fun vs H Q => ∃ (a : Addr) (us : List V) (F : Hp) (xs : List (Int × Int)), vs = [V.ref a] ∧ SqL K H a us ∧ Same F H ∧ A2 (rep K F) us xs ∧
    ∀ p ys, H p = none → A2 (rep K F) ys (sortP xs) → Q (.ref p) (upd H p (.lst ys))) := by
  subst hK
  intro pins s σ H vs us Q I r h
  obtain ⟨a, us', F, xs, rfl, hs, sF, hA, q⟩ := h
  obtain ⟨e1, e2⟩ := keyP_all sF hA
  refine cr_sortedPO pins s σ H _ us Q I r ⟨a, us', keyP H, rfl, hs, fun x hx => ?_, fun ys p h1 h2 hp => q p ys hp ?_⟩
  · obtain ⟨t, e, k⟩ := e2 x hx
    exact ⟨t, e, sF _ _ k⟩
  · have e : ys.map (keyP H) = sortP xs := by
      refine sortP_eq ?_ ?_
      · rw [e1]
        exact h2.perm.map _
      · rw [List.pairwise_map]
        refine h1.imp fun {x y} h => ?_
        have h := SrtO.lexB_no.mp h
        unfold leP
        rw [decide_eq_true_eq]
        omega
    rw [← e]
    exact rep_keys fun v hv => e2 v (h2.perm.mem_iff.mp hv)
end
/-! ### dicts of scalars -/
section
variable {κ β γ δ : Type} [DecidableEq κ]
def mput (m : List (κ × β)) (k : κ) (v : β) : List (κ × β) := if (m.any fun p => decide (p.1 = k)) = true then m.map (fun p => if p.1 = k then (p.1, v) else p) else m ++ [(k, v)]
def mhas (m : List (κ × β)) (k : κ) : Bool := m.any fun p => decide (p.1 = k)
def mget (m : List (κ × β)) (k : κ) : Option β := (m.find? fun p => decide (p.1 = k)).map (·.2)
def mputR (m : List (κ × β)) (k : κ) (v : β) : R (List (κ × β)) := if m.length < 100000 then .ok (mput m k v) else .bad
def mgetR (m : List (κ × β)) (k : κ) : R β := ofO (mget m k)
/-- as the dict stands -/
def encM (e : κ → γ) (ev : β → V) (m : List (κ × β)) : List (γ × V) := m.map fun p => (e p.1, ev p.2)
variable [DecidableEq γ] {e : κ → γ} {ev : β → V}
theorem any_enc (he : ∀ a b, e a = e b → a = b) (m : List (κ × β)) (k : κ) : ((encM e ev m).any fun p => decide (p.1 = e k)) = m.any fun p => decide (p.1 = k) := by
  unfold encM
  rw [List.any_map]
  congr 1
  funext p
  show decide (e p.1 = e k) = decide (p.1 = k)
  by_cases h : p.1 = k
  · rw [h]; simp
  · rw [decide_eq_false h, decide_eq_false fun z => h (he _ _ z)]
theorem put_enc (he : ∀ a b, e a = e b → a = b) (m : List (κ × β)) (k : κ) (v : β) : putK (encM e ev m) (e k) (ev v) = encM e ev (mput m k v) := by
  unfold putK mput
  rw [any_enc he]
  by_cases h : (m.any fun p => decide (p.1 = k)) = true
  · rw [if_pos h, if_pos h]
    unfold encM
    rw [List.map_map, List.map_map]
    refine List.map_congr_left fun p _ => ?_
    show (if e p.1 = e k then (e p.1, ev v) else (e p.1, ev p.2)) = (fun q : κ × β => (e q.1, ev q.2)) (if p.1 = k then (p.1, v) else p)
    by_cases h : p.1 = k
    · rw [if_pos h, if_pos (congrArg e h)]
    · rw [if_neg h, if_neg fun z => h (he _ _ z)]
  · rw [if_neg h, if_neg h]
    unfold encM
    rw [List.map_append]
    rfl
theorem val_enc (he : ∀ a b, e a = e b → a = b) (k : κ) : ∀ m : List (κ × β), valV (encM e ev m) (e k) = (mget m k).map ev
  | [] => rfl
  | p :: m => by
    show valV ((e p.1, ev p.2) :: encM e ev m) (e k) = _
    unfold mget
    by_cases h : p.1 = k
    · rw [valV_pos (congrArg e h), List.find?_cons_of_pos (by simpa using h)]
      rfl
    · rw [valV_neg (fun z => h (he _ _ z)), List.find?_cons_of_neg (by simpa using h), val_enc he k m]
      rfl
theorem enc_length (m : List (κ × β)) : (encM e ev m).length = m.length := List.length_map _
end
abbrev kI : Int → Key := .inl
theorem kI_inj : ∀ a b, kI a = kI b → a = b := fun _ _ h => Sum.inl.inj h
section
variable {β : Type} {ev : β → V} {H : Hp} {a b : Addr}
theorem dget_k {m : List (Int × β)} {k : Int} (e : H a = some (.dK (encM kI ev m))) : DGet H a (.int k) ((mget m k).map ev) := by
  rw [← val_enc kI_inj]
  exact DGet.k (k := kI k) e
theorem get_has {κ : Type} [DecidableEq κ] (m : List (κ × β)) (k : κ) (f : β → V) : ((mget m k).map f).isSome = mhas m k := by
  rw [Option.isSome_map]
  unfold mget mhas
  rw [Option.isSome_map, List.isSome_find?]
theorem dput_k {m : List (Int × β)} {k : Int} {v : β} (e : H a = some (.dK (encM kI ev m))) (hl : m.length < sizeLine) : DPut H a (.int k) (ev v) (upd H a (.dK (encM kI ev (mput m k v)))) := by
  rw [← put_enc kI_inj]
  exact DPut.k (k := kI k) e (by rw [enc_length]; exact hl)
end
theorem pn_mput {κ β δ : Type} [DecidableEq κ] {m : List (κ × β)} {k : κ} {v : β} {f : List (κ × β) → R δ} {P : δ → Prop} {E : Exn → Prop} (h : Post (mputR m k v >>= f) P E) : ∃ m', m.length < sizeLine ∧ m' = mput m k v ∧ Post (f m') P E := by
  unfold mputR at h
  by_cases hl : m.length < 100000
  · rw [if_pos hl] at h
    exact ⟨_, Nat.lt_of_lt_of_le hl line5, rfl, h⟩
  · rw [if_neg hl] at h
    exact (show False from h).elim
/-! ### list(range(n)) -/
@[irreducible] def listRng (i j : Int) : R (List Int) := if -(2 ^ 62) ≤ i ∧ i < 2 ^ 62 ∧ -(2 ^ 62) ≤ j ∧ j < 2 ^ 62 ∧ (j - i).toNat ≤ 100000 then .ok (rng i j) else .bad
theorem rgV_eq (i j : Int) : rgV i j = (rng i j).map V.int := by
  unfold rgV rng
  rw [List.map_map]
  rfl
theorem pb_lrng {δ : Type} {i j : Int} {f : List Int → R δ} {P : δ → Prop} {E : Exn → Prop} (h : Post (listRng i j >>= f) P E) : ∃ l, RgOk i j ∧ l = rng i j ∧ Post (f l) P E := by
  unfold listRng at h
  by_cases hl : -(2 ^ 62) ≤ i ∧ i < 2 ^ 62 ∧ -(2 ^ 62) ≤ j ∧ j < 2 ^ 62 ∧ (j - i).toNat ≤ 100000
  · rw [if_pos hl] at h
    obtain ⟨a, b, c, d, e⟩ := hl
    exact ⟨_, ⟨a, b, c, d, by omega⟩, rfl, h⟩
  · rw [if_neg hl] at h
    exact (show False from h).elim
/-! ### a list of perhaps nothing, where nothing is nothing -/
def allS {α : Type} : List (Option α) → R (List α)
  | [] => .ok []
  | none :: _ => .bad
  | some x :: xs => allS xs >>= fun ys => .ok (x :: ys)
theorem allS_iff {α : Type} : ∀ {xs : List (Option α)} {ys : List α}, allS xs = R.ok ys ↔ xs = ys.map some
  | [], ys => by
    constructor
    · intro h; cases h; rfl
    · intro h
      cases ys with
      | nil => rfl
      | cons => cases h
  | none :: xs, ys => by
    constructor
    · intro h; cases h
    · intro h
      cases ys <;> cases h
  | some x :: xs, ys => by
    constructor
    · intro h
      obtain ⟨zs, e, h⟩ := bind_ok_iff.mp h
      cases h
      rw [allS_iff.mp e]
      rfl
    · intro h
      cases ys with
      | nil => cases h
      | cons y ys =>
        rw [List.map_cons] at h
        injection h with h1 h2
        cases h1
        show (allS xs >>= fun ys => R.ok (x :: ys)) = _
        rw [allS_iff.mpr h2]
        rfl
theorem pb_allS {α δ : Type} {xs : List (Option α)} {f : List α → R δ} {P : δ → Prop} {E : Exn → Prop} (h : Post (allS xs >>= f) P E) : ∃ ys, xs = ys.map some ∧ Post (f ys) P E := by
  cases e : allS xs with
  | ok ys =>
    rw [e] at h
    exact ⟨ys, allS_iff.mp e, h⟩
  | exc x =>
    rw [e] at h
    exfalso
    clear h
    induction xs with
    | nil => cases e
    | cons x xs ih =>
      cases x with
      | none => cases e
      | some x =>
        have e' : (allS xs >>= fun ys => R.ok (x :: ys)) = R.exc _ := e
        cases e2 : allS xs with
        | ok y => rw [e2] at e'; cases e'
        | exc y => rw [e2] at e'; cases e'; exact ih e2
        | bad => rw [e2] at e'; cases e'
  | bad =>
    rw [e] at h
    exact (show False from h).elim
theorem A2.unsome {α : Type} [Rep α] {K : Fg} {F : Hp} : ∀ {vs : List V} {ys : List α}, A2 (rep K F) vs (ys.map some) → A2 (rep K F) vs ys
  | [], [], _ => .nil
  | _ :: _, [], h => nomatch h
  | [], _ :: _, h => nomatch h
  | _ :: _, _ :: _, .cons a b => .cons a (A2.unsome b)
/-! ### pop -/
@[irreducible] def popB {α : Type} (xs : List α) (i : Int) : R (α × List α) := if -(2 ^ 62) ≤ i ∧ i < 2 ^ 62 then popAt xs i else .bad
theorem pn_popB {α β : Type} {xs : List α} {i : Int} {f : α × List α → R β} {Q : β → Prop} {E : Exn → Prop} (h : Post (popB xs i >>= f) Q E) : ∃ j x ys, (-(2 ^ 63) ≤ i ∧ i < 2 ^ 63) ∧ ixN xs.length i = some j ∧ xs[j]? = some x ∧ ys = xs.eraseIdx j ∧ Post (f (x, ys)) Q E := by
  unfold popB at h
  by_cases hi : -(2 ^ 62) ≤ i ∧ i < 2 ^ 62
  · rw [if_pos hi] at h
    obtain ⟨j, x, ys, a, b, c, d⟩ := pn_popAt h
    exact ⟨j, x, ys, by omega, a, b, c, d⟩
  · rw [if_neg hi] at h
    exact (show False from h).elim
theorem pn_popI {α β : Type} {xs : List α} {f : α × List α → R β} {Q : β → Prop} {E : Exn → Prop} (h : Post (popI xs >>= f) Q E) : ∃ x ys, xs[xs.length - 1]? = some x ∧ ys = xs.dropLast ∧ Post (f (x, ys)) Q E := by
  unfold popI at h
  rw [List.getLast?_eq_getElem?] at h
  cases e : xs[xs.length - 1]? with
  | none =>
    rw [e] at h
    exact (show False from h).elim
  | some x =>
    rw [e] at h
    exact ⟨x, _, rfl, rfl, h⟩
theorem A2.lastV {α : Type} {r : V → α → Prop} {vs : List V} {xs : List α} {x : α} (h : A2 r vs xs) (e : xs[xs.length - 1]? = some x) : ∃ u, vs[vs.length - 1]? = some u ∧ r u x := by
  rw [h.length]
  exact h.get e
/-! ### in, of a dict of scalars -/
def tDInH (ty td : TE) : TE := fun σ H Q => ty σ H fun y H1 => td σ H1 fun x H2 => ∃ a o b, x = .ref a ∧ DGet H2 a y o ∧ o.isSome = b ∧ Q (.bl b) H2
def tDNotInH (ty td : TE) : TE := fun σ H Q => ty σ H fun y H1 => td σ H1 fun x H2 => ∃ a o b, x = .ref a ∧ DGet H2 a y o ∧ o.isSome = b ∧ Q (.bl (!b)) H2
section
variable {X : Cx} {o i : Expr} {td ty : TE}
theorem pc_dinH (hu : X.A.units + 1 < cLine) (hi : PE X i ty) (ho : PE X o td) : PC X .In i o (tDInH ty td) := by
  refine ⟨fun pins s σ H Q I h => ?_⟩
  refine thn (hi.run pins s σ H _ I h) fun iv s1 ⟨y, H1, I1, ry, q1⟩ => thn (ho.run pins s1 σ H1 _ I1 q1) fun u s2 ⟨x, H2, I2, rx, a, ov, b, ex, g, eb, q2⟩ => ?_
  subst ex
  subst eb
  obtain rfl : u = Value.ref a := rx
  exact d_in hu I2 g ry fun s3 I3 => ⟨.bl ov.isSome, H2, I3, rfl, q2⟩
theorem pc_dnotinH (hu : X.A.units + 1 < cLine) (hi : PE X i ty) (ho : PE X o td) : PC X .NotIn i o (tDNotInH ty td) := by
  refine ⟨fun pins s σ H Q I h => ?_⟩
  refine thn (hi.run pins s σ H _ I h) fun iv s1 ⟨y, H1, I1, ry, q1⟩ => thn (ho.run pins s1 σ H1 _ I1 q1) fun u s2 ⟨x, H2, I2, rx, a, ov, b, ex, g, eb, q2⟩ => ?_
  subst ex
  subst eb
  obtain rfl : u = Value.ref a := rx
  exact d_notIn hu I2 g ry fun s3 I3 => ⟨.bl (!ov.isSome), H2, I3, rfl, q2⟩
end
theorem Room.units1 {k : Nat} {A : Around} (r : Room k A) : A.units + 1 < cLine := by
  have := r.un
  omega
end Z
/-! ZX: an exception caught by its class, held behind the suite as a thing of its own -/
namespace L2
open PySem PySem.Spec PyProof.Rows
/-- a caught exception of the class cls at a -/
def ExH (cls : Value) (a : Addr) : HO := .ext fun h => ∃ (oe : Obj), h.get? a = some oe ∧ Zc cls none oe ∧ ∃ vs, oe.data = .fields vs
end L2
namespace Z
open PySem L2
open Rep (rep)
/-- the class that a name of the text names -/
def Nm (K : Fg) (x : Str) (C : Addr) : Prop := PySem.W.nsIn K mainGlobals x = some (some (.ref C))
theorem Nm.uniq {K : Fg} {x : Str} {C D : Addr} (a : Nm K x C) (b : Nm K x D) : C = D := by
  have h := a.symm.trans b
  injection h with h
  injection h with h
  injection h
instance repExn : Rep Exn := ⟨fun K F v e => ∃ a C, v = .ref a ∧ Nm K e.cls C ∧ F a = some (ExH (.ref C) a), fun s ⟨a, C, h, n, q⟩ => ⟨a, C, h, n, s _ _ q⟩⟩
/-- a call that lets no error out -/
def nx {α : Type} (m : R α) : R α := match m with
  | .ok a => .ok a
  | .exc _ => .bad
  | .bad => .bad
theorem kit_ty {K : Fg} {x : Addr} {T : String} {b : Bool} (h1 : PySem.W.kitMeta T = true) (h3 : PySem.W.subIn K (.ref x) (.type T) = some b) : PySem.W.kitOne K (.ref x) (.type T) = some b := by
  have e : PySem.W.kitCls K (.ref x) (.type T) = some b := by
    show (if PySem.W.kitMeta T = true then PySem.W.subIn K (.ref x) (.type T) else none) = some b
    rw [if_pos h1]
    exact h3
  unfold PySem.W.kitOne
  have h4 : (Value.ref x == Value.type T) = false := rfl
  rw [h4, if_neg (by decide)]
  exact e
end Z
/-! Z5: regions: lists of one's own by their number in a store -/
namespace Z
open PySem L2
open Rep (rep)
/-! ### two lists, item by item -/
inductive F2 {α β : Type} (r : α → β → Prop) : List α → List β → Prop
  | nil : F2 r [] []
  | cons {a : α} {b : β} {as : List α} {bs : List β} : r a b → F2 r as bs → F2 r (a :: as) (b :: bs)
section
variable {α β : Type} {r r' : α → β → Prop} {as : List α} {bs : List β}
theorem F2.length : ∀ {as : List α} {bs : List β}, F2 r as bs → as.length = bs.length
  | _, _, .nil => rfl
  | _, _, .cons _ t => by rw [List.length_cons, List.length_cons, F2.length t]
theorem F2.imp (f : ∀ a b, r a b → r' a b) : ∀ {as : List α} {bs : List β}, F2 r as bs → F2 r' as bs
  | _, _, .nil => .nil
  | _, _, .cons h t => .cons (f _ _ h) (F2.imp f t)
theorem F2.get : ∀ {as : List α} {bs : List β} {i : Nat} {b : β}, F2 r as bs → bs[i]? = some b → ∃ a, as[i]? = some a ∧ r a b
  | _, _, _, _, .nil, e => by simp at e
  | _, _, 0, _, .cons h _, e => by simp at e; subst e; exact ⟨_, rfl, h⟩
  | _, _, i + 1, b, .cons _ t, e => by
    obtain ⟨v, h1, h2⟩ := F2.get (i := i) (b := b) t (by simpa using e)
    exact ⟨v, by simpa using h1, h2⟩
theorem F2.set {a : α} {b : β} (h : r a b) : ∀ {as : List α} {bs : List β} (i : Nat), F2 r as bs → F2 r (as.set i a) (bs.set i b)
  | _, _, _, .nil => .nil
  | _, _, 0, .cons _ t => .cons h t
  | _, _, i + 1, .cons q t => .cons q (F2.set h i t)
theorem F2.append : ∀ {as as' : List α} {bs bs' : List β}, F2 r as bs → F2 r as' bs' → F2 r (as ++ as') (bs ++ bs')
  | _, _, _, _, .nil, h => h
  | _, _, _, _, .cons a t, h => .cons a (F2.append t h)
theorem F2.snoc {a : α} {b : β} (h : F2 r as bs) (q : r a b) : F2 r (as ++ [a]) (bs ++ [b]) := h.append (.cons q .nil)
end
/-! ### a store's lists: cells -/
def nz : List Addr → List (List V) → List (Addr × HO)
  | a :: as, vs :: vss => (a, .lst vs) :: nz as vss
  | _, _ => []
theorem nz_split : ∀ {as : List Addr} {vss : List (List V)} {j : Nat} {a : Addr} {vs : List V}, as[j]? = some a → vss[j]? = some vs →
    ∃ x y, nz as vss = x ++ (a, .lst vs) :: y ∧ ∀ us, nz as (vss.set j us) = x ++ (a, .lst us) :: y
  | [], _, j, _, _, h, _ => by simp at h
  | _ :: _, [], j, _, _, _, h => by simp at h
  | b :: as, ws :: vss, 0, a, vs, h1, h2 => by
    simp at h1 h2
    subst h1 h2
    exact ⟨[], nz as vss, rfl, fun _ => rfl⟩
  | b :: as, ws :: vss, j + 1, a, vs, h1, h2 => by
    obtain ⟨x, y, e1, e2⟩ := nz_split (as := as) (vss := vss) (j := j) (a := a) (vs := vs) (by simpa using h1) (by simpa using h2)
    exact ⟨(b, .lst ws) :: x, y, by show (b, HO.lst ws) :: nz as vss = _; rw [e1]; rfl, fun us => by show (b, HO.lst ws) :: nz as (vss.set j us) = _; rw [e2]; rfl⟩
theorem nz_snoc : ∀ {as : List Addr} {vss : List (List V)} {a : Addr} {vs : List V}, as.length = vss.length → nz (as ++ [a]) (vss ++ [vs]) = nz as vss ++ [(a, .lst vs)]
  | [], [], _, _, _ => rfl
  | [], _ :: _, _, _, h => by simp at h
  | _ :: _, [], _, _, h => by simp at h
  | b :: as, ws :: vss, a, vs, h => by
    show (b, HO.lst ws) :: nz (as ++ [a]) (vss ++ [vs]) = (b, HO.lst ws) :: (nz as vss ++ [(a, .lst vs)])
    rw [nz_snoc (by simpa using h)]
section
variable {F H : Hp} {os os' pre post : List (Addr × HO)} {a p : Addr} {o : HO} {as : List Addr} {vss : List (List V)} {j : Nat} {vs : List V}
theorem W.perm (h : os.Perm os') (w : W F H os) : W F H os' where
  same := w.same
  own := fun q hq => w.own q (h.mem_iff.mpr hq)
  nd := h.pairwise_iff (fun e q => e q.symm) |>.mp w.nd
  nt := fun q hq => w.nt q (h.mem_iff.mpr hq)
/-- the j-th list of a store -/
theorem W.nget (w : W F H (pre ++ (nz as vss ++ post))) (h1 : as[j]? = some a) (h2 : vss[j]? = some vs) : H a = some (.lst vs) := by
  obtain ⟨x, y, e, _⟩ := nz_split h1 h2
  rw [e] at w
  exact (w.own (a, .lst vs) (by simp)).1
theorem W.nset (w : W F H (pre ++ (nz as vss ++ post))) (us : List V) (h1 : as[j]? = some a) (h2 : vss[j]? = some vs) : W F (upd H a (.lst us)) (pre ++ (nz as (vss.set j us) ++ post)) := by
  obtain ⟨x, y, e, e2⟩ := nz_split h1 h2
  rw [e] at w
  rw [e2]
  have w' : W F H ((pre ++ x) ++ (a, .lst vs) :: (y ++ post)) := by
    have e3 : pre ++ (x ++ (a, HO.lst vs) :: y ++ post) = (pre ++ x) ++ (a, HO.lst vs) :: (y ++ post) := by simp
    rw [← e3]
    exact w
  have w2 := w'.set (o' := .lst us)
  have e3 : pre ++ (x ++ (a, HO.lst us) :: y ++ post) = (pre ++ x) ++ (a, HO.lst us) :: (y ++ post) := by simp
  rw [e3]
  exact w2
/-- a cell goes into a store -/
theorem W.nadd (w : W F H ((p, .lst vs) :: (pre ++ (nz as vss ++ post)))) (hl : as.length = vss.length) : W F H (pre ++ (nz (as ++ [p]) (vss ++ [vs]) ++ post)) := by
  rw [nz_snoc hl]
  refine w.perm ?_
  have e : pre ++ (nz as vss ++ [(p, HO.lst vs)] ++ post) = (pre ++ nz as vss) ++ (p, HO.lst vs) :: post := by simp
  have e2 : (p, HO.lst vs) :: (pre ++ (nz as vss ++ post)) = (p, HO.lst vs) :: ((pre ++ nz as vss) ++ post) := by simp
  rw [e, e2]
  exact List.perm_middle.symm
theorem W.dropL (w : W F H (pre ++ (os ++ post))) : W F H (pre ++ post) where
  same := w.same
  own := fun q hq => w.own q (by
    rcases List.mem_append.mp hq with h | h
    · exact List.mem_append_left _ h
    · exact List.mem_append_right _ (List.mem_append_right _ h))
  nd := by
    have nd := w.nd
    rw [List.pairwise_append] at nd ⊢
    obtain ⟨n1, n2, n3⟩ := nd
    rw [List.pairwise_append] at n2
    exact ⟨n1, n2.2.1, fun x hx y hy => n3 x hx y (List.mem_append_right _ hy)⟩
  nt := fun q hq => w.nt q (by
    rcases List.mem_append.mp hq with h | h
    · exact List.mem_append_left _ h
    · exact List.mem_append_right _ (List.mem_append_right _ h))
/-- a whole store is never written again -/
theorem W.nfreeze : ∀ {as : List Addr} {vss : List (List V)} {F : Hp}, W F H (pre ++ (nz as vss ++ post)) → ∃ F', Same F F' ∧ W F' H (pre ++ post) ∧ ∀ (j : Nat) (a : Addr) (vs : List V), as[j]? = some a → vss[j]? = some vs → F' a = some (.lst vs)
  | [], _, F, w => ⟨F, Same.refl _, w, fun j a vs h => by simp at h⟩
  | _ :: _, [], F, w => ⟨F, Same.refl _, w, fun j a vs _ h => by simp at h⟩
  | b :: as, ws :: vss, F, w => by
    have w' : W F H (pre ++ (b, .lst ws) :: (nz as vss ++ post)) := w
    obtain ⟨F1, s1, w1, q1⟩ := w'.freezeE
    obtain ⟨F2, s2, w2, q2⟩ := W.nfreeze (as := as) (vss := vss) w1
    refine ⟨F2, s1.trans s2, w2, fun j a vs h1 h2 => ?_⟩
    cases j with
    | zero =>
      simp at h1 h2
      subst h1 h2
      exact s2 _ _ q1
    | succ j => exact q2 j a vs (by simpa using h1) (by simpa using h2)
end
/-! ### what stands in a store -/
section
variable {α β δ : Type} [Rep α] [Rep β] {K : Fg} {F F' H : Hp} {as as' : List Addr} {vss : List (List V)} {st : List (List α)}
structure Sto (K : Fg) (F : Hp) (as : List Addr) (vss : List (List V)) (st : List (List α)) : Prop where
  len : as.length = vss.length
  all : F2 (A2 (rep K F)) vss st
theorem Sto.nil : Sto K F [] [] ([] : List (List α)) := ⟨rfl, .nil⟩
theorem Sto.mono (s : Same F F') (h : Sto K F as vss st) : Sto K F' as vss st := ⟨h.len, h.all.imp fun _ _ q => q.mono s⟩
theorem Sto.len2 (h : Sto K F as vss st) : as.length = st.length := h.len.trans h.all.length
theorem Sto.get {j : Nat} {xs : List α} (h : Sto K F as vss st) (e : st[j]? = some xs) : ∃ a vs, as[j]? = some a ∧ vss[j]? = some vs ∧ A2 (rep K F) vs xs := by
  obtain ⟨vs, h1, h2⟩ := h.all.get e
  have hj := (List.getElem?_eq_some_iff.mp e).1
  rw [← h.len2] at hj
  exact ⟨as[j], vs, List.getElem?_eq_getElem hj, h1, h2⟩
theorem Sto.set {j : Nat} {vs : List V} {xs : List α} (h : Sto K F as vss st) (q : A2 (rep K F) vs xs) : Sto K F as (vss.set j vs) (st.set j xs) := ⟨by rw [List.length_set]; exact h.len, h.all.set q j⟩
theorem Sto.snoc {p : Addr} {vs : List V} {xs : List α} (h : Sto K F as vss st) (q : A2 (rep K F) vs xs) : Sto K F (as ++ [p]) (vss ++ [vs]) (st ++ [xs]) := ⟨by simp [h.len], h.all.snoc q⟩
/-- a number in a store -/
abbrev Ix := Nat
def RX (as : List Addr) (v : V) (j : Ix) : Prop := ∃ a, v = .ref a ∧ as[j]? = some a
theorem RX.mono (h : as <+: as') {v : V} {j : Ix} (q : RX as v j) : RX as' v j := by
  obtain ⟨a, e, q⟩ := q
  obtain ⟨t, rfl⟩ := h
  refine ⟨a, e, ?_⟩
  rw [List.getElem?_append_left (List.getElem?_eq_some_iff.mp q).1]
  exact q
theorem RX.new (h : as.length = n) {p : Addr} : RX (as ++ [p]) (.ref p) n := ⟨p, rfl, by rw [List.getElem?_append_right (by omega), ← h]; simp⟩
theorem IQ.mono (h : as <+: as') {a : Addr} {j : Nat} (q : as[j]? = some a) : as'[j]? = some a := by
  obtain ⟨t, rfl⟩ := h
  rw [List.getElem?_append_left (List.getElem?_eq_some_iff.mp q).1]
  exact q
theorem IQ.new {n : Nat} (h : as.length = n) {p : Addr} : (as ++ [p])[n]? = some p := by
  rw [List.getElem?_append_right (by omega), ← h]
  simp
theorem pfx_trans {as2 : List Addr} (h : as <+: as') (h' : as' <+: as2) : as <+: as2 := h.trans h'
theorem Sto.getq {j : Nat} {xs : List α} {a : Addr} (h : Sto K F as vss st) (e : st[j]? = some xs) (q : as[j]? = some a) : ∃ vs, vss[j]? = some vs ∧ A2 (rep K F) vs xs := h.all.get e
theorem pfx_refl : as <+: as := List.prefix_refl _
theorem pfx_snoc {p : Addr} : as <+: as ++ [p] := List.prefix_append _ _
/-- the list of a number -/
def getS (st : List (List α)) (j : Ix) : R (List α) := ofO st[j]?
theorem pb_getS {st : List (List α)} {j : Ix} {f : List α → R δ} {P : δ → Prop} {E : Exn → Prop} (h : Post (getS st j >>= f) P E) : ∃ xs, st[j]? = some xs ∧ Post (f xs) P E := pb_ofO h
/-- .. another list in its place -/
def setS (st : List (List α)) (j : Ix) (ys : List α) : R (List (List α)) := .ok (st.set j ys)
theorem pn_setS {st : List (List α)} {j : Ix} {ys : List α} {f : List (List α) → R δ} {P : δ → Prop} {E : Exn → Prop} (h : Post (setS st j ys >>= f) P E) : ∃ st', st' = st.set j ys ∧ Post (f st') P E := ⟨_, rfl, h⟩
/-- .. a new one -/
def newS (st : List (List α)) (ys : List α) : R (Ix × List (List α)) := .ok (st.length, st ++ [ys])
theorem pn_newS {st : List (List α)} {ys : List α} {f : Ix × List (List α) → R δ} {P : δ → Prop} {E : Exn → Prop} (h : Post (newS st ys >>= f) P E) : ∃ j st', j = st.length ∧ st' = st ++ [ys] ∧ Post (f (j, st')) P E := ⟨_, _, rfl, rfl, h⟩
/-- lists by their numbers -/
def deref (st : List (List α)) (js : List Ix) : R (List (List α)) := mapR (getS st) js
theorem deref_rep {vs : List V} {js : List Ix} {xss : List (List α)} (h : Sto K F as vss st) (hf : ∀ (j : Nat) (a : Addr) (vs : List V), as[j]? = some a → vss[j]? = some vs → F' a = some (.lst vs)) (s : Same F F')
    (hv : A2 (RX as) vs js) (e : deref st js = R.ok xss) : A2 (rep K F') vs xss := by
  induction hv generalizing xss with
  | nil =>
    cases e
    exact .nil
  | cons a b ih =>
    obtain ⟨ad, rfl, h1⟩ := a
    obtain ⟨ys, e1, e⟩ := bind_ok_iff.mp e
    obtain ⟨yss, e2, e⟩ := bind_ok_iff.mp e
    cases e
    rename_i j js' _ _
    unfold getS at e1
    cases q : st[j]? with
    | none => rw [q] at e1; cases e1
    | some zs =>
      rw [q] at e1
      cases e1
      obtain ⟨a', ws, h2, h3, h4⟩ := h.get q
      rw [h1] at h2
      cases h2
      exact .cons ⟨ad, ws, rfl, hf _ _ _ h1 h3, h4.mono s⟩ (ih e2)
theorem pb_deref {js : List Ix} {f : List (List α) → R δ} {P : δ → Prop} {E : Exn → Prop} (h : Post (deref st js >>= f) P E) : ∃ xss, deref st js = R.ok xss ∧ Post (f xss) P E := by
  cases e : deref st js with
  | ok xss =>
    rw [e] at h
    exact ⟨xss, rfl, h⟩
  | exc x =>
    exfalso
    clear h
    unfold deref at e
    induction js with
    | nil => cases e
    | cons j js ih =>
      have e' : (getS st j >>= fun y => mapR (getS st) js >>= fun ys => R.ok (y :: ys)) = R.exc x := e
      unfold getS at e'
      cases q : st[j]? with
      | none => rw [q] at e'; cases e'
      | some z =>
        rw [q] at e'
        have e2 : (mapR (getS st) js >>= fun ys => R.ok (z :: ys)) = R.exc x := e'
        cases q2 : mapR (getS st) js with
        | ok y => rw [q2] at e2; cases e2
        | exc y => rw [q2] at e2; cases e2; exact ih q2
        | bad => rw [q2] at e2; cases e2
  | bad =>
    rw [e] at h
    exact (show False from h).elim
end
section
variable {K : Fg} {F : Hp} {a : Addr} {β : Type} {vs : List V} {xs : List β} {r : V → β → Prop}
theorem tw_listR (h : A2 r vs xs) : TW (Itl K a) xs (fun H => SqL K H a vs) (fun b H x H' => H' = H ∧ r x b) := ⟨by
  rw [← h.length]
  exact walk_list.mono (fun _ g => g) fun i H x H' _ _ y => by
    obtain ⟨y1, y2⟩ := y
    obtain ⟨b, h1, h2⟩ := h.getV y2
    exact ⟨b, h1, y1, h2⟩⟩
end
section
variable {F H : Hp} {os pre post x : List (Addr × HO)} {q : Addr × HO} {as : List Addr} {vss : List (List V)}
/-- a store behind the cells -/
theorem W.nback (w : W F H (q :: (nz as vss ++ (pre ++ post)))) : W F H (q :: (pre ++ (nz as vss ++ post))) := by
  refine w.perm (List.Perm.cons _ ?_)
  rw [← List.append_assoc, ← List.append_assoc]
  exact List.perm_append_comm.append_right _
variable {α : Type} [Rep α] {K : Fg} {a : Addr} {us : List V} {js : List Ix} {st xss : List (List α)}
end
/-! ### comprehensions, what is made told by the state -/
section
variable {J : It} {β γ δ ε : Type} {items : List β} {G : Hp → Prop} {Y : β → Hp → V → Hp → Prop} {g : TG} {tt : TT} {te : TE} {P : ε → Prop} {X : Exn → Prop} {K : Fg} {vs : List Nat} {σ : St} {F H1 : Hp} {os : List (Addr × HO)} {D : Addr} {Qd : Hp → Prop}
theorem lcG (tw : TW J items G Y) {f : γ → β → R (Option δ × γ)} {s0 : γ} {k : List δ × γ → R ε} (hm : Post (filStG f s0 items >>= k) P X) (O : γ → Hp → List (Addr × HO) → List V → List δ → Prop) (w : W F H1 os) (o0 : O s0 F os [] []) (nD : H1 D = none)
    (hl : ∀ c F' os' us ys, O c F' os' us ys → us.length = ys.length)
    (hG : ∀ c F' H' os' acc ys, Same F F' → W F' H' ((D, .lst acc) :: os') → O c F' os' acc ys → G H')
    (hs : ∀ (b : β) (c : γ) (x : V) (F' H' H'' : Hp) (os' : List (Addr × HO)) (acc : List V) (ys : List δ) (N : V → Hp → Prop) (N0 : Hp → Prop) (P' : Option δ × γ → Prop), Same F F' → W F' H' ((D, .lst acc) :: os') → O c F' os' acc ys → Y b H' x H'' →
      (∀ d c', P' (some d, c') → ∀ y F'' H'' os'', W F'' H'' ((D, .lst acc) :: os'') → Same F' F'' → O c' F'' os'' (acc ++ [y]) (ys ++ [d]) → N y H'') →
      (∀ c', P' (none, c') → ∀ F'' H'' os'', W F'' H'' ((D, .lst acc) :: os'') → Same F' F'' → O c' F'' os'' acc ys → N0 H'') → Post (f c b) P' X →
      g x (wipe σ vs) H'' fun σ2 H2 => wipe σ2 vs = wipe σ vs ∧ tt σ2 H2 fun b H3 => if b = true then te σ2 H3 N else N0 H3)
    (hd : ∀ c us F' H' os' ys, Same F F' → W F' H' ((D, .lst us) :: os') → O c F' os' us ys → Post (k (ys, c)) P X → Qd H') : LcAsk J g tt te vs σ H1 D Qd := by
  obtain ⟨hlen, hm⟩ := pb_grd (pb_assoc hm)
  have hlen : items.length < sizeLine := Nat.lt_of_lt_of_le (of_decide_eq_true hlen) line5
  refine lc_it tw.walk (fun i H => ∃ c F' os' us ys, i ≤ items.length ∧ Same F F' ∧ W F' H ((D, .lst us) :: os') ∧ O c F' os' us ys ∧ ys.length ≤ i ∧ Post (filSt f c (items.drop i) >>= fun q => k (ys ++ q.1, q.2)) P X) ?_ ?_ ?_ ?_
  · exact ⟨s0, F, os, [], [], Nat.zero_le _, Same.refl _, w.new nD, o0, Nat.le_refl _, hm⟩
  · rintro i H _ ⟨c, F', os', us, ys, _, s, w', o, _⟩
    exact hG c F' H os' us ys s w' o
  · rintro i x H H' hi ⟨c, F', os', us, ys, _, s, w', o, hl2, hm⟩ ⟨b, hb, y⟩
    rw [drop_cons hb] at hm
    have hm' : Post ((f c b >>= fun p => filSt f p.2 (items.drop (i + 1)) >>= fun q => match p.1 with
      | some y => (R.ok (y :: q.1, q.2) : R (List δ × γ))
      | none => R.ok q) >>= fun q => k (ys ++ q.1, q.2)) P X := hm
    rw [bind_bind] at hm'
    have hm2 := post_bind hm'
    have hul : us.length = ys.length := hl _ _ _ _ _ o
    refine hs b c x F' H H' os' us ys (fun y H4 => ∃ acc, H4 D = some (.lst acc) ∧ acc.length < sizeLine ∧ _) _ _ s w' o y ?_ ?_ hm2
    · intro d c' p2 y F'' H'' os'' w2 s2 o2
      refine ⟨us, w2.get (pre := []), by omega, c', F'', os'', us ++ [y], ys ++ [d], hi, s.trans s2, w2.set (pre := []), o2, by rw [List.length_append, List.length_singleton]; omega, ?_⟩
      have p3 : Post ((filSt f c' (items.drop (i + 1)) >>= fun q => (R.ok (d :: q.1, q.2) : R (List δ × γ))) >>= fun q => k (ys ++ q.1, q.2)) P X := p2
      rw [bind_bind] at p3
      have e : (fun q : List δ × γ => (R.ok (d :: q.1, q.2) : R (List δ × γ)) >>= fun q => k (ys ++ q.1, q.2)) = fun q => k (ys ++ [d] ++ q.1, q.2) := by
        funext q
        show k (ys ++ (d :: q.1), q.2) = k (ys ++ [d] ++ q.1, q.2)
        rw [List.append_assoc]
        rfl
      rw [e] at p3
      exact p3
    · intro c' p2 F'' H'' os'' w2 s2 o2
      refine ⟨c', F'', os'', us, ys, hi, s.trans s2, w2, o2, by omega, ?_⟩
      have p3 : Post ((filSt f c' (items.drop (i + 1)) >>= fun q => (R.ok q : R (List δ × γ))) >>= fun q => k (ys ++ q.1, q.2)) P X := p2
      rw [bind_bind] at p3
      exact p3
  · rintro H ⟨c, F', os', us, ys, _, s, w', o, _, hm⟩
    rw [List.drop_length] at hm
    have hm' : Post (k (ys ++ [], c)) P X := hm
    rw [List.append_nil] at hm'
    exact hd c us F' H os' ys s w' o hm'
theorem lcGM (tw : TW J items G Y) {f : γ → β → R (δ × γ)} {s0 : γ} {k : List δ × γ → R ε} (hm : Post (mapStG f s0 items >>= k) P X) (O : γ → Hp → List (Addr × HO) → List V → List δ → Prop) (w : W F H1 os) (o0 : O s0 F os [] []) (nD : H1 D = none)
    (hl : ∀ c F' os' us ys, O c F' os' us ys → us.length = ys.length)
    (hG : ∀ c F' H' os' acc ys, Same F F' → W F' H' ((D, .lst acc) :: os') → O c F' os' acc ys → G H')
    (hs : ∀ (b : β) (c : γ) (x : V) (F' H' H'' : Hp) (os' : List (Addr × HO)) (acc : List V) (ys : List δ) (N : V → Hp → Prop) (P' : δ × γ → Prop), Same F F' → W F' H' ((D, .lst acc) :: os') → O c F' os' acc ys → Y b H' x H'' →
      (∀ d c', P' (d, c') → ∀ y F'' H'' os'', W F'' H'' ((D, .lst acc) :: os'') → Same F' F'' → O c' F'' os'' (acc ++ [y]) (ys ++ [d]) → N y H'') → Post (f c b) P' X →
      g x (wipe σ vs) H'' fun σ2 H2 => wipe σ2 vs = wipe σ vs ∧ te σ2 H2 N)
    (hd : ∀ c us F' H' os' ys, Same F F' → W F' H' ((D, .lst us) :: os') → O c F' os' us ys → Post (k (ys, c)) P X → Qd H') : LcAsk J g tYes te vs σ H1 D Qd := by
  have e : ∀ (s : γ) (l : List β), filSt (fun c b => f c b >>= fun p => R.ok (some p.1, p.2)) s l = mapSt f s l := by
    intro s l
    induction l generalizing s with
    | nil => rfl
    | cons b l ih =>
      show ((f s b >>= fun p => R.ok (some p.1, p.2)) >>= fun p => filSt (fun c b => f c b >>= fun p => R.ok (some p.1, p.2)) p.2 l >>= fun q => match p.1 with
        | some y => (R.ok (y :: q.1, q.2) : R (List δ × γ))
        | none => R.ok q) = (f s b >>= fun p => mapSt f p.2 l >>= fun q => .ok (p.1 :: q.1, q.2))
      rw [bind_bind]
      refine congrArg (f s b >>= ·) ?_
      funext p
      show (filSt (fun c b => f c b >>= fun p => R.ok (some p.1, p.2)) p.2 l >>= fun q => (R.ok (p.1 :: q.1, q.2) : R (List δ × γ))) = _
      rw [ih]
  have hm' : Post (filStG (fun c b => f c b >>= fun p => R.ok (some p.1, p.2)) s0 items >>= k) P X := by
    unfold filStG
    simp only [e]
    exact hm
  refine lcG tw hm' O w o0 nD hl hG (fun b c x F' H' H'' os' acc ys N N0 P' s w' o y hN hN0 hp => ?_) hd
  exact hs b c x F' H' H'' os' acc ys N _ s w' o y (fun d c' p2 y F'' H'' os'' w2 s2 o2 => hN d c' p2 y F'' H'' os'' w2 s2 o2) (post_bind hp)
end
end Z
/-! Z6: constants of the module, things, dicts as written and asked -/
namespace Z
open PySem L2
open Rep (rep)
section
variable {X : Cx}
theorem pe_globI {x : Str} {n : Int} {pos : Pos} (hg : Gl X x) (h : ∃ t, X.mg x = some (.int n t)) (hd : (x == ("__debug__" : Str)) = false := by decide) : PE X (.Name x pos) (tC (.int n)) := by
  obtain ⟨t, e⟩ := h
  exact pe_glob hg e ⟨_, rfl⟩ hd
theorem call_intB : CallR X (.type "int") (fun xs H Q => ∃ k, xs = [.bl k] ∧ Q (.int (if k = true then 1 else 0)) H) := by
  intro pins s σ H xs us Q I r ⟨k, e, q⟩
  exact call_int1 pins s σ H xs us Q I r (.inr ⟨k, e, q⟩)
end
/-- a while's fuel, not to be reckoned with -/
@[irreducible] def fu (n : Nat) : Nat := n
theorem fu_eq (n : Nat) : fu n = n := by
  unfold fu
  rfl
/-- x in l -/
abbrev inB {α : Type} [DecidableEq α] (x : α) (l : List α) : Bool := decide (x ∈ l)
theorem inB_t {α : Type} [DecidableEq α] {x : α} {l : List α} : inB x l = true ↔ x ∈ l := decide_eq_true_iff
theorem inB_f {α : Type} [DecidableEq α] {x : α} {l : List α} : inB x l = false ↔ x ∉ l := decide_eq_false_iff_not
def b2i (b : Bool) : Int := if b = true then 1 else 0
/-! ### things -/
def Thing.isPl : Thing → Bool
  | .pl _ => true
  | .ti _ _ => false
def asPl : Thing → R Int
  | .pl i => .ok i
  | .ti _ _ => .bad
def asTi : Thing → R (Int × Int)
  | .pl _ => .bad
  | .ti a b => .ok (a, b)
def mkpl (xs : List Int) : List Thing := xs.map Thing.pl
def mkti (xs : List (Int × Int)) : List Thing := xs.map fun p => Thing.ti p.1 p.2
section
variable {δ : Type} {P : δ → Prop} {E : Exn → Prop} {K : Fg} {F H : Hp}
theorem pb_asPl {t : Thing} {f : Int → R δ} (h : Post (asPl t >>= f) P E) : ∃ i, t = .pl i ∧ Post (f i) P E := by
  cases t with
  | pl i => exact ⟨i, rfl, h⟩
  | ti a b => exact (show False from h).elim
theorem pb_asTi {t : Thing} {f : Int × Int → R δ} (h : Post (asTi t >>= f) P E) : ∃ q : Int × Int, t = .ti q.1 q.2 ∧ Post (f q) P E := by
  cases t with
  | pl i => exact (show False from h).elim
  | ti a b => exact ⟨(a, b), rfl, h⟩
theorem A2.pl : ∀ {vs : List V} {xs : List Int}, A2 (rep K F) vs xs → A2 (rep K F) vs (mkpl xs)
  | _, _, .nil => .nil
  | _, _, .cons h t => .cons h (A2.pl t)
theorem A2.ti : ∀ {vs : List V} {xs : List (Int × Int)}, A2 (rep K F) vs xs → A2 (rep K F) vs (mkti xs)
  | _, _, .nil => .nil
  | _, _, .cons h t => .cons h (A2.ti t)
theorem th_ty (s : Same F H) {v : V} {t : Thing} (r : rep K F v t) : ∃ a, TyOf K H v (.type a) ∧ (a = "int" ∧ t.isPl = true ∨ a = "tuple" ∧ t.isPl = false) := by
  cases t with
  | pl i =>
    have r' : v = V.int i := r
    subst r'
    exact ⟨_, .int i, .inl ⟨rfl, rfl⟩⟩
  | ti a b =>
    obtain ⟨c, u, w, rfl, q, _⟩ := (show rep K F v (a, b) from r)
    exact ⟨_, .tup (s _ _ q), .inr ⟨rfl, rfl⟩⟩
theorem th_int (s : Same F H) {v : V} {t : Thing} (r : rep K F v t) : ∃ a, TyOf K H v (.type a) ∧ kitB a "int" = some t.isPl := by
  obtain ⟨a, h, z⟩ := th_ty s r
  rcases z with ⟨rfl, e⟩ | ⟨rfl, e⟩
  · exact ⟨_, h, by rw [e]; decide +kernel⟩
  · exact ⟨_, h, by rw [e]; decide +kernel⟩
theorem th_tuple (s : Same F H) {v : V} {t : Thing} (r : rep K F v t) : ∃ a, TyOf K H v (.type a) ∧ kitB a "tuple" = some (!t.isPl) := by
  obtain ⟨a, h, z⟩ := th_ty s r
  rcases z with ⟨rfl, e⟩ | ⟨rfl, e⟩
  · exact ⟨_, h, by rw [e]; decide +kernel⟩
  · exact ⟨_, h, by rw [e]; decide +kernel⟩
end
/-! ### dicts of scalars: as written, asked -/
section
variable {κ β γ : Type} [DecidableEq κ]
/-- as a display makes it -/
def mmk (l : List (κ × β)) : List (κ × β) := l.foldl (fun m p => mput m p.1 p.2) []
theorem merge_enc {ev : β → V} (l m : List (Int × β)) : mergeK (encM kI ev m) (encM kI ev l) = encM kI ev (l.foldl (fun m p => mput m p.1 p.2) m) := by
  induction l generalizing m with
  | nil => rfl
  | cons p l ih =>
    show mergeK (putK (encM kI ev m) (kI p.1) (ev p.2)) (encM kI ev l) = _
    rw [put_enc kI_inj, ih]
    rfl
end
section
variable {β δ : Type} {ev : β → V} {H : Hp} {a b : Addr} {P : δ → Prop} {E : Exn → Prop}
theorem pb_mget {κ : Type} [DecidableEq κ] {m : List (κ × β)} {k : κ} {f : β → R δ} (h : Post (mgetR m k >>= f) P E) : ∃ t, mget m k = some t ∧ Post (f t) P E := pb_ofO h
end
/-! ### tuples cut and joined -/
end Z
/-! Z7: dicts of tuple keys whose values are lists of a store; their values walked -/
namespace L2
open PySem PySem.Spec PyProof.Rows
/-- the values of the locked dict at d, of tuple keys -/
def ItdT (d : Addr) (o : Obj) (kvs : List (List Key × V)) : It :=
  ⟨fun i H => H d = some (.frz o (.dT kvs)) ∧ i < kvs.length, fun i H x H' => H' = H ∧ ∃ k, kvs[i]? = some (k, x), fun i H => H d = some (.frz o (.dT kvs)) ∧ kvs.length ≤ i⟩
section
variable {X : Cx} {pins : List (Addr × Obj)} {σ : St} {H : Hp} {s : Shared} {d : Addr} {o : Obj}
theorem Inv.frzTV {kvs : List (List Key × V)} (I : Inv X pins σ H s) (h : H d = some (.frz o (.dT kvs))) :
    (d == sysModules) = false ∧ s.heap.get? d = some o ∧ o.ExactDict ∧ ∃ (es : Array DictEntry) (ep : Nat), o.data = .dict es ep ∧ es.size = kvs.length ∧
      ∀ (i : Nat) (k : List Key) (v : V), kvs[i]? = some (k, v) → ∃ en : DictEntry, es[i]? = some en ∧ RelV v en.val := by
  obtain ⟨hd, z, hs, xs, pr, o', es, ep, ho, hx, hdt, he, _⟩ := I.hok d _ h
  rw [hd] at ho
  cases ho
  refine ⟨hs, hd, hx, es, ep, hdt, ?_, fun i k v e => ?_⟩
  · have l1 : es.size = xs.length := size_of_entries he
    have l2 : kvs.length = xs.length := Paired.length pr
    omega
  · obtain ⟨b, hb, e1, e2, e3⟩ := paired_get pr e
    have q := entry_at he i
    rw [hb] at q
    exact ⟨_, q, e3⟩
end
section
variable {P : Program} {w : World} {K : PySem.W.Frag} {tg : Expr} {d : Addr} {o : Obj} {es : Array DictEntry} {ep : Nat}
theorem turn_valsT {kvs : List (List Key × V)} (it : Addr) (hod : o.data = .dict es ep) : Turn P w K tg (ItdT d o kvs) [it] it (fun i h => h.IsValIter it d i kvs.length ep) where
  mem := by simp
  obj := fun i h st b hb => by
    have e : b = it := by simpa using hb
    subst e
    obtain ⟨oi, e, c, dd⟩ := st
    exact ⟨oi, e, fun v z => by rw [dd] at z; cases z⟩
  keep := fun i h h' st k => st.at fun oi e => k it (by simp) oi e
  item := by
    intro X hP hw hK hc i pins s σ H E I hf st hg
    subst hP hw hK
    obtain ⟨hd, hi⟩ := hg
    obtain ⟨f0, f1, f2, f3, f4, f5⟩ := hf it (by simp)
    obtain ⟨hs, hgd, hx, es', ep', hdt, hsz, ent⟩ := I.frzTV hd
    obtain ⟨rfl, rfl⟩ := dict_ep hod hdt
    obtain ⟨⟨k, v⟩, hkv⟩ : ∃ p, kvs[i]? = some p := ⟨kvs[i], List.getElem?_eq_getElem hi⟩
    obtain ⟨en, hen, ru⟩ := ent i k v hkv
    have hil : i < es'.size := by omega
    have een : es'[i] = en := by
      rw [Array.getElem?_eq_getElem hil] at hen
      exact Option.some.inj hen
    rw [← hsz] at st
    refine wpAny_pyNext_values_item_raw st ⟨o, hgd, hx, hdt⟩ hil fun h' st' sb => ?_
    have I1 : Inv X pins σ H { s with heap := h' } := I.turned (t' := s.toks) (fun b ob hb e => (sb.2 b hb).trans e) f0 f1 f3 f4 f5
    obtain ⟨oi, e, c, dd⟩ := id st'
    refine ⟨_, rfl, go_of (s := { s with heap := h' }) e c dd (by decide) ⟨v, H, I1, by rw [een]; exact ru, ⟨rfl, k, hkv⟩, ?_, fun b hb => (hf b hb).1⟩⟩
    show h'.IsValIter it d (i + 1) kvs.length _
    rw [← hsz]
    exact st'
  done := by
    intro X hP hw hK hc i pins s σ H E I hf st hg
    subst hP hw hK
    obtain ⟨hd, hi⟩ := hg
    obtain ⟨f0, f1, f2, f3, f4, f5⟩ := hf it (by simp)
    obtain ⟨hs, hgd, hx, es', ep', hdt, hsz, ent⟩ := I.frzTV hd
    obtain ⟨rfl, rfl⟩ := dict_ep hod hdt
    rw [← hsz] at st
    exact wpAny_pyNext_values_end_raw (I.ok.hd hc) st ⟨o, hgd, hx, hdt⟩ (by omega) fun h' eb => ⟨rfl, I.turned (t' := s.toks) (fun b ob hb e => eb b ob hb e) f0 f1 f3 f4 f5⟩
  self := fun A i s Q E st h => wpAny_pyIter_valiter st h
end
/-- d.values() of a dict that is locked from there on -/
def iValsT (td : TE) : TI := fun σ H R => td σ H fun x H1 => ∃ d kvs, x = .ref d ∧ H1 d = some (.dT kvs) ∧ ∀ od, R (ItdT d od kvs) (upd H1 d (.frz od (.dT kvs)))
section
variable {X : Cx} {tg e : Expr} {td : TE} {apos cpos : Pos}
theorem pi_valuesT (he : PE X e td) (hbase : attributeBase e "values" X.env (eval e X.env) = eval e X.env := by rfl) (hline : (apos.endLine == cpos.line) = true := by rfl) : PI X tg (.Call (.Attribute e "values" apos) [] [] cpos) (iValsT td) := by
  refine ⟨fun pins s σ H R I h => ?_⟩
  refine wpAny_Call_method (T := "dict") (id := "dict.values") hbase rfl hline F.plainAttrs_dict F.slot_dict_values F.type_dict_values (thn (he.run pins s σ H _ I h) fun u s1 ⟨x, H0, I0, rx, d, kvs, ex, hd0, q0⟩ => ?_)
  subst ex
  obtain rfl : u = Value.ref d := rx
  obtain ⟨od, I1⟩ := I0.lock hd0 (by exact True.intro)
  have q := q0 od
  have hd : upd H0 d (.frz od (.dT kvs)) d = some (.frz od (.dT kvs)) := upd_same
  obtain ⟨hs, hgd, hx, es, ep, hdt, hsz, ent⟩ := I1.frzTV hd
  have hm : s1.heap.DictRaw d es ep := ⟨od, hgd, hx, hdt⟩
  refine ⟨hm.typeIs, fun b hb => ?_, ?_⟩
  · cases hb
    exact ⟨od, hgd, hx.2.1⟩
  have I2 : Inv X pins σ (upd H0 d (.frz od (.dT kvs))) { s1 with heap := s1.heap.push { cls := .type "dict_values", data := .fields #[.ref d] } } := I1.kept (t' := s1.toks) fun b ob q => Heap.get?_push_of_some _ q
  have fin : wpAny (model X.prog X.w) X.A (pyIter (.ref s1.heap.objs.size)) (PIE X pins σ tg R) X.xe { s1 with heap := s1.heap.push { cls := .type "dict_values", data := .fields #[.ref d] } } := by
    refine wpAny_pyIter_values_raw (d := d) (es := es) (ep := ep) ⟨_, Heap.get?_push_size _ rfl, rfl, rfl⟩ (hm.at fun o q => Heap.get?_push_of_some _ q) (pi_one (tk := s1.toks) I2 _ (turn_valsT _ hdt) ⟨_, Heap.get?_push_size _ rfl, rfl, ?_⟩ q)
    rw [hsz] <;> rfl
  show wpAny _ _ (callWith cpos (.builtin "dict.values") [.ref d] [] []) _ X.xe s1
  exact method_meetsIn F.slot_dict_values F.entry_dict_values rfl (PySem.evalArgs_none ⟨rfl, hm.typeIs, F.args_dict_values_1 _, _, meets_dict_values_raw d hs, ⟨es, ep, hm⟩, fin⟩)
end
end L2
namespace Z
open PySem L2
open Rep (rep)
/-! ### dicts by what their values stand for -/
section
variable {κ β γ : Type} [DecidableEq κ] [DecidableEq γ] {e : κ → γ} {r r' : V → β → Prop}
inductive AD (e : κ → γ) (r : V → β → Prop) : List (γ × V) → List (κ × β) → Prop
  | nil : AD e r [] []
  | cons {k : κ} {v : V} {x : β} {kvs : List (γ × V)} {m : List (κ × β)} : r v x → AD e r kvs m → AD e r ((e k, v) :: kvs) ((k, x) :: m)
theorem AD.length : ∀ {kvs : List (γ × V)} {m : List (κ × β)}, AD e r kvs m → kvs.length = m.length
  | _, _, .nil => rfl
  | _, _, .cons _ t => by rw [List.length_cons, List.length_cons, AD.length t]
theorem AD.imp (f : ∀ v x, r v x → r' v x) : ∀ {kvs : List (γ × V)} {m : List (κ × β)}, AD e r kvs m → AD e r' kvs m
  | _, _, .nil => .nil
  | _, _, .cons h t => .cons (f _ _ h) (AD.imp f t)
theorem AD.no (he : ∀ a b, e a = e b → a = b) {k : κ} : ∀ {kvs : List (γ × V)} {m : List (κ × β)}, AD e r kvs m → (valV kvs (e k)).isSome = mhas m k
  | _, _, .nil => rfl
  | _, _, .cons (k := j) (v := v) (x := x) (kvs := kvs) (m := m) h t => by
    show _ = (decide (j = k) || mhas m k)
    by_cases q : j = k
    · rw [valV_pos (congrArg e q), decide_eq_true q]; rfl
    · rw [valV_neg (fun z => q (he _ _ z)), decide_eq_false q, AD.no he t]; rfl
theorem AD.get (he : ∀ a b, e a = e b → a = b) {k : κ} {y : β} : ∀ {kvs : List (γ × V)} {m : List (κ × β)}, AD e r kvs m → mget m k = some y → ∃ v, valV kvs (e k) = some v ∧ r v y
  | _, _, .nil, h => by cases h
  | _, _, .cons (k := j) (v := v) (x := x) (kvs := kvs) (m := m) h t, g => by
    unfold mget at g
    by_cases q : j = k
    · rw [List.find?_cons_of_pos (by simpa using q)] at g
      cases g
      exact ⟨v, valV_pos (congrArg e q), h⟩
    · rw [List.find?_cons_of_neg (by simpa using q)] at g
      obtain ⟨u, h1, h2⟩ := AD.get he (k := k) t g
      exact ⟨u, by rw [valV_neg (fun z => q (he _ _ z))]; exact h1, h2⟩
theorem AD.snoc {k : κ} {v : V} {x : β} (h : r v x) : ∀ {kvs : List (γ × V)} {m : List (κ × β)}, AD e r kvs m → AD e r (kvs ++ [(e k, v)]) (m ++ [(k, x)])
  | _, _, .nil => .cons h .nil
  | _, _, .cons a t => .cons a (AD.snoc h t)
theorem AD.upd (he : ∀ a b, e a = e b → a = b) {k : κ} {v : V} {x : β} (h : r v x) : ∀ {kvs : List (γ × V)} {m : List (κ × β)}, AD e r kvs m → AD e r (kvs.map fun p => if p.1 = e k then (p.1, v) else p) (m.map fun p => if p.1 = k then (p.1, x) else p)
  | _, _, .nil => .nil
  | _, _, .cons (k := j) (v := u) (x := y) (kvs := kvs) (m := m) a t => by
    rw [List.map_cons, List.map_cons]
    by_cases q : j = k
    · subst q
      rw [if_pos rfl, if_pos rfl]
      exact .cons h (AD.upd he h t)
    · rw [if_neg q, if_neg (fun z => q (he _ _ z))]
      exact .cons a (AD.upd he h t)
theorem AD.any (he : ∀ a b, e a = e b → a = b) {k : κ} : ∀ {kvs : List (γ × V)} {m : List (κ × β)}, AD e r kvs m → (kvs.any fun p => decide (p.1 = e k)) = m.any fun p => decide (p.1 = k)
  | _, _, .nil => rfl
  | _, _, .cons (k := j) (kvs := kvs) (m := m) a t => by
    rw [List.any_cons, List.any_cons, AD.any he t]
    congr 1
    by_cases q : j = k
    · rw [q]; simp
    · rw [decide_eq_false q, decide_eq_false (fun z => q (he _ _ z))]
theorem AD.put (he : ∀ a b, e a = e b → a = b) {k : κ} {v : V} {x : β} {kvs : List (γ × V)} {m : List (κ × β)} (t : AD e r kvs m) (h : r v x) : AD e r (putK kvs (e k) v) (mput m k x) := by
  unfold putK mput
  rw [t.any he]
  by_cases q : (m.any fun p => decide (p.1 = k)) = true
  · rw [if_pos q, if_pos q]
    exact t.upd he h
  · rw [if_neg q, if_neg q]
    exact t.snoc h
theorem AD.vals : ∀ {kvs : List (γ × V)} {m : List (κ × β)}, AD e r kvs m → ∀ {i : Nat} {k : γ} {v : V}, kvs[i]? = some (k, v) → ∃ x, (m.map (·.2))[i]? = some x ∧ r v x
  | _, _, .nil, i, k, v, h => by simp at h
  | _, _, .cons (k := j) (v := u) (x := x) a t, 0, k, v, h => by
    simp at h
    obtain ⟨_, rfl⟩ := h
    exact ⟨x, rfl, a⟩
  | _, _, .cons a t, i + 1, k, v, h => by
    obtain ⟨x, h1, h2⟩ := AD.vals t (i := i) (k := k) (v := v) (by simpa using h)
    exact ⟨x, by simpa using h1, h2⟩
end
/-- a tuple of ints as a key -/
def kT (t : Tup Int) : List Key := t.l.map Sum.inl
theorem kT_inj : ∀ a b, kT a = kT b → a = b := fun a b h => by
  have g : ∀ xs ys : List Int, (xs.map Sum.inl : List Key) = ys.map Sum.inl → xs = ys := by
    intro xs
    induction xs with
    | nil => intro ys e; cases ys <;> first | rfl | cases e
    | cons x xs ih =>
      intro ys e
      cases ys with
      | nil => cases e
      | cons y ys =>
        rw [List.map_cons, List.map_cons] at e
        injection e with e1 e2
        rw [Sum.inl.inj e1, ih ys e2]
  have : a.l = b.l := g _ _ h
  cases a
  cases b
  simp at this
  rw [this]
section
variable {K : Fg} {F H : Hp} {a b : Addr} {kvs : List (List Key × V)} {vs : List V} {t : Tup Int} {β : Type} {r : V → β → Prop} {m : List (Tup Int × β)}
theorem key_tup (s : Same F H) (q : F b = some (.tup vs)) (h : A2 (rep K F) vs t.l) : H b = some (.tup ((kT t).map kV)) := by
  have e : vs = (kT t).map kV := by
    rw [h.ints]
    unfold kT
    rw [List.map_map]
    rfl
  rw [← e]
  exact s _ _ q
theorem dgetA (e : H a = some (.dT kvs)) (eb : H b = some (.tup ((kT t).map kV))) : DGet H a (.ref b) (valV kvs (kT t)) := DGet.t e eb
theorem dgetsA {v : V} (e : H a = some (.dT kvs)) (eb : H b = some (.tup ((kT t).map kV))) (q : valV kvs (kT t) = some v) : DGet H a (.ref b) (some v) := by
  have h := dgetA (t := t) e eb
  rw [q] at h
  exact h
theorem dputA {v : V} (e : H a = some (.dT kvs)) (eb : H b = some (.tup ((kT t).map kV))) (h : AD kT r kvs m) (hl : m.length < sizeLine) : DPut H a (.ref b) v (upd H a (.dT (putK kvs (kT t) v))) := DPut.t e eb (by rw [h.length]; exact hl)
theorem tw_valsT {d : Addr} {o : Obj} (h : AD kT r kvs m) : TW (ItdT d o kvs) (m.map (·.2)) (fun H => H d = some (.frz o (.dT kvs))) (fun b H x H' => H' = H ∧ r x b) := ⟨by
  rw [List.length_map, ← h.length]
  refine ⟨fun _ _ hi q => ⟨q, hi⟩, fun _ q => ⟨q, Nat.le_refl _⟩, fun i H x H' _ _ y => ?_⟩
  obtain ⟨e, k, hk⟩ := y
  obtain ⟨b, h1, h2⟩ := h.vals hk
  exact ⟨b, h1, e, h2⟩⟩
end
end Z
/-! YE: defs that are called where no object's text is being made -/
namespace L2
open PySem PySem.Spec PyProof.Rows
/-! ### defs that run where nothing is being shown -/
/-- what a def promises to who calls it while no object's text is being made -/
structure FnG (P : Program) (w : World) (K : PySem.W.Frag) (mg : Str → Option Value) (base : Heap) (CX : CXT) (k : Nat) (f : Addr) (fd : FuncData) (ps : List Str) (sp : Sp) : Prop where
  few : ∀ vs H Q E, sp vs H Q E → vs.length = ps.length
  go : ∀ (A : Around), A.guards = some [] → Room k A → ∀ (outer : List Env) (s : Shared) (H : Hp) (Q : VK) (E : XK) (vs : List V), sp vs H Q E → Env0 P w K mg base A outer s H →
    ∀ (us : List Value) (args : Args), Vals vs us → BindsTo s fd args (ps.zip us) → codeAny (model P w) A (.call (.ref f) args) (CR CX outer P w H s Q E) s
section
variable {P : Program} {w : World} {K : PySem.W.Frag} {mg : Str → Option Value} {base : Heap}
theorem FnG.up {CX : CXT} {j k : Nat} {f : Addr} {fd : FuncData} {ps : List Str} {sp : Sp} (F : FnG P w K mg base CX j f fd ps sp) (h : j ≤ k) : FnG P w K mg base CX k f fd ps sp :=
  ⟨F.few, fun A hg hr => F.go A hg (hr.mono h)⟩
/-- how a body ends, at the call -/
theorem flow_end {X : Cx} {H0 : Hp} {s s' : Shared} {Q : VK} {outer : List Env} (J0 : ∀ {σ' : St} {H' : Hp} {v : V} {u : Value}, Inv X [] σ' H' s' → RelV v u → Q v H' → CE outer P w H0 s Q u s') {fl : Flow}
    (h : match fl with
      | .ret u => ∃ v σ' H', Inv X [] σ' H' s' ∧ RelV v u ∧ Q v H'
      | .next => ∃ σ' H', Inv X [] σ' H' s' ∧ Q .non H'
      | _ => False) : ∃ u, (fl = .ret u ∨ (fl = .next ∧ u = .none)) ∧ CE outer P w H0 s Q u s' := by
  cases fl with
  | ret u =>
    obtain ⟨v, σ', H', J, r, q⟩ := h
    exact ⟨u, .inl rfl, J0 J r q⟩
  | next =>
    obtain ⟨σ', H', J, q⟩ := h
    exact ⟨.none, .inr ⟨rfl, rfl⟩, J0 J (v := V.non) rfl q⟩
  | brk => exact h.elim
  | cont => exact h.elim
theorem Fun.okG {x qual : Str} {st : Stmt} {f : Addr} {fd : FuncData} {N ps : List Str} {k : Nat} {sp : Sp} (F : Fun K x qual st f fd) (S : FnScope N ps (defScope st)) (few : ∀ vs H Q E, sp vs H Q E → vs.length = ps.length)
    (body : ∀ (cdv : Value) (A : Around) (outer : List Env) (s : Shared) (H : Hp) (vs : List V) (Q : VK) (E : XK), Room k (A.deeper (envOfC qual (defScope st) s.heap.objs.size f cdv)) → A.guards = some [] → sp vs H Q E →
      ∃ t, PSs (cxOf CX0 P w K mg base N qual (defScope st) f cdv A outer s H E).nox (defBody st) t ∧ t { nx := fun _ H' => Q .non H', rt := Q } (start N vs) H) : FnG P w K mg base CX0 (k + 1) f fd ps sp := by
  obtain ⟨oc, od, kV, doc, pm, an, cdv, ct, osl, rfl, lk, cin⟩ := F.ex
  refine ⟨few, fun A hg hr outer s H Q E vs hs e0 us args rv hb => ?_⟩
  have old : ∀ b o, base.get? b = some o → s.heap.get? b = some o := fun b o e => (e0.bs b o e).1
  have inn : K.In s.heap := e0.mod.kin.keeps old
  obtain ⟨t, ht, hq⟩ := body cdv A outer s H vs Q E (hr.deeper _) hg hs
  refine codeAny_call_function hr.depth (inn _ _ lk) rfl S.co S.gen rfl (PySem.W.codeRec_of inn cin) (hb _ _ _ _ (wpAny_newFunctionEnv_cells S.kind ?kinds fun env he s1 new => ?run))
  case kinds =>
    rintro ⟨y, u⟩ hy
    exact (S.par y (List.of_mem_zip hy).1).elim .inl fun q => .inr ⟨q, PySem.W.cellsFrom_some _ _ _ (.inl q)⟩
  case run =>
    subst he
    have I : Inv (cxOf CX0 P w K mg base N qual (defScope st) f cdv A outer s H E) [] (start N vs) H s1 := inv_start S hr.hd e0 (few _ _ _ _ hs) rv new
    refine ⟨(e0.mod.nolimit.keeps old).keeps new.toInCall.keep, codeAny_func (wpAny_mono (ht.nox.run [] s1 (start N vs) H _ I hq) (fun fl s' z => ?_) fun _ _ z => z)⟩
    obtain ⟨u, hu, ce⟩ := flow_end (fl := fl) (fun {σ' H' v u} J r q => ⟨v, H', J.os, J.bare, J.base, J.hok, r, q⟩) (h := by
      cases fl with
      | ret => exact z
      | next => exact z
      | brk => exact z.elim fun _ z => z.elim fun _ z => z.2.elim
      | cont => exact z.elim fun _ z => z.elim fun _ z => z.2.elim)
    rcases hu with rfl | ⟨rfl, rfl⟩ <;> exact ce
end
section
variable {X : Cx} {CX : CXT} {k : Nat} {f : Addr} {fd : FuncData} {ps : List Str} {sp : Sp} {ds : List Value} {dvs : List V} {E : XK} {x : Str} {p pos : Pos} {e : Expr} {es : List Expr} {t : TA}
/-- f(..), f such a def -/
theorem pe_callG (F : FnG X.prog X.w X.K X.mg X.base CX k f fd ps sp) (hr : Room k X.A) (hG : X.A.guards = some []) (hg : Gl X x) (hm : X.mg x = some (.ref f)) (hk : PySem.W.keepIn X.K (.ref f) = true) (hb : Binds X.K fd ps ds) (hd : Vals dvs ds) (hx : Passes CX X E)
    (ha : PA X (e :: es) t) (hdb : (x == ("__debug__" : Str)) = false := by decide) (he : starEach (e :: es) X.env = (false, eval e X.env) :: starEach es X.env := by rfl) (hpl : (backTo pos (starEach es X.env)).any (·.1) = false := by rfl) :
    PE X (.Call (.Name x p) (e :: es) [] pos) (tCall sp dvs E t) := by
  constructor
  intro pins s σ H Q I h
  refine wpAny_Call_Name_kw (ld_glob I hg hm (PySem.W.callWith_K (h₀ := X.base) I.ok.mod.kin hk (thn (ha.run pos pins s σ H _ I h) fun us s1 z => ?_) he hpl) hdb)
  obtain ⟨vs, H1, I1, rv, q⟩ := z
  refine ⟨I1.kIn, wpAny_call (codeAny_mono (F.go X.A hG hr X.stack s1 H1 Q E _ q I1.env0 (us ++ ds) ⟨us, []⟩ (rv.append hd) (hb s1 us I1.kIn ?_)) fun r s' z => ?_)⟩
  · rw [← (rv.append hd).length]
    exact F.few _ _ _ _ q
  · match r, z with
    | .ok (.ret u), z => exact I1.after z
    | .error e, z => exact hx pins σ H1 s1 e s' I1 z
end
/-- the end of a law whose def is such a one -/
theorem walk_ofG {l : PySem.W.OpenLaw} {n k : Nat} {q : Program} {loose : List Str} {XP : (Str → Option Value) → Heap → Prop} {YP : World → Heap → Prop} {d : DefRec} {K : Params → PySem.W.Frag} {sp : World → Sp} {x : Str}
    (hn : l.most = some n) (hn2 : n ≤ sizeLine) (hdf : d.params.defaults = []) (hr : Room k callerA) (hG : callerA.guards = some []) (hY : ∀ (w : World) (h : Heap), YP w h → (K w.params).In h)
    (F : ∀ (w : World) (mg : Str → Option Value) (fa : Addr) (h : Heap), (K w.params).In h → h.Ns mainGlobals mg → mg d.name = some (.ref fa) →
      ∃ fd : FuncData, (∀ (s : Shared) (u : Value), BindsTo s fd ⟨[u], []⟩ [(x, u)]) ∧ ∀ base : Heap, (K w.params).In base → base.Ns mainGlobals mg → FnG l.prog w (K w.params) mg base CX0 k fa fd [x] (sp w))
    (hsp : ∀ (w : World) (H : Hp) (a : Addr) (ns : List Int), ns.length ≤ n → Only H → SqL (K w.params) H a (ns.map V.int) → sp w [.ref a] H (fun v _ => v = .bl true) fun _ _ _ => False) :
    PySem.W.WalkO q loose XP YP l.row.toRowW d [] (fun f vs => PySem.call f vs) := by
  refine Att.attach_call hn hdf fun w s₀ s₁ mg mb fa o pm cd doc a vs ns G Y ho hd hcd hmg hobj hints hlen hg => ?_
  have inn := hY w _ Y
  obtain ⟨fd, hb, hF⟩ := F w mg fa _ inn G.T.g hmg
  have rv := vals_ints hints
  have lv := hints.length
  -- the script is tracked, unless it is one of the module's own objects
  obtain ⟨H, own, seq⟩ : ∃ H : Hp, (∀ b u, H b = some u → b = a ∧ u = .frz { cls := .type "list", data := .seq vs.toArray } (.lst (ns.map V.int)) ∧ (K w.params).lookup a = none) ∧ SqL (K w.params) H a (ns.map V.int) := by
    cases e : (K w.params).lookup a with
    | some o1 =>
      have e1 := inn _ _ e
      rw [hobj] at e1
      cases e1
      exact ⟨fun _ => none, fun _ _ z => (nomatch z), .inr ⟨_, vs.toArray, _, e, rfl, rfl, rfl, by rw [List.size_toArray, lv]; exact Nat.le_trans hlen hn2, by simpa using rv⟩⟩
    | none =>
      refine ⟨fun b => if b = a then some (.frz { cls := .type "list", data := .seq vs.toArray } (.lst (ns.map V.int))) else none, fun b u z => ?_, .inl (.inr ⟨_, if_pos rfl⟩)⟩
      by_cases c : b = a
      · have z' := (if_pos c).symm.trans z
        exact ⟨c, (Option.some.inj z').symm, rfl⟩
      · have z' := (if_neg c).symm.trans z
        cases z'
  have only : Only H := fun b => by
    cases e : H b with
    | none => exact .inl rfl
    | some u =>
      obtain ⟨_, rfl, _⟩ := own b u e
      exact .inr ⟨_, _, rfl⟩
  have bare : ∀ {b : Addr} {o1 : Obj}, s₁.heap.get? b = some o1 → (∀ u, b = a → (K w.params).lookup a = none → H b = some u → o1.data = .seq vs.toArray 0 → False) → (hidT s₁.heap H).get? b = some o1 := fun {b o1} e no => hidT_get e (by
    cases c : H b with
    | none => rfl
    | some u =>
      obtain ⟨rfl, _, nk⟩ := own b u c
      rw [hobj] at e
      exact (no u rfl nk c (by rw [← Option.some.inj e])).elim)
  have ns' : ∀ {b : Addr} {m : Str → Option Value}, s₁.heap.Ns b m → (hidT s₁.heap H).Ns b m := fun {b m} ⟨o1, es, ep, e, dt, r⟩ => ⟨o1, es, ep, bare e (fun _ _ _ _ z => by
    rw [dt] at z
    cases z), dt, r⟩
  have inn' : (K w.params).In (hidT s₁.heap H) := fun b o1 e => bare (inn b o1 e) fun _ z nk _ _ => by rw [z, nk] at e; cases e
  have M : Mod (K w.params) mg (hidT s₁.heap H) := ⟨inn', ns' G.T.g, ⟨mb, ns' G.T.b, G.T.builtins⟩, G.T.nolimit.elim fun mc z => ⟨mc, ns' z.1, z.2⟩⟩
  have hok : HOk l.prog w H s₁.heap := fun b u e => by
    obtain ⟨rfl, rfl, _⟩ := own b u e
    exact ⟨hobj, by rw [List.length_map]; exact Nat.le_trans hlen hn2, vs, _, rv, hobj⟩
  have e0 : Env0 l.prog w (K w.params) mg (hidT s₁.heap H) callerA [] s₁ H := ⟨rfl, M, fun _ _ e => of_hidT e, Nat.le_of_eq (hidT_size _ _), trivial, fun _ z => (nomatch z), hok, .of_eq hg⟩
  refine codeAny_mono ((hF _ inn' (ns' G.T.g)).go callerA hG hr [] s₁ H _ _ [.ref a] (hsp w H a ns hlen only seq) e0 [.ref a] ⟨[.ref a], []⟩ (.cons rfl .nil) (hb s₁ (.ref a))) fun r s' z => ?_
  match r, z with
  | .ok (.ret u), ⟨v, H', os, gens, un, hok', rel, hv⟩ =>
    have hv' : v = .bl true := hv
    subst hv'
    obtain rfl : u = Value.bool true := rel
    refine ⟨rfl, OldK.of_keep fun b o1 e => ?_, os, gens⟩
    cases c : H b with
    | none => exact un.keep b o1 e c (fun z => (nomatch z)) (by simp)
    | some u =>
      obtain ⟨rfl, rfl, _⟩ := own b u c
      rw [hobj] at e
      cases e
      exact (hok' b _ (un.frzs b _ _ c)).1
end L2
namespace Z
open PySem L2 PySem.Spec PyProof.Rows
open Rep (rep)
/-! ### range with a step -/
instance decRgC (i j c : Int) (n : Nat) : Decidable (RgC i j c n) := by unfold RgC; infer_instance
def rngC (i c : Int) (n : Nat) : List Int := (List.range n).map fun k => i + ((k : Nat) : Int) * c
def rngCR (i j c : Int) : R (List Int) := if RgC i j c (Builtin.Range.rangeSize i j c).toNat then .ok (rngC i c (Builtin.Range.rangeSize i j c).toNat) else .bad
theorem pb_rngC {δ : Type} {i j c : Int} {f : List Int → R δ} {P : δ → Prop} {E : Exn → Prop} (h : Post (rngCR i j c >>= f) P E) : ∃ n, RgC i j c n ∧ Post (f (rngC i c n)) P E := by
  unfold rngCR at h
  by_cases z : RgC i j c (Builtin.Range.rangeSize i j c).toNat
  · rw [if_pos z] at h
    exact ⟨_, z, h⟩
  · rw [if_neg z] at h
    exact (show False from h).elim
theorem tw_rngC {i c : Int} {n : Nat} : TW (Itc i c n) (rngC i c n) (fun _ => True) (fun b H x H' => H' = H ∧ x = .int b) := ⟨by
  have e : (rngC i c n).length = n := by
    unfold rngC
    rw [List.length_map, List.length_range]
  rw [e]
  exact walk_rangeC.mono (fun _ g => g) fun k H x H' hk _ y => ⟨_, by
    unfold rngC
    rw [List.getElem?_map, List.getElem?_range hk]
    rfl, y.1, y.2⟩⟩
end Z
/-! YY: what is sorted by its data; the text of a thing, where nothing is being shown -/
namespace Z
open PySem L2 PySem.Spec PyProof.Rows
open Rep (rep)
/-! ### sorted, by the order of data -/
theorem perm_srt {α : Type} {le : α → α → Bool} (anti : ∀ a b, le a b = true → le b a = true → a = b) {xs ys : List α} (h : xs.Perm ys) (hx : xs.Pairwise fun a b => le a b = true) (hy : ys.Pairwise fun a b => le a b = true) : xs = ys := by
  induction xs generalizing ys with
  | nil => exact (List.nil_perm.mp h).symm
  | cons x xs ih =>
    cases ys with
    | nil => exact absurd h.length_eq (by simp)
    | cons y ys =>
      rw [List.pairwise_cons] at hx hy
      have e : x = y := by
        have h1 : y ∈ x :: xs := h.mem_iff.mpr List.mem_cons_self
        have h2 : x ∈ y :: ys := h.mem_iff.mp List.mem_cons_self
        rcases List.mem_cons.mp h1 with e | h1
        · exact e.symm
        · rcases List.mem_cons.mp h2 with e | h2
          · exact e
          · exact anti _ _ (hx.1 y h1) (hy.1 x h2)
      subst e
      rw [ih h.cons_inv hx.2 hy.2]
/-- in the order of what is compared -/
noncomputable def sortD {α : Type} (k : α → PyData) (xs : List α) : List α := xs.mergeSort (PySem.W.dataLe false k)
theorem sortD_perm {α : Type} {k : α → PyData} (xs : List α) : (sortD k xs).Perm xs := List.mergeSort_perm xs _
theorem sortD_eq {α : Type} {k : α → PyData} (inj : ∀ a b, PySem.W.keyToks (k a) = PySem.W.keyToks (k b) → a = b) {xs ys : List α} (h : xs.Perm ys) : sortD k xs = sortD k ys := by
  have T := PySem.W.sortLe_total (listOrd itemOrd) false fun b => PySem.W.keyToks (k b)
  have S : ∀ zs : List α, (sortD k zs).Pairwise fun a b => PySem.W.dataLe false k a b = true := fun zs =>
    List.pairwise_mergeSort (le := PySem.W.dataLe false k) (fun a b c h1 h2 => T.trans a b c h1 h2) (fun a b => by rcases T.total a b with h | h; exact Bool.or_eq_true_iff.mpr (.inl h); exact Bool.or_eq_true_iff.mpr (.inr h)) zs
  refine perm_srt (le := PySem.W.dataLe false k) (fun a b h1 h2 => inj a b ?_) ((sortD_perm xs).trans (h.trans (sortD_perm ys).symm)) (S xs) (S ys)
  have h1' : (!(listOrd itemOrd).blt (PySem.W.keyToks (k b)) (PySem.W.keyToks (k a))) = true := h1
  have h2' : (!(listOrd itemOrd).blt (PySem.W.keyToks (k a)) (PySem.W.keyToks (k b))) = true := h2
  exact (listOrd itemOrd).total _ _ (by simpa using h2') (by simpa using h1')
section
variable {X : Cx} {K : Fg}
theorem each_rel {α : Type} {F : Hp} : ∀ {us : List V} {its : List Value} {xs : List α} [Rep α], Vals us its → A2 (rep K F) us xs → PySem.W.EachIs (fun (u : Value) (b : α) => ∃ v, RelV v u ∧ rep K F v b) its xs
  | _, _, _, _, .nil, .nil => .nil
  | _, _, _, _, .cons a b, .cons c d => .cons ⟨_, a, c⟩ (each_rel b d)
theorem rel_each {α : Type} {F : Hp} : ∀ {its : List Value} {xs : List α} [Rep α], PySem.W.EachIs (fun (u : Value) (b : α) => ∃ v, RelV v u ∧ rep K F v b) its xs → ∃ us, Vals us its ∧ A2 (rep K F) us xs
  | _, _, _, .nil => ⟨[], .nil, .nil⟩
  | _, _, _, .cons ⟨v, a, c⟩ r => by
    obtain ⟨us, h1, h2⟩ := rel_each r
    exact ⟨v :: us, .cons a h1, .cons c h2⟩
theorem a2_len {β : Type} {r : V → β → Prop} : ∀ {as : List V} {bs : List β}, A2 r as bs → as.length = bs.length
  | _, _, .nil => rfl
  | _, _, .cons _ h => by rw [List.length_cons, List.length_cons, a2_len h]
/-- sorted(xs), xs of alike data -/
theorem cr_sortD (hK : X.K = K) (α : Type) [Dat α] (hd : Dat.dmax α ≤ 20) (hu : X.A.units + 64 < cLine) : CallR X (.builtin "sorted") (fun vs H Q => ∃ (a : Addr) (us : List V) (F : Hp) (xs : List α), vs = [V.ref a] ∧ SqL K H a us ∧ Same F H ∧ A2 (rep K F) us xs ∧
    PySem.W.AllAlike (xs.map Dat.toD) ∧ PySem.W.Sortable (xs.map Dat.toD) ∧ ∀ p ys, H p = none → A2 (rep K F) ys (sortD Dat.toD xs) → Q (.ref p) (upd H p (.lst ys))) := by
  subst hK
  intro pins s σ H vs us Q I r ⟨a, vs', F, xs, e, hs, sF, hA, al, so, q⟩
  subst e
  obtain ⟨its, rv, hl, hz⟩ := I.list hs
  rw [Vals.ref1 r]
  have er : PySem.W.EachIs (fun v b => ∃ as, Reads s.heap v (Dat.toD b) as) its xs := (each_rel rv hA).mono fun u b ⟨v, h1, h2⟩ => Dp.reads I _ v u (Dat.dp (Rep.mono sF h2)) h1
  have hlen : vs'.length = xs.length := a2_len hA
  refine PySem.W.sorted_data (vs := its) (enc := Dat.toD) (R := fun (u : Value) (b : α) => ∃ v, RelV v u ∧ rep X.K F v b) hl.isList (each_rel rv hA) er al so (by rw [← hlen]; exact hz) (fun b _ => by
    have := Dat.dep b
    omega) fun out ho eo => ?_
  obtain ⟨ys, h1, h2⟩ := rel_each eo
  obtain ⟨ep, he'⟩ := PyProof.Rows.sortedAll_at s.heap its out.toArray
  have hlen2 : ys.length ≤ sizeLine := by rw [h1.length, ho, ← hlen]; exact hz
  exact ⟨.ref _, upd H (s.heap.objs.size + 1) (.lst ys), I.laid (t' := s.toks) (fun _ _ => PyProof.Rows.sortedAll_old) (Nat.le_succ _) ⟨hlen2, out, ep, h1, he'⟩, rfl, q _ ys (I.hok.fresh (Nat.le_succ _)) h2⟩
/-! ### the text of a thing -/
def strT (x : Thing) : Str := PyData.shown (Dat.toD x)
def smallT : Thing → Bool
  | .pl i => decide (0 ≤ i) && decide (i < 64)
  | .ti a b => decide (0 ≤ a) && decide (a < 64) && decide (0 ≤ b) && decide (b < 64)
theorem shown_few : ((List.range 64).all fun a => (PyData.str (strT (.pl (a : Int)))).canLay0 && (List.range 64).all fun b => decide ((strT (.ti (a : Int) (b : Int))).length ≤ 100) && (PyData.str (strT (.ti (a : Int) (b : Int)))).canLay0) = true := by decide +kernel
theorem small_pl {i : Int} (h : smallT (.pl i) = true) : 0 ≤ i ∧ i < 64 := by
  unfold smallT at h
  rw [Bool.and_eq_true, decide_eq_true_eq, decide_eq_true_eq] at h
  exact h
theorem small_ti {a b : Int} (h : smallT (.ti a b) = true) : (0 ≤ a ∧ a < 64) ∧ 0 ≤ b ∧ b < 64 := by
  unfold smallT at h
  rw [Bool.and_eq_true, Bool.and_eq_true, Bool.and_eq_true, decide_eq_true_eq, decide_eq_true_eq, decide_eq_true_eq, decide_eq_true_eq] at h
  exact ⟨h.1.1, h.1.2, h.2⟩
theorem shown_ti {a b : Int} (h : smallT (.ti a b) = true) : (strT (.ti a b)).length ≤ 100 ∧ (PyData.str (strT (.ti a b))).canLay0 = true := by
  obtain ⟨⟨a0, a1⟩, b0, b1⟩ := small_ti h
  obtain ⟨m, rfl⟩ : ∃ m : Nat, a = (m : Int) := ⟨a.toNat, by omega⟩
  obtain ⟨n, rfl⟩ : ∃ n : Nat, b = (n : Int) := ⟨b.toNat, by omega⟩
  have h1 := List.all_eq_true.mp shown_few m (List.mem_range.mpr (by omega))
  rw [Bool.and_eq_true] at h1
  have h2 := List.all_eq_true.mp h1.2 n (List.mem_range.mpr (by omega))
  rw [Bool.and_eq_true] at h2
  exact ⟨of_decide_eq_true h2.1, h2.2⟩
theorem lay_strT {x : Thing} (h : smallT x = true) : (PyData.str (strT x)).canLay0 = true := by
  cases x with
  | pl i =>
    obtain ⟨a0, a1⟩ := small_pl h
    obtain ⟨m, rfl⟩ : ∃ m : Nat, i = (m : Int) := ⟨i.toNat, by omega⟩
    have h1 := List.all_eq_true.mp shown_few m (List.mem_range.mpr (by omega))
    rw [Bool.and_eq_true] at h1
    exact h1.1
  | ti a b => exact (shown_ti h).2
/-- a text that can be laid -/
structure TxT where
  s : Str
  h : (PyData.str s).canLay0 = true
instance repTxT : Rep TxT := ⟨fun _ _ v x => v = .str x.s, fun _ h => h⟩
theorem TxT.ext' : ∀ {a b : TxT}, a.s = b.s → a = b
  | ⟨_, _⟩, ⟨_, _⟩, rfl => rfl
instance datTxT : Dat TxT where
  toD := fun x => .str x.s
  dmax := 0
  dp := fun {K H v x} h => by
    have h' : v = V.str x.s := h
    subst h'
    exact .str _
  lay := fun x => x.h
  dep := fun x => Nat.le_refl _
  eqv := fun x y => by
    simp only [PyData.eqv, beq_iff_eq]
    exact ⟨TxT.ext', fun e => congrArg TxT.s e⟩
instance decTxT : DecidableEq TxT := fun a b => decidable_of_iff (a.s = b.s) ⟨TxT.ext', fun e => congrArg TxT.s e⟩
def strR (x : Thing) : R TxT := if h : smallT x = true then .ok ⟨strT x, lay_strT h⟩ else .bad
theorem pb_strR {δ : Type} {x : Thing} {f : TxT → R δ} {P : δ → Prop} {E : Exn → Prop} (h : Post (strR x >>= f) P E) : ∃ y : TxT, smallT x = true ∧ y.s = strT x ∧ Post (f y) P E := by
  unfold strR at h
  by_cases c : smallT x = true
  · rw [dif_pos c] at h
    exact ⟨_, c, rfl, h⟩
  · rw [dif_neg c] at h
    exact (show False from h).elim
/-- str(x), where nothing is being shown -/
theorem cr_strT (hK : X.K = K) (hg : X.A.guards = some []) (hu : X.A.units + 64 < cLine) : CallR X (.type "str") (fun vs H Q => ∃ (v : V) (F : Hp) (x : Thing) (y : TxT), vs = [v] ∧ Same F H ∧ rep K F v x ∧ smallT x = true ∧ y.s = strT x ∧ Q (.str y.s) H) := by
  subst hK
  intro pins s σ H vs us Q I r ⟨v, F, x, y, e, sF, hx, hs, hy, q⟩
  rw [hy] at q
  subst e
  have lg : ∀ i : Int, 0 ≤ i → i < 64 → i.natAbs.log2 < 1920 := fun i i0 i1 => by
    by_cases z : i.natAbs = 0
    · rw [z]; decide
    · exact Nat.lt_of_lt_of_le ((Nat.log2_lt z).mpr (show i.natAbs < 2 ^ 6 by omega)) (by decide)
  cases x with
  | pl i =>
    have e : v = V.int i := hx
    subst e
    obtain ⟨a0, a1⟩ := small_pl hs
    exact call_str_int pins s σ H _ us Q I r ⟨i, rfl, lg i a0 a1, q⟩
  | ti a b =>
    obtain ⟨p, y, z, e, qp, h1, h2⟩ := (show rep X.K F v ((a, b) : Int × Int) from hx)
    subst e
    rw [Vals.ref1 r]
    obtain ⟨as, rd⟩ := Dp.reads I (.tuple [.int a, .int b]) (V.ref p) (Value.ref p) (Dat.dp (x := Thing.ti a b) (Rep.mono sF hx)) rfl
    obtain ⟨⟨a0, a1⟩, b0, b1⟩ := small_ti hs
    refine str_of_reads rd (by
      show (decide (a.natAbs.log2 < 1920) && (decide (b.natAbs.log2 < 1920) && true)) = true
      rw [decide_eq_true (lg a a0 a1), decide_eq_true (lg b b0 b1)]
      rfl) (PyData.noDict_hsm rfl) hg (by show X.A.units + (1 + 3) < cLine; omega) (fun _ _ e => e) (fun h' u tk hk => ⟨.str _, H, I.kept hk, ⟨u, rfl⟩, q⟩) (Nat.le_trans (shown_ti hs).1 (by decide))
end
/-! ### sorted texts, sorted rows of texts -/
noncomputable def sortSt (xs : List TxT) : List TxT := sortD Dat.toD xs
noncomputable def sortRs (xs : List (List TxT)) : List (List TxT) := sortD Dat.toD xs
theorem toks_inj : ∀ (a b : List TxT), PySem.W.keyToksAll (a.map fun x => PyData.str x.s) = PySem.W.keyToksAll (b.map fun x => PyData.str x.s) → a = b
  | [], [], _ => rfl
  | [], y :: ys, h => by
    simp [PySem.W.keyToksAll] at h
  | x :: xs, [], h => by
    simp [PySem.W.keyToksAll] at h
  | x :: xs, y :: ys, h => by
    simp only [List.map_cons, PySem.W.keyToksAll, PySem.W.keyToks, List.cons_append, List.nil_append, List.cons.injEq, true_and, Sum.inr.injEq] at h
    have e : x = y := TxT.ext' (by
      have h1 := h.1
      cases hx : x.s with
      | mk c =>
        cases hy : y.s with
        | mk d =>
          rw [hx, hy] at h1
          have : c = d := Array.toList_inj.mp h1
          rw [this])
    rw [e, toks_inj xs ys h.2]
theorem sortSt_eq {xs ys : List TxT} (h : xs.Perm ys) : sortSt xs = sortSt ys := sortD_eq (fun a b e => by
  have e' : [Sum.inr a.s.cps.toList] = ([Sum.inr b.s.cps.toList] : List (Int ⊕ List Nat)) := e
  have := toks_inj [a] [b] (by
    simp only [List.map_cons, List.map_nil, PySem.W.keyToksAll, PySem.W.keyToks]
    rw [e'])
  injection this) h
theorem sortRs_eq {xs ys : List (List TxT)} (h : xs.Perm ys) : sortRs xs = sortRs ys := sortD_eq (k := fun x : List TxT => Dat.toD x) (fun a b e => toks_inj a b (by
  have e' : PySem.W.keyToks (.list (a.map fun x => PyData.str x.s)) = PySem.W.keyToks (.list (b.map fun x => PyData.str x.s)) := e
  simp only [PySem.W.keyToks] at e'
  exact e')) h
theorem alike_strs : ∀ a b : List TxT, PySem.W.alikeAll (a.map fun x => PyData.str x.s) (b.map fun x => PyData.str x.s) = true
  | [], _ => by simp [PySem.W.alikeAll]
  | _ :: _, [] => by simp [PySem.W.alikeAll]
  | x :: xs, y :: ys => by
    simp only [List.map_cons, PySem.W.alikeAll, PySem.W.alike, Bool.true_and]
    exact alike_strs xs ys
section
variable {X : Cx} {K : Fg}
theorem cr_sortSt (hK : X.K = K) (hu : X.A.units + 64 < cLine) : CallR X (.builtin "sorted") (fun vs H Q => ∃ (a : Addr) (us : List V) (F : Hp) (xs : List TxT), vs = [V.ref a] ∧ SqL K H a us ∧ Same F H ∧ A2 (rep K F) us xs ∧ ∀ p ys, H p = none → A2 (rep K F) ys (sortSt xs) → Q (.ref p) (upd H p (.lst ys))) :=
  fun pins s σ H vs us Q I r ⟨a, ws, F, xs, e, h1, h2, h3, q⟩ => cr_sortD hK TxT (by decide) hu pins s σ H vs us Q I r ⟨a, ws, F, xs, e, h1, h2, h3, PySem.W.AllAlike.of fun _ _ => by simp [Dat.toD, PySem.W.alike], PySem.W.Sortable.others fun _ => by simp [Dat.toD], q⟩
theorem cr_sortRs (hK : X.K = K) (hu : X.A.units + 64 < cLine) : CallR X (.builtin "sorted") (fun vs H Q => ∃ (a : Addr) (us : List V) (F : Hp) (xs : List (List TxT)), vs = [V.ref a] ∧ SqL K H a us ∧ Same F H ∧ A2 (rep K F) us xs ∧ ∀ p ys, H p = none → A2 (rep K F) ys (sortRs xs) → Q (.ref p) (upd H p (.lst ys))) :=
  fun pins s σ H vs us Q I r ⟨a, ws, F, xs, e, h1, h2, h3, q⟩ => cr_sortD hK (List TxT) (by decide) hu pins s σ H vs us Q I r ⟨a, ws, F, xs, e, h1, h2, h3, PySem.W.AllAlike.of fun a b => by
    show PySem.W.alike (.list (a.map fun x => PyData.str x.s)) (.list (b.map fun x => PyData.str x.s)) = true
    simp only [PySem.W.alike]
    exact alike_strs a b, PySem.W.Sortable.others fun _ => ⟨by simp [Dat.toD], fun _ => by simp [Dat.toD]⟩, q⟩
end
end Z
/-! Z8: set(list of ints), sorted of it; list.count of data; list.insert -/
namespace L2
open PySem PySem.Spec PyProof.Rows
section
variable {P : Program} {w : World} {A : Around} {E : Value → Shared → Prop} {s : Shared}
set_option maxHeartbeats 3200000 in
/-- set(l) of a list of ints (turned from the tuple's, call_set_tupI) -/
theorem set_of_listI {l : Addr} {items : Array Value} (ns : List Int) {Q : Value → Shared → Prop} (hh : A.handled = none) (hl : s.heap.IsList l items) (hit : IntsAre items.toList ns) (hb : ns.length + 1 < scanBound)
    (h : ∀ (h' : Heap) (tk c : Nat), SetR w h' s.heap.objs.size (fun j => decide (j ∈ ns)) c → c ≤ ns.length → (∀ b o, s.heap.get? b = some o → h'.get? b = some o) → Q (.ref s.heap.objs.size) { s with heap := h', toks := tk }) :
    wpAny (model P w) A (call (.type "set") [.ref l]) Q E s := by
  have hisz : items.size = ns.length := by
    have q := IntsAre.length hit
    rw [Array.length_toList] at q
    exact q
  obtain ⟨c, tl, hmro⟩ := F.called_set.mro
  have hmade := F.called_set.made
  have hsub := F.called_set.sub
  refine wpAny_call (codeAny_of_tree ?_)
  show wpAny _ _ (callAny (.type "set") _) _ _ _
  refine wpAny_pure ⟨Code.quiet_builtin _ (by decide +kernel), codeAny_builtin F.entry_type_call ?_⟩
  rw [Around.under_plain (weight_type_call_type "set" [.ref l] []) rfl]
  have h1 := F.called_set.notType
  have h2 := F.called_set.canCreate
  have hct := F.typeCall_set_1 (.ref l)
  repeat (any_goals (first | assumption | wp_step))
  refine codeAny_mono (code_set_led1 (.ref l) (E := E) (Q₁ := fun obj s₁ => obj = .ref s.heap.objs.size ∧ s₁ = { s with heap := s.heap.push { cls := .type "set", dict := none, data := .set #[] 0 (.fresh 0 0 (!w.params.followText "set-order")) } }) ⟨rfl, rfl⟩) fun r s₁ hr => ?_
  cases r with
  | error e => exact hr
  | ok fl =>
    cases fl with
    | ret obj =>
      obtain ⟨rfl, rfl⟩ := hr
      have hS : (s.heap.push { cls := .type "set", dict := none, data := .set #[] 0 (.fresh 0 0 (!w.params.followText "set-order")) }).get? s.heap.objs.size = some { cls := .type "set", dict := none, data := .set #[] 0 (.fresh 0 0 (!w.params.followText "set-order")) } := Heap.get?_push_size _ rfl
      have hT : Shared.TypeIs { s with heap := s.heap.push { cls := .type "set", dict := none, data := .set #[] 0 (.fresh 0 0 (!w.params.followText "set-order")) } } (.ref s.heap.objs.size) "set" := ⟨_, hS, rfl⟩
      have hli := F.called_set.init.lookup
      have hbi := F.called_set.init.bind (.ref s.heap.objs.size)
      repeat (any_goals (first | assumption | wp_step))
      refine codeAny_mono (codeAny_call_builtin (R := wants (fun r s₂ => r = .none ∧ ∃ h' tk c, s₂ = { s with heap := h', toks := tk } ∧ SetR w h' s.heap.objs.size (fun j => decide (j ∈ ns)) c ∧ c ≤ ns.length ∧
          (∀ b o, s.heap.get? b = some o → h'.get? b = some o)) E) F.called_set.init.plain F.entry_set_init (check_set_init_1 hT ?_)) fun r₂ s₂ hr₂ => ?_
      · obtain ⟨ol, hol, hcl, nl, hdl⟩ := hl
        obtain ⟨ocls, odict, odata, oslots⟩ := ol
        simp only at hcl hdl
        subst hcl; subst hdl
        have hol' : (s.heap.push { cls := .type "set", dict := none, data := .set #[] 0 (.fresh 0 0 (!w.params.followText "set-order")) }).get? l = some { cls := .type "list", dict := odict, data := .seq items nl, slots := oslots } := Heap.get?_push_of_some _ hol
        have hsls := F.sub_list_set
        have hslf := F.sub_list_frozenset
        have hne : (Value.type "list" == Value.type "dict") = false := by decide
        have hl1 : (s.heap.push { cls := .type "set", dict := none, data := .set #[] 0 (.fresh 0 0 (!w.params.followText "set-order")) }).IsList l items := ⟨_, hol', rfl, nl, rfl⟩
        unfold Builtin.«set.__init__» noKeywords Builtin.Frozenset.updateFrom
        generalize hPI : pyIter = PI
        wp_walk
        subst hPI
        refine wpAny_pyIter_list hl1 ?_
        refine wpAny_bind (wpAny_runValue ?_)
        have hlS : l < s.heap.objs.size := Heap.lt_size hol
        have hh3 : A.in1.in1.in1.handled = none := by simp [hh]
        have hz1 : (s.heap.push { cls := .type "set", dict := none, data := .set #[] 0 (.fresh 0 0 (!w.params.followText "set-order")) }).objs.size = s.heap.objs.size + 1 := Heap.size_push ..
        have hneI : l ≠ (s.heap.push { cls := .type "set", dict := none, data := .set #[] 0 (.fresh 0 0 (!w.params.followText "set-order")) }).objs.size := by
          rw [Heap.size_push]; exact Nat.ne_of_lt (Nat.lt_succ_of_lt hlS)
        have hSf : s.heap.objs.size ∉ [(s.heap.push { cls := .type "set", dict := none, data := .set #[] 0 (.fresh 0 0 (!w.params.followText "set-order")) }).objs.size, l] := by
          rw [Heap.size_push]; simp only [List.mem_cons, List.mem_singleton, List.not_mem_nil, or_false, not_or]
          exact ⟨Nat.ne_of_lt (Nat.lt_succ_self _), Nat.ne_of_gt hlS⟩
        have hval : ∀ (i : Nat) (v : Value), items[i]? = some v → ∃ k t, ns[i]? = some k ∧ v = .int k t := fun i v hv => by
          have hi : i < ns.length := by rw [← hisz]; exact (Array.getElem?_eq_some_iff.mp hv).1
          obtain ⟨t, e⟩ := PyProof.Rows.IntsAre.int_at hit i v (by rw [Array.getElem?_toList]; exact hv)
          refine ⟨ns[i], t, List.getElem?_eq_getElem hi, ?_⟩
          rw [e, List.getD_eq_getElem?_getD, List.getElem?_eq_getElem hi] <;> rfl
        refine set_update_ints ((Walks.list hh3 _ l hneI items).toS) s.heap.objs.size
          hSf ns hisz hb hval (items.size - 0) 0 _ (by omega) (Nat.zero_le _)
          ⟨⟨_, Heap.get?_push_size _ rfl, rfl, rfl⟩, (hl1.push _)⟩ ?hS0 ?hR
        case hS0 =>
          have hget : ((s.heap.push { cls := .type "set", dict := none, data := .set #[] 0 (.fresh 0 0 (!w.params.followText "set-order")) }).push { cls := .type "list_iterator", data := .fields #[.ref l, .int 0 0] }).get? s.heap.objs.size = some { cls := .type "set", dict := none, data := .set #[] 0 (.fresh 0 0 (!w.params.followText "set-order")) } := Heap.get?_push_of_some _ hS
          exact ⟨0, Nat.le_refl 0, setR_new_at hget⟩
        case hR =>
          intro s' c' hm hc' hS'
          obtain ⟨h', g2, d', tk', os'⟩ := s'
          have eg : g2 = s.gens := hm.gens
          have ed : d' = s.drawn := hm.drawn
          have eo : os' = s.os := hm.os
          subst eg; subst ed; subst eo
          show wpAny _ _ _ _ _ _
          refine wpAny_pure ?_
          show wpAny _ _ (ret Value.none) _ _ _
          rw [hisz] at hc'
          refine wpAny_pure ⟨rfl, h', tk', c', rfl, hS', hc', fun b o e => ?_⟩
          have hb0 : b < s.heap.objs.size := Heap.lt_size e
          have hb1 : b ≠ s.heap.objs.size := Nat.ne_of_lt hb0
          have hb2 : b ≠ (s.heap.push { cls := .type "set", dict := none, data := .set #[] 0 (.fresh 0 0 (!w.params.followText "set-order")) }).objs.size := by
            rw [Heap.size_push]; exact Nat.ne_of_lt (Nat.lt_succ_of_lt hb0)
          exact hm.heap b o (by simp only [List.mem_cons, List.mem_singleton, List.not_mem_nil, or_false, not_or]; exact ⟨hb1, hb2⟩) (Heap.get?_push_of_some _ (Heap.get?_push_of_some _ e))
      · cases r₂ with
        | error e => exact hr₂
        | ok fl₂ =>
          cases fl₂ with
          | ret r =>
            obtain ⟨rfl, h', tk, c', rfl, hS', hc', hk'⟩ := hr₂
            repeat (any_goals (first | assumption | wp_step))
            exact h _ _ _ hS' hc' hk'
          | _ => exact hr₂.elim
    | _ => exact hr.elim
end
end L2
namespace Z
open PySem L2
open Rep (rep)
section
variable {X : Cx} {K : Fg} {w : World}
theorem cr_setLI (hK : X.K = K) (hw : X.w = w) (hc : X.calm = true) : CallR X (.type "set") (fun xs H Q => ∃ (l : Addr) (ns : List Int), xs = [V.ref l] ∧ SqL K H l (ns.map V.int) ∧ ns.length < 4000 ∧ ∀ a, H a = none → Q (.ref a) (upd H a (SetO w a (fun j => decide (j ∈ ns)) (nub ns).length))) := by
  subst hK hw
  intro pins s σ H xs us Q I r h
  obtain ⟨l, ns, rfl, hl, hf, q⟩ := h
  rw [Vals.ref1 r]
  obtain ⟨its, rv, pl, hz⟩ := I.list hl
  have hn : H s.heap.objs.size = none := I.hok.fresh (Nat.le_refl _)
  refine set_of_listI ns (I.ok.hd hc) pl.isList (by simpa using ints_of_vals rv) (by unfold scanBound; omega) fun h' tk c R hcn k => ?_
  have ec : c = (nub ns).length := by
    obtain ⟨o, es, ep, t, ho, hex, hdt, g, nd, hm2, hb, hf, hcs, hr, hl2⟩ := R
    rw [← hcs]
    have e1 : (es.toList.map keyOf).length = (nub ns).length := nodup_len nd (nub_nodup _) fun y => by
      rw [nub_mem, ← hm2 y, decide_eq_true_eq]
    rw [← e1, List.length_map, Array.length_toList]
  subst ec
  exact ⟨.ref s.heap.objs.size, upd H s.heap.objs.size (SetO X.w s.heap.objs.size (fun j => decide (j ∈ ns)) (nub ns).length), I.laid (t' := tk) k (Nat.le_refl _) (setO_new R), rfl, q _ hn⟩
end
theorem A2.ins {α : Type} {r : V → α → Prop} {v : V} {y : α} (n : Nat) {vs : List V} {xs : List α} (h : A2 r vs xs) (g : r v y) : A2 r (vs.take n ++ [v] ++ vs.drop n) (xs.take n ++ [y] ++ xs.drop n) := A2.append (A2.append (A2.take n h) (.cons g .nil)) (A2.drop n h)
end Z
namespace Z
open PySem L2
open Rep (rep)
/-- a dict that stays as it is -/
structure FzD (κ β : Type) where
  m : List (κ × β)
  deriving DecidableEq
instance repFD : Rep (FzD Int Int) := ⟨fun K H v d => ∃ a, v = .ref a ∧ H a = some (.dK (encM kI V.int d.m)), fun s ⟨a, e, q⟩ => ⟨a, e, s _ _ q⟩⟩
end Z
namespace Z
open PySem L2
open Rep (rep)
end Z
namespace Z
open PySem L2
open Rep (rep)
section
variable {X : Cx} {K : Fg} {F H : Hp}
theorem A2.some {α : Type} [Rep α] {vs : List V} {xs : List α} (h : A2 (rep K F) vs xs) : A2 (rep K F) vs (xs.map Option.some) := by
  induction h with
  | nil => exact .nil
  | cons a _ ih => exact .cons (rep_some a) ih
end
end Z
/-! ZS: len(set(xs)) where xs holds an int and a tuple: what has different hashes is never compared -/
namespace L2
open PySem PySem.Spec PyProof.Rows
/-- a set that is known by its hashes -/
structure SetH (w : World) (h : Heap) (a : Addr) (hs : List Int) (es : Array (Int × Value)) (ep : Nat) (t : SetTable) : Prop where
  ob : ∃ o, h.get? a = some o ∧ o.ExactSet ∧ o.data = .set es ep t
  rows : es.toList.map (·.1) = hs
  tab : TabOk t hs
  plain : t.plain = true
  m7 : t.mask = 7
  few : hs.length ≤ 3
  sees : t.fill = hs.length
section
variable {P : Program} {w : World} {A : Around} {E : Value → Shared → Prop} {s : Shared}
variable {a : Addr} {hs : List Int} {es : Array (Int × Value)} {ep : Nat} {t : SetTable}
theorem SetH.size (R : SetH w s.heap a hs es ep t) : es.size = hs.length := by
  rw [← R.rows, List.length_map, Array.length_toList]
theorem SetH.fits (R : SetH w s.heap a hs es ep t) : t.fits es.size = true := by
  have h1 := R.tab.sz
  have h2 := R.size
  have h3 := R.few
  have h4 := R.sees
  have h5 := R.m7
  unfold SetTable.fits
  rw [Bool.and_eq_true]
  refine ⟨by rw [h1, h2]; exact beq_self_eq_true _, decide_eq_true ?_⟩
  rw [h4, h5]
  omega
theorem SetH.hashAt (R : SetH w s.heap a hs es ep t) {i : Nat} (hi : i < hs.length) : (es[i]?.map (·.1)).getD 0 ∈ hs := by
  have hz := R.size
  have e : es[i]? = some es[i] := Array.getElem?_eq_getElem (by omega)
  have q : es[i].1 ∈ es.toList.map (·.1) := List.mem_map.mpr ⟨es[i], by rw [Array.mem_toList_iff]; exact Array.getElem_mem _, rfl⟩
  rw [R.rows] at q
  rw [e]
  exact q
theorem probe_new (T : TabOk t hs) (h7 : hs.length ≤ t.mask) (hashAt : Nat → Int) {h : Int} (hn : ∀ i, i < hs.length → hashAt i ≠ h) : ∃ K, way t.mask h K ∉ t.place.toList ∧ (∀ k, k < K → way t.mask h k ∈ t.place.toList) ∧ t.probe hashAt h (t.probeStart h) = some (.empty (way t.mask h K) none) := by
  obtain ⟨K, hKf, hK, hKb⟩ := T.first h7 h
  refine ⟨K, hK, hKb, ?_⟩
  rcases go_spec t T.ris T.dm hashAt h (10 * SetTable.turns t.mask) K (runAt t.mask (SetTable.bits h % (t.mask + 1)) (SetTable.bits h)) rfl hKf hKb hK with ⟨q, i, _, hi, hh, _⟩ | ⟨_, hpr⟩
  · exfalso
    have h1 : i < t.place.toList.length := (List.getElem?_eq_some_iff.mp hi).1
    have h2 := T.sz
    rw [Array.length_toList] at h1
    exact hn i (by omega) hh
  · exact hpr
theorem search_new (R : SetH w s.heap a hs es ep t) {x : Value} {h : Int} (hn : h ∉ hs) {Q : SetFound → Shared → Prop}
    (hq : ∀ K, way t.mask h K ∉ t.place.toList → (∀ k, k < K → way t.mask h k ∈ t.place.toList) → Q (.free (way t.mask h K) false) s) : wpAny (model P w) A (setSearch a x h true) Q E s := by
  obtain ⟨o, ho, hex, hd⟩ := R.ob
  have h7 := R.m7
  have hf := R.few
  obtain ⟨K, k1, k2, k3⟩ := probe_new R.tab (by omega) (fun i => (es[i]?.map (·.1)).getD 0) (h := h) fun i hi e => hn (by rw [← e]; exact R.hashAt hi)
  unfold setSearch
  rw [show (100000 : Nat) = 99999 + 1 from rfl, setSearchFrom_succ]
  refine wpAny_bind (wpAny_setState_of ho hd R.fits ?_)
  dsimp only
  refine wp_if_neg (by unfold SetTable.gaveWay; rw [h7]; decide) ?_
  try refine wpAny_bind (wpAny_pure ?_)
  have k4 : t.probe (fun i => (es[i]?.map (·.1)).getD 0) h ((none : Option SetTable.Probe).getD (t.probeStart h)) = some (.empty (way t.mask h K) none) := k3
  rw [k4]
  dsimp only
  exact wpAny_pure (hq K k1 k2)
theorem insertH {x : Value} {h : Int} {p : Nat} (hp : p ≤ es.size) : (SetTable.insertAt es p (h, x)).toList = es.toList.take p ++ (h, x) :: es.toList.drop p := SetTable.toList_insertAt _ _ _
/-- one put in that is not there -/
theorem put_new (R : SetH w s.heap a hs es ep t) {x : Value} {h : Int} {K : Nat} (h2 : hs.length ≤ 2) (hK : way t.mask h K ∉ t.place.toList) (hb : ∀ k, k < K → way t.mask h k ∈ t.place.toList) :
    (t.put (way t.mask h K)).1.tooFull = false ∧ (SetTable.insertAt es (t.put (way t.mask h K)).2 (h, x)).size = hs.length + 1 ∧ ((SetTable.insertAt es (t.put (way t.mask h K)).2 (h, x)).toList.Perm ((h, x) :: es.toList)) ∧ (t.put (way t.mask h K)).1.plain = true ∧
    ∀ h' : Heap, (∃ o ep', h'.get? a = some o ∧ o.ExactSet ∧ o.data = .set (SetTable.insertAt es (t.put (way t.mask h K)).2 (h, x)) ep' (t.put (way t.mask h K)).1) → ∃ ep' hs', hs'.Perm (h :: hs) ∧ SetH w h' a hs' (SetTable.insertAt es (t.put (way t.mask h K)).2 (h, x)) ep' (t.put (way t.mask h K)).1 := by
  obtain ⟨q1, q2, q3, q4, q5, q6, q7, q8, q9⟩ := R.tab.put hK hb
  have hz := R.size
  have h7 := R.m7
  generalize hpt : t.put (way t.mask h K) = pt at q1 q3 q4 q5 q6 q7 q8 q9 ⊢
  obtain ⟨t1, p⟩ := pt
  dsimp only at q1 q3 q4 q5 q6 q7 q8 q9 ⊢
  rw [← q1] at q2 q3
  have hin := insertH (es := es) (x := x) (h := h) (p := p) (by omega)
  have pm : (SetTable.insertAt es p (h, x)).toList.Perm ((h, x) :: es.toList) := by
    rw [hin]
    exact put_perm _ _ _
  have hsz : (SetTable.insertAt es p (h, x)).size = hs.length + 1 := by
    have := pm.length_eq
    rw [Array.length_toList, List.length_cons, Array.length_toList] at this
    omega
  refine ⟨?_, hsz, pm, by rw [q6]; exact R.plain, fun h' ⟨o, ep', z1, z2, z3⟩ => ⟨ep', _, put_perm hs p h, ⟨o, z1, z2, z3⟩, ?_, q3, by rw [q6]; exact R.plain, by rw [q4]; exact h7, ?_, ?_⟩⟩
  · unfold SetTable.tooFull
    rw [q9, q4, h7]
    exact decide_eq_false (by omega)
  · rw [hin, List.map_append, List.map_cons, List.map_take, List.map_drop, R.rows]
  · rw [(put_perm hs p h).length_eq, List.length_cons]
    omega
  · rw [q9, (put_perm hs p h).length_eq, List.length_cons]
/-- setAdd's word on a value of a new hash, where the table is searched -/
theorem add_new (R : SetH w s.heap a hs es ep t) {x : Value} {h : Int} (h2 : hs.length ≤ 2) (hn : h ∉ hs) (hsc : byScan x es = false) (hv : ∀ {A : Around} {Q : Bool → Shared → Prop}, Q true s → wpAny (model P w) A (hashByValue 8 x) Q E s) {Q : Bool → Shared → Prop}
    (hQ : ∀ h' hs' es' ep' t', Heap.SameBut a s.heap h' → SetH w h' a hs' es' ep' t' → hs'.Perm (h :: hs) → es'.toList.Perm ((h, x) :: es.toList) → Q true { s with heap := h' }) : wpAny (model P w) A (setAddHashed a x h) Q E s := by
  obtain ⟨o, ho, hex, hd⟩ := R.ob
  unfold setAddHashed
  refine wpAny_holding ?_
  rw [show (100000 : Nat) = 99999 + 1 from rfl, setAddHashedIn_succ]
  refine wpAny_bind (wpAny_setState_of ho hd R.fits ?_)
  dsimp only
  refine wp_if_neg (by rw [hsc]; decide) ?_
  try refine wpAny_bind (wpAny_pure ?_)
  refine wpAny_bind (search_new R hn fun K hK hb => ?_)
  dsimp only
  refine wpAny_bind (wpAny_setState_of ho hd R.fits ?_)
  dsimp only
  obtain ⟨q1, q2, q3, q4, q5⟩ := put_new R (x := x) h2 hK hb
  generalize hpt : t.put (way t.mask h K) = pt at q1 q2 q3 q4 q5 ⊢
  obtain ⟨t1, p⟩ := pt
  dsimp only at q1 q2 q3 q4 q5 ⊢
  first
    | (refine wpAny_bind ?_; refine wp_if_pos q4 ?_; refine hv ?_)
    | refine wp_if_pos q4 (wpAny_bind (hv ?_))
  simp only [if_true]
  refine wpAny_bind (wpAny_storeSet_of ho hd ?_ (by rw [q2, sizeLine_eq]; omega))
  have sb : Heap.SameBut a s.heap (s.heap.update a (Obj.putSet (SetTable.insertAt es p (h, x)) t1)) := Heap.SameBut.update ..
  have ho1 := store_at (es' := SetTable.insertAt es p (h, x)) (t' := t1) ho hd
  obtain ⟨ep', hs', pm, R'⟩ := q5 _ ⟨_, _, ho1, ⟨hex.1, hex.2.1, hex.2.2⟩, rfl⟩
  first
    | refine wp_if_neg (by simp [q1]) ?_
    | (refine wpAny_bind ?_; refine wp_if_neg (by simp [q1]) ?_; refine wpAny_pure ?_)
  exact wpAny_pure (hQ _ hs' _ ep' t1 sb R' pm q3)
/-- the first one, an int -/
theorem add_int1 (R : SetH w s.heap a [] es ep t) {i : Int} {tk : Tok} {h : Int} {Q : Bool → Shared → Prop}
    (hQ : ∀ h' hs' es' ep' t', Heap.SameBut a s.heap h' → SetH w h' a hs' es' ep' t' → hs'.Perm [h] → es'.toList.Perm [(h, .int i tk)] → Q true { s with heap := h' }) : wpAny (model P w) A (setAddHashed a (.int i tk) h) Q E s := by
  obtain ⟨o, ho, hex, hd⟩ := R.ob
  have hz : es.size = 0 := R.size
  have he : es = #[] := Array.eq_empty_of_size_eq_zero hz
  subst he
  unfold setAddHashed
  refine wpAny_holding ?_
  rw [show (100000 : Nat) = 99999 + 1 from rfl, setAddHashedIn_succ]
  refine wpAny_bind (wpAny_setState_of ho hd R.fits ?_)
  dsimp only
  have hsc : byScan (.int i tk) #[] = true := by simp [byScan, Value.scannable, scanBound]
  rw [hsc]
  simp only [if_true]
  unfold setAddByScan
  refine wpAny_bind ?_
  refine wpAny_bind (wpAny_rule ?_)
  have hscan : setScan a (.int i tk) h true #[] = pure .absent := rfl
  rw [hscan]
  refine wpAny_bind (wpAny_pure ?_)
  dsimp only
  have hgw : ∀ (b : Bool) {s₁ : Shared} {Q' : Unit → Shared → Prop}, Q' () s₁ → wpAny (model P w) A (match b with | true => rule "set.scan.the-table-gave-way" | false => pure ()) Q' E s₁ :=
      fun b s₁ Q' hq => by cases b <;> first | exact wpAny_pure hq | exact wpAny_rule hq
  have h7 := R.m7
  obtain ⟨K, k1, k2, k3⟩ := probe_new R.tab (by rw [h7]; decide) (fun _ => h + 1) (h := h) (fun i hi => absurd hi (Nat.not_lt_zero _))
  have hfree : t.freeSlot h = some (way t.mask h K, false) := by
    unfold SetTable.freeSlot
    rw [k3]
    rfl
  obtain ⟨q1, q2, q3, q4, q5⟩ := put_new R (x := .int i tk) (Nat.zero_le _) k1 k2
  generalize hpt : t.put (way t.mask h K) = pt at q1 q2 q3 q4 q5
  obtain ⟨t1, p⟩ := pt
  dsimp only at q1 q2 q3 q4 q5
  obtain ⟨ep0, hs0, pm0, R0⟩ := q5 (s.heap.update a (Obj.putSet (SetTable.insertAt #[] p (h, .int i tk)) t1)) ⟨_, _, store_at (es' := SetTable.insertAt #[] p (h, .int i tk)) (t' := t1) ho hd, ⟨hex.1, hex.2.1, hex.2.2⟩, rfl⟩
  have hfit : t1.fits (SetTable.insertAt #[] p (h, Value.int i tk)).size = true := SetH.fits (s := { s with heap := _ }) R0
  have hlay : layNew t #[] h (.int i tk) = (SetTable.insertAt #[] p (h, .int i tk), t1, false, false) := by
    unfold layNew
    rw [hfree]
    dsimp only
    rw [hpt]
    dsimp only
    rw [hfit]
    unfold SetTable.orStandIn
    rw [if_pos hfit]
    rfl
  rw [hlay]
  dsimp only
  refine wpAny_bind (hgw false ?_)
  first
    | (refine wpAny_bind ?_; refine wp_if_pos q4 ?_; rw [hashBy_int]; refine wpAny_pure ?_)
    | (refine wp_if_pos q4 ?_; rw [hashBy_int]; refine wpAny_bind (wpAny_pure ?_))
  simp only [if_true]
  refine wpAny_bind (wpAny_storeSet_of ho hd ?_ (by rw [q2, sizeLine_eq]; decide))
  have sb : Heap.SameBut a s.heap (s.heap.update a (Obj.putSet (SetTable.insertAt #[] p (h, .int i tk)) t1)) := Heap.SameBut.update ..
  first
    | refine wp_if_neg (by simp [q1]) ?_
    | (refine wpAny_bind ?_; refine wp_if_neg (by simp [q1]) ?_)
  exact wpAny_pure (wpAny_pure (hQ _ hs0 _ ep0 t1 sb R0 pm0 q3))
theorem setH_fresh {h : Heap} {a : Addr} (ho : h.get? a = some { cls := .type "set", dict := none, data := .set #[] 0 (.fresh 0 0 (!w.params.followText "set-order")) }) : SetH w h a [] #[] 0 (.fresh 0 0 (!w.params.followText "set-order")) where
  ob := ⟨_, ho, ⟨rfl, rfl, rfl⟩, rfl⟩
  rows := rfl
  tab := ⟨List.Pairwise.nil, rfl, rfl, .inl rfl, fun x hx => (by cases hx), fun i h j hi => (by simp at hi)⟩
  plain := rfl
  m7 := rfl
  few := Nat.zero_le _
  sees := rfl
theorem SetH.keep {h h' : Heap} (R : SetH w h a hs es ep t) (ha : ∀ o, h.get? a = some o → h'.get? a = some o) : SetH w h' a hs es ep t := by
  obtain ⟨o, ho, r⟩ := R.ob
  exact ⟨⟨o, ha o ho, r⟩, R.rows, R.tab, R.plain, R.m7, R.few, R.sees⟩
/-- an int or a tuple of ints, and its hash -/
def KeyH (P : Program) (w : World) (h : Heap) (p : Value × Int) : Prop := (∃ i t, p.1 = .int i t ∧ p.2 = hashInt i) ∨ (∃ b k, p.1 = .ref b ∧ IsT P w h k b ∧ p.2 = thash P w k)
/-- ints come first, or behind a tuple -/
def MixH (ks : List (Value × Int)) : Prop := ∀ i p, ks[i]? = some p → (∃ b, p.1 = .ref b) ∨ i = 0 ∨ ∃ j q, j < i ∧ ks[j]? = some q ∧ ∃ b, q.1 = .ref b
structure GotH (w : World) (h : Heap) (a : Addr) (ks : List (Value × Int)) (i : Nat) : Prop where
  ex : ∃ hs es ep t, SetH w h a hs es ep t ∧ hs.Perm ((ks.take i).map (·.2)) ∧ es.toList.Perm ((ks.take i).map fun p => (p.2, p.1))
theorem GotH.keep {h h' : Heap} {ks : List (Value × Int)} {i : Nat} (g : GotH w h a ks i) (ha : ∀ o, h.get? a = some o → h'.get? a = some o) : GotH w h' a ks i := by
  obtain ⟨hs, es, ep, t, R, p1, p2⟩ := g.ex
  exact ⟨hs, es, ep, t, R.keep ha, p1, p2⟩
/-- set.add within the loop -/
theorem add_step {ks : List (Value × Int)} {h0 : Heap} (hfew : ks.length ≤ 3) (hnd : (ks.map (·.2)).Nodup) (hmix : MixH ks) (hu : A.units < cLine) {i : Nat} {p : Value × Int} (hp : ks[i]? = some p) (hk : KeyH P w h0 p) (kp : ∀ b o, h0.get? b = some o → s.heap.get? b = some o)
    (g : GotH w s.heap a ks i) {Q : Bool → Shared → Prop} (hQ : ∀ h' tk, s.toks ≤ tk → Heap.SameBut a s.heap h' → GotH w h' a ks (i + 1) → Q true { s with heap := h', toks := tk }) : wpAny (model P w) A (setAdd a p.1) Q E s := by
  obtain ⟨hs, es, ep, t, R, p1, p2⟩ := g.ex
  have hi : i < ks.length := (List.getElem?_eq_some_iff.mp hp).1
  have et : ks.take (i + 1) = ks.take i ++ [p] := take_next hp
  have hl : hs.length = i := by
    have := p1.length_eq
    rw [List.length_map, List.length_take] at this
    omega
  have hn : p.2 ∉ hs := fun z => by
    have z1 := p1.mem_iff.mp z
    have z2 : ks.map (·.2) = (ks.take i).map (·.2) ++ (ks.drop i).map (·.2) := by rw [← List.map_append, List.take_append_drop]
    rw [z2, List.nodup_append] at hnd
    exact hnd.2.2 _ z1 _ (List.mem_map.mpr ⟨p, by rw [List.mem_iff_getElem?]; exact ⟨0, by rw [List.getElem?_drop]; exact hp⟩, rfl⟩) rfl
  have fin : ∀ (hs' : List Int) (es' : Array (Int × Value)), hs'.Perm (p.2 :: hs) → es'.toList.Perm ((p.2, p.1) :: es.toList) → hs'.Perm ((ks.take (i + 1)).map (·.2)) ∧ es'.toList.Perm ((ks.take (i + 1)).map fun p => (p.2, p.1)) := fun hs' es' a1 a2 => by
    rw [et, List.map_append, List.map_append]
    exact ⟨a1.trans ((p1.cons _).trans (List.perm_append_comm (l₁ := [p.2]))), a2.trans ((p2.cons _).trans (List.perm_append_comm (l₁ := [(p.2, p.1)])))⟩
  unfold setAdd
  refine wpAny_holding ?_
  obtain ⟨v, hh⟩ := p
  rcases hk with ⟨n, tk, rfl, e2⟩ | ⟨b, k, rfl, hT, e2⟩
  · have e2' : hh = hashInt n := e2
    subst e2'
    refine wpAny_bind (wpAny_pyHash_int ?_)
    by_cases h0' : i = 0
    · subst h0'
      have : hs = [] := List.length_eq_zero_iff.mp hl
      subst this
      refine add_int1 (s := { s with toks := s.toks + 1 }) R fun h' hs' es' ep' t' sb R' a1 a2 => hQ h' (s.toks + 1) (Nat.le_succ _) sb ⟨hs', es', ep', t', R', ?_⟩
      have e0 : es = #[] := Array.eq_empty_of_size_eq_zero R.size
      subst e0
      exact fin hs' es' a1 a2
    · have hsc : byScan (.int n tk) es = false := by
        rcases hmix i _ hp with ⟨b, z⟩ | z | ⟨j, q, hj, hq, b, eb⟩
        · exact nomatch z
        · exact absurd z h0'
        · have hq2 : (q.2, q.1) ∈ es.toList := p2.mem_iff.mpr (List.mem_map.mpr ⟨q, by rw [List.mem_iff_getElem?]; exact ⟨j, by rw [List.getElem?_take, if_pos hj]; exact hq⟩, rfl⟩)
          unfold byScan
          have : es.all (fun e => e.2.scannable) = false := by
            rw [← Bool.not_eq_true, Array.all_eq_true_iff_forall_mem]
            intro z
            have := z _ (by rw [← Array.mem_toList_iff]; exact hq2)
            rw [eb] at this
            exact nomatch this
          rw [this, Bool.and_false]
      exact add_new (s := { s with toks := s.toks + 1 }) R (by omega) hn hsc (fun h => by rw [hashBy_int]; exact wpAny_pure h) fun h' hs' es' ep' t' sb R' a1 a2 => hQ h' (s.toks + 1) (Nat.le_succ _) sb ⟨hs', es', ep', t', R', fin hs' es' a1 a2⟩
  · have e2' : hh = thash P w k := e2
    subst e2'
    have hT' := isT_keep hT kp
    refine wpAny_bind (wpAny_pyHash_tuple hu hT' ?_)
    exact add_new (s := { s with toks := s.toks + (k.length + 1) }) R (by omega) hn (by simp [byScan, Value.scannable]) (fun h => hashBy_tup hT' h) fun h' hs' es' ep' t' sb R' a1 a2 => hQ h' (s.toks + (k.length + 1)) (Nat.le_add_right _ _) sb ⟨hs', es', ep', t', R', fin hs' es' a1 a2⟩
/-- set.update's loop over a short list whose hashes differ -/
theorem update_mix {I : Addr} {fp wr : List Addr} {G : Array GenState → Array GenState → Prop} {n : Nat} {Pv : Nat → Value → Prop} {St : Nat → Shared → Prop} {R : Result → Shared → Prop}
    (W : WalksS P w A.in1 I fp wr G n Pv St) (S : Addr) (hSf : S ∉ fp) (ks : List (Value × Int)) (hn : n = ks.length) (hfew : ks.length ≤ 3) (hnd : (ks.map (·.2)).Nodup) (hmix : MixH ks) (hval : ∀ i v, Pv i v → ∃ p, ks[i]? = some p ∧ v = p.1)
    (h0 : Heap) (hk : ∀ p ∈ ks, KeyH P w h0 p) (hS0 : h0.get? S = none) (hw0 : ∀ b ∈ wr, h0.get? b = none) (hu : A.in1.units < cLine) :
    ∀ (k i : Nat) (s : Shared), n - i = k → i ≤ n → St i s → (∀ b o, h0.get? b = some o → s.heap.get? b = some o) → GotH w s.heap S ks i →
      (∀ s', Moved (S :: wr) G s s' → GotH w s'.heap S ks n → (∀ b o, h0.get? b = some o → s'.heap.get? b = some o) → R (.ok (.ret .none)) s') →
      codeAny (model P w) A (.builtin "set.update.loop" ⟨[.ref S, .ref I], []⟩) R s := by
  have hSw : S ∉ wr := fun h => hSf (W.sub _ h)
  have hsub : ∀ b ∈ wr, b ∈ S :: wr := fun b hb => List.mem_cons_of_mem _ hb
  have keepM : ∀ {s s' : Shared}, Moved wr G s s' → (∀ b o, h0.get? b = some o → s.heap.get? b = some o) → ∀ b o, h0.get? b = some o → s'.heap.get? b = some o := fun hm hkp b o e =>
    hm.heap b o (fun hb => by rw [hw0 b hb] at e; cases e) (hkp b o e)
  intro k
  induction k with
  | zero =>
    intro i s hk' hi hst hkp g hR
    have hin : i = n := by omega
    subst hin
    refine codeAny_builtin F.entry_set_update_loop ?_
    rw [Around.under_plainId F.plain_set_update_loop _]
    show wpAny _ A.in1 (pyNext (.ref I) >>= _) _ _ s
    refine wpAny_bind (W.done s _ _ hst fun s' hm => ?_)
    show wpAny _ A.in1 (ret Value.none) _ _ s'
    exact wpAny_pure (hR s' (hm.mono hsub) (g.keep fun o e => hm.heap S o hSw e) (keepM hm hkp))
  | succ k ih =>
    intro i s hk' hi hst hkp g hR
    have hlt : i < n := by omega
    refine codeAny_builtin F.entry_set_update_loop ?_
    rw [Around.under_plainId F.plain_set_update_loop _]
    show wpAny _ A.in1 (pyNext (.ref I) >>= _) _ _ s
    refine wpAny_bind (W.item i s _ _ hlt hst fun v s' hP hst' hm => ?_)
    obtain ⟨p, hp, rfl⟩ := hval i v hP
    have hkp' := keepM hm hkp
    show wpAny _ A.in1 (holding [p.1] (setAdd S p.1) >>= _) _ _ s'
    refine wpAny_bind (wpAny_holding ?_)
    refine add_step (s := s') hfew hnd hmix hu hp (hk p (List.mem_of_getElem? hp)) hkp' (g.keep fun o e => hm.heap S o hSw e) fun h' tk htk hsb g2 => ?_
    have hkp2 : ∀ b o, h0.get? b = some o → h'.get? b = some o := fun b o e => (hsb.2 b (fun z => by rw [z, hS0] at e; cases e)).trans (hkp' b o e)
    refine wpAny_pure ⟨plainId_quiet F.plain_set_update_loop _, ih (i + 1) _ (by omega) hlt (W.frame _ s' _ _ hst' htk fun b hb o e => ?_) hkp2 g2 fun s'' hm'' g'' hkp'' => ?_⟩
    · rw [hsb.2 b (fun h : b = S => hSf (by rw [← h]; exact hb))]; exact e
    · refine hR s'' (Moved.trans W.gtrans ((hm.mono hsub).then_heap htk fun b o hb e => ?_) hm'') g'' hkp''
      rw [hsb.2 b (fun h : b = S => hb (by rw [h]; exact List.mem_cons_self))]; exact e
set_option maxHeartbeats 3200000 in
/-- set(xs) of a short list whose hashes differ (its frame is that of the other texts' set(xs)) -/
theorem set_of_mix {l : Addr} {items : Array Value} (ks : List (Value × Int)) {Q : Value → Shared → Prop} (hh : A.handled = none) (hl : s.heap.IsList l items) (hit : items.toList = ks.map (·.1))
    (hk : ∀ p ∈ ks, KeyH P w s.heap p) (hfew : ks.length ≤ 3) (hnd : (ks.map (·.2)).Nodup) (hmix : MixH ks) (hu : A.units + 3 < cLine)
    (h : ∀ (h' : Heap) (tk : Nat), GotH w h' s.heap.objs.size ks ks.length → (∀ b o, s.heap.get? b = some o → h'.get? b = some o) → Q (.ref s.heap.objs.size) { s with heap := h', toks := tk }) :
    wpAny (model P w) A (call (.type "set") [.ref l]) Q E s := by
  have hisz : items.size = ks.length := by
    have q := congrArg List.length hit
    rw [Array.length_toList, List.length_map] at q
    exact q
  obtain ⟨c, tl, hmro⟩ := F.called_set.mro
  have hmade := F.called_set.made
  have hsub := F.called_set.sub
  refine wpAny_call (codeAny_of_tree ?_)
  show wpAny _ _ (callAny (.type "set") _) _ _ _
  refine wpAny_pure ⟨Code.quiet_builtin _ (by decide +kernel), codeAny_builtin F.entry_type_call ?_⟩
  rw [Around.under_plain (weight_type_call_type "set" [.ref l] []) rfl]
  have h1 := F.called_set.notType
  have h2 := F.called_set.canCreate
  have hct := F.typeCall_set_1 (.ref l)
  repeat (any_goals (first | assumption | wp_step))
  refine codeAny_mono (code_set_led1 (.ref l) (E := E) (Q₁ := fun obj s₁ => obj = .ref s.heap.objs.size ∧ s₁ = { s with heap := s.heap.push { cls := .type "set", dict := none, data := .set #[] 0 (.fresh 0 0 (!w.params.followText "set-order")) } }) ⟨rfl, rfl⟩) fun r s₁ hr => ?_
  cases r with
  | error e => exact hr
  | ok fl =>
    cases fl with
    | ret obj =>
      obtain ⟨rfl, rfl⟩ := hr
      have hS : (s.heap.push { cls := .type "set", dict := none, data := .set #[] 0 (.fresh 0 0 (!w.params.followText "set-order")) }).get? s.heap.objs.size = some { cls := .type "set", dict := none, data := .set #[] 0 (.fresh 0 0 (!w.params.followText "set-order")) } := Heap.get?_push_size _ rfl
      have hT : Shared.TypeIs { s with heap := s.heap.push { cls := .type "set", dict := none, data := .set #[] 0 (.fresh 0 0 (!w.params.followText "set-order")) } } (.ref s.heap.objs.size) "set" := ⟨_, hS, rfl⟩
      have hli := F.called_set.init.lookup
      have hbi := F.called_set.init.bind (.ref s.heap.objs.size)
      repeat (any_goals (first | assumption | wp_step))
      refine codeAny_mono (codeAny_call_builtin (R := wants (fun r s₂ => r = .none ∧ ∃ h' tk, s₂ = { s with heap := h', toks := tk } ∧ GotH w h' s.heap.objs.size ks ks.length ∧
          (∀ b o, s.heap.get? b = some o → h'.get? b = some o)) E) F.called_set.init.plain F.entry_set_init (check_set_init_1 hT ?_)) fun r₂ s₂ hr₂ => ?_
      · obtain ⟨ol, hol, hcl, nl, hdl⟩ := hl
        obtain ⟨ocls, odict, odata, oslots⟩ := ol
        simp only at hcl hdl
        subst hcl; subst hdl
        have hol' : (s.heap.push { cls := .type "set", dict := none, data := .set #[] 0 (.fresh 0 0 (!w.params.followText "set-order")) }).get? l = some { cls := .type "list", dict := odict, data := .seq items nl, slots := oslots } := Heap.get?_push_of_some _ hol
        have hsls := F.sub_list_set
        have hslf := F.sub_list_frozenset
        have hne : (Value.type "list" == Value.type "dict") = false := by decide
        have hl1 : (s.heap.push { cls := .type "set", dict := none, data := .set #[] 0 (.fresh 0 0 (!w.params.followText "set-order")) }).IsList l items := ⟨_, hol', rfl, nl, rfl⟩
        unfold Builtin.«set.__init__» noKeywords Builtin.Frozenset.updateFrom
        generalize hPI : pyIter = PI
        wp_walk
        subst hPI
        refine wpAny_pyIter_list hl1 ?_
        refine wpAny_bind (wpAny_runValue ?_)
        have hlS : l < s.heap.objs.size := Heap.lt_size hol
        have hh3 : A.in1.in1.in1.handled = none := by simp [hh]
        have hneI : l ≠ (s.heap.push { cls := .type "set", dict := none, data := .set #[] 0 (.fresh 0 0 (!w.params.followText "set-order")) }).objs.size := by
          rw [Heap.size_push]; exact Nat.ne_of_lt (Nat.lt_succ_of_lt hlS)
        have hSf : s.heap.objs.size ∉ [(s.heap.push { cls := .type "set", dict := none, data := .set #[] 0 (.fresh 0 0 (!w.params.followText "set-order")) }).objs.size, l] := by
          rw [Heap.size_push]; simp only [List.mem_cons, List.mem_singleton, List.not_mem_nil, or_false, not_or]
          exact ⟨Nat.ne_of_lt (Nat.lt_succ_self _), Nat.ne_of_gt hlS⟩
        have hval : ∀ (i : Nat) (v : Value), items[i]? = some v → ∃ p, ks[i]? = some p ∧ v = p.1 := fun i v hv => by
          have q : items.toList[i]? = some v := by rw [Array.getElem?_toList]; exact hv
          rw [hit, List.getElem?_map] at q
          cases hq : ks[i]? with
          | none => rw [hq] at q; cases q
          | some p =>
            rw [hq] at q
            exact ⟨p, rfl, (Option.some.inj q).symm⟩
        have none_of : ∀ b, s.heap.objs.size ≤ b → s.heap.get? b = none := fun b hb => by
          cases q : s.heap.get? b with
          | none => rfl
          | some o => exact absurd (Nat.lt_of_lt_of_le (Heap.lt_size q) hb) (Nat.lt_irrefl _)
        refine update_mix ((Walks.list hh3 _ l hneI items).toS) s.heap.objs.size
          hSf ks hisz hfew hnd hmix hval s.heap hk (none_of _ (Nat.le_refl _)) (fun b hb => none_of b (by
            rw [List.mem_singleton.mp hb, Heap.size_push]
            exact Nat.le_succ _)) hu (items.size - 0) 0 _ (by omega) (Nat.zero_le _)
          ⟨⟨_, Heap.get?_push_size _ rfl, rfl, rfl⟩, (hl1.push _)⟩ (fun b o e => Heap.get?_push_of_some _ (Heap.get?_push_of_some _ e)) ?hS0 ?hR
        case hS0 =>
          have hget : ((s.heap.push { cls := .type "set", dict := none, data := .set #[] 0 (.fresh 0 0 (!w.params.followText "set-order")) }).push { cls := .type "list_iterator", data := .fields #[.ref l, .int 0 0] }).get? s.heap.objs.size
              = some { cls := .type "set", dict := none, data := .set #[] 0 (.fresh 0 0 (!w.params.followText "set-order")) } := Heap.get?_push_of_some _ hS
          exact ⟨[], #[], 0, _, setH_fresh hget, List.Perm.refl _, List.Perm.refl _⟩
        case hR =>
          intro s' hm g' hkp
          obtain ⟨h', g2, d', tk', os'⟩ := s'
          have eg : g2 = s.gens := hm.gens
          have ed : d' = s.drawn := hm.drawn
          have eo : os' = s.os := hm.os
          subst eg; subst ed; subst eo
          show wpAny _ _ _ _ _ _
          refine wpAny_pure ?_
          show wpAny _ _ (ret Value.none) _ _ _
          rw [hisz] at g'
          exact wpAny_pure ⟨rfl, h', tk', rfl, g', hkp⟩
      · cases r₂ with
        | error e => exact hr₂
        | ok fl₂ =>
          cases fl₂ with
          | ret r =>
            obtain ⟨rfl, h', tk, rfl, g', hk'⟩ := hr₂
            repeat (any_goals (first | assumption | wp_step))
            exact h _ _ g' hk'
          | _ => exact hr₂.elim
    | _ => exact hr.elim
end
end L2
/-! ZU: len(set(xs)) of things, of ints -/
namespace Z
open PySem L2
open Rep (rep)
theorem hash_small : ((List.range 64).all fun i => hashInt (i : Int) == (i : Int)) = true := by decide +kernel
theorem hash_pairs : ((List.range 64).all fun a => (List.range 64).all fun b => decide (reduceHash (Builtin.Tuple.tupleHashOf [hashInt (a : Int), hashInt (b : Int)]) < 0) || decide (64 ≤ reduceHash (Builtin.Tuple.tupleHashOf [hashInt (a : Int), hashInt (b : Int)]))) = true := by decide +kernel
theorem hash_int {i : Int} (h0 : 0 ≤ i) (h1 : i < 64) : hashInt i = i := by
  have h := List.all_eq_true.mp hash_small i.toNat (List.mem_range.mpr (by omega))
  rw [beq_iff_eq, show ((i.toNat : Nat) : Int) = i by omega] at h
  exact h
theorem hash_ne {P : Program} {w : World} {i a b : Int} (h0 : 0 ≤ i) (h1 : i < 64) (a0 : 0 ≤ a) (a1 : a < 64) (b0 : 0 ≤ b) (b1 : b < 64) : thash P w [a, b] ≠ hashInt i := by
  rw [hash_int h0 h1]
  have h := List.all_eq_true.mp (List.all_eq_true.mp hash_pairs a.toNat (List.mem_range.mpr (by omega))) b.toNat (List.mem_range.mpr (by omega))
  rw [show ((a.toNat : Nat) : Int) = a by omega, show ((b.toNat : Nat) : Int) = b by omega, Bool.or_eq_true, decide_eq_true_eq, decide_eq_true_eq] at h
  have e : thash P w [a, b] = reduceHash (Builtin.Tuple.tupleHashOf [hashInt a, hashInt b]) := rfl
  rw [e]
  omega
/-- at a: a set of n things -/
def SetN (a : Addr) (n : Nat) : HO := .ext fun h => ∃ (o : Obj) (es : Array (Int × Value)) (ep : Nat) (t : SetTable), h.get? a = some o ∧ o.ExactSet ∧ o.data = .set es ep t ∧ t.fits es.size = true ∧ es.size = n
theorem setN_new {P : Program} {w : World} {H : Hp} {h : Heap} {a : Addr} {n : Nat} (R : ∃ (o : Obj) (es : Array (Int × Value)) (ep : Nat) (t : SetTable), h.get? a = some o ∧ o.ExactSet ∧ o.data = .set es ep t ∧ t.fits es.size = true ∧ es.size = n) : ObjOk P w H h a (SetN a n) := by
  have ⟨o, _, _, _, ho, _⟩ := R
  exact ⟨R, ⟨o, ho⟩, fun h1 h2 z k => by
    obtain ⟨o, es, ep, t, ho, r⟩ := z
    exact ⟨o, es, ep, t, k o ho, r⟩⟩
def Thing.small : Thing → Bool
  | .pl i => decide (0 ≤ i) && decide (i < 64)
  | .ti a b => decide (0 ≤ a) && decide (a < 64) && decide (0 ≤ b) && decide (b < 64)
/-- things whose set is as long as their list -/
def okS (ts : List Thing) : Bool := decide ts.Nodup && decide (ts.length < 64) && (ts.all Thing.isPl || ts.all (fun t => !t.isPl) || (decide (ts.length = 2) && ts.all Thing.small))
section
variable {K : Fg} {F H : Hp}
theorem all_pl : ∀ {us : List V} {ts : List Thing}, A2 (rep K H) us ts → ts.all Thing.isPl = true → ∃ ns : List Int, ts = mkpl ns ∧ us = ns.map V.int
  | _, _, .nil, _ => ⟨[], rfl, rfl⟩
  | x :: _, t :: _, .cons h hs, e => by
    rw [List.all_cons, Bool.and_eq_true] at e
    obtain ⟨ns, e1, e2⟩ := all_pl hs e.2
    cases t with
    | pl i =>
      have h' : x = V.int i := h
      exact ⟨i :: ns, by rw [e1]; rfl, by rw [e2, h']; rfl⟩
    | ti a b => exact nomatch e.1
theorem all_ti (sm : Same F H) : ∀ {us : List V} {ts : List Thing}, A2 (rep K F) us ts → ts.all (fun t => !t.isPl) = true → ∃ ks : List (Addr × List Int), us = ks.map (fun p => V.ref p.1) ∧ (∀ p ∈ ks, SqT K H p.1 (p.2.map V.int)) ∧ ks.map (·.2) = ts.map (fun t => match t with | .pl i => [i] | .ti a b => [a, b])
  | _, _, .nil, _ => ⟨[], rfl, ⟨fun _ z => (nomatch z), rfl⟩⟩
  | x :: _, t :: _, .cons h hs, e => by
    rw [List.all_cons, Bool.and_eq_true] at e
    obtain ⟨ks, e1, e2, e3⟩ := all_ti sm hs e.2
    cases t with
    | pl i => exact nomatch e.1
    | ti a b =>
      obtain ⟨c, u, w, rfl, q, r1, r2⟩ := (show rep K F x (a, b) from h)
      have r1' : u = V.int a := r1
      have r2' : w = V.int b := r2
      subst r1' r2'
      refine ⟨(c, [a, b]) :: ks, by rw [e1]; rfl, fun p hp => ?_, by rw [List.map_cons, e3]; rfl⟩
      rcases List.mem_cons.mp hp with rfl | hp
      · exact .inl (.inl (sm _ _ q))
      · exact e2 p hp
end
section
variable {X : Cx} {K : Fg} {w : World}
theorem cr_setN (hK : X.K = K) (hc : X.calm = true) (hu : X.A.units + 64 < cLine) : CallR X (.type "set") (fun xs H Q => ∃ (l : Addr) (us : List V) (ts : List Thing) (F : Hp), xs = [V.ref l] ∧ SqL K H l us ∧ Same F H ∧ A2 (rep K F) us ts ∧ okS ts = true ∧ ∀ a, H a = none → Q (.ref a) (upd H a (SetN a ts.length))) := by
  subst hK
  intro pins s σ H xs vs Q I r h
  obtain ⟨l, us, ts, F, rfl, hl, sm, hA, hok, q⟩ := h
  rw [Vals.ref1 r]
  obtain ⟨its, rv, pl, hz⟩ := I.list hl
  have hn : H s.heap.objs.size = none := I.hok.fresh (Nat.le_refl _)
  unfold okS at hok
  rw [Bool.and_eq_true, Bool.and_eq_true, decide_eq_true_eq, decide_eq_true_eq] at hok
  obtain ⟨⟨hnd, hlen⟩, hcase⟩ := hok
  have lay : ∀ (h' : Heap) (tk : Nat), (∀ b o, s.heap.get? b = some o → h'.get? b = some o) → (∃ (o : Obj) (es : Array (Int × Value)) (ep : Nat) (t : SetTable), h'.get? s.heap.objs.size = some o ∧ o.ExactSet ∧ o.data = .set es ep t ∧ t.fits es.size = true ∧ es.size = ts.length) →
      EP X pins σ Q (.ref s.heap.objs.size) { s with heap := h', toks := tk } := fun h' tk k R =>
    ⟨.ref s.heap.objs.size, upd H s.heap.objs.size (SetN s.heap.objs.size ts.length), I.laid (t' := tk) k (Nat.le_refl _) (setN_new R), rfl, q _ hn⟩
  by_cases c1 : ts.all Thing.isPl = true
  · obtain ⟨ns, rfl, rfl⟩ := all_pl hA c1
    have hnl : ns.length < 64 := by
      unfold mkpl at hlen
      rw [List.length_map] at hlen
      exact hlen
    have hnn : ns.Nodup := nodup_of_map hnd
    refine set_of_listI ns (I.ok.hd hc) pl.isList (by simpa using ints_of_vals rv) (by unfold scanBound; omega) fun h' tk c R hcn k => lay h' tk k ?_
    obtain ⟨o, es, ep, t, ho, hex, hdt, g, nd, hm2, hb, hf, hcs, hr, hl2⟩ := R
    refine ⟨o, es, ep, t, ho, hex, hdt, hf, ?_⟩
    have e1 : (es.toList.map keyOf).length = ns.length := nodup_len nd hnn fun y => by
      rw [← hm2 y, decide_eq_true_eq]
    rw [List.length_map, Array.length_toList] at e1
    rw [e1]
    unfold mkpl
    rw [List.length_map]
  · by_cases c2 : ts.all (fun t => !t.isPl) = true
    · obtain ⟨ks, rfl, hks, ek⟩ := all_ti sm hA c2
      have ekl : ks.length = ts.length := by
        have := congrArg List.length ek
        rw [List.length_map, List.length_map] at this
        exact this
      have hkn : (ks.map (·.2)).Nodup := by
        rw [ek]
        refine List.pairwise_map.mpr (hnd.imp_of_mem fun {a b} ha hb hne e => hne ?_)
        have q1 := List.all_eq_true.mp c2 a ha
        have q2 := List.all_eq_true.mp c2 b hb
        cases a with
        | pl i => exact nomatch q1
        | ti a1 a2 =>
          cases b with
          | pl i => exact nomatch q2
          | ti b1 b2 =>
            have e' : [a1, a2] = [b1, b2] := e
            injection e' with z1 z2
            injection z2 with z2 _
            rw [z1, z2]
      have eits := refs_of_vals rv
      refine call_set_tups ks (I.ok.hd hc) pl.isList (by simpa using eits) (fun p hp => I.isT (hks p hp)) (by omega) (by omega) fun h' tk L es ep t R G k => lay h' tk k ?_
      obtain ⟨o, ho, hex, hd⟩ := R.ob
      refine ⟨o, es, ep, t, ho, hex, hd, SetTR.fits (s := { s with heap := h' }) R, ?_⟩
      rw [SetTR.size (s := { s with heap := h' }) R, ← ekl]
      refine Nat.le_antisymm G.len ?_
      have z : (ks.map (·.2)).length ≤ (L.map (·.2)).length := by
        refine nodup_le hkn fun x hx => ?_
        obtain ⟨p, hp, rfl⟩ := List.mem_map.mp hx
        exact G.all p (by rw [List.take_length]; exact hp)
      rw [List.length_map, List.length_map] at z
      exact z
    · have c3 : ts.length = 2 ∧ ts.all Thing.small = true := by
        rw [Bool.or_eq_true, Bool.or_eq_true, Bool.and_eq_true, decide_eq_true_eq] at hcase
        rcases hcase with (z | z) | z
        · exact absurd z c1
        · exact absurd z c2
        · exact z
      obtain ⟨x, y, rfl⟩ : ∃ x y, ts = [x, y] := by
        match ts, c3.1 with
        | [x, y], _ => exact ⟨x, y, rfl⟩
      rw [List.all_cons, List.all_cons, Bool.and_eq_true, Bool.and_eq_true] at c3
      obtain ⟨_, s1, s2, _⟩ := c3
      cases hA with
      | cons h1 hA =>
        cases hA with
        | cons h2 hA =>
          cases hA
          rename_i v1 v2
          -- one is an int, one a tuple
          have key : ∀ (i a b : Int), Thing.small (.pl i) = true → Thing.small (.ti a b) = true → (0 ≤ i ∧ i < 64) ∧ (0 ≤ a ∧ a < 64) ∧ 0 ≤ b ∧ b < 64 := fun i a b z1 z2 => by
            unfold Thing.small at z1 z2
            simp only [Bool.and_eq_true, decide_eq_true_eq] at z1 z2
            omega
          cases x with
          | pl i =>
            cases y with
            | pl j => exact absurd rfl c1
            | ti a b =>
              obtain ⟨k1, k2, k3⟩ := key i a b s1 s2
              have h1' : v1 = V.int i := h1
              subst h1'
              obtain ⟨c, u, w', rfl, hq, r1, r2⟩ := (show rep X.K F v2 (a, b) from h2)
              have r1' : u = V.int a := r1
              have r2' : w' = V.int b := r2
              subst r1' r2'
              cases rv with
              | cons g1 rv =>
                cases rv with
                | cons g2 rv =>
                  cases rv
                  obtain ⟨tk0, rfl⟩ := (show ∃ t, _ = Value.int i t from g1)
                  obtain rfl : _ = Value.ref c := g2
                  have hT : IsT X.prog X.w s.heap [a, b] c := I.isT (.inl (.inl (sm _ _ hq)))
                  refine set_of_mix [(.int i tk0, hashInt i), (.ref c, thash X.prog X.w [a, b])] (I.ok.hd hc) pl.isList (by rfl) (fun p hp => ?_) (by show 2 ≤ 3; decide) ?_ ?_ (by omega) fun h' tk g k => lay h' tk k ?_
                  · rcases List.mem_cons.mp hp with rfl | hp
                    · exact .inl ⟨i, tk0, rfl, rfl⟩
                    · rw [List.mem_singleton.mp hp]
                      exact .inr ⟨c, [a, b], rfl, hT, rfl⟩
                  · show [hashInt i, thash X.prog X.w [a, b]].Nodup
                    have := hash_ne (P := X.prog) (w := X.w) k1.1 k1.2 k2.1 k2.2 k3.1 k3.2
                    simp only [List.nodup_cons, List.mem_singleton, List.not_mem_nil, not_false_eq_true, List.nodup_nil, and_true]
                    exact fun z => this z.symm
                  · intro n p hp
                    match n, hp with
                    | 0, _ => exact .inr (.inl rfl)
                    | 1, hp => exact .inl ⟨c, by cases hp; rfl⟩
                  · obtain ⟨hs, es, ep, t, R, p1, p2⟩ := g.ex
                    obtain ⟨o, ho, hex, hd⟩ := R.ob
                    exact ⟨o, es, ep, t, ho, hex, hd, SetH.fits (s := { s with heap := h' }) R, by rw [← Array.length_toList, p2.length_eq]; rfl⟩
          | ti a b =>
            cases y with
            | ti a' b' => exact absurd rfl c2
            | pl i =>
              obtain ⟨k1, k2, k3⟩ := key i a b s2 s1
              have h2' : v2 = V.int i := h2
              subst h2'
              obtain ⟨c, u, w', rfl, hq, r1, r2⟩ := (show rep X.K F v1 (a, b) from h1)
              have r1' : u = V.int a := r1
              have r2' : w' = V.int b := r2
              subst r1' r2'
              cases rv with
              | cons g1 rv =>
                cases rv with
                | cons g2 rv =>
                  cases rv
                  obtain ⟨tk0, rfl⟩ := (show ∃ t, _ = Value.int i t from g2)
                  obtain rfl : _ = Value.ref c := g1
                  have hT : IsT X.prog X.w s.heap [a, b] c := I.isT (.inl (.inl (sm _ _ hq)))
                  refine set_of_mix [(.ref c, thash X.prog X.w [a, b]), (.int i tk0, hashInt i)] (I.ok.hd hc) pl.isList (by rfl) (fun p hp => ?_) (by show 2 ≤ 3; decide) ?_ ?_ (by omega) fun h' tk g k => lay h' tk k ?_
                  · rcases List.mem_cons.mp hp with rfl | hp
                    · exact .inr ⟨c, [a, b], rfl, hT, rfl⟩
                    · rw [List.mem_singleton.mp hp]
                      exact .inl ⟨i, tk0, rfl, rfl⟩
                  · show [thash X.prog X.w [a, b], hashInt i].Nodup
                    have := hash_ne (P := X.prog) (w := X.w) k1.1 k1.2 k2.1 k2.2 k3.1 k3.2
                    simp only [List.nodup_cons, List.mem_singleton, List.not_mem_nil, not_false_eq_true, List.nodup_nil, and_true]
                    exact this
                  · intro n p hp
                    match n, hp with
                    | 0, hp => exact .inl ⟨c, by cases hp; rfl⟩
                    | 1, _ => exact .inr (.inr ⟨0, _, Nat.zero_lt_one, rfl, c, rfl⟩)
                  · obtain ⟨hs, es, ep, t, R, p1, p2⟩ := g.ex
                    obtain ⟨o, ho, hex, hd⟩ := R.ob
                    exact ⟨o, es, ep, t, ho, hex, hd, SetH.fits (s := { s with heap := h' }) R, by rw [← Array.length_toList, p2.length_eq]; rfl⟩
/-- len of it -/
theorem call_lenSN : CallR X (.builtin "len") (fun xs H Q => ∃ (a : Addr) (n : Nat), xs = [V.ref a] ∧ H a = some (SetN a n) ∧ n < 100000 ∧ Q (.int (n : Int)) H) := by
  intro pins s σ H xs us Q I r ⟨a, n, e, h, hn, q⟩
  subst e
  rw [Vals.ref1 r]
  obtain ⟨o, es, ep, t, ho, hex, hd, hf, hs⟩ := (I.hok a _ h).1
  exact call_len_set ho hex hd hf (by rw [hs]; omega) ⟨.int n, H, I.tok _, ⟨_, by rw [hs]⟩, q⟩
/-- len of a set of ints -/
theorem call_lenSO (hw : X.w = w) : CallR X (.builtin "len") (fun xs H Q => ∃ (a : Addr) (S : Int → Bool) (n : Nat), xs = [V.ref a] ∧ H a = some (SetO w a S n) ∧ n < 100000 ∧ Q (.int (n : Int)) H) := by
  subst hw
  intro pins s σ H xs us Q I r ⟨a, S, n, e, h, hn, q⟩
  subst e
  rw [Vals.ref1 r]
  obtain ⟨o, es, ep, t, ho, hex, hd, _, _, _, _, hf, hs, _⟩ := (I.hok a _ h).1
  exact call_len_set ho hex hd hf (by rw [hs]; omega) ⟨.int n, H, I.tok _, ⟨_, by rw [hs]⟩, q⟩
end
/-- len(set(ts)) -/
def setLen (ts : List Thing) : R Int := if okS ts = true then .ok (ts.length : Int) else .bad
theorem pb_setLen {δ : Type} {ts : List Thing} {f : Int → R δ} {P : δ → Prop} {E : Exn → Prop} (h : Post (setLen ts >>= f) P E) : okS ts = true ∧ Post (f (ts.length : Int)) P E := by
  unfold setLen at h
  exact pb_if h
theorem okS_len {ts : List Thing} (h : okS ts = true) : ts.length < 100000 := by
  unfold okS at h
  rw [Bool.and_eq_true, Bool.and_eq_true, decide_eq_true_eq, decide_eq_true_eq] at h
  omega
/-- len(set(xs)), ints -/
def setLenI (xs : List Int) : R Int := if xs.length < 4000 then .ok ((nub xs).length : Int) else .bad
theorem nub_leL (xs : List Int) : (nub xs).length ≤ xs.length := nodup_le (nub_nodup _) fun y hy => nub_mem.mp hy
theorem pb_setLenI {δ : Type} {xs : List Int} {f : Int → R δ} {P : δ → Prop} {E : Exn → Prop} (h : Post (setLenI xs >>= f) P E) : xs.length < 4000 ∧ (nub xs).length < 100000 ∧ Post (f ((nub xs).length : Int)) P E := by
  unfold setLenI at h
  obtain ⟨c, h⟩ := pb_if h
  have := nub_leL xs
  exact ⟨c, by omega, h⟩
end Z
/-! ZE: tuples item by item (Nt), objects of an own class (Oj), trees of tuples (Tr) -/
namespace Z
open PySem L2 PySem.Spec PyProof.Rows
open Rep (rep)
class RepL (α : Type) where
  repTs : Fg → Hp → List V → α → Prop
  mono : ∀ {K : Fg} {H H' : Hp} {vs : List V} {x : α}, Same H H' → repTs K H vs x → repTs K H' vs x
open RepL (repTs)
instance repLU : RepL Unit := ⟨fun _ _ vs _ => vs = [], fun _ h => h⟩
instance repLP {α β : Type} [Rep α] [RepL β] : RepL (α × β) := ⟨fun K H vs x => ∃ v us, vs = v :: us ∧ rep K H v x.1 ∧ repTs K H us x.2, fun s ⟨v, us, e, h1, h2⟩ => ⟨v, us, e, Rep.mono s h1, RepL.mono s h2⟩⟩
/-- a tuple, item by item -/
structure Nt (α : Type) where
  v : α
  deriving DecidableEq
instance decNtL {α : Type} [DecidableEq α] : DecidableEq (List (Nt α)) := inferInstance
instance repNt {α : Type} [RepL α] : Rep (Nt α) := ⟨fun K H v x => ∃ a vs, v = .ref a ∧ H a = some (.tup vs) ∧ repTs K H vs x.v, fun s ⟨a, vs, e, q, h⟩ => ⟨a, vs, e, s _ _ q, RepL.mono s h⟩⟩
/-! ### as data -/
class DatL (α : Type) extends RepL α where
  toDs : α → List PyData
  dmaxL : Nat
  dpL : ∀ {K : Fg} {H : Hp} {vs : List V} {x : α}, repTs K H vs x → DpAll K H vs (toDs x)
  layL : ∀ x : α, PyData.canLayAll0 (toDs x) = true
  depL : ∀ x : α, PyData.depthAll (toDs x) ≤ dmaxL
  eqvL : ∀ x y : α, PyData.eqvAll (toDs x) (toDs y) = true ↔ x = y
instance datLU : DatL Unit where
  toDs := fun _ => []
  dmaxL := 0
  dpL := fun h => by
    have h' : _ = [] := h
    subst h'
    exact .nil
  layL := fun _ => by simp only [PyData.canLayAll0]
  depL := fun _ => by simp only [PyData.depthAll, Nat.le_refl]
  eqvL := fun _ _ => by simp [PyData.eqvAll]
instance datLP {α β : Type} [Dat α] [DatL β] : DatL (α × β) where
  toDs := fun x => Dat.toD x.1 :: DatL.toDs x.2
  dmaxL := max (Dat.dmax α) (DatL.dmaxL β)
  dpL := fun {K H vs x} h => by
    obtain ⟨v, us, rfl, h1, h2⟩ := h
    exact .cons (Dat.dp h1) (DatL.dpL h2)
  layL := fun x => by simp only [PyData.canLayAll0, Dat.lay, DatL.layL, Bool.and_true]
  depL := fun x => by
    have h1 := Dat.dep x.1
    have h2 := DatL.depL x.2
    simp only [PyData.depthAll]
    omega
  eqvL := fun x y => by
    obtain ⟨x1, x2⟩ := x
    obtain ⟨y1, y2⟩ := y
    simp only [PyData.eqvAll, Bool.and_eq_true, Dat.eqv, DatL.eqvL, Prod.mk.injEq]
instance datNt {α : Type} [DatL α] : Dat (Nt α) where
  toD := fun x => .tuple (DatL.toDs x.v)
  dmax := DatL.dmaxL α + 1
  dp := fun {K H v x} h => by
    obtain ⟨a, vs, rfl, q, h⟩ := h
    exact .tup (SqT.of q) (DatL.dpL h)
  lay := fun x => by
    simp only [PyData.canLay0]
    exact DatL.layL x.v
  dep := fun x => by
    have h := DatL.depL x.v
    simp only [PyData.depth]
    omega
  eqv := fun x y => by
    obtain ⟨x⟩ := x
    obtain ⟨y⟩ := y
    simp only [PyData.eqv, Nt.mk.injEq]
    exact DatL.eqvL x y
/-! ### objects of an own class -/
def mkfs (fs : List Str) (us : List V) : List (Str × V) := (fs.zip us).foldl (fun l p => putF p.1 p.2 l) []
structure Oj (nm : Str) (fs : List Str) (α : Type) where
  v : α
instance repOj {nm : Str} {fs : List Str} {α : Type} [RepL α] : Rep (Oj nm fs α) := ⟨fun K H v x => ∃ a C dx us, v = .ref a ∧ Nm K nm C ∧ H a = some (.ins C dx (mkfs fs us)) ∧ repTs K H us x.v, fun s ⟨a, C, dx, us, e, n, q, h⟩ => ⟨a, C, dx, us, e, n, s _ _ q, RepL.mono s h⟩⟩
/-! ### trees: (a thing, a thing, a tuple of trees) -/
inductive Tr where
  | n (a b : Thing) (ts : List Tr)
def Tr.a : Tr → Thing
  | .n a _ _ => a
def Tr.b : Tr → Thing
  | .n _ b _ => b
def Tr.ts : Tr → List Tr
  | .n _ _ ts => ts
mutual
def trRep (K : Fg) (H : Hp) : Tr → V → Prop
  | .n a b ts, v => ∃ p u w q vs, v = .ref p ∧ H p = some (.tup [u, w, .ref q]) ∧ rep K H u a ∧ rep K H w b ∧ H q = some (.tup vs) ∧ trsRep K H ts vs
def trsRep (K : Fg) (H : Hp) : List Tr → List V → Prop
  | [], vs => vs = []
  | t :: ts, vs => ∃ v us, vs = v :: us ∧ trRep K H t v ∧ trsRep K H ts us
end
mutual
theorem trRep_mono {K : Fg} {H H' : Hp} (s : Same H H') : ∀ (t : Tr) (v : V), trRep K H t v → trRep K H' t v
  | .n a b ts, v, h => by
    rw [trRep] at h ⊢
    obtain ⟨p, u, w, q, vs, e, h1, h2, h3, h4, h5⟩ := h
    exact ⟨p, u, w, q, vs, e, s _ _ h1, Rep.mono s h2, Rep.mono s h3, s _ _ h4, trsRep_mono s ts vs h5⟩
theorem trsRep_mono {K : Fg} {H H' : Hp} (s : Same H H') : ∀ (ts : List Tr) (vs : List V), trsRep K H ts vs → trsRep K H' ts vs
  | [], vs, h => by
    rw [trsRep] at h ⊢
    exact h
  | t :: ts, vs, h => by
    rw [trsRep] at h ⊢
    obtain ⟨v, us, e, h1, h2⟩ := h
    exact ⟨v, us, e, trRep_mono s t v h1, trsRep_mono s ts us h2⟩
end
instance repTr : Rep Tr := ⟨fun K H v t => trRep K H t v, fun {_ _ _ v t} s h => trRep_mono s t v h⟩
abbrev TrN := Nt (Thing × Thing × Tup Tr × Unit)
def Tr.nt (t : Tr) : TrN := ⟨(t.a, t.b, ⟨t.ts⟩, ())⟩
def Tr.of (x : TrN) : Tr := .n x.v.1 x.v.2.1 x.v.2.2.1.l
/-! ### a tuple and the empty one -/
/-! ### great powers and products -/
/-! ### min, max of a tuple of two ints -/
/-! ### a list grows by a tuple's items -/
end Z
/-! YN: plans of asks: ("is", a thing), ("ask", a place, a tuple of pairs of an answer and a plan) -/
namespace Z
open PySem PySem.Spec PyProof.Rows L2
open Rep (rep)
inductive Pl where
  | is (x : Thing)
  | ask (p : Int) (l : List (Int × Pl))
def Pl.w : Pl → Str
  | .is _ => "is"
  | .ask _ _ => "ask"
def Pl.len : Pl → Int
  | .is _ => 2
  | .ask _ _ => 3
mutual
def plRep (K : Fg) (H : Hp) : Pl → V → Prop
  | .is x, v => ∃ p u, v = .ref p ∧ H p = some (.tup [.str ("is" : Str), u]) ∧ rep K H u x
  | .ask i l, v => ∃ p q vs, v = .ref p ∧ H p = some (.tup [.str ("ask" : Str), .int i, .ref q]) ∧ H q = some (.tup vs) ∧ plsRep K H l vs
def plsRep (K : Fg) (H : Hp) : List (Int × Pl) → List V → Prop
  | [], vs => vs = []
  | t :: ts, vs => ∃ v us, vs = v :: us ∧ plpRep K H t v ∧ plsRep K H ts us
def plpRep (K : Fg) (H : Hp) : Int × Pl → V → Prop
  | (j, t), v => ∃ a w, v = .ref a ∧ H a = some (.tup [.int j, w]) ∧ plRep K H t w
end
mutual
theorem plRep_mono {K : Fg} {H H' : Hp} (s : Same H H') : ∀ (t : Pl) (v : V), plRep K H t v → plRep K H' t v
  | .is x, v, h => by
    rw [plRep] at h ⊢
    obtain ⟨p, u, e, h1, h2⟩ := h
    exact ⟨p, u, e, s _ _ h1, Rep.mono s h2⟩
  | .ask i l, v, h => by
    rw [plRep] at h ⊢
    obtain ⟨p, q, vs, e, h1, h2, h3⟩ := h
    exact ⟨p, q, vs, e, s _ _ h1, s _ _ h2, plsRep_mono s l vs h3⟩
theorem plsRep_mono {K : Fg} {H H' : Hp} (s : Same H H') : ∀ (ts : List (Int × Pl)) (vs : List V), plsRep K H ts vs → plsRep K H' ts vs
  | [], vs, h => by
    rw [plsRep] at h ⊢
    exact h
  | t :: ts, vs, h => by
    rw [plsRep] at h ⊢
    obtain ⟨v, us, e, h1, h2⟩ := h
    exact ⟨v, us, e, plpRep_mono s t v h1, plsRep_mono s ts us h2⟩
theorem plpRep_mono {K : Fg} {H H' : Hp} (s : Same H H') : ∀ (t : Int × Pl) (v : V), plpRep K H t v → plpRep K H' t v
  | (j, t), v, h => by
    rw [plpRep] at h ⊢
    obtain ⟨a, w, e, h1, h2⟩ := h
    exact ⟨a, w, e, s _ _ h1, plRep_mono s t w h2⟩
end
instance repPl : Rep Pl := ⟨fun K H v t => plRep K H t v, fun {_ _ _ v t} s h => plRep_mono s t v h⟩
end Z
namespace Z
open PySem L2
end Z
namespace Z
open PySem PySem.Spec PyProof.Rows L2
open Rep (rep)
instance datOptThing : Dat (Option Thing) where
  toD := fun x => match x with
    | none => .none
    | some i => Dat.toD i
  dmax := 1
  dp := fun {K H v x} h => by
    cases x with
    | none =>
      have h' : v = V.non := h
      subst h'
      exact .non
    | some i => exact Dat.dp (show rep K H v i from h)
  lay := fun x => by
    cases x with
    | none => simp only [PyData.canLay0]
    | some i => exact Dat.lay i
  dep := fun x => by
    cases x with
    | none => simp only [PyData.depth]; omega
    | some i => exact Dat.dep i
  eqv := fun x y => by
    cases x with
    | none =>
      cases y with
      | none => simp [PyData.eqv]
      | some j => cases j <;> simp [PyData.eqv, Dat.toD]
    | some i =>
      cases y with
      | none => cases i <;> simp [PyData.eqv, Dat.toD]
      | some j =>
        have := Dat.eqv i j
        show PyData.eqv (Dat.toD i) (Dat.toD j) = true ↔ _
        rw [this, Option.some.injEq]
end Z
/-! ZM: lemmas about mirrors -/
namespace Z
open PySem L2
section
variable {α β γ : Type}
theorem mapR_ok {f : α → R β} {g : α → β} : ∀ {xs : List α}, (∀ x ∈ xs, f x = R.ok (g x)) → mapR f xs = R.ok (xs.map g)
  | [], _ => rfl
  | x :: xs, h => by
    show (f x >>= fun y => mapR f xs >>= fun ys => R.ok (y :: ys)) = _
    rw [h x List.mem_cons_self, mapR_ok fun y hy => h y (List.mem_cons_of_mem _ hy)]
    rfl
theorem mapG_ok {f : α → R β} {g : α → β} {xs : List α} (hl : xs.length < 100000) (h : ∀ x ∈ xs, f x = R.ok (g x)) : mapG f xs = R.ok (xs.map g) := by
  unfold mapG
  rw [grd_t (decide_eq_true hl)]
  exact mapR_ok h
theorem filR_ok {f : α → R (Option β)} {g : α → Option β} : ∀ {xs : List α}, (∀ x ∈ xs, f x = R.ok (g x)) → filR f xs = R.ok (xs.filterMap g)
  | [], _ => rfl
  | x :: xs, h => by
    show (f x >>= fun o => filR f xs >>= fun ys => match o with
      | some y => R.ok (y :: ys)
      | none => R.ok ys) = _
    rw [h x List.mem_cons_self, filR_ok fun y hy => h y (List.mem_cons_of_mem _ hy)]
    show (match g x with
      | some y => R.ok (y :: xs.filterMap g)
      | none => R.ok (xs.filterMap g)) = R.ok ((x :: xs).filterMap g)
    rw [List.filterMap_cons]
    cases g x <;> rfl
theorem filG_ok {f : α → R (Option β)} {g : α → Option β} {xs : List α} (hl : xs.length < 100000) (h : ∀ x ∈ xs, f x = R.ok (g x)) : filG f xs = R.ok (xs.filterMap g) := by
  unfold filG
  rw [grd_t (decide_eq_true hl)]
  exact filR_ok h
theorem getI_nat {xs : List α} {i : Int} (h0 : 0 ≤ i) (h1 : i < xs.length) : ∃ x, getI xs i = R.ok x ∧ x ∈ xs ∧ xs[i.toNat]? = some x := by
  have hj : i.toNat < xs.length := by omega
  refine ⟨xs[i.toNat], ?_, List.getElem_mem hj, List.getElem?_eq_getElem hj⟩
  unfold getI
  have e : atI xs i = some xs[i.toNat] := by
    have := atI_nat (xs := xs) (j := i.toNat) (v := xs[i.toNat]) (List.getElem?_eq_getElem hj)
    rw [Int.toNat_of_nonneg h0] at this
    exact this
  rw [e]
  rfl
theorem getI_eq {xs : List α} {i : Int} {x : α} (h0 : 0 ≤ i) (h : xs[i.toNat]? = some x) : getI xs i = R.ok x := by
  have h1 := (List.getElem?_eq_some_iff.mp h).1
  obtain ⟨y, e, _, e2⟩ := getI_nat (xs := xs) (i := i) h0 (by omega)
  rw [h] at e2
  cases e2
  exact e
theorem getI_last {xs : List α} (x : α) : getI (xs ++ [x]) (-1) = R.ok x := by
  unfold getI
  rw [atI_last]
  rfl
theorem setI_nat {xs : List α} {i : Int} {x : α} (h0 : 0 ≤ i) (h1 : i < xs.length) : setI xs i x = R.ok (xs.set i.toNat x) := by
  have e : ixN xs.length i = some i.toNat := by
    unfold ixN
    rw [if_pos h0, if_pos h1]
  unfold setI
  rw [e]
theorem app_ok {xs : List α} {x : α} (h : xs.length < 100000) : app xs x = R.ok (xs ++ [x]) := by
  unfold app
  rw [if_pos h]
theorem extend_ok {xs ys : List α} (h : xs.length + ys.length < 100000) : extend xs ys = R.ok (xs ++ ys) := by
  unfold extend
  rw [if_pos h]
theorem modI_ok {i j : Int} (h : 0 < j) : modI i j = R.ok (i % j) := by
  unfold modI
  rw [if_pos h]
theorem divI_okW {i j : Int} (h : 0 < j) (h2 : j.natAbs.log2 < 9000) : divI i j = R.ok (i / j) := by
  unfold divI
  rw [if_pos ⟨h, h2⟩]
theorem mulI_ok {i j : Int} (h : (-(2 ^ 64) < i ∧ i < 2 ^ 64) ∨ (-(2 ^ 64) < j ∧ j < 2 ^ 64)) : mulI i j = R.ok (i * j) := by
  unfold mulI
  rw [if_pos h]
theorem rngI_ok {i j : Int} (h1 : -(2 ^ 62) ≤ i) (h2 : i < 2 ^ 62) (h3 : -(2 ^ 62) ≤ j) (h4 : j < 2 ^ 62) : rngI i j = R.ok (rng i j) := by
  unfold rngI
  rw [if_pos ⟨h1, h2, h3, h4⟩]
theorem rng_mem {i j k : Int} : k ∈ rng i j ↔ i ≤ k ∧ k < j := by
  unfold rng
  rw [List.mem_map]
  constructor
  · rintro ⟨n, hn, rfl⟩
    have := List.mem_range.mp hn
    omega
  · intro h
    exact ⟨(k - i).toNat, List.mem_range.mpr (by omega), by omega⟩
/-! ### what holds of a result, step by step -/
section
variable {P Q : α → Prop} {S : β → Prop} {X : Exn → Prop}
theorem po_bind {m : R α} {k : α → R β} (h : Post m Q X) (hk : ∀ a, Q a → Post (k a) S X) : Post (m >>= k) S X := by
  cases m with
  | ok a => exact hk a h
  | exc e => exact h
  | bad => exact h
theorem po_eq {m : R α} {a : α} (h : m = R.ok a) (hp : P a) : Post m P X := by
  rw [h]
  exact hp
theorem po_if {c : Prop} [Decidable c] {m n : R α} (h1 : c → Post m P X) (h2 : ¬ c → Post n P X) : Post (if c then m else n) P X := by
  by_cases h : c
  · rw [if_pos h]
    exact h1 h
  · rw [if_neg h]
    exact h2 h
theorem po_ex {m : R α} (h : Post m P noX) : ∃ a, m = R.ok a ∧ P a := by
  cases m with
  | ok a => exact ⟨a, rfl, h⟩
  | exc e => exact (show False from h).elim
  | bad => exact (show False from h).elim
theorem po_iff {m : R α} {a : α} (h : Post m (· = a) noX) : m = R.ok a := by
  obtain ⟨b, e, rfl⟩ := po_ex h
  exact e
theorem po_get {xs : List α} {i : Int} {k : α → R β} (h0 : 0 ≤ i) (h1 : i < xs.length) (hk : ∀ x, x ∈ xs → xs[i.toNat]? = some x → Post (k x) S X) : Post (getI xs i >>= k) S X := by
  obtain ⟨x, e, h2, h3⟩ := getI_nat h0 h1
  rw [e]
  exact hk x h2 h3
theorem po_getE {xs : List α} {i : Int} {x : α} {k : α → R β} (h : getI xs i = R.ok x) (hk : Post (k x) S X) : Post (getI xs i >>= k) S X := by
  rw [h]
  exact hk
theorem po_set {xs : List α} {i : Int} {x : α} {k : List α → R β} (h0 : 0 ≤ i) (h1 : i < xs.length) (hk : Post (k (xs.set i.toNat x)) S X) : Post (setI xs i x >>= k) S X := by
  rw [setI_nat h0 h1]
  exact hk
theorem po_app {xs : List α} {x : α} {k : List α → R β} (h : xs.length < 100000) (hk : Post (k (xs ++ [x])) S X) : Post (app xs x >>= k) S X := by
  rw [app_ok h]
  exact hk
theorem po_extend {xs ys : List α} {k : List α → R β} (h : xs.length + ys.length < 100000) (hk : Post (k (xs ++ ys)) S X) : Post (extend xs ys >>= k) S X := by
  rw [extend_ok h]
  exact hk
theorem po_mod {i j : Int} {k : Int → R β} (h : 0 < j) (hk : 0 ≤ i % j → i % j < j → Post (k (i % j)) S X) : Post (modI i j >>= k) S X := by
  rw [modI_ok h]
  exact hk (Int.emod_nonneg _ (by omega)) (Int.emod_lt_of_pos _ h)
theorem po_divW {i j : Int} {k : Int → R β} (h : 0 < j) (h2 : j.natAbs.log2 < 9000) (hk : Post (k (i / j)) S X) : Post (divI i j >>= k) S X := by
  rw [divI_okW h h2]
  exact hk
theorem po_mul {i j : Int} {k : Int → R β} (h : (-(2 ^ 64) < i ∧ i < 2 ^ 64) ∨ (-(2 ^ 64) < j ∧ j < 2 ^ 64)) (hk : Post (k (i * j)) S X) : Post (mulI i j >>= k) S X := by
  rw [mulI_ok h]
  exact hk
theorem po_rng {i j : Int} {k : List Int → R β} (h1 : -(2 ^ 62) ≤ i) (h2 : i < 2 ^ 62) (h3 : -(2 ^ 62) ≤ j) (h4 : j < 2 ^ 62) (hk : Post (k (rng i j)) S X) : Post (rngI i j >>= k) S X := by
  rw [rngI_ok h1 h2 h3 h4]
  exact hk
theorem po_fold {f : β → α → R β} {s : β} {xs : List α} (I : β → Prop) (h0 : I s) (hf : ∀ s x, I s → x ∈ xs → Post (f s x) I X) : Post (foldR f s xs) I X := by
  induction xs generalizing s with
  | nil => exact h0
  | cons x xs ih =>
    show Post (f s x >>= fun s' => foldR f s' xs) I X
    exact po_bind (hf s x h0 List.mem_cons_self) fun s' h' => ih h' fun s y hs hy => hf s y hs (List.mem_cons_of_mem _ hy)
/-- .. with the number of turns gone -/
theorem po_foldN {f : β → α → R β} {s : β} {xs : List α} (I : Nat → β → Prop) (h0 : I 0 s) (hf : ∀ n s x, n < xs.length → I n s → xs[n]? = some x → Post (f s x) (I (n + 1)) X) : Post (foldR f s xs) (I xs.length) X := by
  have key : ∀ (l : List α) (n : Nat) (s : β), xs.drop n = l → n ≤ xs.length → I n s → Post (foldR f s l) (I xs.length) X := by
    intro l
    induction l with
    | nil =>
      intro n s e hn h
      have : xs.length ≤ n := by
        have := congrArg List.length e
        rw [List.length_drop, List.length_nil] at this
        omega
      rw [show xs.length = n by omega]
      exact h
    | cons x l ih =>
      intro n s e hn h
      have hlt : n < xs.length := by
        have := congrArg List.length e
        rw [List.length_drop, List.length_cons] at this
        omega
      have e1 : xs[n] :: xs.drop (n + 1) = x :: l := (List.drop_eq_getElem_cons hlt).symm.trans e
      injection e1 with e2 e3
      show Post (f s x >>= fun s' => foldR f s' l) _ X
      exact po_bind (hf n s x hlt h (by rw [List.getElem?_eq_getElem hlt, e2])) fun s' h' => ih (n + 1) s' e3 (by omega) h'
  exact key xs 0 s rfl (Nat.zero_le _) h0
theorem po_foldX {ρ : Type} {f : β → α → R (Sum ρ (Bool × β))} {s : β} {xs : List α} (I : β → Prop) (h0 : I s) (hf : ∀ s x, I s → x ∈ xs → Post (f s x) (fun r => ∃ s', r = .inr (true, s') ∧ I s') X) : Post (foldX f s xs) (fun r => ∃ s', r = .inr s' ∧ I s') X := by
  induction xs generalizing s with
  | nil => exact ⟨s, rfl, h0⟩
  | cons x xs ih =>
    refine po_bind (S := fun r => ∃ s', r = Sum.inr s' ∧ I s') (k := fun r => match r with
      | .inl z => (R.ok (.inl z) : R (Sum ρ β))
      | .inr (true, s') => foldX f s' xs
      | .inr (false, s') => R.ok (.inr s')) (hf s x h0 List.mem_cons_self) fun r hr => ?_
    obtain ⟨s', rfl, h'⟩ := hr
    exact ih h' fun s y hs hy => hf s y hs (List.mem_cons_of_mem _ hy)
end
end
section
variable {α β γ : Type} {X : Exn → Prop}
theorem po_mapStN {f : γ → α → R (β × γ)} {s : γ} {xs : List α} (I : Nat → γ → Prop) (p : β → Prop) (hl : xs.length < 100000) (h0 : I 0 s) (hf : ∀ n s x, n < xs.length → I n s → xs[n]? = some x → Post (f s x) (fun r => p r.1 ∧ I (n + 1) r.2) X) :
    Post (mapStG f s xs) (fun r => r.1.length = xs.length ∧ (∀ y ∈ r.1, p y) ∧ I xs.length r.2) X := by
  unfold mapStG
  rw [grd_t (decide_eq_true hl), ok_bind]
  clear hl
  have key : ∀ (l : List α) (n : Nat) (s : γ), xs.drop n = l → n ≤ xs.length → I n s → Post (mapSt f s l) (fun r => r.1.length = l.length ∧ (∀ y ∈ r.1, p y) ∧ I xs.length r.2) X := by
    intro l
    induction l with
    | nil =>
      intro n s e hn h
      have : xs.length ≤ n := by
        have := congrArg List.length e
        rw [List.length_drop, List.length_nil] at this
        omega
      rw [show n = xs.length by omega] at h
      exact ⟨rfl, by intro y hy; exact absurd hy List.not_mem_nil, h⟩
    | cons x l ih =>
      intro n s e hn h
      have hlt : n < xs.length := by
        have := congrArg List.length e
        rw [List.length_drop, List.length_cons] at this
        omega
      have e1 : xs[n] :: xs.drop (n + 1) = x :: l := (List.drop_eq_getElem_cons hlt).symm.trans e
      injection e1 with e2 e3
      refine po_bind (hf n s x hlt h (by rw [List.getElem?_eq_getElem hlt, e2])) fun r ⟨h1, h2⟩ => po_bind (ih (n + 1) r.2 e3 (by omega) h2) fun q ⟨h3, h4, h5⟩ => ?_
      refine ⟨by rw [List.length_cons, List.length_cons, h3], fun y hy => ?_, h5⟩
      rcases List.mem_cons.mp hy with rfl | hy
      · exact h1
      · exact h4 y hy
  exact key xs 0 s rfl (Nat.zero_le _) h0
end
/-! ### dicts -/
section
variable {κ β : Type} [DecidableEq κ]
theorem mhas_iff {m : List (κ × β)} {k : κ} : mhas m k = true ↔ ∃ p ∈ m, p.1 = k := by
  unfold mhas
  rw [List.any_eq_true]
  constructor
  · rintro ⟨p, h, e⟩
    exact ⟨p, h, of_decide_eq_true e⟩
  · rintro ⟨p, h, e⟩
    exact ⟨p, h, decide_eq_true e⟩
theorem mput_new {m : List (κ × β)} {k : κ} {v : β} (h : mhas m k = false) : mput m k v = m ++ [(k, v)] := by
  unfold mput
  have h' : (m.any fun p => decide (p.1 = k)) = false := h
  rw [h', if_neg (by decide)]
theorem mput_old {m : List (κ × β)} {k : κ} {v : β} (h : mhas m k = true) : mput m k v = m.map (fun p => if p.1 = k then (p.1, v) else p) := by
  unfold mput
  have h' : (m.any fun p => decide (p.1 = k)) = true := h
  rw [h', if_pos rfl]
theorem mput_keys {m : List (κ × β)} {k j : κ} {v : β} : (∃ p ∈ mput m k v, p.1 = j) ↔ (j = k ∨ ∃ p ∈ m, p.1 = j) := by
  cases h : mhas m k with
  | false =>
    rw [mput_new h]
    constructor
    · rintro ⟨p, hp, rfl⟩
      rcases List.mem_append.mp hp with hp | hp
      · exact .inr ⟨p, hp, rfl⟩
      · rw [List.mem_singleton] at hp
        exact .inl (by rw [hp])
    · rintro (rfl | ⟨p, hp, rfl⟩)
      · exact ⟨(j, v), List.mem_append_right _ List.mem_cons_self, rfl⟩
      · exact ⟨p, List.mem_append_left _ hp, rfl⟩
  | true =>
    rw [mput_old h]
    have fst : ∀ p : κ × β, (if p.1 = k then (p.1, v) else p).1 = p.1 := fun p => by split <;> rfl
    constructor
    · rintro ⟨p, hp, rfl⟩
      obtain ⟨q, hq, rfl⟩ := List.mem_map.mp hp
      rw [fst]
      exact .inr ⟨q, hq, rfl⟩
    · rintro (rfl | ⟨p, hp, rfl⟩)
      · obtain ⟨p, hp, e⟩ := mhas_iff.mp h
        exact ⟨_, List.mem_map.mpr ⟨p, hp, rfl⟩, by rw [fst]; exact e⟩
      · exact ⟨_, List.mem_map.mpr ⟨p, hp, rfl⟩, fst p⟩
theorem mput_length {m : List (κ × β)} {k : κ} {v : β} : (mput m k v).length = m.length + if mhas m k = true then 0 else 1 := by
  cases h : mhas m k with
  | false =>
    rw [mput_new h, List.length_append]
    rfl
  | true =>
    rw [mput_old h, List.length_map]
    rfl
theorem po_mput {δ : Type} {m : List (κ × β)} {k : κ} {v : β} {f : List (κ × β) → R δ} {S : δ → Prop} {X : Exn → Prop} (h : m.length < 100000) (hk : Post (f (mput m k v)) S X) : Post (mputR m k v >>= f) S X := by
  unfold mputR
  rw [if_pos h]
  exact hk
end
end Z
/-! ZG: webs: joined, how far; no program in sight -/
namespace Z
open PySem L2
/-! ### more steps -/
section
variable {α β γ δ : Type} {P Q : α → Prop} {S : β → Prop} {X : Exn → Prop}
/-- a fold, by what is gone through -/
theorem po_foldP {f : β → α → R β} {s : β} {xs : List α} (I : List α → β → Prop) (h0 : I [] s) (hf : ∀ pre s x post, xs = pre ++ x :: post → I pre s → Post (f s x) (I (pre ++ [x])) X) : Post (foldR f s xs) (I xs) X := by
  have key : ∀ (l pre : List α) (s : β), xs = pre ++ l → I pre s → Post (foldR f s l) (I xs) X := by
    intro l
    induction l with
    | nil =>
      intro pre s e h
      rw [List.append_nil] at e
      rw [e]
      exact h
    | cons x l ih =>
      intro pre s e h
      show Post (f s x >>= fun s' => foldR f s' l) _ X
      exact po_bind (hf pre s x l e h) fun s' h' => ih (pre ++ [x]) s' (by rw [e, List.append_assoc]; rfl) h'
  exact key xs [] s rfl h0
/-- items for items with a state, by what is made -/
theorem po_mapStA {f : γ → α → R (β × γ)} {s : γ} {xs : List α} (I : List α → List β → γ → Prop) (hl : xs.length < 100000) (h0 : I [] [] s)
    (hf : ∀ pre acc s x post, xs = pre ++ x :: post → I pre acc s → Post (f s x) (fun r => I (pre ++ [x]) (acc ++ [r.1]) r.2) X) : Post (mapStG f s xs) (fun r => I xs r.1 r.2) X := by
  unfold mapStG
  rw [grd_t (decide_eq_true hl), ok_bind]
  have key : ∀ (l pre : List α) (acc : List β) (s : γ), xs = pre ++ l → I pre acc s → Post (mapSt f s l) (fun r => I xs (acc ++ r.1) r.2) X := by
    intro l
    induction l with
    | nil =>
      intro pre acc s e h
      rw [List.append_nil] at e
      show I xs (acc ++ []) s
      rw [List.append_nil, e]
      exact h
    | cons x l ih =>
      intro pre acc s e h
      refine po_bind (hf pre acc s x l e h) fun r hr => po_bind (ih (pre ++ [x]) (acc ++ [r.1]) r.2 (by rw [e, List.append_assoc]; rfl) hr) fun q hq => ?_
      show I xs (acc ++ (r.1 :: q.1)) q.2
      rw [List.append_assoc] at hq
      exact hq
  exact key xs [] [] s rfl h0
theorem po_mapGE {f : α → R β} {g : α → β} {xs : List α} {k : List β → R γ} {T : γ → Prop} (hl : xs.length < 100000) (h : ∀ x ∈ xs, f x = R.ok (g x)) (hk : Post (k (xs.map g)) T X) : Post (mapG f xs >>= k) T X := by
  rw [mapG_ok hl h]
  exact hk
theorem po_filGE {f : α → R (Option β)} {g : α → Option β} {xs : List α} {k : List β → R γ} {T : γ → Prop} (hl : xs.length < 100000) (h : ∀ x ∈ xs, f x = R.ok (g x)) (hk : Post (k (xs.filterMap g)) T X) : Post (filG f xs >>= k) T X := by
  rw [filG_ok hl h]
  exact hk
/-- a while: an invariant, a measure -/
theorem po_while {c : γ → R Bool} {b : γ → R γ} {T : γ → Prop} (I : γ → Prop) (μ : γ → Nat)
    (hs : ∀ s, I s → Post (c s) (fun t => (t = true → Post (b s) (fun s' => I s' ∧ μ s' < μ s) X) ∧ (t = false → T s)) X) : ∀ {n : Nat} {s : γ}, I s → μ s < n → Post (whileR c b n s) T X
  | 0, s, _, h => absurd h (Nat.not_lt_zero _)
  | n + 1, s, hi, h => by
    refine po_bind (hs s hi) fun t ⟨h1, h2⟩ => ?_
    cases t with
    | false => exact h2 rfl
    | true => exact po_bind (h1 rfl) fun s' ⟨a, d⟩ => po_while I μ hs a (by omega)
theorem po_getS {st : List (List α)} {j : Nat} {xs : List α} {k : List α → R γ} {T : γ → Prop} (h : st[j]? = some xs) (hk : Post (k xs) T X) : Post (getS st j >>= k) T X := by
  unfold getS
  rw [h]
  exact hk
theorem po_setS {st : List (List α)} {j : Nat} {xs : List α} {k : List (List α) → R γ} {T : γ → Prop} (hk : Post (k (st.set j xs)) T X) : Post (setS st j xs >>= k) T X := hk
theorem po_newS {st : List (List α)} {xs : List α} {k : Nat × List (List α) → R γ} {T : γ → Prop} (hk : Post (k (st.length, st ++ [xs])) T X) : Post (newS st xs >>= k) T X := hk
theorem po_listRng {i j : Int} {k : List Int → R γ} {T : γ → Prop} (h1 : -(2 ^ 62) ≤ i) (h2 : i < 2 ^ 62) (h3 : -(2 ^ 62) ≤ j) (h4 : j < 2 ^ 62) (h5 : (j - i).toNat ≤ 100000) (hk : Post (k (rng i j)) T X) : Post (listRng i j >>= k) T X := by
  unfold listRng
  rw [if_pos ⟨h1, h2, h3, h4, h5⟩]
  exact hk
theorem po_rep {xs : List α} {i : Int} {k : List α → R γ} {T : γ → Prop} (h1 : 0 ≤ i) (h2 : i < 1000) (h3 : xs.length < 100) (hk : Post (k (repL xs i)) T X) : Post (repR xs i >>= k) T X := by
  unfold repR
  have h4 : xs.length * i.toNat ≤ 100 * 1000 := Nat.mul_le_mul (by omega) (by omega)
  have h5 : xs.length * i.toNat < 100000 := by
    have h6 : xs.length * i.toNat ≤ 99 * 999 := Nat.mul_le_mul (by omega) (by omega)
    omega
  rw [if_pos ⟨by omega, by omega, h5⟩]
  exact hk
theorem po_ofO {o : Option α} {x : α} {k : α → R γ} {T : γ → Prop} (h : o = some x) (hk : Post (k x) T X) : Post (ofO o >>= k) T X := by
  rw [h]
  exact hk
theorem po_mgetE {κ : Type} [DecidableEq κ] {m : List (κ × α)} {j : κ} {x : α} {k : α → R γ} {T : γ → Prop} (h : mget m j = some x) (hk : Post (k x) T X) : Post (mgetR m j >>= k) T X := po_ofO h hk
theorem po_popB {xs : List α} {i : Int} {k : α × List α → R γ} {T : γ → Prop} (h0 : 0 ≤ i) (h1 : i < xs.length) (h2 : i < 2 ^ 62) (hk : ∀ x, xs[i.toNat]? = some x → Post (k (x, xs.eraseIdx i.toNat)) T X) : Post (popB xs i >>= k) T X := by
  have hj : i.toNat < xs.length := by omega
  have e : popB xs i = R.ok (xs[i.toNat], xs.eraseIdx i.toNat) := by
    unfold popB popAt
    rw [if_pos (by omega)]
    have ei : ixN xs.length i = some i.toNat := by
      unfold ixN
      rw [if_pos h0, if_pos h1]
    rw [ei]
    dsimp only
    rw [List.getElem?_eq_getElem hj]
  rw [e]
  exact hk _ (List.getElem?_eq_getElem hj)
end
theorem rng_len {n : Int} (h : 0 ≤ n) : ((rng 0 n).length : Int) = n := by
  rw [rng_length]
  omega
theorem rng_atE {i j : Int} {k : Nat} (h : k < (j - i).toNat) : (rng i j)[k]? = some (i + k) := rng_get h
theorem rng_nodup (i j : Int) : (rng i j).Nodup := by
  unfold rng
  refine List.Pairwise.map _ (fun a b h => ?_) List.nodup_range
  intro e
  exact h (by omega)
theorem rng_pre {i j x : Int} {pre post : List Int} (h : rng i j = pre ++ x :: post) : x = i + pre.length := by
  have h1 : (rng i j)[pre.length]? = some x := by rw [h]; simp
  have hl : pre.length < (rng i j).length := by rw [h]; simp
  rw [rng_length] at hl
  rw [rng_atE hl] at h1
  cases h1
  rfl
theorem rng_split {i j x : Int} {pre post : List Int} (h : rng i j = pre ++ x :: post) : pre = rng i x ∧ i ≤ x ∧ x < j := by
  have e := rng_pre h
  have hl : (rng i j).length = pre.length + (post.length + 1) := by rw [h]; simp
  rw [rng_length] at hl
  refine ⟨?_, by omega, by omega⟩
  apply List.ext_getElem?
  intro k
  by_cases hk : k < pre.length
  · have h1 : (rng i j)[k]? = pre[k]? := by rw [h, List.getElem?_append_left hk]
    rw [← h1, rng_atE (by omega), rng_atE (by omega)]
  · rw [List.getElem?_eq_none (by omega), List.getElem?_eq_none (by rw [rng_length]; omega)]
/-! ### joined -/
def Adj (ts : List (Int × Int)) (a b : Int) : Prop := (a, b) ∈ ts ∨ (b, a) ∈ ts
theorem Adj.symm {ts : List (Int × Int)} {a b : Int} (h : Adj ts a b) : Adj ts b a := h.elim .inr .inl
/-- what holds of a place and goes along all ties holds of all places -/
def Conn (n : Int) (ts : List (Int × Int)) : Prop := ∀ S : Int → Prop, S 0 → (∀ p ∈ ts, S p.1 ↔ S p.2) → ∀ k, 0 ≤ k → k < n → S k
theorem Conn.any {n : Int} {ts : List (Int × Int)} (h : Conn n ts) {S : Int → Prop} {r : Int} (r0 : 0 ≤ r) (r1 : r < n) (hr : S r) (hc : ∀ p ∈ ts, S p.1 ↔ S p.2) : ∀ k, 0 ≤ k → k < n → S k := by
  by_cases h0 : S 0
  · exact h S h0 hc
  · exact absurd hr (h (fun k => ¬ S k) h0 (fun p hp => not_congr (hc p hp)) r r0 r1)
theorem Conn.mono {n : Int} {ts us : List (Int × Int)} (h : Conn n ts) (hs : ∀ p ∈ ts, p ∈ us) : Conn n us := fun S h0 hc => h S h0 fun p hp => hc p (hs p hp)
theorem conn_tree {n : Int} {ts : List (Int × Int)} (h : ∀ k, 1 ≤ k → k < n → ∃ j, 0 ≤ j ∧ j < k ∧ Adj ts j k) : Conn n ts := by
  intro S h0 hc
  have key : ∀ (m : Nat) (k : Int), k.toNat ≤ m → 0 ≤ k → k < n → S k := by
    intro m
    induction m with
    | zero =>
      intro k hk k0 _
      rw [show k = 0 by omega]
      exact h0
    | succ m ih =>
      intro k hk k0 k1
      by_cases hz : k = 0
      · rw [hz]; exact h0
      · obtain ⟨j, j0, jk, hj⟩ := h k (by omega) k1
        have hj' := ih j (by omega) j0 (by omega)
        rcases hj with hj | hj
        · exact (hc _ hj).mp hj'
        · exact (hc _ hj).mpr hj'
  exact fun k k0 k1 => key k.toNat k (Nat.le_refl _) k0 k1
/-! ### how far -/
structure IsDist (n : Int) (ts : List (Int × Int)) (p : Int) (f : Int → Int) : Prop where
  zero : f p = 0
  nn : ∀ v, 0 ≤ v → v < n → 0 ≤ f v
  lip : ∀ a b, Adj ts a b → f b ≤ f a + 1
  desc : ∀ v, 0 ≤ v → v < n → v ≠ p → ∃ w, 0 ≤ w ∧ w < n ∧ Adj ts w v ∧ f w + 1 = f v
theorem IsDist.le {n : Int} {ts : List (Int × Int)} {p : Int} {f g : Int → Int} (hf : IsDist n ts p f) (hg : IsDist n ts p g) : ∀ v, 0 ≤ v → v < n → f v ≤ g v := by
  have key : ∀ (m : Nat) (v : Int), (g v).toNat ≤ m → 0 ≤ v → v < n → f v ≤ g v := by
    intro m
    induction m with
    | zero =>
      intro v hm v0 v1
      by_cases hv : v = p
      · rw [hv, hf.zero, hg.zero]; exact Int.le_refl _
      · obtain ⟨w, w0, w1, _, e⟩ := hg.desc v v0 v1 hv
        have := hg.nn w w0 w1
        omega
    | succ m ih =>
      intro v hm v0 v1
      by_cases hv : v = p
      · rw [hv, hf.zero, hg.zero]; exact Int.le_refl _
      · obtain ⟨w, w0, w1, ha, e⟩ := hg.desc v v0 v1 hv
        have h1 := hg.nn w w0 w1
        have h2 := ih w (by omega) w0 w1
        have h3 := hf.lip w v ha
        omega
  exact fun v v0 v1 => key _ v (Nat.le_refl _) v0 v1
theorem IsDist.uniq {n : Int} {ts : List (Int × Int)} {p : Int} {f g : Int → Int} (hf : IsDist n ts p f) (hg : IsDist n ts p g) (v : Int) (v0 : 0 ≤ v) (v1 : v < n) : f v = g v :=
  Int.le_antisymm (hf.le hg v v0 v1) (hg.le hf v v0 v1)
/-- how far places are from one, in a web that hangs together -/
noncomputable def dst (n : Int) (ts : List (Int × Int)) (p : Int) : Int → Int := by
  classical
  exact if h : ∃ f, IsDist n ts p f then Classical.choose h else fun _ => 0
theorem dst_is {n : Int} {ts : List (Int × Int)} {p : Int} {f : Int → Int} (h : IsDist n ts p f) : IsDist n ts p (dst n ts p) := by
  have e : ∃ f, IsDist n ts p f := ⟨f, h⟩
  unfold dst
  rw [dif_pos e]
  exact Classical.choose_spec e
theorem dst_eq {n : Int} {ts : List (Int × Int)} {p : Int} {f : Int → Int} (h : IsDist n ts p f) (v : Int) (v0 : 0 ≤ v) (v1 : v < n) : f v = dst n ts p v := h.uniq (dst_is h) v v0 v1
/-! ### there is a distance -/
inductive Rch (ts : List (Int × Int)) (p : Int) : Nat → Int → Prop
  | here : Rch ts p 0 p
  | step {k : Nat} {a b : Int} : Rch ts p k a → Adj ts a b → Rch ts p (k + 1) b
theorem least {P : Nat → Prop} (h : ∃ k, P k) : ∃ k, P k ∧ ∀ j, j < k → ¬ P j := by
  obtain ⟨k, hk⟩ := h
  induction k using Nat.strongRecOn with
  | _ k ih =>
    by_cases q : ∃ j, j < k ∧ P j
    · obtain ⟨j, h1, h2⟩ := q
      exact ih j h1 h2
    · exact ⟨k, hk, fun j hj hp => q ⟨j, hj, hp⟩⟩
theorem conn_ex {n : Int} {ts : List (Int × Int)} {p : Int} (hr : ∀ q ∈ ts, 0 ≤ q.1 ∧ q.1 < n ∧ 0 ≤ q.2 ∧ q.2 < n) (hc : Conn n ts) (p0 : 0 ≤ p) (p1 : p < n) : IsDist n ts p (dst n ts p) := by
  classical
  have all : ∀ v, 0 ≤ v → v < n → ∃ k, Rch ts p k v := hc.any (S := fun v => ∃ k, Rch ts p k v) p0 p1 ⟨0, .here⟩ fun q hq => ⟨fun ⟨k, h⟩ => ⟨k + 1, h.step (.inl hq)⟩, fun ⟨k, h⟩ => ⟨k + 1, h.step (.inr hq)⟩⟩
  have adj : ∀ a b, Adj ts a b → (0 ≤ a ∧ a < n) ∧ (0 ≤ b ∧ b < n) := fun a b h => by
    rcases h with h | h
    · have := hr _ h
      exact ⟨⟨this.1, this.2.1⟩, ⟨this.2.2.1, this.2.2.2⟩⟩
    · have := hr _ h
      exact ⟨⟨this.2.2.1, this.2.2.2⟩, ⟨this.1, this.2.1⟩⟩
  have key : ∀ v, ∃ d : Int, 0 ≤ d ∧ (0 ≤ v → v < n → ∃ k : Nat, d = k ∧ Rch ts p k v ∧ ∀ j, j < k → ¬ Rch ts p j v) := fun v => by
    by_cases hv : 0 ≤ v ∧ v < n
    · obtain ⟨k, h1, h2⟩ := least (all v hv.1 hv.2)
      exact ⟨k, by omega, fun _ _ => ⟨k, rfl, h1, h2⟩⟩
    · exact ⟨0, Int.le_refl 0, fun a b => absurd ⟨a, b⟩ hv⟩
  have hf : ∃ f : Int → Int, ∀ v, 0 ≤ f v ∧ (0 ≤ v → v < n → ∃ k : Nat, f v = k ∧ Rch ts p k v ∧ ∀ j, j < k → ¬ Rch ts p j v) := ⟨fun v => Classical.choose (key v), fun v => Classical.choose_spec (key v)⟩
  obtain ⟨f, hf⟩ := hf
  have lip : ∀ a b, Adj ts a b → f b ≤ f a + 1 := fun a b h => by
    obtain ⟨⟨a0, a1⟩, ⟨b0, b1⟩⟩ := adj a b h
    obtain ⟨k, e1, h1, _⟩ := (hf a).2 a0 a1
    obtain ⟨j, e2, _, h2⟩ := (hf b).2 b0 b1
    have : ¬ k + 1 < j := fun q => h2 (k + 1) q (h1.step h)
    omega
  refine dst_is (f := f) ⟨?_, fun v _ _ => (hf v).1, lip, fun v v0 v1 hne => ?_⟩
  · obtain ⟨k, e, _, h2⟩ := (hf p).2 p0 p1
    have : ¬ 0 < k := fun q => h2 0 q .here
    omega
  · obtain ⟨k, e, h1, h2⟩ := (hf v).2 v0 v1
    cases h1 with
    | here => exact absurd rfl hne
    | step h3 h4 =>
      rename_i j w
      obtain ⟨⟨w0, w1⟩, _⟩ := adj _ _ h4
      refine ⟨w, w0, w1, h4, ?_⟩
      obtain ⟨i, e2, _, h5⟩ := (hf w).2 w0 w1
      have h6 : ¬ j < i := fun q => h5 j q h3
      have := lip w v h4
      omega
end Z
/-! ZN: dicts as lists of pairs -/
namespace Z
open PySem L2
section
variable {κ β γ : Type} [DecidableEq κ]
theorem mget_cons (p : κ × β) (m : List (κ × β)) (j : κ) : mget (p :: m) j = if p.1 = j then some p.2 else mget m j := by
  unfold mget
  by_cases h : p.1 = j
  · rw [List.find?_cons_of_pos (by simpa using h), if_pos h]
    rfl
  · rw [List.find?_cons_of_neg (by simpa using h), if_neg h]
end
end Z
namespace G
open PySem L2 Z
open Rep (rep)
open RepL (repTs)
def top (i : Nat) : Stmt := PySem.Challenge.pw_farhail_k17_whole_webs_numbered_otherwis.main.body.getD i (.Pass ⟨0, 0, 0, 0⟩)
abbrev s_near_lists : Stmt := top 9
abbrev s_fars_by : Stmt := top 11
abbrev s_sorted_ties : Stmt := top 12
abbrev s_made_web : Stmt := top 13
abbrev s_place_asked : Stmt := top 14
abbrev s_neighbours_of : Stmt := top 15
abbrev s_fars_from : Stmt := top 16
abbrev s_table_of : Stmt := top 18
abbrev s_things_of : Stmt := top 19
abbrev s_looks_asked : Stmt := top 20
abbrev s_thing_asked : Stmt := top 21
abbrev s_far_by : Stmt := top 22
abbrev s_parters_by : Stmt := top 24
abbrev s_code_of : Stmt := top 25
abbrev s_parters_of : Stmt := top 26
abbrev s_by_code : Stmt := top 27
abbrev s_likes_by : Stmt := top 28
abbrev s_near_lists_floors : Stmt := top 30
abbrev s_far_by_floors : Stmt := top 32
abbrev s_are_twins : Stmt := top 34
abbrev s_twins_of : Stmt := top 35
abbrev s_is_lot : Stmt := top 36
abbrev s_lot_parters : Stmt := top 37
abbrev s_floor_height : Stmt := top 38
abbrev s_law_pot : Stmt := top 40
abbrev s_law_take : Stmt := top 41
abbrev s_law_folded : Stmt := top 42
abbrev s_law_cells : Stmt := top 43
abbrev s_law_ties : Stmt := top 44
abbrev s_law_bunches : Stmt := top 45
abbrev s_law_order : Stmt := top 46
abbrev s_law_web : Stmt := top 47
abbrev s_law_some : Stmt := top 48
abbrev s_law_kind : Stmt := top 49
abbrev s_law_moved : Stmt := top 50
abbrev s_law_gathered : Stmt := top 51
abbrev s_law_rows_moved : Stmt := top 52
abbrev s_law_same_places : Stmt := top 53
abbrev s_law_same_things : Stmt := top 54
abbrev s_law : Stmt := top 55
/-! ### the mirrors -/
/-! near_lists_webs -/
def near_lists (x_web : (Int × (Tup (Int × Int)))) : R (List (List Int)) := do
  let l4 ← rngI 0 x_web.1
  let l5 ← mapStG (fun (g5 : (List (List Int))) (b5 : Int) => do
      let r9 ← newS g5 ([] : (List Int))
      R.ok (r9.1, r9.2)) ([] : List (List Int)) l4
  let g11 ← foldR (fun (g11 : (List (List Int))) (b11 : (Int × Int)) => do
      let t14 ← getI l5.1 b11.1
      let x16 ← getS g11 t14
      let l17 ← app x16 b11.2
      let r17 ← setS g11 t14 l17
      let t18 ← getI l5.1 b11.2
      let x20 ← getS r17 t18
      let l21 ← app x20 b11.1
      let r21 ← setS r17 t18 l21
      R.ok r21) l5.2 x_web.2.l
  let l22 ← mapG (fun (b22 : Ix) => do
      let x26 ← getS g11 b22
      R.ok (sortI x26)) l5.1
  R.ok l22
/-! fars_by -/
def fars_by (x_near : (List (List Int))) (x_place : Int) : R (List (Option Int)) := do
  let l4 ← repR ([none] : (List (Option Int))) (x_near.length : Int)
  let l7 ← setI l4 x_place (some (0 : Int))
  let g11 ← whileR (fun (g11 : Int × (List Int) × (List (Option Int))) => do
      R.ok (decide (g11.1 < (g11.2.1.length : Int)))) (fun (g11 : Int × (List Int) × (List (Option Int))) => do
      let t13 ← getI g11.2.1 g11.1
      let t14 ← getI x_near t13
      let g12 ← foldR (fun (g12 : (List Int) × (List (Option Int))) (b12 : Int) => do
          let t17 ← getI g12.2 b12
          if t17.isNone = true then do
            let t20 ← getI g12.1 g11.1
            let t21 ← getI g12.2 t20
            let t23 ← ofO t21
            let l24 ← setI g12.2 b12 (some (t23 + (1 : Int)))
            let l26 ← app g12.1 b12
            R.ok (l26, l24)
          else do
            R.ok (g12.1, g12.2)) (g11.2.1, g11.2.2) t14
      R.ok ((g11.1 + (1 : Int)), g12.1, g12.2)) (fu 1000) ((0 : Int), ([x_place] : (List Int)), l7)
  R.ok g11.2.2
/-! sorted_ties -/
def sorted_ties (x_many : Int) (x_ties : (List (Int × Int))) : R (Tup (Int × Int)) := do
  let g4 ← foldR (fun (g4 : (List (Int × Int))) (b4 : (Int × Int)) => do
      if ((decide ((min2 b4.1 b4.2) < (0 : Int))) || ((decide (x_many ≤ (max2 b4.1 b4.2))) || ((decide (b4.1 = b4.2)) || (inB ((min2 b4.1 b4.2), (max2 b4.1 b4.2)) g4)))) = true then do
        R.bad
      else do
        let l17 ← app g4 ((min2 b4.1 b4.2), (max2 b4.1 b4.2))
        R.ok l17) ([] : (List (Int × Int))) x_ties
  R.ok (Tup.mk (sortP g4))
/-! made_web -/
def made_web (x_many : Int) (x_ties : (List (Int × Int))) : R (Int × (Tup (Int × Int))) := do
  if (!((decide ((1 : Int) ≤ x_many)) && (decide (x_many ≤ (60 : Int))))) = true then do
    R.bad
  else do
    let y7 ← sorted_ties x_many x_ties
    let y10 ← near_lists (x_many, y7)
    let y12 ← fars_by y10 (0 : Int)
    let l16 ← rngI 0 x_many
    let g15 ← foldR (fun (g15 : Unit) (b15 : Int) => do
        let t17 ← getI y12 b15
        if t17.isNone = true then do
          R.bad
        else do
          R.ok ()) () l16
    R.ok (x_many, y7)
/-! place_asked -/
def place_asked (x_web : (Int × (Tup (Int × Int)))) (x_place : Int) : R Unit := do
  if (!((decide ((0 : Int) ≤ x_place)) && (decide (x_place < x_web.1)))) = true then do
    R.bad
  else do
    R.ok ()
/-! neighbours_of -/
def neighbours_of (x_web : (Int × (Tup (Int × Int)))) (x_place : Int) : R (List Int) := do
  let y3 ← place_asked x_web x_place
  let y4 ← near_lists x_web
  let t6 ← getI y4 x_place
  R.ok t6
/-! fars_from -/
def fars_from (x_web : (Int × (Tup (Int × Int)))) (x_place : Int) : R (List Int) := do
  let y3 ← place_asked x_web x_place
  let y4 ← near_lists x_web
  let y6 ← fars_by y4 x_place
  let l8 ← allS y6
  R.ok l8
/-! table_of -/
def table_of (x_web : (Int × (Tup (Int × Int)))) : R (List (List Int)) := do
  let l3 ← rngI 0 x_web.1
  let l4 ← mapG (fun (b4 : Int) => do
      let y6 ← fars_from x_web b4
      R.ok y6) l3
  R.ok l4
/-! things_of -/
def things_of (x_web : (Int × (Tup (Int × Int)))) (x_kind : Str) : R (List Thing) := do
  let l3 ← listRng 0 x_web.1
  if (decide (x_kind = ("places" : Str))) = true then do
    R.ok (mkpl l3)
  else do
    if (decide (x_kind = ("ties" : Str))) = true then do
      R.ok (mkti x_web.2.l)
    else do
      let l16 ← extend (mkpl l3) (mkti x_web.2.l)
      R.ok l16
/-! looks_asked -/
def looks_asked (x_web : (Int × (Tup (Int × Int)))) (x_looks : (List Int)) : R Unit := do
  let g4 ← foldR (fun (g4 : Unit) (b4 : (Int × Int)) => do
      let j6 ← (do
        if (!((decide ((0 : Int) ≤ b4.2)) && (decide (b4.2 < x_web.1)))) = true then do
          R.ok true
        else do
          let j13 ← (do
            if (decide ((0 : Int) < b4.1)) = true then do
              let t15 ← getI x_looks (b4.1 - (1 : Int))
              R.ok (decide (b4.2 ≤ t15))
            else do
              R.ok false : R (Bool))
          R.ok j13 : R (Bool))
      if j6 = true then do
        R.bad
      else do
        R.ok ()) () (enum x_looks)
  R.ok ()
/-! thing_asked -/
def thing_asked (x_web : (Int × (Tup (Int × Int)))) (x_thing : Thing) : R Unit := do
  if x_thing.isPl = true then do
    let t6 ← asPl x_thing
    if (!((decide ((0 : Int) ≤ t6)) && (decide (t6 < x_web.1)))) = true then do
      R.bad
    else do
      R.ok ()
  else do
    let t12 ← asTi x_thing
    if (!inB t12 x_web.2.l) = true then do
      R.bad
    else do
      R.ok ()
/-! far_by_codes -/
def far_by (x_table : (List (List Int))) (x_look : Int) (x_thing : Thing) : R Int := do
  if x_thing.isPl = true then do
    let t5 ← asPl x_thing
    let t6 ← getI x_table x_look
    let t8 ← getI t6 t5
    R.ok t8
  else do
    let t9 ← asTi x_thing
    let t11 ← getI x_table x_look
    let t13 ← getI t11 t9.1
    let t14 ← getI x_table x_look
    let t16 ← getI t14 t9.2
    R.ok (min2 t13 t16)
/-! parters_by -/
def parters_by (x_table : (List (List Int))) (x_one : Thing) (x_other : Thing) : R (List Int) := do
  let l4 ← rngI 0 (x_table.length : Int)
  let l5 ← filG (fun (b5 : Int) => do
      let y7 ← far_by x_table b5 x_one
      let y8 ← far_by x_table b5 x_other
      if (!decide (y7 = y8)) = true then do
        R.ok (some b5)
      else
        R.ok none) l4
  R.ok l5
/-! code_of -/
def code_of (x_web : (Int × (Tup (Int × Int)))) (x_looks : (List Int)) (x_thing : Thing) : R (List Int) := do
  let y5 ← looks_asked x_web x_looks
  let y6 ← thing_asked x_web x_thing
  let y7 ← table_of x_web
  let l9 ← mapG (fun (b9 : Int) => do
      let y12 ← far_by y7 b9 x_thing
      R.ok y12) x_looks
  R.ok l9
/-! parters_of -/
def parters_of (x_web : (Int × (Tup (Int × Int)))) (x_one : Thing) (x_other : Thing) : R (List Int) := do
  let y5 ← thing_asked x_web x_one
  let y6 ← thing_asked x_web x_other
  let y7 ← table_of x_web
  let y9 ← parters_by y7 x_one x_other
  R.ok y9
/-! by_code -/
def by_code (x_web : (Int × (Tup (Int × Int)))) (x_looks : (List Int)) (x_kind : Str) : R ((List ((Tup Int) × Ix)) × (List (List Thing))) := do
  let y5 ← table_of x_web
  let y9 ← things_of x_web x_kind
  let g8 ← foldR (fun (g8 : (List ((Tup Int) × Ix)) × (List (List Thing))) (b8 : Thing) => do
      let l14 ← mapG (fun (b14 : Int) => do
          let y17 ← far_by y5 b14 b8
          R.ok y17) x_looks
      let g22 ← (do
        if (!mhas g8.1 (Tup.mk l14)) = true then do
          let r26 ← newS g8.2 ([] : (List Thing))
          let l27 ← mputR g8.1 (Tup.mk l14) r26.1
          R.ok (l27, r26.2)
        else do
          R.ok (g8.1, g8.2) : R ((List ((Tup Int) × Ix)) × (List (List Thing))))
      let t29 ← mgetR g22.1 (Tup.mk l14)
      let x31 ← getS g22.2 t29
      let l32 ← app x31 b8
      let r32 ← setS g22.2 t29 l32
      R.ok (g22.1, r32)) (([] : (List ((Tup Int) × Ix))), ([] : List (List Thing))) y9
  R.ok (g8.1, g8.2)
/-! likes_by -/
def likes_by (x_web : (Int × (Tup (Int × Int)))) (x_looks : (List Int)) (x_kind : Str) : R (List (List Thing)) := do
  let y4 ← looks_asked x_web x_looks
  let y5 ← by_code x_web x_looks x_kind
  let l10 ← filStG (fun (g10 : (List (List Thing))) (b10 : Ix) => do
      let x14 ← getS g10 b10
      if (decide ((1 : Int) < (x14.length : Int))) = true then do
        R.ok ((some b10), g10)
      else
        R.ok (none, g10)) y5.2 (y5.1.map (·.2))
  let l17 ← deref l10.2 l10.1
  R.ok l17
/-! near_lists_floors -/
def near_lists_floors (x_web : (Int × (Tup (Int × Int)))) : R (List (List Int)) := do
  let l3 ← rngI 0 x_web.1
  let l4 ← mapG (fun (b4 : Int) => do
      let y6 ← neighbours_of x_web b4
      R.ok y6) l3
  R.ok l4
/-! far_by_floors -/
def far_by_floors (x_fars : (List Int)) (x_thing : Thing) : R Int := do
  if x_thing.isPl = true then do
    let t5 ← asPl x_thing
    let t6 ← getI x_fars t5
    R.ok t6
  else do
    let t7 ← asTi x_thing
    let t9 ← getI x_fars t7.1
    let t10 ← getI x_fars t7.2
    R.ok (min2 t9 t10)
/-! are_twins -/
def are_twins (x_near : (List (List Int))) (x_one : Int) (x_other : Int) : R Bool := do
  let t2 ← getI x_near x_one
  let l4 ← filG (fun (b4 : Int) => do
      if (!decide (b4 = x_other)) = true then do
        R.ok (some b4)
      else
        R.ok none) t2
  let t9 ← getI x_near x_other
  let l11 ← filG (fun (b11 : Int) => do
      if (!decide (b11 = x_one)) = true then do
        R.ok (some b11)
      else
        R.ok none) t9
  R.ok (decide (l4 = l11))
/-! twins_of -/
def twins_of (x_web : (Int × (Tup (Int × Int)))) : R (List (List Thing)) := do
  let y3 ← near_lists_floors x_web
  let l10 ← rngI 0 x_web.1
  let g9 ← foldR (fun (g9 : (List (List Thing)) × (List Int)) (b9 : Int) => do
      if (!inB b9 g9.2) = true then do
        let l14 ← rngI (b9 + (1 : Int)) x_web.1
        let l15 ← filG (fun (b15 : Int) => do
            let y17 ← are_twins y3 b9 b15
            if y17 = true then do
              R.ok (some b15)
            else
              R.ok none) l14
        let l20 ← extend ([b9] : (List Int)) l15
        let l25 ← extend g9.2 l20
        if (decide ((1 : Int) < (l20.length : Int))) = true then do
          let l29 ← app g9.1 (mkpl l20)
          R.ok (l29, l25)
        else do
          R.ok (g9.1, l25)
      else do
        R.ok (g9.1, g9.2)) (([] : (List (List Thing))), ([] : (List Int))) l10
  R.ok g9.1
/-! is_lot -/
def is_lot (x_web : (Int × (Tup (Int × Int)))) (x_kind : Str) (x_lot : (List Thing)) : R Bool := do
  let y4 ← things_of x_web x_kind
  let j7 ← (do
    if (decide ((x_lot.length : Int) < (2 : Int))) = true then do
      R.ok true
    else do
      let t10 ← setLen x_lot
      if (decide (t10 < (x_lot.length : Int))) = true then do
        R.ok true
      else do
        let l13 ← mapG (fun (b13 : Thing) => do
            R.ok (inB b13 y4)) x_lot
        R.ok (!(l13.all id)) : R (Bool))
  if j7 = true then do
    R.ok false
  else do
    if (decide ((x_lot.length : Int) = (2 : Int))) = true then do
      R.ok true
    else do
      let l22 ← mapG (fun (b22 : Thing) => do
          R.ok b22.isPl) x_lot
      if (!(l22.all id)) = true then do
        R.ok false
      else do
        let y30 ← near_lists_floors x_web
        let l35 ← mapG (fun (b35 : Thing) => do
            let t39 ← getI x_lot (0 : Int)
            let t41 ← asPl t39
            let t42 ← asPl b35
            let y43 ← are_twins y30 t41 t42
            R.ok y43) (cutL x_lot (some (1 : Int)) none)
        R.ok (l35.all id)
/-! lot_parters -/
def lot_parters (x_table : (List (List Int))) (x_lot : (List Thing)) : R (List Int) := do
  let l3 ← filG (fun (b3 : (Int × (List Int))) => do
      let l7 ← mapG (fun (b7 : Thing) => do
          let y11 ← far_by_floors b3.2 b7
          R.ok y11) x_lot
      let t13 ← setLenI l7
      if (decide ((1 : Int) < t13)) = true then do
        R.ok (some b3.1)
      else
        R.ok none) (enum x_table)
  R.ok l3
/-! floor_height -/
def floor_height (x_web : (Int × (Tup (Int × Int)))) (x_kind : Str) (x_lots : (List (List Thing))) : R (Option Int) := do
  let l4 ← rngI 0 x_web.1
  let l5 ← mapG (fun (b5 : Int) => do
      let y7 ← fars_from x_web b5
      R.ok y7) l4
  let r14 ← foldX (fun (g14 : Int × (List Int)) (b14 : (List Thing)) => do
      let y17 ← is_lot x_web x_kind b14
      if (!y17) = true then do
        R.ok (.inl none)
      else do
        let y21 ← lot_parters l5 b14
        let r20 ← foldX (fun (g20 : (List Int)) (b20 : Int) => do
            if (inB b20 g20) = true then do
              R.ok (.inl none)
            else do
              let l26 ← app g20 b20
              R.ok (.inr (true, l26))) g14.2 y21
        match r20 with
        | .inl z => R.ok (.inl z)
        | .inr g20 => do
          R.ok (.inr (true, (((g14.1 + (b14.length : Int)) - (1 : Int)), g20)))) ((0 : Int), ([] : (List Int))) x_lots
  match r14 with
  | .inl z => R.ok z
  | .inr g14 => do
    R.ok (some g14.1)
/-! _law_pot -/
def law_pot (x_cell : Int) (x_k : Int) : R (List Int) := do
  let g5 ← foldR (fun (g5 : Int × (List Int)) (b5 : Int) => do
      let t6 ← mulI g5.1 g5.1
      let t10 ← getI g5.2 (0 : Int)
      let l12 ← setI g5.2 (0 : Int) ((t10 * (2147483629 : Int)) + ((((t6 + ((48271 : Int) * g5.1)) + ((3 : Int) * b5)) + x_k) % (2147483629 : Int)))
      R.ok (((((t6 + ((48271 : Int) * g5.1)) + ((3 : Int) * b5)) + x_k) % (2147483629 : Int)), l12)) (((x_cell + ((7919 : Int) * (x_k + (1 : Int)))) % (2147483647 : Int)), ([(0 : Int)] : (List Int))) (rng 0 (24 : Int))
  let g14 ← (do
    if (decide (((10 : Int) ^ ((18 : Int) : Int).toNat) ≤ x_cell)) = true then do
      let l17 ← app g5.2 x_cell
      R.ok l17
    else do
      R.ok g5.2 : R ((List Int)))
  R.ok g14
/-! _law_take -/
def law_take (x_pot : (List Int)) (x_many : Int) : R (Int × (List Int)) := do
  let t2 ← getI x_pot (-(1 : Int))
  let t3 ← modI t2 x_many
  let t4 ← getI x_pot (-(1 : Int))
  let t5 ← divI t4 x_many
  let l6 ← setI x_pot (-(1 : Int)) t5
  let g8 ← (do
    let j9 ← (do
      let t10 ← getI l6 (-(1 : Int))
      if (decide (t10 = (0 : Int))) = true then do
        R.ok (decide ((1 : Int) < (l6.length : Int)))
      else do
        R.ok false : R (Bool))
    if j9 = true then do
      let l15 ← popI l6
      R.ok l15.2
    else do
      R.ok l6 : R ((List Int)))
  R.ok (t3, g8)
/-! _law_folded -/
def law_folded (x_script : Scr) (x_many : Int) : R (List Int) := do
  let l4 ← repR ([(0 : Int)] : (List Int)) x_many
  let g7 ← foldR (fun (g7 : (List Int)) (b7 : (Int × Int)) => do
      let t12 ← modI b7.1 x_many
      let t13 ← getI g7 t12
      let t15 ← modI b7.1 x_many
      let l16 ← setI g7 t15 ((t13 * (31 : Int)) + b7.2)
      R.ok l16) l4 (enum (cutL x_script.l none (some (63 : Int))))
  R.ok g7
/-! _law_cells -/
def law_cells (x_script : Scr) (x_most : Int) : R (List Int) := do
  if (decide (x_script = (⟨([] : (List Int))⟩ : Scr))) = true then do
    R.ok ([(0 : Int)] : (List Int))
  else do
    let y8 ← law_folded x_script (min2 x_most (x_script.l.length : Int))
    R.ok y8
/-! _law_bunches -/
def law_bunches (x_pot : (List Int)) (x_many : Int) : R ((List (Int × Int)) × (List Int)) := do
  let y2 ← law_take x_pot (3 : Int)
  let l3 ← rngI 0 ((2 : Int) + y2.1)
  let l4 ← mapStG (fun (g4 : (List Int)) (b4 : Int) => do
      let y7 ← law_take g4 (2 : Int)
      R.ok (y7.1, y7.2)) y2.2 l3
  let l11 ← rngI 0 x_many
  let l12 ← mapStG (fun (g12 : (List Int)) (b12 : Int) => do
      let y15 ← law_take g12 ((2 : Int) + y2.1)
      R.ok (y15.1, y15.2)) l4.2 l11
  let l22 ← rngI 0 x_many
  let g21 ← foldR (fun (g21 : (List (Int × Int))) (b21 : Int) => do
      let l24 ← rngI 0 b21
      let g23 ← foldR (fun (g23 : (List (Int × Int))) (b23 : Int) => do
          let t25 ← getI l12.1 b23
          let t26 ← getI l12.1 b21
          let j27 ← (do
            if (decide ((absI (t25 - t26)) = (1 : Int))) = true then do
              R.ok true
            else do
              let j30 ← (do
                if (decide ((absI (t25 - t26)) = (0 : Int))) = true then do
                  let t32 ← getI l12.1 b21
                  let t33 ← getI l4.1 t32
                  R.ok (decide (t33 = (1 : Int)))
                else do
                  R.ok false : R (Bool))
              R.ok j30 : R (Bool))
          if j27 = true then do
            let l39 ← app g23 (b23, b21)
            R.ok l39
          else do
            R.ok g23) g21 l24
      R.ok g23) ([] : (List (Int × Int))) l22
  let l44 ← rngI 0 x_many
  let g43 ← foldR (fun (g43 : (List (Int × Bool))) (b43 : Int) => do
      let g45 ← foldR (fun (g45 : (List (Int × Bool))) (b45 : (Int × Int)) => do
          if ((mhas g45 b45.1) || (mhas g45 b45.2)) = true then do
            let l53 ← mputR g45 b45.1 true
            let l55 ← mputR l53 b45.2 true
            R.ok l55
          else do
            R.ok g45) g43 g21
      R.ok g45) (mmk ([((0 : Int), true)] : List (Int × Bool))) l44
  let l57 ← rngI (1 : Int) x_many
  let l58 ← filG (fun (b58 : Int) => do
      if (!mhas g43 b58) = true then do
        R.ok (some ((0 : Int), b58))
      else
        R.ok none) l57
  let l63 ← extend g21 l58
  R.ok (l63, l12.2)
/-! _law_ties -/
def law_ties (x_pot : (List Int)) (x_many : Int) : R ((List (Int × Int)) × (List Int)) := do
  let y2 ← law_take x_pot (8 : Int)
  let l3 ← rngI (1 : Int) x_many
  let l4 ← mapG (fun (b4 : Int) => do
      R.ok ((b4 - (1 : Int)), b4)) l3
  let g8 ← (do
    if ((decide (y2.1 = (1 : Int))) && (decide ((2 : Int) < x_many))) = true then do
      let l15 ← app l4 ((0 : Int), (x_many - (1 : Int)))
      R.ok l15
    else do
      R.ok l4 : R ((List (Int × Int))))
  let g17 ← (do
    if (decide (y2.1 = (2 : Int))) = true then do
      let l19 ← rngI (1 : Int) x_many
      let l20 ← mapG (fun (b20 : Int) => do
          R.ok ((0 : Int), b20)) l19
      R.ok l20
    else do
      R.ok g8 : R ((List (Int × Int))))
  let g26 ← (do
    if ((decide (y2.1 = (3 : Int))) && (decide (x_many < (21 : Int)))) = true then do
      let l36 ← rngI 0 x_many
      let g35 ← foldR (fun (g35 : (List (Int × Int))) (b35 : Int) => do
          let l37 ← rngI 0 b35
          let l38 ← mapG (fun (b38 : Int) => do
              R.ok (b38, b35)) l37
          let l42 ← extend g35 l38
          R.ok l42) ([] : (List (Int × Int))) l36
      R.ok g35
    else do
      R.ok g17 : R ((List (Int × Int))))
  let g46 ← (do
    if ((decide (y2.1 = (4 : Int))) && (decide (x_many < (13 : Int)))) = true then do
      let y53 ← law_bunches y2.2 x_many
      R.ok (y53.1, y53.2)
    else do
      R.ok (g26, y2.2) : R ((List (Int × Int)) × (List Int)))
  let g57 ← (do
    if (decide ((4 : Int) < y2.1)) = true then do
      let l63 ← rngI (1 : Int) x_many
      let g62 ← foldR (fun (g62 : (List (Int × Int)) × (List Int)) (b62 : Int) => do
          let y65 ← law_take g62.2 b62
          let y69 ← law_take y65.2 (3 : Int)
          let t70 ← getI ([y65.1, (b62 - (1 : Int)), (max2 (0 : Int) (b62 - (2 : Int)))] : (List Int)) y69.1
          let l72 ← app g62.1 (t70, b62)
          R.ok (l72, y69.2)) (([] : (List (Int × Int))), g46.2) l63
      R.ok (g62.1, g62.2)
    else do
      R.ok (g46.1, g46.2) : R ((List (Int × Int)) × (List Int)))
  let g77 ← (do
    if (decide ((5 : Int) < y2.1)) = true then do
      let y82 ← law_take g57.2 (4 : Int)
      let t83 ← getI ([(7 : Int), (7 : Int), (7 : Int), (142 : Int)] : (List Int)) y82.1
      let y86 ← law_take y82.2 t83
      let l87 ← rngI 0 y86.1
      let g85 ← foldR (fun (g85 : (List Int) × (List (Int × Int))) (b85 : Int) => do
          let y88 ← law_take g85.1 x_many
          let y89 ← law_take y88.2 x_many
          if ((decide (y88.1 < y89.1)) && (!inB (y88.1, y89.1) g85.2)) = true then do
            let l97 ← app g85.2 (y88.1, y89.1)
            R.ok (y89.2, l97)
          else do
            R.ok (y89.2, g85.2)) (y86.2, g57.1) l87
      R.ok (g85.2, g85.1)
    else do
      R.ok (g57.1, g57.2) : R ((List (Int × Int)) × (List Int)))
  R.ok (g77.1, g77.2)
/-! _law_order -/
def law_order (x_pot : (List Int)) (x_many : Int) : R ((List Int) × (List Int)) := do
  let l2 ← listRng 0 x_many
  let l4 ← rngI 0 x_many
  let l5 ← mapStG (fun (g5 : (List Int) × (List Int)) (b5 : Int) => do
      let y9 ← law_take g5.2 (g5.1.length : Int)
      let l7 ← popB g5.1 y9.1
      R.ok (l7.1, (l7.2, y9.2))) (l2, x_pot) l4
  R.ok (l5.1, l5.2.2)
/-! _law_web -/
def law_web (x_pot : (List Int)) (x_most : Int) : R ((Int × (Tup (Int × Int))) × (List Int)) := do
  let y2 ← law_take x_pot x_most
  let g3 ← (do
    let y4 ← law_take y2.2 (8 : Int)
    if (decide (y4.1 = (0 : Int))) = true then do
      let y6 ← law_take y4.2 (60 : Int)
      R.ok (((1 : Int) + y6.1), y6.2)
    else do
      R.ok (((1 : Int) + y2.1), y4.2) : R (Int × (List Int)))
  let y7 ← law_order g3.2 g3.1
  let y14 ← law_ties y7.2 g3.1
  let g12 ← foldR (fun (g12 : (List (Int × Int))) (b12 : (Int × Int)) => do
      let t19 ← getI y7.1 b12.1
      let t20 ← getI y7.1 b12.2
      let t21 ← getI y7.1 b12.1
      let t22 ← getI y7.1 b12.2
      let l24 ← app g12 ((min2 t19 t20), (max2 t21 t22))
      R.ok l24) ([] : (List (Int × Int))) y14.1
  R.ok ((g3.1, (Tup.mk (sortP g12))), y14.2)
/-! _law_some -/
def law_some (x_pot : (List Int)) (x_many : Int) : R ((List Int) × (List Int)) := do
  let y2 ← law_take x_pot (4 : Int)
  let l3 ← rngI 0 x_many
  let l4 ← filStG (fun (g4 : (List Int)) (b4 : Int) => do
      let y7 ← law_take g4 (5 : Int)
      if (decide (y7.1 < ((1 : Int) + y2.1))) = true then do
        R.ok ((some b4), y7.2)
      else
        R.ok (none, y7.2)) y2.2 l3
  R.ok (l4.1, l4.2)
/-! _law_kind -/
def law_kind (x_pot : (List Int)) : R (Str × (List Int)) := do
  let y5 ← law_take x_pot (3 : Int)
  let t6 ← getI ([("places" : Str), ("ties" : Str), ("all" : Str)] : (List Str)) y5.1
  R.ok (t6, y5.2)
/-! _law_moved -/
def law_moved (x_order : (List Int)) (x_thing : Thing) : R Thing := do
  if (!x_thing.isPl) = true then do
    let t5 ← asTi x_thing
    let t7 ← getI x_order t5.1
    let t8 ← getI x_order t5.2
    let t15 ← getI (sortI ([t7, t8] : (List Int))) (0 : Int)
    let t16 ← getI (sortI ([t7, t8] : (List Int))) (1 : Int)
    R.ok (Thing.ti t15 t16)
  else do
    let t18 ← asPl x_thing
    let t19 ← getI x_order t18
    R.ok (Thing.pl t19)
/-! _law_gathered -/
noncomputable def law_gathered (x_rows : (List (List Thing))) : R (List (List TxT)) := do
  let l2 ← mapG (fun (b2 : (List Thing)) => do
      let l6 ← mapG (fun (b6 : Thing) => do
          let t10 ← strR b6
          R.ok t10) b2
      R.ok (sortSt l6)) x_rows
  R.ok (sortRs l2)
/-! _law_rows_moved -/
noncomputable def law_rows_moved (x_order : (List Int)) (x_rows : (List (List Thing))) : R (List (List TxT)) := do
  let l3 ← mapG (fun (b3 : (List Thing)) => do
      let l7 ← mapG (fun (b7 : Thing) => do
          let y11 ← law_moved x_order b7
          R.ok y11) b3
      R.ok l7) x_rows
  let y17 ← law_gathered l3
  R.ok y17
/-! _law_same_places -/
noncomputable def law_same_places (x_web : (Int × (Tup (Int × Int)))) (x_other : (Int × (Tup (Int × Int)))) (x_order : (List Int)) : R Bool := do
  let l8 ← rngCR (0 : Int) x_web.1 ((1 : Int) + (x_web.1 / (9 : Int)))
  let r6 ← foldX (fun (g6 : Unit) (b6 : Int) => do
      let t9 ← getI x_order b6
      let y10 ← fars_from x_other t9
      let l13 ← rngI 0 x_web.1
      let l14 ← mapG (fun (b14 : Int) => do
          let t16 ← getI x_order b14
          let t17 ← getI y10 t16
          R.ok t17) l13
      let y19 ← fars_from x_web b6
      if (!decide (l14 = y19)) = true then do
        R.ok (.inl false)
      else do
        let t24 ← getI x_order b6
        let y25 ← neighbours_of x_other t24
        let y27 ← neighbours_of x_web b6
        let l29 ← mapG (fun (b29 : Int) => do
            let t32 ← getI x_order b29
            R.ok t32) y27
        if (!decide (y25 = (sortI l29))) = true then do
          R.ok (.inl false)
        else do
          R.ok (.inr (true, ()))) () l8
  match r6 with
  | .inl z => R.ok z
  | .inr g6 => do
    let y39 ← twins_of x_other
    let y41 ← law_gathered y39
    let y43 ← twins_of x_web
    let y45 ← law_rows_moved x_order y43
    R.ok (decide (y41 = y45))
/-! _law_same_things -/
noncomputable def law_same_things (x_pot : (List Int)) (x_web : (Int × (Tup (Int × Int)))) (x_other : (Int × (Tup (Int × Int)))) (x_order : (List Int)) (x_kind : Str) : R (Bool × (List Int)) := do
  let y7 ← things_of x_web x_kind
  let y10 ← law_some x_pot x_web.1
  let l13 ← mapG (fun (b13 : Int) => do
      let t16 ← getI x_order b13
      R.ok t16) y10.1
  let y22 ← likes_by x_other (sortI l13) x_kind
  let y24 ← law_gathered y22
  let y26 ← likes_by x_web y10.1 x_kind
  let y28 ← law_rows_moved x_order y26
  if (!decide (y24 = y28)) = true then do
    R.ok (false, y10.2)
  else do
    let t34 ← getI ([(5 : Int), (3 : Int)] : (List Int)) (b2i (decide ((20 : Int) < x_web.1)))
    let l35 ← rngI 0 t34
    let r31 ← foldX (fun (g31 : (List Int)) (b31 : Int) => do
        let y37 ← law_take g31 (y7.length : Int)
        let t38 ← getI y7 y37.1
        let y40 ← law_take y37.2 (y7.length : Int)
        let t41 ← getI y7 y40.1
        let y43 ← law_moved x_order t38
        let y45 ← code_of x_other (sortI l13) y43
        let y49 ← code_of x_web y10.1 t38
        if (!decide ((sortI y45) = (sortI y49))) = true then do
          R.ok (.inl (false, y40.2))
        else do
          if (!decide (t38 = t41)) = true then do
            let y59 ← law_moved x_order t38
            let y61 ← law_moved x_order t41
            let y63 ← parters_of x_other y59 y61
            let y66 ← parters_of x_web t38 t41
            let l69 ← mapG (fun (b69 : Int) => do
                let t72 ← getI x_order b69
                R.ok t72) y66
            if (!decide (y63 = (sortI l69))) = true then do
              R.ok (.inl (false, y40.2))
            else do
              let y79 ← law_moved x_order t38
              let y81 ← law_moved x_order t41
              let t85 ← getI x_order (0 : Int)
              let t86 ← getI x_order (x_web.1 - (1 : Int))
              let y94 ← floor_height x_other x_kind ([([y79, y81] : (List Thing)), ([(Thing.pl t85), (Thing.pl t86)] : (List Thing))] : (List (List Thing)))
              let y105 ← floor_height x_web x_kind ([([t38, t41] : (List Thing)), ([(Thing.pl (0 : Int)), (Thing.pl (x_web.1 - (1 : Int)))] : (List Thing))] : (List (List Thing)))
              if (!decide (y94 = y105)) = true then do
                R.ok (.inl (false, y40.2))
              else do
                R.ok (.inr (true, y40.2))
          else do
            R.ok (.inr (true, y40.2))) y10.2 l35
    match r31 with
    | .inl z => R.ok z
    | .inr g31 => do
      R.ok (true, g31)
/-! law -/
noncomputable def law (x_script : Scr) : R Bool := do
  let y3 ← law_cells x_script (3 : Int)
  let r2 ← foldX (fun (g2 : Unit) (b2 : (Int × Int)) => do
      let y7 ← law_pot b2.2 b2.1
      let y9 ← law_web y7 (12 : Int)
      let y12 ← law_order y9.2 y9.1.1
      let g17 ← foldR (fun (g17 : (List (Int × Int))) (b17 : (Int × Int)) => do
          let t20 ← getI y12.1 b17.1
          let t21 ← getI y12.1 b17.2
          let l23 ← app g17 (t20, t21)
          R.ok l23) ([] : (List (Int × Int))) y9.1.2.l
      let y25 ← made_web y9.1.1 g17
      let y29 ← law_kind y12.2
      let y30 ← law_same_places y9.1 y25 y12.1
      if (!y30) = true then do
        R.ok (.inl false)
      else do
        let j34 ← (do
          let y35 ← things_of y9.1 y29.1
          if (!decide (y35 = ([] : (List Thing)))) = true then do
            let y41 ← law_same_things y29.2 y9.1 y25 y12.1 y29.1
            R.ok ((!y41.1), y41.2)
          else do
            R.ok (false, y29.2) : R (Bool × (List Int)))
        if j34.1 = true then do
          R.ok (.inl false)
        else do
          R.ok (.inr (true, ()))) () (enum y3)
  match r2 with
  | .inl z => R.ok z
  | .inr g2 => do
    R.ok true
/-! ### what the top has written -/
structure Dn (K : Fg) (mg : Str → Option Value) (x y : Str) (st : Stmt) (ps : List Str) (f : Addr) (fd : FuncData) : Prop where
  fn : Fun K y y st f fd
  mg : mg x = some (.ref f)
  b : Binds K fd ps []
structure Tx (K : Fg) (mg : Str → Option Value) (A : Nat → Addr) (FD : Nat → FuncData) : Prop where
  d9 : Dn K mg "near_lists_webs" "near_lists" s_near_lists ["web"] (A 9) (FD 9)
  d11 : Dn K mg "fars_by" "fars_by" s_fars_by ["near", "place"] (A 11) (FD 11)
  d12 : Dn K mg "sorted_ties" "sorted_ties" s_sorted_ties ["many", "ties"] (A 12) (FD 12)
  d13 : Dn K mg "made_web" "made_web" s_made_web ["many", "ties"] (A 13) (FD 13)
  d14 : Dn K mg "place_asked" "place_asked" s_place_asked ["web", "place"] (A 14) (FD 14)
  d15 : Dn K mg "neighbours_of" "neighbours_of" s_neighbours_of ["web", "place"] (A 15) (FD 15)
  d16 : Dn K mg "fars_from" "fars_from" s_fars_from ["web", "place"] (A 16) (FD 16)
  d18 : Dn K mg "table_of" "table_of" s_table_of ["web"] (A 18) (FD 18)
  d19 : Dn K mg "things_of" "things_of" s_things_of ["web", "kind"] (A 19) (FD 19)
  d20 : Dn K mg "looks_asked" "looks_asked" s_looks_asked ["web", "looks"] (A 20) (FD 20)
  d21 : Dn K mg "thing_asked" "thing_asked" s_thing_asked ["web", "thing"] (A 21) (FD 21)
  d22 : Dn K mg "far_by_codes" "far_by" s_far_by ["table", "look", "thing"] (A 22) (FD 22)
  d24 : Dn K mg "parters_by" "parters_by" s_parters_by ["table", "one", "other"] (A 24) (FD 24)
  d25 : Dn K mg "code_of" "code_of" s_code_of ["web", "looks", "thing"] (A 25) (FD 25)
  d26 : Dn K mg "parters_of" "parters_of" s_parters_of ["web", "one", "other"] (A 26) (FD 26)
  d27 : Dn K mg "by_code" "by_code" s_by_code ["web", "looks", "kind"] (A 27) (FD 27)
  d28 : Dn K mg "likes_by" "likes_by" s_likes_by ["web", "looks", "kind"] (A 28) (FD 28)
  d30 : Dn K mg "near_lists_floors" "near_lists" s_near_lists_floors ["web"] (A 30) (FD 30)
  d32 : Dn K mg "far_by_floors" "far_by" s_far_by_floors ["fars", "thing"] (A 32) (FD 32)
  d34 : Dn K mg "are_twins" "are_twins" s_are_twins ["near", "one", "other"] (A 34) (FD 34)
  d35 : Dn K mg "twins_of" "twins_of" s_twins_of ["web"] (A 35) (FD 35)
  d36 : Dn K mg "is_lot" "is_lot" s_is_lot ["web", "kind", "lot"] (A 36) (FD 36)
  d37 : Dn K mg "lot_parters" "lot_parters" s_lot_parters ["table", "lot"] (A 37) (FD 37)
  d38 : Dn K mg "floor_height" "floor_height" s_floor_height ["web", "kind", "lots"] (A 38) (FD 38)
  d40 : Dn K mg "_law_pot" "_law_pot" s_law_pot ["cell", "k"] (A 40) (FD 40)
  d41 : Dn K mg "_law_take" "_law_take" s_law_take ["pot", "many"] (A 41) (FD 41)
  d42 : Dn K mg "_law_folded" "_law_folded" s_law_folded ["script", "many"] (A 42) (FD 42)
  d43 : Dn K mg "_law_cells" "_law_cells" s_law_cells ["script", "most"] (A 43) (FD 43)
  d44 : Dn K mg "_law_ties" "_law_ties" s_law_ties ["pot", "many"] (A 44) (FD 44)
  d45 : Dn K mg "_law_bunches" "_law_bunches" s_law_bunches ["pot", "many"] (A 45) (FD 45)
  d46 : Dn K mg "_law_order" "_law_order" s_law_order ["pot", "many"] (A 46) (FD 46)
  d47 : Dn K mg "_law_web" "_law_web" s_law_web ["pot", "most"] (A 47) (FD 47)
  d48 : Dn K mg "_law_some" "_law_some" s_law_some ["pot", "many"] (A 48) (FD 48)
  d49 : Dn K mg "_law_kind" "_law_kind" s_law_kind ["pot"] (A 49) (FD 49)
  d50 : Dn K mg "_law_moved" "_law_moved" s_law_moved ["order", "thing"] (A 50) (FD 50)
  d51 : Dn K mg "_law_gathered" "_law_gathered" s_law_gathered ["rows"] (A 51) (FD 51)
  d52 : Dn K mg "_law_rows_moved" "_law_rows_moved" s_law_rows_moved ["order", "rows"] (A 52) (FD 52)
  d53 : Dn K mg "_law_same_places" "_law_same_places" s_law_same_places ["web", "other", "order"] (A 53) (FD 53)
  d54 : Dn K mg "_law_same_things" "_law_same_things" s_law_same_things ["pot", "web", "other", "order", "kind"] (A 54) (FD 54)
  d55 : Dn K mg "law" "law" s_law ["script"] (A 55) (FD 55)
  n_abs : mg "abs" = none
  n_all : mg "all" = none
  n_enumerate : mg "enumerate" = none
  n_int : mg "int" = none
  n_isinstance : mg "isinstance" = none
  n_len : mg "len" = none
  n_list : mg "list" = none
  n_max : mg "max" = none
  n_min : mg "min" = none
  n_range : mg "range" = none
  n_set : mg "set" = none
  n_sorted : mg "sorted" = none
  n_str : mg "str" = none
  n_tuple : mg "tuple" = none
  c_MOST_PLACES : ∃ t, mg "MOST_PLACES" = some (.int 60 t)
section
variable {P : Program} {w : World} {K : PySem.W.Frag} {mg : Str → Option Value} {base : Heap} {A : Nat → Addr} {FD : Nat → FuncData}
def sp_near_lists (K : Fg) : Sp := fun vs H Q E => ∃ (F : Hp) (os : List (Addr × HO)) (v_web : V) (x_web : (Int × (Tup (Int × Int)))), vs = [v_web] ∧ W F H (os) ∧ rep K F v_web x_web ∧ Post (near_lists x_web) (Ret K F os Q) noX
theorem sc_near_lists : FnScope ["web", "found", "one", "other", "place", "row"] ["web"] (defScope s_near_lists) := ⟨rfl, rfl, rfl, by decide +kernel, rfl, by decide +kernel, by decide +kernel⟩
theorem ok_near_lists (T : Tx K mg A FD) : FnOk P w K mg base CX0 1 (A 9) (FD 9) ["web"] (sp_near_lists K) := by
  refine T.d9.fn.ok sc_near_lists (fun vs H Q E h => ?_) (fun cdv Ar outer s H vs Q E hr h => ?_)
  · obtain ⟨F, os, v_web, x_web, rfl, _⟩ := h
    rfl
  · obtain ⟨F0, os, v_web, x_web, rfl, w0, r_web, hm⟩ := h
    have sF : Same F0 F0 := Same.refl _
    obtain ⟨a1, u1, z1, rfl, q1, r1a, r1b⟩ := r_web
    obtain rfl : u1 = V.int x_web.1 := r1a
    obtain ⟨a2, vs2, rfl, q2, h2⟩ := r1b
    have hr_g : Sto K F0 [] [] ([] : List (List Int)) := Sto.nil
    replace w0 : W F0 _ ((nz [] [] ++ os)) := w0
    refine ⟨_, (pss_cons (ps_setLc (i := 1) (own := [("place", 4)]) (g := gName 4) (by rfl) sc_near_lists.nd rfl rfl (sw_true rfl rfl rfl (by decide +kernel)) (pi_range1 (by rfl) T.n_range (pa_cons (pe_ix (ix_tupK (K := K) rfl) (pv 0) pe_int (fun _ _ => rfl)) pa_nil)) (blkOk_by (own := [("place", 4)]) (N := ["web", "found", "one", "other", "place", "row"]) (sc := defScope s_near_lists) (by decide +kernel)) (fun _ _ _ _ _ => (pg_name (i := 4) sc_near_lists.nd rfl (Or.inl rfl))) (fun _ _ _ _ _ => pts_nil) (fun _ _ _ _ _ => (pe_lst pa_nil))) (pss_cons (ps_for PassesOwn.never rfl (pi_tupK (K := K) rfl (pe_ix (ix_tupK (K := K) rfl) (pv 0) pe_int (fun _ _ => rfl))) (pg_k (K := K) (t := fun K => gTup K 2 _) rfl (pg_tup (n := 2) rfl (pgs_cons (pg_name (i := 2) sc_near_lists.nd rfl (Or.inl rfl)) (pgs_cons (pg_name (i := 3) sc_near_lists.nd rfl (Or.inl rfl)) pgs_nil)))) (pss_cons (ps_expr (pe_bm PySem.F.plainAttrs_list PySem.F.slot_list_append PySem.F.type_list_append mt_append (pe_ix (ix_listK (K := K) rfl) (pv 1) (pv 2) (fun _ _ => rfl)) (pa_cons (pv 3) pa_nil))) (pss_one (ps_expr (pe_bm PySem.F.plainAttrs_list PySem.F.slot_list_append PySem.F.type_list_append mt_append (pe_ix (ix_listK (K := K) rfl) (pv 1) (pv 3) (fun _ _ => rfl)) (pa_cons (pv 2) pa_nil)))))) (pss_one (ps_ret (pe_lc (own := [("row", 5)]) (g := gName 5) (by rfl) sc_near_lists.nd (pi_listK (K := K) rfl (pv 1)) (blkOk_by (own := [("row", 5)]) (N := ["web", "found", "one", "other", "place", "row"]) (sc := defScope s_near_lists) (by decide +kernel)) (fun _ _ _ _ _ => (pg_name (i := 5) sc_near_lists.nd rfl (Or.inl rfl))) (fun _ _ _ _ _ => pts_nil) (fun _ _ _ _ _ => (pe_callB (cr_sortI (K := K) rfl) (by rfl) T.n_sorted (by decide +kernel) (pa_cons (pv 5) pa_nil)))))))), ?_⟩
    obtain ⟨c4, hm⟩ := pb_rng hm
    refine ⟨_, rfl, _, _, _, _, rfl, rfl, SqT.of (w0.same _ _ q1), rfl, _, rfl, c4.2.2.1, c4.2.2.2, fun D5 nD5 => ?_⟩
    refine lcGM (tw_rng0 (j := x_web.1)) hm (fun (g5 : (List (List Int))) F' os' us ys => ∃ (as5_0 : List Addr) (vs5_0 : List (List V)), os' = (nz as5_0 vs5_0 ++ os) ∧ [] <+: as5_0 ∧ Sto K F' as5_0 vs5_0 g5 ∧ A2 (RX as5_0) us ys) w0 ⟨_, _, rfl, pfx_refl, hr_g, .nil⟩ nD5 (fun _ _ _ _ _ o => by obtain ⟨_, _, rfl, _, _, h⟩ := o; exact h.length) (fun g F' H' os' acc ys s w o => by obtain ⟨_, _, rfl, _, _, _⟩ := o; exact trivial) ?_ ?_
    · -- one turn
      intro b5 g5 x5 F5 H5 H5' os5 acc5 ya5 N5 P5 s5 w5 o5 y5 hN5 hm
      obtain ⟨as5_0, vs5_0, rfl, p5_0, h5_0, ha5⟩ := o5
      replace q1 := s5 _ _ q1
      replace q2 := s5 _ _ q2
      replace h2 := A2.mono s5 h2
      replace sF := sF.trans s5
      obtain ⟨rfl, rfl⟩ := y5
      have h7 : A2 (rep K F5) [] ([] : (List Int)) := .nil
      refine ⟨rfl, (by show 0 ≤ sizeLine; decide), fun p8 n8 => ?_⟩
      have w8 : W F5 _ ((p8, .lst []) :: (D5, .lst acc5) :: (nz as5_0 vs5_0 ++ os)) := w5.new n8
      obtain ⟨j9, st9, ej9, es9, hm⟩ := pn_newS hm
      have w9 : W F5 _ ((D5, .lst acc5) :: (nz (as5_0 ++ [p8]) (vs5_0 ++ [[]]) ++ os)) := w8.nadd (pre := [_]) h5_0.len
      have q9 : (as5_0 ++ [p8])[j9]? = some p8 := IQ.new (h5_0.len2.trans ej9.symm)
      have h9 : Sto K F5 (as5_0 ++ [p8]) (vs5_0 ++ [[]]) st9 := es9 ▸ Sto.snoc (p := p8) h5_0 h7
      replace ha5 := A2.imp (fun _ _ => RX.mono (pfx_snoc (p := p8))) ha5
      exact hN5 _ _ (post_ok hm) _ _ _ _ w9 (Same.refl _) ⟨_, _, rfl, (pfx_trans p5_0 (pfx_snoc (p := p8))), h9, A2.snoc ha5 ⟨_, rfl, q9⟩⟩
    intro g5 us5 F5 H5 os5 ys5 s5 w5 o5 hm
    obtain ⟨as5_0, vs5_0, rfl, p5_0, h5_0, gg5⟩ := o5
    replace q1 := s5 _ _ q1
    replace q2 := s5 _ _ q2
    replace h2 := A2.mono s5 h2
    replace sF := sF.trans s5
    refine ⟨_, rfl, _, _, _, _, rfl, rfl, SqT.of (w5.same _ _ q1), rfl, _, rfl, ⟨_, SqT.of (w5.same _ _ q2)⟩, ?_⟩
    refine forS (tw_tup (a := a2) h2) hm (fun (g11 : (List (List Int))) σ H' => ∃ (F' : Hp) (as11_0 : List Addr) (vs11_0 : List (List V)) (o11_2 : Option V) (o11_3 : Option V), σ = [some (.ref a1), some (.ref D5), o11_2, o11_3, none, none] ∧ Same F5 F' ∧ W F' H' ((D5, .lst us5) :: (nz as11_0 vs11_0 ++ os)) ∧ as5_0 <+: as11_0 ∧ Sto K F' as11_0 vs11_0 g11) ⟨_, _, _, _, _, rfl, Same.refl _, w5, pfx_refl, h5_0⟩ (fun g σ H' hI => by obtain ⟨F', _, _, _, _, _, s, w, _⟩ := hI; exact SqT.of (w.same _ _ (s _ _ q2))) ?_ ?_
    · -- a turn
      intro b11 g11 x11 σ11 H11 H11' N11 P11 hI hy hN11 hm
      obtain ⟨F11, as11_0, vs11_0, o11_2, o11_3, rfl, s11, w11, p11_0, h11_0⟩ := hI
      replace q1 := s11 _ _ q1
      replace h2 := A2.mono s11 h2
      replace q2 := s11 _ _ q2
      replace sF := sF.trans s11
      replace gg5 := A2.imp (fun _ _ => RX.mono p11_0) gg5
      obtain ⟨rfl, r12⟩ := hy
      replace r12 := Rep.mono s11 r12
      obtain ⟨a13, u13, z13, rfl, q13, r13a, r13b⟩ := r12
      obtain rfl : u13 = V.int b11.1 := r13a
      obtain rfl : z13 = V.int b11.2 := r13b
      obtain ⟨t14, e14, hm⟩ := pb_get hm
      obtain ⟨u14, f14, r14⟩ := A2.at gg5 e14
      obtain ⟨a15, rfl, q15⟩ := r14
      obtain ⟨x16, e16, hm⟩ := pb_getS hm
      obtain ⟨vs16, i16, h16⟩ := Sto.getq h11_0 e16 q15
      obtain ⟨l17, z17, e17, hm⟩ := pn_app hm
      obtain ⟨st17, es17, hm⟩ := pn_setS hm
      refine ⟨_, _, rfl, SqT.of (w11.same _ _ q13), rfl, _, _, rfl, _, _, rfl, rfl, _, rfl, _, rfl, _, _, _, _, rfl, rfl, SqL.of (w11.get (pre := [])), f14, .inl ⟨rfl, _, SqL.of (W.nget (pre := [_]) w11 q15 i16)⟩, _, rfl, _, _, _, rfl, rfl, (W.nget (pre := [_]) w11 q15 i16), (A2.lt h16 z17), ?_⟩
      have h17 : Sto K F11 as11_0 (vs11_0.set t14 (vs16 ++ [(V.int b11.2)])) st17 := es17 ▸ Sto.set h11_0 (e17 ▸ A2.snoc h16 rep_i)
      have w17 : W F11 _ ((D5, .lst us5) :: (nz as11_0 (vs11_0.set t14 (vs16 ++ [(V.int b11.2)])) ++ os)) := w11.nset (pre := [_]) (vs16 ++ [(V.int b11.2)]) q15 i16
      obtain ⟨t18, e18, hm⟩ := pb_get hm
      obtain ⟨u18, f18, r18⟩ := A2.at gg5 e18
      obtain ⟨a19, rfl, q19⟩ := r18
      obtain ⟨x20, e20, hm⟩ := pb_getS hm
      obtain ⟨vs20, i20, h20⟩ := Sto.getq h17 e20 q19
      obtain ⟨l21, z21, e21, hm⟩ := pn_app hm
      obtain ⟨st21, es21, hm⟩ := pn_setS hm
      refine ⟨_, rfl, _, rfl, _, _, _, _, rfl, rfl, SqL.of (w17.get (pre := [])), f18, .inl ⟨rfl, _, SqL.of (W.nget (pre := [_]) w17 q19 i20)⟩, _, rfl, _, _, _, rfl, rfl, (W.nget (pre := [_]) w17 q19 i20), (A2.lt h20 z21), ?_⟩
      have h21 : Sto K F11 as11_0 ((vs11_0.set t14 (vs16 ++ [(V.int b11.2)])).set t18 (vs20 ++ [(V.int b11.1)])) st21 := es21 ▸ Sto.set h17 (e21 ▸ A2.snoc h20 rep_i)
      have w21 : W F11 _ ((D5, .lst us5) :: (nz as11_0 ((vs11_0.set t14 (vs16 ++ [(V.int b11.2)])).set t18 (vs20 ++ [(V.int b11.1)])) ++ os)) := w17.nset (pre := [_]) (vs20 ++ [(V.int b11.1)]) q19 i20
      exact hN11 _ (post_ok hm) _ _ ⟨_, _, _, _, _, rfl, s11, w21, p11_0, h21⟩
    intro g11 σ11 H11 hI hm
    obtain ⟨F11, as11_0, vs11_0, o11_2, o11_3, rfl, s11, w11, p11_0, h11_0⟩ := hI
    replace q1 := s11 _ _ q1
    replace h2 := A2.mono s11 h2
    replace q2 := s11 _ _ q2
    replace sF := sF.trans s11
    replace gg5 := A2.imp (fun _ _ => RX.mono p11_0) gg5
    refine ⟨_, rfl, _, rfl, ⟨_, SqL.of (w11.get (pre := []))⟩, fun D22 nD22 => ?_⟩
    refine lcM (K := K) (tw_listR (a := D5) gg5) hm w11 nD22 (fun F' H' acc s w => SqL.of (w.get (pre := [_]))) ?_ ?_
    · -- one turn
      intro b22 x22 F22 H22 H22' acc22 N22 P22 s22 w22 y22 hN22 hm
      replace q1 := s22 _ _ q1
      replace h2 := A2.mono s22 h2
      replace q2 := s22 _ _ q2
      replace h11_0 := Sto.mono s22 h11_0
      replace sF := sF.trans s22
      obtain ⟨rfl, r24⟩ := y22
      obtain ⟨a25, rfl, q25⟩ := r24
      obtain ⟨x26, e26, hm⟩ := pb_getS hm
      obtain ⟨vs26, i26, h26⟩ := Sto.getq h11_0 e26 q25
      have h27 : A2 (rep K F22) ((sortI x26).map V.int) (sortI x26) := A2.of_ints
      refine ⟨rfl, _, rfl, _, _, rfl, ints_q (SqL.of (W.nget (pre := [_, _]) w22 q25 i26)) h26, fun p28 n28 => ?_⟩
      have w28 : W F22 _ ((p28, .lst ((sortI x26).map V.int)) :: (D22, .lst acc22) :: (D5, .lst us5) :: (nz as11_0 vs11_0 ++ os)) := w22.new n28
      obtain ⟨F29, s29, w29, q29⟩ : ∃ F', Same F22 F' ∧ W F' _ ((D22, .lst acc22) :: (D5, .lst us5) :: (nz as11_0 vs11_0 ++ os)) ∧ F' p28 = some (.lst ((sortI x26).map V.int)) := w28.freezeE (pre := [])
      replace q1 := s29 _ _ q1
      replace h2 := A2.mono s29 h2
      replace q2 := s29 _ _ q2
      replace h11_0 := Sto.mono s29 h11_0
      replace h26 := A2.mono s29 h26
      replace h27 := A2.mono s29 h27
      replace sF := sF.trans s29
      exact hN22 _ (post_ok hm) _ _ _ w29 s29 (rep_lst q29 h27)
    intro us22 F22 H22 ys22 s22 w22 gg22 hm
    replace q1 := s22 _ _ q1
    replace h2 := A2.mono s22 h2
    replace q2 := s22 _ _ q2
    replace h11_0 := Sto.mono s22 h11_0
    replace sF := sF.trans s22
    obtain ⟨F31, s31, w31, q31⟩ : ∃ F', Same F22 F' ∧ W F' _ ((D5, .lst us5) :: (nz as11_0 vs11_0 ++ os)) ∧ F' D22 = some (.lst us22) := w22.freezeE (pre := [])
    replace q1 := s31 _ _ q1
    replace h2 := A2.mono s31 h2
    replace q2 := s31 _ _ q2
    replace h11_0 := Sto.mono s31 h11_0
    replace gg22 := A2.mono s31 gg22
    replace sF := sF.trans s31
    have w32 : W F31 _ ((nz as11_0 vs11_0 ++ os)) := w31.drop (pre := [])
    have w33 : W F31 _ (os) := w32.dropL (pre := [])
    exact (post_ok hm) _ _ _ w33 sF (rep_lst q31 gg22)
def sp_fars_by (K : Fg) : Sp := fun vs H Q E => ∃ (F : Hp) (os : List (Addr × HO)) (v_near : V) (x_near : (List (List Int))) (x_place : Int), vs = [v_near, .int x_place] ∧ W F H (os) ∧ rep K F v_near x_near ∧ Post (fars_by x_near x_place) (RetL K F os Q) noX
theorem sc_fars_by : FnScope ["near", "place", "found", "line", "at", "other"] ["near", "place"] (defScope s_fars_by) := ⟨rfl, rfl, rfl, by decide +kernel, rfl, by decide +kernel, by decide +kernel⟩
theorem ok_fars_by (T : Tx K mg A FD) : FnOk P w K mg base CX0 1 (A 11) (FD 11) ["near", "place"] (sp_fars_by K) := by
  refine T.d11.fn.ok sc_fars_by (fun vs H Q E h => ?_) (fun cdv Ar outer s H vs Q E hr h => ?_)
  · obtain ⟨F, os, v_near, x_near, x_place, rfl, _⟩ := h
    rfl
  · obtain ⟨F0, os, v_near, x_near, x_place, rfl, w0, r_near, hm⟩ := h
    have sF : Same F0 F0 := Same.refl _
    obtain ⟨a1, vs1, rfl, q1, h1⟩ := r_near
    refine ⟨_, (pss_cons (ps_set (i := 2) sc_fars_by.nd rfl (Or.inl rfl) (pe_op op_rep (pe_lst (pa_cons pe_non pa_nil)) (pe_callB (call_lenN (K := K) rfl) (by rfl) T.n_len (by decide +kernel) (pa_cons (pv 0) pa_nil)))) (pss_cons (ps_asg pe_int (pg_sub (pv 2) (pv 1) set_list)) (pss_cons (ps_set (i := 3) sc_fars_by.nd rfl (Or.inl rfl) (pe_lst (pa_cons (pv 1) pa_nil))) (pss_cons (ps_set (i := 4) sc_fars_by.nd rfl (Or.inl rfl) pe_int1) (pss_cons (ps_while PassesOwn.never (pt_cmp (pc_lt (pv 4) (pe_callB (call_lenN (K := K) rfl) (by rfl) T.n_len (by decide +kernel) (pa_cons (pv 3) pa_nil)))) (pss_cons (ps_for PassesOwn.never rfl (pi_listK (K := K) rfl (pe_ix (ix_listK (K := K) rfl) (pv 0) (pe_ix (ix_listK (K := K) rfl) (pv 3) (pv 4) (fun _ _ => rfl)) (fun _ _ => rfl))) (pg_name (i := 5) sc_fars_by.nd rfl (Or.inl rfl)) (pss_one (ps_if (pt_cmpR op_isN2 (pe_ix (ix_listK (K := K) rfl) (pv 2) (pv 5) (fun _ _ => rfl)) pe_non (nomark _)) (pss_cons (ps_asg (pe_op op_add (pe_ix (ix_listK (K := K) rfl) (pv 2) (pe_ix (ix_listK (K := K) rfl) (pv 3) (pv 4) (fun _ _ => rfl)) (fun _ _ => rfl)) pe_int) (pg_sub (pv 2) (pv 5) set_list)) (pss_one (ps_expr (pe_bm PySem.F.plainAttrs_list PySem.F.slot_list_append PySem.F.type_list_append mt_append (pv 3) (pa_cons (pv 5) pa_nil))))) pss_nil))) (pss_one (ps_set (i := 4) sc_fars_by.nd rfl (Or.inl rfl) (pe_op op_add (pv 4) pe_int))))) (pss_one (ps_ret (pv 2)))))))), ?_⟩
    have h2 : A2 (rep K F0) [.non] ([none] : (List (Option Int))) := .cons rep_none (.nil)
    refine ⟨(by show 1 ≤ sizeLine; decide), fun p3 n3 => ?_⟩
    have w3 : W F0 _ ((p3, .lst [.non]) :: os) := w0.new n3
    obtain ⟨l4, z4, e4, hm⟩ := pb_rep hm
    have h4 : A2 (rep K F0) (List.replicate (x_near.length : Int).toNat [.non]).flatten l4 := e4 ▸ A2.flat h2 _
    refine ⟨_, rfl, _, _, _, rfl, .inl (SqL.of (w3.same _ _ q1)), h1.length, _, _, _, rfl, rfl, (w3.get (pre := [])), z4.1, z4.2.1, (by rw [h2.length]; exact z4.2.2), fun p5 n5 => ?_⟩
    have w5 : W F0 _ ((p5, .lst (List.replicate (x_near.length : Int).toNat [.non]).flatten) :: (p3, .lst [.non]) :: os) := w3.new n5
    have w6 : W F0 _ ((p5, .lst (List.replicate (x_near.length : Int).toNat [.non]).flatten) :: os) := w5.drop (pre := [_])
    obtain ⟨j7, l7, z7, e7, hm⟩ := pn_set hm
    refine ⟨_, rfl, _, rfl, _, _, _, _, rfl, rfl, (w6.get (pre := [])), (A2.ix h4 z7), ?_⟩
    have h7 : A2 (rep K F0) ((List.replicate (x_near.length : Int).toNat [.non]).flatten.set j7 (V.int 0)) l7 := e7 ▸ A2.set (rep_some rep_i) j7 h4
    have w8 : W F0 _ ((p5, .lst ((List.replicate (x_near.length : Int).toNat [.non]).flatten.set j7 (V.int 0))) :: os) := w6.set (pre := [])
    have h9 : A2 (rep K F0) [(.int x_place)] ([x_place] : (List Int)) := .cons rep_i (.nil)
    refine ⟨_, rfl, (by show 1 ≤ sizeLine; decide), fun p10 n10 => ?_⟩
    have w10 : W F0 _ ((p10, .lst [(.int x_place)]) :: (p5, .lst ((List.replicate (x_near.length : Int).toNat [.non]).flatten.set j7 (V.int 0))) :: os) := w8.new n10
    refine ⟨trivial, ?_⟩
    refine stepN ?_
    try dsimp only
    refine stepSeq (whileS hm (fun (g11 : Int × (List Int) × (List (Option Int))) σ H' => ∃ (F' : Hp) (vs11_0 : List V) (vs11_1 : List V) (o11_5 : Option V), σ = [some (.ref a1), some (.int x_place), some (.ref p5), some (.ref p10), some (.int g11.1), o11_5] ∧ Same F0 F' ∧ W F' H' ((p10, .lst vs11_0) :: (p5, .lst vs11_1) :: os) ∧ A2 (rep K F') vs11_0 g11.2.1 ∧ A2 (rep K F') vs11_1 g11.2.2) ⟨_, _, _, _, rfl, Same.refl _, w10, h9, h7⟩ ?_ ?_ ?_)
    · intro g11 σ11 H11 N11 P11 hI hN11 hm
      obtain ⟨F11, vs11_0, vs11_1, o11_5, rfl, s11, w11, h11_0, h11_1⟩ := hI
      replace h1 := A2.mono s11 h1
      replace q1 := s11 _ _ q1
      replace sF := sF.trans s11
      exact ⟨_, rfl, _, rfl, _, _, _, rfl, .inl (SqL.of (w11.get (pre := []))), h11_0.length, _, _, rfl, rfl, _, rfl, hN11 _ (post_ok hm) _ ⟨_, _, _, _, rfl, s11, w11, h11_0, h11_1⟩⟩
    · intro g11 σ11 H11 N11 P11 hI hN11 hm
      obtain ⟨F11, vs11_0, vs11_1, o11_5, rfl, s11, w11, h11_0, h11_1⟩ := hI
      replace h1 := A2.mono s11 h1
      replace q1 := s11 _ _ q1
      replace sF := sF.trans s11
      obtain ⟨t13, e13, hm⟩ := pb_get hm
      obtain ⟨u13, f13, r13⟩ := A2.at h11_0 e13
      obtain rfl : u13 = V.int t13 := r13
      obtain ⟨t14, e14, hm⟩ := pb_get hm
      obtain ⟨u14, f14, r14⟩ := A2.at h1 e14
      obtain ⟨a15, vs15, rfl, q15, h15⟩ := r14
      refine ⟨_, rfl, _, rfl, _, rfl, _, _, _, _, rfl, rfl, SqL.of (w11.get (pre := [])), f13, _, _, _, _, rfl, rfl, SqL.of (w11.same _ _ q1), f14, _, rfl, ⟨_, SqL.of (w11.same _ _ q15)⟩, ?_⟩
      refine forS (tw_list (a := a15) h15) hm (fun (g12 : (List Int) × (List (Option Int))) σ H' => ∃ (F' : Hp) (vs12_0 : List V) (vs12_1 : List V) (o12_5 : Option V), σ = [some (.ref a1), some (.int x_place), some (.ref p5), some (.ref p10), some (.int g11.1), o12_5] ∧ Same F11 F' ∧ W F' H' ((p10, .lst vs12_0) :: (p5, .lst vs12_1) :: os) ∧ A2 (rep K F') vs12_0 g12.1 ∧ A2 (rep K F') vs12_1 g12.2) ⟨_, _, _, _, rfl, Same.refl _, w11, h11_0, h11_1⟩ (fun g σ H' hI => by obtain ⟨F', _, _, _, _, s, w, _⟩ := hI; exact SqL.of (w.same _ _ (s _ _ q15))) ?_ ?_
      · -- a turn
        intro b12 g12 x12 σ12 H12 H12' N12 P12 hI hy hN12 hm
        obtain ⟨F12, vs12_0, vs12_1, o12_5, rfl, s12, w12, h12_0, h12_1⟩ := hI
        replace h1 := A2.mono s12 h1
        replace q1 := s12 _ _ q1
        replace q15 := s12 _ _ q15
        replace h15 := A2.mono s12 h15
        replace sF := sF.trans s12
        obtain ⟨rfl, r16⟩ := hy
        obtain rfl : x12 = V.int b12 := r16
        obtain ⟨t17, e17, hm⟩ := pb_get hm
        obtain ⟨u17, f17, r17⟩ := A2.at h12_1 e17
        refine ⟨_, rfl, _, rfl, _, _, _, _, rfl, rfl, SqL.of (w12.get (pre := [_])), f17, rfl, _, isN_eq r17, _, rfl, ?_⟩
        refine post_ite hm (fun k19 hm => ?_) (fun k19 hm => ?_)
        · skip
          obtain ⟨t20, e20, hm⟩ := pb_get hm
          obtain ⟨u20, f20, r20⟩ := A2.at h12_0 e20
          obtain rfl : u20 = V.int t20 := r20
          obtain ⟨t21, e21, hm⟩ := pb_get hm
          obtain ⟨u21, f21, r21⟩ := A2.at h12_1 e21
          obtain ⟨t23, e23, hm⟩ := pb_ofO hm
          have r23 : rep K F12 u21 (some t23) := e23 ▸ r21
          replace r23 : u21 = V.int t23 := r23
          subst r23
          obtain ⟨j24, l24, z24, e24, hm⟩ := pn_set hm
          refine ⟨_, rfl, _, rfl, _, rfl, _, _, _, _, rfl, rfl, SqL.of (w12.get (pre := [])), f20, _, _, _, _, rfl, rfl, SqL.of (w12.get (pre := [_])), f21, _, _, rfl, rfl, _, rfl, _, rfl, _, _, _, _, rfl, rfl, (w12.get (pre := [_])), (A2.ix h12_1 z24), ?_⟩
          have h24 : A2 (rep K F12) (vs12_1.set j24 (V.int (t23 + (1 : Int)))) l24 := e24 ▸ A2.set (rep_some rep_i) j24 h12_1
          have w25 : W F12 _ ((p10, .lst vs12_0) :: (p5, .lst (vs12_1.set j24 (V.int (t23 + (1 : Int))))) :: os) := w12.set (pre := [_])
          obtain ⟨l26, z26, e26, hm⟩ := pn_app hm
          refine ⟨_, rfl, .inl ⟨rfl, _, SqL.of (w25.get (pre := []))⟩, _, rfl, _, _, _, rfl, rfl, (w25.get (pre := [])), (A2.lt h12_0 z26), ?_⟩
          have h26 : A2 (rep K F12) (vs12_0 ++ [(V.int b12)]) l26 := e26 ▸ A2.snoc h12_0 rep_i
          have w27 : W F12 _ ((p10, .lst (vs12_0 ++ [(V.int b12)])) :: (p5, .lst (vs12_1.set j24 (V.int (t23 + (1 : Int))))) :: os) := w25.set (pre := [])
          exact hN12 _ (post_ok hm) _ _ ⟨_, _, _, _, rfl, s12, w27, h26, h24⟩
        · skip
          exact hN12 _ (post_ok hm) _ _ ⟨_, _, _, _, rfl, s12, w12, h12_0, h12_1⟩
      intro g12 σ12 H12 hI hm
      obtain ⟨F12, vs12_0, vs12_1, o12_5, rfl, s12, w12, h12_0, h12_1⟩ := hI
      replace h1 := A2.mono s12 h1
      replace q1 := s12 _ _ q1
      replace q15 := s12 _ _ q15
      replace h15 := A2.mono s12 h15
      replace sF := sF.trans s12
      exact ⟨_, rfl, _, _, rfl, rfl, hN11 _ (post_ok hm) _ _ ⟨_, _, _, _, rfl, (s11.trans s12), w12, h12_0, h12_1⟩⟩
    intro g11 σ11 H11 hI hm
    obtain ⟨F11, vs11_0, vs11_1, o11_5, rfl, s11, w11, h11_0, h11_1⟩ := hI
    replace h1 := A2.mono s11 h1
    replace q1 := s11 _ _ q1
    replace sF := sF.trans s11
    have w28 : W F11 _ ((p5, .lst vs11_1) :: os) := w11.drop (pre := [])
    exact ⟨_, rfl, (post_ok hm) _ _ _ _ w28 sF h11_1⟩
def sp_sorted_ties (K : Fg) : Sp := fun vs H Q E => ∃ (F : Hp) (os : List (Addr × HO)) (x_many : Int) (a_ties : Addr) (vs_ties : List V) (x_ties : (List (Int × Int))), vs = [.int x_many, .ref a_ties] ∧ W F H ((a_ties, .lst vs_ties) :: os) ∧ A2 (rep K F) vs_ties x_ties ∧ Post (sorted_ties x_many x_ties) (fun (y : (Tup (Int × Int))) => ∀ (v : V) (F' H' : Hp), W F' H' ((a_ties, .lst vs_ties) :: os) → Same F F' → rep K F' v (y : (Tup (Int × Int))) → Q v H') noX
theorem sc_sorted_ties : FnScope ["many", "ties", "found", "one", "other", "tie"] ["many", "ties"] (defScope s_sorted_ties) := ⟨rfl, rfl, rfl, by decide +kernel, rfl, by decide +kernel, by decide +kernel⟩
theorem ok_sorted_ties (T : Tx K mg A FD) : FnOk P w K mg base CX0 1 (A 12) (FD 12) ["many", "ties"] (sp_sorted_ties K) := by
  refine T.d12.fn.ok sc_sorted_ties (fun vs H Q E h => ?_) (fun cdv Ar outer s H vs Q E hr h => ?_)
  · obtain ⟨F, os, x_many, a_ties, vs_ties, x_ties, rfl, _⟩ := h
    rfl
  · obtain ⟨F0, os, x_many, a_ties, vs_ties, x_ties, rfl, w0, h_ties, hm⟩ := h
    have sF : Same F0 F0 := Same.refl _
    refine ⟨_, (pss_cons (ps_set (i := 2) sc_sorted_ties.nd rfl (Or.inl rfl) (pe_lst pa_nil)) (pss_cons (ps_for PassesOwn.never rfl (pi_listK (K := K) rfl (pv 1)) (pg_k (K := K) (t := fun K => gTup K 2 _) rfl (pg_tup (n := 2) rfl (pgs_cons (pg_name (i := 3) sc_sorted_ties.nd rfl (Or.inl rfl)) (pgs_cons (pg_name (i := 4) sc_sorted_ties.nd rfl (Or.inl rfl)) pgs_nil)))) (pss_cons (ps_set (i := 5) sc_sorted_ties.nd rfl (Or.inl rfl) (pe_tup (pa_cons (pe_callB (call_min2 rfl) (by rfl) T.n_min (by decide +kernel) (pa_cons (pv 3) (pa_cons (pv 4) pa_nil))) (pa_cons (pe_callB (call_max2 rfl) (by rfl) T.n_max (by decide +kernel) (pa_cons (pv 3) (pa_cons (pv 4) pa_nil))) pa_nil)))) (pss_cons (ps_if (PW.pt (pw_or (pt_cmp (pc_lt (pe_ix (ix_tupK (K := K) rfl) (pv 5) pe_int (fun _ _ => rfl)) pe_int)) (pw_or (pt_cmp (pc_ge (pe_ix (ix_tupK (K := K) rfl) (pv 5) pe_int (fun _ _ => rfl)) (pv 0))) (pw_or (pt_cmp (pc_eqI (pv 3) (pv 4))) (pw_or1 (pt_cmpR (op_inL (K := K) rfl (Int × Int) (by decide) (Room.units65 hr)) (pv 5) (pv 2) (by rfl))))))) (pss_one ps_absurd) pss_nil) (pss_one (ps_expr (pe_bm PySem.F.plainAttrs_list PySem.F.slot_list_append PySem.F.type_list_append mt_append (pv 2) (pa_cons (pv 5) pa_nil))))))) (pss_one (ps_ret (pe_callTy (call_tuple_ofK (K := K) rfl) (by rfl) T.n_tuple (by decide +kernel) (pa_cons (pe_callB (cr_sortP (K := K) rfl) (by rfl) T.n_sorted (by decide +kernel) (pa_cons (pv 2) pa_nil)) pa_nil)))))), ?_⟩
    have h2 : A2 (rep K F0) [] ([] : (List (Int × Int))) := .nil
    refine ⟨(by show 0 ≤ sizeLine; decide), fun p3 n3 => ?_⟩
    have w3 : W F0 _ ((p3, .lst []) :: (a_ties, .lst vs_ties) :: os) := w0.new n3
    refine ⟨_, rfl, _, rfl, ⟨_, SqL.of (w3.get (pre := [_]))⟩, ?_⟩
    refine forS (tw_list (a := a_ties) h_ties) hm (fun (g4 : (List (Int × Int))) σ H' => ∃ (F' : Hp) (vs4_0 : List V) (o4_5 : Option V) (o4_3 : Option V) (o4_4 : Option V), σ = [some (.int x_many), some (.ref a_ties), some (.ref p3), o4_3, o4_4, o4_5] ∧ Same F0 F' ∧ W F' H' ((p3, .lst vs4_0) :: (a_ties, .lst vs_ties) :: os) ∧ A2 (rep K F') vs4_0 g4) ⟨_, _, _, _, _, rfl, Same.refl _, w3, h2⟩ (fun g σ H' hI => by obtain ⟨F', _, _, _, _, _, s, w, _⟩ := hI; exact SqL.of (w.get (pre := [_]))) ?_ ?_
    · -- a turn
      intro b4 g4 x4 σ4 H4 H4' N4 P4 hI hy hN4 hm
      obtain ⟨F4, vs4_0, o4_5, o4_3, o4_4, rfl, s4, w4, h4_0⟩ := hI
      replace h_ties := A2.mono s4 h_ties
      replace sF := sF.trans s4
      obtain ⟨rfl, r5⟩ := hy
      replace r5 := Rep.mono s4 r5
      obtain ⟨a6, u6, z6, rfl, q6, r6a, r6b⟩ := r5
      obtain rfl : u6 = V.int b4.1 := r6a
      obtain rfl : z6 = V.int b4.2 := r6b
      refine ⟨_, _, rfl, SqT.of (w4.same _ _ q6), rfl, _, _, rfl, _, _, rfl, rfl, _, rfl, _, rfl, _, _, rfl, _, rfl, _, rfl, _, _, rfl, (by show 2 ≤ sizeLine; decide), fun p7 n7 => ?_⟩
      obtain ⟨F7, s7, w7, q7⟩ := w4.frzE (o := .tup [(.int (min2 b4.1 b4.2)), (.int (max2 b4.1 b4.2))]) n7
      replace h4_0 := A2.mono s7 h4_0
      replace h_ties := A2.mono s7 h_ties
      replace sF := sF.trans s7
      refine stepN ?_
      try dsimp only
      refine stepSeq (stepIf ?_)
      refine cutT (fun c H' => c = (((decide ((min2 b4.1 b4.2) < (0 : Int))) || ((decide (x_many ≤ (max2 b4.1 b4.2))) || ((decide (b4.1 = b4.2)) || (inB ((min2 b4.1 b4.2), (max2 b4.1 b4.2)) g4))))) ∧ ∃ F', Same F7 F' ∧ W F' H' ((p3, .lst vs4_0) :: (a_ties, .lst vs_ties) :: os)) (fun Q8 q8 => ?_) (fun c8 H8 hc8 => ?_)
      · -- the ways
        refine ⟨_, rfl, _, _, _, _, rfl, rfl, SqT.of (w7.same _ _ q7), rfl, _, _, rfl, rfl, _, rfl, ?_⟩
        refine ifB (fun k9 => ?_) (fun k9 => ?_)
        · skip
          exact q8 _ _ ⟨(by first | rfl | exact absurd k9 (by decide) | (simp [k9]; done) | ((try simp only [Bool.not_eq_true] at k9); simp only [k9, Bool.true_or, Bool.false_or, Bool.or_false, Bool.or_true, Bool.true_and, Bool.false_and, Bool.and_true, Bool.and_false])), _, Same.refl _, w7⟩
        · skip
          refine ⟨_, rfl, _, _, _, _, rfl, rfl, SqT.of (w7.same _ _ q7), rfl, _, rfl, _, _, rfl, rfl, _, rfl, ?_⟩
          refine ifB (fun k11 => ?_) (fun k11 => ?_)
          · skip
            exact q8 _ _ ⟨(by first | rfl | exact absurd k9 (by decide) | exact absurd k11 (by decide) | (simp [k9, k11]; done) | ((try simp only [Bool.not_eq_true] at k9); (try simp only [Bool.not_eq_true] at k11); simp only [k9, k11, Bool.true_or, Bool.false_or, Bool.or_false, Bool.or_true, Bool.true_and, Bool.false_and, Bool.and_true, Bool.and_false])), _, Same.refl _, w7⟩
          · skip
            refine ⟨_, rfl, _, rfl, _, _, rfl, rfl, _, rfl, ?_⟩
            refine ifB (fun k13 => ?_) (fun k13 => ?_)
            · skip
              exact q8 _ _ ⟨(by first | rfl | exact absurd k9 (by decide) | exact absurd k11 (by decide) | exact absurd k13 (by decide) | (simp [k9, k11, k13]; done) | ((try simp only [Bool.not_eq_true] at k9); (try simp only [Bool.not_eq_true] at k11); (try simp only [Bool.not_eq_true] at k13); simp only [k9, k11, k13, Bool.true_or, Bool.false_or, Bool.or_false, Bool.or_true, Bool.true_and, Bool.false_and, Bool.and_true, Bool.and_false])), _, Same.refl _, w7⟩
            · skip
              exact ⟨_, rfl, _, rfl, (((min2 b4.1 b4.2), (max2 b4.1 b4.2)) : (Int × Int)), _, (Rep.mono w7.same (rep_pair q7 rep_i rep_i)), (rep_own (pre := []) w7 h4_0), _, rfl, q8 _ _ ⟨(by first | rfl | exact absurd k9 (by decide) | exact absurd k11 (by decide) | exact absurd k13 (by decide) | (simp [k9, k11, k13]; done) | ((try simp only [Bool.not_eq_true] at k9); (try simp only [Bool.not_eq_true] at k11); (try simp only [Bool.not_eq_true] at k13); simp only [k9, k11, k13, Bool.true_or, Bool.false_or, Bool.or_false, Bool.or_true, Bool.true_and, Bool.false_and, Bool.and_true, Bool.and_false])), _, Same.refl _, w7⟩⟩
      obtain ⟨rfl, F8, s8, w8⟩ := hc8
      replace q7 := s8 _ _ q7
      replace h4_0 := A2.mono s8 h4_0
      replace h_ties := A2.mono s8 h_ties
      replace sF := sF.trans s8
      refine post_ite hm (fun k16 hm => ?_) (fun k16 hm => ?_)
      · skip
        try dsimp only
        exact hm
      · skip
        obtain ⟨l17, z17, e17, hm⟩ := pn_app hm
        refine ⟨_, rfl, .inl ⟨rfl, _, SqL.of (w8.get (pre := []))⟩, _, rfl, _, _, _, rfl, rfl, (w8.get (pre := [])), (A2.lt h4_0 z17), ?_⟩
        have h17 : A2 (rep K F8) (vs4_0 ++ [(V.ref p7)]) l17 := e17 ▸ A2.snoc h4_0 (rep_pair q7 rep_i rep_i)
        have w18 : W F8 _ ((p3, .lst (vs4_0 ++ [(V.ref p7)])) :: (a_ties, .lst vs_ties) :: os) := w8.set (pre := [])
        exact hN4 _ (post_ok hm) _ _ ⟨_, _, _, _, _, rfl, (s4.trans (s7.trans s8)), w18, h17⟩
    intro g4 σ4 H4 hI hm
    obtain ⟨F4, vs4_0, o4_5, o4_3, o4_4, rfl, s4, w4, h4_0⟩ := hI
    replace h_ties := A2.mono s4 h_ties
    replace sF := sF.trans s4
    refine ⟨_, rfl, _, _, F4, g4, rfl, SqL.of (w4.get (pre := [])), w4.same, h4_0, fun p19 us19 n19 h19 => ?_⟩
    have w19 : W F4 _ ((p19, .lst us19) :: (p3, .lst vs4_0) :: (a_ties, .lst vs_ties) :: os) := w4.new n19
    have h21 : A2 (rep K F4) us19 (sortP g4) := h19
    refine ⟨_, _, rfl, .inl ⟨SqL.of (w19.get (pre := [])), fun p22 n22 => ?_⟩⟩
    obtain ⟨F22, s22, w22, q22⟩ := w19.frzE (o := .tup us19) n22
    replace h4_0 := A2.mono s22 h4_0
    replace h_ties := A2.mono s22 h_ties
    replace h19 := A2.mono s22 h19
    replace h21 := A2.mono s22 h21
    replace sF := sF.trans s22
    have w23 : W F22 _ ((p3, .lst vs4_0) :: (a_ties, .lst vs_ties) :: os) := w22.drop (pre := [])
    have w24 : W F22 _ ((a_ties, .lst vs_ties) :: os) := w23.drop (pre := [])
    exact (post_ok hm) _ _ _ w24 sF (rep_tup q22 h21)
def sp_made_web (K : Fg) : Sp := fun vs H Q E => ∃ (F : Hp) (os : List (Addr × HO)) (x_many : Int) (a_ties : Addr) (vs_ties : List V) (x_ties : (List (Int × Int))), vs = [.int x_many, .ref a_ties] ∧ W F H ((a_ties, .lst vs_ties) :: os) ∧ A2 (rep K F) vs_ties x_ties ∧ Post (made_web x_many x_ties) (fun (y : (Int × (Tup (Int × Int)))) => ∀ (v : V) (F' H' : Hp), W F' H' ((a_ties, .lst vs_ties) :: os) → Same F F' → rep K F' v (y : (Int × (Tup (Int × Int)))) → Q v H') noX
theorem sc_made_web : FnScope ["many", "ties", "web", "fars", "place"] ["many", "ties"] (defScope s_made_web) := ⟨rfl, rfl, rfl, by decide +kernel, rfl, by decide +kernel, by decide +kernel⟩
theorem ok_made_web (T : Tx K mg A FD) : FnOk P w K mg base CX0 2 (A 13) (FD 13) ["many", "ties"] (sp_made_web K) := by
  refine T.d13.fn.ok sc_made_web (fun vs H Q E h => ?_) (fun cdv Ar outer s H vs Q E hr h => ?_)
  · obtain ⟨F, os, x_many, a_ties, vs_ties, x_ties, rfl, _⟩ := h
    rfl
  · obtain ⟨F0, os, x_many, a_ties, vs_ties, x_ties, rfl, w0, h_ties, hm⟩ := h
    have sF : Same F0 F0 := Same.refl _
    refine ⟨_, (pss_cons (ps_if (pt_not (pt_chain op_le op_le pe_int (pv 0) (pe_globI (by rfl) T.c_MOST_PLACES))) (pss_one ps_absurd) pss_nil) (pss_cons (ps_set (i := 2) sc_made_web.nd rfl (Or.inl rfl) (pe_tup (pa_cons (pv 0) (pa_cons (pe_call (ok_sorted_ties T) (hr.mono (by decide)) (by rfl) T.d12.mg T.d12.fn.kp T.d12.b .nil pass0 (pa_cons (pv 0) (pa_cons (pv 1) pa_nil))) pa_nil)))) (pss_cons (ps_set (i := 3) sc_made_web.nd rfl (Or.inl rfl) (pe_call (ok_fars_by T) (hr.mono (by decide)) (by rfl) T.d11.mg T.d11.fn.kp T.d11.b .nil pass0 (pa_cons (pe_call (ok_near_lists T) (hr.mono (by decide)) (by rfl) T.d9.mg T.d9.fn.kp T.d9.b .nil pass0 (pa_cons (pv 2) pa_nil)) (pa_cons pe_int pa_nil)))) (pss_cons (ps_for PassesOwn.never rfl (pi_range1 (by rfl) T.n_range (pa_cons (pv 0) pa_nil)) (pg_name (i := 4) sc_made_web.nd rfl (Or.inl rfl)) (pss_one (ps_if (pt_cmpR op_isN2 (pe_ix (ix_listK (K := K) rfl) (pv 3) (pv 4) (fun _ _ => rfl)) pe_non (nomark _)) (pss_one ps_absurd) pss_nil))) (pss_one (ps_ret (pv 2))))))), ?_⟩
    try dsimp only
    refine stepSeq (stepIf ?_)
    refine stepNot ?_
    refine cutT (fun c H' => c = ((decide ((1 : Int) ≤ x_many)) && (decide (x_many ≤ (60 : Int)))) ∧ ∃ F', Same F0 F' ∧ W F' H' ((a_ties, .lst vs_ties) :: os)) (fun Q2 q2 => ?_) (fun c2 H2 hc2 => ?_)
    · -- the ways
      refine ⟨_, rfl, _, _, rfl, rfl, _, rfl, ?_⟩
      refine ifB (fun k3 => ?_) (fun k3 => ?_)
      · skip
        exact ⟨_, _, rfl, rfl, _, rfl, q2 _ _ ⟨(by first | rfl | exact absurd k3 (by decide) | (simp [k3]; done) | ((try simp only [Bool.not_eq_true] at k3); simp only [k3, Bool.true_or, Bool.false_or, Bool.or_false, Bool.or_true, Bool.true_and, Bool.false_and, Bool.and_true, Bool.and_false])), _, Same.refl _, w0⟩⟩
      · skip
        exact ⟨_, rfl, q2 _ _ ⟨(by first | rfl | exact absurd k3 (by decide) | (simp [k3]; done) | ((try simp only [Bool.not_eq_true] at k3); simp only [k3, Bool.true_or, Bool.false_or, Bool.or_false, Bool.or_true, Bool.true_and, Bool.false_and, Bool.and_true, Bool.and_false])), _, Same.refl _, w0⟩⟩
    obtain ⟨rfl, F2, s2, w2⟩ := hc2
    replace h_ties := A2.mono s2 h_ties
    replace sF := sF.trans s2
    refine post_ite hm (fun k6 hm => ?_) (fun k6 hm => ?_)
    · skip
      try dsimp only
      exact hm
    · skip
      refine ⟨_, rfl, _, rfl, _, rfl, _, _, _, _, _, _, rfl, w2, h_ties, ?_⟩
      refine (post_bind hm).mono (fun y7 hm v7 F7 H7 w7 s7 r7 => ?_) (fun _ z => z)
      replace h_ties := A2.mono s7 h_ties
      replace sF := sF.trans s7
      obtain ⟨a8, vs8, rfl, q8, h8⟩ := r7
      refine ⟨(by show 2 ≤ sizeLine; decide), fun p9 n9 => ?_⟩
      obtain ⟨F9, s9, w9, q9⟩ := w7.frzE (o := .tup [(.int x_many), (.ref a8)]) n9
      replace h_ties := A2.mono s9 h_ties
      replace q8 := s9 _ _ q8
      replace h8 := A2.mono s9 h8
      replace sF := sF.trans s9
      refine ⟨_, rfl, _, _, _, ((x_many, y7) : (Int × (Tup (Int × Int)))), rfl, w9, (rep_pair q9 rep_i (rep_tup q8 h8)), ?_⟩
      refine (post_bind hm).mono (fun y10 hm v10 F10 H10 w10 s10 r10 => ?_) (fun _ z => z)
      replace q9 := s10 _ _ q9
      replace h8 := A2.mono s10 h8
      replace q8 := s10 _ _ q8
      replace h_ties := A2.mono s10 h_ties
      replace sF := sF.trans s10
      obtain ⟨a11, vs11, rfl, q11, h11⟩ := r10
      refine ⟨_, _, _, (y10 : (List (List Int))), _, rfl, w10, (rep_lst q11 h11), ?_⟩
      refine (post_bind hm).mono (fun y12 hm p12 us12 F12 H12 w12 s12 g12 => ?_) (fun _ z => z)
      replace q9 := s12 _ _ q9
      replace h8 := A2.mono s12 h8
      replace q8 := s12 _ _ q8
      replace h_ties := A2.mono s12 h_ties
      replace q11 := s12 _ _ q11
      replace h11 := A2.mono s12 h11
      replace sF := sF.trans s12
      obtain ⟨F14, s14, w14, q14⟩ : ∃ F', Same F12 F' ∧ W F' _ ((a_ties, .lst vs_ties) :: os) ∧ F' p12 = some (.lst us12) := w12.freezeE (pre := [])
      replace q9 := s14 _ _ q9
      replace h8 := A2.mono s14 h8
      replace q8 := s14 _ _ q8
      replace h_ties := A2.mono s14 h_ties
      replace q11 := s14 _ _ q11
      replace h11 := A2.mono s14 h11
      replace g12 := A2.mono s14 g12
      replace sF := sF.trans s14
      obtain ⟨c16, hm⟩ := pb_rng hm
      refine ⟨_, rfl, _, rfl, c16.2.2.1, c16.2.2.2, ?_⟩
      refine forS (tw_rng0 (j := x_many)) hm (fun (g15 : Unit) σ H' => ∃ (F' : Hp) (o15_4 : Option V), σ = [some (.int x_many), some (.ref a_ties), some (.ref p9), some (.ref p12), o15_4] ∧ Same F14 F' ∧ W F' H' ((a_ties, .lst vs_ties) :: os)) ⟨_, _, rfl, Same.refl _, w14⟩ (fun _ _ _ _ => trivial) ?_ ?_
      · -- a turn
        intro b15 g15 x15 σ15 H15 H15' N15 P15 hI hy hN15 hm
        obtain ⟨F15, o15_4, rfl, s15, w15⟩ := hI
        replace q9 := s15 _ _ q9
        replace h8 := A2.mono s15 h8
        replace q8 := s15 _ _ q8
        replace g12 := A2.mono s15 g12
        replace q14 := s15 _ _ q14
        replace h_ties := A2.mono s15 h_ties
        replace sF := sF.trans s15
        obtain ⟨rfl, rfl⟩ := hy
        obtain ⟨t17, e17, hm⟩ := pb_get hm
        obtain ⟨u17, f17, r17⟩ := A2.at g12 e17
        refine ⟨_, rfl, _, rfl, _, _, _, _, rfl, rfl, SqL.of (w15.same _ _ q14), f17, rfl, _, isN_eq r17, _, rfl, ?_⟩
        refine post_ite hm (fun k19 hm => ?_) (fun k19 hm => ?_)
        · skip
          try dsimp only
          exact hm
        · skip
          exact hN15 _ (post_ok hm) _ _ ⟨_, _, rfl, s15, w15⟩
      intro g15 σ15 H15 hI hm
      obtain ⟨F15, o15_4, rfl, s15, w15⟩ := hI
      replace q9 := s15 _ _ q9
      replace h8 := A2.mono s15 h8
      replace q8 := s15 _ _ q8
      replace g12 := A2.mono s15 g12
      replace q14 := s15 _ _ q14
      replace h_ties := A2.mono s15 h_ties
      replace sF := sF.trans s15
      exact ⟨_, rfl, (post_ok hm) _ _ _ w15 sF (rep_pair q9 rep_i (rep_tup q8 h8))⟩
def sp_place_asked (K : Fg) : Sp := fun vs H Q E => ∃ (F : Hp) (os : List (Addr × HO)) (v_web : V) (x_web : (Int × (Tup (Int × Int)))) (x_place : Int), vs = [v_web, .int x_place] ∧ W F H (os) ∧ rep K F v_web x_web ∧ Post (place_asked x_web x_place) (Ret K F os Q) noX
theorem sc_place_asked : FnScope ["web", "place"] ["web", "place"] (defScope s_place_asked) := ⟨rfl, rfl, rfl, by decide +kernel, rfl, by decide +kernel, by decide +kernel⟩
theorem ok_place_asked (T : Tx K mg A FD) : FnOk P w K mg base CX0 1 (A 14) (FD 14) ["web", "place"] (sp_place_asked K) := by
  refine T.d14.fn.ok sc_place_asked (fun vs H Q E h => ?_) (fun cdv Ar outer s H vs Q E hr h => ?_)
  · obtain ⟨F, os, v_web, x_web, x_place, rfl, _⟩ := h
    rfl
  · obtain ⟨F0, os, v_web, x_web, x_place, rfl, w0, r_web, hm⟩ := h
    have sF : Same F0 F0 := Same.refl _
    obtain ⟨a1, u1, z1, rfl, q1, r1a, r1b⟩ := r_web
    obtain rfl : u1 = V.int x_web.1 := r1a
    obtain ⟨a2, vs2, rfl, q2, h2⟩ := r1b
    refine ⟨_, (pss_one (ps_if (pt_not (pt_chain op_le op_lt pe_int (pv 1) (pe_ix (ix_tupK (K := K) rfl) (pv 0) pe_int (fun _ _ => rfl)))) (pss_one ps_absurd) pss_nil)), ?_⟩
    try dsimp only
    refine stepIf ?_
    refine stepNot ?_
    refine cutT (fun c H' => c = ((decide ((0 : Int) ≤ x_place)) && (decide (x_place < x_web.1))) ∧ ∃ F', Same F0 F' ∧ W F' H' (os)) (fun Q3 q3 => ?_) (fun c3 H3 hc3 => ?_)
    · -- the ways
      refine ⟨_, rfl, _, _, rfl, rfl, _, rfl, ?_⟩
      refine ifB (fun k4 => ?_) (fun k4 => ?_)
      · skip
        exact ⟨_, rfl, _, _, _, _, rfl, rfl, SqT.of (w0.same _ _ q1), rfl, _, _, rfl, rfl, _, rfl, q3 _ _ ⟨(by first | rfl | exact absurd k4 (by decide) | (simp [k4]; done) | ((try simp only [Bool.not_eq_true] at k4); simp only [k4, Bool.true_or, Bool.false_or, Bool.or_false, Bool.or_true, Bool.true_and, Bool.false_and, Bool.and_true, Bool.and_false])), _, Same.refl _, w0⟩⟩
      · skip
        exact ⟨_, rfl, q3 _ _ ⟨(by first | rfl | exact absurd k4 (by decide) | (simp [k4]; done) | ((try simp only [Bool.not_eq_true] at k4); simp only [k4, Bool.true_or, Bool.false_or, Bool.or_false, Bool.or_true, Bool.true_and, Bool.false_and, Bool.and_true, Bool.and_false])), _, Same.refl _, w0⟩⟩
    obtain ⟨rfl, F3, s3, w3⟩ := hc3
    replace q1 := s3 _ _ q1
    replace q2 := s3 _ _ q2
    replace h2 := A2.mono s3 h2
    replace sF := sF.trans s3
    refine post_ite hm (fun k7 hm => ?_) (fun k7 hm => ?_)
    · skip
      try dsimp only
      exact hm
    · skip
      exact (post_ok hm) _ _ _ w3 sF rep_n
def sp_neighbours_of (K : Fg) : Sp := fun vs H Q E => ∃ (F : Hp) (os : List (Addr × HO)) (v_web : V) (x_web : (Int × (Tup (Int × Int)))) (x_place : Int), vs = [v_web, .int x_place] ∧ W F H (os) ∧ rep K F v_web x_web ∧ Post (neighbours_of x_web x_place) (Ret K F os Q) noX
theorem sc_neighbours_of : FnScope ["web", "place"] ["web", "place"] (defScope s_neighbours_of) := ⟨rfl, rfl, rfl, by decide +kernel, rfl, by decide +kernel, by decide +kernel⟩
theorem ok_neighbours_of (T : Tx K mg A FD) : FnOk P w K mg base CX0 2 (A 15) (FD 15) ["web", "place"] (sp_neighbours_of K) := by
  refine T.d15.fn.ok sc_neighbours_of (fun vs H Q E h => ?_) (fun cdv Ar outer s H vs Q E hr h => ?_)
  · obtain ⟨F, os, v_web, x_web, x_place, rfl, _⟩ := h
    rfl
  · obtain ⟨F0, os, v_web, x_web, x_place, rfl, w0, r_web, hm⟩ := h
    have sF : Same F0 F0 := Same.refl _
    obtain ⟨a1, u1, z1, rfl, q1, r1a, r1b⟩ := r_web
    obtain rfl : u1 = V.int x_web.1 := r1a
    obtain ⟨a2, vs2, rfl, q2, h2⟩ := r1b
    refine ⟨_, (pss_cons (ps_expr (pe_call (ok_place_asked T) (hr.mono (by decide)) (by rfl) T.d14.mg T.d14.fn.kp T.d14.b .nil pass0 (pa_cons (pv 0) (pa_cons (pv 1) pa_nil)))) (pss_one (ps_ret (pe_ix (ix_listK (K := K) rfl) (pe_call (ok_near_lists T) (hr.mono (by decide)) (by rfl) T.d9.mg T.d9.fn.kp T.d9.b .nil pass0 (pa_cons (pv 0) pa_nil)) (pv 1) (fun _ _ => rfl))))), ?_⟩
    refine ⟨_, rfl, _, rfl, _, _, _, (x_web : (Int × (Tup (Int × Int)))), _, rfl, w0, (rep_pair q1 rep_i (rep_tup q2 h2)), ?_⟩
    refine (post_bind hm).mono (fun y3 hm v3 F3 H3 w3 s3 r3 => ?_) (fun _ z => z)
    replace q1 := s3 _ _ q1
    replace q2 := s3 _ _ q2
    replace h2 := A2.mono s3 h2
    replace sF := sF.trans s3
    obtain rfl : v3 = V.non := r3
    refine ⟨_, rfl, _, _, _, (x_web : (Int × (Tup (Int × Int)))), rfl, w3, (rep_pair q1 rep_i (rep_tup q2 h2)), ?_⟩
    refine (post_bind hm).mono (fun y4 hm v4 F4 H4 w4 s4 r4 => ?_) (fun _ z => z)
    replace q1 := s4 _ _ q1
    replace h2 := A2.mono s4 h2
    replace q2 := s4 _ _ q2
    replace sF := sF.trans s4
    obtain ⟨a5, vs5, rfl, q5, h5⟩ := r4
    obtain ⟨t6, e6, hm⟩ := pb_get hm
    obtain ⟨u6, f6, r6⟩ := A2.at h5 e6
    obtain ⟨a7, vs7, rfl, q7, h7⟩ := r6
    exact ⟨_, rfl, _, _, _, _, rfl, rfl, SqL.of (w4.same _ _ q5), f6, (post_ok hm) _ _ _ w4 sF (rep_lst q7 h7)⟩
def sp_fars_from (K : Fg) : Sp := fun vs H Q E => ∃ (F : Hp) (os : List (Addr × HO)) (v_web : V) (x_web : (Int × (Tup (Int × Int)))) (x_place : Int), vs = [v_web, .int x_place] ∧ W F H (os) ∧ rep K F v_web x_web ∧ Post (fars_from x_web x_place) (RetL K F os Q) noX
theorem sc_fars_from : FnScope ["web", "place"] ["web", "place"] (defScope s_fars_from) := ⟨rfl, rfl, rfl, by decide +kernel, rfl, by decide +kernel, by decide +kernel⟩
theorem ok_fars_from (T : Tx K mg A FD) : FnOk P w K mg base CX0 2 (A 16) (FD 16) ["web", "place"] (sp_fars_from K) := by
  refine T.d16.fn.ok sc_fars_from (fun vs H Q E h => ?_) (fun cdv Ar outer s H vs Q E hr h => ?_)
  · obtain ⟨F, os, v_web, x_web, x_place, rfl, _⟩ := h
    rfl
  · obtain ⟨F0, os, v_web, x_web, x_place, rfl, w0, r_web, hm⟩ := h
    have sF : Same F0 F0 := Same.refl _
    obtain ⟨a1, u1, z1, rfl, q1, r1a, r1b⟩ := r_web
    obtain rfl : u1 = V.int x_web.1 := r1a
    obtain ⟨a2, vs2, rfl, q2, h2⟩ := r1b
    refine ⟨_, (pss_cons (ps_expr (pe_call (ok_place_asked T) (hr.mono (by decide)) (by rfl) T.d14.mg T.d14.fn.kp T.d14.b .nil pass0 (pa_cons (pv 0) (pa_cons (pv 1) pa_nil)))) (pss_one (ps_ret (pe_call (ok_fars_by T) (hr.mono (by decide)) (by rfl) T.d11.mg T.d11.fn.kp T.d11.b .nil pass0 (pa_cons (pe_call (ok_near_lists T) (hr.mono (by decide)) (by rfl) T.d9.mg T.d9.fn.kp T.d9.b .nil pass0 (pa_cons (pv 0) pa_nil)) (pa_cons (pv 1) pa_nil)))))), ?_⟩
    refine ⟨_, rfl, _, rfl, _, _, _, (x_web : (Int × (Tup (Int × Int)))), _, rfl, w0, (rep_pair q1 rep_i (rep_tup q2 h2)), ?_⟩
    refine (post_bind hm).mono (fun y3 hm v3 F3 H3 w3 s3 r3 => ?_) (fun _ z => z)
    replace q1 := s3 _ _ q1
    replace q2 := s3 _ _ q2
    replace h2 := A2.mono s3 h2
    replace sF := sF.trans s3
    obtain rfl : v3 = V.non := r3
    refine ⟨_, rfl, _, _, _, (x_web : (Int × (Tup (Int × Int)))), rfl, w3, (rep_pair q1 rep_i (rep_tup q2 h2)), ?_⟩
    refine (post_bind hm).mono (fun y4 hm v4 F4 H4 w4 s4 r4 => ?_) (fun _ z => z)
    replace q1 := s4 _ _ q1
    replace h2 := A2.mono s4 h2
    replace q2 := s4 _ _ q2
    replace sF := sF.trans s4
    obtain ⟨a5, vs5, rfl, q5, h5⟩ := r4
    refine ⟨_, rfl, _, _, _, (y4 : (List (List Int))), _, rfl, w4, (rep_lst q5 h5), ?_⟩
    refine (post_bind hm).mono (fun y6 hm p6 us6 F6 H6 w6 s6 g6 => ?_) (fun _ z => z)
    replace q1 := s6 _ _ q1
    replace h2 := A2.mono s6 h2
    replace q2 := s6 _ _ q2
    replace q5 := s6 _ _ q5
    replace h5 := A2.mono s6 h5
    replace sF := sF.trans s6
    obtain ⟨l8, e8, hm⟩ := pb_allS hm
    have h8 : A2 (rep K F6) us6 l8 := A2.unsome (e8 ▸ g6)
    exact (post_ok hm) _ _ _ _ w6 sF h8
def sp_table_of (K : Fg) : Sp := fun vs H Q E => ∃ (F : Hp) (os : List (Addr × HO)) (v_web : V) (x_web : (Int × (Tup (Int × Int)))), vs = [v_web] ∧ W F H (os) ∧ rep K F v_web x_web ∧ Post (table_of x_web) (Ret K F os Q) noX
theorem sc_table_of : FnScope ["web", "place"] ["web"] (defScope s_table_of) := ⟨rfl, rfl, rfl, by decide +kernel, rfl, by decide +kernel, by decide +kernel⟩
theorem ok_table_of (T : Tx K mg A FD) : FnOk P w K mg base CX0 3 (A 18) (FD 18) ["web"] (sp_table_of K) := by
  refine T.d18.fn.ok sc_table_of (fun vs H Q E h => ?_) (fun cdv Ar outer s H vs Q E hr h => ?_)
  · obtain ⟨F, os, v_web, x_web, rfl, _⟩ := h
    rfl
  · obtain ⟨F0, os, v_web, x_web, rfl, w0, r_web, hm⟩ := h
    have sF : Same F0 F0 := Same.refl _
    obtain ⟨a1, u1, z1, rfl, q1, r1a, r1b⟩ := r_web
    obtain rfl : u1 = V.int x_web.1 := r1a
    obtain ⟨a2, vs2, rfl, q2, h2⟩ := r1b
    refine ⟨_, (pss_one (ps_ret (pe_lc (own := [("place", 1)]) (g := gName 1) (by rfl) sc_table_of.nd (pi_range1 (by rfl) T.n_range (pa_cons (pe_ix (ix_tupK (K := K) rfl) (pv 0) pe_int (fun _ _ => rfl)) pa_nil)) (blkOk_by (own := [("place", 1)]) (N := ["web", "place"]) (sc := defScope s_table_of) (by decide +kernel)) (fun _ _ _ _ _ => (pg_name (i := 1) sc_table_of.nd rfl (Or.inl rfl))) (fun _ _ _ _ _ => pts_nil) (fun _ _ _ _ _ => (pe_call (ok_fars_from T) (hr.mono (by decide)) (by rfl) T.d16.mg T.d16.fn.kp T.d16.b .nil pass0 (pa_cons (pv 0) (pa_cons (pv 1) pa_nil))))))), ?_⟩
    obtain ⟨c3, hm⟩ := pb_rng hm
    refine ⟨_, rfl, _, _, _, _, rfl, rfl, SqT.of (w0.same _ _ q1), rfl, _, rfl, c3.2.2.1, c3.2.2.2, fun D4 nD4 => ?_⟩
    refine lcM (K := K) (tw_rng0 (j := x_web.1)) hm w0 nD4 (fun F' H' acc s w => trivial) ?_ ?_
    · -- one turn
      intro b4 x4 F4 H4 H4' acc4 N4 P4 s4 w4 y4 hN4 hm
      replace q1 := s4 _ _ q1
      replace q2 := s4 _ _ q2
      replace h2 := A2.mono s4 h2
      replace sF := sF.trans s4
      obtain ⟨rfl, rfl⟩ := y4
      refine ⟨rfl, _, rfl, _, rfl, _, _, _, (x_web : (Int × (Tup (Int × Int)))), _, rfl, w4, (rep_pair q1 rep_i (rep_tup q2 h2)), ?_⟩
      refine (post_bind hm).mono (fun y6 hm p6 us6 F6 H6 w6 s6 g6 => ?_) (fun _ z => z)
      replace q1 := s6 _ _ q1
      replace q2 := s6 _ _ q2
      replace h2 := A2.mono s6 h2
      replace sF := sF.trans s6
      obtain ⟨F8, s8, w8, q8⟩ : ∃ F', Same F6 F' ∧ W F' _ ((D4, .lst acc4) :: os) ∧ F' p6 = some (.lst us6) := w6.freezeE (pre := [])
      replace q1 := s8 _ _ q1
      replace q2 := s8 _ _ q2
      replace h2 := A2.mono s8 h2
      replace g6 := A2.mono s8 g6
      replace sF := sF.trans s8
      exact hN4 _ (post_ok hm) _ _ _ w8 (s6.trans s8) (rep_lst q8 g6)
    intro us4 F4 H4 ys4 s4 w4 gg4 hm
    replace q1 := s4 _ _ q1
    replace q2 := s4 _ _ q2
    replace h2 := A2.mono s4 h2
    replace sF := sF.trans s4
    obtain ⟨F10, s10, w10, q10⟩ : ∃ F', Same F4 F' ∧ W F' _ (os) ∧ F' D4 = some (.lst us4) := w4.freezeE (pre := [])
    replace q1 := s10 _ _ q1
    replace q2 := s10 _ _ q2
    replace h2 := A2.mono s10 h2
    replace gg4 := A2.mono s10 gg4
    replace sF := sF.trans s10
    exact (post_ok hm) _ _ _ w10 sF (rep_lst q10 gg4)
def sp_things_of (K : Fg) : Sp := fun vs H Q E => ∃ (F : Hp) (os : List (Addr × HO)) (v_web : V) (x_web : (Int × (Tup (Int × Int)))) (x_kind : Str), vs = [v_web, .str x_kind] ∧ W F H (os) ∧ rep K F v_web x_web ∧ Post (things_of x_web x_kind) (RetL K F os Q) noX
theorem sc_things_of : FnScope ["web", "kind", "places"] ["web", "kind"] (defScope s_things_of) := ⟨rfl, rfl, rfl, by decide +kernel, rfl, by decide +kernel, by decide +kernel⟩
theorem ok_things_of (T : Tx K mg A FD) : FnOk P w K mg base CX0 1 (A 19) (FD 19) ["web", "kind"] (sp_things_of K) := by
  refine T.d19.fn.ok sc_things_of (fun vs H Q E h => ?_) (fun cdv Ar outer s H vs Q E hr h => ?_)
  · obtain ⟨F, os, v_web, x_web, x_kind, rfl, _⟩ := h
    rfl
  · obtain ⟨F0, os, v_web, x_web, x_kind, rfl, w0, r_web, hm⟩ := h
    have sF : Same F0 F0 := Same.refl _
    obtain ⟨a1, u1, z1, rfl, q1, r1a, r1b⟩ := r_web
    obtain rfl : u1 = V.int x_web.1 := r1a
    obtain ⟨a2, vs2, rfl, q2, h2⟩ := r1b
    refine ⟨_, (pss_cons (ps_set (i := 2) sc_things_of.nd rfl (Or.inl rfl) (pe_listRg rfl (by rfl) T.n_list (prg_1 (by rfl) T.n_range (pe_ix (ix_tupK (K := K) rfl) (pv 0) pe_int (fun _ _ => rfl))))) (pss_cons (ps_if (pt_cmpR op_eqS (pv 1) pe_str (nomark _)) (pss_one (ps_ret (pv 2))) pss_nil) (pss_cons (ps_if (pt_cmpR op_eqS (pv 1) pe_str (nomark _)) (pss_one (ps_ret (pe_callTy (call_list_ofK (K := K) rfl) (by rfl) T.n_list (by decide +kernel) (pa_cons (pe_ix (ix_tupK (K := K) rfl) (pv 0) pe_int (fun _ _ => rfl)) pa_nil)))) pss_nil) (pss_one (ps_ret (pe_op op_cat (pv 2) (pe_callTy (call_list_ofK (K := K) rfl) (by rfl) T.n_list (by decide +kernel) (pa_cons (pe_ix (ix_tupK (K := K) rfl) (pv 0) pe_int (fun _ _ => rfl)) pa_nil)))))))), ?_⟩
    obtain ⟨l3, z3, e3, hm⟩ := pb_lrng hm
    have h3 : A2 (rep K F0) (rgV 0 x_web.1) l3 := by rw [e3, rgV_eq]; exact A2.of_ints
    refine ⟨_, rfl, _, _, _, _, rfl, rfl, SqT.of (w0.same _ _ q1), rfl, _, rfl, z3, fun p4 n4 => ?_⟩
    have w4 : W F0 _ ((p4, .lst (rgV 0 x_web.1)) :: os) := w0.new n4
    refine ⟨_, rfl, _, _, rfl, rfl, _, rfl, ?_⟩
    refine post_ite hm (fun k5 hm => ?_) (fun k5 hm => ?_)
    · skip
      have h6 : A2 (rep K F0) (rgV 0 x_web.1) (mkpl l3) := A2.pl h3
      exact ⟨_, rfl, (post_ok hm) _ _ _ _ w4 sF h6⟩
    · skip
      refine ⟨_, rfl, _, _, rfl, rfl, _, rfl, ?_⟩
      refine post_ite hm (fun k7 hm => ?_) (fun k7 hm => ?_)
      · skip
        have h8 : A2 (rep K F0) vs2 x_web.2.l := h2
        refine ⟨_, rfl, _, _, _, _, rfl, rfl, SqT.of (w4.same _ _ q1), rfl, _, _, rfl, .inr (SqT.of (w4.same _ _ q2)), fun p9 n9 => ?_⟩
        have w9 : W F0 _ ((p9, .lst vs2) :: (p4, .lst (rgV 0 x_web.1)) :: os) := w4.new n9
        have h10 : A2 (rep K F0) vs2 (mkti x_web.2.l) := A2.ti h8
        have w11 : W F0 _ ((p9, .lst vs2) :: os) := w9.drop (pre := [_])
        exact (post_ok hm) _ _ _ _ w11 sF h10
      · skip
        have h12 : A2 (rep K F0) vs2 x_web.2.l := h2
        refine ⟨_, rfl, _, rfl, _, _, _, _, rfl, rfl, SqT.of (w4.same _ _ q1), rfl, _, _, rfl, .inr (SqT.of (w4.same _ _ q2)), fun p13 n13 => ?_⟩
        have w13 : W F0 _ ((p13, .lst vs2) :: (p4, .lst (rgV 0 x_web.1)) :: os) := w4.new n13
        have h14 : A2 (rep K F0) (rgV 0 x_web.1) (mkpl l3) := A2.pl h3
        have h15 : A2 (rep K F0) vs2 (mkti x_web.2.l) := A2.ti h12
        obtain ⟨l16, z16, e16, hm⟩ := pn_extend hm
        have h16 : A2 (rep K F0) ((rgV 0 x_web.1) ++ vs2) l16 := e16 ▸ A2.append h14 h15
        refine ⟨_, _, _, _, rfl, rfl, (w13.get (pre := [_])), (w13.get (pre := [])), (A2.le2 h14 h15 z16), fun p17 n17 => ?_⟩
        have w17 : W F0 _ ((p17, .lst ((rgV 0 x_web.1) ++ vs2)) :: (p13, .lst vs2) :: (p4, .lst (rgV 0 x_web.1)) :: os) := w13.new n17
        have w18 : W F0 _ ((p17, .lst ((rgV 0 x_web.1) ++ vs2)) :: (p4, .lst (rgV 0 x_web.1)) :: os) := w17.drop (pre := [_])
        have w19 : W F0 _ ((p17, .lst ((rgV 0 x_web.1) ++ vs2)) :: os) := w18.drop (pre := [_])
        exact (post_ok hm) _ _ _ _ w19 sF h16
def sp_looks_asked (K : Fg) : Sp := fun vs H Q E => ∃ (F : Hp) (os : List (Addr × HO)) (v_web : V) (x_web : (Int × (Tup (Int × Int)))) (v_looks : V) (x_looks : (List Int)), vs = [v_web, v_looks] ∧ W F H (os) ∧ rep K F v_web x_web ∧ rep K F v_looks x_looks ∧ Post (looks_asked x_web x_looks) (Ret K F os Q) noX
theorem sc_looks_asked : FnScope ["web", "looks", "at", "look"] ["web", "looks"] (defScope s_looks_asked) := ⟨rfl, rfl, rfl, by decide +kernel, rfl, by decide +kernel, by decide +kernel⟩
theorem ok_looks_asked (T : Tx K mg A FD) : FnOk P w K mg base CX0 1 (A 20) (FD 20) ["web", "looks"] (sp_looks_asked K) := by
  refine T.d20.fn.ok sc_looks_asked (fun vs H Q E h => ?_) (fun cdv Ar outer s H vs Q E hr h => ?_)
  · obtain ⟨F, os, v_web, x_web, v_looks, x_looks, rfl, _⟩ := h
    rfl
  · obtain ⟨F0, os, v_web, x_web, v_looks, x_looks, rfl, w0, r_web, r_looks, hm⟩ := h
    have sF : Same F0 F0 := Same.refl _
    obtain ⟨a1, u1, z1, rfl, q1, r1a, r1b⟩ := r_web
    obtain rfl : u1 = V.int x_web.1 := r1a
    obtain ⟨a2, vs2, rfl, q2, h2⟩ := r1b
    obtain ⟨a3, vs3, rfl, q3, h3⟩ := r_looks
    refine ⟨_, (pss_one (ps_for PassesOwn.never rfl (pi_k (K := K) (wi := fun K => iEnum K _) rfl (pi_enum (by rfl) T.n_enumerate (pa_cons (pv 1) pa_nil))) (pg_k (K := K) (t := fun K => gTup K 2 _) rfl (pg_tup (n := 2) rfl (pgs_cons (pg_name (i := 2) sc_looks_asked.nd rfl (Or.inl rfl)) (pgs_cons (pg_name (i := 3) sc_looks_asked.nd rfl (Or.inl rfl)) pgs_nil)))) (pss_one (ps_if (PW.pt (pw_or (pt_not (pt_chain op_le op_lt pe_int (pv 3) (pe_ix (ix_tupK (K := K) rfl) (pv 0) pe_int (fun _ _ => rfl)))) (pw_or1 (PW.pt (pw_and (pt_cmp (pc_gt (pv 2) pe_int)) (pw_and1 (pt_cmp (pc_le (pv 3) (pe_ix (ix_listK (K := K) rfl) (pv 1) (pe_op op_sub (pv 2) pe_int) (fun _ _ => rfl)))))))))) (pss_one ps_absurd) pss_nil)))), ?_⟩
    refine ⟨_, rfl, _, _, rfl, SqL.of (w0.same _ _ q3), ?_⟩
    refine forS (tw_enum (a := a3) h3) hm (fun (g4 : Unit) σ H' => ∃ (F' : Hp) (o4_2 : Option V) (o4_3 : Option V), σ = [some (.ref a1), some (.ref a3), o4_2, o4_3] ∧ Same F0 F' ∧ W F' H' (os)) ⟨_, _, _, rfl, Same.refl _, w0⟩ (fun g σ H' hI => by obtain ⟨F', _, _, _, s, w⟩ := hI; exact SqL.of (w.same _ _ (s _ _ q3))) ?_ ?_
    · -- a turn
      intro b4 g4 x4 σ4 H4 H4' N4 P4 hI hy hN4 hm
      obtain ⟨F4, o4_2, o4_3, rfl, s4, w4⟩ := hI
      replace q1 := s4 _ _ q1
      replace q2 := s4 _ _ q2
      replace h2 := A2.mono s4 h2
      replace q3 := s4 _ _ q3
      replace h3 := A2.mono s4 h3
      replace sF := sF.trans s4
      obtain ⟨T5, u5, rfl, n5, rfl, r5⟩ := hy
      obtain ⟨F5, s5, w5, q5⟩ := w4.frzE (o := .tup [.int b4.1, u5]) n5
      replace r5 := Rep.mono s4 r5
      replace q1 := s5 _ _ q1
      replace q2 := s5 _ _ q2
      replace h2 := A2.mono s5 h2
      replace q3 := s5 _ _ q3
      replace h3 := A2.mono s5 h3
      replace sF := sF.trans s5
      replace r5 := Rep.mono s5 r5
      obtain rfl : u5 = V.int b4.2 := r5
      refine ⟨_, _, rfl, SqT.of (w5.same _ _ q5), rfl, _, _, rfl, _, _, rfl, rfl, ?_⟩
      try dsimp only
      refine stepIf ?_
      refine joinT hm (fun (j6 : Bool) c H' => c = j6 ∧ ∃ (F' : Hp), Same F5 F' ∧ W F' H' (os)) ?_ ?_
      · intro Q6 P6 q6 hm
        refine stepOr ?_
        refine stepNot ?_
        refine cutT (fun c H' => c = ((decide ((0 : Int) ≤ b4.2)) && (decide (b4.2 < x_web.1))) ∧ ∃ F', Same F5 F' ∧ W F' H' (os)) (fun Q7 q7 => ?_) (fun c7 H7 hc7 => ?_)
        · -- the ways
          refine ⟨_, rfl, _, _, rfl, rfl, _, rfl, ?_⟩
          refine ifB (fun k8 => ?_) (fun k8 => ?_)
          · skip
            exact ⟨_, rfl, _, _, _, _, rfl, rfl, SqT.of (w5.same _ _ q1), rfl, _, _, rfl, rfl, _, rfl, q7 _ _ ⟨(by first | rfl | exact absurd k8 (by decide) | (simp [k8]; done) | ((try simp only [Bool.not_eq_true] at k8); simp only [k8, Bool.true_or, Bool.false_or, Bool.or_false, Bool.or_true, Bool.true_and, Bool.false_and, Bool.and_true, Bool.and_false])), _, Same.refl _, w5⟩⟩
          · skip
            exact ⟨_, rfl, q7 _ _ ⟨(by first | rfl | exact absurd k8 (by decide) | (simp [k8]; done) | ((try simp only [Bool.not_eq_true] at k8); simp only [k8, Bool.true_or, Bool.false_or, Bool.or_false, Bool.or_true, Bool.true_and, Bool.false_and, Bool.and_true, Bool.and_false])), _, Same.refl _, w5⟩⟩
        obtain ⟨rfl, F7, s7, w7⟩ := hc7
        replace q1 := s7 _ _ q1
        replace h2 := A2.mono s7 h2
        replace q2 := s7 _ _ q2
        replace h3 := A2.mono s7 h3
        replace q3 := s7 _ _ q3
        replace sF := sF.trans s7
        refine post_ite hm (fun k11 hm => ?_) (fun k11 hm => ?_)
        · skip
          exact q6 _ (post_ok hm) _ _ ⟨rfl, _, s7, w7⟩
        · skip
          refine joinT hm (fun (j13 : Bool) c H' => c = j13 ∧ ∃ (F' : Hp), Same F7 F' ∧ W F' H' (os)) ?_ ?_
          · intro Q13 P13 q13 hm
            refine ⟨_, rfl, _, _, rfl, rfl, _, rfl, ?_⟩
            refine post_ite hm (fun k14 hm => ?_) (fun k14 hm => ?_)
            · skip
              obtain ⟨t15, e15, hm⟩ := pb_get hm
              obtain ⟨u15, f15, r15⟩ := A2.at h3 e15
              obtain rfl : u15 = V.int t15 := r15
              exact ⟨_, rfl, _, rfl, _, rfl, _, _, rfl, rfl, _, _, _, _, rfl, rfl, SqL.of (w7.same _ _ q3), f15, _, _, rfl, rfl, _, rfl, q13 _ (post_ok hm) _ _ ⟨rfl, _, Same.refl _, w7⟩⟩
            · skip
              exact q13 _ (post_ok hm) _ _ ⟨rfl, _, Same.refl _, w7⟩
          intro j13 c13 H13 hc13 hm
          obtain ⟨rfl, F13, s13, w13⟩ := hc13
          replace q1 := s13 _ _ q1
          replace h2 := A2.mono s13 h2
          replace q2 := s13 _ _ q2
          replace h3 := A2.mono s13 h3
          replace q3 := s13 _ _ q3
          replace sF := sF.trans s13
          exact q6 _ (post_ok hm) _ _ ⟨rfl, _, (s7.trans s13), w13⟩
      intro j6 c6 H6 hc6 hm
      obtain ⟨rfl, F6, s6, w6⟩ := hc6
      replace q1 := s6 _ _ q1
      replace h2 := A2.mono s6 h2
      replace q2 := s6 _ _ q2
      replace h3 := A2.mono s6 h3
      replace q3 := s6 _ _ q3
      replace sF := sF.trans s6
      refine post_ite hm (fun k19 hm => ?_) (fun k19 hm => ?_)
      · skip
        try dsimp only
        exact hm
      · skip
        exact hN4 _ (post_ok hm) _ _ ⟨_, _, _, rfl, (s4.trans (s5.trans s6)), w6⟩
    intro g4 σ4 H4 hI hm
    obtain ⟨F4, o4_2, o4_3, rfl, s4, w4⟩ := hI
    replace q1 := s4 _ _ q1
    replace q2 := s4 _ _ q2
    replace h2 := A2.mono s4 h2
    replace q3 := s4 _ _ q3
    replace h3 := A2.mono s4 h3
    replace sF := sF.trans s4
    exact (post_ok hm) _ _ _ w4 sF rep_n
def sp_thing_asked (K : Fg) : Sp := fun vs H Q E => ∃ (F : Hp) (os : List (Addr × HO)) (v_web : V) (x_web : (Int × (Tup (Int × Int)))) (v_thing : V) (x_thing : Thing), vs = [v_web, v_thing] ∧ W F H (os) ∧ rep K F v_web x_web ∧ rep K F v_thing x_thing ∧ Post (thing_asked x_web x_thing) (Ret K F os Q) noX
theorem sc_thing_asked : FnScope ["web", "thing"] ["web", "thing"] (defScope s_thing_asked) := ⟨rfl, rfl, rfl, by decide +kernel, rfl, by decide +kernel, by decide +kernel⟩
theorem ok_thing_asked (T : Tx K mg A FD) : FnOk P w K mg base CX0 1 (A 21) (FD 21) ["web", "thing"] (sp_thing_asked K) := by
  refine T.d21.fn.ok sc_thing_asked (fun vs H Q E h => ?_) (fun cdv Ar outer s H vs Q E hr h => ?_)
  · obtain ⟨F, os, v_web, x_web, v_thing, x_thing, rfl, _⟩ := h
    rfl
  · obtain ⟨F0, os, v_web, x_web, v_thing, x_thing, rfl, w0, r_web, r_thing, hm⟩ := h
    have sF : Same F0 F0 := Same.refl _
    obtain ⟨a1, u1, z1, rfl, q1, r1a, r1b⟩ := r_web
    obtain rfl : u1 = V.int x_web.1 := r1a
    obtain ⟨a2, vs2, rfl, q2, h2⟩ := r1b
    refine ⟨_, (pss_one (ps_if (pt_val (pe_callB (call_isB (K := K) rfl) (by rfl) T.n_isinstance (by decide +kernel) (pa_cons (pv 1) (pa_cons (pe_bltn (v := .ty "int") (by rfl) T.n_int (by decide +kernel) rfl) pa_nil)))) (pss_one (ps_if (pt_not (pt_chain op_le op_lt pe_int (pv 1) (pe_ix (ix_tupK (K := K) rfl) (pv 0) pe_int (fun _ _ => rfl)))) (pss_one ps_absurd) pss_nil)) (pss_one (ps_if (pt_cmpR (op_notInT (K := K) rfl (Int × Int) (by decide) (Room.units65 hr)) (pv 1) (pe_ix (ix_tupK (K := K) rfl) (pv 0) pe_int (fun _ _ => rfl)) (by rfl)) (pss_one ps_absurd) pss_nil)))), ?_⟩
    obtain ⟨a4, y4, k4⟩ := th_int w0.same r_thing
    refine ⟨_, rfl, _, _, _, x_thing.isPl, rfl, y4, k4, _, rfl, ?_⟩
    refine post_ite hm (fun k5 hm => ?_) (fun k5 hm => ?_)
    · skip
      obtain ⟨t6, e6, hm⟩ := pb_asPl hm
      have r6 : v_thing = V.int t6 := (show rep K F0 v_thing (Thing.pl t6) from e6 ▸ r_thing)
      subst r6
      try dsimp only
      refine stepIf ?_
      refine stepNot ?_
      refine cutT (fun c H' => c = ((decide ((0 : Int) ≤ t6)) && (decide (t6 < x_web.1))) ∧ ∃ F', Same F0 F' ∧ W F' H' (os)) (fun Q7 q7 => ?_) (fun c7 H7 hc7 => ?_)
      · -- the ways
        refine ⟨_, rfl, _, _, rfl, rfl, _, rfl, ?_⟩
        refine ifB (fun k8 => ?_) (fun k8 => ?_)
        · skip
          exact ⟨_, rfl, _, _, _, _, rfl, rfl, SqT.of (w0.same _ _ q1), rfl, _, _, rfl, rfl, _, rfl, q7 _ _ ⟨(by first | rfl | exact absurd k8 (by decide) | (simp [k8]; done) | ((try simp only [Bool.not_eq_true] at k8); simp only [k8, Bool.true_or, Bool.false_or, Bool.or_false, Bool.or_true, Bool.true_and, Bool.false_and, Bool.and_true, Bool.and_false])), _, Same.refl _, w0⟩⟩
        · skip
          exact ⟨_, rfl, q7 _ _ ⟨(by first | rfl | exact absurd k8 (by decide) | (simp [k8]; done) | ((try simp only [Bool.not_eq_true] at k8); simp only [k8, Bool.true_or, Bool.false_or, Bool.or_false, Bool.or_true, Bool.true_and, Bool.false_and, Bool.and_true, Bool.and_false])), _, Same.refl _, w0⟩⟩
      obtain ⟨rfl, F7, s7, w7⟩ := hc7
      replace q1 := s7 _ _ q1
      replace q2 := s7 _ _ q2
      replace h2 := A2.mono s7 h2
      replace r_thing := Rep.mono s7 r_thing
      replace sF := sF.trans s7
      refine post_ite hm (fun k11 hm => ?_) (fun k11 hm => ?_)
      · skip
        try dsimp only
        exact hm
      · skip
        exact (post_ok hm) _ _ _ w7 sF rep_n
    · skip
      obtain ⟨t12, e12, hm⟩ := pb_asTi hm
      have r12 : rep K F0 v_thing (t12 : Int × Int) := (show rep K F0 v_thing (Thing.ti t12.1 t12.2) from e12 ▸ r_thing)
      obtain ⟨a13, u13, z13, rfl, q13, r13a, r13b⟩ := r12
      obtain rfl : u13 = V.int t12.1 := r13a
      obtain rfl : z13 = V.int t12.2 := r13b
      refine ⟨_, rfl, _, rfl, _, _, _, _, rfl, rfl, SqT.of (w0.same _ _ q1), rfl, (t12 : (Int × Int)), _, (Rep.mono w0.same (rep_pair q13 rep_i rep_i)), (Rep.mono w0.same (rep_tup q2 h2)), _, rfl, ?_⟩
      refine post_ite hm (fun k14 hm => ?_) (fun k14 hm => ?_)
      · skip
        try dsimp only
        exact hm
      · skip
        exact (post_ok hm) _ _ _ w0 sF rep_n
def sp_far_by (K : Fg) : Sp := fun vs H Q E => ∃ (F : Hp) (os : List (Addr × HO)) (v_table : V) (x_table : (List (List Int))) (x_look : Int) (v_thing : V) (x_thing : Thing), vs = [v_table, .int x_look, v_thing] ∧ W F H (os) ∧ rep K F v_table x_table ∧ rep K F v_thing x_thing ∧ Post (far_by x_table x_look x_thing) (Ret K F os Q) noX
theorem sc_far_by : FnScope ["table", "look", "thing"] ["table", "look", "thing"] (defScope s_far_by) := ⟨rfl, rfl, rfl, by decide +kernel, rfl, by decide +kernel, by decide +kernel⟩
theorem ok_far_by (T : Tx K mg A FD) : FnOk P w K mg base CX0 1 (A 22) (FD 22) ["table", "look", "thing"] (sp_far_by K) := by
  refine T.d22.fn.ok sc_far_by (fun vs H Q E h => ?_) (fun cdv Ar outer s H vs Q E hr h => ?_)
  · obtain ⟨F, os, v_table, x_table, x_look, v_thing, x_thing, rfl, _⟩ := h
    rfl
  · obtain ⟨F0, os, v_table, x_table, x_look, v_thing, x_thing, rfl, w0, r_table, r_thing, hm⟩ := h
    have sF : Same F0 F0 := Same.refl _
    obtain ⟨a1, vs1, rfl, q1, h1⟩ := r_table
    refine ⟨_, (pss_cons (ps_if (pt_val (pe_callB (call_isB (K := K) rfl) (by rfl) T.n_isinstance (by decide +kernel) (pa_cons (pv 2) (pa_cons (pe_bltn (v := .ty "int") (by rfl) T.n_int (by decide +kernel) rfl) pa_nil)))) (pss_one (ps_ret (pe_ix (ix_listK (K := K) rfl) (pe_ix (ix_listK (K := K) rfl) (pv 0) (pv 1) (fun _ _ => rfl)) (pv 2) (fun _ _ => rfl)))) pss_nil) (pss_one (ps_ret (pe_callB (call_min2 rfl) (by rfl) T.n_min (by decide +kernel) (pa_cons (pe_ix (ix_listK (K := K) rfl) (pe_ix (ix_listK (K := K) rfl) (pv 0) (pv 1) (fun _ _ => rfl)) (pe_ix (ix_tupK (K := K) rfl) (pv 2) pe_int (fun _ _ => rfl)) (fun _ _ => rfl)) (pa_cons (pe_ix (ix_listK (K := K) rfl) (pe_ix (ix_listK (K := K) rfl) (pv 0) (pv 1) (fun _ _ => rfl)) (pe_ix (ix_tupK (K := K) rfl) (pv 2) pe_int (fun _ _ => rfl)) (fun _ _ => rfl)) pa_nil)))))), ?_⟩
    obtain ⟨a3, y3, k3⟩ := th_int w0.same r_thing
    refine ⟨_, rfl, _, _, _, x_thing.isPl, rfl, y3, k3, _, rfl, ?_⟩
    refine post_ite hm (fun k4 hm => ?_) (fun k4 hm => ?_)
    · skip
      obtain ⟨t5, e5, hm⟩ := pb_asPl hm
      have r5 : v_thing = V.int t5 := (show rep K F0 v_thing (Thing.pl t5) from e5 ▸ r_thing)
      subst r5
      obtain ⟨t6, e6, hm⟩ := pb_get hm
      obtain ⟨u6, f6, r6⟩ := A2.at h1 e6
      obtain ⟨a7, vs7, rfl, q7, h7⟩ := r6
      obtain ⟨t8, e8, hm⟩ := pb_get hm
      obtain ⟨u8, f8, r8⟩ := A2.at h7 e8
      obtain rfl : u8 = V.int t8 := r8
      exact ⟨_, rfl, _, rfl, _, _, _, _, rfl, rfl, SqL.of (w0.same _ _ q1), f6, _, rfl, _, _, _, _, rfl, rfl, SqL.of (w0.same _ _ q7), f8, (post_ok hm) _ _ _ w0 sF rep_i⟩
    · skip
      obtain ⟨t9, e9, hm⟩ := pb_asTi hm
      have r9 : rep K F0 v_thing (t9 : Int × Int) := (show rep K F0 v_thing (Thing.ti t9.1 t9.2) from e9 ▸ r_thing)
      obtain ⟨a10, u10, z10, rfl, q10, r10a, r10b⟩ := r9
      obtain rfl : u10 = V.int t9.1 := r10a
      obtain rfl : z10 = V.int t9.2 := r10b
      obtain ⟨t11, e11, hm⟩ := pb_get hm
      obtain ⟨u11, f11, r11⟩ := A2.at h1 e11
      obtain ⟨a12, vs12, rfl, q12, h12⟩ := r11
      obtain ⟨t13, e13, hm⟩ := pb_get hm
      obtain ⟨u13, f13, r13⟩ := A2.at h12 e13
      obtain rfl : u13 = V.int t13 := r13
      obtain ⟨t14, e14, hm⟩ := pb_get hm
      obtain ⟨u14, f14, r14⟩ := A2.at h1 e14
      obtain ⟨a15, vs15, rfl, q15, h15⟩ := r14
      obtain ⟨t16, e16, hm⟩ := pb_get hm
      obtain ⟨u16, f16, r16⟩ := A2.at h15 e16
      obtain rfl : u16 = V.int t16 := r16
      exact ⟨_, rfl, _, rfl, _, _, _, _, rfl, rfl, SqL.of (w0.same _ _ q1), f11, _, rfl, _, _, _, _, rfl, rfl, SqT.of (w0.same _ _ q10), rfl, _, _, _, _, rfl, rfl, SqL.of (w0.same _ _ q12), f13, _, rfl, _, rfl, _, _, _, _, rfl, rfl, SqL.of (w0.same _ _ q1), f14, _, rfl, _, _, _, _, rfl, rfl, SqT.of (w0.same _ _ q10), rfl, _, _, _, _, rfl, rfl, SqL.of (w0.same _ _ q15), f16, _, _, rfl, (post_ok hm) _ _ _ w0 sF rep_i⟩
def sp_parters_by (K : Fg) : Sp := fun vs H Q E => ∃ (F : Hp) (os : List (Addr × HO)) (v_table : V) (x_table : (List (List Int))) (v_one : V) (x_one : Thing) (v_other : V) (x_other : Thing), vs = [v_table, v_one, v_other] ∧ W F H (os) ∧ rep K F v_table x_table ∧ rep K F v_one x_one ∧ rep K F v_other x_other ∧ Post (parters_by x_table x_one x_other) (RetL K F os Q) noX
theorem sc_parters_by : FnScope ["table", "one", "other", "place"] ["table", "one", "other"] (defScope s_parters_by) := ⟨rfl, rfl, rfl, by decide +kernel, rfl, by decide +kernel, by decide +kernel⟩
theorem ok_parters_by (T : Tx K mg A FD) : FnOk P w K mg base CX0 2 (A 24) (FD 24) ["table", "one", "other"] (sp_parters_by K) := by
  refine T.d24.fn.ok sc_parters_by (fun vs H Q E h => ?_) (fun cdv Ar outer s H vs Q E hr h => ?_)
  · obtain ⟨F, os, v_table, x_table, v_one, x_one, v_other, x_other, rfl, _⟩ := h
    rfl
  · obtain ⟨F0, os, v_table, x_table, v_one, x_one, v_other, x_other, rfl, w0, r_table, r_one, r_other, hm⟩ := h
    have sF : Same F0 F0 := Same.refl _
    obtain ⟨a1, vs1, rfl, q1, h1⟩ := r_table
    refine ⟨_, (pss_one (ps_ret (pe_lc (own := [("place", 3)]) (g := gName 3) (by rfl) sc_parters_by.nd (pi_range1 (by rfl) T.n_range (pa_cons (pe_callB (call_lenN (K := K) rfl) (by rfl) T.n_len (by decide +kernel) (pa_cons (pv 0) pa_nil)) pa_nil)) (blkOk_by (own := [("place", 3)]) (N := ["table", "one", "other", "place"]) (sc := defScope s_parters_by) (by decide +kernel)) (fun _ _ _ _ _ => (pg_name (i := 3) sc_parters_by.nd rfl (Or.inl rfl))) (fun _ _ _ _ _ => (pts_one (pt_cmp (pc_neI (pe_call (ok_far_by T) (hr.mono (by decide)) (by rfl) T.d22.mg T.d22.fn.kp T.d22.b .nil pass0 (pa_cons (pv 0) (pa_cons (pv 3) (pa_cons (pv 1) pa_nil)))) (pe_call (ok_far_by T) (hr.mono (by decide)) (by rfl) T.d22.mg T.d22.fn.kp T.d22.b .nil pass0 (pa_cons (pv 0) (pa_cons (pv 3) (pa_cons (pv 2) pa_nil)))))))) (fun _ _ _ _ _ => (pv 3))))), ?_⟩
    obtain ⟨c4, hm⟩ := pb_rng hm
    refine ⟨_, rfl, _, _, _, rfl, .inl (SqL.of (w0.same _ _ q1)), h1.length, _, rfl, c4.2.2.1, c4.2.2.2, fun D5 nD5 => ?_⟩
    refine lcF (K := K) (tw_rng0 (j := (x_table.length : Int))) hm w0 nD5 (fun F' H' acc s w => trivial) ?_ ?_
    · -- one turn
      intro b5 x5 F5 H5 H5' acc5 N5 M5 P5 s5 w5 y5 hN5 hM5 hm
      replace q1 := s5 _ _ q1
      replace h1 := A2.mono s5 h1
      replace r_one := Rep.mono s5 r_one
      replace r_other := Rep.mono s5 r_other
      replace sF := sF.trans s5
      obtain ⟨rfl, rfl⟩ := y5
      refine ⟨rfl, _, rfl, _, rfl, _, rfl, _, _, _, (x_table : (List (List Int))), _, _, (x_one : Thing), rfl, w5, (rep_lst q1 h1), r_one, ?_⟩
      refine (post_bind hm).mono (fun y7 hm v7 F7 H7 w7 s7 r7 => ?_) (fun _ z => z)
      replace q1 := s7 _ _ q1
      replace h1 := A2.mono s7 h1
      replace r_one := Rep.mono s7 r_one
      replace r_other := Rep.mono s7 r_other
      replace sF := sF.trans s7
      obtain rfl : v7 = V.int y7 := r7
      refine ⟨_, rfl, _, rfl, _, rfl, _, _, _, (x_table : (List (List Int))), _, _, (x_other : Thing), rfl, w7, (rep_lst q1 h1), r_other, ?_⟩
      refine (post_bind hm).mono (fun y8 hm v8 F8 H8 w8 s8 r8 => ?_) (fun _ z => z)
      replace q1 := s8 _ _ q1
      replace h1 := A2.mono s8 h1
      replace r_one := Rep.mono s8 r_one
      replace r_other := Rep.mono s8 r_other
      replace sF := sF.trans s8
      obtain rfl : v8 = V.int y8 := r8
      refine ⟨_, _, rfl, rfl, _, rfl, ?_⟩
      refine post_ite hm (fun k9 hm => ?_) (fun k9 hm => ?_)
      · skip
        exact ⟨_, rfl, hN5 _ (post_ok hm) _ _ _ w8 (s7.trans s8) rep_i⟩
      · skip
        exact hM5 (post_ok hm) _ _ w8 (s7.trans s8)
    intro us5 F5 H5 ys5 s5 w5 gg5 hm
    replace q1 := s5 _ _ q1
    replace h1 := A2.mono s5 h1
    replace r_one := Rep.mono s5 r_one
    replace r_other := Rep.mono s5 r_other
    replace sF := sF.trans s5
    exact (post_ok hm) _ _ _ _ w5 sF gg5
def sp_code_of (K : Fg) : Sp := fun vs H Q E => ∃ (F : Hp) (os : List (Addr × HO)) (v_web : V) (x_web : (Int × (Tup (Int × Int)))) (v_looks : V) (x_looks : (List Int)) (v_thing : V) (x_thing : Thing), vs = [v_web, v_looks, v_thing] ∧ W F H (os) ∧ rep K F v_web x_web ∧ rep K F v_looks x_looks ∧ rep K F v_thing x_thing ∧ Post (code_of x_web x_looks x_thing) (RetL K F os Q) noX
theorem sc_code_of : FnScope ["web", "looks", "thing", "table", "look"] ["web", "looks", "thing"] (defScope s_code_of) := ⟨rfl, rfl, rfl, by decide +kernel, rfl, by decide +kernel, by decide +kernel⟩
theorem ok_code_of (T : Tx K mg A FD) : FnOk P w K mg base CX0 4 (A 25) (FD 25) ["web", "looks", "thing"] (sp_code_of K) := by
  refine T.d25.fn.ok sc_code_of (fun vs H Q E h => ?_) (fun cdv Ar outer s H vs Q E hr h => ?_)
  · obtain ⟨F, os, v_web, x_web, v_looks, x_looks, v_thing, x_thing, rfl, _⟩ := h
    rfl
  · obtain ⟨F0, os, v_web, x_web, v_looks, x_looks, v_thing, x_thing, rfl, w0, r_web, r_looks, r_thing, hm⟩ := h
    have sF : Same F0 F0 := Same.refl _
    obtain ⟨a1, u1, z1, rfl, q1, r1a, r1b⟩ := r_web
    obtain rfl : u1 = V.int x_web.1 := r1a
    obtain ⟨a2, vs2, rfl, q2, h2⟩ := r1b
    obtain ⟨a3, vs3, rfl, q3, h3⟩ := r_looks
    refine ⟨_, (pss_cons (ps_expr (pe_call (ok_looks_asked T) (hr.mono (by decide)) (by rfl) T.d20.mg T.d20.fn.kp T.d20.b .nil pass0 (pa_cons (pv 0) (pa_cons (pv 1) pa_nil)))) (pss_cons (ps_expr (pe_call (ok_thing_asked T) (hr.mono (by decide)) (by rfl) T.d21.mg T.d21.fn.kp T.d21.b .nil pass0 (pa_cons (pv 0) (pa_cons (pv 2) pa_nil)))) (pss_cons (ps_set (i := 3) sc_code_of.nd rfl (Or.inr rfl) (pe_call (ok_table_of T) (hr.mono (by decide)) (by rfl) T.d18.mg T.d18.fn.kp T.d18.b .nil pass0 (pa_cons (pv 0) pa_nil))) (pss_one (ps_ret (pe_lc (own := [("look", 4)]) (g := gName 4) (by rfl) sc_code_of.nd (pi_listK (K := K) rfl (pv 1)) (blkOk_by (own := [("look", 4)]) (N := ["web", "looks", "thing", "table", "look"]) (sc := defScope s_code_of) (by decide +kernel)) (fun _ _ _ _ _ => (pg_name (i := 4) sc_code_of.nd rfl (Or.inl rfl))) (fun _ _ _ _ _ => pts_nil) (fun _ _ _ _ _ => (pe_call (ok_far_by T) (hr.mono (by decide)) (by rfl) T.d22.mg T.d22.fn.kp T.d22.b .nil pass0 (pa_cons (pv 3) (pa_cons (pv 4) (pa_cons (pv 2) pa_nil))))))))))), ?_⟩
    refine ⟨_, rfl, _, rfl, _, _, _, (x_web : (Int × (Tup (Int × Int)))), _, (x_looks : (List Int)), rfl, w0, (rep_pair q1 rep_i (rep_tup q2 h2)), (rep_lst q3 h3), ?_⟩
    refine (post_bind hm).mono (fun y5 hm v5 F5 H5 w5 s5 r5 => ?_) (fun _ z => z)
    replace q1 := s5 _ _ q1
    replace q2 := s5 _ _ q2
    replace h2 := A2.mono s5 h2
    replace q3 := s5 _ _ q3
    replace h3 := A2.mono s5 h3
    replace r_thing := Rep.mono s5 r_thing
    replace sF := sF.trans s5
    obtain rfl : v5 = V.non := r5
    refine ⟨_, rfl, _, rfl, _, _, _, (x_web : (Int × (Tup (Int × Int)))), _, (x_thing : Thing), rfl, w5, (rep_pair q1 rep_i (rep_tup q2 h2)), r_thing, ?_⟩
    refine (post_bind hm).mono (fun y6 hm v6 F6 H6 w6 s6 r6 => ?_) (fun _ z => z)
    replace q1 := s6 _ _ q1
    replace h2 := A2.mono s6 h2
    replace q2 := s6 _ _ q2
    replace h3 := A2.mono s6 h3
    replace q3 := s6 _ _ q3
    replace r_thing := Rep.mono s6 r_thing
    replace sF := sF.trans s6
    obtain rfl : v6 = V.non := r6
    refine ⟨_, rfl, _, _, _, (x_web : (Int × (Tup (Int × Int)))), rfl, w6, (rep_pair q1 rep_i (rep_tup q2 h2)), ?_⟩
    refine (post_bind hm).mono (fun y7 hm v7 F7 H7 w7 s7 r7 => ?_) (fun _ z => z)
    replace q1 := s7 _ _ q1
    replace h2 := A2.mono s7 h2
    replace q2 := s7 _ _ q2
    replace h3 := A2.mono s7 h3
    replace q3 := s7 _ _ q3
    replace r_thing := Rep.mono s7 r_thing
    replace sF := sF.trans s7
    obtain ⟨a8, vs8, rfl, q8, h8⟩ := r7
    refine ⟨_, rfl, _, rfl, ⟨_, SqL.of (w7.same _ _ q3)⟩, fun D9 nD9 => ?_⟩
    refine lcM (K := K) (tw_list (a := a3) h3) hm w7 nD9 (fun F' H' acc s w => SqL.of (w.same _ _ (s _ _ q3))) ?_ ?_
    · -- one turn
      intro b9 x9 F9 H9 H9' acc9 N9 P9 s9 w9 y9 hN9 hm
      replace q1 := s9 _ _ q1
      replace h2 := A2.mono s9 h2
      replace q2 := s9 _ _ q2
      replace h3 := A2.mono s9 h3
      replace q3 := s9 _ _ q3
      replace r_thing := Rep.mono s9 r_thing
      replace h8 := A2.mono s9 h8
      replace q8 := s9 _ _ q8
      replace sF := sF.trans s9
      obtain ⟨rfl, r11⟩ := y9
      obtain rfl : x9 = V.int b9 := r11
      refine ⟨rfl, _, rfl, _, rfl, _, rfl, _, _, _, (y7 : (List (List Int))), _, _, (x_thing : Thing), rfl, w9, (rep_lst q8 h8), r_thing, ?_⟩
      refine (post_bind hm).mono (fun y12 hm v12 F12 H12 w12 s12 r12 => ?_) (fun _ z => z)
      replace q1 := s12 _ _ q1
      replace h2 := A2.mono s12 h2
      replace q2 := s12 _ _ q2
      replace h3 := A2.mono s12 h3
      replace q3 := s12 _ _ q3
      replace r_thing := Rep.mono s12 r_thing
      replace h8 := A2.mono s12 h8
      replace q8 := s12 _ _ q8
      replace sF := sF.trans s12
      obtain rfl : v12 = V.int y12 := r12
      exact hN9 _ (post_ok hm) _ _ _ w12 s12 rep_i
    intro us9 F9 H9 ys9 s9 w9 gg9 hm
    replace q1 := s9 _ _ q1
    replace h2 := A2.mono s9 h2
    replace q2 := s9 _ _ q2
    replace h3 := A2.mono s9 h3
    replace q3 := s9 _ _ q3
    replace r_thing := Rep.mono s9 r_thing
    replace h8 := A2.mono s9 h8
    replace q8 := s9 _ _ q8
    replace sF := sF.trans s9
    exact (post_ok hm) _ _ _ _ w9 sF gg9
def sp_parters_of (K : Fg) : Sp := fun vs H Q E => ∃ (F : Hp) (os : List (Addr × HO)) (v_web : V) (x_web : (Int × (Tup (Int × Int)))) (v_one : V) (x_one : Thing) (v_other : V) (x_other : Thing), vs = [v_web, v_one, v_other] ∧ W F H (os) ∧ rep K F v_web x_web ∧ rep K F v_one x_one ∧ rep K F v_other x_other ∧ Post (parters_of x_web x_one x_other) (RetL K F os Q) noX
theorem sc_parters_of : FnScope ["web", "one", "other"] ["web", "one", "other"] (defScope s_parters_of) := ⟨rfl, rfl, rfl, by decide +kernel, rfl, by decide +kernel, by decide +kernel⟩
theorem ok_parters_of (T : Tx K mg A FD) : FnOk P w K mg base CX0 4 (A 26) (FD 26) ["web", "one", "other"] (sp_parters_of K) := by
  refine T.d26.fn.ok sc_parters_of (fun vs H Q E h => ?_) (fun cdv Ar outer s H vs Q E hr h => ?_)
  · obtain ⟨F, os, v_web, x_web, v_one, x_one, v_other, x_other, rfl, _⟩ := h
    rfl
  · obtain ⟨F0, os, v_web, x_web, v_one, x_one, v_other, x_other, rfl, w0, r_web, r_one, r_other, hm⟩ := h
    have sF : Same F0 F0 := Same.refl _
    obtain ⟨a1, u1, z1, rfl, q1, r1a, r1b⟩ := r_web
    obtain rfl : u1 = V.int x_web.1 := r1a
    obtain ⟨a2, vs2, rfl, q2, h2⟩ := r1b
    refine ⟨_, (pss_cons (ps_expr (pe_call (ok_thing_asked T) (hr.mono (by decide)) (by rfl) T.d21.mg T.d21.fn.kp T.d21.b .nil pass0 (pa_cons (pv 0) (pa_cons (pv 1) pa_nil)))) (pss_cons (ps_expr (pe_call (ok_thing_asked T) (hr.mono (by decide)) (by rfl) T.d21.mg T.d21.fn.kp T.d21.b .nil pass0 (pa_cons (pv 0) (pa_cons (pv 2) pa_nil)))) (pss_one (ps_ret (pe_call (ok_parters_by T) (hr.mono (by decide)) (by rfl) T.d24.mg T.d24.fn.kp T.d24.b .nil pass0 (pa_cons (pe_call (ok_table_of T) (hr.mono (by decide)) (by rfl) T.d18.mg T.d18.fn.kp T.d18.b .nil pass0 (pa_cons (pv 0) pa_nil)) (pa_cons (pv 1) (pa_cons (pv 2) pa_nil)))))))), ?_⟩
    refine ⟨_, rfl, _, rfl, _, _, _, (x_web : (Int × (Tup (Int × Int)))), _, (x_one : Thing), rfl, w0, (rep_pair q1 rep_i (rep_tup q2 h2)), r_one, ?_⟩
    refine (post_bind hm).mono (fun y5 hm v5 F5 H5 w5 s5 r5 => ?_) (fun _ z => z)
    replace q1 := s5 _ _ q1
    replace q2 := s5 _ _ q2
    replace h2 := A2.mono s5 h2
    replace r_one := Rep.mono s5 r_one
    replace r_other := Rep.mono s5 r_other
    replace sF := sF.trans s5
    obtain rfl : v5 = V.non := r5
    refine ⟨_, rfl, _, rfl, _, _, _, (x_web : (Int × (Tup (Int × Int)))), _, (x_other : Thing), rfl, w5, (rep_pair q1 rep_i (rep_tup q2 h2)), r_other, ?_⟩
    refine (post_bind hm).mono (fun y6 hm v6 F6 H6 w6 s6 r6 => ?_) (fun _ z => z)
    replace q1 := s6 _ _ q1
    replace h2 := A2.mono s6 h2
    replace q2 := s6 _ _ q2
    replace r_one := Rep.mono s6 r_one
    replace r_other := Rep.mono s6 r_other
    replace sF := sF.trans s6
    obtain rfl : v6 = V.non := r6
    refine ⟨_, rfl, _, _, _, (x_web : (Int × (Tup (Int × Int)))), rfl, w6, (rep_pair q1 rep_i (rep_tup q2 h2)), ?_⟩
    refine (post_bind hm).mono (fun y7 hm v7 F7 H7 w7 s7 r7 => ?_) (fun _ z => z)
    replace q1 := s7 _ _ q1
    replace h2 := A2.mono s7 h2
    replace q2 := s7 _ _ q2
    replace r_one := Rep.mono s7 r_one
    replace r_other := Rep.mono s7 r_other
    replace sF := sF.trans s7
    obtain ⟨a8, vs8, rfl, q8, h8⟩ := r7
    refine ⟨_, rfl, _, rfl, _, _, _, (y7 : (List (List Int))), _, (x_one : Thing), _, (x_other : Thing), rfl, w7, (rep_lst q8 h8), r_one, r_other, ?_⟩
    refine (post_bind hm).mono (fun y9 hm p9 us9 F9 H9 w9 s9 g9 => ?_) (fun _ z => z)
    replace q1 := s9 _ _ q1
    replace h2 := A2.mono s9 h2
    replace q2 := s9 _ _ q2
    replace r_one := Rep.mono s9 r_one
    replace r_other := Rep.mono s9 r_other
    replace q8 := s9 _ _ q8
    replace h8 := A2.mono s9 h8
    replace sF := sF.trans s9
    exact (post_ok hm) _ _ _ _ w9 sF g9
def sp_by_code (K : Fg) : Sp := fun vs H Q E => ∃ (F : Hp) (os : List (Addr × HO)) (v_web : V) (x_web : (Int × (Tup (Int × Int)))) (v_looks : V) (x_looks : (List Int)) (x_kind : Str), vs = [v_web, v_looks, .str x_kind] ∧ W F H (os) ∧ rep K F v_web x_web ∧ rep K F v_looks x_looks ∧ Post (by_code x_web x_looks x_kind) (fun (y : ((List ((Tup Int) × Ix)) × (List (List Thing)))) => ∀ (p : Addr) (us : List (List Key × V)) (as : List Addr) (vss : List (List V)) (F' H' : Hp), W F' H' ((p, .dT us) :: (nz as vss ++ (os))) → Same F F' → AD kT (RX as) us y.1 → Sto K F' as vss y.2 → Q (.ref p) H') noX
theorem sc_by_code : FnScope ["web", "looks", "kind", "table", "found", "thing", "code", "look"] ["web", "looks", "kind"] (defScope s_by_code) := ⟨rfl, rfl, rfl, by decide +kernel, rfl, by decide +kernel, by decide +kernel⟩
theorem ok_by_code (T : Tx K mg A FD) : FnOk P w K mg base CX0 4 (A 27) (FD 27) ["web", "looks", "kind"] (sp_by_code K) := by
  refine T.d27.fn.ok sc_by_code (fun vs H Q E h => ?_) (fun cdv Ar outer s H vs Q E hr h => ?_)
  · obtain ⟨F, os, v_web, x_web, v_looks, x_looks, x_kind, rfl, _⟩ := h
    rfl
  · obtain ⟨F0, os, v_web, x_web, v_looks, x_looks, x_kind, rfl, w0, r_web, r_looks, hm⟩ := h
    have sF : Same F0 F0 := Same.refl _
    obtain ⟨a1, u1, z1, rfl, q1, r1a, r1b⟩ := r_web
    obtain rfl : u1 = V.int x_web.1 := r1a
    obtain ⟨a2, vs2, rfl, q2, h2⟩ := r1b
    obtain ⟨a3, vs3, rfl, q3, h3⟩ := r_looks
    have hr_g : Sto K F0 [] [] ([] : List (List Thing)) := Sto.nil
    replace w0 : W F0 _ ((nz [] [] ++ os)) := w0
    refine ⟨_, (pss_cons (ps_set (i := 3) sc_by_code.nd rfl (Or.inr rfl) (pe_call (ok_table_of T) (hr.mono (by decide)) (by rfl) T.d18.mg T.d18.fn.kp T.d18.b .nil pass0 (pa_cons (pv 0) pa_nil))) (pss_cons (ps_set (i := 4) sc_by_code.nd rfl (Or.inl rfl) pe_dnewT) (pss_cons (ps_for PassesOwn.never rfl (pi_listK (K := K) rfl (pe_call (ok_things_of T) (hr.mono (by decide)) (by rfl) T.d19.mg T.d19.fn.kp T.d19.b .nil pass0 (pa_cons (pv 0) (pa_cons (pv 2) pa_nil)))) (pg_name (i := 5) sc_by_code.nd rfl (Or.inr rfl)) (pss_cons (ps_set (i := 6) sc_by_code.nd rfl (Or.inl rfl) (pe_callTy (call_tuple_ofK (K := K) rfl) (by rfl) T.n_tuple (by decide +kernel) (pa_cons (pe_lc (own := [("look", 7)]) (g := gName 7) (by rfl) sc_by_code.nd (pi_listK (K := K) rfl (pv 1)) (blkOk_by (own := [("look", 7)]) (N := ["web", "looks", "kind", "table", "found", "thing", "code", "look"]) (sc := defScope s_by_code) (by decide +kernel)) (fun _ _ _ _ _ => (pg_name (i := 7) sc_by_code.nd rfl (Or.inl rfl))) (fun _ _ _ _ _ => pts_nil) (fun _ _ _ _ _ => (pe_call (ok_far_by T) (hr.mono (by decide)) (by rfl) T.d22.mg T.d22.fn.kp T.d22.b .nil pass0 (pa_cons (pv 3) (pa_cons (pv 7) (pa_cons (pv 5) pa_nil)))))) pa_nil))) (pss_cons (ps_if (pt_cmp (pc_dnotinH (Room.units1 hr) (pv 6) (pv 4))) (pss_one (ps_dput (Room.units1 hr) (pv 4) (pv 6) (pe_lst pa_nil) (by rfl))) pss_nil) (pss_one (ps_expr (pe_bm PySem.F.plainAttrs_list PySem.F.slot_list_append PySem.F.type_list_append mt_append (pe_dget (Room.units1 hr) (pv 4) (pv 6) (fun _ _ => rfl)) (pa_cons (pv 5) pa_nil))))))) (pss_one (ps_ret (pv 4)))))), ?_⟩
    refine ⟨_, rfl, _, _, _, (x_web : (Int × (Tup (Int × Int)))), rfl, w0, (rep_pair q1 rep_i (rep_tup q2 h2)), ?_⟩
    refine (post_bind hm).mono (fun y5 hm v5 F5 H5 w5 s5 r5 => ?_) (fun _ z => z)
    replace q1 := s5 _ _ q1
    replace q2 := s5 _ _ q2
    replace h2 := A2.mono s5 h2
    replace q3 := s5 _ _ q3
    replace h3 := A2.mono s5 h3
    replace hr_g := Sto.mono s5 hr_g
    replace sF := sF.trans s5
    obtain ⟨a6, vs6, rfl, q6, h6⟩ := r5
    refine fun p7 n7 => ?_
    have w7 : W F5 _ ((p7, .dT []) :: (nz [] [] ++ os)) := w5.new n7
    have h7 : AD kT (RX []) [] ([] : (List ((Tup Int) × Ix))) := .nil
    refine ⟨_, rfl, _, rfl, _, _, _, (x_web : (Int × (Tup (Int × Int)))), _, rfl, w7, (rep_pair q1 rep_i (rep_tup q2 h2)), ?_⟩
    refine (post_bind hm).mono (fun y9 hm p9 us9 F9 H9 w9 s9 g9 => ?_) (fun _ z => z)
    replace q1 := s9 _ _ q1
    replace h2 := A2.mono s9 h2
    replace q2 := s9 _ _ q2
    replace h3 := A2.mono s9 h3
    replace q3 := s9 _ _ q3
    replace h6 := A2.mono s9 h6
    replace q6 := s9 _ _ q6
    replace hr_g := Sto.mono s9 hr_g
    replace sF := sF.trans s9
    obtain ⟨F11, s11, w11, q11⟩ : ∃ F', Same F9 F' ∧ W F' _ ((p7, .dT []) :: (nz [] [] ++ os)) ∧ F' p9 = some (.lst us9) := w9.freezeE (pre := [])
    replace q1 := s11 _ _ q1
    replace h2 := A2.mono s11 h2
    replace q2 := s11 _ _ q2
    replace h3 := A2.mono s11 h3
    replace q3 := s11 _ _ q3
    replace h6 := A2.mono s11 h6
    replace q6 := s11 _ _ q6
    replace hr_g := Sto.mono s11 hr_g
    replace g9 := A2.mono s11 g9
    replace sF := sF.trans s11
    refine ⟨_, rfl, ⟨_, SqL.of (w11.same _ _ q11)⟩, ?_⟩
    refine forS (tw_list (a := p9) g9) hm (fun (g8 : (List ((Tup Int) × Ix)) × (List (List Thing))) σ H' => ∃ (F' : Hp) (vs8_0 : List (List Key × V)) (as8_1 : List Addr) (vs8_1 : List (List V)) (o8_6 : Option V) (o8_5 : Option V), σ = [some (.ref a1), some (.ref a3), some (.str x_kind), some (.ref a6), some (.ref p7), o8_5, o8_6, none] ∧ Same F11 F' ∧ W F' H' ((p7, .dT vs8_0) :: (nz as8_1 vs8_1 ++ os)) ∧ AD kT (RX as8_1) vs8_0 g8.1 ∧ [] <+: as8_1 ∧ Sto K F' as8_1 vs8_1 g8.2) ⟨_, _, _, _, _, _, rfl, Same.refl _, w11, h7, pfx_refl, hr_g⟩ (fun g σ H' hI => by obtain ⟨F', _, _, _, _, _, _, s, w, _⟩ := hI; exact SqL.of (w.same _ _ (s _ _ q11))) ?_ ?_
    · -- a turn
      intro b8 g8 x8 σ8 H8 H8' N8 P8 hI hy hN8 hm
      obtain ⟨F8, vs8_0, as8_1, vs8_1, o8_6, o8_5, rfl, s8, w8, h8_0, p8_1, h8_1⟩ := hI
      replace q1 := s8 _ _ q1
      replace h2 := A2.mono s8 h2
      replace q2 := s8 _ _ q2
      replace h3 := A2.mono s8 h3
      replace q3 := s8 _ _ q3
      replace h6 := A2.mono s8 h6
      replace q6 := s8 _ _ q6
      replace g9 := A2.mono s8 g9
      replace q11 := s8 _ _ q11
      replace sF := sF.trans s8
      obtain ⟨rfl, r12⟩ := hy
      replace r12 := Rep.mono s8 r12
      refine ⟨_, rfl, _, rfl, ⟨_, SqL.of (w8.same _ _ q3)⟩, fun D14 nD14 => ?_⟩
      refine lcM (K := K) (tw_list (a := a3) h3) hm w8 nD14 (fun F' H' acc s w => SqL.of (w.same _ _ (s _ _ q3))) ?_ ?_
      · -- one turn
        intro b14 x14 F14 H14 H14' acc14 N14 P14 s14 w14 y14 hN14 hm
        replace q1 := s14 _ _ q1
        replace h2 := A2.mono s14 h2
        replace q2 := s14 _ _ q2
        replace h3 := A2.mono s14 h3
        replace q3 := s14 _ _ q3
        replace h6 := A2.mono s14 h6
        replace q6 := s14 _ _ q6
        replace r12 := Rep.mono s14 r12
        replace h8_1 := Sto.mono s14 h8_1
        replace sF := sF.trans s14
        obtain ⟨rfl, r16⟩ := y14
        obtain rfl : x14 = V.int b14 := r16
        refine ⟨rfl, _, rfl, _, rfl, _, rfl, _, _, _, (y5 : (List (List Int))), _, _, (b8 : Thing), rfl, w14, (rep_lst q6 h6), r12, ?_⟩
        refine (post_bind hm).mono (fun y17 hm v17 F17 H17 w17 s17 r17 => ?_) (fun _ z => z)
        replace q1 := s17 _ _ q1
        replace h2 := A2.mono s17 h2
        replace q2 := s17 _ _ q2
        replace h3 := A2.mono s17 h3
        replace q3 := s17 _ _ q3
        replace h6 := A2.mono s17 h6
        replace q6 := s17 _ _ q6
        replace r12 := Rep.mono s17 r12
        replace h8_1 := Sto.mono s17 h8_1
        replace sF := sF.trans s17
        obtain rfl : v17 = V.int y17 := r17
        exact hN14 _ (post_ok hm) _ _ _ w17 s17 rep_i
      intro us14 F14 H14 ys14 s14 w14 gg14 hm
      replace q1 := s14 _ _ q1
      replace h2 := A2.mono s14 h2
      replace q2 := s14 _ _ q2
      replace h3 := A2.mono s14 h3
      replace q3 := s14 _ _ q3
      replace h6 := A2.mono s14 h6
      replace q6 := s14 _ _ q6
      replace r12 := Rep.mono s14 r12
      replace h8_1 := Sto.mono s14 h8_1
      replace sF := sF.trans s14
      have h19 : A2 (rep K F14) us14 ys14 := gg14
      refine ⟨_, _, rfl, .inl ⟨SqL.of (w14.get (pre := [])), fun p20 n20 => ?_⟩⟩
      obtain ⟨F20, s20, w20, q20⟩ := w14.frzE (o := .tup us14) n20
      replace q1 := s20 _ _ q1
      replace h2 := A2.mono s20 h2
      replace q2 := s20 _ _ q2
      replace h3 := A2.mono s20 h3
      replace q3 := s20 _ _ q3
      replace h6 := A2.mono s20 h6
      replace q6 := s20 _ _ q6
      replace r12 := Rep.mono s20 r12
      replace h8_1 := Sto.mono s20 h8_1
      replace gg14 := A2.mono s20 gg14
      replace h19 := A2.mono s20 h19
      replace sF := sF.trans s20
      have w21 : W F20 _ ((p7, .dT vs8_0) :: (nz as8_1 vs8_1 ++ os)) := w20.drop (pre := [])
      refine stepN ?_
      try dsimp only
      refine joinS hm (fun (g22 : (List ((Tup Int) × Ix)) × (List (List Thing))) σ H' => ∃ (F' : Hp) (vs22_0 : List (List Key × V)) (as22_1 : List Addr) (vs22_1 : List (List V)), σ = [some (.ref a1), some (.ref a3), some (.str x_kind), some (.ref a6), some (.ref p7), some x8, some (.ref p20), none] ∧ Same F20 F' ∧ W F' H' ((p7, .dT vs22_0) :: (nz as22_1 vs22_1 ++ os)) ∧ AD kT (RX as22_1) vs22_0 g22.1 ∧ as8_1 <+: as22_1 ∧ Sto K F' as22_1 vs22_1 g22.2) ?_ ?_
      · intro N22 P22 hN22 hm
        refine ⟨_, rfl, _, rfl, _, _, _, rfl, dgetA (t := (Tup.mk ys14)) (w21.get (pre := [])) (key_tup w21.same q20 h19), AD.no kT_inj h8_0, _, rfl, ?_⟩
        refine post_ite hm (fun k23 hm => ?_) (fun k23 hm => ?_)
        · skip
          have h24 : A2 (rep K F20) [] ([] : (List Thing)) := .nil
          refine ⟨(by show 0 ≤ sizeLine; decide), fun p25 n25 => ?_⟩
          have w25 : W F20 _ ((p25, .lst []) :: (p7, .dT vs8_0) :: (nz as8_1 vs8_1 ++ os)) := w21.new n25
          obtain ⟨j26, st26, ej26, es26, hm⟩ := pn_newS hm
          have w26 : W F20 _ ((p7, .dT vs8_0) :: (nz (as8_1 ++ [p25]) (vs8_1 ++ [[]]) ++ os)) := w25.nadd (pre := [_]) h8_1.len
          have q26 : (as8_1 ++ [p25])[j26]? = some p25 := IQ.new (h8_1.len2.trans ej26.symm)
          have h26 : Sto K F20 (as8_1 ++ [p25]) (vs8_1 ++ [[]]) st26 := es26 ▸ Sto.snoc (p := p25) h8_1 h24
          replace h8_0 := AD.imp (fun _ _ => RX.mono (pfx_snoc (p := p25))) h8_0
          obtain ⟨l27, z27, e27, hm⟩ := pn_mput hm
          refine ⟨_, rfl, _, rfl, _, _, rfl, dputA (t := (Tup.mk ys14)) (v := (.ref p25)) (w26.get (pre := [])) (key_tup w26.same q20 h19) h8_0 z27, ?_⟩
          have h27 : AD kT (RX (as8_1 ++ [p25])) (putK vs8_0 (kT (Tup.mk ys14)) (.ref p25)) l27 := e27 ▸ AD.put kT_inj h8_0 ⟨_, rfl, q26⟩
          have w28 : W F20 _ ((p7, .dT (putK vs8_0 (kT (Tup.mk ys14)) (.ref p25))) :: (nz (as8_1 ++ [p25]) (vs8_1 ++ [[]]) ++ os)) := w26.set (pre := [])
          exact hN22 _ (post_ok hm) _ _ ⟨_, _, _, _, rfl, Same.refl _, w28, h27, (pfx_snoc (p := p25)), h26⟩
        · skip
          exact hN22 _ (post_ok hm) _ _ ⟨_, _, _, _, rfl, Same.refl _, w21, h8_0, pfx_refl, h8_1⟩
      intro g22 σ22 H22 hI hm
      obtain ⟨F22, vs22_0, as22_1, vs22_1, rfl, s22, w22, h22_0, p22_1, h22_1⟩ := hI
      replace q1 := s22 _ _ q1
      replace h2 := A2.mono s22 h2
      replace q2 := s22 _ _ q2
      replace h3 := A2.mono s22 h3
      replace q3 := s22 _ _ q3
      replace h6 := A2.mono s22 h6
      replace q6 := s22 _ _ q6
      replace h19 := A2.mono s22 h19
      replace q20 := s22 _ _ q20
      replace r12 := Rep.mono s22 r12
      replace sF := sF.trans s22
      obtain ⟨t29, e29, hm⟩ := pb_mget hm
      obtain ⟨u29, f29, r29⟩ := AD.get kT_inj h22_0 e29
      obtain ⟨a30, rfl, q30⟩ := r29
      obtain ⟨x31, e31, hm⟩ := pb_getS hm
      obtain ⟨vs31, i31, h31⟩ := Sto.getq h22_1 e31 q30
      obtain ⟨l32, z32, e32, hm⟩ := pn_app hm
      obtain ⟨st32, es32, hm⟩ := pn_setS hm
      refine ⟨_, rfl, _, rfl, _, _, rfl, dgetsA (w22.get (pre := [])) (key_tup (t := (Tup.mk ys14)) w22.same q20 h19) f29, .inl ⟨rfl, _, SqL.of (W.nget (pre := [_]) w22 q30 i31)⟩, _, rfl, _, _, _, rfl, rfl, (W.nget (pre := [_]) w22 q30 i31), (A2.lt h31 z32), ?_⟩
      have h32 : Sto K F22 as22_1 (vs22_1.set t29 (vs31 ++ [x8])) st32 := es32 ▸ Sto.set h22_1 (e32 ▸ A2.snoc h31 r12)
      have w32 : W F22 _ ((p7, .dT vs22_0) :: (nz as22_1 (vs22_1.set t29 (vs31 ++ [x8])) ++ os)) := w22.nset (pre := [_]) (vs31 ++ [x8]) q30 i31
      exact hN8 _ (post_ok hm) _ _ ⟨_, _, _, _, _, _, rfl, (s8.trans (s14.trans (s20.trans s22))), w32, h22_0, (pfx_trans p8_1 p22_1), h32⟩
    intro g8 σ8 H8 hI hm
    obtain ⟨F8, vs8_0, as8_1, vs8_1, o8_6, o8_5, rfl, s8, w8, h8_0, p8_1, h8_1⟩ := hI
    replace q1 := s8 _ _ q1
    replace h2 := A2.mono s8 h2
    replace q2 := s8 _ _ q2
    replace h3 := A2.mono s8 h3
    replace q3 := s8 _ _ q3
    replace h6 := A2.mono s8 h6
    replace q6 := s8 _ _ q6
    replace g9 := A2.mono s8 g9
    replace q11 := s8 _ _ q11
    replace sF := sF.trans s8
    exact ⟨_, rfl, (post_ok hm) _ _ _ _ _ _ w8 sF h8_0 h8_1⟩
def sp_likes_by (K : Fg) : Sp := fun vs H Q E => ∃ (F : Hp) (os : List (Addr × HO)) (v_web : V) (x_web : (Int × (Tup (Int × Int)))) (v_looks : V) (x_looks : (List Int)) (x_kind : Str), vs = [v_web, v_looks, .str x_kind] ∧ W F H (os) ∧ rep K F v_web x_web ∧ rep K F v_looks x_looks ∧ Post (likes_by x_web x_looks x_kind) (Ret K F os Q) noX
theorem sc_likes_by : FnScope ["web", "looks", "kind", "things"] ["web", "looks", "kind"] (defScope s_likes_by) := ⟨rfl, rfl, rfl, by decide +kernel, rfl, by decide +kernel, by decide +kernel⟩
theorem ok_likes_by (T : Tx K mg A FD) : FnOk P w K mg base CX0 5 (A 28) (FD 28) ["web", "looks", "kind"] (sp_likes_by K) := by
  refine T.d28.fn.ok sc_likes_by (fun vs H Q E h => ?_) (fun cdv Ar outer s H vs Q E hr h => ?_)
  · obtain ⟨F, os, v_web, x_web, v_looks, x_looks, x_kind, rfl, _⟩ := h
    rfl
  · obtain ⟨F0, os, v_web, x_web, v_looks, x_looks, x_kind, rfl, w0, r_web, r_looks, hm⟩ := h
    have sF : Same F0 F0 := Same.refl _
    obtain ⟨a1, u1, z1, rfl, q1, r1a, r1b⟩ := r_web
    obtain rfl : u1 = V.int x_web.1 := r1a
    obtain ⟨a2, vs2, rfl, q2, h2⟩ := r1b
    obtain ⟨a3, vs3, rfl, q3, h3⟩ := r_looks
    refine ⟨_, (pss_cons (ps_expr (pe_call (ok_looks_asked T) (hr.mono (by decide)) (by rfl) T.d20.mg T.d20.fn.kp T.d20.b .nil pass0 (pa_cons (pv 0) (pa_cons (pv 1) pa_nil)))) (pss_one (ps_ret (pe_lc (own := [("things", 3)]) (g := gName 3) (by rfl) sc_likes_by.nd (pi_valuesT (pe_call (ok_by_code T) (hr.mono (by decide)) (by rfl) T.d27.mg T.d27.fn.kp T.d27.b .nil pass0 (pa_cons (pv 0) (pa_cons (pv 1) (pa_cons (pv 2) pa_nil))))) (blkOk_by (own := [("things", 3)]) (N := ["web", "looks", "kind", "things"]) (sc := defScope s_likes_by) (by decide +kernel)) (fun _ _ _ _ _ => (pg_name (i := 3) sc_likes_by.nd rfl (Or.inl rfl))) (fun _ _ _ _ _ => (pts_one (pt_cmp (pc_gt (pe_callB (call_lenN (K := K) rfl) (by rfl) T.n_len (by decide +kernel) (pa_cons (pv 3) pa_nil)) pe_int)))) (fun _ _ _ _ _ => (pv 3)))))), ?_⟩
    refine ⟨_, rfl, _, rfl, _, _, _, (x_web : (Int × (Tup (Int × Int)))), _, (x_looks : (List Int)), rfl, w0, (rep_pair q1 rep_i (rep_tup q2 h2)), (rep_lst q3 h3), ?_⟩
    refine (post_bind hm).mono (fun y4 hm v4 F4 H4 w4 s4 r4 => ?_) (fun _ z => z)
    replace q1 := s4 _ _ q1
    replace q2 := s4 _ _ q2
    replace h2 := A2.mono s4 h2
    replace q3 := s4 _ _ q3
    replace h3 := A2.mono s4 h3
    replace sF := sF.trans s4
    obtain rfl : v4 = V.non := r4
    refine ⟨_, rfl, _, rfl, _, rfl, _, _, _, (x_web : (Int × (Tup (Int × Int)))), _, (x_looks : (List Int)), _, rfl, w4, (rep_pair q1 rep_i (rep_tup q2 h2)), (rep_lst q3 h3), ?_⟩
    refine (post_bind hm).mono (fun y5 hm p5 us5 as5 vss5 F5 H5 w5 s5 g5 gs5 => ?_) (fun _ z => z)
    replace q1 := s5 _ _ q1
    replace h2 := A2.mono s5 h2
    replace q2 := s5 _ _ q2
    replace h3 := A2.mono s5 h3
    replace q3 := s5 _ _ q3
    replace sF := sF.trans s5
    have w8 : W F5 _ ((p5, .dT us5) :: (nz as5 vss5 ++ os)) := w5.nback (pre := [])
    refine ⟨_, _, rfl, (w8.get (pre := [])), fun od9 => ?_⟩
    have w9 : W F5 _ ((p5, (.frz od9 (.dT us5))) :: (nz as5 vss5 ++ os)) := w8.set (pre := [])
    refine fun D10 nD10 => ?_
    refine lcG (tw_valsT (d := p5) (o := od9) g5) hm (fun (g10 : (List (List Thing))) F' os' us ys => ∃ (as10_0 : List Addr) (vs10_0 : List (List V)), os' = (p5, (.frz od9 (.dT us5))) :: (nz as10_0 vs10_0 ++ os) ∧ as5 <+: as10_0 ∧ Sto K F' as10_0 vs10_0 g10 ∧ A2 (RX as10_0) us ys) w9 ⟨_, _, rfl, pfx_refl, gs5, .nil⟩ nD10 (fun _ _ _ _ _ o => by obtain ⟨_, _, rfl, _, _, h⟩ := o; exact h.length) (fun g F' H' os' acc ys s w o => by obtain ⟨_, _, rfl, _, _, _⟩ := o; exact w.get (pre := [_])) ?_ ?_
    · -- one turn
      intro b10 g10 x10 F10 H10 H10' os10 acc10 ya10 N10 M10 P10 s10 w10 o10 y10 hN10 hM10 hm
      obtain ⟨as10_0, vs10_0, rfl, p10_0, h10_0, ha10⟩ := o10
      replace q1 := s10 _ _ q1
      replace h2 := A2.mono s10 h2
      replace q2 := s10 _ _ q2
      replace h3 := A2.mono s10 h3
      replace q3 := s10 _ _ q3
      replace sF := sF.trans s10
      replace g5 := AD.imp (fun _ _ => RX.mono p10_0) g5
      obtain ⟨rfl, r12⟩ := y10
      replace r12 := RX.mono p10_0 r12
      obtain ⟨a13, rfl, q13⟩ := r12
      obtain ⟨x14, e14, hm⟩ := pb_getS hm
      obtain ⟨vs14, i14, h14⟩ := Sto.getq h10_0 e14 q13
      refine ⟨rfl, _, rfl, _, _, _, rfl, .inl (SqL.of (W.nget (pre := [_, _]) w10 q13 i14)), h14.length, _, _, rfl, rfl, _, rfl, ?_⟩
      refine post_ite hm (fun k15 hm => ?_) (fun k15 hm => ?_)
      · skip
        exact ⟨_, rfl, hN10 _ _ (post_ok hm) _ _ _ _ w10 (Same.refl _) ⟨_, _, rfl, p10_0, h10_0, A2.snoc ha10 ⟨_, rfl, q13⟩⟩⟩
      · skip
        exact hM10 _ (post_ok hm) _ _ _ w10 (Same.refl _) ⟨_, _, rfl, p10_0, h10_0, ha10⟩
    intro g10 us10 F10 H10 os10 ys10 s10 w10 o10 hm
    obtain ⟨as10_0, vs10_0, rfl, p10_0, h10_0, gg10⟩ := o10
    replace q1 := s10 _ _ q1
    replace h2 := A2.mono s10 h2
    replace q2 := s10 _ _ q2
    replace h3 := A2.mono s10 h3
    replace q3 := s10 _ _ q3
    replace sF := sF.trans s10
    replace g5 := AD.imp (fun _ _ => RX.mono p10_0) g5
    obtain ⟨xss17, e17, hm⟩ := pb_deref hm
    obtain ⟨F17a, s17a, w17a, q17⟩ : ∃ F', Same F10 F' ∧ W F' _ ((p5, (.frz od9 (.dT us5))) :: (nz as10_0 vs10_0 ++ os)) ∧ F' D10 = some (.lst us10) := w10.freezeE (pre := [])
    obtain ⟨F17, s17b, w17, f17⟩ : ∃ F', Same F17a F' ∧ W F' _ ((p5, (.frz od9 (.dT us5))) :: os) ∧ ∀ (j : Nat) (a : Addr) (vs : List V), as10_0[j]? = some a → vs10_0[j]? = some vs → F' a = some (.lst vs) := W.nfreeze (pre := [_]) w17a
    replace q17 := s17b _ _ q17
    have s17 : Same F10 F17 := s17a.trans s17b
    have h17 : A2 (rep K F17) us10 xss17 := deref_rep h10_0 f17 s17 gg10 e17
    replace q1 := s17 _ _ q1
    replace h2 := A2.mono s17 h2
    replace q2 := s17 _ _ q2
    replace h3 := A2.mono s17 h3
    replace q3 := s17 _ _ q3
    replace sF := sF.trans s17
    have w18 : W F17 _ (os) := w17.drop (pre := [])
    exact (post_ok hm) _ _ _ w18 sF (rep_lst q17 h17)
def sp_near_lists_floors (K : Fg) : Sp := fun vs H Q E => ∃ (F : Hp) (os : List (Addr × HO)) (v_web : V) (x_web : (Int × (Tup (Int × Int)))), vs = [v_web] ∧ W F H (os) ∧ rep K F v_web x_web ∧ Post (near_lists_floors x_web) (Ret K F os Q) noX
theorem sc_near_lists_floors : FnScope ["web", "place"] ["web"] (defScope s_near_lists_floors) := ⟨rfl, rfl, rfl, by decide +kernel, rfl, by decide +kernel, by decide +kernel⟩
theorem ok_near_lists_floors (T : Tx K mg A FD) : FnOk P w K mg base CX0 3 (A 30) (FD 30) ["web"] (sp_near_lists_floors K) := by
  refine T.d30.fn.ok sc_near_lists_floors (fun vs H Q E h => ?_) (fun cdv Ar outer s H vs Q E hr h => ?_)
  · obtain ⟨F, os, v_web, x_web, rfl, _⟩ := h
    rfl
  · obtain ⟨F0, os, v_web, x_web, rfl, w0, r_web, hm⟩ := h
    have sF : Same F0 F0 := Same.refl _
    obtain ⟨a1, u1, z1, rfl, q1, r1a, r1b⟩ := r_web
    obtain rfl : u1 = V.int x_web.1 := r1a
    obtain ⟨a2, vs2, rfl, q2, h2⟩ := r1b
    refine ⟨_, (pss_one (ps_ret (pe_lc (own := [("place", 1)]) (g := gName 1) (by rfl) sc_near_lists_floors.nd (pi_range1 (by rfl) T.n_range (pa_cons (pe_ix (ix_tupK (K := K) rfl) (pv 0) pe_int (fun _ _ => rfl)) pa_nil)) (blkOk_by (own := [("place", 1)]) (N := ["web", "place"]) (sc := defScope s_near_lists_floors) (by decide +kernel)) (fun _ _ _ _ _ => (pg_name (i := 1) sc_near_lists_floors.nd rfl (Or.inl rfl))) (fun _ _ _ _ _ => pts_nil) (fun _ _ _ _ _ => (pe_call (ok_neighbours_of T) (hr.mono (by decide)) (by rfl) T.d15.mg T.d15.fn.kp T.d15.b .nil pass0 (pa_cons (pv 0) (pa_cons (pv 1) pa_nil))))))), ?_⟩
    obtain ⟨c3, hm⟩ := pb_rng hm
    refine ⟨_, rfl, _, _, _, _, rfl, rfl, SqT.of (w0.same _ _ q1), rfl, _, rfl, c3.2.2.1, c3.2.2.2, fun D4 nD4 => ?_⟩
    refine lcM (K := K) (tw_rng0 (j := x_web.1)) hm w0 nD4 (fun F' H' acc s w => trivial) ?_ ?_
    · -- one turn
      intro b4 x4 F4 H4 H4' acc4 N4 P4 s4 w4 y4 hN4 hm
      replace q1 := s4 _ _ q1
      replace q2 := s4 _ _ q2
      replace h2 := A2.mono s4 h2
      replace sF := sF.trans s4
      obtain ⟨rfl, rfl⟩ := y4
      refine ⟨rfl, _, rfl, _, rfl, _, _, _, (x_web : (Int × (Tup (Int × Int)))), _, rfl, w4, (rep_pair q1 rep_i (rep_tup q2 h2)), ?_⟩
      refine (post_bind hm).mono (fun y6 hm v6 F6 H6 w6 s6 r6 => ?_) (fun _ z => z)
      replace q1 := s6 _ _ q1
      replace q2 := s6 _ _ q2
      replace h2 := A2.mono s6 h2
      replace sF := sF.trans s6
      obtain ⟨a7, vs7, rfl, q7, h7⟩ := r6
      exact hN4 _ (post_ok hm) _ _ _ w6 s6 (rep_lst q7 h7)
    intro us4 F4 H4 ys4 s4 w4 gg4 hm
    replace q1 := s4 _ _ q1
    replace q2 := s4 _ _ q2
    replace h2 := A2.mono s4 h2
    replace sF := sF.trans s4
    obtain ⟨F9, s9, w9, q9⟩ : ∃ F', Same F4 F' ∧ W F' _ (os) ∧ F' D4 = some (.lst us4) := w4.freezeE (pre := [])
    replace q1 := s9 _ _ q1
    replace q2 := s9 _ _ q2
    replace h2 := A2.mono s9 h2
    replace gg4 := A2.mono s9 gg4
    replace sF := sF.trans s9
    exact (post_ok hm) _ _ _ w9 sF (rep_lst q9 gg4)
def sp_far_by_floors (K : Fg) : Sp := fun vs H Q E => ∃ (F : Hp) (os : List (Addr × HO)) (v_fars : V) (x_fars : (List Int)) (v_thing : V) (x_thing : Thing), vs = [v_fars, v_thing] ∧ W F H (os) ∧ rep K F v_fars x_fars ∧ rep K F v_thing x_thing ∧ Post (far_by_floors x_fars x_thing) (Ret K F os Q) noX
theorem sc_far_by_floors : FnScope ["fars", "thing"] ["fars", "thing"] (defScope s_far_by_floors) := ⟨rfl, rfl, rfl, by decide +kernel, rfl, by decide +kernel, by decide +kernel⟩
theorem ok_far_by_floors (T : Tx K mg A FD) : FnOk P w K mg base CX0 1 (A 32) (FD 32) ["fars", "thing"] (sp_far_by_floors K) := by
  refine T.d32.fn.ok sc_far_by_floors (fun vs H Q E h => ?_) (fun cdv Ar outer s H vs Q E hr h => ?_)
  · obtain ⟨F, os, v_fars, x_fars, v_thing, x_thing, rfl, _⟩ := h
    rfl
  · obtain ⟨F0, os, v_fars, x_fars, v_thing, x_thing, rfl, w0, r_fars, r_thing, hm⟩ := h
    have sF : Same F0 F0 := Same.refl _
    obtain ⟨a1, vs1, rfl, q1, h1⟩ := r_fars
    refine ⟨_, (pss_cons (ps_if (pt_val (pe_callB (call_isB (K := K) rfl) (by rfl) T.n_isinstance (by decide +kernel) (pa_cons (pv 1) (pa_cons (pe_bltn (v := .ty "int") (by rfl) T.n_int (by decide +kernel) rfl) pa_nil)))) (pss_one (ps_ret (pe_ix (ix_listK (K := K) rfl) (pv 0) (pv 1) (fun _ _ => rfl)))) pss_nil) (pss_one (ps_ret (pe_callB (call_min2 rfl) (by rfl) T.n_min (by decide +kernel) (pa_cons (pe_ix (ix_listK (K := K) rfl) (pv 0) (pe_ix (ix_tupK (K := K) rfl) (pv 1) pe_int (fun _ _ => rfl)) (fun _ _ => rfl)) (pa_cons (pe_ix (ix_listK (K := K) rfl) (pv 0) (pe_ix (ix_tupK (K := K) rfl) (pv 1) pe_int (fun _ _ => rfl)) (fun _ _ => rfl)) pa_nil)))))), ?_⟩
    obtain ⟨a3, y3, k3⟩ := th_int w0.same r_thing
    refine ⟨_, rfl, _, _, _, x_thing.isPl, rfl, y3, k3, _, rfl, ?_⟩
    refine post_ite hm (fun k4 hm => ?_) (fun k4 hm => ?_)
    · skip
      obtain ⟨t5, e5, hm⟩ := pb_asPl hm
      have r5 : v_thing = V.int t5 := (show rep K F0 v_thing (Thing.pl t5) from e5 ▸ r_thing)
      subst r5
      obtain ⟨t6, e6, hm⟩ := pb_get hm
      obtain ⟨u6, f6, r6⟩ := A2.at h1 e6
      obtain rfl : u6 = V.int t6 := r6
      exact ⟨_, rfl, _, rfl, _, _, _, _, rfl, rfl, SqL.of (w0.same _ _ q1), f6, (post_ok hm) _ _ _ w0 sF rep_i⟩
    · skip
      obtain ⟨t7, e7, hm⟩ := pb_asTi hm
      have r7 : rep K F0 v_thing (t7 : Int × Int) := (show rep K F0 v_thing (Thing.ti t7.1 t7.2) from e7 ▸ r_thing)
      obtain ⟨a8, u8, z8, rfl, q8, r8a, r8b⟩ := r7
      obtain rfl : u8 = V.int t7.1 := r8a
      obtain rfl : z8 = V.int t7.2 := r8b
      obtain ⟨t9, e9, hm⟩ := pb_get hm
      obtain ⟨u9, f9, r9⟩ := A2.at h1 e9
      obtain rfl : u9 = V.int t9 := r9
      obtain ⟨t10, e10, hm⟩ := pb_get hm
      obtain ⟨u10, f10, r10⟩ := A2.at h1 e10
      obtain rfl : u10 = V.int t10 := r10
      exact ⟨_, rfl, _, rfl, _, _, _, _, rfl, rfl, SqT.of (w0.same _ _ q8), rfl, _, _, _, _, rfl, rfl, SqL.of (w0.same _ _ q1), f9, _, rfl, _, rfl, _, _, _, _, rfl, rfl, SqT.of (w0.same _ _ q8), rfl, _, _, _, _, rfl, rfl, SqL.of (w0.same _ _ q1), f10, _, _, rfl, (post_ok hm) _ _ _ w0 sF rep_i⟩
def sp_are_twins (K : Fg) : Sp := fun vs H Q E => ∃ (F : Hp) (os : List (Addr × HO)) (v_near : V) (x_near : (List (List Int))) (x_one : Int) (x_other : Int), vs = [v_near, .int x_one, .int x_other] ∧ W F H (os) ∧ rep K F v_near x_near ∧ Post (are_twins x_near x_one x_other) (Ret K F os Q) noX
theorem sc_are_twins : FnScope ["near", "one", "other", "place"] ["near", "one", "other"] (defScope s_are_twins) := ⟨rfl, rfl, rfl, by decide +kernel, rfl, by decide +kernel, by decide +kernel⟩
theorem ok_are_twins (T : Tx K mg A FD) : FnOk P w K mg base CX0 1 (A 34) (FD 34) ["near", "one", "other"] (sp_are_twins K) := by
  refine T.d34.fn.ok sc_are_twins (fun vs H Q E h => ?_) (fun cdv Ar outer s H vs Q E hr h => ?_)
  · obtain ⟨F, os, v_near, x_near, x_one, x_other, rfl, _⟩ := h
    rfl
  · obtain ⟨F0, os, v_near, x_near, x_one, x_other, rfl, w0, r_near, hm⟩ := h
    have sF : Same F0 F0 := Same.refl _
    obtain ⟨a1, vs1, rfl, q1, h1⟩ := r_near
    refine ⟨_, (pss_one (ps_ret (pe_cmpR (op_eqDt (K := K) rfl (List Int) (by decide) hr.units) (pe_lc (own := [("place", 3)]) (g := gName 3) (by rfl) sc_are_twins.nd (pi_listK (K := K) rfl (pe_ix (ix_listK (K := K) rfl) (pv 0) (pv 1) (fun _ _ => rfl))) (blkOk_by (own := [("place", 3)]) (N := ["near", "one", "other", "place"]) (sc := defScope s_are_twins) (by decide +kernel)) (fun _ _ _ _ _ => (pg_name (i := 3) sc_are_twins.nd rfl (Or.inl rfl))) (fun _ _ _ _ _ => (pts_one (pt_cmp (pc_neI (pv 3) (pv 2))))) (fun _ _ _ _ _ => (pv 3))) (pe_lc (own := [("place", 3)]) (g := gName 3) (by rfl) sc_are_twins.nd (pi_listK (K := K) rfl (pe_ix (ix_listK (K := K) rfl) (pv 0) (pv 2) (fun _ _ => rfl))) (blkOk_by (own := [("place", 3)]) (N := ["near", "one", "other", "place"]) (sc := defScope s_are_twins) (by decide +kernel)) (fun _ _ _ _ _ => (pg_name (i := 3) sc_are_twins.nd rfl (Or.inl rfl))) (fun _ _ _ _ _ => (pts_one (pt_cmp (pc_neI (pv 3) (pv 1))))) (fun _ _ _ _ _ => (pv 3))) (nomark _)))), ?_⟩
    obtain ⟨t2, e2, hm⟩ := pb_get hm
    obtain ⟨u2, f2, r2⟩ := A2.at h1 e2
    obtain ⟨a3, vs3, rfl, q3, h3⟩ := r2
    refine ⟨_, rfl, _, rfl, _, _, _, _, rfl, rfl, SqL.of (w0.same _ _ q1), f2, _, rfl, ⟨_, SqL.of (w0.same _ _ q3)⟩, fun D4 nD4 => ?_⟩
    refine lcF (K := K) (tw_list (a := a3) h3) hm w0 nD4 (fun F' H' acc s w => SqL.of (w.same _ _ (s _ _ q3))) ?_ ?_
    · -- one turn
      intro b4 x4 F4 H4 H4' acc4 N4 M4 P4 s4 w4 y4 hN4 hM4 hm
      replace q1 := s4 _ _ q1
      replace h1 := A2.mono s4 h1
      replace q3 := s4 _ _ q3
      replace h3 := A2.mono s4 h3
      replace sF := sF.trans s4
      obtain ⟨rfl, r6⟩ := y4
      obtain rfl : x4 = V.int b4 := r6
      refine ⟨rfl, _, rfl, _, rfl, _, _, rfl, rfl, _, rfl, ?_⟩
      refine post_ite hm (fun k7 hm => ?_) (fun k7 hm => ?_)
      · skip
        exact ⟨_, rfl, hN4 _ (post_ok hm) _ _ _ w4 (Same.refl _) rep_i⟩
      · skip
        exact hM4 (post_ok hm) _ _ w4 (Same.refl _)
    intro us4 F4 H4 ys4 s4 w4 gg4 hm
    replace q1 := s4 _ _ q1
    replace h1 := A2.mono s4 h1
    replace q3 := s4 _ _ q3
    replace h3 := A2.mono s4 h3
    replace sF := sF.trans s4
    obtain ⟨t9, e9, hm⟩ := pb_get hm
    obtain ⟨u9, f9, r9⟩ := A2.at h1 e9
    obtain ⟨a10, vs10, rfl, q10, h10⟩ := r9
    refine ⟨_, rfl, _, rfl, _, _, _, _, rfl, rfl, SqL.of (w4.same _ _ q1), f9, _, rfl, ⟨_, SqL.of (w4.same _ _ q10)⟩, fun D11 nD11 => ?_⟩
    refine lcF (K := K) (tw_list (a := a10) h10) hm w4 nD11 (fun F' H' acc s w => SqL.of (w.same _ _ (s _ _ q10))) ?_ ?_
    · -- one turn
      intro b11 x11 F11 H11 H11' acc11 N11 M11 P11 s11 w11 y11 hN11 hM11 hm
      replace q1 := s11 _ _ q1
      replace h1 := A2.mono s11 h1
      replace q3 := s11 _ _ q3
      replace h3 := A2.mono s11 h3
      replace gg4 := A2.mono s11 gg4
      replace q10 := s11 _ _ q10
      replace h10 := A2.mono s11 h10
      replace sF := sF.trans s11
      obtain ⟨rfl, r13⟩ := y11
      obtain rfl : x11 = V.int b11 := r13
      refine ⟨rfl, _, rfl, _, rfl, _, _, rfl, rfl, _, rfl, ?_⟩
      refine post_ite hm (fun k14 hm => ?_) (fun k14 hm => ?_)
      · skip
        exact ⟨_, rfl, hN11 _ (post_ok hm) _ _ _ w11 (Same.refl _) rep_i⟩
      · skip
        exact hM11 (post_ok hm) _ _ w11 (Same.refl _)
    intro us11 F11 H11 ys11 s11 w11 gg11 hm
    replace q1 := s11 _ _ q1
    replace h1 := A2.mono s11 h1
    replace q3 := s11 _ _ q3
    replace h3 := A2.mono s11 h3
    replace gg4 := A2.mono s11 gg4
    replace q10 := s11 _ _ q10
    replace h10 := A2.mono s11 h10
    replace sF := sF.trans s11
    have w16 : W F11 _ ((D4, .lst us4) :: os) := w11.drop (pre := [])
    have w17 : W F11 _ (os) := w16.drop (pre := [])
    exact ⟨(ys4 : (List Int)), (ys11 : (List Int)), (rep_own (pre := [_]) w11 gg4), (rep_own (pre := []) w11 gg11), (post_ok hm) _ _ _ w17 sF rep_b⟩
def sp_twins_of (K : Fg) : Sp := fun vs H Q E => ∃ (F : Hp) (os : List (Addr × HO)) (v_web : V) (x_web : (Int × (Tup (Int × Int)))), vs = [v_web] ∧ W F H (os) ∧ rep K F v_web x_web ∧ Post (twins_of x_web) (Ret K F os Q) noX
theorem sc_twins_of : FnScope ["web", "near", "met", "found", "place", "twins", "other"] ["web"] (defScope s_twins_of) := ⟨rfl, rfl, rfl, by decide +kernel, rfl, by decide +kernel, by decide +kernel⟩
theorem ok_twins_of (T : Tx K mg A FD) : FnOk P w K mg base CX0 4 (A 35) (FD 35) ["web"] (sp_twins_of K) := by
  refine T.d35.fn.ok sc_twins_of (fun vs H Q E h => ?_) (fun cdv Ar outer s H vs Q E hr h => ?_)
  · obtain ⟨F, os, v_web, x_web, rfl, _⟩ := h
    rfl
  · obtain ⟨F0, os, v_web, x_web, rfl, w0, r_web, hm⟩ := h
    have sF : Same F0 F0 := Same.refl _
    obtain ⟨a1, u1, z1, rfl, q1, r1a, r1b⟩ := r_web
    obtain rfl : u1 = V.int x_web.1 := r1a
    obtain ⟨a2, vs2, rfl, q2, h2⟩ := r1b
    refine ⟨_, (pss_cons (ps_set (i := 1) sc_twins_of.nd rfl (Or.inr rfl) (pe_call (ok_near_lists_floors T) (hr.mono (by decide)) (by rfl) T.d30.mg T.d30.fn.kp T.d30.b .nil pass0 (pa_cons (pv 0) pa_nil))) (pss_cons (ps_set (i := 2) sc_twins_of.nd rfl (Or.inl rfl) (pe_lst pa_nil)) (pss_cons (ps_set (i := 3) sc_twins_of.nd rfl (Or.inl rfl) (pe_lst pa_nil)) (pss_cons (ps_for PassesOwn.never rfl (pi_range1 (by rfl) T.n_range (pa_cons (pe_ix (ix_tupK (K := K) rfl) (pv 0) pe_int (fun _ _ => rfl)) pa_nil)) (pg_name (i := 4) sc_twins_of.nd rfl (Or.inr rfl)) (pss_one (ps_if (pt_cmpR (op_notInL (K := K) rfl Int (by decide) (Room.units65 hr)) (pv 4) (pv 2) (by rfl)) (pss_cons (ps_set (i := 5) sc_twins_of.nd rfl (Or.inl rfl) (pe_op op_cat (pe_lst (pa_cons (pv 4) pa_nil)) (pe_lc (own := [("other", 6)]) (g := gName 6) (by rfl) sc_twins_of.nd (pi_range2 (by rfl) T.n_range (pa_cons (pe_op op_add (pv 4) pe_int) (pa_cons (pe_ix (ix_tupK (K := K) rfl) (pv 0) pe_int (fun _ _ => rfl)) pa_nil))) (blkOk_by (own := [("other", 6)]) (N := ["web", "near", "met", "found", "place", "twins", "other"]) (sc := defScope s_twins_of) (by decide +kernel)) (fun _ _ _ _ _ => (pg_name (i := 6) sc_twins_of.nd rfl (Or.inl rfl))) (fun _ _ _ _ _ => (pts_one (pt_val (pe_call (ok_are_twins T) (hr.mono (by decide)) (by rfl) T.d34.mg T.d34.fn.kp T.d34.b .nil pass0 (pa_cons (pv 1) (pa_cons (pv 4) (pa_cons (pv 6) pa_nil))))))) (fun _ _ _ _ _ => (pv 6))))) (pss_cons (ps_expr (pe_bm PySem.F.plainAttrs_list PySem.F.slot_list_extend PySem.F.type_list_extend mt_extend (pv 2) (pa_cons (pv 5) pa_nil))) (pss_one (ps_if (pt_cmp (pc_gt (pe_callB (call_lenN (K := K) rfl) (by rfl) T.n_len (by decide +kernel) (pa_cons (pv 5) pa_nil)) pe_int)) (pss_one (ps_expr (pe_bm PySem.F.plainAttrs_list PySem.F.slot_list_append PySem.F.type_list_append mt_append (pv 3) (pa_cons (pv 5) pa_nil)))) pss_nil)))) pss_nil))) (pss_one (ps_ret (pv 3))))))), ?_⟩
    refine ⟨_, rfl, _, _, _, (x_web : (Int × (Tup (Int × Int)))), rfl, w0, (rep_pair q1 rep_i (rep_tup q2 h2)), ?_⟩
    refine (post_bind hm).mono (fun y3 hm v3 F3 H3 w3 s3 r3 => ?_) (fun _ z => z)
    replace q1 := s3 _ _ q1
    replace q2 := s3 _ _ q2
    replace h2 := A2.mono s3 h2
    replace sF := sF.trans s3
    obtain ⟨a4, vs4, rfl, q4, h4⟩ := r3
    have h5 : A2 (rep K F3) [] ([] : (List Int)) := .nil
    refine ⟨(by show 0 ≤ sizeLine; decide), fun p6 n6 => ?_⟩
    have w6 : W F3 _ ((p6, .lst []) :: os) := w3.new n6
    have h7 : A2 (rep K F3) [] ([] : (List (List Thing))) := .nil
    refine ⟨(by show 0 ≤ sizeLine; decide), fun p8 n8 => ?_⟩
    have w8 : W F3 _ ((p8, .lst []) :: (p6, .lst []) :: os) := w6.new n8
    obtain ⟨c10, hm⟩ := pb_rng hm
    refine ⟨_, rfl, _, _, _, _, rfl, rfl, SqT.of (w8.same _ _ q1), rfl, _, rfl, c10.2.2.1, c10.2.2.2, ?_⟩
    refine forS (tw_rng0 (j := x_web.1)) hm (fun (g9 : (List (List Thing)) × (List Int)) σ H' => ∃ (F' : Hp) (vs9_0 : List V) (vs9_1 : List V) (o9_5 : Option V) (o9_4 : Option V), σ = [some (.ref a1), some (.ref a4), some (.ref p6), some (.ref p8), o9_4, o9_5, none] ∧ Same F3 F' ∧ W F' H' ((p8, .lst vs9_0) :: (p6, .lst vs9_1) :: os) ∧ A2 (rep K F') vs9_0 g9.1 ∧ A2 (rep K F') vs9_1 g9.2) ⟨_, _, _, _, _, rfl, Same.refl _, w8, h7, h5⟩ (fun _ _ _ _ => trivial) ?_ ?_
    · -- a turn
      intro b9 g9 x9 σ9 H9 H9' N9 P9 hI hy hN9 hm
      obtain ⟨F9, vs9_0, vs9_1, o9_5, o9_4, rfl, s9, w9, h9_0, h9_1⟩ := hI
      replace q1 := s9 _ _ q1
      replace h2 := A2.mono s9 h2
      replace q2 := s9 _ _ q2
      replace h4 := A2.mono s9 h4
      replace q4 := s9 _ _ q4
      replace sF := sF.trans s9
      obtain ⟨rfl, rfl⟩ := hy
      refine ⟨_, rfl, _, rfl, (b9 : Int), _, rep_i, (rep_own (pre := [_]) w9 h9_1), _, rfl, ?_⟩
      refine post_ite hm (fun k11 hm => ?_) (fun k11 hm => ?_)
      · skip
        have h12 : A2 (rep K F9) [(.int b9)] ([b9] : (List Int)) := .cons rep_i (.nil)
        refine ⟨_, rfl, (by show 1 ≤ sizeLine; decide), fun p13 n13 => ?_⟩
        have w13 : W F9 _ ((p13, .lst [(.int b9)]) :: (p8, .lst vs9_0) :: (p6, .lst vs9_1) :: os) := w9.new n13
        obtain ⟨c14, hm⟩ := pb_rng hm
        refine ⟨_, rfl, _, _, rfl, rfl, _, rfl, _, _, _, _, rfl, rfl, SqT.of (w13.same _ _ q1), rfl, _, _, rfl, c14, fun D15 nD15 => ?_⟩
        refine lcF (K := K) (tw_rng (i := (b9 + (1 : Int))) (j := x_web.1)) hm w13 nD15 (fun F' H' acc s w => trivial) ?_ ?_
        · -- one turn
          intro b15 x15 F15 H15 H15' acc15 N15 M15 P15 s15 w15 y15 hN15 hM15 hm
          replace q1 := s15 _ _ q1
          replace h2 := A2.mono s15 h2
          replace q2 := s15 _ _ q2
          replace h4 := A2.mono s15 h4
          replace q4 := s15 _ _ q4
          replace h9_0 := A2.mono s15 h9_0
          replace h9_1 := A2.mono s15 h9_1
          replace h12 := A2.mono s15 h12
          replace sF := sF.trans s15
          obtain ⟨rfl, rfl⟩ := y15
          refine ⟨rfl, _, rfl, _, rfl, _, rfl, _, _, _, (y3 : (List (List Int))), _, _, rfl, w15, (rep_lst q4 h4), ?_⟩
          refine (post_bind hm).mono (fun y17 hm v17 F17 H17 w17 s17 r17 => ?_) (fun _ z => z)
          replace q1 := s17 _ _ q1
          replace h2 := A2.mono s17 h2
          replace q2 := s17 _ _ q2
          replace h4 := A2.mono s17 h4
          replace q4 := s17 _ _ q4
          replace h9_0 := A2.mono s17 h9_0
          replace h9_1 := A2.mono s17 h9_1
          replace h12 := A2.mono s17 h12
          replace sF := sF.trans s17
          obtain rfl : v17 = V.bl y17 := r17
          refine ⟨_, rfl, ?_⟩
          refine post_ite hm (fun k18 hm => ?_) (fun k18 hm => ?_)
          · skip
            exact ⟨_, rfl, hN15 _ (post_ok hm) _ _ _ w17 s17 rep_i⟩
          · skip
            exact hM15 (post_ok hm) _ _ w17 s17
        intro us15 F15 H15 ys15 s15 w15 gg15 hm
        replace q1 := s15 _ _ q1
        replace h2 := A2.mono s15 h2
        replace q2 := s15 _ _ q2
        replace h4 := A2.mono s15 h4
        replace q4 := s15 _ _ q4
        replace h9_0 := A2.mono s15 h9_0
        replace h9_1 := A2.mono s15 h9_1
        replace h12 := A2.mono s15 h12
        replace sF := sF.trans s15
        obtain ⟨l20, z20, e20, hm⟩ := pn_extend hm
        have h20 : A2 (rep K F15) ([(.int b9)] ++ us15) l20 := e20 ▸ A2.append h12 gg15
        refine ⟨_, _, _, _, rfl, rfl, (w15.get (pre := [_])), (w15.get (pre := [])), (A2.le2 h12 gg15 z20), fun p21 n21 => ?_⟩
        have w21 : W F15 _ ((p21, .lst ([(.int b9)] ++ us15)) :: (D15, .lst us15) :: (p13, .lst [(.int b9)]) :: (p8, .lst vs9_0) :: (p6, .lst vs9_1) :: os) := w15.new n21
        obtain ⟨F22, s22, w22, q22⟩ : ∃ F', Same F15 F' ∧ W F' _ ((D15, .lst us15) :: (p13, .lst [(.int b9)]) :: (p8, .lst vs9_0) :: (p6, .lst vs9_1) :: os) ∧ F' p21 = some (.lst ([(.int b9)] ++ us15)) := w21.freezeE (pre := [])
        replace q1 := s22 _ _ q1
        replace h2 := A2.mono s22 h2
        replace q2 := s22 _ _ q2
        replace h4 := A2.mono s22 h4
        replace q4 := s22 _ _ q4
        replace h9_0 := A2.mono s22 h9_0
        replace h9_1 := A2.mono s22 h9_1
        replace h12 := A2.mono s22 h12
        replace gg15 := A2.mono s22 gg15
        replace h20 := A2.mono s22 h20
        replace sF := sF.trans s22
        have w23 : W F22 _ ((p13, .lst [(.int b9)]) :: (p8, .lst vs9_0) :: (p6, .lst vs9_1) :: os) := w22.drop (pre := [])
        have w24 : W F22 _ ((p8, .lst vs9_0) :: (p6, .lst vs9_1) :: os) := w23.drop (pre := [])
        obtain ⟨l25, z25, e25, hm⟩ := pn_extend hm
        refine ⟨_, rfl, .inl ⟨rfl, _, SqL.of (w24.get (pre := [_]))⟩, _, rfl, _, _, _, _, rfl, rfl, (w24.get (pre := [_])), (w24.same _ _ q22), (A2.le2 h9_1 h20 z25), ?_⟩
        have h25 : A2 (rep K F22) (vs9_1 ++ ([(.int b9)] ++ us15)) l25 := e25 ▸ A2.append h9_1 h20
        have w26 : W F22 _ ((p8, .lst vs9_0) :: (p6, .lst (vs9_1 ++ ([(.int b9)] ++ us15))) :: os) := w24.set (pre := [_])
        refine ⟨_, rfl, _, _, _, rfl, .inl (SqL.of (w26.same _ _ q22)), h20.length, _, _, rfl, rfl, _, rfl, ?_⟩
        refine post_ite hm (fun k27 hm => ?_) (fun k27 hm => ?_)
        · skip
          have h28 : A2 (rep K F22) ([(.int b9)] ++ us15) (mkpl l20) := A2.pl h20
          obtain ⟨l29, z29, e29, hm⟩ := pn_app hm
          refine ⟨_, rfl, .inl ⟨rfl, _, SqL.of (w26.get (pre := []))⟩, _, rfl, _, _, _, rfl, rfl, (w26.get (pre := [])), (A2.lt h9_0 z29), ?_⟩
          have h29 : A2 (rep K F22) (vs9_0 ++ [(V.ref p21)]) l29 := e29 ▸ A2.snoc h9_0 (rep_lst q22 h28)
          have w30 : W F22 _ ((p8, .lst (vs9_0 ++ [(V.ref p21)])) :: (p6, .lst (vs9_1 ++ ([(.int b9)] ++ us15))) :: os) := w26.set (pre := [])
          exact hN9 _ (post_ok hm) _ _ ⟨_, _, _, _, _, rfl, (s9.trans (s15.trans s22)), w30, h29, h25⟩
        · skip
          exact hN9 _ (post_ok hm) _ _ ⟨_, _, _, _, _, rfl, (s9.trans (s15.trans s22)), w26, h9_0, h25⟩
      · skip
        exact hN9 _ (post_ok hm) _ _ ⟨_, _, _, _, _, rfl, s9, w9, h9_0, h9_1⟩
    intro g9 σ9 H9 hI hm
    obtain ⟨F9, vs9_0, vs9_1, o9_5, o9_4, rfl, s9, w9, h9_0, h9_1⟩ := hI
    replace q1 := s9 _ _ q1
    replace h2 := A2.mono s9 h2
    replace q2 := s9 _ _ q2
    replace h4 := A2.mono s9 h4
    replace q4 := s9 _ _ q4
    replace sF := sF.trans s9
    obtain ⟨F31, s31, w31, q31⟩ : ∃ F', Same F9 F' ∧ W F' _ ((p6, .lst vs9_1) :: os) ∧ F' p8 = some (.lst vs9_0) := w9.freezeE (pre := [])
    replace q1 := s31 _ _ q1
    replace h2 := A2.mono s31 h2
    replace q2 := s31 _ _ q2
    replace h4 := A2.mono s31 h4
    replace q4 := s31 _ _ q4
    replace h9_0 := A2.mono s31 h9_0
    replace h9_1 := A2.mono s31 h9_1
    replace sF := sF.trans s31
    have w32 : W F31 _ (os) := w31.drop (pre := [])
    exact ⟨_, rfl, (post_ok hm) _ _ _ w32 sF (rep_lst q31 h9_0)⟩
def sp_is_lot (K : Fg) : Sp := fun vs H Q E => ∃ (F : Hp) (os : List (Addr × HO)) (v_web : V) (x_web : (Int × (Tup (Int × Int)))) (x_kind : Str) (v_lot : V) (x_lot : (List Thing)), vs = [v_web, .str x_kind, v_lot] ∧ W F H (os) ∧ rep K F v_web x_web ∧ rep K F v_lot x_lot ∧ Post (is_lot x_web x_kind x_lot) (Ret K F os Q) noX
theorem sc_is_lot : FnScope ["web", "kind", "lot", "things", "near", "thing", "other"] ["web", "kind", "lot"] (defScope s_is_lot) := ⟨rfl, rfl, rfl, by decide +kernel, rfl, by decide +kernel, by decide +kernel⟩
theorem ok_is_lot (T : Tx K mg A FD) : FnOk P w K mg base CX0 4 (A 36) (FD 36) ["web", "kind", "lot"] (sp_is_lot K) := by
  refine T.d36.fn.ok sc_is_lot (fun vs H Q E h => ?_) (fun cdv Ar outer s H vs Q E hr h => ?_)
  · obtain ⟨F, os, v_web, x_web, x_kind, v_lot, x_lot, rfl, _⟩ := h
    rfl
  · obtain ⟨F0, os, v_web, x_web, x_kind, v_lot, x_lot, rfl, w0, r_web, r_lot, hm⟩ := h
    have sF : Same F0 F0 := Same.refl _
    obtain ⟨a1, u1, z1, rfl, q1, r1a, r1b⟩ := r_web
    obtain rfl : u1 = V.int x_web.1 := r1a
    obtain ⟨a2, vs2, rfl, q2, h2⟩ := r1b
    obtain ⟨a3, vs3, rfl, q3, h3⟩ := r_lot
    refine ⟨_, (pss_cons (ps_set (i := 3) sc_is_lot.nd rfl (Or.inr rfl) (pe_call (ok_things_of T) (hr.mono (by decide)) (by rfl) T.d19.mg T.d19.fn.kp T.d19.b .nil pass0 (pa_cons (pv 0) (pa_cons (pv 1) pa_nil)))) (pss_cons (ps_if (PW.pt (pw_or (pt_cmp (pc_lt (pe_callB (call_lenN (K := K) rfl) (by rfl) T.n_len (by decide +kernel) (pa_cons (pv 2) pa_nil)) pe_int)) (pw_or (pt_cmp (pc_lt (pe_callB call_lenSN (by rfl) T.n_len (by decide +kernel) (pa_cons (pe_callTy (cr_setN (K := K) rfl rfl hr.units) (by rfl) T.n_set (by decide +kernel) (pa_cons (pv 2) pa_nil)) pa_nil)) (pe_callB (call_lenN (K := K) rfl) (by rfl) T.n_len (by decide +kernel) (pa_cons (pv 2) pa_nil)))) (pw_or1 (pt_not (pt_val (pe_callB (cr_allK (K := K) rfl rfl) (by rfl) T.n_all (by decide +kernel) (pa_cons (pe_lc (own := [("thing", 5)]) (g := gName 5) (by rfl) sc_is_lot.nd (pi_listK (K := K) rfl (pv 2)) (blkOk_by (own := [("thing", 5)]) (N := ["web", "kind", "lot", "things", "near", "thing", "other"]) (sc := defScope s_is_lot) (by decide +kernel)) (fun _ _ _ _ _ => (pg_name (i := 5) sc_is_lot.nd rfl (Or.inl rfl))) (fun _ _ _ _ _ => pts_nil) (fun _ _ _ _ _ => (pe_cmpR (op_inL (K := K) rfl Thing (by decide) (Room.units65 hr)) (pv 5) (pv 3) (by rfl)))) pa_nil)))))))) (pss_one (ps_ret pe_bl)) pss_nil) (pss_cons (ps_if (pt_cmp (pc_eqI (pe_callB (call_lenN (K := K) rfl) (by rfl) T.n_len (by decide +kernel) (pa_cons (pv 2) pa_nil)) pe_int)) (pss_one (ps_ret pe_bl)) pss_nil) (pss_cons (ps_if (pt_not (pt_val (pe_callB (cr_allK (K := K) rfl rfl) (by rfl) T.n_all (by decide +kernel) (pa_cons (pe_lc (own := [("thing", 5)]) (g := gName 5) (by rfl) sc_is_lot.nd (pi_listK (K := K) rfl (pv 2)) (blkOk_by (own := [("thing", 5)]) (N := ["web", "kind", "lot", "things", "near", "thing", "other"]) (sc := defScope s_is_lot) (by decide +kernel)) (fun _ _ _ _ _ => (pg_name (i := 5) sc_is_lot.nd rfl (Or.inl rfl))) (fun _ _ _ _ _ => pts_nil) (fun _ _ _ _ _ => (pe_callB (call_isB (K := K) rfl) (by rfl) T.n_isinstance (by decide +kernel) (pa_cons (pv 5) (pa_cons (pe_bltn (v := .ty "int") (by rfl) T.n_int (by decide +kernel) rfl) pa_nil))))) pa_nil)))) (pss_one (ps_ret pe_bl)) pss_nil) (pss_cons (ps_set (i := 4) sc_is_lot.nd rfl (Or.inr rfl) (pe_call (ok_near_lists_floors T) (hr.mono (by decide)) (by rfl) T.d30.mg T.d30.fn.kp T.d30.b .nil pass0 (pa_cons (pv 0) pa_nil))) (pss_one (ps_ret (pe_callB (cr_allK (K := K) rfl rfl) (by rfl) T.n_all (by decide +kernel) (pa_cons (pe_lc (own := [("other", 6)]) (g := gName 6) (by rfl) sc_is_lot.nd (pi_listK (K := K) rfl (pe_slice (sl_listK (K := K) rfl) (pv 2) (po_some pe_int) po_none)) (blkOk_by (own := [("other", 6)]) (N := ["web", "kind", "lot", "things", "near", "thing", "other"]) (sc := defScope s_is_lot) (by decide +kernel)) (fun _ _ _ _ _ => (pg_name (i := 6) sc_is_lot.nd rfl (Or.inl rfl))) (fun _ _ _ _ _ => pts_nil) (fun _ _ _ _ _ => (pe_call (ok_are_twins T) (hr.mono (by decide)) (by rfl) T.d34.mg T.d34.fn.kp T.d34.b .nil pass0 (pa_cons (pv 4) (pa_cons (pe_ix (ix_listK (K := K) rfl) (pv 2) pe_int (fun _ _ => rfl)) (pa_cons (pv 6) pa_nil)))))) pa_nil))))))))), ?_⟩
    refine ⟨_, rfl, _, rfl, _, _, _, (x_web : (Int × (Tup (Int × Int)))), _, rfl, w0, (rep_pair q1 rep_i (rep_tup q2 h2)), ?_⟩
    refine (post_bind hm).mono (fun y4 hm p4 us4 F4 H4 w4 s4 g4 => ?_) (fun _ z => z)
    replace q1 := s4 _ _ q1
    replace q2 := s4 _ _ q2
    replace h2 := A2.mono s4 h2
    replace q3 := s4 _ _ q3
    replace h3 := A2.mono s4 h3
    replace sF := sF.trans s4
    obtain ⟨F6, s6, w6, q6⟩ : ∃ F', Same F4 F' ∧ W F' _ (os) ∧ F' p4 = some (.lst us4) := w4.freezeE (pre := [])
    replace q1 := s6 _ _ q1
    replace q2 := s6 _ _ q2
    replace h2 := A2.mono s6 h2
    replace q3 := s6 _ _ q3
    replace h3 := A2.mono s6 h3
    replace g4 := A2.mono s6 g4
    replace sF := sF.trans s6
    refine stepN ?_
    try dsimp only
    refine stepSeq (stepIf ?_)
    refine joinT hm (fun (j7 : Bool) c H' => c = j7 ∧ ∃ (F' : Hp), Same F6 F' ∧ W F' H' (os)) ?_ ?_
    · intro Q7 P7 q7 hm
      refine ⟨_, rfl, _, _, _, rfl, .inl (SqL.of (w6.same _ _ q3)), h3.length, _, _, rfl, rfl, _, rfl, ?_⟩
      refine post_ite hm (fun k8 hm => ?_) (fun k8 hm => ?_)
      · skip
        exact q7 _ (post_ok hm) _ _ ⟨rfl, _, Same.refl _, w6⟩
      · skip
        obtain ⟨c10, hm⟩ := pb_setLen hm
        refine ⟨_, rfl, _, _, _, _, rfl, SqL.of (w6.same _ _ q3), w6.same, h3, c10, fun p10 n10 => ?_⟩
        obtain ⟨F10, s10, w10, q10⟩ := w6.frzE (o := SetN p10 x_lot.length) n10
        replace q1 := s10 _ _ q1
        replace h2 := A2.mono s10 h2
        replace q2 := s10 _ _ q2
        replace h3 := A2.mono s10 h3
        replace q3 := s10 _ _ q3
        replace g4 := A2.mono s10 g4
        replace q6 := s10 _ _ q6
        replace sF := sF.trans s10
        refine ⟨_, _, rfl, w10.same _ _ q10, (okS_len c10), _, rfl, _, _, _, rfl, .inl (SqL.of (w10.same _ _ q3)), h3.length, _, _, rfl, rfl, _, rfl, ?_⟩
        refine post_ite hm (fun k11 hm => ?_) (fun k11 hm => ?_)
        · skip
          exact q7 _ (post_ok hm) _ _ ⟨rfl, _, s10, w10⟩
        · skip
          refine ⟨_, rfl, _, rfl, ⟨_, SqL.of (w10.same _ _ q3)⟩, fun D13 nD13 => ?_⟩
          refine lcM (K := K) (tw_list (a := a3) h3) hm w10 nD13 (fun F' H' acc s w => SqL.of (w.same _ _ (s _ _ q3))) ?_ ?_
          · -- one turn
            intro b13 x13 F13 H13 H13' acc13 N13 P13 s13 w13 y13 hN13 hm
            replace q1 := s13 _ _ q1
            replace h2 := A2.mono s13 h2
            replace q2 := s13 _ _ q2
            replace h3 := A2.mono s13 h3
            replace q3 := s13 _ _ q3
            replace g4 := A2.mono s13 g4
            replace q6 := s13 _ _ q6
            replace sF := sF.trans s13
            obtain ⟨rfl, r15⟩ := y13
            replace r15 := Rep.mono s13 r15
            exact ⟨rfl, _, rfl, _, rfl, (b13 : Thing), _, (Rep.mono w13.same r15), (Rep.mono w13.same (rep_lst q6 g4)), hN13 _ (post_ok hm) _ _ _ w13 (Same.refl _) rep_b⟩
          intro us13 F13 H13 ys13 s13 w13 gg13 hm
          replace q1 := s13 _ _ q1
          replace h2 := A2.mono s13 h2
          replace q2 := s13 _ _ q2
          replace h3 := A2.mono s13 h3
          replace q3 := s13 _ _ q3
          replace g4 := A2.mono s13 g4
          replace q6 := s13 _ _ q6
          replace sF := sF.trans s13
          have w19 : W F13 _ (os) := w13.drop (pre := [])
          exact ⟨_, _, rfl, bools_q (SqL.of (w13.get (pre := []))) gg13, _, rfl, q7 _ (post_ok hm) _ _ ⟨rfl, _, (s10.trans s13), w19⟩⟩
    intro j7 c7 H7 hc7 hm
    obtain ⟨rfl, F7, s7, w7⟩ := hc7
    replace q1 := s7 _ _ q1
    replace h2 := A2.mono s7 h2
    replace q2 := s7 _ _ q2
    replace h3 := A2.mono s7 h3
    replace q3 := s7 _ _ q3
    replace g4 := A2.mono s7 g4
    replace q6 := s7 _ _ q6
    replace sF := sF.trans s7
    refine post_ite hm (fun k20 hm => ?_) (fun k20 hm => ?_)
    · skip
      exact (post_ok hm) _ _ _ w7 sF rep_b
    · skip
      refine ⟨_, rfl, _, _, _, rfl, .inl (SqL.of (w7.same _ _ q3)), h3.length, _, _, rfl, rfl, _, rfl, ?_⟩
      refine post_ite hm (fun k21 hm => ?_) (fun k21 hm => ?_)
      · skip
        exact (post_ok hm) _ _ _ w7 sF rep_b
      · skip
        refine ⟨_, rfl, _, rfl, ⟨_, SqL.of (w7.same _ _ q3)⟩, fun D22 nD22 => ?_⟩
        refine lcM (K := K) (tw_list (a := a3) h3) hm w7 nD22 (fun F' H' acc s w => SqL.of (w.same _ _ (s _ _ q3))) ?_ ?_
        · -- one turn
          intro b22 x22 F22 H22 H22' acc22 N22 P22 s22 w22 y22 hN22 hm
          replace q1 := s22 _ _ q1
          replace h2 := A2.mono s22 h2
          replace q2 := s22 _ _ q2
          replace h3 := A2.mono s22 h3
          replace q3 := s22 _ _ q3
          replace g4 := A2.mono s22 g4
          replace q6 := s22 _ _ q6
          replace sF := sF.trans s22
          obtain ⟨rfl, r24⟩ := y22
          replace r24 := Rep.mono s22 r24
          obtain ⟨a26, y26, k26⟩ := th_int w22.same r24
          exact ⟨rfl, _, rfl, _, _, _, b22.isPl, rfl, y26, k26, hN22 _ (post_ok hm) _ _ _ w22 (Same.refl _) rep_b⟩
        intro us22 F22 H22 ys22 s22 w22 gg22 hm
        replace q1 := s22 _ _ q1
        replace h2 := A2.mono s22 h2
        replace q2 := s22 _ _ q2
        replace h3 := A2.mono s22 h3
        replace q3 := s22 _ _ q3
        replace g4 := A2.mono s22 g4
        replace q6 := s22 _ _ q6
        replace sF := sF.trans s22
        refine ⟨_, _, rfl, bools_q (SqL.of (w22.get (pre := []))) gg22, _, rfl, ?_⟩
        have w28 : W F22 _ (os) := w22.drop (pre := [])
        refine post_ite hm (fun k29 hm => ?_) (fun k29 hm => ?_)
        · skip
          exact (post_ok hm) _ _ _ w28 sF rep_b
        · skip
          refine ⟨_, rfl, _, _, _, (x_web : (Int × (Tup (Int × Int)))), rfl, w28, (rep_pair q1 rep_i (rep_tup q2 h2)), ?_⟩
          refine (post_bind hm).mono (fun y30 hm v30 F30 H30 w30 s30 r30 => ?_) (fun _ z => z)
          replace q1 := s30 _ _ q1
          replace h2 := A2.mono s30 h2
          replace q2 := s30 _ _ q2
          replace h3 := A2.mono s30 h3
          replace q3 := s30 _ _ q3
          replace g4 := A2.mono s30 g4
          replace q6 := s30 _ _ q6
          replace sF := sF.trans s30
          obtain ⟨a31, vs31, rfl, q31, h31⟩ := r30
          have h32 : A2 (rep K F30) (cutV vs3 (some (1 : Int)) none) (cutL x_lot (some (1 : Int)) none) := sl_cut h3 _ _
          refine ⟨_, rfl, _, rfl, _, _, rfl, SqL.of (w30.same _ _ q3), fun p33 n33 => ?_⟩
          have w33 : W F30 _ ((p33, .lst (cutV vs3 (some (1 : Int)) none)) :: os) := w30.new n33
          obtain ⟨F34, s34, w34, q34⟩ : ∃ F', Same F30 F' ∧ W F' _ (os) ∧ F' p33 = some (.lst (cutV vs3 (some (1 : Int)) none)) := w33.freezeE (pre := [])
          replace q1 := s34 _ _ q1
          replace h2 := A2.mono s34 h2
          replace q2 := s34 _ _ q2
          replace h3 := A2.mono s34 h3
          replace q3 := s34 _ _ q3
          replace g4 := A2.mono s34 g4
          replace q6 := s34 _ _ q6
          replace h31 := A2.mono s34 h31
          replace q31 := s34 _ _ q31
          replace h32 := A2.mono s34 h32
          replace sF := sF.trans s34
          refine ⟨_, rfl, ⟨_, SqL.of (w34.same _ _ q34)⟩, fun D35 nD35 => ?_⟩
          refine lcM (K := K) (tw_list (a := p33) h32) hm w34 nD35 (fun F' H' acc s w => SqL.of (w.same _ _ (s _ _ q34))) ?_ ?_
          · -- one turn
            intro b35 x35 F35 H35 H35' acc35 N35 P35 s35 w35 y35 hN35 hm
            replace q1 := s35 _ _ q1
            replace h2 := A2.mono s35 h2
            replace q2 := s35 _ _ q2
            replace h3 := A2.mono s35 h3
            replace q3 := s35 _ _ q3
            replace g4 := A2.mono s35 g4
            replace q6 := s35 _ _ q6
            replace h31 := A2.mono s35 h31
            replace q31 := s35 _ _ q31
            replace h32 := A2.mono s35 h32
            replace q34 := s35 _ _ q34
            replace sF := sF.trans s35
            obtain ⟨rfl, r37⟩ := y35
            replace r37 := Rep.mono s35 r37
            obtain ⟨t39, e39, hm⟩ := pb_get hm
            obtain ⟨u39, f39, r39⟩ := A2.at h3 e39
            obtain ⟨t41, e41, hm⟩ := pb_asPl hm
            have r41 : u39 = V.int t41 := (show rep K F35 u39 (Thing.pl t41) from e41 ▸ r39)
            subst r41
            obtain ⟨t42, e42, hm⟩ := pb_asPl hm
            have r42 : x35 = V.int t42 := (show rep K F35 x35 (Thing.pl t42) from e42 ▸ r37)
            subst r42
            refine ⟨rfl, _, rfl, _, rfl, _, _, _, _, rfl, rfl, SqL.of (w35.same _ _ q3), f39, _, rfl, _, _, _, (y30 : (List (List Int))), _, _, rfl, w35, (rep_lst q31 h31), ?_⟩
            refine (post_bind hm).mono (fun y43 hm v43 F43 H43 w43 s43 r43 => ?_) (fun _ z => z)
            replace q1 := s43 _ _ q1
            replace h2 := A2.mono s43 h2
            replace q2 := s43 _ _ q2
            replace h3 := A2.mono s43 h3
            replace q3 := s43 _ _ q3
            replace g4 := A2.mono s43 g4
            replace q6 := s43 _ _ q6
            replace h31 := A2.mono s43 h31
            replace q31 := s43 _ _ q31
            replace h32 := A2.mono s43 h32
            replace q34 := s43 _ _ q34
            replace r37 := Rep.mono s43 r37
            replace r39 := Rep.mono s43 r39
            replace sF := sF.trans s43
            obtain rfl : v43 = V.bl y43 := r43
            exact hN35 _ (post_ok hm) _ _ _ w43 s43 rep_b
          intro us35 F35 H35 ys35 s35 w35 gg35 hm
          replace q1 := s35 _ _ q1
          replace h2 := A2.mono s35 h2
          replace q2 := s35 _ _ q2
          replace h3 := A2.mono s35 h3
          replace q3 := s35 _ _ q3
          replace g4 := A2.mono s35 g4
          replace q6 := s35 _ _ q6
          replace h31 := A2.mono s35 h31
          replace q31 := s35 _ _ q31
          replace h32 := A2.mono s35 h32
          replace q34 := s35 _ _ q34
          replace sF := sF.trans s35
          have w45 : W F35 _ (os) := w35.drop (pre := [])
          exact ⟨_, _, rfl, bools_q (SqL.of (w35.get (pre := []))) gg35, (post_ok hm) _ _ _ w45 sF rep_b⟩
def sp_lot_parters (K : Fg) : Sp := fun vs H Q E => ∃ (F : Hp) (os : List (Addr × HO)) (v_table : V) (x_table : (List (List Int))) (v_lot : V) (x_lot : (List Thing)), vs = [v_table, v_lot] ∧ W F H (os) ∧ rep K F v_table x_table ∧ rep K F v_lot x_lot ∧ Post (lot_parters x_table x_lot) (Ret K F os Q) noX
theorem sc_lot_parters : FnScope ["table", "lot", "place", "fars", "thing"] ["table", "lot"] (defScope s_lot_parters) := ⟨rfl, rfl, rfl, by decide +kernel, rfl, by decide +kernel, by decide +kernel⟩
theorem ok_lot_parters (T : Tx K mg A FD) : FnOk P w K mg base CX0 2 (A 37) (FD 37) ["table", "lot"] (sp_lot_parters K) := by
  refine T.d37.fn.ok sc_lot_parters (fun vs H Q E h => ?_) (fun cdv Ar outer s H vs Q E hr h => ?_)
  · obtain ⟨F, os, v_table, x_table, v_lot, x_lot, rfl, _⟩ := h
    rfl
  · obtain ⟨F0, os, v_table, x_table, v_lot, x_lot, rfl, w0, r_table, r_lot, hm⟩ := h
    have sF : Same F0 F0 := Same.refl _
    obtain ⟨a1, vs1, rfl, q1, h1⟩ := r_table
    obtain ⟨a2, vs2, rfl, q2, h2⟩ := r_lot
    refine ⟨_, (pss_one (ps_ret (pe_lc (own := [("place", 2), ("fars", 3)]) (g := _) (by rfl) sc_lot_parters.nd (pi_k (K := K) (wi := fun K => iEnum K _) rfl (pi_enum (by rfl) T.n_enumerate (pa_cons (pv 0) pa_nil))) (blkOk_by (own := [("place", 2), ("fars", 3)]) (N := ["table", "lot", "place", "fars", "thing"]) (sc := defScope s_lot_parters) (by decide +kernel)) (fun _ _ _ _ _ => (pg_k (K := K) (t := fun K => gTup K 2 _) rfl (pg_tup (n := 2) rfl (pgs_cons (pg_name (i := 2) sc_lot_parters.nd rfl (Or.inl rfl)) (pgs_cons (pg_name (i := 3) sc_lot_parters.nd rfl (Or.inr rfl)) pgs_nil))))) (fun _ _ _ _ _ => (pts_one (pt_cmp (pc_gt (pe_callB (call_lenSO (w := w) rfl) (by rfl) T.n_len (by decide +kernel) (pa_cons (pe_callTy (cr_setLI (K := K) (w := w) rfl rfl rfl) (by rfl) T.n_set (by decide +kernel) (pa_cons (pe_lc (own := [("thing", 4)]) (g := gName 4) (by rfl) sc_lot_parters.nd (pi_listK (K := K) rfl (pv 1)) (blkOk_by (own := [("thing", 4)]) (N := ["table", "lot", "place", "fars", "thing"]) (sc := _) (by kernel_rfl)) (fun _ _ _ _ _ => (pg_name (i := 4) sc_lot_parters.nd rfl (Or.inl rfl))) (fun _ _ _ _ _ => pts_nil) (fun _ _ _ _ _ => (pe_call (ok_far_by_floors T) (hr.mono (by decide)) (by rfl) T.d32.mg T.d32.fn.kp T.d32.b .nil pass0 (pa_cons (pv 3) (pa_cons (pv 4) pa_nil))))) pa_nil)) pa_nil)) pe_int)))) (fun _ _ _ _ _ => (pv 2))))), ?_⟩
    refine ⟨_, rfl, _, _, rfl, SqL.of (w0.same _ _ q1), fun D3 nD3 => ?_⟩
    refine lcF (K := K) (tw_enum (a := a1) h1) hm w0 nD3 (fun F' H' acc s w => SqL.of (w.same _ _ (s _ _ q1))) ?_ ?_
    · -- one turn
      intro b3 x3 F3 H3 H3' acc3 N3 M3 P3 s3 w3 y3 hN3 hM3 hm
      replace q1 := s3 _ _ q1
      replace h1 := A2.mono s3 h1
      replace q2 := s3 _ _ q2
      replace h2 := A2.mono s3 h2
      replace sF := sF.trans s3
      obtain ⟨T5, u5, rfl, n5, rfl, r5⟩ := y3
      obtain ⟨F5, s5, w5, q5⟩ := w3.frzE (o := .tup [.int b3.1, u5]) n5
      replace r5 := Rep.mono s3 r5
      replace q1 := s5 _ _ q1
      replace h1 := A2.mono s5 h1
      replace q2 := s5 _ _ q2
      replace h2 := A2.mono s5 h2
      replace sF := sF.trans s5
      replace r5 := Rep.mono s5 r5
      obtain ⟨a6, vs6, rfl, q6, h6⟩ := r5
      refine ⟨_, _, rfl, SqT.of (w5.same _ _ q5), rfl, _, _, rfl, _, _, rfl, rfl, rfl, _, rfl, _, rfl, ⟨_, SqL.of (w5.same _ _ q2)⟩, fun D7 nD7 => ?_⟩
      refine lcM (K := K) (tw_list (a := a2) h2) hm w5 nD7 (fun F' H' acc s w => SqL.of (w.same _ _ (s _ _ q2))) ?_ ?_
      · -- one turn
        intro b7 x7 F7 H7 H7' acc7 N7 P7 s7 w7 y7 hN7 hm
        replace q1 := s7 _ _ q1
        replace h1 := A2.mono s7 h1
        replace q2 := s7 _ _ q2
        replace h2 := A2.mono s7 h2
        replace q5 := s7 _ _ q5
        replace q6 := s7 _ _ q6
        replace h6 := A2.mono s7 h6
        replace sF := sF.trans s7
        obtain ⟨rfl, r9⟩ := y7
        replace r9 := Rep.mono s7 r9
        refine ⟨rfl, _, rfl, _, rfl, _, _, _, (b3.2 : (List Int)), _, (b7 : Thing), rfl, w7, (rep_lst q6 h6), r9, ?_⟩
        refine (post_bind hm).mono (fun y11 hm v11 F11 H11 w11 s11 r11 => ?_) (fun _ z => z)
        replace q1 := s11 _ _ q1
        replace h1 := A2.mono s11 h1
        replace q2 := s11 _ _ q2
        replace h2 := A2.mono s11 h2
        replace q5 := s11 _ _ q5
        replace q6 := s11 _ _ q6
        replace h6 := A2.mono s11 h6
        replace r9 := Rep.mono s11 r9
        replace sF := sF.trans s11
        obtain rfl : v11 = V.int y11 := r11
        exact hN7 _ (post_ok hm) _ _ _ w11 s11 rep_i
      intro us7 F7 H7 ys7 s7 w7 gg7 hm
      replace q1 := s7 _ _ q1
      replace h1 := A2.mono s7 h1
      replace q2 := s7 _ _ q2
      replace h2 := A2.mono s7 h2
      replace q5 := s7 _ _ q5
      replace q6 := s7 _ _ q6
      replace h6 := A2.mono s7 h6
      replace sF := sF.trans s7
      obtain ⟨c13, d13, hm⟩ := pb_setLenI hm
      refine ⟨_, _, rfl, ints_q (SqL.of (w7.get (pre := []))) gg7, c13, fun p13 n13 => ?_⟩
      obtain ⟨F13, s13, w13, q13⟩ := w7.frzE (o := SetO w p13 (fun j => decide (j ∈ ys7)) (nub ys7).length) n13
      replace q1 := s13 _ _ q1
      replace h1 := A2.mono s13 h1
      replace q2 := s13 _ _ q2
      replace h2 := A2.mono s13 h2
      replace q5 := s13 _ _ q5
      replace q6 := s13 _ _ q6
      replace h6 := A2.mono s13 h6
      replace gg7 := A2.mono s13 gg7
      replace sF := sF.trans s13
      refine ⟨_, _, _, rfl, w13.same _ _ q13, d13, _, _, rfl, rfl, _, rfl, ?_⟩
      refine post_ite hm (fun k14 hm => ?_) (fun k14 hm => ?_)
      · skip
        have w15 : W F13 _ ((D3, .lst acc3) :: os) := w13.drop (pre := [])
        exact ⟨_, rfl, hN3 _ (post_ok hm) _ _ _ w15 (s5.trans (s7.trans s13)) rep_i⟩
      · skip
        have w16 : W F13 _ ((D3, .lst acc3) :: os) := w13.drop (pre := [])
        exact hM3 (post_ok hm) _ _ w16 (s5.trans (s7.trans s13))
    intro us3 F3 H3 ys3 s3 w3 gg3 hm
    replace q1 := s3 _ _ q1
    replace h1 := A2.mono s3 h1
    replace q2 := s3 _ _ q2
    replace h2 := A2.mono s3 h2
    replace sF := sF.trans s3
    obtain ⟨F18, s18, w18, q18⟩ : ∃ F', Same F3 F' ∧ W F' _ (os) ∧ F' D3 = some (.lst us3) := w3.freezeE (pre := [])
    replace q1 := s18 _ _ q1
    replace h1 := A2.mono s18 h1
    replace q2 := s18 _ _ q2
    replace h2 := A2.mono s18 h2
    replace gg3 := A2.mono s18 gg3
    replace sF := sF.trans s18
    exact (post_ok hm) _ _ _ w18 sF (rep_lst q18 gg3)
def sp_floor_height (K : Fg) : Sp := fun vs H Q E => ∃ (F : Hp) (os : List (Addr × HO)) (v_web : V) (x_web : (Int × (Tup (Int × Int)))) (x_kind : Str) (v_lots : V) (x_lots : (List (List Thing))), vs = [v_web, .str x_kind, v_lots] ∧ W F H (os) ∧ rep K F v_web x_web ∧ rep K F v_lots x_lots ∧ Post (floor_height x_web x_kind x_lots) (Ret K F os Q) noX
theorem sc_floor_height : FnScope ["web", "kind", "lots", "table", "met", "height", "lot", "place"] ["web", "kind", "lots"] (defScope s_floor_height) := ⟨rfl, rfl, rfl, by decide +kernel, rfl, by decide +kernel, by decide +kernel⟩
theorem ok_floor_height (T : Tx K mg A FD) : FnOk P w K mg base CX0 5 (A 38) (FD 38) ["web", "kind", "lots"] (sp_floor_height K) := by
  refine T.d38.fn.ok sc_floor_height (fun vs H Q E h => ?_) (fun cdv Ar outer s H vs Q E hr h => ?_)
  · obtain ⟨F, os, v_web, x_web, x_kind, v_lots, x_lots, rfl, _⟩ := h
    rfl
  · obtain ⟨F0, os, v_web, x_web, x_kind, v_lots, x_lots, rfl, w0, r_web, r_lots, hm⟩ := h
    have sF : Same F0 F0 := Same.refl _
    obtain ⟨a1, u1, z1, rfl, q1, r1a, r1b⟩ := r_web
    obtain rfl : u1 = V.int x_web.1 := r1a
    obtain ⟨a2, vs2, rfl, q2, h2⟩ := r1b
    obtain ⟨a3, vs3, rfl, q3, h3⟩ := r_lots
    refine ⟨_, (pss_cons (ps_setLc (i := 3) (own := [("place", 7)]) (g := gName 7) (by rfl) sc_floor_height.nd rfl rfl (sw_true rfl rfl rfl (by decide +kernel)) (pi_range1 (by rfl) T.n_range (pa_cons (pe_ix (ix_tupK (K := K) rfl) (pv 0) pe_int (fun _ _ => rfl)) pa_nil)) (blkOk_by (own := [("place", 7)]) (N := ["web", "kind", "lots", "table", "met", "height", "lot", "place"]) (sc := defScope s_floor_height) (by decide +kernel)) (fun _ _ _ _ _ => (pg_name (i := 7) sc_floor_height.nd rfl (Or.inl rfl))) (fun _ _ _ _ _ => pts_nil) (fun _ _ _ _ _ => (pe_call (ok_fars_from T) (hr.mono (by decide)) (by rfl) T.d16.mg T.d16.fn.kp T.d16.b .nil pass0 (pa_cons (pv 0) (pa_cons (pv 7) pa_nil))))) (pss_cons (ps_set (i := 4) sc_floor_height.nd rfl (Or.inl rfl) (pe_lst pa_nil)) (pss_cons (ps_set (i := 5) sc_floor_height.nd rfl (Or.inl rfl) pe_int1) (pss_cons (ps_for PassesOwn.never rfl (pi_listK (K := K) rfl (pv 2)) (pg_name (i := 6) sc_floor_height.nd rfl (Or.inl rfl)) (pss_cons (ps_if (pt_not (pt_val (pe_call (ok_is_lot T) (hr.mono (by decide)) (by rfl) T.d36.mg T.d36.fn.kp T.d36.b .nil pass0 (pa_cons (pv 0) (pa_cons (pv 1) (pa_cons (pv 6) pa_nil)))))) (pss_one (ps_ret pe_non)) pss_nil) (pss_cons (ps_for PassesOwn.never rfl (pi_listK (K := K) rfl (pe_call (ok_lot_parters T) (hr.mono (by decide)) (by rfl) T.d37.mg T.d37.fn.kp T.d37.b .nil pass0 (pa_cons (pv 3) (pa_cons (pv 6) pa_nil)))) (pg_name (i := 7) sc_floor_height.nd rfl (Or.inl rfl)) (pss_cons (ps_if (pt_cmpR (op_inL (K := K) rfl Int (by decide) (Room.units65 hr)) (pv 7) (pv 4) (by rfl)) (pss_one (ps_ret pe_non)) pss_nil) (pss_one (ps_expr (pe_bm PySem.F.plainAttrs_list PySem.F.slot_list_append PySem.F.type_list_append mt_append (pv 4) (pa_cons (pv 7) pa_nil)))))) (pss_one (ps_set (i := 5) sc_floor_height.nd rfl (Or.inl rfl) (pe_op op_sub (pe_op op_add (pv 5) (pe_callB (call_lenN (K := K) rfl) (by rfl) T.n_len (by decide +kernel) (pa_cons (pv 6) pa_nil))) pe_int)))))) (pss_one (ps_ret (pv 5))))))), ?_⟩
    obtain ⟨c4, hm⟩ := pb_rng hm
    refine ⟨_, rfl, _, _, _, _, rfl, rfl, SqT.of (w0.same _ _ q1), rfl, _, rfl, c4.2.2.1, c4.2.2.2, fun D5 nD5 => ?_⟩
    refine lcM (K := K) (tw_rng0 (j := x_web.1)) hm w0 nD5 (fun F' H' acc s w => trivial) ?_ ?_
    · -- one turn
      intro b5 x5 F5 H5 H5' acc5 N5 P5 s5 w5 y5 hN5 hm
      replace q1 := s5 _ _ q1
      replace q2 := s5 _ _ q2
      replace h2 := A2.mono s5 h2
      replace q3 := s5 _ _ q3
      replace h3 := A2.mono s5 h3
      replace sF := sF.trans s5
      obtain ⟨rfl, rfl⟩ := y5
      refine ⟨rfl, _, rfl, _, rfl, _, _, _, (x_web : (Int × (Tup (Int × Int)))), _, rfl, w5, (rep_pair q1 rep_i (rep_tup q2 h2)), ?_⟩
      refine (post_bind hm).mono (fun y7 hm p7 us7 F7 H7 w7 s7 g7 => ?_) (fun _ z => z)
      replace q1 := s7 _ _ q1
      replace q2 := s7 _ _ q2
      replace h2 := A2.mono s7 h2
      replace q3 := s7 _ _ q3
      replace h3 := A2.mono s7 h3
      replace sF := sF.trans s7
      obtain ⟨F9, s9, w9, q9⟩ : ∃ F', Same F7 F' ∧ W F' _ ((D5, .lst acc5) :: os) ∧ F' p7 = some (.lst us7) := w7.freezeE (pre := [])
      replace q1 := s9 _ _ q1
      replace q2 := s9 _ _ q2
      replace h2 := A2.mono s9 h2
      replace q3 := s9 _ _ q3
      replace h3 := A2.mono s9 h3
      replace g7 := A2.mono s9 g7
      replace sF := sF.trans s9
      exact hN5 _ (post_ok hm) _ _ _ w9 (s7.trans s9) (rep_lst q9 g7)
    intro us5 F5 H5 ys5 s5 w5 gg5 hm
    replace q1 := s5 _ _ q1
    replace q2 := s5 _ _ q2
    replace h2 := A2.mono s5 h2
    replace q3 := s5 _ _ q3
    replace h3 := A2.mono s5 h3
    replace sF := sF.trans s5
    obtain ⟨F11, s11, w11, q11⟩ : ∃ F', Same F5 F' ∧ W F' _ (os) ∧ F' D5 = some (.lst us5) := w5.freezeE (pre := [])
    replace q1 := s11 _ _ q1
    replace q2 := s11 _ _ q2
    replace h2 := A2.mono s11 h2
    replace q3 := s11 _ _ q3
    replace h3 := A2.mono s11 h3
    replace gg5 := A2.mono s11 gg5
    replace sF := sF.trans s11
    have h12 : A2 (rep K F11) [] ([] : (List Int)) := .nil
    refine ⟨(by show 0 ≤ sizeLine; decide), fun p13 n13 => ?_⟩
    have w13 : W F11 _ ((p13, .lst []) :: os) := w11.new n13
    refine ⟨trivial, _, rfl, _, rfl, ⟨_, SqL.of (w13.same _ _ q3)⟩, ?_⟩
    refine forX (tw_list (a := a3) h3) hm (fun (g14 : Int × (List Int)) σ H' => ∃ (F' : Hp) (vs14_0 : List V) (o14_7 : Option V) (o14_6 : Option V), σ = [some (.ref a1), some (.str x_kind), some (.ref a3), some (.ref D5), some (.ref p13), some (.int g14.1), o14_6, o14_7] ∧ Same F11 F' ∧ W F' H' ((p13, .lst vs14_0) :: os) ∧ A2 (rep K F') vs14_0 g14.2) ⟨_, _, _, _, rfl, Same.refl _, w13, h12⟩ (fun g σ H' hI => by obtain ⟨F', _, _, _, _, s, w, _⟩ := hI; exact SqL.of (w.same _ _ (s _ _ q3))) ?_ ?_
    · -- a turn
      intro b14 g14 x14 σ14 H14 H14' N14 B14 P14 hI hy hN14 hB14 hZ14 hm
      obtain ⟨F14, vs14_0, o14_7, o14_6, rfl, s14, w14, h14_0⟩ := hI
      replace q1 := s14 _ _ q1
      replace h2 := A2.mono s14 h2
      replace q2 := s14 _ _ q2
      replace h3 := A2.mono s14 h3
      replace q3 := s14 _ _ q3
      replace gg5 := A2.mono s14 gg5
      replace q11 := s14 _ _ q11
      replace sF := sF.trans s14
      obtain ⟨rfl, r15⟩ := hy
      replace r15 := Rep.mono s14 r15
      obtain ⟨a16, vs16, rfl, q16, h16⟩ := r15
      refine ⟨_, rfl, _, rfl, _, rfl, _, _, _, (x_web : (Int × (Tup (Int × Int)))), _, _, (b14 : (List Thing)), rfl, w14, (rep_pair q1 rep_i (rep_tup q2 h2)), (rep_lst q16 h16), ?_⟩
      refine (post_bind hm).mono (fun y17 hm v17 F17 H17 w17 s17 r17 => ?_) (fun _ z => z)
      replace q1 := s17 _ _ q1
      replace h2 := A2.mono s17 h2
      replace q2 := s17 _ _ q2
      replace h3 := A2.mono s17 h3
      replace q3 := s17 _ _ q3
      replace gg5 := A2.mono s17 gg5
      replace q11 := s17 _ _ q11
      replace h16 := A2.mono s17 h16
      replace q16 := s17 _ _ q16
      replace h14_0 := A2.mono s17 h14_0
      replace sF := sF.trans s17
      obtain rfl : v17 = V.bl y17 := r17
      refine ⟨_, rfl, ?_⟩
      refine post_ite hm (fun k18 hm => ?_) (fun k18 hm => ?_)
      · skip
        have hm := hZ14 _ (post_ok hm)
        have w19 : W F17 _ (os) := w17.drop (pre := [])
        exact (post_ok hm) _ _ _ w19 sF rep_none
      · skip
        refine ⟨_, rfl, _, rfl, _, _, _, (ys5 : (List (List Int))), _, (b14 : (List Thing)), rfl, w17, (rep_lst q11 gg5), (rep_lst q16 h16), ?_⟩
        refine (post_bind hm).mono (fun y21 hm v21 F21 H21 w21 s21 r21 => ?_) (fun _ z => z)
        replace q1 := s21 _ _ q1
        replace h2 := A2.mono s21 h2
        replace q2 := s21 _ _ q2
        replace h3 := A2.mono s21 h3
        replace q3 := s21 _ _ q3
        replace gg5 := A2.mono s21 gg5
        replace q11 := s21 _ _ q11
        replace h16 := A2.mono s21 h16
        replace q16 := s21 _ _ q16
        replace h14_0 := A2.mono s21 h14_0
        replace sF := sF.trans s21
        obtain ⟨a22, vs22, rfl, q22, h22⟩ := r21
        refine ⟨_, rfl, ⟨_, SqL.of (w21.same _ _ q22)⟩, ?_⟩
        refine forX (tw_list (a := a22) h22) hm (fun (g20 : (List Int)) σ H' => ∃ (F' : Hp) (vs20_0 : List V) (o20_7 : Option V), σ = [some (.ref a1), some (.str x_kind), some (.ref a3), some (.ref D5), some (.ref p13), some (.int g14.1), some (.ref a16), o20_7] ∧ Same F21 F' ∧ W F' H' ((p13, .lst vs20_0) :: os) ∧ A2 (rep K F') vs20_0 g20) ⟨_, _, _, rfl, Same.refl _, w21, h14_0⟩ (fun g σ H' hI => by obtain ⟨F', _, _, _, s, w, _⟩ := hI; exact SqL.of (w.same _ _ (s _ _ q22))) ?_ ?_
        · -- a turn
          intro b20 g20 x20 σ20 H20 H20' N20 B20 P20 hI hy hN20 hB20 hZ20 hm
          obtain ⟨F20, vs20_0, o20_7, rfl, s20, w20, h20_0⟩ := hI
          replace q1 := s20 _ _ q1
          replace h2 := A2.mono s20 h2
          replace q2 := s20 _ _ q2
          replace h3 := A2.mono s20 h3
          replace q3 := s20 _ _ q3
          replace gg5 := A2.mono s20 gg5
          replace q11 := s20 _ _ q11
          replace h16 := A2.mono s20 h16
          replace q16 := s20 _ _ q16
          replace q22 := s20 _ _ q22
          replace h22 := A2.mono s20 h22
          replace sF := sF.trans s20
          obtain ⟨rfl, r23⟩ := hy
          obtain rfl : x20 = V.int b20 := r23
          refine ⟨_, rfl, _, rfl, (b20 : Int), _, rep_i, (rep_own (pre := []) w20 h20_0), _, rfl, ?_⟩
          refine post_ite hm (fun k24 hm => ?_) (fun k24 hm => ?_)
          · skip
            have hm := hZ20 _ (post_ok hm)
            have hm := hZ14 _ (post_ok hm)
            have w25 : W F20 _ (os) := w20.drop (pre := [])
            exact (post_ok hm) _ _ _ w25 sF rep_none
          · skip
            obtain ⟨l26, z26, e26, hm⟩ := pn_app hm
            refine ⟨_, rfl, .inl ⟨rfl, _, SqL.of (w20.get (pre := []))⟩, _, rfl, _, _, _, rfl, rfl, (w20.get (pre := [])), (A2.lt h20_0 z26), ?_⟩
            have h26 : A2 (rep K F20) (vs20_0 ++ [(V.int b20)]) l26 := e26 ▸ A2.snoc h20_0 rep_i
            have w27 : W F20 _ ((p13, .lst (vs20_0 ++ [(V.int b20)])) :: os) := w20.set (pre := [])
            exact hN20 _ (post_ok hm) _ _ ⟨_, _, _, rfl, s20, w27, h26⟩
        intro g20 σ20 H20 hI hm
        obtain ⟨F20, vs20_0, o20_7, rfl, s20, w20, h20_0⟩ := hI
        replace q1 := s20 _ _ q1
        replace h2 := A2.mono s20 h2
        replace q2 := s20 _ _ q2
        replace h3 := A2.mono s20 h3
        replace q3 := s20 _ _ q3
        replace gg5 := A2.mono s20 gg5
        replace q11 := s20 _ _ q11
        replace h16 := A2.mono s20 h16
        replace q16 := s20 _ _ q16
        replace q22 := s20 _ _ q22
        replace h22 := A2.mono s20 h22
        replace sF := sF.trans s20
        exact ⟨_, rfl, _, rfl, _, _, _, rfl, .inl (SqL.of (w20.same _ _ q16)), h16.length, _, _, rfl, rfl, _, _, rfl, rfl, hN14 _ (post_ok hm) _ _ ⟨_, _, _, _, rfl, (s14.trans (s17.trans (s21.trans s20))), w20, h20_0⟩⟩
    intro g14 σ14 H14 hI hm
    obtain ⟨F14, vs14_0, o14_7, o14_6, rfl, s14, w14, h14_0⟩ := hI
    replace q1 := s14 _ _ q1
    replace h2 := A2.mono s14 h2
    replace q2 := s14 _ _ q2
    replace h3 := A2.mono s14 h3
    replace q3 := s14 _ _ q3
    replace gg5 := A2.mono s14 gg5
    replace q11 := s14 _ _ q11
    replace sF := sF.trans s14
    have w28 : W F14 _ (os) := w14.drop (pre := [])
    exact ⟨_, rfl, (post_ok hm) _ _ _ w28 sF (rep_some rep_i)⟩
def sp_law_pot (K : Fg) : Sp := fun vs H Q E => ∃ (F : Hp) (os : List (Addr × HO)) (x_cell : Int) (x_k : Int), vs = [.int x_cell, .int x_k] ∧ W F H (os) ∧ Post (law_pot x_cell x_k) (RetL K F os Q) noX
theorem sc_law_pot : FnScope ["cell", "k", "mark", "found", "turn"] ["cell", "k"] (defScope s_law_pot) := ⟨rfl, rfl, rfl, by decide +kernel, rfl, by decide +kernel, by decide +kernel⟩
theorem ok_law_pot (T : Tx K mg A FD) : FnOk P w K mg base CX0 1 (A 40) (FD 40) ["cell", "k"] (sp_law_pot K) := by
  refine T.d40.fn.ok sc_law_pot (fun vs H Q E h => ?_) (fun cdv Ar outer s H vs Q E hr h => ?_)
  · obtain ⟨F, os, x_cell, x_k, rfl, _⟩ := h
    rfl
  · obtain ⟨F0, os, x_cell, x_k, rfl, w0, hm⟩ := h
    have sF : Same F0 F0 := Same.refl _
    refine ⟨_, (pss_cons (ps_set (i := 2) sc_law_pot.nd rfl (Or.inl rfl) (pe_op op_mod (pe_op op_add (pv 0) (pe_op op_mul pe_int (pe_op op_add (pv 1) pe_int))) pe_int)) (pss_cons (ps_set (i := 3) sc_law_pot.nd rfl (Or.inl rfl) (pe_lst (pa_cons pe_int pa_nil))) (pss_cons (ps_for PassesOwn.never rfl (pi_range1 (by rfl) T.n_range (pa_cons pe_int pa_nil)) (pg_name (i := 4) sc_law_pot.nd rfl (Or.inl rfl)) (pss_cons (ps_set (i := 2) sc_law_pot.nd rfl (Or.inl rfl) (pe_op op_mod (pe_op op_add (pe_op op_add (pe_op op_add (pe_op op_mul (pv 2) (pv 2)) (pe_op op_mul pe_int (pv 2))) (pe_op op_mul pe_int (pv 4))) (pv 1)) pe_int)) (pss_one (ps_asg (pe_op op_add (pe_op op_mul (pe_ix (ix_listK (K := K) rfl) (pv 3) pe_int (fun _ _ => rfl)) pe_int) (pv 2)) (pg_sub (pv 3) pe_int set_list))))) (pss_cons (ps_if (pt_cmp (pc_ge (pv 0) (pe_op op_pow pe_int pe_int))) (pss_one (ps_expr (pe_bm PySem.F.plainAttrs_list PySem.F.slot_list_append PySem.F.type_list_append mt_append (pv 3) (pa_cons (pv 0) pa_nil)))) pss_nil) (pss_one (ps_ret (pv 3))))))), ?_⟩
    have h3 : A2 (rep K F0) [(.int 0)] ([(0 : Int)] : (List Int)) := .cons rep_i (.nil)
    refine ⟨_, rfl, _, rfl, _, _, rfl, rfl, _, _, rfl, rfl, (.inl (by constructor <;> decide)), _, _, rfl, rfl, _, _, rfl, rfl, (by show (0 : Int) < (2147483647 : Int); decide), (by show 1 ≤ sizeLine; decide), fun p4 n4 => ?_⟩
    have w4 : W F0 _ ((p4, .lst [(.int 0)]) :: os) := w0.new n4
    refine ⟨_, rfl, (by decide), (by decide), ?_⟩
    refine forS (tw_rng0 (j := (24 : Int))) hm (fun (g5 : Int × (List Int)) σ H' => ∃ (F' : Hp) (vs5_0 : List V) (o5_4 : Option V), σ = [some (.int x_cell), some (.int x_k), some (.int g5.1), some (.ref p4), o5_4] ∧ Same F0 F' ∧ W F' H' ((p4, .lst vs5_0) :: os) ∧ A2 (rep K F') vs5_0 g5.2) ⟨_, _, _, rfl, Same.refl _, w4, h3⟩ (fun _ _ _ _ => trivial) ?_ ?_
    · -- a turn
      intro b5 g5 x5 σ5 H5 H5' N5 P5 hI hy hN5 hm
      obtain ⟨F5, vs5_0, o5_4, rfl, s5, w5, h5_0⟩ := hI
      replace sF := sF.trans s5
      obtain ⟨rfl, rfl⟩ := hy
      obtain ⟨c6, hm⟩ := pb_mul hm
      obtain ⟨t10, e10, hm⟩ := pb_get hm
      obtain ⟨u10, f10, r10⟩ := A2.at h5_0 e10
      obtain rfl : u10 = V.int t10 := r10
      obtain ⟨j12, l12, z12, e12, hm⟩ := pn_set hm
      refine ⟨_, rfl, _, rfl, _, _, rfl, rfl, c6, _, rfl, _, _, rfl, rfl, (.inl (by constructor <;> decide)), _, _, rfl, rfl, _, rfl, _, _, rfl, rfl, (.inl (by constructor <;> decide)), _, _, rfl, rfl, _, rfl, _, _, rfl, rfl, _, _, rfl, rfl, (by show (0 : Int) < (2147483629 : Int); decide), _, rfl, _, _, _, _, rfl, rfl, SqL.of (w5.get (pre := [])), f10, _, _, rfl, rfl, (.inr (by constructor <;> decide)), _, rfl, _, _, rfl, rfl, _, rfl, _, _, _, _, rfl, rfl, (w5.get (pre := [])), (A2.ix h5_0 z12), ?_⟩
      have h12 : A2 (rep K F5) (vs5_0.set j12 (V.int ((t10 * (2147483629 : Int)) + (((((g5.1 * g5.1) + ((48271 : Int) * g5.1)) + ((3 : Int) * b5)) + x_k) % (2147483629 : Int))))) l12 := e12 ▸ A2.set rep_i j12 h5_0
      have w13 : W F5 _ ((p4, .lst (vs5_0.set j12 (V.int ((t10 * (2147483629 : Int)) + (((((g5.1 * g5.1) + ((48271 : Int) * g5.1)) + ((3 : Int) * b5)) + x_k) % (2147483629 : Int)))))) :: os) := w5.set (pre := [])
      exact hN5 _ (post_ok hm) _ _ ⟨_, _, _, rfl, s5, w13, h12⟩
    intro g5 σ5 H5 hI hm
    obtain ⟨F5, vs5_0, o5_4, rfl, s5, w5, h5_0⟩ := hI
    replace sF := sF.trans s5
    try dsimp only
    refine joinS hm (fun (g14 : (List Int)) σ H' => ∃ (F' : Hp) (vs14_0 : List V), σ = [some (.int x_cell), some (.int x_k), some (.int g5.1), some (.ref p4), o5_4] ∧ Same F5 F' ∧ W F' H' ((p4, .lst vs14_0) :: os) ∧ A2 (rep K F') vs14_0 g14) ?_ ?_
    · intro N14 P14 hN14 hm
      refine ⟨_, rfl, _, _, rfl, rfl, (by refine ⟨?_, ?_, ?_⟩ <;> decide), _, _, rfl, rfl, _, rfl, ?_⟩
      refine post_ite hm (fun k16 hm => ?_) (fun k16 hm => ?_)
      · skip
        obtain ⟨l17, z17, e17, hm⟩ := pn_app hm
        refine ⟨_, rfl, .inl ⟨rfl, _, SqL.of (w5.get (pre := []))⟩, _, rfl, _, _, _, rfl, rfl, (w5.get (pre := [])), (A2.lt h5_0 z17), ?_⟩
        have h17 : A2 (rep K F5) (vs5_0 ++ [(V.int x_cell)]) l17 := e17 ▸ A2.snoc h5_0 rep_i
        have w18 : W F5 _ ((p4, .lst (vs5_0 ++ [(V.int x_cell)])) :: os) := w5.set (pre := [])
        exact hN14 _ (post_ok hm) _ _ ⟨_, _, rfl, Same.refl _, w18, h17⟩
      · skip
        exact hN14 _ (post_ok hm) _ _ ⟨_, _, rfl, Same.refl _, w5, h5_0⟩
    intro g14 σ14 H14 hI hm
    obtain ⟨F14, vs14_0, rfl, s14, w14, h14_0⟩ := hI
    replace sF := sF.trans s14
    exact ⟨_, rfl, (post_ok hm) _ _ _ _ w14 sF h14_0⟩
def sp_law_take (K : Fg) : Sp := fun vs H Q E => ∃ (F : Hp) (os : List (Addr × HO)) (a_pot : Addr) (vs_pot : List V) (x_pot : (List Int)) (x_many : Int), vs = [.ref a_pot, .int x_many] ∧ W F H ((a_pot, .lst vs_pot) :: os) ∧ A2 (rep K F) vs_pot x_pot ∧ Post (law_take x_pot x_many) (RetM K F a_pot os Q) noX
theorem sc_law_take : FnScope ["pot", "many", "found"] ["pot", "many"] (defScope s_law_take) := ⟨rfl, rfl, rfl, by decide +kernel, rfl, by decide +kernel, by decide +kernel⟩
theorem ok_law_take (T : Tx K mg A FD) : FnOk P w K mg base CX0 1 (A 41) (FD 41) ["pot", "many"] (sp_law_take K) := by
  refine T.d41.fn.ok sc_law_take (fun vs H Q E h => ?_) (fun cdv Ar outer s H vs Q E hr h => ?_)
  · obtain ⟨F, os, a_pot, vs_pot, x_pot, x_many, rfl, _⟩ := h
    rfl
  · obtain ⟨F0, os, a_pot, vs_pot, x_pot, x_many, rfl, w0, h_pot, hm⟩ := h
    have sF : Same F0 F0 := Same.refl _
    refine ⟨_, (pss_cons (ps_set (i := 2) sc_law_take.nd rfl (Or.inl rfl) (pe_op op_mod (pe_ix (ix_listK (K := K) rfl) (pv 0) (pe_un un_neg pe_int) (fun _ _ => rfl)) (pv 1))) (pss_cons (ps_asg (pe_op op_fdivW (pe_ix (ix_listK (K := K) rfl) (pv 0) (pe_un un_neg pe_int) (fun _ _ => rfl)) (pv 1)) (pg_sub (pv 0) (pe_un un_neg pe_int) set_list)) (pss_cons (ps_if (PW.pt (pw_and (pt_cmp (pc_eqI (pe_ix (ix_listK (K := K) rfl) (pv 0) (pe_un un_neg pe_int) (fun _ _ => rfl)) pe_int)) (pw_and1 (pt_cmp (pc_gt (pe_callB (call_lenN (K := K) rfl) (by rfl) T.n_len (by decide +kernel) (pa_cons (pv 0) pa_nil)) pe_int))))) (pss_one (ps_expr (pe_bm0 PySem.F.plainAttrs_list PySem.F.slot_list_pop PySem.F.type_list_pop mt_pop (pv 0)))) pss_nil) (pss_one (ps_ret (pv 2)))))), ?_⟩
    obtain ⟨t2, e2, hm⟩ := pb_get hm
    obtain ⟨u2, f2, r2⟩ := A2.at h_pot e2
    obtain rfl : u2 = V.int t2 := r2
    obtain ⟨c3, hm⟩ := pb_mod hm
    obtain ⟨t4, e4, hm⟩ := pb_get hm
    obtain ⟨u4, f4, r4⟩ := A2.at h_pot e4
    obtain rfl : u4 = V.int t4 := r4
    obtain ⟨c5, hm⟩ := pb_div hm
    obtain ⟨j6, l6, z6, e6, hm⟩ := pn_set hm
    refine ⟨_, rfl, _, rfl, _, _, _, _, rfl, rfl, SqL.of (w0.get (pre := [])), f2, _, rfl, _, _, rfl, rfl, c3, _, rfl, _, rfl, _, _, _, _, rfl, rfl, SqL.of (w0.get (pre := [])), f4, _, rfl, _, _, rfl, rfl, c5, _, rfl, _, rfl, _, _, _, _, rfl, rfl, (w0.get (pre := [])), (A2.ix h_pot z6), ?_⟩
    have h6 : A2 (rep K F0) (vs_pot.set j6 (V.int (t4 / x_many))) l6 := e6 ▸ A2.set rep_i j6 h_pot
    have w7 : W F0 _ ((a_pot, .lst (vs_pot.set j6 (V.int (t4 / x_many)))) :: os) := w0.set (pre := [])
    try dsimp only
    refine joinS hm (fun (g8 : (List Int)) σ H' => ∃ (F' : Hp) (vs8_0 : List V), σ = [some (.ref a_pot), some (.int x_many), some (.int (t2 % x_many))] ∧ Same F0 F' ∧ W F' H' ((a_pot, .lst vs8_0) :: os) ∧ A2 (rep K F') vs8_0 g8) ?_ ?_
    · intro N8 P8 hN8 hm
      refine stepIf ?_
      refine joinT hm (fun (j9 : Bool) c H' => c = j9 ∧ ∃ (F' : Hp), Same F0 F' ∧ W F' H' ((a_pot, .lst (vs_pot.set j6 (V.int (t4 / x_many)))) :: os)) ?_ ?_
      · intro Q9 P9 q9 hm
        obtain ⟨t10, e10, hm⟩ := pb_get hm
        obtain ⟨u10, f10, r10⟩ := A2.at h6 e10
        obtain rfl : u10 = V.int t10 := r10
        refine ⟨_, rfl, _, rfl, _, _, _, _, rfl, rfl, SqL.of (w7.get (pre := [])), f10, _, _, rfl, rfl, _, rfl, ?_⟩
        refine post_ite hm (fun k11 hm => ?_) (fun k11 hm => ?_)
        · skip
          exact ⟨_, rfl, _, _, _, rfl, .inl (SqL.of (w7.get (pre := []))), h6.length, _, _, rfl, rfl, _, rfl, q9 _ (post_ok hm) _ _ ⟨rfl, _, Same.refl _, w7⟩⟩
        · skip
          exact q9 _ (post_ok hm) _ _ ⟨rfl, _, Same.refl _, w7⟩
      intro j9 c9 H9 hc9 hm
      obtain ⟨rfl, F9, s9, w9⟩ := hc9
      replace h6 := A2.mono s9 h6
      replace sF := sF.trans s9
      refine post_ite hm (fun k14 hm => ?_) (fun k14 hm => ?_)
      · skip
        obtain ⟨x15, l15, y15, e15, hm⟩ := pn_popI hm
        obtain ⟨u15, f15, r15⟩ := A2.lastV h6 y15
        refine ⟨_, rfl, .inl ⟨rfl, _, SqL.of (w9.get (pre := []))⟩, _, _, _, rfl, rfl, (w9.get (pre := [])), f15, ?_⟩
        have h15 : A2 (rep K F9) (vs_pot.set j6 (V.int (t4 / x_many))).dropLast l15 := e15 ▸ A2.dropLast h6
        obtain rfl : u15 = V.int x15 := r15
        have w16 : W F9 _ ((a_pot, .lst (vs_pot.set j6 (V.int (t4 / x_many))).dropLast) :: os) := w9.set (pre := [])
        exact hN8 _ (post_ok hm) _ _ ⟨_, _, rfl, s9, w16, h15⟩
      · skip
        exact hN8 _ (post_ok hm) _ _ ⟨_, _, rfl, s9, w9, h6⟩
    intro g8 σ8 H8 hI hm
    obtain ⟨F8, vs8_0, rfl, s8, w8, h8_0⟩ := hI
    replace sF := sF.trans s8
    exact ⟨_, rfl, (post_ok hm) _ _ _ _ w8 sF rep_i h8_0⟩
def sp_law_folded (K : Fg) : Sp := fun vs H Q E => ∃ (F : Hp) (os : List (Addr × HO)) (v_script : V) (x_script : Scr) (x_many : Int), vs = [v_script, .int x_many] ∧ W F H (os) ∧ rep K F v_script x_script ∧ Post (law_folded x_script x_many) (RetL K F os Q) noX
theorem sc_law_folded : FnScope ["script", "many", "found", "k", "cell"] ["script", "many"] (defScope s_law_folded) := ⟨rfl, rfl, rfl, by decide +kernel, rfl, by decide +kernel, by decide +kernel⟩
theorem ok_law_folded (T : Tx K mg A FD) : FnOk P w K mg base CX0 1 (A 42) (FD 42) ["script", "many"] (sp_law_folded K) := by
  refine T.d42.fn.ok sc_law_folded (fun vs H Q E h => ?_) (fun cdv Ar outer s H vs Q E hr h => ?_)
  · obtain ⟨F, os, v_script, x_script, x_many, rfl, _⟩ := h
    rfl
  · obtain ⟨F0, os, v_script, x_script, x_many, rfl, w0, r_script, hm⟩ := h
    have sF : Same F0 F0 := Same.refl _
    obtain ⟨a1, rfl, q1⟩ := r_script
    have h1 : A2 (rep K F0) (x_script.l.map V.int) x_script.l := A2.of_ints
    refine ⟨_, (pss_cons (ps_set (i := 2) sc_law_folded.nd rfl (Or.inl rfl) (pe_op op_rep (pe_lst (pa_cons pe_int pa_nil)) (pv 1))) (pss_cons (ps_for PassesOwn.never rfl (pi_k (K := K) (wi := fun K => iEnum K _) rfl (pi_enum (by rfl) T.n_enumerate (pa_cons (pe_slice (sl_listK (K := K) rfl) (pv 0) po_none (po_some pe_int)) pa_nil))) (pg_k (K := K) (t := fun K => gTup K 2 _) rfl (pg_tup (n := 2) rfl (pgs_cons (pg_name (i := 3) sc_law_folded.nd rfl (Or.inl rfl)) (pgs_cons (pg_name (i := 4) sc_law_folded.nd rfl (Or.inl rfl)) pgs_nil)))) (pss_one (ps_asg (pe_op op_add (pe_op op_mul (pe_ix (ix_listK (K := K) rfl) (pv 2) (pe_op op_mod (pv 3) (pv 1)) (fun _ _ => rfl)) pe_int) (pv 4)) (pg_sub (pv 2) (pe_op op_mod (pv 3) (pv 1)) set_list)))) (pss_one (ps_ret (pv 2))))), ?_⟩
    have h2 : A2 (rep K F0) [(.int 0)] ([(0 : Int)] : (List Int)) := .cons rep_i (.nil)
    refine ⟨(by show 1 ≤ sizeLine; decide), fun p3 n3 => ?_⟩
    have w3 : W F0 _ ((p3, .lst [(.int 0)]) :: os) := w0.new n3
    obtain ⟨l4, z4, e4, hm⟩ := pb_rep hm
    have h4 : A2 (rep K F0) (List.replicate x_many.toNat [(.int 0)]).flatten l4 := e4 ▸ A2.flat h2 _
    refine ⟨_, rfl, _, _, _, rfl, rfl, (w3.get (pre := [])), z4.1, z4.2.1, (by rw [h2.length]; exact z4.2.2), fun p5 n5 => ?_⟩
    have w5 : W F0 _ ((p5, .lst (List.replicate x_many.toNat [(.int 0)]).flatten) :: (p3, .lst [(.int 0)]) :: os) := w3.new n5
    have w6 : W F0 _ ((p5, .lst (List.replicate x_many.toNat [(.int 0)]).flatten) :: os) := w5.drop (pre := [_])
    have h8 : A2 (rep K F0) (cutV (x_script.l.map V.int) none (some (63 : Int))) (cutL x_script.l none (some (63 : Int))) := sl_cut h1 _ _
    refine ⟨_, rfl, _, rfl, _, _, rfl, w6.same.seq q1, fun p9 n9 => ?_⟩
    have w9 : W F0 _ ((p9, .lst (cutV (x_script.l.map V.int) none (some (63 : Int)))) :: (p5, .lst (List.replicate x_many.toNat [(.int 0)]).flatten) :: os) := w6.new n9
    obtain ⟨F10, s10, w10, q10⟩ : ∃ F', Same F0 F' ∧ W F' _ ((p5, .lst (List.replicate x_many.toNat [(.int 0)]).flatten) :: os) ∧ F' p9 = some (.lst (cutV (x_script.l.map V.int) none (some (63 : Int)))) := w9.freezeE (pre := [])
    replace h1 := A2.mono s10 h1
    replace q1 := s10.seq q1
    replace h4 := A2.mono s10 h4
    replace h8 := A2.mono s10 h8
    replace sF := sF.trans s10
    refine ⟨_, _, rfl, SqL.of (w10.same _ _ q10), ?_⟩
    refine forS (tw_enum (a := p9) h8) hm (fun (g7 : (List Int)) σ H' => ∃ (F' : Hp) (vs7_0 : List V) (o7_3 : Option V) (o7_4 : Option V), σ = [some (.ref a1), some (.int x_many), some (.ref p5), o7_3, o7_4] ∧ Same F10 F' ∧ W F' H' ((p5, .lst vs7_0) :: os) ∧ A2 (rep K F') vs7_0 g7) ⟨_, _, _, _, rfl, Same.refl _, w10, h4⟩ (fun g σ H' hI => by obtain ⟨F', _, _, _, _, s, w, _⟩ := hI; exact SqL.of (w.same _ _ (s _ _ q10))) ?_ ?_
    · -- a turn
      intro b7 g7 x7 σ7 H7 H7' N7 P7 hI hy hN7 hm
      obtain ⟨F7, vs7_0, o7_3, o7_4, rfl, s7, w7, h7_0⟩ := hI
      replace h1 := A2.mono s7 h1
      replace q1 := s7.seq q1
      replace h8 := A2.mono s7 h8
      replace q10 := s7 _ _ q10
      replace sF := sF.trans s7
      obtain ⟨T11, u11, rfl, n11, rfl, r11⟩ := hy
      obtain ⟨F11, s11, w11, q11⟩ := w7.frzE (o := .tup [.int b7.1, u11]) n11
      replace r11 := Rep.mono s7 r11
      replace h1 := A2.mono s11 h1
      replace q1 := s11.seq q1
      replace h8 := A2.mono s11 h8
      replace q10 := s11 _ _ q10
      replace h7_0 := A2.mono s11 h7_0
      replace sF := sF.trans s11
      replace r11 := Rep.mono s11 r11
      obtain rfl : u11 = V.int b7.2 := r11
      obtain ⟨c12, hm⟩ := pb_mod hm
      obtain ⟨t13, e13, hm⟩ := pb_get hm
      obtain ⟨u13, f13, r13⟩ := A2.at h7_0 e13
      obtain rfl : u13 = V.int t13 := r13
      obtain ⟨c15, hm⟩ := pb_mod hm
      obtain ⟨j16, l16, z16, e16, hm⟩ := pn_set hm
      refine ⟨_, _, rfl, SqT.of (w11.same _ _ q11), rfl, _, _, rfl, _, _, rfl, rfl, _, rfl, _, rfl, _, rfl, _, _, rfl, rfl, c12, _, _, _, _, rfl, rfl, SqL.of (w11.get (pre := [])), f13, _, _, rfl, rfl, (.inr (by constructor <;> decide)), _, rfl, _, _, rfl, rfl, _, rfl, _, rfl, _, rfl, _, _, rfl, rfl, c15, _, _, _, _, rfl, rfl, (w11.get (pre := [])), (A2.ix h7_0 z16), ?_⟩
      have h16 : A2 (rep K F11) (vs7_0.set j16 (V.int ((t13 * (31 : Int)) + b7.2))) l16 := e16 ▸ A2.set rep_i j16 h7_0
      have w17 : W F11 _ ((p5, .lst (vs7_0.set j16 (V.int ((t13 * (31 : Int)) + b7.2)))) :: os) := w11.set (pre := [])
      exact hN7 _ (post_ok hm) _ _ ⟨_, _, _, _, rfl, (s7.trans s11), w17, h16⟩
    intro g7 σ7 H7 hI hm
    obtain ⟨F7, vs7_0, o7_3, o7_4, rfl, s7, w7, h7_0⟩ := hI
    replace h1 := A2.mono s7 h1
    replace q1 := s7.seq q1
    replace h8 := A2.mono s7 h8
    replace q10 := s7 _ _ q10
    replace sF := sF.trans s7
    exact ⟨_, rfl, (post_ok hm) _ _ _ _ w7 sF h7_0⟩
def sp_law_cells (K : Fg) : Sp := fun vs H Q E => ∃ (F : Hp) (os : List (Addr × HO)) (v_script : V) (x_script : Scr) (x_most : Int), vs = [v_script, .int x_most] ∧ W F H (os) ∧ rep K F v_script x_script ∧ Post (law_cells x_script x_most) (RetL K F os Q) noX
theorem sc_law_cells : FnScope ["script", "most"] ["script", "most"] (defScope s_law_cells) := ⟨rfl, rfl, rfl, by decide +kernel, rfl, by decide +kernel, by decide +kernel⟩
theorem ok_law_cells (T : Tx K mg A FD) : FnOk P w K mg base CX0 2 (A 43) (FD 43) ["script", "most"] (sp_law_cells K) := by
  refine T.d43.fn.ok sc_law_cells (fun vs H Q E h => ?_) (fun cdv Ar outer s H vs Q E hr h => ?_)
  · obtain ⟨F, os, v_script, x_script, x_most, rfl, _⟩ := h
    rfl
  · obtain ⟨F0, os, v_script, x_script, x_most, rfl, w0, r_script, hm⟩ := h
    have sF : Same F0 F0 := Same.refl _
    obtain ⟨a1, rfl, q1⟩ := r_script
    have h1 : A2 (rep K F0) (x_script.l.map V.int) x_script.l := A2.of_ints
    refine ⟨_, (pss_cons (ps_if (pt_cmpR (op_eqDt (K := K) rfl Scr (by decide) hr.units) (pv 0) (pe_lst pa_nil) (nomark _)) (pss_one (ps_ret (pe_lst (pa_cons pe_int pa_nil)))) pss_nil) (pss_one (ps_ret (pe_call (ok_law_folded T) (hr.mono (by decide)) (by rfl) T.d42.mg T.d42.fn.kp T.d42.b .nil pass0 (pa_cons (pv 0) (pa_cons (pe_callB (call_min2 rfl) (by rfl) T.n_min (by decide +kernel) (pa_cons (pv 1) (pa_cons (pe_callB (call_lenN (K := K) rfl) (by rfl) T.n_len (by decide +kernel) (pa_cons (pv 0) pa_nil)) pa_nil))) pa_nil)))))), ?_⟩
    have h2 : A2 (rep K F0) [] ([] : (List Int)) := .nil
    refine ⟨_, rfl, (by show 0 ≤ sizeLine; decide), fun p3 n3 => ?_⟩
    have w3 : W F0 _ ((p3, .lst []) :: os) := w0.new n3
    refine ⟨(x_script : Scr), (⟨([] : (List Int))⟩ : Scr), (Rep.mono w3.same ⟨_, rfl, q1⟩), ⟨_, rfl, SqL.of (w3.get (pre := []))⟩, _, rfl, ?_⟩
    have w4 : W F0 _ (os) := w3.drop (pre := [])
    refine post_ite hm (fun k5 hm => ?_) (fun k5 hm => ?_)
    · skip
      have h6 : A2 (rep K F0) [(.int 0)] ([(0 : Int)] : (List Int)) := .cons rep_i (.nil)
      refine ⟨(by show 1 ≤ sizeLine; decide), fun p7 n7 => ?_⟩
      have w7 : W F0 _ ((p7, .lst [(.int 0)]) :: os) := w4.new n7
      exact (post_ok hm) _ _ _ _ w7 sF h6
    · skip
      refine ⟨_, rfl, _, rfl, _, rfl, _, _, _, rfl, .inl (w4.same.seq q1), h1.length, _, _, rfl, _, _, _, (x_script : Scr), _, rfl, w4, ⟨_, rfl, q1⟩, ?_⟩
      refine (post_bind hm).mono (fun y8 hm p8 us8 F8 H8 w8 s8 g8 => ?_) (fun _ z => z)
      replace q1 := s8.seq q1
      replace h1 := A2.mono s8 h1
      replace sF := sF.trans s8
      exact (post_ok hm) _ _ _ _ w8 sF g8
def sp_law_bunches (K : Fg) : Sp := fun vs H Q E => ∃ (F : Hp) (os : List (Addr × HO)) (a_pot : Addr) (vs_pot : List V) (x_pot : (List Int)) (x_many : Int), vs = [.ref a_pot, .int x_many] ∧ W F H ((a_pot, .lst vs_pot) :: os) ∧ A2 (rep K F) vs_pot x_pot ∧ Post (law_bunches x_pot x_many) (RetLM K F a_pot os Q) noX
theorem sc_law_bunches : FnScope ["pot", "many", "some", "inner", "spots", "found", "k", "j", "far", "near", "turn", "one", "other"] ["pot", "many"] (defScope s_law_bunches) := ⟨rfl, rfl, rfl, by decide +kernel, rfl, by decide +kernel, by decide +kernel⟩
set_option maxHeartbeats 40000000 in
theorem ok_law_bunches (T : Tx K mg A FD) : FnOk P w K mg base CX0 2 (A 45) (FD 45) ["pot", "many"] (sp_law_bunches K) := by
  refine T.d45.fn.ok sc_law_bunches (fun vs H Q E h => ?_) (fun cdv Ar outer s H vs Q E hr h => ?_)
  · obtain ⟨F, os, a_pot, vs_pot, x_pot, x_many, rfl, _⟩ := h
    rfl
  · obtain ⟨F0, os, a_pot, vs_pot, x_pot, x_many, rfl, w0, h_pot, hm⟩ := h
    have sF : Same F0 F0 := Same.refl _
    refine ⟨_, (pss_cons (ps_set (i := 2) sc_law_bunches.nd rfl (Or.inr rfl) (pe_op op_add pe_int (pe_call (ok_law_take T) (hr.mono (by decide)) (by rfl) T.d41.mg T.d41.fn.kp T.d41.b .nil pass0 (pa_cons (pv 0) (pa_cons pe_int pa_nil))))) (pss_cons (ps_setLc (i := 3) (own := [("k", 6)]) (g := gName 6) (by rfl) sc_law_bunches.nd rfl rfl (sw_true rfl rfl rfl (by decide +kernel)) (pi_range1 (by rfl) T.n_range (pa_cons (pv 2) pa_nil)) (blkOk_by (own := [("k", 6)]) (N := ["pot", "many", "some", "inner", "spots", "found", "k", "j", "far", "near", "turn", "one", "other"]) (sc := defScope s_law_bunches) (by decide +kernel)) (fun _ _ _ _ _ => (pg_name (i := 6) sc_law_bunches.nd rfl (Or.inl rfl))) (fun _ _ _ _ _ => pts_nil) (fun _ _ _ _ _ => (pe_call (ok_law_take T) (hr.mono (by decide)) (by rfl) T.d41.mg T.d41.fn.kp T.d41.b .nil pass0 (pa_cons (pv 0) (pa_cons pe_int pa_nil))))) (pss_cons (ps_setLc (i := 4) (own := [("k", 6)]) (g := gName 6) (by rfl) sc_law_bunches.nd rfl rfl (sw_true rfl rfl rfl (by decide +kernel)) (pi_range1 (by rfl) T.n_range (pa_cons (pv 1) pa_nil)) (blkOk_by (own := [("k", 6)]) (N := ["pot", "many", "some", "inner", "spots", "found", "k", "j", "far", "near", "turn", "one", "other"]) (sc := defScope s_law_bunches) (by decide +kernel)) (fun _ _ _ _ _ => (pg_name (i := 6) sc_law_bunches.nd rfl (Or.inl rfl))) (fun _ _ _ _ _ => pts_nil) (fun _ _ _ _ _ => (pe_call (ok_law_take T) (hr.mono (by decide)) (by rfl) T.d41.mg T.d41.fn.kp T.d41.b .nil pass0 (pa_cons (pv 0) (pa_cons (pv 2) pa_nil))))) (pss_cons (ps_set (i := 5) sc_law_bunches.nd rfl (Or.inl rfl) (pe_lst pa_nil)) (pss_cons (ps_for PassesOwn.never rfl (pi_range1 (by rfl) T.n_range (pa_cons (pv 1) pa_nil)) (pg_name (i := 6) sc_law_bunches.nd rfl (Or.inl rfl)) (pss_one (ps_for PassesOwn.never rfl (pi_range1 (by rfl) T.n_range (pa_cons (pv 6) pa_nil)) (pg_name (i := 7) sc_law_bunches.nd rfl (Or.inl rfl)) (pss_cons (ps_set (i := 8) sc_law_bunches.nd rfl (Or.inl rfl) (pe_callB call_abs (by rfl) T.n_abs (by decide +kernel) (pa_cons (pe_op op_sub (pe_ix (ix_listK (K := K) rfl) (pv 4) (pv 7) (fun _ _ => rfl)) (pe_ix (ix_listK (K := K) rfl) (pv 4) (pv 6) (fun _ _ => rfl))) pa_nil))) (pss_one (ps_if (PW.pt (pw_or (pt_cmp (pc_eqI (pv 8) pe_int)) (pw_or1 (PW.pt (pw_and (pt_cmp (pc_eqI (pv 8) pe_int)) (pw_and1 (pt_cmp (pc_eqI (pe_ix (ix_listK (K := K) rfl) (pv 3) (pe_ix (ix_listK (K := K) rfl) (pv 4) (pv 6) (fun _ _ => rfl)) (fun _ _ => rfl)) pe_int)))))))) (pss_one (ps_expr (pe_bm PySem.F.plainAttrs_list PySem.F.slot_list_append PySem.F.type_list_append mt_append (pv 5) (pa_cons (pe_tup (pa_cons (pv 7) (pa_cons (pv 6) pa_nil))) pa_nil)))) pss_nil)))))) (pss_cons (ps_set (i := 9) sc_law_bunches.nd rfl (Or.inr rfl) (pe_disp (pps_cons pe_int pe_bl pps_nil) rfl rfl (by simp) (by simp))) (pss_cons (ps_for PassesOwn.never rfl (pi_range1 (by rfl) T.n_range (pa_cons (pv 1) pa_nil)) (pg_name (i := 10) sc_law_bunches.nd rfl (Or.inl rfl)) (pss_one (ps_for PassesOwn.never rfl (pi_listK (K := K) rfl (pv 5)) (pg_k (K := K) (t := fun K => gTup K 2 _) rfl (pg_tup (n := 2) rfl (pgs_cons (pg_name (i := 11) sc_law_bunches.nd rfl (Or.inl rfl)) (pgs_cons (pg_name (i := 12) sc_law_bunches.nd rfl (Or.inl rfl)) pgs_nil)))) (pss_one (ps_if (PW.pt (pw_or (pt_cmp (pc_dinH (Room.units1 hr) (pv 11) (pv 9))) (pw_or1 (pt_cmp (pc_dinH (Room.units1 hr) (pv 12) (pv 9)))))) (pss_cons (ps_dput (Room.units1 hr) (pv 9) (pv 11) pe_bl (by rfl)) (pss_one (ps_dput (Room.units1 hr) (pv 9) (pv 12) pe_bl (by rfl)))) pss_nil))))) (pss_one (ps_ret (pe_op op_cat (pv 5) (pe_lc (own := [("k", 6)]) (g := gName 6) (by rfl) sc_law_bunches.nd (pi_range2 (by rfl) T.n_range (pa_cons pe_int (pa_cons (pv 1) pa_nil))) (blkOk_by (own := [("k", 6)]) (N := ["pot", "many", "some", "inner", "spots", "found", "k", "j", "far", "near", "turn", "one", "other"]) (sc := defScope s_law_bunches) (by decide +kernel)) (fun _ _ _ _ _ => (pg_name (i := 6) sc_law_bunches.nd rfl (Or.inl rfl))) (fun _ _ _ _ _ => (pts_one (pt_cmp (pc_dnotinH (Room.units1 hr) (pv 6) (pv 9))))) (fun _ _ _ _ _ => (pe_tup (pa_cons pe_int (pa_cons (pv 6) pa_nil))))))))))))))), ?_⟩
    refine ⟨_, rfl, _, _, _, _, _, _, rfl, w0, h_pot, ?_⟩
    refine (post_bind hm).mono (fun y2 hm v2 vs2 F2 H2 w2 s2 r2 h2 => ?_) (fun _ z => z)
    replace sF := sF.trans s2
    obtain rfl : v2 = V.int y2.1 := r2
    obtain ⟨c3, hm⟩ := pb_rng hm
    refine ⟨_, _, rfl, rfl, _, rfl, _, rfl, c3.2.2.1, c3.2.2.2, fun D4 nD4 => ?_⟩
    refine lcMap (K := K) (tw_rng0 (j := ((2 : Int) + y2.1))) hm (fun (g4 : (List Int)) F' os' => ∃ (vs4_0 : List V), os' = (a_pot, .lst vs4_0) :: os ∧ A2 (rep K F') vs4_0 g4) w2 ⟨_, rfl, h2⟩ nD4 (fun g F' H' os' acc s w o => by obtain ⟨_, rfl, _⟩ := o; exact trivial) ?_ ?_
    · -- one turn
      intro b4 g4 x4 F4 H4 H4' os4 acc4 N4 P4 s4 w4 o4 y4 hN4 hm
      obtain ⟨vs4_0, rfl, h4_0⟩ := o4
      replace sF := sF.trans s4
      obtain ⟨rfl, rfl⟩ := y4
      have w6 : W F4 _ ((a_pot, .lst vs4_0) :: (D4, .lst acc4) :: os) := w4.front (pre := [_])
      refine ⟨rfl, _, rfl, _, _, _, _, _, _, rfl, w6, h4_0, ?_⟩
      refine (post_bind hm).mono (fun y7 hm v7 vs7 F7 H7 w7 s7 r7 h7 => ?_) (fun _ z => z)
      replace sF := sF.trans s7
      obtain rfl : v7 = V.int y7.1 := r7
      have w8 : W F7 _ ((D4, .lst acc4) :: (a_pot, .lst vs7) :: os) := w7.front (pre := [_])
      exact hN4 _ _ (post_ok hm) _ _ _ _ w8 s7 ⟨_, rfl, h7⟩ rep_i
    intro g4 us4 F4 H4 os4 ys4 s4 w4 o4 gg4 hm
    obtain ⟨vs4_0, rfl, h4_0⟩ := o4
    replace sF := sF.trans s4
    obtain ⟨F10, s10, w10, q10⟩ : ∃ F', Same F4 F' ∧ W F' _ ((a_pot, .lst vs4_0) :: os) ∧ F' D4 = some (.lst us4) := w4.freezeE (pre := [])
    replace h4_0 := A2.mono s10 h4_0
    replace gg4 := A2.mono s10 gg4
    replace sF := sF.trans s10
    obtain ⟨c11, hm⟩ := pb_rng hm
    refine ⟨_, rfl, _, rfl, c11.2.2.1, c11.2.2.2, fun D12 nD12 => ?_⟩
    refine lcMap (K := K) (tw_rng0 (j := x_many)) hm (fun (g12 : (List Int)) F' os' => ∃ (vs12_0 : List V), os' = (a_pot, .lst vs12_0) :: os ∧ A2 (rep K F') vs12_0 g12) w10 ⟨_, rfl, h4_0⟩ nD12 (fun g F' H' os' acc s w o => by obtain ⟨_, rfl, _⟩ := o; exact trivial) ?_ ?_
    · -- one turn
      intro b12 g12 x12 F12 H12 H12' os12 acc12 N12 P12 s12 w12 o12 y12 hN12 hm
      obtain ⟨vs12_0, rfl, h12_0⟩ := o12
      replace gg4 := A2.mono s12 gg4
      replace q10 := s12 _ _ q10
      replace sF := sF.trans s12
      obtain ⟨rfl, rfl⟩ := y12
      have w14 : W F12 _ ((a_pot, .lst vs12_0) :: (D12, .lst acc12) :: os) := w12.front (pre := [_])
      refine ⟨rfl, _, rfl, _, rfl, _, _, _, _, _, _, rfl, w14, h12_0, ?_⟩
      refine (post_bind hm).mono (fun y15 hm v15 vs15 F15 H15 w15 s15 r15 h15 => ?_) (fun _ z => z)
      replace gg4 := A2.mono s15 gg4
      replace q10 := s15 _ _ q10
      replace sF := sF.trans s15
      obtain rfl : v15 = V.int y15.1 := r15
      have w16 : W F15 _ ((D12, .lst acc12) :: (a_pot, .lst vs15) :: os) := w15.front (pre := [_])
      exact hN12 _ _ (post_ok hm) _ _ _ _ w16 s15 ⟨_, rfl, h15⟩ rep_i
    intro g12 us12 F12 H12 os12 ys12 s12 w12 o12 gg12 hm
    obtain ⟨vs12_0, rfl, h12_0⟩ := o12
    replace gg4 := A2.mono s12 gg4
    replace q10 := s12 _ _ q10
    replace sF := sF.trans s12
    obtain ⟨F18, s18, w18, q18⟩ : ∃ F', Same F12 F' ∧ W F' _ ((a_pot, .lst vs12_0) :: os) ∧ F' D12 = some (.lst us12) := w12.freezeE (pre := [])
    replace gg4 := A2.mono s18 gg4
    replace q10 := s18 _ _ q10
    replace h12_0 := A2.mono s18 h12_0
    replace gg12 := A2.mono s18 gg12
    replace sF := sF.trans s18
    have h19 : A2 (rep K F18) [] ([] : (List (Int × Int))) := .nil
    refine ⟨(by show 0 ≤ sizeLine; decide), fun p20 n20 => ?_⟩
    have w20 : W F18 _ ((p20, .lst []) :: (a_pot, .lst vs12_0) :: os) := w18.new n20
    obtain ⟨c22, hm⟩ := pb_rng hm
    refine ⟨_, rfl, _, rfl, c22.2.2.1, c22.2.2.2, ?_⟩
    refine forS (tw_rng0 (j := x_many)) hm (fun (g21 : (List (Int × Int))) σ H' => ∃ (F' : Hp) (vs21_0 : List V) (o21_7 : Option V) (o21_8 : Option V) (o21_6 : Option V), σ = [some (.ref a_pot), some (.int x_many), some (.int ((2 : Int) + y2.1)), some (.ref D4), some (.ref D12), some (.ref p20), o21_6, o21_7, o21_8, none, none, none, none] ∧ Same F18 F' ∧ W F' H' ((p20, .lst vs21_0) :: (a_pot, .lst vs12_0) :: os) ∧ A2 (rep K F') vs21_0 g21) ⟨_, _, _, _, _, rfl, Same.refl _, w20, h19⟩ (fun _ _ _ _ => trivial) ?_ ?_
    · -- a turn
      intro b21 g21 x21 σ21 H21 H21' N21 P21 hI hy hN21 hm
      obtain ⟨F21, vs21_0, o21_7, o21_8, o21_6, rfl, s21, w21, h21_0⟩ := hI
      replace gg4 := A2.mono s21 gg4
      replace q10 := s21 _ _ q10
      replace gg12 := A2.mono s21 gg12
      replace q18 := s21 _ _ q18
      replace h12_0 := A2.mono s21 h12_0
      replace sF := sF.trans s21
      obtain ⟨rfl, rfl⟩ := hy
      obtain ⟨c24, hm⟩ := pb_rng hm
      refine ⟨_, rfl, _, rfl, c24.2.2.1, c24.2.2.2, ?_⟩
      refine forS (tw_rng0 (j := b21)) hm (fun (g23 : (List (Int × Int))) σ H' => ∃ (F' : Hp) (vs23_0 : List V) (o23_8 : Option V) (o23_7 : Option V), σ = [some (.ref a_pot), some (.int x_many), some (.int ((2 : Int) + y2.1)), some (.ref D4), some (.ref D12), some (.ref p20), some (.int b21), o23_7, o23_8, none, none, none, none] ∧ Same F21 F' ∧ W F' H' ((p20, .lst vs23_0) :: (a_pot, .lst vs12_0) :: os) ∧ A2 (rep K F') vs23_0 g23) ⟨_, _, _, _, rfl, Same.refl _, w21, h21_0⟩ (fun _ _ _ _ => trivial) ?_ ?_
      · -- a turn
        intro b23 g23 x23 σ23 H23 H23' N23 P23 hI hy hN23 hm
        obtain ⟨F23, vs23_0, o23_8, o23_7, rfl, s23, w23, h23_0⟩ := hI
        replace gg4 := A2.mono s23 gg4
        replace q10 := s23 _ _ q10
        replace gg12 := A2.mono s23 gg12
        replace q18 := s23 _ _ q18
        replace h12_0 := A2.mono s23 h12_0
        replace sF := sF.trans s23
        obtain ⟨rfl, rfl⟩ := hy
        obtain ⟨t25, e25, hm⟩ := pb_get hm
        obtain ⟨u25, f25, r25⟩ := A2.at gg12 e25
        obtain rfl : u25 = V.int t25 := r25
        obtain ⟨t26, e26, hm⟩ := pb_get hm
        obtain ⟨u26, f26, r26⟩ := A2.at gg12 e26
        obtain rfl : u26 = V.int t26 := r26
        refine ⟨_, rfl, _, rfl, _, _, _, _, rfl, rfl, SqL.of (w23.same _ _ q18), f25, _, rfl, _, rfl, _, _, _, _, rfl, rfl, SqL.of (w23.same _ _ q18), f26, _, _, rfl, rfl, _, rfl, ?_⟩
        refine stepN ?_
        try dsimp only
        refine stepIf ?_
        refine joinT hm (fun (j27 : Bool) c H' => c = j27 ∧ ∃ (F' : Hp), Same F23 F' ∧ W F' H' ((p20, .lst vs23_0) :: (a_pot, .lst vs12_0) :: os)) ?_ ?_
        · intro Q27 P27 q27 hm
          refine ⟨_, rfl, _, _, rfl, rfl, _, rfl, ?_⟩
          refine post_ite hm (fun k28 hm => ?_) (fun k28 hm => ?_)
          · skip
            exact q27 _ (post_ok hm) _ _ ⟨rfl, _, Same.refl _, w23⟩
          · skip
            refine joinT hm (fun (j30 : Bool) c H' => c = j30 ∧ ∃ (F' : Hp), Same F23 F' ∧ W F' H' ((p20, .lst vs23_0) :: (a_pot, .lst vs12_0) :: os)) ?_ ?_
            · intro Q30 P30 q30 hm
              refine ⟨_, rfl, _, _, rfl, rfl, _, rfl, ?_⟩
              refine post_ite hm (fun k31 hm => ?_) (fun k31 hm => ?_)
              · skip
                obtain ⟨t32, e32, hm⟩ := pb_get hm
                obtain ⟨u32, f32, r32⟩ := A2.at gg12 e32
                obtain rfl : u32 = V.int t32 := r32
                obtain ⟨t33, e33, hm⟩ := pb_get hm
                obtain ⟨u33, f33, r33⟩ := A2.at gg4 e33
                obtain rfl : u33 = V.int t33 := r33
                exact ⟨_, rfl, _, rfl, _, rfl, _, _, _, _, rfl, rfl, SqL.of (w23.same _ _ q18), f32, _, _, _, _, rfl, rfl, SqL.of (w23.same _ _ q10), f33, _, _, rfl, rfl, _, rfl, q30 _ (post_ok hm) _ _ ⟨rfl, _, Same.refl _, w23⟩⟩
              · skip
                exact q30 _ (post_ok hm) _ _ ⟨rfl, _, Same.refl _, w23⟩
            intro j30 c30 H30 hc30 hm
            obtain ⟨rfl, F30, s30, w30⟩ := hc30
            replace gg4 := A2.mono s30 gg4
            replace q10 := s30 _ _ q10
            replace gg12 := A2.mono s30 gg12
            replace q18 := s30 _ _ q18
            replace h23_0 := A2.mono s30 h23_0
            replace h12_0 := A2.mono s30 h12_0
            replace sF := sF.trans s30
            exact q27 _ (post_ok hm) _ _ ⟨rfl, _, s30, w30⟩
        intro j27 c27 H27 hc27 hm
        obtain ⟨rfl, F27, s27, w27⟩ := hc27
        replace gg4 := A2.mono s27 gg4
        replace q10 := s27 _ _ q10
        replace gg12 := A2.mono s27 gg12
        replace q18 := s27 _ _ q18
        replace h23_0 := A2.mono s27 h23_0
        replace h12_0 := A2.mono s27 h12_0
        replace sF := sF.trans s27
        refine post_ite hm (fun k37 hm => ?_) (fun k37 hm => ?_)
        · skip
          refine ⟨_, rfl, .inl ⟨rfl, _, SqL.of (w27.get (pre := []))⟩, _, rfl, _, rfl, (by show 2 ≤ sizeLine; decide), fun p38 n38 => ?_⟩
          obtain ⟨F38, s38, w38, q38⟩ := w27.frzE (o := .tup [(.int b23), (.int b21)]) n38
          replace gg4 := A2.mono s38 gg4
          replace q10 := s38 _ _ q10
          replace gg12 := A2.mono s38 gg12
          replace q18 := s38 _ _ q18
          replace h23_0 := A2.mono s38 h23_0
          replace h12_0 := A2.mono s38 h12_0
          replace sF := sF.trans s38
          obtain ⟨l39, z39, e39, hm⟩ := pn_app hm
          refine ⟨_, _, _, rfl, rfl, (w38.get (pre := [])), (A2.lt h23_0 z39), ?_⟩
          have h39 : A2 (rep K F38) (vs23_0 ++ [(V.ref p38)]) l39 := e39 ▸ A2.snoc h23_0 (rep_pair q38 rep_i rep_i)
          have w40 : W F38 _ ((p20, .lst (vs23_0 ++ [(V.ref p38)])) :: (a_pot, .lst vs12_0) :: os) := w38.set (pre := [])
          exact hN23 _ (post_ok hm) _ _ ⟨_, _, _, _, rfl, (s23.trans (s27.trans s38)), w40, h39⟩
        · skip
          exact hN23 _ (post_ok hm) _ _ ⟨_, _, _, _, rfl, (s23.trans s27), w27, h23_0⟩
      intro g23 σ23 H23 hI hm
      obtain ⟨F23, vs23_0, o23_8, o23_7, rfl, s23, w23, h23_0⟩ := hI
      replace gg4 := A2.mono s23 gg4
      replace q10 := s23 _ _ q10
      replace gg12 := A2.mono s23 gg12
      replace q18 := s23 _ _ q18
      replace h12_0 := A2.mono s23 h12_0
      replace sF := sF.trans s23
      exact hN21 _ (post_ok hm) _ _ ⟨_, _, _, _, _, rfl, (s21.trans s23), w23, h23_0⟩
    intro g21 σ21 H21 hI hm
    obtain ⟨F21, vs21_0, o21_7, o21_8, o21_6, rfl, s21, w21, h21_0⟩ := hI
    replace gg4 := A2.mono s21 gg4
    replace q10 := s21 _ _ q10
    replace gg12 := A2.mono s21 gg12
    replace q18 := s21 _ _ q18
    replace h12_0 := A2.mono s21 h12_0
    replace sF := sF.trans s21
    refine fun p41 n41 => ?_
    have w41 : W F21 _ ((p41, .dK []) :: (p20, .lst vs21_0) :: (a_pot, .lst vs12_0) :: os) := w21.new n41
    refine ⟨(w41.get (pre := [])), encM kI V.bl ([((0 : Int), true)] : List (Int × Bool)), rfl, (by show 1 ≤ 15; decide), ?_⟩
    have w42 : W F21 _ ((p41, .dK (mergeK [] (encM kI V.bl ([((0 : Int), true)] : List (Int × Bool))))) :: (p20, .lst vs21_0) :: (a_pot, .lst vs12_0) :: os) := w41.set (pre := [])
    have h41 : (mergeK [] (encM kI V.bl ([((0 : Int), true)] : List (Int × Bool)))) = encM kI V.bl (mmk ([((0 : Int), true)] : List (Int × Bool))) := merge_enc _ []
    obtain ⟨c44, hm⟩ := pb_rng hm
    refine ⟨_, rfl, _, rfl, c44.2.2.1, c44.2.2.2, ?_⟩
    refine forS (tw_rng0 (j := x_many)) hm (fun (g43 : (List (Int × Bool))) σ H' => ∃ (F' : Hp) (vs43_0 : List (Key × V)) (o43_11 : Option V) (o43_12 : Option V) (o43_10 : Option V), σ = [some (.ref a_pot), some (.int x_many), some (.int ((2 : Int) + y2.1)), some (.ref D4), some (.ref D12), some (.ref p20), o21_6, o21_7, o21_8, some (.ref p41), o43_10, o43_11, o43_12] ∧ Same F21 F' ∧ W F' H' ((p41, .dK vs43_0) :: (p20, .lst vs21_0) :: (a_pot, .lst vs12_0) :: os) ∧ vs43_0 = encM kI V.bl g43) ⟨_, _, _, _, _, rfl, Same.refl _, w42, h41⟩ (fun _ _ _ _ => trivial) ?_ ?_
    · -- a turn
      intro b43 g43 x43 σ43 H43 H43' N43 P43 hI hy hN43 hm
      obtain ⟨F43, vs43_0, o43_11, o43_12, o43_10, rfl, s43, w43, h43_0⟩ := hI
      replace gg4 := A2.mono s43 gg4
      replace q10 := s43 _ _ q10
      replace gg12 := A2.mono s43 gg12
      replace q18 := s43 _ _ q18
      replace h21_0 := A2.mono s43 h21_0
      replace h12_0 := A2.mono s43 h12_0
      replace sF := sF.trans s43
      obtain ⟨rfl, rfl⟩ := hy
      refine ⟨_, rfl, _, rfl, ⟨_, SqL.of (w43.get (pre := [_]))⟩, ?_⟩
      refine forS (tw_list (a := p20) h21_0) hm (fun (g45 : (List (Int × Bool))) σ H' => ∃ (F' : Hp) (vs45_0 : List (Key × V)) (o45_11 : Option V) (o45_12 : Option V), σ = [some (.ref a_pot), some (.int x_many), some (.int ((2 : Int) + y2.1)), some (.ref D4), some (.ref D12), some (.ref p20), o21_6, o21_7, o21_8, some (.ref p41), some (.int b43), o45_11, o45_12] ∧ Same F43 F' ∧ W F' H' ((p41, .dK vs45_0) :: (p20, .lst vs21_0) :: (a_pot, .lst vs12_0) :: os) ∧ vs45_0 = encM kI V.bl g45) ⟨_, _, _, _, rfl, Same.refl _, w43, h43_0⟩ (fun g σ H' hI => by obtain ⟨F', _, _, _, _, s, w, _⟩ := hI; exact SqL.of (w.get (pre := [_]))) ?_ ?_
      · -- a turn
        intro b45 g45 x45 σ45 H45 H45' N45 P45 hI hy hN45 hm
        obtain ⟨F45, vs45_0, o45_11, o45_12, rfl, s45, w45, h45_0⟩ := hI
        replace gg4 := A2.mono s45 gg4
        replace q10 := s45 _ _ q10
        replace gg12 := A2.mono s45 gg12
        replace q18 := s45 _ _ q18
        replace h21_0 := A2.mono s45 h21_0
        replace h12_0 := A2.mono s45 h12_0
        replace sF := sF.trans s45
        obtain ⟨rfl, r46⟩ := hy
        replace r46 := Rep.mono s45 r46
        obtain ⟨a47, u47, z47, rfl, q47, r47a, r47b⟩ := r46
        obtain rfl : u47 = V.int b45.1 := r47a
        obtain rfl : z47 = V.int b45.2 := r47b
        refine ⟨_, _, rfl, SqT.of (w45.same _ _ q47), rfl, _, _, rfl, _, _, rfl, rfl, ?_⟩
        try dsimp only
        refine stepIf ?_
        refine cutT (fun c H' => c = (((mhas g45 b45.1) || (mhas g45 b45.2))) ∧ ∃ F', Same F45 F' ∧ W F' H' ((p41, .dK vs45_0) :: (p20, .lst vs21_0) :: (a_pot, .lst vs12_0) :: os)) (fun Q48 q48 => ?_) (fun c48 H48 hc48 => ?_)
        · -- the ways
          refine ⟨_, rfl, _, rfl, _, _, _, rfl, dget_k (ev := V.bl) (m := g45) (k := b45.1) ((w45.get (pre := [])).trans (congrArg (fun z => some (HO.dK z)) h45_0)), get_has _ _ _, _, rfl, ?_⟩
          refine ifB (fun k49 => ?_) (fun k49 => ?_)
          · skip
            exact q48 _ _ ⟨(by first | rfl | exact absurd k49 (by decide) | (simp [k49]; done) | ((try simp only [Bool.not_eq_true] at k49); simp only [k49, Bool.true_or, Bool.false_or, Bool.or_false, Bool.or_true, Bool.true_and, Bool.false_and, Bool.and_true, Bool.and_false])), _, Same.refl _, w45⟩
          · skip
            exact ⟨_, rfl, _, rfl, _, _, _, rfl, dget_k (ev := V.bl) (m := g45) (k := b45.2) ((w45.get (pre := [])).trans (congrArg (fun z => some (HO.dK z)) h45_0)), get_has _ _ _, _, rfl, q48 _ _ ⟨(by first | rfl | exact absurd k49 (by decide) | (simp [k49]; done) | ((try simp only [Bool.not_eq_true] at k49); simp only [k49, Bool.true_or, Bool.false_or, Bool.or_false, Bool.or_true, Bool.true_and, Bool.false_and, Bool.and_true, Bool.and_false])), _, Same.refl _, w45⟩⟩
        obtain ⟨rfl, F48, s48, w48⟩ := hc48
        replace gg4 := A2.mono s48 gg4
        replace q10 := s48 _ _ q10
        replace gg12 := A2.mono s48 gg12
        replace q18 := s48 _ _ q18
        replace h21_0 := A2.mono s48 h21_0
        replace h12_0 := A2.mono s48 h12_0
        replace sF := sF.trans s48
        refine post_ite hm (fun k52 hm => ?_) (fun k52 hm => ?_)
        · skip
          obtain ⟨l53, z53, e53, hm⟩ := pn_mput hm
          refine ⟨_, rfl, _, rfl, _, _, rfl, dput_k (ev := V.bl) (m := g45) (k := b45.1) (v := true) ((w48.get (pre := [])).trans (congrArg (fun z => some (HO.dK z)) h45_0)) z53, ?_⟩
          have h53 : (encM kI V.bl (mput g45 b45.1 true)) = encM kI V.bl l53 := by rw [e53]
          have w54 : W F48 _ ((p41, .dK (encM kI V.bl (mput g45 b45.1 true))) :: (p20, .lst vs21_0) :: (a_pot, .lst vs12_0) :: os) := w48.set (pre := [])
          obtain ⟨l55, z55, e55, hm⟩ := pn_mput hm
          refine ⟨_, rfl, _, rfl, _, _, rfl, dput_k (ev := V.bl) (m := l53) (k := b45.2) (v := true) ((w54.get (pre := [])).trans (congrArg (fun z => some (HO.dK z)) h53)) z55, ?_⟩
          have h55 : (encM kI V.bl (mput l53 b45.2 true)) = encM kI V.bl l55 := by rw [e55]
          have w56 : W F48 _ ((p41, .dK (encM kI V.bl (mput l53 b45.2 true))) :: (p20, .lst vs21_0) :: (a_pot, .lst vs12_0) :: os) := w54.set (pre := [])
          exact hN45 _ (post_ok hm) _ _ ⟨_, _, _, _, rfl, (s45.trans s48), w56, h55⟩
        · skip
          exact hN45 _ (post_ok hm) _ _ ⟨_, _, _, _, rfl, (s45.trans s48), w48, h45_0⟩
      intro g45 σ45 H45 hI hm
      obtain ⟨F45, vs45_0, o45_11, o45_12, rfl, s45, w45, h45_0⟩ := hI
      replace gg4 := A2.mono s45 gg4
      replace q10 := s45 _ _ q10
      replace gg12 := A2.mono s45 gg12
      replace q18 := s45 _ _ q18
      replace h21_0 := A2.mono s45 h21_0
      replace h12_0 := A2.mono s45 h12_0
      replace sF := sF.trans s45
      exact hN43 _ (post_ok hm) _ _ ⟨_, _, _, _, _, rfl, (s43.trans s45), w45, h45_0⟩
    intro g43 σ43 H43 hI hm
    obtain ⟨F43, vs43_0, o43_11, o43_12, o43_10, rfl, s43, w43, h43_0⟩ := hI
    replace gg4 := A2.mono s43 gg4
    replace q10 := s43 _ _ q10
    replace gg12 := A2.mono s43 gg12
    replace q18 := s43 _ _ q18
    replace h21_0 := A2.mono s43 h21_0
    replace h12_0 := A2.mono s43 h12_0
    replace sF := sF.trans s43
    obtain ⟨c57, hm⟩ := pb_rng hm
    refine ⟨_, rfl, _, rfl, _, _, rfl, c57, fun D58 nD58 => ?_⟩
    refine lcF (K := K) (tw_rng (i := (1 : Int)) (j := x_many)) hm w43 nD58 (fun F' H' acc s w => trivial) ?_ ?_
    · -- one turn
      intro b58 x58 F58 H58 H58' acc58 N58 M58 P58 s58 w58 y58 hN58 hM58 hm
      replace gg4 := A2.mono s58 gg4
      replace q10 := s58 _ _ q10
      replace gg12 := A2.mono s58 gg12
      replace q18 := s58 _ _ q18
      replace h21_0 := A2.mono s58 h21_0
      replace h12_0 := A2.mono s58 h12_0
      replace sF := sF.trans s58
      obtain ⟨rfl, rfl⟩ := y58
      refine ⟨rfl, _, rfl, _, rfl, _, _, _, rfl, dget_k (ev := V.bl) (m := g43) (k := b58) ((w58.get (pre := [_])).trans (congrArg (fun z => some (HO.dK z)) h43_0)), get_has _ _ _, _, rfl, ?_⟩
      refine post_ite hm (fun k60 hm => ?_) (fun k60 hm => ?_)
      · skip
        refine ⟨_, rfl, (by show 2 ≤ sizeLine; decide), fun p61 n61 => ?_⟩
        obtain ⟨F61, s61, w61, q61⟩ := w58.frzE (o := .tup [(.int 0), (.int b58)]) n61
        replace gg4 := A2.mono s61 gg4
        replace q10 := s61 _ _ q10
        replace gg12 := A2.mono s61 gg12
        replace q18 := s61 _ _ q18
        replace h21_0 := A2.mono s61 h21_0
        replace h12_0 := A2.mono s61 h12_0
        replace sF := sF.trans s61
        exact hN58 _ (post_ok hm) _ _ _ w61 s61 (rep_pair q61 rep_i rep_i)
      · skip
        exact hM58 (post_ok hm) _ _ w58 (Same.refl _)
    intro us58 F58 H58 ys58 s58 w58 gg58 hm
    replace gg4 := A2.mono s58 gg4
    replace q10 := s58 _ _ q10
    replace gg12 := A2.mono s58 gg12
    replace q18 := s58 _ _ q18
    replace h21_0 := A2.mono s58 h21_0
    replace h12_0 := A2.mono s58 h12_0
    replace sF := sF.trans s58
    obtain ⟨l63, z63, e63, hm⟩ := pn_extend hm
    have h63 : A2 (rep K F58) (vs21_0 ++ us58) l63 := e63 ▸ A2.append h21_0 gg58
    refine ⟨_, _, _, _, rfl, rfl, (w58.get (pre := [_, _])), (w58.get (pre := [])), (A2.le2 h21_0 gg58 z63), fun p64 n64 => ?_⟩
    have w64 : W F58 _ ((p64, .lst (vs21_0 ++ us58)) :: (D58, .lst us58) :: (p41, .dK vs43_0) :: (p20, .lst vs21_0) :: (a_pot, .lst vs12_0) :: os) := w58.new n64
    have w65 : W F58 _ ((p64, .lst (vs21_0 ++ us58)) :: (p41, .dK vs43_0) :: (p20, .lst vs21_0) :: (a_pot, .lst vs12_0) :: os) := w64.drop (pre := [_])
    have w66 : W F58 _ ((p64, .lst (vs21_0 ++ us58)) :: (p20, .lst vs21_0) :: (a_pot, .lst vs12_0) :: os) := w65.drop (pre := [_])
    have w67 : W F58 _ ((p64, .lst (vs21_0 ++ us58)) :: (a_pot, .lst vs12_0) :: os) := w66.drop (pre := [_])
    exact (post_ok hm) _ _ _ _ _ w67 sF h63 h12_0
def sp_law_ties (K : Fg) : Sp := fun vs H Q E => ∃ (F : Hp) (os : List (Addr × HO)) (a_pot : Addr) (vs_pot : List V) (x_pot : (List Int)) (x_many : Int), vs = [.ref a_pot, .int x_many] ∧ W F H ((a_pot, .lst vs_pot) :: os) ∧ A2 (rep K F) vs_pot x_pot ∧ Post (law_ties x_pot x_many) (RetLM K F a_pot os Q) noX
theorem sc_law_ties : FnScope ["pot", "many", "way", "found", "k", "most", "one", "other", "j"] ["pot", "many"] (defScope s_law_ties) := ⟨rfl, rfl, rfl, by decide +kernel, rfl, by decide +kernel, by decide +kernel⟩
set_option maxHeartbeats 40000000 in
theorem ok_law_ties (T : Tx K mg A FD) : FnOk P w K mg base CX0 3 (A 44) (FD 44) ["pot", "many"] (sp_law_ties K) := by
  refine T.d44.fn.ok sc_law_ties (fun vs H Q E h => ?_) (fun cdv Ar outer s H vs Q E hr h => ?_)
  · obtain ⟨F, os, a_pot, vs_pot, x_pot, x_many, rfl, _⟩ := h
    rfl
  · obtain ⟨F0, os, a_pot, vs_pot, x_pot, x_many, rfl, w0, h_pot, hm⟩ := h
    have sF : Same F0 F0 := Same.refl _
    refine ⟨_, (pss_cons (ps_set (i := 2) sc_law_ties.nd rfl (Or.inl rfl) (pe_call (ok_law_take T) (hr.mono (by decide)) (by rfl) T.d41.mg T.d41.fn.kp T.d41.b .nil pass0 (pa_cons (pv 0) (pa_cons pe_int pa_nil)))) (pss_cons (ps_setLc (i := 3) (own := [("k", 4)]) (g := gName 4) (by rfl) sc_law_ties.nd rfl rfl (sw_true rfl rfl rfl (by decide +kernel)) (pi_range2 (by rfl) T.n_range (pa_cons pe_int (pa_cons (pv 1) pa_nil))) (blkOk_by (own := [("k", 4)]) (N := ["pot", "many", "way", "found", "k", "most", "one", "other", "j"]) (sc := defScope s_law_ties) (by decide +kernel)) (fun _ _ _ _ _ => (pg_name (i := 4) sc_law_ties.nd rfl (Or.inl rfl))) (fun _ _ _ _ _ => pts_nil) (fun _ _ _ _ _ => (pe_tup (pa_cons (pe_op op_sub (pv 4) pe_int) (pa_cons (pv 4) pa_nil))))) (pss_cons (ps_if (PW.pt (pw_and (pt_cmp (pc_eqI (pv 2) pe_int)) (pw_and1 (pt_cmp (pc_gt (pv 1) pe_int))))) (pss_one (ps_expr (pe_bm PySem.F.plainAttrs_list PySem.F.slot_list_append PySem.F.type_list_append mt_append (pv 3) (pa_cons (pe_tup (pa_cons pe_int (pa_cons (pe_op op_sub (pv 1) pe_int) pa_nil))) pa_nil)))) pss_nil) (pss_cons (ps_if (pt_cmp (pc_eqI (pv 2) pe_int)) (pss_one (ps_setLc (i := 3) (own := [("k", 4)]) (g := gName 4) (by rfl) sc_law_ties.nd rfl rfl (sw_true rfl rfl rfl (by decide +kernel)) (pi_range2 (by rfl) T.n_range (pa_cons pe_int (pa_cons (pv 1) pa_nil))) (blkOk_by (own := [("k", 4)]) (N := ["pot", "many", "way", "found", "k", "most", "one", "other", "j"]) (sc := defScope s_law_ties) (by decide +kernel)) (fun _ _ _ _ _ => (pg_name (i := 4) sc_law_ties.nd rfl (Or.inl rfl))) (fun _ _ _ _ _ => pts_nil) (fun _ _ _ _ _ => (pe_tup (pa_cons pe_int (pa_cons (pv 4) pa_nil)))))) pss_nil) (pss_cons (ps_if (PW.pt (pw_and (pt_cmp (pc_eqI (pv 2) pe_int)) (pw_and1 (pt_cmp (pc_lt (pv 1) pe_int))))) (pss_cons (ps_set (i := 3) sc_law_ties.nd rfl (Or.inl rfl) (pe_lst pa_nil)) (pss_one (ps_for PassesOwn.never rfl (pi_range1 (by rfl) T.n_range (pa_cons (pv 1) pa_nil)) (pg_name (i := 4) sc_law_ties.nd rfl (Or.inr rfl)) (pss_one (ps_expr (pe_bm PySem.F.plainAttrs_list PySem.F.slot_list_extend PySem.F.type_list_extend mt_extend (pv 3) (pa_cons (pe_lc (own := [("j", 8)]) (g := gName 8) (by rfl) sc_law_ties.nd (pi_range1 (by rfl) T.n_range (pa_cons (pv 4) pa_nil)) (blkOk_by (own := [("j", 8)]) (N := ["pot", "many", "way", "found", "k", "most", "one", "other", "j"]) (sc := defScope s_law_ties) (by decide +kernel)) (fun _ _ _ _ _ => (pg_name (i := 8) sc_law_ties.nd rfl (Or.inl rfl))) (fun _ _ _ _ _ => pts_nil) (fun _ _ _ _ _ => (pe_tup (pa_cons (pv 8) (pa_cons (pv 4) pa_nil))))) pa_nil))))))) pss_nil) (pss_cons (ps_if (PW.pt (pw_and (pt_cmp (pc_eqI (pv 2) pe_int)) (pw_and1 (pt_cmp (pc_lt (pv 1) pe_int))))) (pss_one (ps_set (i := 3) sc_law_ties.nd rfl (Or.inl rfl) (pe_call (ok_law_bunches T) (hr.mono (by decide)) (by rfl) T.d45.mg T.d45.fn.kp T.d45.b .nil pass0 (pa_cons (pv 0) (pa_cons (pv 1) pa_nil))))) pss_nil) (pss_cons (ps_if (pt_cmp (pc_gt (pv 2) pe_int)) (pss_cons (ps_set (i := 3) sc_law_ties.nd rfl (Or.inl rfl) (pe_lst pa_nil)) (pss_one (ps_for PassesOwn.never rfl (pi_range2 (by rfl) T.n_range (pa_cons pe_int (pa_cons (pv 1) pa_nil))) (pg_name (i := 4) sc_law_ties.nd rfl (Or.inr rfl)) (pss_one (ps_expr (pe_bm PySem.F.plainAttrs_list PySem.F.slot_list_append PySem.F.type_list_append mt_append (pv 3) (pa_cons (pe_tup (pa_cons (pe_ix (ix_listK (K := K) rfl) (pe_lst (pa_cons (pe_call (ok_law_take T) (hr.mono (by decide)) (by rfl) T.d41.mg T.d41.fn.kp T.d41.b .nil pass0 (pa_cons (pv 0) (pa_cons (pv 4) pa_nil))) (pa_cons (pe_op op_sub (pv 4) pe_int) (pa_cons (pe_callB (call_max2 rfl) (by rfl) T.n_max (by decide +kernel) (pa_cons pe_int (pa_cons (pe_op op_sub (pv 4) pe_int) pa_nil))) pa_nil)))) (pe_call (ok_law_take T) (hr.mono (by decide)) (by rfl) T.d41.mg T.d41.fn.kp T.d41.b .nil pass0 (pa_cons (pv 0) (pa_cons pe_int pa_nil))) (fun _ _ => rfl)) (pa_cons (pv 4) pa_nil))) pa_nil))))))) pss_nil) (pss_cons (ps_if (pt_cmp (pc_gt (pv 2) pe_int)) (pss_cons (ps_set (i := 5) sc_law_ties.nd rfl (Or.inl rfl) (pe_ix (ix_listK (K := K) rfl) (pe_lst (pa_cons pe_int (pa_cons pe_int (pa_cons pe_int (pa_cons pe_int pa_nil))))) (pe_call (ok_law_take T) (hr.mono (by decide)) (by rfl) T.d41.mg T.d41.fn.kp T.d41.b .nil pass0 (pa_cons (pv 0) (pa_cons pe_int pa_nil))) (fun _ _ => rfl))) (pss_one (ps_for PassesOwn.never rfl (pi_range1 (by rfl) T.n_range (pa_cons (pe_call (ok_law_take T) (hr.mono (by decide)) (by rfl) T.d41.mg T.d41.fn.kp T.d41.b .nil pass0 (pa_cons (pv 0) (pa_cons (pv 5) pa_nil))) pa_nil)) (pg_name (i := 4) sc_law_ties.nd rfl (Or.inr rfl)) (pss_cons (ps_set (i := 6) sc_law_ties.nd rfl (Or.inl rfl) (pe_call (ok_law_take T) (hr.mono (by decide)) (by rfl) T.d41.mg T.d41.fn.kp T.d41.b .nil pass0 (pa_cons (pv 0) (pa_cons (pv 1) pa_nil)))) (pss_cons (ps_set (i := 7) sc_law_ties.nd rfl (Or.inl rfl) (pe_call (ok_law_take T) (hr.mono (by decide)) (by rfl) T.d41.mg T.d41.fn.kp T.d41.b .nil pass0 (pa_cons (pv 0) (pa_cons (pv 1) pa_nil)))) (pss_one (ps_if (PW.pt (pw_and (pt_cmp (pc_lt (pv 6) (pv 7))) (pw_and1 (pt_cmpR (op_notInL (K := K) rfl (Int × Int) (by decide) (Room.units65 hr)) (pe_tup (pa_cons (pv 6) (pa_cons (pv 7) pa_nil))) (pv 3) (by rfl))))) (pss_one (ps_expr (pe_bm PySem.F.plainAttrs_list PySem.F.slot_list_append PySem.F.type_list_append mt_append (pv 3) (pa_cons (pe_tup (pa_cons (pv 6) (pa_cons (pv 7) pa_nil))) pa_nil)))) pss_nil))))))) pss_nil) (pss_one (ps_ret (pv 3))))))))))), ?_⟩
    refine ⟨_, rfl, _, _, _, _, _, _, rfl, w0, h_pot, ?_⟩
    refine (post_bind hm).mono (fun y2 hm v2 vs2 F2 H2 w2 s2 r2 h2 => ?_) (fun _ z => z)
    replace sF := sF.trans s2
    obtain rfl : v2 = V.int y2.1 := r2
    obtain ⟨c3, hm⟩ := pb_rng hm
    refine ⟨_, rfl, _, _, rfl, c3, fun D4 nD4 => ?_⟩
    refine lcM (K := K) (tw_rng (i := (1 : Int)) (j := x_many)) hm w2 nD4 (fun F' H' acc s w => trivial) ?_ ?_
    · -- one turn
      intro b4 x4 F4 H4 H4' acc4 N4 P4 s4 w4 y4 hN4 hm
      replace h2 := A2.mono s4 h2
      replace sF := sF.trans s4
      obtain ⟨rfl, rfl⟩ := y4
      refine ⟨rfl, _, rfl, _, _, rfl, rfl, _, rfl, (by show 2 ≤ sizeLine; decide), fun p6 n6 => ?_⟩
      obtain ⟨F6, s6, w6, q6⟩ := w4.frzE (o := .tup [(.int (b4 - (1 : Int))), (.int b4)]) n6
      replace h2 := A2.mono s6 h2
      replace sF := sF.trans s6
      exact hN4 _ (post_ok hm) _ _ _ w6 s6 (rep_pair q6 rep_i rep_i)
    intro us4 F4 H4 ys4 s4 w4 gg4 hm
    replace h2 := A2.mono s4 h2
    replace sF := sF.trans s4
    refine stepN ?_
    try dsimp only
    refine joinS hm (fun (g8 : (List (Int × Int))) σ H' => ∃ (F' : Hp) (vs8_0 : List V), σ = [some (.ref a_pot), some (.int x_many), some (.int y2.1), some (.ref D4), none, none, none, none, none] ∧ Same F4 F' ∧ W F' H' ((D4, .lst vs8_0) :: (a_pot, .lst vs2) :: os) ∧ A2 (rep K F') vs8_0 g8) ?_ ?_
    · intro N8 P8 hN8 hm
      refine stepIf ?_
      refine cutT (fun c H' => c = (((decide (y2.1 = (1 : Int))) && (decide ((2 : Int) < x_many)))) ∧ ∃ F', Same F4 F' ∧ W F' H' ((D4, .lst us4) :: (a_pot, .lst vs2) :: os)) (fun Q9 q9 => ?_) (fun c9 H9 hc9 => ?_)
      · -- the ways
        refine ⟨_, rfl, _, _, rfl, rfl, _, rfl, ?_⟩
        refine ifB (fun k10 => ?_) (fun k10 => ?_)
        · skip
          exact ⟨_, rfl, _, _, rfl, rfl, _, rfl, q9 _ _ ⟨(by first | rfl | exact absurd k10 (by decide) | (simp [k10]; done) | ((try simp only [Bool.not_eq_true] at k10); simp only [k10, Bool.true_or, Bool.false_or, Bool.or_false, Bool.or_true, Bool.true_and, Bool.false_and, Bool.and_true, Bool.and_false])), _, Same.refl _, w4⟩⟩
        · skip
          exact q9 _ _ ⟨(by first | rfl | exact absurd k10 (by decide) | (simp [k10]; done) | ((try simp only [Bool.not_eq_true] at k10); simp only [k10, Bool.true_or, Bool.false_or, Bool.or_false, Bool.or_true, Bool.true_and, Bool.false_and, Bool.and_true, Bool.and_false])), _, Same.refl _, w4⟩
      obtain ⟨rfl, F9, s9, w9⟩ := hc9
      replace gg4 := A2.mono s9 gg4
      replace h2 := A2.mono s9 h2
      replace sF := sF.trans s9
      refine post_ite hm (fun k13 hm => ?_) (fun k13 hm => ?_)
      · skip
        refine ⟨_, rfl, .inl ⟨rfl, _, SqL.of (w9.get (pre := []))⟩, _, rfl, _, _, rfl, rfl, (by show 2 ≤ sizeLine; decide), fun p14 n14 => ?_⟩
        obtain ⟨F14, s14, w14, q14⟩ := w9.frzE (o := .tup [(.int 0), (.int (x_many - (1 : Int)))]) n14
        replace gg4 := A2.mono s14 gg4
        replace h2 := A2.mono s14 h2
        replace sF := sF.trans s14
        obtain ⟨l15, z15, e15, hm⟩ := pn_app hm
        refine ⟨_, _, _, rfl, rfl, (w14.get (pre := [])), (A2.lt gg4 z15), ?_⟩
        have h15 : A2 (rep K F14) (us4 ++ [(V.ref p14)]) l15 := e15 ▸ A2.snoc gg4 (rep_pair q14 rep_i rep_i)
        have w16 : W F14 _ ((D4, .lst (us4 ++ [(V.ref p14)])) :: (a_pot, .lst vs2) :: os) := w14.set (pre := [])
        exact hN8 _ (post_ok hm) _ _ ⟨_, _, rfl, (s9.trans s14), w16, h15⟩
      · skip
        exact hN8 _ (post_ok hm) _ _ ⟨_, _, rfl, s9, w9, gg4⟩
    intro g8 σ8 H8 hI hm
    obtain ⟨F8, vs8_0, rfl, s8, w8, h8_0⟩ := hI
    replace h2 := A2.mono s8 h2
    replace sF := sF.trans s8
    try dsimp only
    refine joinS hm (fun (g17 : (List (Int × Int))) σ H' => ∃ (F' : Hp) (ao17_3 : Addr) (uo17_3 : List V), σ = [some (.ref a_pot), some (.int x_many), some (.int y2.1), some (.ref ao17_3), none, none, none, none, none] ∧ Same F8 F' ∧ W F' H' ((ao17_3, .lst uo17_3) :: (a_pot, .lst vs2) :: os) ∧ A2 (rep K F') uo17_3 g17) ?_ ?_
    · intro N17 P17 hN17 hm
      refine ⟨_, rfl, _, _, rfl, rfl, _, rfl, ?_⟩
      refine post_ite hm (fun k18 hm => ?_) (fun k18 hm => ?_)
      · skip
        obtain ⟨c19, hm⟩ := pb_rng hm
        refine ⟨_, rfl, _, _, rfl, c19, fun D20 nD20 => ?_⟩
        refine lcM (K := K) (tw_rng (i := (1 : Int)) (j := x_many)) hm w8 nD20 (fun F' H' acc s w => trivial) ?_ ?_
        · -- one turn
          intro b20 x20 F20 H20 H20' acc20 N20 P20 s20 w20 y20 hN20 hm
          replace h8_0 := A2.mono s20 h8_0
          replace h2 := A2.mono s20 h2
          replace sF := sF.trans s20
          obtain ⟨rfl, rfl⟩ := y20
          refine ⟨rfl, _, rfl, (by show 2 ≤ sizeLine; decide), fun p22 n22 => ?_⟩
          obtain ⟨F22, s22, w22, q22⟩ := w20.frzE (o := .tup [(.int 0), (.int b20)]) n22
          replace h8_0 := A2.mono s22 h8_0
          replace h2 := A2.mono s22 h2
          replace sF := sF.trans s22
          exact hN20 _ (post_ok hm) _ _ _ w22 s22 (rep_pair q22 rep_i rep_i)
        intro us20 F20 H20 ys20 s20 w20 gg20 hm
        replace h8_0 := A2.mono s20 h8_0
        replace h2 := A2.mono s20 h2
        replace sF := sF.trans s20
        have w24 : W F20 _ ((D20, .lst us20) :: (a_pot, .lst vs2) :: os) := w20.drop (pre := [_])
        exact hN17 _ (post_ok hm) _ _ ⟨_, _, _, rfl, s20, w24, gg20⟩
      · skip
        exact hN17 _ (post_ok hm) _ _ ⟨_, _, _, rfl, Same.refl _, w8, h8_0⟩
    intro g17 σ17 H17 hI hm
    obtain ⟨F17, ao17_3, uo17_3, rfl, s17, w17, ko17_3⟩ := hI
    replace h2 := A2.mono s17 h2
    replace sF := sF.trans s17
    try dsimp only
    refine joinS hm (fun (g26 : (List (Int × Int))) σ H' => ∃ (F' : Hp) (ao26_3 : Addr) (uo26_3 : List V) (o26_4 : Option V), σ = [some (.ref a_pot), some (.int x_many), some (.int y2.1), some (.ref ao26_3), o26_4, none, none, none, none] ∧ Same F17 F' ∧ W F' H' ((ao26_3, .lst uo26_3) :: (a_pot, .lst vs2) :: os) ∧ A2 (rep K F') uo26_3 g26) ?_ ?_
    · intro N26 P26 hN26 hm
      refine stepIf ?_
      refine cutT (fun c H' => c = (((decide (y2.1 = (3 : Int))) && (decide (x_many < (21 : Int))))) ∧ ∃ F', Same F17 F' ∧ W F' H' ((ao17_3, .lst uo17_3) :: (a_pot, .lst vs2) :: os)) (fun Q27 q27 => ?_) (fun c27 H27 hc27 => ?_)
      · -- the ways
        refine ⟨_, rfl, _, _, rfl, rfl, _, rfl, ?_⟩
        refine ifB (fun k28 => ?_) (fun k28 => ?_)
        · skip
          exact ⟨_, rfl, _, _, rfl, rfl, _, rfl, q27 _ _ ⟨(by first | rfl | exact absurd k28 (by decide) | (simp [k28]; done) | ((try simp only [Bool.not_eq_true] at k28); simp only [k28, Bool.true_or, Bool.false_or, Bool.or_false, Bool.or_true, Bool.true_and, Bool.false_and, Bool.and_true, Bool.and_false])), _, Same.refl _, w17⟩⟩
        · skip
          exact q27 _ _ ⟨(by first | rfl | exact absurd k28 (by decide) | (simp [k28]; done) | ((try simp only [Bool.not_eq_true] at k28); simp only [k28, Bool.true_or, Bool.false_or, Bool.or_false, Bool.or_true, Bool.true_and, Bool.false_and, Bool.and_true, Bool.and_false])), _, Same.refl _, w17⟩
      obtain ⟨rfl, F27, s27, w27⟩ := hc27
      replace ko17_3 := A2.mono s27 ko17_3
      replace h2 := A2.mono s27 h2
      replace sF := sF.trans s27
      refine post_ite hm (fun k31 hm => ?_) (fun k31 hm => ?_)
      · skip
        have h32 : A2 (rep K F27) [] ([] : (List (Int × Int))) := .nil
        refine ⟨(by show 0 ≤ sizeLine; decide), fun p33 n33 => ?_⟩
        have w33 : W F27 _ ((p33, .lst []) :: (ao17_3, .lst uo17_3) :: (a_pot, .lst vs2) :: os) := w27.new n33
        have w34 : W F27 _ ((p33, .lst []) :: (a_pot, .lst vs2) :: os) := w33.drop (pre := [_])
        obtain ⟨c36, hm⟩ := pb_rng hm
        refine ⟨_, rfl, _, rfl, c36.2.2.1, c36.2.2.2, ?_⟩
        refine forS (tw_rng0 (j := x_many)) hm (fun (g35 : (List (Int × Int))) σ H' => ∃ (F' : Hp) (vs35_0 : List V) (o35_4 : Option V), σ = [some (.ref a_pot), some (.int x_many), some (.int y2.1), some (.ref p33), o35_4, none, none, none, none] ∧ Same F27 F' ∧ W F' H' ((p33, .lst vs35_0) :: (a_pot, .lst vs2) :: os) ∧ A2 (rep K F') vs35_0 g35) ⟨_, _, _, rfl, Same.refl _, w34, h32⟩ (fun _ _ _ _ => trivial) ?_ ?_
        · -- a turn
          intro b35 g35 x35 σ35 H35 H35' N35 P35 hI hy hN35 hm
          obtain ⟨F35, vs35_0, o35_4, rfl, s35, w35, h35_0⟩ := hI
          replace h2 := A2.mono s35 h2
          replace sF := sF.trans s35
          obtain ⟨rfl, rfl⟩ := hy
          obtain ⟨c37, hm⟩ := pb_rng hm
          refine ⟨_, rfl, .inl ⟨rfl, _, SqL.of (w35.get (pre := []))⟩, _, rfl, _, rfl, c37.2.2.1, c37.2.2.2, fun D38 nD38 => ?_⟩
          refine lcM (K := K) (tw_rng0 (j := b35)) hm w35 nD38 (fun F' H' acc s w => trivial) ?_ ?_
          · -- one turn
            intro b38 x38 F38 H38 H38' acc38 N38 P38 s38 w38 y38 hN38 hm
            replace h35_0 := A2.mono s38 h35_0
            replace h2 := A2.mono s38 h2
            replace sF := sF.trans s38
            obtain ⟨rfl, rfl⟩ := y38
            refine ⟨rfl, _, rfl, _, rfl, (by show 2 ≤ sizeLine; decide), fun p40 n40 => ?_⟩
            obtain ⟨F40, s40, w40, q40⟩ := w38.frzE (o := .tup [(.int b38), (.int b35)]) n40
            replace h35_0 := A2.mono s40 h35_0
            replace h2 := A2.mono s40 h2
            replace sF := sF.trans s40
            exact hN38 _ (post_ok hm) _ _ _ w40 s40 (rep_pair q40 rep_i rep_i)
          intro us38 F38 H38 ys38 s38 w38 gg38 hm
          replace h35_0 := A2.mono s38 h35_0
          replace h2 := A2.mono s38 h2
          replace sF := sF.trans s38
          obtain ⟨l42, z42, e42, hm⟩ := pn_extend hm
          refine ⟨_, _, _, _, rfl, rfl, (w38.get (pre := [_])), (w38.get (pre := [])), (A2.le2 h35_0 gg38 z42), ?_⟩
          have h42 : A2 (rep K F38) (vs35_0 ++ us38) l42 := e42 ▸ A2.append h35_0 gg38
          have w43 : W F38 _ ((D38, .lst us38) :: (p33, .lst (vs35_0 ++ us38)) :: (a_pot, .lst vs2) :: os) := w38.set (pre := [_])
          have w44 : W F38 _ ((p33, .lst (vs35_0 ++ us38)) :: (a_pot, .lst vs2) :: os) := w43.drop (pre := [])
          exact hN35 _ (post_ok hm) _ _ ⟨_, _, _, rfl, (s35.trans s38), w44, h42⟩
        intro g35 σ35 H35 hI hm
        obtain ⟨F35, vs35_0, o35_4, rfl, s35, w35, h35_0⟩ := hI
        replace h2 := A2.mono s35 h2
        replace sF := sF.trans s35
        exact hN26 _ (post_ok hm) _ _ ⟨_, _, _, _, rfl, (s27.trans s35), w35, h35_0⟩
      · skip
        exact hN26 _ (post_ok hm) _ _ ⟨_, _, _, _, rfl, s27, w27, ko17_3⟩
    intro g26 σ26 H26 hI hm
    obtain ⟨F26, ao26_3, uo26_3, o26_4, rfl, s26, w26, ko26_3⟩ := hI
    replace h2 := A2.mono s26 h2
    replace sF := sF.trans s26
    try dsimp only
    refine joinS hm (fun (g46 : (List (Int × Int)) × (List Int)) σ H' => ∃ (F' : Hp) (ao46_3 : Addr) (uo46_3 : List V) (vs46_0 : List V), σ = [some (.ref a_pot), some (.int x_many), some (.int y2.1), some (.ref ao46_3), o26_4, none, none, none, none] ∧ Same F26 F' ∧ W F' H' ((ao46_3, .lst uo46_3) :: (a_pot, .lst vs46_0) :: os) ∧ A2 (rep K F') uo46_3 g46.1 ∧ A2 (rep K F') vs46_0 g46.2) ?_ ?_
    · intro N46 P46 hN46 hm
      refine stepIf ?_
      refine cutT (fun c H' => c = (((decide (y2.1 = (4 : Int))) && (decide (x_many < (13 : Int))))) ∧ ∃ F', Same F26 F' ∧ W F' H' ((ao26_3, .lst uo26_3) :: (a_pot, .lst vs2) :: os)) (fun Q47 q47 => ?_) (fun c47 H47 hc47 => ?_)
      · -- the ways
        refine ⟨_, rfl, _, _, rfl, rfl, _, rfl, ?_⟩
        refine ifB (fun k48 => ?_) (fun k48 => ?_)
        · skip
          exact ⟨_, rfl, _, _, rfl, rfl, _, rfl, q47 _ _ ⟨(by first | rfl | exact absurd k48 (by decide) | (simp [k48]; done) | ((try simp only [Bool.not_eq_true] at k48); simp only [k48, Bool.true_or, Bool.false_or, Bool.or_false, Bool.or_true, Bool.true_and, Bool.false_and, Bool.and_true, Bool.and_false])), _, Same.refl _, w26⟩⟩
        · skip
          exact q47 _ _ ⟨(by first | rfl | exact absurd k48 (by decide) | (simp [k48]; done) | ((try simp only [Bool.not_eq_true] at k48); simp only [k48, Bool.true_or, Bool.false_or, Bool.or_false, Bool.or_true, Bool.true_and, Bool.false_and, Bool.and_true, Bool.and_false])), _, Same.refl _, w26⟩
      obtain ⟨rfl, F47, s47, w47⟩ := hc47
      replace ko26_3 := A2.mono s47 ko26_3
      replace h2 := A2.mono s47 h2
      replace sF := sF.trans s47
      refine post_ite hm (fun k51 hm => ?_) (fun k51 hm => ?_)
      · skip
        have w52 : W F47 _ ((a_pot, .lst vs2) :: (ao26_3, .lst uo26_3) :: os) := w47.front (pre := [_])
        refine ⟨_, rfl, _, rfl, _, _, _, _, _, _, rfl, w52, h2, ?_⟩
        refine (post_bind hm).mono (fun y53 hm p53 us53 vs53 F53 H53 w53 s53 g53 h53 => ?_) (fun _ z => z)
        replace ko26_3 := A2.mono s53 ko26_3
        replace sF := sF.trans s53
        have w55 : W F53 _ ((p53, .lst us53) :: (a_pot, .lst vs53) :: os) := w53.drop (pre := [_, _])
        exact hN46 _ (post_ok hm) _ _ ⟨_, _, _, _, rfl, (s47.trans s53), w55, g53, h53⟩
      · skip
        exact hN46 _ (post_ok hm) _ _ ⟨_, _, _, _, rfl, s47, w47, ko26_3, h2⟩
    intro g46 σ46 H46 hI hm
    obtain ⟨F46, ao46_3, uo46_3, vs46_0, rfl, s46, w46, ko46_3, h46_0⟩ := hI
    replace sF := sF.trans s46
    try dsimp only
    refine joinS hm (fun (g57 : (List (Int × Int)) × (List Int)) σ H' => ∃ (F' : Hp) (ao57_3 : Addr) (uo57_3 : List V) (vs57_0 : List V) (o57_4 : Option V), σ = [some (.ref a_pot), some (.int x_many), some (.int y2.1), some (.ref ao57_3), o57_4, none, none, none, none] ∧ Same F46 F' ∧ W F' H' ((ao57_3, .lst uo57_3) :: (a_pot, .lst vs57_0) :: os) ∧ A2 (rep K F') uo57_3 g57.1 ∧ A2 (rep K F') vs57_0 g57.2) ?_ ?_
    · intro N57 P57 hN57 hm
      refine ⟨_, rfl, _, _, rfl, rfl, _, rfl, ?_⟩
      refine post_ite hm (fun k58 hm => ?_) (fun k58 hm => ?_)
      · skip
        have h59 : A2 (rep K F46) [] ([] : (List (Int × Int))) := .nil
        refine ⟨(by show 0 ≤ sizeLine; decide), fun p60 n60 => ?_⟩
        have w60 : W F46 _ ((p60, .lst []) :: (ao46_3, .lst uo46_3) :: (a_pot, .lst vs46_0) :: os) := w46.new n60
        have w61 : W F46 _ ((p60, .lst []) :: (a_pot, .lst vs46_0) :: os) := w60.drop (pre := [_])
        obtain ⟨c63, hm⟩ := pb_rng hm
        refine ⟨_, rfl, _, _, rfl, c63, ?_⟩
        refine forS (tw_rng (i := (1 : Int)) (j := x_many)) hm (fun (g62 : (List (Int × Int)) × (List Int)) σ H' => ∃ (F' : Hp) (vs62_0 : List V) (vs62_1 : List V) (o62_4 : Option V), σ = [some (.ref a_pot), some (.int x_many), some (.int y2.1), some (.ref p60), o62_4, none, none, none, none] ∧ Same F46 F' ∧ W F' H' ((p60, .lst vs62_0) :: (a_pot, .lst vs62_1) :: os) ∧ A2 (rep K F') vs62_0 g62.1 ∧ A2 (rep K F') vs62_1 g62.2) ⟨_, _, _, _, rfl, Same.refl _, w61, h59, h46_0⟩ (fun _ _ _ _ => trivial) ?_ ?_
        · -- a turn
          intro b62 g62 x62 σ62 H62 H62' N62 P62 hI hy hN62 hm
          obtain ⟨F62, vs62_0, vs62_1, o62_4, rfl, s62, w62, h62_0, h62_1⟩ := hI
          replace sF := sF.trans s62
          obtain ⟨rfl, rfl⟩ := hy
          have w64 : W F62 _ ((a_pot, .lst vs62_1) :: (p60, .lst vs62_0) :: os) := w62.front (pre := [_])
          refine ⟨_, rfl, .inl ⟨rfl, _, SqL.of (w62.get (pre := []))⟩, _, rfl, _, rfl, _, _, _, _, _, _, rfl, w64, h62_1, ?_⟩
          refine (post_bind hm).mono (fun y65 hm v65 vs65 F65 H65 w65 s65 r65 h65 => ?_) (fun _ z => z)
          replace h62_0 := A2.mono s65 h62_0
          replace sF := sF.trans s65
          obtain rfl : v65 = V.int y65.1 := r65
          have h66 : A2 (rep K F65) [(.int y65.1), (.int (b62 - (1 : Int))), (.int (max2 (0 : Int) (b62 - (2 : Int))))] ([y65.1, (b62 - (1 : Int)), (max2 (0 : Int) (b62 - (2 : Int)))] : (List Int)) := .cons rep_i (.cons rep_i (.cons rep_i (.nil)))
          refine ⟨_, rfl, _, _, rfl, rfl, _, rfl, _, _, rfl, rfl, _, _, rfl, (by show 3 ≤ sizeLine; decide), fun p67 n67 => ?_⟩
          have w67 : W F65 _ ((p67, .lst [(.int y65.1), (.int (b62 - (1 : Int))), (.int (max2 (0 : Int) (b62 - (2 : Int))))]) :: (a_pot, .lst vs65) :: (p60, .lst vs62_0) :: os) := w65.new n67
          have w68 : W F65 _ ((a_pot, .lst vs65) :: (p67, .lst [(.int y65.1), (.int (b62 - (1 : Int))), (.int (max2 (0 : Int) (b62 - (2 : Int))))]) :: (p60, .lst vs62_0) :: os) := w67.front (pre := [_])
          refine ⟨_, rfl, _, _, _, _, _, _, rfl, w68, h65, ?_⟩
          refine (post_bind hm).mono (fun y69 hm v69 vs69 F69 H69 w69 s69 r69 h69 => ?_) (fun _ z => z)
          replace h62_0 := A2.mono s69 h62_0
          replace h66 := A2.mono s69 h66
          replace sF := sF.trans s69
          obtain rfl : v69 = V.int y69.1 := r69
          obtain ⟨t70, e70, hm⟩ := pb_get hm
          obtain ⟨u70, f70, r70⟩ := A2.at h66 e70
          obtain rfl : u70 = V.int t70 := r70
          refine ⟨_, _, _, _, rfl, rfl, SqL.of (w69.get (pre := [_])), f70, _, rfl, (by show 2 ≤ sizeLine; decide), fun p71 n71 => ?_⟩
          obtain ⟨F71, s71, w71, q71⟩ := w69.frzE (o := .tup [(.int t70), (.int b62)]) n71
          replace h62_0 := A2.mono s71 h62_0
          replace h66 := A2.mono s71 h66
          replace h69 := A2.mono s71 h69
          replace sF := sF.trans s71
          obtain ⟨l72, z72, e72, hm⟩ := pn_app hm
          refine ⟨_, _, _, rfl, rfl, (w71.get (pre := [_, _])), (A2.lt h62_0 z72), ?_⟩
          have h72 : A2 (rep K F71) (vs62_0 ++ [(V.ref p71)]) l72 := e72 ▸ A2.snoc h62_0 (rep_pair q71 rep_i rep_i)
          have w73 : W F71 _ ((a_pot, .lst vs69) :: (p67, .lst [(.int y65.1), (.int (b62 - (1 : Int))), (.int (max2 (0 : Int) (b62 - (2 : Int))))]) :: (p60, .lst (vs62_0 ++ [(V.ref p71)])) :: os) := w71.set (pre := [_, _])
          have w74 : W F71 _ ((a_pot, .lst vs69) :: (p60, .lst (vs62_0 ++ [(V.ref p71)])) :: os) := w73.drop (pre := [_])
          have w75 : W F71 _ ((p60, .lst (vs62_0 ++ [(V.ref p71)])) :: (a_pot, .lst vs69) :: os) := w74.front (pre := [_])
          exact hN62 _ (post_ok hm) _ _ ⟨_, _, _, _, rfl, (s62.trans (s65.trans (s69.trans s71))), w75, h72, h69⟩
        intro g62 σ62 H62 hI hm
        obtain ⟨F62, vs62_0, vs62_1, o62_4, rfl, s62, w62, h62_0, h62_1⟩ := hI
        replace sF := sF.trans s62
        exact hN57 _ (post_ok hm) _ _ ⟨_, _, _, _, _, rfl, s62, w62, h62_0, h62_1⟩
      · skip
        exact hN57 _ (post_ok hm) _ _ ⟨_, _, _, _, _, rfl, Same.refl _, w46, ko46_3, h46_0⟩
    intro g57 σ57 H57 hI hm
    obtain ⟨F57, ao57_3, uo57_3, vs57_0, o57_4, rfl, s57, w57, ko57_3, h57_0⟩ := hI
    replace sF := sF.trans s57
    try dsimp only
    refine joinS hm (fun (g77 : (List (Int × Int)) × (List Int)) σ H' => ∃ (F' : Hp) (vs77_0 : List V) (vs77_1 : List V) (o77_5 : Option V) (o77_4 : Option V) (o77_6 : Option V) (o77_7 : Option V), σ = [some (.ref a_pot), some (.int x_many), some (.int y2.1), some (.ref ao57_3), o77_4, o77_5, o77_6, o77_7, none] ∧ Same F57 F' ∧ W F' H' ((ao57_3, .lst vs77_0) :: (a_pot, .lst vs77_1) :: os) ∧ A2 (rep K F') vs77_0 g77.1 ∧ A2 (rep K F') vs77_1 g77.2) ?_ ?_
    · intro N77 P77 hN77 hm
      refine ⟨_, rfl, _, _, rfl, rfl, _, rfl, ?_⟩
      refine post_ite hm (fun k78 hm => ?_) (fun k78 hm => ?_)
      · skip
        have h79 : A2 (rep K F57) [(.int 7), (.int 7), (.int 7), (.int 142)] ([(7 : Int), (7 : Int), (7 : Int), (142 : Int)] : (List Int)) := .cons rep_i (.cons rep_i (.cons rep_i (.cons rep_i (.nil))))
        refine ⟨(by show 4 ≤ sizeLine; decide), fun p80 n80 => ?_⟩
        have w80 : W F57 _ ((p80, .lst [(.int 7), (.int 7), (.int 7), (.int 142)]) :: (ao57_3, .lst uo57_3) :: (a_pot, .lst vs57_0) :: os) := w57.new n80
        have w81 : W F57 _ ((a_pot, .lst vs57_0) :: (p80, .lst [(.int 7), (.int 7), (.int 7), (.int 142)]) :: (ao57_3, .lst uo57_3) :: os) := w80.front (pre := [_, _])
        refine ⟨_, rfl, _, _, _, _, _, _, rfl, w81, h57_0, ?_⟩
        refine (post_bind hm).mono (fun y82 hm v82 vs82 F82 H82 w82 s82 r82 h82 => ?_) (fun _ z => z)
        replace ko57_3 := A2.mono s82 ko57_3
        replace h79 := A2.mono s82 h79
        replace sF := sF.trans s82
        obtain rfl : v82 = V.int y82.1 := r82
        obtain ⟨t83, e83, hm⟩ := pb_get hm
        obtain ⟨u83, f83, r83⟩ := A2.at h79 e83
        obtain rfl : u83 = V.int t83 := r83
        have w84 : W F82 _ ((a_pot, .lst vs82) :: (ao57_3, .lst uo57_3) :: os) := w82.drop (pre := [_])
        refine ⟨_, _, _, _, rfl, rfl, SqL.of (w82.get (pre := [_])), f83, _, rfl, _, rfl, _, _, _, _, _, _, rfl, w84, h82, ?_⟩
        refine (post_bind hm).mono (fun y86 hm v86 vs86 F86 H86 w86 s86 r86 h86 => ?_) (fun _ z => z)
        replace ko57_3 := A2.mono s86 ko57_3
        replace sF := sF.trans s86
        obtain rfl : v86 = V.int y86.1 := r86
        obtain ⟨c87, hm⟩ := pb_rng hm
        refine ⟨_, rfl, c87.2.2.1, c87.2.2.2, ?_⟩
        refine forS (tw_rng0 (j := y86.1)) hm (fun (g85 : (List Int) × (List (Int × Int))) σ H' => ∃ (F' : Hp) (vs85_0 : List V) (vs85_1 : List V) (o85_6 : Option V) (o85_7 : Option V) (o85_4 : Option V), σ = [some (.ref a_pot), some (.int x_many), some (.int y2.1), some (.ref ao57_3), o85_4, some (.int t83), o85_6, o85_7, none] ∧ Same F86 F' ∧ W F' H' ((a_pot, .lst vs85_0) :: (ao57_3, .lst vs85_1) :: os) ∧ A2 (rep K F') vs85_0 g85.1 ∧ A2 (rep K F') vs85_1 g85.2) ⟨_, _, _, _, _, _, rfl, Same.refl _, w86, h86, ko57_3⟩ (fun _ _ _ _ => trivial) ?_ ?_
        · -- a turn
          intro b85 g85 x85 σ85 H85 H85' N85 P85 hI hy hN85 hm
          obtain ⟨F85, vs85_0, vs85_1, o85_6, o85_7, o85_4, rfl, s85, w85, h85_0, h85_1⟩ := hI
          replace sF := sF.trans s85
          obtain ⟨rfl, rfl⟩ := hy
          refine ⟨_, rfl, _, rfl, _, _, _, _, _, _, rfl, w85, h85_0, ?_⟩
          refine (post_bind hm).mono (fun y88 hm v88 vs88 F88 H88 w88 s88 r88 h88 => ?_) (fun _ z => z)
          replace h85_1 := A2.mono s88 h85_1
          replace sF := sF.trans s88
          obtain rfl : v88 = V.int y88.1 := r88
          refine ⟨_, rfl, _, rfl, _, _, _, _, _, _, rfl, w88, h88, ?_⟩
          refine (post_bind hm).mono (fun y89 hm v89 vs89 F89 H89 w89 s89 r89 h89 => ?_) (fun _ z => z)
          replace h85_1 := A2.mono s89 h85_1
          replace sF := sF.trans s89
          obtain rfl : v89 = V.int y89.1 := r89
          refine stepN ?_
          try dsimp only
          refine stepIf ?_
          refine cutT (fun c H' => c = (((decide (y88.1 < y89.1)) && (!inB (y88.1, y89.1) g85.2))) ∧ ∃ F', Same F89 F' ∧ W F' H' ((a_pot, .lst vs89) :: (ao57_3, .lst vs85_1) :: os)) (fun Q90 q90 => ?_) (fun c90 H90 hc90 => ?_)
          · -- the ways
            refine ⟨_, rfl, _, rfl, _, _, rfl, rfl, _, rfl, ?_⟩
            refine ifB (fun k91 => ?_) (fun k91 => ?_)
            · skip
              refine ⟨_, rfl, _, rfl, (by show 2 ≤ sizeLine; decide), fun p92 n92 => ?_⟩
              obtain ⟨F92, s92, w92, q92⟩ := w89.frzE (o := .tup [(.int y88.1), (.int y89.1)]) n92
              replace h89 := A2.mono s92 h89
              replace h85_1 := A2.mono s92 h85_1
              replace sF := sF.trans s92
              exact ⟨_, rfl, ((y88.1, y89.1) : (Int × Int)), _, (Rep.mono w92.same (rep_pair q92 rep_i rep_i)), (rep_own (pre := [_]) w92 h85_1), _, rfl, q90 _ _ ⟨(by first | rfl | exact absurd k91 (by decide) | (simp [k91]; done) | ((try simp only [Bool.not_eq_true] at k91); simp only [k91, Bool.true_or, Bool.false_or, Bool.or_false, Bool.or_true, Bool.true_and, Bool.false_and, Bool.and_true, Bool.and_false])), _, s92, w92⟩⟩
            · skip
              exact q90 _ _ ⟨(by first | rfl | exact absurd k91 (by decide) | (simp [k91]; done) | ((try simp only [Bool.not_eq_true] at k91); simp only [k91, Bool.true_or, Bool.false_or, Bool.or_false, Bool.or_true, Bool.true_and, Bool.false_and, Bool.and_true, Bool.and_false])), _, Same.refl _, w89⟩
          obtain ⟨rfl, F90, s90, w90⟩ := hc90
          replace h89 := A2.mono s90 h89
          replace h85_1 := A2.mono s90 h85_1
          replace sF := sF.trans s90
          refine post_ite hm (fun k95 hm => ?_) (fun k95 hm => ?_)
          · skip
            refine ⟨_, rfl, .inl ⟨rfl, _, SqL.of (w90.get (pre := [_]))⟩, _, rfl, _, rfl, (by show 2 ≤ sizeLine; decide), fun p96 n96 => ?_⟩
            obtain ⟨F96, s96, w96, q96⟩ := w90.frzE (o := .tup [(.int y88.1), (.int y89.1)]) n96
            replace h89 := A2.mono s96 h89
            replace h85_1 := A2.mono s96 h85_1
            replace sF := sF.trans s96
            obtain ⟨l97, z97, e97, hm⟩ := pn_app hm
            refine ⟨_, _, _, rfl, rfl, (w96.get (pre := [_])), (A2.lt h85_1 z97), ?_⟩
            have h97 : A2 (rep K F96) (vs85_1 ++ [(V.ref p96)]) l97 := e97 ▸ A2.snoc h85_1 (rep_pair q96 rep_i rep_i)
            have w98 : W F96 _ ((a_pot, .lst vs89) :: (ao57_3, .lst (vs85_1 ++ [(V.ref p96)])) :: os) := w96.set (pre := [_])
            exact hN85 _ (post_ok hm) _ _ ⟨_, _, _, _, _, _, rfl, (s85.trans (s88.trans (s89.trans (s90.trans s96)))), w98, h89, h97⟩
          · skip
            exact hN85 _ (post_ok hm) _ _ ⟨_, _, _, _, _, _, rfl, (s85.trans (s88.trans (s89.trans s90))), w90, h89, h85_1⟩
        intro g85 σ85 H85 hI hm
        obtain ⟨F85, vs85_0, vs85_1, o85_6, o85_7, o85_4, rfl, s85, w85, h85_0, h85_1⟩ := hI
        replace sF := sF.trans s85
        have w99 : W F85 _ ((ao57_3, .lst vs85_1) :: (a_pot, .lst vs85_0) :: os) := w85.front (pre := [_])
        exact hN77 _ (post_ok hm) _ _ ⟨_, _, _, _, _, _, _, rfl, (s82.trans (s86.trans s85)), w99, h85_1, h85_0⟩
      · skip
        exact hN77 _ (post_ok hm) _ _ ⟨_, _, _, _, _, _, _, rfl, Same.refl _, w57, ko57_3, h57_0⟩
    intro g77 σ77 H77 hI hm
    obtain ⟨F77, vs77_0, vs77_1, o77_5, o77_4, o77_6, o77_7, rfl, s77, w77, h77_0, h77_1⟩ := hI
    replace sF := sF.trans s77
    exact ⟨_, rfl, (post_ok hm) _ _ _ _ _ w77 sF h77_0 h77_1⟩
def sp_law_order (K : Fg) : Sp := fun vs H Q E => ∃ (F : Hp) (os : List (Addr × HO)) (a_pot : Addr) (vs_pot : List V) (x_pot : (List Int)) (x_many : Int), vs = [.ref a_pot, .int x_many] ∧ W F H ((a_pot, .lst vs_pot) :: os) ∧ A2 (rep K F) vs_pot x_pot ∧ Post (law_order x_pot x_many) (RetLM K F a_pot os Q) noX
theorem sc_law_order : FnScope ["pot", "many", "left", "k"] ["pot", "many"] (defScope s_law_order) := ⟨rfl, rfl, rfl, by decide +kernel, rfl, by decide +kernel, by decide +kernel⟩
theorem ok_law_order (T : Tx K mg A FD) : FnOk P w K mg base CX0 2 (A 46) (FD 46) ["pot", "many"] (sp_law_order K) := by
  refine T.d46.fn.ok sc_law_order (fun vs H Q E h => ?_) (fun cdv Ar outer s H vs Q E hr h => ?_)
  · obtain ⟨F, os, a_pot, vs_pot, x_pot, x_many, rfl, _⟩ := h
    rfl
  · obtain ⟨F0, os, a_pot, vs_pot, x_pot, x_many, rfl, w0, h_pot, hm⟩ := h
    have sF : Same F0 F0 := Same.refl _
    refine ⟨_, (pss_cons (ps_set (i := 2) sc_law_order.nd rfl (Or.inr rfl) (pe_listRg rfl (by rfl) T.n_list (prg_1 (by rfl) T.n_range (pv 1)))) (pss_one (ps_ret (pe_lc (own := [("k", 3)]) (g := gName 3) (by rfl) sc_law_order.nd (pi_range1 (by rfl) T.n_range (pa_cons (pv 1) pa_nil)) (blkOk_by (own := [("k", 3)]) (N := ["pot", "many", "left", "k"]) (sc := defScope s_law_order) (by decide +kernel)) (fun _ _ _ _ _ => (pg_name (i := 3) sc_law_order.nd rfl (Or.inl rfl))) (fun _ _ _ _ _ => pts_nil) (fun _ _ _ _ _ => (pe_k (K := K) (t := fun K => tBM K _ _ _ _) rfl (pe_bm PySem.F.plainAttrs_list PySem.F.slot_list_pop PySem.F.type_list_pop mt_popAt (pv 2) (pa_cons (pe_call (ok_law_take T) (hr.mono (by decide)) (by rfl) T.d41.mg T.d41.fn.kp T.d41.b .nil pass0 (pa_cons (pv 0) (pa_cons (pe_callB (call_lenN (K := K) rfl) (by rfl) T.n_len (by decide +kernel) (pa_cons (pv 2) pa_nil)) pa_nil))) pa_nil)))))))), ?_⟩
    obtain ⟨l2, z2, e2, hm⟩ := pb_lrng hm
    have h2 : A2 (rep K F0) (rgV 0 x_many) l2 := by rw [e2, rgV_eq]; exact A2.of_ints
    refine ⟨_, rfl, _, rfl, z2, fun p3 n3 => ?_⟩
    have w3 : W F0 _ ((p3, .lst (rgV 0 x_many)) :: (a_pot, .lst vs_pot) :: os) := w0.new n3
    obtain ⟨c4, hm⟩ := pb_rng hm
    refine ⟨_, rfl, _, rfl, c4.2.2.1, c4.2.2.2, fun D5 nD5 => ?_⟩
    refine lcMap (K := K) (tw_rng0 (j := x_many)) hm (fun (g5 : (List Int) × (List Int)) F' os' => ∃ (vs5_0 : List V) (vs5_1 : List V), os' = (p3, .lst vs5_0) :: (a_pot, .lst vs5_1) :: os ∧ A2 (rep K F') vs5_0 g5.1 ∧ A2 (rep K F') vs5_1 g5.2) w3 ⟨_, _, rfl, h2, h_pot⟩ nD5 (fun g F' H' os' acc s w o => by obtain ⟨_, _, rfl, _, _⟩ := o; exact trivial) ?_ ?_
    · -- one turn
      intro b5 g5 x5 F5 H5 H5' os5 acc5 N5 P5 s5 w5 o5 y5 hN5 hm
      obtain ⟨vs5_0, vs5_1, rfl, h5_0, h5_1⟩ := o5
      replace sF := sF.trans s5
      obtain ⟨rfl, rfl⟩ := y5
      have w8 : W F5 _ ((a_pot, .lst vs5_1) :: (D5, .lst acc5) :: (p3, .lst vs5_0) :: os) := w5.front (pre := [_, _])
      refine ⟨rfl, _, rfl, .inl ⟨rfl, _, SqL.of (w5.get (pre := [_]))⟩, _, rfl, _, rfl, _, _, _, rfl, .inl (SqL.of (w5.get (pre := [_]))), h5_0.length, _, _, _, _, _, _, rfl, w8, h5_1, ?_⟩
      refine (post_bind hm).mono (fun y9 hm v9 vs9 F9 H9 w9 s9 r9 h9 => ?_) (fun _ z => z)
      replace h5_0 := A2.mono s9 h5_0
      replace sF := sF.trans s9
      obtain rfl : v9 = V.int y9.1 := r9
      obtain ⟨j7, x7, l7, z7, i7, y7, e7, hm⟩ := pn_popB hm
      obtain ⟨u7, f7, r7⟩ := A2.get h5_0 y7
      refine ⟨_, _, _, _, _, rfl, rfl, (w9.get (pre := [_, _])), z7.1, z7.2, (ixN_seq (A2.ix h5_0 i7)).1, f7, ?_⟩
      have h7 : A2 (rep K F9) (vs5_0.eraseIdx j7) l7 := e7 ▸ A2.eraseIdx j7 h5_0
      obtain rfl : u7 = V.int x7 := r7
      have w10 : W F9 _ ((a_pot, .lst vs9) :: (D5, .lst acc5) :: (p3, .lst (vs5_0.eraseIdx j7)) :: os) := w9.set (pre := [_, _])
      have w11 : W F9 _ ((p3, .lst (vs5_0.eraseIdx j7)) :: (a_pot, .lst vs9) :: (D5, .lst acc5) :: os) := w10.front (pre := [_, _])
      have w12 : W F9 _ ((D5, .lst acc5) :: (p3, .lst (vs5_0.eraseIdx j7)) :: (a_pot, .lst vs9) :: os) := w11.front (pre := [_, _])
      exact hN5 _ _ (post_ok hm) _ _ _ _ w12 s9 ⟨_, _, rfl, h7, h9⟩ rep_i
    intro g5 us5 F5 H5 os5 ys5 s5 w5 o5 gg5 hm
    obtain ⟨vs5_0, vs5_1, rfl, h5_0, h5_1⟩ := o5
    replace sF := sF.trans s5
    have w14 : W F5 _ ((D5, .lst us5) :: (a_pot, .lst vs5_1) :: os) := w5.drop (pre := [_])
    exact (post_ok hm) _ _ _ _ _ w14 sF gg5 h5_1
def sp_law_web (K : Fg) : Sp := fun vs H Q E => ∃ (F : Hp) (os : List (Addr × HO)) (a_pot : Addr) (vs_pot : List V) (x_pot : (List Int)) (x_most : Int), vs = [.ref a_pot, .int x_most] ∧ W F H ((a_pot, .lst vs_pot) :: os) ∧ A2 (rep K F) vs_pot x_pot ∧ Post (law_web x_pot x_most) (RetM K F a_pot os Q) noX
theorem sc_law_web : FnScope ["pot", "most", "many", "order", "found", "one", "other"] ["pot", "most"] (defScope s_law_web) := ⟨rfl, rfl, rfl, by decide +kernel, rfl, by decide +kernel, by decide +kernel⟩
theorem ok_law_web (T : Tx K mg A FD) : FnOk P w K mg base CX0 4 (A 47) (FD 47) ["pot", "most"] (sp_law_web K) := by
  refine T.d47.fn.ok sc_law_web (fun vs H Q E h => ?_) (fun cdv Ar outer s H vs Q E hr h => ?_)
  · obtain ⟨F, os, a_pot, vs_pot, x_pot, x_most, rfl, _⟩ := h
    rfl
  · obtain ⟨F0, os, a_pot, vs_pot, x_pot, x_most, rfl, w0, h_pot, hm⟩ := h
    have sF : Same F0 F0 := Same.refl _
    refine ⟨_, (pss_cons (ps_set (i := 2) sc_law_web.nd rfl (Or.inl rfl) (pe_op op_add pe_int (pe_call (ok_law_take T) (hr.mono (by decide)) (by rfl) T.d41.mg T.d41.fn.kp T.d41.b .nil pass0 (pa_cons (pv 0) (pa_cons (pv 1) pa_nil))))) (pss_cons (ps_if (pt_cmp (pc_eqI (pe_call (ok_law_take T) (hr.mono (by decide)) (by rfl) T.d41.mg T.d41.fn.kp T.d41.b .nil pass0 (pa_cons (pv 0) (pa_cons pe_int pa_nil))) pe_int)) (pss_one (ps_set (i := 2) sc_law_web.nd rfl (Or.inl rfl) (pe_op op_add pe_int (pe_call (ok_law_take T) (hr.mono (by decide)) (by rfl) T.d41.mg T.d41.fn.kp T.d41.b .nil pass0 (pa_cons (pv 0) (pa_cons pe_int pa_nil)))))) pss_nil) (pss_cons (ps_set (i := 3) sc_law_web.nd rfl (Or.inl rfl) (pe_call (ok_law_order T) (hr.mono (by decide)) (by rfl) T.d46.mg T.d46.fn.kp T.d46.b .nil pass0 (pa_cons (pv 0) (pa_cons (pv 2) pa_nil)))) (pss_cons (ps_set (i := 4) sc_law_web.nd rfl (Or.inl rfl) (pe_lst pa_nil)) (pss_cons (ps_for PassesOwn.never rfl (pi_listK (K := K) rfl (pe_call (ok_law_ties T) (hr.mono (by decide)) (by rfl) T.d44.mg T.d44.fn.kp T.d44.b .nil pass0 (pa_cons (pv 0) (pa_cons (pv 2) pa_nil)))) (pg_k (K := K) (t := fun K => gTup K 2 _) rfl (pg_tup (n := 2) rfl (pgs_cons (pg_name (i := 5) sc_law_web.nd rfl (Or.inl rfl)) (pgs_cons (pg_name (i := 6) sc_law_web.nd rfl (Or.inl rfl)) pgs_nil)))) (pss_one (ps_expr (pe_bm PySem.F.plainAttrs_list PySem.F.slot_list_append PySem.F.type_list_append mt_append (pv 4) (pa_cons (pe_tup (pa_cons (pe_callB (call_min2 rfl) (by rfl) T.n_min (by decide +kernel) (pa_cons (pe_ix (ix_listK (K := K) rfl) (pv 3) (pv 5) (fun _ _ => rfl)) (pa_cons (pe_ix (ix_listK (K := K) rfl) (pv 3) (pv 6) (fun _ _ => rfl)) pa_nil))) (pa_cons (pe_callB (call_max2 rfl) (by rfl) T.n_max (by decide +kernel) (pa_cons (pe_ix (ix_listK (K := K) rfl) (pv 3) (pv 5) (fun _ _ => rfl)) (pa_cons (pe_ix (ix_listK (K := K) rfl) (pv 3) (pv 6) (fun _ _ => rfl)) pa_nil))) pa_nil))) pa_nil))))) (pss_one (ps_ret (pe_tup (pa_cons (pv 2) (pa_cons (pe_callTy (call_tuple_ofK (K := K) rfl) (by rfl) T.n_tuple (by decide +kernel) (pa_cons (pe_callB (cr_sortP (K := K) rfl) (by rfl) T.n_sorted (by decide +kernel) (pa_cons (pv 4) pa_nil)) pa_nil)) pa_nil)))))))))), ?_⟩
    refine ⟨_, rfl, _, rfl, _, _, _, _, _, _, rfl, w0, h_pot, ?_⟩
    refine (post_bind hm).mono (fun y2 hm v2 vs2 F2 H2 w2 s2 r2 h2 => ?_) (fun _ z => z)
    replace sF := sF.trans s2
    obtain rfl : v2 = V.int y2.1 := r2
    refine ⟨_, _, rfl, rfl, ?_⟩
    refine stepN ?_
    try dsimp only
    refine joinS hm (fun (g3 : Int × (List Int)) σ H' => ∃ (F' : Hp) (vs3_0 : List V), σ = [some (.ref a_pot), some (.int x_most), some (.int g3.1), none, none, none, none] ∧ Same F2 F' ∧ W F' H' ((a_pot, .lst vs3_0) :: os) ∧ A2 (rep K F') vs3_0 g3.2) ?_ ?_
    · intro N3 P3 hN3 hm
      refine ⟨_, rfl, _, _, _, _, _, _, rfl, w2, h2, ?_⟩
      refine (post_bind hm).mono (fun y4 hm v4 vs4 F4 H4 w4 s4 r4 h4 => ?_) (fun _ z => z)
      replace sF := sF.trans s4
      obtain rfl : v4 = V.int y4.1 := r4
      refine ⟨_, _, rfl, rfl, _, rfl, ?_⟩
      refine post_ite hm (fun k5 hm => ?_) (fun k5 hm => ?_)
      · skip
        refine ⟨_, rfl, _, _, _, _, _, _, rfl, w4, h4, ?_⟩
        refine (post_bind hm).mono (fun y6 hm v6 vs6 F6 H6 w6 s6 r6 h6 => ?_) (fun _ z => z)
        replace sF := sF.trans s6
        obtain rfl : v6 = V.int y6.1 := r6
        exact ⟨_, _, rfl, rfl, hN3 _ (post_ok hm) _ _ ⟨_, _, rfl, (s4.trans s6), w6, h6⟩⟩
      · skip
        exact hN3 _ (post_ok hm) _ _ ⟨_, _, rfl, s4, w4, h4⟩
    intro g3 σ3 H3 hI hm
    obtain ⟨F3, vs3_0, rfl, s3, w3, h3_0⟩ := hI
    replace sF := sF.trans s3
    refine ⟨_, rfl, _, rfl, _, _, _, _, _, _, rfl, w3, h3_0, ?_⟩
    refine (post_bind hm).mono (fun y7 hm p7 us7 vs7 F7 H7 w7 s7 g7 h7 => ?_) (fun _ z => z)
    replace sF := sF.trans s7
    obtain ⟨F9, s9, w9, q9⟩ : ∃ F', Same F7 F' ∧ W F' _ ((a_pot, .lst vs7) :: os) ∧ F' p7 = some (.lst us7) := w7.freezeE (pre := [])
    replace h7 := A2.mono s9 h7
    replace g7 := A2.mono s9 g7
    replace sF := sF.trans s9
    have h10 : A2 (rep K F9) [] ([] : (List (Int × Int))) := .nil
    refine ⟨(by show 0 ≤ sizeLine; decide), fun p11 n11 => ?_⟩
    have w11 : W F9 _ ((p11, .lst []) :: (a_pot, .lst vs7) :: os) := w9.new n11
    have w13 : W F9 _ ((a_pot, .lst vs7) :: (p11, .lst []) :: os) := w11.front (pre := [_])
    refine ⟨_, rfl, _, rfl, _, _, _, _, _, _, rfl, w13, h7, ?_⟩
    refine (post_bind hm).mono (fun y14 hm p14 us14 vs14 F14 H14 w14 s14 g14 h14 => ?_) (fun _ z => z)
    replace g7 := A2.mono s14 g7
    replace q9 := s14 _ _ q9
    replace h10 := A2.mono s14 h10
    replace sF := sF.trans s14
    obtain ⟨F16, s16, w16, q16⟩ : ∃ F', Same F14 F' ∧ W F' _ ((a_pot, .lst vs14) :: (p11, .lst []) :: os) ∧ F' p14 = some (.lst us14) := w14.freezeE (pre := [])
    replace g7 := A2.mono s16 g7
    replace q9 := s16 _ _ q9
    replace h10 := A2.mono s16 h10
    replace h14 := A2.mono s16 h14
    replace g14 := A2.mono s16 g14
    replace sF := sF.trans s16
    refine ⟨_, rfl, ⟨_, SqL.of (w16.same _ _ q16)⟩, ?_⟩
    refine forS (tw_list (a := p14) g14) hm (fun (g12 : (List (Int × Int))) σ H' => ∃ (F' : Hp) (vs12_0 : List V) (o12_5 : Option V) (o12_6 : Option V), σ = [some (.ref a_pot), some (.int x_most), some (.int g3.1), some (.ref p7), some (.ref p11), o12_5, o12_6] ∧ Same F16 F' ∧ W F' H' ((a_pot, .lst vs14) :: (p11, .lst vs12_0) :: os) ∧ A2 (rep K F') vs12_0 g12) ⟨_, _, _, _, rfl, Same.refl _, w16, h10⟩ (fun g σ H' hI => by obtain ⟨F', _, _, _, _, s, w, _⟩ := hI; exact SqL.of (w.same _ _ (s _ _ q16))) ?_ ?_
    · -- a turn
      intro b12 g12 x12 σ12 H12 H12' N12 P12 hI hy hN12 hm
      obtain ⟨F12, vs12_0, o12_5, o12_6, rfl, s12, w12, h12_0⟩ := hI
      replace g7 := A2.mono s12 g7
      replace q9 := s12 _ _ q9
      replace h14 := A2.mono s12 h14
      replace g14 := A2.mono s12 g14
      replace q16 := s12 _ _ q16
      replace sF := sF.trans s12
      obtain ⟨rfl, r17⟩ := hy
      replace r17 := Rep.mono s12 r17
      obtain ⟨a18, u18, z18, rfl, q18, r18a, r18b⟩ := r17
      obtain rfl : u18 = V.int b12.1 := r18a
      obtain rfl : z18 = V.int b12.2 := r18b
      obtain ⟨t19, e19, hm⟩ := pb_get hm
      obtain ⟨u19, f19, r19⟩ := A2.at g7 e19
      obtain rfl : u19 = V.int t19 := r19
      obtain ⟨t20, e20, hm⟩ := pb_get hm
      obtain ⟨u20, f20, r20⟩ := A2.at g7 e20
      obtain rfl : u20 = V.int t20 := r20
      obtain ⟨t21, e21, hm⟩ := pb_get hm
      obtain ⟨u21, f21, r21⟩ := A2.at g7 e21
      obtain rfl : u21 = V.int t21 := r21
      obtain ⟨t22, e22, hm⟩ := pb_get hm
      obtain ⟨u22, f22, r22⟩ := A2.at g7 e22
      obtain rfl : u22 = V.int t22 := r22
      refine ⟨_, _, rfl, SqT.of (w12.same _ _ q18), rfl, _, _, rfl, _, _, rfl, rfl, _, rfl, .inl ⟨rfl, _, SqL.of (w12.get (pre := [_]))⟩, _, rfl, _, rfl, _, _, _, _, rfl, rfl, SqL.of (w12.same _ _ q9), f19, _, rfl, _, rfl, _, _, _, _, rfl, rfl, SqL.of (w12.same _ _ q9), f20, _, _, rfl, _, rfl, _, rfl, _, _, _, _, rfl, rfl, SqL.of (w12.same _ _ q9), f21, _, rfl, _, rfl, _, _, _, _, rfl, rfl, SqL.of (w12.same _ _ q9), f22, _, _, rfl, (by show 2 ≤ sizeLine; decide), fun p23 n23 => ?_⟩
      obtain ⟨F23, s23, w23, q23⟩ := w12.frzE (o := .tup [(.int (min2 t19 t20)), (.int (max2 t21 t22))]) n23
      replace g7 := A2.mono s23 g7
      replace q9 := s23 _ _ q9
      replace h14 := A2.mono s23 h14
      replace h12_0 := A2.mono s23 h12_0
      replace sF := sF.trans s23
      obtain ⟨l24, z24, e24, hm⟩ := pn_app hm
      refine ⟨_, _, _, rfl, rfl, (w23.get (pre := [_])), (A2.lt h12_0 z24), ?_⟩
      have h24 : A2 (rep K F23) (vs12_0 ++ [(V.ref p23)]) l24 := e24 ▸ A2.snoc h12_0 (rep_pair q23 rep_i rep_i)
      have w25 : W F23 _ ((a_pot, .lst vs14) :: (p11, .lst (vs12_0 ++ [(V.ref p23)])) :: os) := w23.set (pre := [_])
      exact hN12 _ (post_ok hm) _ _ ⟨_, _, _, _, rfl, (s12.trans s23), w25, h24⟩
    intro g12 σ12 H12 hI hm
    obtain ⟨F12, vs12_0, o12_5, o12_6, rfl, s12, w12, h12_0⟩ := hI
    replace g7 := A2.mono s12 g7
    replace q9 := s12 _ _ q9
    replace h14 := A2.mono s12 h14
    replace g14 := A2.mono s12 g14
    replace q16 := s12 _ _ q16
    replace sF := sF.trans s12
    refine ⟨_, rfl, _, rfl, _, _, F12, g12, rfl, SqL.of (w12.get (pre := [_])), w12.same, h12_0, fun p26 us26 n26 h26 => ?_⟩
    have w26 : W F12 _ ((p26, .lst us26) :: (a_pot, .lst vs14) :: (p11, .lst vs12_0) :: os) := w12.new n26
    have h28 : A2 (rep K F12) us26 (sortP g12) := h26
    refine ⟨_, _, rfl, .inl ⟨SqL.of (w26.get (pre := [])), fun p29 n29 => ?_⟩⟩
    obtain ⟨F29, s29, w29, q29⟩ := w26.frzE (o := .tup us26) n29
    replace g7 := A2.mono s29 g7
    replace q9 := s29 _ _ q9
    replace h14 := A2.mono s29 h14
    replace h12_0 := A2.mono s29 h12_0
    replace h26 := A2.mono s29 h26
    replace h28 := A2.mono s29 h28
    replace sF := sF.trans s29
    refine ⟨(by show 2 ≤ sizeLine; decide), fun p30 n30 => ?_⟩
    obtain ⟨F30, s30, w30, q30⟩ := w29.frzE (o := .tup [(.int g3.1), (.ref p29)]) n30
    replace g7 := A2.mono s30 g7
    replace q9 := s30 _ _ q9
    replace h14 := A2.mono s30 h14
    replace h12_0 := A2.mono s30 h12_0
    replace h26 := A2.mono s30 h26
    replace h28 := A2.mono s30 h28
    replace q29 := s30 _ _ q29
    replace sF := sF.trans s30
    have w31 : W F30 _ ((a_pot, .lst vs14) :: (p11, .lst vs12_0) :: os) := w30.drop (pre := [])
    have w32 : W F30 _ ((a_pot, .lst vs14) :: os) := w31.drop (pre := [_])
    exact (post_ok hm) _ _ _ _ w32 sF (rep_pair q30 rep_i (rep_tup q29 h28)) h14
def sp_law_some (K : Fg) : Sp := fun vs H Q E => ∃ (F : Hp) (os : List (Addr × HO)) (a_pot : Addr) (vs_pot : List V) (x_pot : (List Int)) (x_many : Int), vs = [.ref a_pot, .int x_many] ∧ W F H ((a_pot, .lst vs_pot) :: os) ∧ A2 (rep K F) vs_pot x_pot ∧ Post (law_some x_pot x_many) (RetLM K F a_pot os Q) noX
theorem sc_law_some : FnScope ["pot", "many", "share", "place"] ["pot", "many"] (defScope s_law_some) := ⟨rfl, rfl, rfl, by decide +kernel, rfl, by decide +kernel, by decide +kernel⟩
theorem ok_law_some (T : Tx K mg A FD) : FnOk P w K mg base CX0 2 (A 48) (FD 48) ["pot", "many"] (sp_law_some K) := by
  refine T.d48.fn.ok sc_law_some (fun vs H Q E h => ?_) (fun cdv Ar outer s H vs Q E hr h => ?_)
  · obtain ⟨F, os, a_pot, vs_pot, x_pot, x_many, rfl, _⟩ := h
    rfl
  · obtain ⟨F0, os, a_pot, vs_pot, x_pot, x_many, rfl, w0, h_pot, hm⟩ := h
    have sF : Same F0 F0 := Same.refl _
    refine ⟨_, (pss_cons (ps_set (i := 2) sc_law_some.nd rfl (Or.inr rfl) (pe_op op_add pe_int (pe_call (ok_law_take T) (hr.mono (by decide)) (by rfl) T.d41.mg T.d41.fn.kp T.d41.b .nil pass0 (pa_cons (pv 0) (pa_cons pe_int pa_nil))))) (pss_one (ps_ret (pe_lc (own := [("place", 3)]) (g := gName 3) (by rfl) sc_law_some.nd (pi_range1 (by rfl) T.n_range (pa_cons (pv 1) pa_nil)) (blkOk_by (own := [("place", 3)]) (N := ["pot", "many", "share", "place"]) (sc := defScope s_law_some) (by decide +kernel)) (fun _ _ _ _ _ => (pg_name (i := 3) sc_law_some.nd rfl (Or.inl rfl))) (fun _ _ _ _ _ => (pts_one (pt_cmp (pc_lt (pe_call (ok_law_take T) (hr.mono (by decide)) (by rfl) T.d41.mg T.d41.fn.kp T.d41.b .nil pass0 (pa_cons (pv 0) (pa_cons pe_int pa_nil))) (pv 2))))) (fun _ _ _ _ _ => (pv 3)))))), ?_⟩
    refine ⟨_, rfl, _, _, _, _, _, _, rfl, w0, h_pot, ?_⟩
    refine (post_bind hm).mono (fun y2 hm v2 vs2 F2 H2 w2 s2 r2 h2 => ?_) (fun _ z => z)
    replace sF := sF.trans s2
    obtain rfl : v2 = V.int y2.1 := r2
    obtain ⟨c3, hm⟩ := pb_rng hm
    refine ⟨_, _, rfl, rfl, _, rfl, _, rfl, c3.2.2.1, c3.2.2.2, fun D4 nD4 => ?_⟩
    refine lcFil (K := K) (tw_rng0 (j := x_many)) hm (fun (g4 : (List Int)) F' os' => ∃ (vs4_0 : List V), os' = (a_pot, .lst vs4_0) :: os ∧ A2 (rep K F') vs4_0 g4) w2 ⟨_, rfl, h2⟩ nD4 (fun g F' H' os' acc s w o => by obtain ⟨_, rfl, _⟩ := o; exact trivial) ?_ ?_
    · -- one turn
      intro b4 g4 x4 F4 H4 H4' os4 acc4 N4 M4 P4 s4 w4 o4 y4 hN4 hM4 hm
      obtain ⟨vs4_0, rfl, h4_0⟩ := o4
      replace sF := sF.trans s4
      obtain ⟨rfl, rfl⟩ := y4
      have w6 : W F4 _ ((a_pot, .lst vs4_0) :: (D4, .lst acc4) :: os) := w4.front (pre := [_])
      refine ⟨rfl, _, rfl, _, _, _, _, _, _, rfl, w6, h4_0, ?_⟩
      refine (post_bind hm).mono (fun y7 hm v7 vs7 F7 H7 w7 s7 r7 h7 => ?_) (fun _ z => z)
      replace sF := sF.trans s7
      obtain rfl : v7 = V.int y7.1 := r7
      refine ⟨_, rfl, _, _, rfl, rfl, _, rfl, ?_⟩
      refine post_ite hm (fun k8 hm => ?_) (fun k8 hm => ?_)
      · skip
        have w9 : W F7 _ ((D4, .lst acc4) :: (a_pot, .lst vs7) :: os) := w7.front (pre := [_])
        exact ⟨_, rfl, hN4 _ _ (post_ok hm) _ _ _ _ w9 s7 ⟨_, rfl, h7⟩ rep_i⟩
      · skip
        have w10 : W F7 _ ((D4, .lst acc4) :: (a_pot, .lst vs7) :: os) := w7.front (pre := [_])
        exact hM4 _ (post_ok hm) _ _ _ w10 s7 ⟨_, rfl, h7⟩
    intro g4 us4 F4 H4 os4 ys4 s4 w4 o4 gg4 hm
    obtain ⟨vs4_0, rfl, h4_0⟩ := o4
    replace sF := sF.trans s4
    exact (post_ok hm) _ _ _ _ _ w4 sF gg4 h4_0
def sp_law_kind (K : Fg) : Sp := fun vs H Q E => ∃ (F : Hp) (os : List (Addr × HO)) (a_pot : Addr) (vs_pot : List V) (x_pot : (List Int)), vs = [.ref a_pot] ∧ W F H ((a_pot, .lst vs_pot) :: os) ∧ A2 (rep K F) vs_pot x_pot ∧ Post (law_kind x_pot) (RetM K F a_pot os Q) noX
theorem sc_law_kind : FnScope ["pot"] ["pot"] (defScope s_law_kind) := ⟨rfl, rfl, rfl, by decide +kernel, rfl, by decide +kernel, by decide +kernel⟩
theorem ok_law_kind (T : Tx K mg A FD) : FnOk P w K mg base CX0 2 (A 49) (FD 49) ["pot"] (sp_law_kind K) := by
  refine T.d49.fn.ok sc_law_kind (fun vs H Q E h => ?_) (fun cdv Ar outer s H vs Q E hr h => ?_)
  · obtain ⟨F, os, a_pot, vs_pot, x_pot, rfl, _⟩ := h
    rfl
  · obtain ⟨F0, os, a_pot, vs_pot, x_pot, rfl, w0, h_pot, hm⟩ := h
    have sF : Same F0 F0 := Same.refl _
    refine ⟨_, (pss_one (ps_ret (pe_ix (ix_listK (K := K) rfl) (pe_lst (pa_cons pe_str (pa_cons pe_str (pa_cons pe_str pa_nil)))) (pe_call (ok_law_take T) (hr.mono (by decide)) (by rfl) T.d41.mg T.d41.fn.kp T.d41.b .nil pass0 (pa_cons (pv 0) (pa_cons pe_int pa_nil))) (fun _ _ => rfl)))), ?_⟩
    have h2 : A2 (rep K F0) [(.str "places"), (.str "ties"), (.str "all")] ([("places" : Str), ("ties" : Str), ("all" : Str)] : (List Str)) := .cons rep_s (.cons rep_s (.cons rep_s (.nil)))
    refine ⟨(by show 3 ≤ sizeLine; decide), fun p3 n3 => ?_⟩
    have w3 : W F0 _ ((p3, .lst [(.str "places"), (.str "ties"), (.str "all")]) :: (a_pot, .lst vs_pot) :: os) := w0.new n3
    have w4 : W F0 _ ((a_pot, .lst vs_pot) :: (p3, .lst [(.str "places"), (.str "ties"), (.str "all")]) :: os) := w3.front (pre := [_])
    refine ⟨_, rfl, _, _, _, _, _, _, rfl, w4, h_pot, ?_⟩
    refine (post_bind hm).mono (fun y5 hm v5 vs5 F5 H5 w5 s5 r5 h5 => ?_) (fun _ z => z)
    replace h2 := A2.mono s5 h2
    replace sF := sF.trans s5
    obtain rfl : v5 = V.int y5.1 := r5
    obtain ⟨t6, e6, hm⟩ := pb_get hm
    obtain ⟨u6, f6, r6⟩ := A2.at h2 e6
    obtain rfl : u6 = V.str t6 := r6
    have w7 : W F5 _ ((a_pot, .lst vs5) :: os) := w5.drop (pre := [_])
    exact ⟨_, _, _, _, rfl, rfl, SqL.of (w5.get (pre := [_])), f6, (post_ok hm) _ _ _ _ w7 sF rep_s h5⟩
def sp_law_moved (K : Fg) : Sp := fun vs H Q E => ∃ (F : Hp) (os : List (Addr × HO)) (v_order : V) (x_order : (List Int)) (v_thing : V) (x_thing : Thing), vs = [v_order, v_thing] ∧ W F H (os) ∧ rep K F v_order x_order ∧ rep K F v_thing x_thing ∧ Post (law_moved x_order x_thing) (Ret K F os Q) noX
theorem sc_law_moved : FnScope ["order", "thing", "ends"] ["order", "thing"] (defScope s_law_moved) := ⟨rfl, rfl, rfl, by decide +kernel, rfl, by decide +kernel, by decide +kernel⟩
theorem ok_law_moved (T : Tx K mg A FD) : FnOk P w K mg base CX0 1 (A 50) (FD 50) ["order", "thing"] (sp_law_moved K) := by
  refine T.d50.fn.ok sc_law_moved (fun vs H Q E h => ?_) (fun cdv Ar outer s H vs Q E hr h => ?_)
  · obtain ⟨F, os, v_order, x_order, v_thing, x_thing, rfl, _⟩ := h
    rfl
  · obtain ⟨F0, os, v_order, x_order, v_thing, x_thing, rfl, w0, r_order, r_thing, hm⟩ := h
    have sF : Same F0 F0 := Same.refl _
    obtain ⟨a1, vs1, rfl, q1, h1⟩ := r_order
    refine ⟨_, (pss_cons (ps_if (pt_val (pe_callB (call_isB (K := K) rfl) (by rfl) T.n_isinstance (by decide +kernel) (pa_cons (pv 1) (pa_cons (pe_bltn (v := .ty "tuple") (by rfl) T.n_tuple (by decide +kernel) rfl) pa_nil)))) (pss_cons (ps_set (i := 2) sc_law_moved.nd rfl (Or.inl rfl) (pe_callB (cr_sortI (K := K) rfl) (by rfl) T.n_sorted (by decide +kernel) (pa_cons (pe_lst (pa_cons (pe_ix (ix_listK (K := K) rfl) (pv 0) (pe_ix (ix_tupK (K := K) rfl) (pv 1) pe_int (fun _ _ => rfl)) (fun _ _ => rfl)) (pa_cons (pe_ix (ix_listK (K := K) rfl) (pv 0) (pe_ix (ix_tupK (K := K) rfl) (pv 1) pe_int (fun _ _ => rfl)) (fun _ _ => rfl)) pa_nil))) pa_nil))) (pss_one (ps_ret (pe_tup (pa_cons (pe_ix (ix_listK (K := K) rfl) (pv 2) pe_int (fun _ _ => rfl)) (pa_cons (pe_ix (ix_listK (K := K) rfl) (pv 2) pe_int (fun _ _ => rfl)) pa_nil)))))) pss_nil) (pss_one (ps_ret (pe_ix (ix_listK (K := K) rfl) (pv 0) (pv 1) (fun _ _ => rfl))))), ?_⟩
    obtain ⟨a3, y3, k3⟩ := th_tuple w0.same r_thing
    refine ⟨_, rfl, _, _, _, (!x_thing.isPl), rfl, y3, k3, _, rfl, ?_⟩
    refine post_ite hm (fun k4 hm => ?_) (fun k4 hm => ?_)
    · skip
      obtain ⟨t5, e5, hm⟩ := pb_asTi hm
      have r5 : rep K F0 v_thing (t5 : Int × Int) := (show rep K F0 v_thing (Thing.ti t5.1 t5.2) from e5 ▸ r_thing)
      obtain ⟨a6, u6, z6, rfl, q6, r6a, r6b⟩ := r5
      obtain rfl : u6 = V.int t5.1 := r6a
      obtain rfl : z6 = V.int t5.2 := r6b
      obtain ⟨t7, e7, hm⟩ := pb_get hm
      obtain ⟨u7, f7, r7⟩ := A2.at h1 e7
      obtain rfl : u7 = V.int t7 := r7
      obtain ⟨t8, e8, hm⟩ := pb_get hm
      obtain ⟨u8, f8, r8⟩ := A2.at h1 e8
      obtain rfl : u8 = V.int t8 := r8
      have h9 : A2 (rep K F0) [(.int t7), (.int t8)] ([t7, t8] : (List Int)) := .cons rep_i (.cons rep_i (.nil))
      refine ⟨_, rfl, _, rfl, _, _, _, _, rfl, rfl, SqT.of (w0.same _ _ q6), rfl, _, _, _, _, rfl, rfl, SqL.of (w0.same _ _ q1), f7, _, rfl, _, rfl, _, _, _, _, rfl, rfl, SqT.of (w0.same _ _ q6), rfl, _, _, _, _, rfl, rfl, SqL.of (w0.same _ _ q1), f8, (by show 2 ≤ sizeLine; decide), fun p10 n10 => ?_⟩
      have w10 : W F0 _ ((p10, .lst [(.int t7), (.int t8)]) :: os) := w0.new n10
      have h11 : A2 (rep K F0) ((sortI ([t7, t8] : (List Int))).map V.int) (sortI ([t7, t8] : (List Int))) := A2.of_ints
      refine ⟨_, _, rfl, ints_q (SqL.of (w10.get (pre := []))) h9, fun p12 n12 => ?_⟩
      have w12 : W F0 _ ((p12, .lst ((sortI ([t7, t8] : (List Int))).map V.int)) :: (p10, .lst [(.int t7), (.int t8)]) :: os) := w10.new n12
      obtain ⟨F13, s13, w13, q13⟩ : ∃ F', Same F0 F' ∧ W F' _ ((p10, .lst [(.int t7), (.int t8)]) :: os) ∧ F' p12 = some (.lst ((sortI ([t7, t8] : (List Int))).map V.int)) := w12.freezeE (pre := [])
      replace q1 := s13 _ _ q1
      replace h1 := A2.mono s13 h1
      replace r_thing := Rep.mono s13 r_thing
      replace q6 := s13 _ _ q6
      replace h9 := A2.mono s13 h9
      replace h11 := A2.mono s13 h11
      replace sF := sF.trans s13
      have w14 : W F13 _ (os) := w13.drop (pre := [])
      obtain ⟨t15, e15, hm⟩ := pb_get hm
      obtain ⟨u15, f15, r15⟩ := A2.at h11 e15
      obtain rfl : u15 = V.int t15 := r15
      obtain ⟨t16, e16, hm⟩ := pb_get hm
      obtain ⟨u16, f16, r16⟩ := A2.at h11 e16
      obtain rfl : u16 = V.int t16 := r16
      refine ⟨_, rfl, _, _, _, _, rfl, rfl, SqL.of (w14.same _ _ q13), f15, _, rfl, _, _, _, _, rfl, rfl, SqL.of (w14.same _ _ q13), f16, (by show 2 ≤ sizeLine; decide), fun p17 n17 => ?_⟩
      obtain ⟨F17, s17, w17, q17⟩ := w14.frzE (o := .tup [(.int t15), (.int t16)]) n17
      replace h1 := A2.mono s17 h1
      replace q1 := s17 _ _ q1
      replace q6 := s17 _ _ q6
      replace h11 := A2.mono s17 h11
      replace q13 := s17 _ _ q13
      replace sF := sF.trans s17
      exact (post_ok hm) _ _ _ w17 sF (rep_ti (rep_pair q17 rep_i rep_i))
    · skip
      obtain ⟨t18, e18, hm⟩ := pb_asPl hm
      have r18 : v_thing = V.int t18 := (show rep K F0 v_thing (Thing.pl t18) from e18 ▸ r_thing)
      subst r18
      obtain ⟨t19, e19, hm⟩ := pb_get hm
      obtain ⟨u19, f19, r19⟩ := A2.at h1 e19
      obtain rfl : u19 = V.int t19 := r19
      exact ⟨_, rfl, _, rfl, _, _, _, _, rfl, rfl, SqL.of (w0.same _ _ q1), f19, (post_ok hm) _ _ _ w0 sF rep_pl⟩
def sp_law_gathered (K : Fg) : Sp := fun vs H Q E => ∃ (F : Hp) (os : List (Addr × HO)) (v_rows : V) (x_rows : (List (List Thing))), vs = [v_rows] ∧ W F H (os) ∧ rep K F v_rows x_rows ∧ Post (law_gathered x_rows) (Ret K F os Q) noX
theorem sc_law_gathered : FnScope ["rows", "row", "thing"] ["rows"] (defScope s_law_gathered) := ⟨rfl, rfl, rfl, by decide +kernel, rfl, by decide +kernel, by decide +kernel⟩
theorem ok_law_gathered (T : Tx K mg A FD) : FnG P w K mg base CX0 1 (A 51) (FD 51) ["rows"] (sp_law_gathered K) := by
  refine T.d51.fn.okG sc_law_gathered (fun vs H Q E h => ?_) (fun cdv Ar outer s H vs Q E hr hG h => ?_)
  · obtain ⟨F, os, v_rows, x_rows, rfl, _⟩ := h
    rfl
  · obtain ⟨F0, os, v_rows, x_rows, rfl, w0, r_rows, hm⟩ := h
    have sF : Same F0 F0 := Same.refl _
    obtain ⟨a1, vs1, rfl, q1, h1⟩ := r_rows
    refine ⟨_, (pss_one (ps_ret (pe_callB (cr_sortRs (K := K) rfl hr.units) (by rfl) T.n_sorted (by decide +kernel) (pa_cons (pe_lc (own := [("row", 1)]) (g := gName 1) (by rfl) sc_law_gathered.nd (pi_listK (K := K) rfl (pv 0)) (blkOk_by (own := [("row", 1)]) (N := ["rows", "row", "thing"]) (sc := defScope s_law_gathered) (by decide +kernel)) (fun _ _ _ _ _ => (pg_name (i := 1) sc_law_gathered.nd rfl (Or.inl rfl))) (fun _ _ _ _ _ => pts_nil) (fun _ _ _ _ _ => (pe_callB (cr_sortSt (K := K) rfl hr.units) (by rfl) T.n_sorted (by decide +kernel) (pa_cons (pe_lc (own := [("thing", 2)]) (g := gName 2) (by rfl) sc_law_gathered.nd (pi_listK (K := K) rfl (pv 1)) (blkOk_by (own := [("thing", 2)]) (N := ["rows", "row", "thing"]) (sc := _) (by kernel_rfl)) (fun _ _ _ _ _ => (pg_name (i := 2) sc_law_gathered.nd rfl (Or.inl rfl))) (fun _ _ _ _ _ => pts_nil) (fun _ _ _ _ _ => (pe_callTy (cr_strT (K := K) rfl hG hr.units) (by rfl) T.n_str (by decide +kernel) (pa_cons (pv 2) pa_nil)))) pa_nil)))) pa_nil)))), ?_⟩
    refine ⟨_, rfl, _, rfl, ⟨_, SqL.of (w0.same _ _ q1)⟩, fun D2 nD2 => ?_⟩
    refine lcM (K := K) (tw_list (a := a1) h1) hm w0 nD2 (fun F' H' acc s w => SqL.of (w.same _ _ (s _ _ q1))) ?_ ?_
    · -- one turn
      intro b2 x2 F2 H2 H2' acc2 N2 P2 s2 w2 y2 hN2 hm
      replace q1 := s2 _ _ q1
      replace h1 := A2.mono s2 h1
      replace sF := sF.trans s2
      obtain ⟨rfl, r4⟩ := y2
      replace r4 := Rep.mono s2 r4
      obtain ⟨a5, vs5, rfl, q5, h5⟩ := r4
      refine ⟨rfl, _, rfl, _, rfl, ⟨_, SqL.of (w2.same _ _ q5)⟩, fun D6 nD6 => ?_⟩
      refine lcM (K := K) (tw_list (a := a5) h5) hm w2 nD6 (fun F' H' acc s w => SqL.of (w.same _ _ (s _ _ q5))) ?_ ?_
      · -- one turn
        intro b6 x6 F6 H6 H6' acc6 N6 P6 s6 w6 y6 hN6 hm
        replace q1 := s6 _ _ q1
        replace h1 := A2.mono s6 h1
        replace q5 := s6 _ _ q5
        replace h5 := A2.mono s6 h5
        replace sF := sF.trans s6
        obtain ⟨rfl, r8⟩ := y6
        replace r8 := Rep.mono s6 r8
        obtain ⟨t10, c10, e10, hm⟩ := pb_strR hm
        have r10 : rep K F6 (V.str t10.s) t10 := rfl
        exact ⟨rfl, _, rfl, _, F6, b6, t10, rfl, w6.same, r8, c10, e10, hN6 _ (post_ok hm) _ _ _ w6 (Same.refl _) r10⟩
      intro us6 F6 H6 ys6 s6 w6 gg6 hm
      replace q1 := s6 _ _ q1
      replace h1 := A2.mono s6 h1
      replace q5 := s6 _ _ q5
      replace h5 := A2.mono s6 h5
      replace sF := sF.trans s6
      refine ⟨_, _, F6, ys6, rfl, SqL.of (w6.get (pre := [])), w6.same, gg6, fun p12 us12 n12 h12 => ?_⟩
      have w12 : W F6 _ ((p12, .lst us12) :: (D6, .lst us6) :: (D2, .lst acc2) :: os) := w6.new n12
      obtain ⟨F14, s14, w14, q14⟩ : ∃ F', Same F6 F' ∧ W F' _ ((D6, .lst us6) :: (D2, .lst acc2) :: os) ∧ F' p12 = some (.lst us12) := w12.freezeE (pre := [])
      replace q1 := s14 _ _ q1
      replace h1 := A2.mono s14 h1
      replace q5 := s14 _ _ q5
      replace h5 := A2.mono s14 h5
      replace gg6 := A2.mono s14 gg6
      replace h12 := A2.mono s14 h12
      replace sF := sF.trans s14
      have w15 : W F14 _ ((D2, .lst acc2) :: os) := w14.drop (pre := [])
      exact hN2 _ (post_ok hm) _ _ _ w15 (s6.trans s14) (rep_lst q14 h12)
    intro us2 F2 H2 ys2 s2 w2 gg2 hm
    replace q1 := s2 _ _ q1
    replace h1 := A2.mono s2 h1
    replace sF := sF.trans s2
    refine ⟨_, _, F2, ys2, rfl, SqL.of (w2.get (pre := [])), w2.same, gg2, fun p17 us17 n17 h17 => ?_⟩
    have w17 : W F2 _ ((p17, .lst us17) :: (D2, .lst us2) :: os) := w2.new n17
    obtain ⟨F19, s19, w19, q19⟩ : ∃ F', Same F2 F' ∧ W F' _ ((D2, .lst us2) :: os) ∧ F' p17 = some (.lst us17) := w17.freezeE (pre := [])
    replace q1 := s19 _ _ q1
    replace h1 := A2.mono s19 h1
    replace gg2 := A2.mono s19 gg2
    replace h17 := A2.mono s19 h17
    replace sF := sF.trans s19
    have w20 : W F19 _ (os) := w19.drop (pre := [])
    exact (post_ok hm) _ _ _ w20 sF (rep_lst q19 h17)
def sp_law_rows_moved (K : Fg) : Sp := fun vs H Q E => ∃ (F : Hp) (os : List (Addr × HO)) (v_order : V) (x_order : (List Int)) (v_rows : V) (x_rows : (List (List Thing))), vs = [v_order, v_rows] ∧ W F H (os) ∧ rep K F v_order x_order ∧ rep K F v_rows x_rows ∧ Post (law_rows_moved x_order x_rows) (Ret K F os Q) noX
theorem sc_law_rows_moved : FnScope ["order", "rows", "row", "thing"] ["order", "rows"] (defScope s_law_rows_moved) := ⟨rfl, rfl, rfl, by decide +kernel, rfl, by decide +kernel, by decide +kernel⟩
theorem ok_law_rows_moved (T : Tx K mg A FD) : FnG P w K mg base CX0 2 (A 52) (FD 52) ["order", "rows"] (sp_law_rows_moved K) := by
  refine T.d52.fn.okG sc_law_rows_moved (fun vs H Q E h => ?_) (fun cdv Ar outer s H vs Q E hr hG h => ?_)
  · obtain ⟨F, os, v_order, x_order, v_rows, x_rows, rfl, _⟩ := h
    rfl
  · obtain ⟨F0, os, v_order, x_order, v_rows, x_rows, rfl, w0, r_order, r_rows, hm⟩ := h
    have sF : Same F0 F0 := Same.refl _
    obtain ⟨a1, vs1, rfl, q1, h1⟩ := r_order
    obtain ⟨a2, vs2, rfl, q2, h2⟩ := r_rows
    refine ⟨_, (pss_one (ps_ret (pe_callG (ok_law_gathered T) (hr.mono (by decide)) hG (by rfl) T.d51.mg T.d51.fn.kp T.d51.b .nil pass0 (pa_cons (pe_lc (own := [("row", 2)]) (g := gName 2) (by rfl) sc_law_rows_moved.nd (pi_listK (K := K) rfl (pv 1)) (blkOk_by (own := [("row", 2)]) (N := ["order", "rows", "row", "thing"]) (sc := defScope s_law_rows_moved) (by decide +kernel)) (fun _ _ _ _ _ => (pg_name (i := 2) sc_law_rows_moved.nd rfl (Or.inl rfl))) (fun _ _ _ _ _ => pts_nil) (fun _ _ _ _ _ => (pe_lc (own := [("thing", 3)]) (g := gName 3) (by rfl) sc_law_rows_moved.nd (pi_listK (K := K) rfl (pv 2)) (blkOk_by (own := [("thing", 3)]) (N := ["order", "rows", "row", "thing"]) (sc := _) (by kernel_rfl)) (fun _ _ _ _ _ => (pg_name (i := 3) sc_law_rows_moved.nd rfl (Or.inl rfl))) (fun _ _ _ _ _ => pts_nil) (fun _ _ _ _ _ => (pe_call (ok_law_moved T) (hr.mono (by decide)) (by rfl) T.d50.mg T.d50.fn.kp T.d50.b .nil pass0 (pa_cons (pv 0) (pa_cons (pv 3) pa_nil))))))) pa_nil)))), ?_⟩
    refine ⟨_, rfl, _, rfl, ⟨_, SqL.of (w0.same _ _ q2)⟩, fun D3 nD3 => ?_⟩
    refine lcM (K := K) (tw_list (a := a2) h2) hm w0 nD3 (fun F' H' acc s w => SqL.of (w.same _ _ (s _ _ q2))) ?_ ?_
    · -- one turn
      intro b3 x3 F3 H3 H3' acc3 N3 P3 s3 w3 y3 hN3 hm
      replace q1 := s3 _ _ q1
      replace h1 := A2.mono s3 h1
      replace q2 := s3 _ _ q2
      replace h2 := A2.mono s3 h2
      replace sF := sF.trans s3
      obtain ⟨rfl, r5⟩ := y3
      replace r5 := Rep.mono s3 r5
      obtain ⟨a6, vs6, rfl, q6, h6⟩ := r5
      refine ⟨rfl, _, rfl, _, rfl, ⟨_, SqL.of (w3.same _ _ q6)⟩, fun D7 nD7 => ?_⟩
      refine lcM (K := K) (tw_list (a := a6) h6) hm w3 nD7 (fun F' H' acc s w => SqL.of (w.same _ _ (s _ _ q6))) ?_ ?_
      · -- one turn
        intro b7 x7 F7 H7 H7' acc7 N7 P7 s7 w7 y7 hN7 hm
        replace q1 := s7 _ _ q1
        replace h1 := A2.mono s7 h1
        replace q2 := s7 _ _ q2
        replace h2 := A2.mono s7 h2
        replace q6 := s7 _ _ q6
        replace h6 := A2.mono s7 h6
        replace sF := sF.trans s7
        obtain ⟨rfl, r9⟩ := y7
        replace r9 := Rep.mono s7 r9
        refine ⟨rfl, _, rfl, _, rfl, _, _, _, (x_order : (List Int)), _, (b7 : Thing), rfl, w7, (rep_lst q1 h1), r9, ?_⟩
        refine (post_bind hm).mono (fun y11 hm v11 F11 H11 w11 s11 r11 => ?_) (fun _ z => z)
        replace q1 := s11 _ _ q1
        replace h1 := A2.mono s11 h1
        replace q2 := s11 _ _ q2
        replace h2 := A2.mono s11 h2
        replace q6 := s11 _ _ q6
        replace h6 := A2.mono s11 h6
        replace r9 := Rep.mono s11 r9
        replace sF := sF.trans s11
        exact hN7 _ (post_ok hm) _ _ _ w11 s11 r11
      intro us7 F7 H7 ys7 s7 w7 gg7 hm
      replace q1 := s7 _ _ q1
      replace h1 := A2.mono s7 h1
      replace q2 := s7 _ _ q2
      replace h2 := A2.mono s7 h2
      replace q6 := s7 _ _ q6
      replace h6 := A2.mono s7 h6
      replace sF := sF.trans s7
      obtain ⟨F14, s14, w14, q14⟩ : ∃ F', Same F7 F' ∧ W F' _ ((D3, .lst acc3) :: os) ∧ F' D7 = some (.lst us7) := w7.freezeE (pre := [])
      replace q1 := s14 _ _ q1
      replace h1 := A2.mono s14 h1
      replace q2 := s14 _ _ q2
      replace h2 := A2.mono s14 h2
      replace q6 := s14 _ _ q6
      replace h6 := A2.mono s14 h6
      replace gg7 := A2.mono s14 gg7
      replace sF := sF.trans s14
      exact hN3 _ (post_ok hm) _ _ _ w14 (s7.trans s14) (rep_lst q14 gg7)
    intro us3 F3 H3 ys3 s3 w3 gg3 hm
    replace q1 := s3 _ _ q1
    replace h1 := A2.mono s3 h1
    replace q2 := s3 _ _ q2
    replace h2 := A2.mono s3 h2
    replace sF := sF.trans s3
    obtain ⟨F16, s16, w16, q16⟩ : ∃ F', Same F3 F' ∧ W F' _ (os) ∧ F' D3 = some (.lst us3) := w3.freezeE (pre := [])
    replace q1 := s16 _ _ q1
    replace h1 := A2.mono s16 h1
    replace q2 := s16 _ _ q2
    replace h2 := A2.mono s16 h2
    replace gg3 := A2.mono s16 gg3
    replace sF := sF.trans s16
    refine ⟨_, _, _, (ys3 : (List (List Thing))), rfl, w16, (rep_lst q16 gg3), ?_⟩
    refine (post_bind hm).mono (fun y17 hm v17 F17 H17 w17 s17 r17 => ?_) (fun _ z => z)
    replace q1 := s17 _ _ q1
    replace h1 := A2.mono s17 h1
    replace q2 := s17 _ _ q2
    replace h2 := A2.mono s17 h2
    replace gg3 := A2.mono s17 gg3
    replace q16 := s17 _ _ q16
    replace sF := sF.trans s17
    obtain ⟨a18, vs18, rfl, q18, h18⟩ := r17
    exact (post_ok hm) _ _ _ w17 sF (rep_lst q18 h18)
def sp_law_same_places (K : Fg) : Sp := fun vs H Q E => ∃ (F : Hp) (os : List (Addr × HO)) (v_web : V) (x_web : (Int × (Tup (Int × Int)))) (v_other : V) (x_other : (Int × (Tup (Int × Int)))) (v_order : V) (x_order : (List Int)), vs = [v_web, v_other, v_order] ∧ W F H (os) ∧ rep K F v_web x_web ∧ rep K F v_other x_other ∧ rep K F v_order x_order ∧ Post (law_same_places x_web x_other x_order) (Ret K F os Q) noX
theorem sc_law_same_places : FnScope ["web", "other", "order", "place", "fars", "at"] ["web", "other", "order"] (defScope s_law_same_places) := ⟨rfl, rfl, rfl, by decide +kernel, rfl, by decide +kernel, by decide +kernel⟩
set_option maxHeartbeats 40000000 in
theorem ok_law_same_places (T : Tx K mg A FD) : FnG P w K mg base CX0 5 (A 53) (FD 53) ["web", "other", "order"] (sp_law_same_places K) := by
  refine T.d53.fn.okG sc_law_same_places (fun vs H Q E h => ?_) (fun cdv Ar outer s H vs Q E hr hG h => ?_)
  · obtain ⟨F, os, v_web, x_web, v_other, x_other, v_order, x_order, rfl, _⟩ := h
    rfl
  · obtain ⟨F0, os, v_web, x_web, v_other, x_other, v_order, x_order, rfl, w0, r_web, r_other, r_order, hm⟩ := h
    have sF : Same F0 F0 := Same.refl _
    obtain ⟨a1, u1, z1, rfl, q1, r1a, r1b⟩ := r_web
    obtain rfl : u1 = V.int x_web.1 := r1a
    obtain ⟨a2, vs2, rfl, q2, h2⟩ := r1b
    obtain ⟨a3, u3, z3, rfl, q3, r3a, r3b⟩ := r_other
    obtain rfl : u3 = V.int x_other.1 := r3a
    obtain ⟨a4, vs4, rfl, q4, h4⟩ := r3b
    obtain ⟨a5, vs5, rfl, q5, h5⟩ := r_order
    refine ⟨_, (pss_cons (ps_for PassesOwn.never rfl (pi_range3 (by rfl) T.n_range (pa_cons pe_int (pa_cons (pe_ix (ix_tupK (K := K) rfl) (pv 0) pe_int (fun _ _ => rfl)) (pa_cons (pe_op op_add pe_int (pe_op op_fdiv (pe_ix (ix_tupK (K := K) rfl) (pv 0) pe_int (fun _ _ => rfl)) pe_int)) pa_nil)))) (pg_name (i := 3) sc_law_same_places.nd rfl (Or.inl rfl)) (pss_cons (ps_set (i := 4) sc_law_same_places.nd rfl (Or.inr rfl) (pe_call (ok_fars_from T) (hr.mono (by decide)) (by rfl) T.d16.mg T.d16.fn.kp T.d16.b .nil pass0 (pa_cons (pv 1) (pa_cons (pe_ix (ix_listK (K := K) rfl) (pv 2) (pv 3) (fun _ _ => rfl)) pa_nil)))) (pss_cons (ps_if (pt_cmpR (op_neDt (K := K) rfl (List Int) (by decide) hr.units) (pe_lc (own := [("at", 5)]) (g := gName 5) (by rfl) sc_law_same_places.nd (pi_range1 (by rfl) T.n_range (pa_cons (pe_ix (ix_tupK (K := K) rfl) (pv 0) pe_int (fun _ _ => rfl)) pa_nil)) (blkOk_by (own := [("at", 5)]) (N := ["web", "other", "order", "place", "fars", "at"]) (sc := defScope s_law_same_places) (by decide +kernel)) (fun _ _ _ _ _ => (pg_name (i := 5) sc_law_same_places.nd rfl (Or.inl rfl))) (fun _ _ _ _ _ => pts_nil) (fun _ _ _ _ _ => (pe_ix (ix_listK (K := K) rfl) (pv 4) (pe_ix (ix_listK (K := K) rfl) (pv 2) (pv 5) (fun _ _ => rfl)) (fun _ _ => rfl)))) (pe_call (ok_fars_from T) (hr.mono (by decide)) (by rfl) T.d16.mg T.d16.fn.kp T.d16.b .nil pass0 (pa_cons (pv 0) (pa_cons (pv 3) pa_nil))) (nomark _)) (pss_one (ps_ret pe_bl)) pss_nil) (pss_one (ps_if (pt_cmpR (op_neDt (K := K) rfl (List Int) (by decide) hr.units) (pe_call (ok_neighbours_of T) (hr.mono (by decide)) (by rfl) T.d15.mg T.d15.fn.kp T.d15.b .nil pass0 (pa_cons (pv 1) (pa_cons (pe_ix (ix_listK (K := K) rfl) (pv 2) (pv 3) (fun _ _ => rfl)) pa_nil))) (pe_callB (cr_sortI (K := K) rfl) (by rfl) T.n_sorted (by decide +kernel) (pa_cons (pe_lc (own := [("at", 5)]) (g := gName 5) (by rfl) sc_law_same_places.nd (pi_listK (K := K) rfl (pe_call (ok_neighbours_of T) (hr.mono (by decide)) (by rfl) T.d15.mg T.d15.fn.kp T.d15.b .nil pass0 (pa_cons (pv 0) (pa_cons (pv 3) pa_nil)))) (blkOk_by (own := [("at", 5)]) (N := ["web", "other", "order", "place", "fars", "at"]) (sc := defScope s_law_same_places) (by decide +kernel)) (fun _ _ _ _ _ => (pg_name (i := 5) sc_law_same_places.nd rfl (Or.inl rfl))) (fun _ _ _ _ _ => pts_nil) (fun _ _ _ _ _ => (pe_ix (ix_listK (K := K) rfl) (pv 2) (pv 5) (fun _ _ => rfl)))) pa_nil)) (nomark _)) (pss_one (ps_ret pe_bl)) pss_nil))))) (pss_one (ps_ret (pe_cmpR (op_eqDt (K := K) rfl (List (List TxT)) (by decide) hr.units) (pe_callG (ok_law_gathered T) (hr.mono (by decide)) hG (by rfl) T.d51.mg T.d51.fn.kp T.d51.b .nil pass0 (pa_cons (pe_call (ok_twins_of T) (hr.mono (by decide)) (by rfl) T.d35.mg T.d35.fn.kp T.d35.b .nil pass0 (pa_cons (pv 1) pa_nil)) pa_nil)) (pe_callG (ok_law_rows_moved T) (hr.mono (by decide)) hG (by rfl) T.d52.mg T.d52.fn.kp T.d52.b .nil pass0 (pa_cons (pv 2) (pa_cons (pe_call (ok_twins_of T) (hr.mono (by decide)) (by rfl) T.d35.mg T.d35.fn.kp T.d35.b .nil pass0 (pa_cons (pv 0) pa_nil)) pa_nil))) (nomark _))))), ?_⟩
    obtain ⟨n8, c8, hm⟩ := pb_rngC hm
    refine ⟨_, rfl, _, _, _, _, rfl, rfl, SqT.of (w0.same _ _ q1), rfl, _, rfl, _, _, _, _, rfl, rfl, SqT.of (w0.same _ _ q1), rfl, _, _, rfl, rfl, (by constructor <;> decide), _, _, rfl, rfl, _, _, _, n8, rfl, c8, ?_⟩
    refine forX (tw_rngC (i := (0 : Int)) (c := ((1 : Int) + (x_web.1 / (9 : Int)))) (n := n8)) hm (fun (g6 : Unit) σ H' => ∃ (F' : Hp) (o6_4 : Option V) (o6_3 : Option V), σ = [some (.ref a1), some (.ref a3), some (.ref a5), o6_3, o6_4, none] ∧ Same F0 F' ∧ W F' H' (os)) ⟨_, _, _, rfl, Same.refl _, w0⟩ (fun _ _ _ _ => trivial) ?_ ?_
    · -- a turn
      intro b6 g6 x6 σ6 H6 H6' N6 B6 P6 hI hy hN6 hB6 hZ6 hm
      obtain ⟨F6, o6_4, o6_3, rfl, s6, w6⟩ := hI
      replace q1 := s6 _ _ q1
      replace q2 := s6 _ _ q2
      replace h2 := A2.mono s6 h2
      replace q3 := s6 _ _ q3
      replace q4 := s6 _ _ q4
      replace h4 := A2.mono s6 h4
      replace q5 := s6 _ _ q5
      replace h5 := A2.mono s6 h5
      replace sF := sF.trans s6
      obtain ⟨rfl, rfl⟩ := hy
      obtain ⟨t9, e9, hm⟩ := pb_get hm
      obtain ⟨u9, f9, r9⟩ := A2.at h5 e9
      obtain rfl : u9 = V.int t9 := r9
      refine ⟨_, rfl, _, rfl, _, rfl, _, _, _, _, rfl, rfl, SqL.of (w6.same _ _ q5), f9, _, _, _, (x_other : (Int × (Tup (Int × Int)))), _, rfl, w6, (rep_pair q3 rep_i (rep_tup q4 h4)), ?_⟩
      refine (post_bind hm).mono (fun y10 hm p10 us10 F10 H10 w10 s10 g10 => ?_) (fun _ z => z)
      replace q1 := s10 _ _ q1
      replace h2 := A2.mono s10 h2
      replace q2 := s10 _ _ q2
      replace q3 := s10 _ _ q3
      replace h4 := A2.mono s10 h4
      replace q4 := s10 _ _ q4
      replace h5 := A2.mono s10 h5
      replace q5 := s10 _ _ q5
      replace sF := sF.trans s10
      obtain ⟨F12, s12, w12, q12⟩ : ∃ F', Same F10 F' ∧ W F' _ (os) ∧ F' p10 = some (.lst us10) := w10.freezeE (pre := [])
      replace q1 := s12 _ _ q1
      replace h2 := A2.mono s12 h2
      replace q2 := s12 _ _ q2
      replace q3 := s12 _ _ q3
      replace h4 := A2.mono s12 h4
      replace q4 := s12 _ _ q4
      replace h5 := A2.mono s12 h5
      replace q5 := s12 _ _ q5
      replace g10 := A2.mono s12 g10
      replace sF := sF.trans s12
      obtain ⟨c13, hm⟩ := pb_rng hm
      refine ⟨_, rfl, _, _, _, _, rfl, rfl, SqT.of (w12.same _ _ q1), rfl, _, rfl, c13.2.2.1, c13.2.2.2, fun D14 nD14 => ?_⟩
      refine lcM (K := K) (tw_rng0 (j := x_web.1)) hm w12 nD14 (fun F' H' acc s w => trivial) ?_ ?_
      · -- one turn
        intro b14 x14 F14 H14 H14' acc14 N14 P14 s14 w14 y14 hN14 hm
        replace q1 := s14 _ _ q1
        replace h2 := A2.mono s14 h2
        replace q2 := s14 _ _ q2
        replace q3 := s14 _ _ q3
        replace h4 := A2.mono s14 h4
        replace q4 := s14 _ _ q4
        replace h5 := A2.mono s14 h5
        replace q5 := s14 _ _ q5
        replace g10 := A2.mono s14 g10
        replace q12 := s14 _ _ q12
        replace sF := sF.trans s14
        obtain ⟨rfl, rfl⟩ := y14
        obtain ⟨t16, e16, hm⟩ := pb_get hm
        obtain ⟨u16, f16, r16⟩ := A2.at h5 e16
        obtain rfl : u16 = V.int t16 := r16
        obtain ⟨t17, e17, hm⟩ := pb_get hm
        obtain ⟨u17, f17, r17⟩ := A2.at g10 e17
        obtain rfl : u17 = V.int t17 := r17
        exact ⟨rfl, _, rfl, _, rfl, _, rfl, _, _, _, _, rfl, rfl, SqL.of (w14.same _ _ q5), f16, _, _, _, _, rfl, rfl, SqL.of (w14.same _ _ q12), f17, hN14 _ (post_ok hm) _ _ _ w14 (Same.refl _) rep_i⟩
      intro us14 F14 H14 ys14 s14 w14 gg14 hm
      replace q1 := s14 _ _ q1
      replace h2 := A2.mono s14 h2
      replace q2 := s14 _ _ q2
      replace q3 := s14 _ _ q3
      replace h4 := A2.mono s14 h4
      replace q4 := s14 _ _ q4
      replace h5 := A2.mono s14 h5
      replace q5 := s14 _ _ q5
      replace g10 := A2.mono s14 g10
      replace q12 := s14 _ _ q12
      replace sF := sF.trans s14
      refine ⟨_, rfl, _, rfl, _, _, _, (x_web : (Int × (Tup (Int × Int)))), _, rfl, w14, (rep_pair q1 rep_i (rep_tup q2 h2)), ?_⟩
      refine (post_bind hm).mono (fun y19 hm p19 us19 F19 H19 w19 s19 g19 => ?_) (fun _ z => z)
      replace q1 := s19 _ _ q1
      replace h2 := A2.mono s19 h2
      replace q2 := s19 _ _ q2
      replace q3 := s19 _ _ q3
      replace h4 := A2.mono s19 h4
      replace q4 := s19 _ _ q4
      replace h5 := A2.mono s19 h5
      replace q5 := s19 _ _ q5
      replace g10 := A2.mono s19 g10
      replace q12 := s19 _ _ q12
      replace gg14 := A2.mono s19 gg14
      replace sF := sF.trans s19
      refine ⟨(ys14 : (List Int)), (y19 : (List Int)), (rep_own (pre := [_]) w19 gg14), (rep_own (pre := []) w19 g19), _, rfl, ?_⟩
      have w21 : W F19 _ ((D14, .lst us14) :: os) := w19.drop (pre := [])
      have w22 : W F19 _ (os) := w21.drop (pre := [])
      refine post_ite hm (fun k23 hm => ?_) (fun k23 hm => ?_)
      · skip
        have hm := hZ6 _ (post_ok hm)
        exact (post_ok hm) _ _ _ w22 sF rep_b
      · skip
        obtain ⟨t24, e24, hm⟩ := pb_get hm
        obtain ⟨u24, f24, r24⟩ := A2.at h5 e24
        obtain rfl : u24 = V.int t24 := r24
        refine ⟨_, rfl, _, rfl, _, rfl, _, _, _, _, rfl, rfl, SqL.of (w22.same _ _ q5), f24, _, _, _, (x_other : (Int × (Tup (Int × Int)))), _, rfl, w22, (rep_pair q3 rep_i (rep_tup q4 h4)), ?_⟩
        refine (post_bind hm).mono (fun y25 hm v25 F25 H25 w25 s25 r25 => ?_) (fun _ z => z)
        replace q1 := s25 _ _ q1
        replace h2 := A2.mono s25 h2
        replace q2 := s25 _ _ q2
        replace q3 := s25 _ _ q3
        replace h4 := A2.mono s25 h4
        replace q4 := s25 _ _ q4
        replace h5 := A2.mono s25 h5
        replace q5 := s25 _ _ q5
        replace g10 := A2.mono s25 g10
        replace q12 := s25 _ _ q12
        replace sF := sF.trans s25
        obtain ⟨a26, vs26, rfl, q26, h26⟩ := r25
        refine ⟨_, rfl, _, rfl, _, _, _, (x_web : (Int × (Tup (Int × Int)))), _, rfl, w25, (rep_pair q1 rep_i (rep_tup q2 h2)), ?_⟩
        refine (post_bind hm).mono (fun y27 hm v27 F27 H27 w27 s27 r27 => ?_) (fun _ z => z)
        replace q1 := s27 _ _ q1
        replace h2 := A2.mono s27 h2
        replace q2 := s27 _ _ q2
        replace q3 := s27 _ _ q3
        replace h4 := A2.mono s27 h4
        replace q4 := s27 _ _ q4
        replace h5 := A2.mono s27 h5
        replace q5 := s27 _ _ q5
        replace g10 := A2.mono s27 g10
        replace q12 := s27 _ _ q12
        replace q26 := s27 _ _ q26
        replace h26 := A2.mono s27 h26
        replace sF := sF.trans s27
        obtain ⟨a28, vs28, rfl, q28, h28⟩ := r27
        refine ⟨_, rfl, ⟨_, SqL.of (w27.same _ _ q28)⟩, fun D29 nD29 => ?_⟩
        refine lcM (K := K) (tw_list (a := a28) h28) hm w27 nD29 (fun F' H' acc s w => SqL.of (w.same _ _ (s _ _ q28))) ?_ ?_
        · -- one turn
          intro b29 x29 F29 H29 H29' acc29 N29 P29 s29 w29 y29 hN29 hm
          replace q1 := s29 _ _ q1
          replace h2 := A2.mono s29 h2
          replace q2 := s29 _ _ q2
          replace q3 := s29 _ _ q3
          replace h4 := A2.mono s29 h4
          replace q4 := s29 _ _ q4
          replace h5 := A2.mono s29 h5
          replace q5 := s29 _ _ q5
          replace g10 := A2.mono s29 g10
          replace q12 := s29 _ _ q12
          replace q26 := s29 _ _ q26
          replace h26 := A2.mono s29 h26
          replace q28 := s29 _ _ q28
          replace h28 := A2.mono s29 h28
          replace sF := sF.trans s29
          obtain ⟨rfl, r31⟩ := y29
          obtain rfl : x29 = V.int b29 := r31
          obtain ⟨t32, e32, hm⟩ := pb_get hm
          obtain ⟨u32, f32, r32⟩ := A2.at h5 e32
          obtain rfl : u32 = V.int t32 := r32
          exact ⟨rfl, _, rfl, _, rfl, _, _, _, _, rfl, rfl, SqL.of (w29.same _ _ q5), f32, hN29 _ (post_ok hm) _ _ _ w29 (Same.refl _) rep_i⟩
        intro us29 F29 H29 ys29 s29 w29 gg29 hm
        replace q1 := s29 _ _ q1
        replace h2 := A2.mono s29 h2
        replace q2 := s29 _ _ q2
        replace q3 := s29 _ _ q3
        replace h4 := A2.mono s29 h4
        replace q4 := s29 _ _ q4
        replace h5 := A2.mono s29 h5
        replace q5 := s29 _ _ q5
        replace g10 := A2.mono s29 g10
        replace q12 := s29 _ _ q12
        replace q26 := s29 _ _ q26
        replace h26 := A2.mono s29 h26
        replace q28 := s29 _ _ q28
        replace h28 := A2.mono s29 h28
        replace sF := sF.trans s29
        have h34 : A2 (rep K F29) ((sortI ys29).map V.int) (sortI ys29) := A2.of_ints
        refine ⟨_, _, rfl, ints_q (SqL.of (w29.get (pre := []))) gg29, fun p35 n35 => ?_⟩
        have w35 : W F29 _ ((p35, .lst ((sortI ys29).map V.int)) :: (D29, .lst us29) :: os) := w29.new n35
        refine ⟨(y25 : (List Int)), ((sortI ys29) : (List Int)), (Rep.mono w35.same (rep_lst q26 h26)), (rep_own (pre := []) w35 h34), _, rfl, ?_⟩
        have w36 : W F29 _ ((D29, .lst us29) :: os) := w35.drop (pre := [])
        have w37 : W F29 _ (os) := w36.drop (pre := [])
        refine post_ite hm (fun k38 hm => ?_) (fun k38 hm => ?_)
        · skip
          have hm := hZ6 _ (post_ok hm)
          exact (post_ok hm) _ _ _ w37 sF rep_b
        · skip
          exact hN6 _ (post_ok hm) _ _ ⟨_, _, _, rfl, (s6.trans (s10.trans (s12.trans (s14.trans (s19.trans (s25.trans (s27.trans s29))))))), w37⟩
    intro g6 σ6 H6 hI hm
    obtain ⟨F6, o6_4, o6_3, rfl, s6, w6⟩ := hI
    replace q1 := s6 _ _ q1
    replace q2 := s6 _ _ q2
    replace h2 := A2.mono s6 h2
    replace q3 := s6 _ _ q3
    replace q4 := s6 _ _ q4
    replace h4 := A2.mono s6 h4
    replace q5 := s6 _ _ q5
    replace h5 := A2.mono s6 h5
    replace sF := sF.trans s6
    refine ⟨_, rfl, _, _, _, (x_other : (Int × (Tup (Int × Int)))), rfl, w6, (rep_pair q3 rep_i (rep_tup q4 h4)), ?_⟩
    refine (post_bind hm).mono (fun y39 hm v39 F39 H39 w39 s39 r39 => ?_) (fun _ z => z)
    replace q1 := s39 _ _ q1
    replace h2 := A2.mono s39 h2
    replace q2 := s39 _ _ q2
    replace q3 := s39 _ _ q3
    replace h4 := A2.mono s39 h4
    replace q4 := s39 _ _ q4
    replace h5 := A2.mono s39 h5
    replace q5 := s39 _ _ q5
    replace sF := sF.trans s39
    obtain ⟨a40, vs40, rfl, q40, h40⟩ := r39
    refine ⟨_, _, _, (y39 : (List (List Thing))), rfl, w39, (rep_lst q40 h40), ?_⟩
    refine (post_bind hm).mono (fun y41 hm v41 F41 H41 w41 s41 r41 => ?_) (fun _ z => z)
    replace q1 := s41 _ _ q1
    replace h2 := A2.mono s41 h2
    replace q2 := s41 _ _ q2
    replace q3 := s41 _ _ q3
    replace h4 := A2.mono s41 h4
    replace q4 := s41 _ _ q4
    replace h5 := A2.mono s41 h5
    replace q5 := s41 _ _ q5
    replace q40 := s41 _ _ q40
    replace h40 := A2.mono s41 h40
    replace sF := sF.trans s41
    obtain ⟨a42, vs42, rfl, q42, h42⟩ := r41
    refine ⟨_, rfl, _, rfl, _, _, _, (x_web : (Int × (Tup (Int × Int)))), rfl, w41, (rep_pair q1 rep_i (rep_tup q2 h2)), ?_⟩
    refine (post_bind hm).mono (fun y43 hm v43 F43 H43 w43 s43 r43 => ?_) (fun _ z => z)
    replace q1 := s43 _ _ q1
    replace h2 := A2.mono s43 h2
    replace q2 := s43 _ _ q2
    replace q3 := s43 _ _ q3
    replace h4 := A2.mono s43 h4
    replace q4 := s43 _ _ q4
    replace h5 := A2.mono s43 h5
    replace q5 := s43 _ _ q5
    replace q40 := s43 _ _ q40
    replace h40 := A2.mono s43 h40
    replace q42 := s43 _ _ q42
    replace h42 := A2.mono s43 h42
    replace sF := sF.trans s43
    obtain ⟨a44, vs44, rfl, q44, h44⟩ := r43
    refine ⟨_, _, _, (x_order : (List Int)), _, (y43 : (List (List Thing))), rfl, w43, (rep_lst q5 h5), (rep_lst q44 h44), ?_⟩
    refine (post_bind hm).mono (fun y45 hm v45 F45 H45 w45 s45 r45 => ?_) (fun _ z => z)
    replace q1 := s45 _ _ q1
    replace h2 := A2.mono s45 h2
    replace q2 := s45 _ _ q2
    replace q3 := s45 _ _ q3
    replace h4 := A2.mono s45 h4
    replace q4 := s45 _ _ q4
    replace h5 := A2.mono s45 h5
    replace q5 := s45 _ _ q5
    replace q40 := s45 _ _ q40
    replace h40 := A2.mono s45 h40
    replace q42 := s45 _ _ q42
    replace h42 := A2.mono s45 h42
    replace q44 := s45 _ _ q44
    replace h44 := A2.mono s45 h44
    replace sF := sF.trans s45
    obtain ⟨a46, vs46, rfl, q46, h46⟩ := r45
    exact ⟨(y41 : (List (List TxT))), (y45 : (List (List TxT))), (Rep.mono w45.same (rep_lst q42 h42)), (Rep.mono w45.same (rep_lst q46 h46)), (post_ok hm) _ _ _ w45 sF rep_b⟩
def sp_law_same_things (K : Fg) : Sp := fun vs H Q E => ∃ (F : Hp) (os : List (Addr × HO)) (a_pot : Addr) (vs_pot : List V) (x_pot : (List Int)) (v_web : V) (x_web : (Int × (Tup (Int × Int)))) (v_other : V) (x_other : (Int × (Tup (Int × Int)))) (v_order : V) (x_order : (List Int)) (x_kind : Str), vs = [.ref a_pot, v_web, v_other, v_order, .str x_kind] ∧ W F H ((a_pot, .lst vs_pot) :: os) ∧ A2 (rep K F) vs_pot x_pot ∧ rep K F v_web x_web ∧ rep K F v_other x_other ∧ rep K F v_order x_order ∧ Post (law_same_things x_pot x_web x_other x_order x_kind) (RetM K F a_pot os Q) noX
theorem sc_law_same_things : FnScope ["pot", "web", "other", "order", "kind", "things", "looks", "moved", "turn", "one", "two", "found", "lots", "look", "at"] ["pot", "web", "other", "order", "kind"] (defScope s_law_same_things) := ⟨rfl, rfl, rfl, by decide +kernel, rfl, by decide +kernel, by decide +kernel⟩
set_option maxHeartbeats 40000000 in
theorem ok_law_same_things (T : Tx K mg A FD) : FnG P w K mg base CX0 6 (A 54) (FD 54) ["pot", "web", "other", "order", "kind"] (sp_law_same_things K) := by
  refine T.d54.fn.okG sc_law_same_things (fun vs H Q E h => ?_) (fun cdv Ar outer s H vs Q E hr hG h => ?_)
  · obtain ⟨F, os, a_pot, vs_pot, x_pot, v_web, x_web, v_other, x_other, v_order, x_order, x_kind, rfl, _⟩ := h
    rfl
  · obtain ⟨F0, os, a_pot, vs_pot, x_pot, v_web, x_web, v_other, x_other, v_order, x_order, x_kind, rfl, w0, h_pot, r_web, r_other, r_order, hm⟩ := h
    have sF : Same F0 F0 := Same.refl _
    obtain ⟨a2, u2, z2, rfl, q2, r2a, r2b⟩ := r_web
    obtain rfl : u2 = V.int x_web.1 := r2a
    obtain ⟨a3, vs3, rfl, q3, h3⟩ := r2b
    obtain ⟨a4, u4, z4, rfl, q4, r4a, r4b⟩ := r_other
    obtain rfl : u4 = V.int x_other.1 := r4a
    obtain ⟨a5, vs5, rfl, q5, h5⟩ := r4b
    obtain ⟨a6, vs6, rfl, q6, h6⟩ := r_order
    refine ⟨_, (pss_cons (ps_set (i := 5) sc_law_same_things.nd rfl (Or.inl rfl) (pe_call (ok_things_of T) (hr.mono (by decide)) (by rfl) T.d19.mg T.d19.fn.kp T.d19.b .nil pass0 (pa_cons (pv 1) (pa_cons (pv 4) pa_nil)))) (pss_cons (ps_set (i := 6) sc_law_same_things.nd rfl (Or.inl rfl) (pe_call (ok_law_some T) (hr.mono (by decide)) (by rfl) T.d48.mg T.d48.fn.kp T.d48.b .nil pass0 (pa_cons (pv 0) (pa_cons (pe_ix (ix_tupK (K := K) rfl) (pv 1) pe_int (fun _ _ => rfl)) pa_nil)))) (pss_cons (ps_set (i := 7) sc_law_same_things.nd rfl (Or.inl rfl) (pe_callB (cr_sortI (K := K) rfl) (by rfl) T.n_sorted (by decide +kernel) (pa_cons (pe_lc (own := [("look", 13)]) (g := gName 13) (by rfl) sc_law_same_things.nd (pi_listK (K := K) rfl (pv 6)) (blkOk_by (own := [("look", 13)]) (N := ["pot", "web", "other", "order", "kind", "things", "looks", "moved", "turn", "one", "two", "found", "lots", "look", "at"]) (sc := defScope s_law_same_things) (by decide +kernel)) (fun _ _ _ _ _ => (pg_name (i := 13) sc_law_same_things.nd rfl (Or.inl rfl))) (fun _ _ _ _ _ => pts_nil) (fun _ _ _ _ _ => (pe_ix (ix_listK (K := K) rfl) (pv 3) (pv 13) (fun _ _ => rfl)))) pa_nil))) (pss_cons (ps_if (pt_cmpR (op_neDt (K := K) rfl (List (List TxT)) (by decide) hr.units) (pe_callG (ok_law_gathered T) (hr.mono (by decide)) hG (by rfl) T.d51.mg T.d51.fn.kp T.d51.b .nil pass0 (pa_cons (pe_call (ok_likes_by T) (hr.mono (by decide)) (by rfl) T.d28.mg T.d28.fn.kp T.d28.b .nil pass0 (pa_cons (pv 2) (pa_cons (pv 7) (pa_cons (pv 4) pa_nil)))) pa_nil)) (pe_callG (ok_law_rows_moved T) (hr.mono (by decide)) hG (by rfl) T.d52.mg T.d52.fn.kp T.d52.b .nil pass0 (pa_cons (pv 3) (pa_cons (pe_call (ok_likes_by T) (hr.mono (by decide)) (by rfl) T.d28.mg T.d28.fn.kp T.d28.b .nil pass0 (pa_cons (pv 1) (pa_cons (pv 6) (pa_cons (pv 4) pa_nil)))) pa_nil))) (nomark _)) (pss_one (ps_ret pe_bl)) pss_nil) (pss_cons (ps_for PassesOwn.never rfl (pi_range1 (by rfl) T.n_range (pa_cons (pe_ix (ix_listK (K := K) rfl) (pe_lst (pa_cons pe_int (pa_cons pe_int pa_nil))) (pe_callTy call_intB (by rfl) T.n_int (by decide +kernel) (pa_cons (pe_cmp (pc_gt (pe_ix (ix_tupK (K := K) rfl) (pv 1) pe_int (fun _ _ => rfl)) pe_int)) pa_nil)) (fun _ _ => rfl)) pa_nil)) (pg_name (i := 8) sc_law_same_things.nd rfl (Or.inl rfl)) (pss_cons (ps_set (i := 9) sc_law_same_things.nd rfl (Or.inl rfl) (pe_ix (ix_listK (K := K) rfl) (pv 5) (pe_call (ok_law_take T) (hr.mono (by decide)) (by rfl) T.d41.mg T.d41.fn.kp T.d41.b .nil pass0 (pa_cons (pv 0) (pa_cons (pe_callB (call_lenN (K := K) rfl) (by rfl) T.n_len (by decide +kernel) (pa_cons (pv 5) pa_nil)) pa_nil))) (fun _ _ => rfl))) (pss_cons (ps_set (i := 10) sc_law_same_things.nd rfl (Or.inl rfl) (pe_ix (ix_listK (K := K) rfl) (pv 5) (pe_call (ok_law_take T) (hr.mono (by decide)) (by rfl) T.d41.mg T.d41.fn.kp T.d41.b .nil pass0 (pa_cons (pv 0) (pa_cons (pe_callB (call_lenN (K := K) rfl) (by rfl) T.n_len (by decide +kernel) (pa_cons (pv 5) pa_nil)) pa_nil))) (fun _ _ => rfl))) (pss_cons (ps_if (pt_cmpR (op_neDt (K := K) rfl (List Int) (by decide) hr.units) (pe_callB (cr_sortI (K := K) rfl) (by rfl) T.n_sorted (by decide +kernel) (pa_cons (pe_call (ok_code_of T) (hr.mono (by decide)) (by rfl) T.d25.mg T.d25.fn.kp T.d25.b .nil pass0 (pa_cons (pv 2) (pa_cons (pv 7) (pa_cons (pe_call (ok_law_moved T) (hr.mono (by decide)) (by rfl) T.d50.mg T.d50.fn.kp T.d50.b .nil pass0 (pa_cons (pv 3) (pa_cons (pv 9) pa_nil))) pa_nil)))) pa_nil)) (pe_callB (cr_sortI (K := K) rfl) (by rfl) T.n_sorted (by decide +kernel) (pa_cons (pe_call (ok_code_of T) (hr.mono (by decide)) (by rfl) T.d25.mg T.d25.fn.kp T.d25.b .nil pass0 (pa_cons (pv 1) (pa_cons (pv 6) (pa_cons (pv 9) pa_nil)))) pa_nil)) (nomark _)) (pss_one (ps_ret pe_bl)) pss_nil) (pss_one (ps_if (pt_cmpR (op_neDt (K := K) rfl Thing (by decide) hr.units) (pv 9) (pv 10) (nomark _)) (pss_cons (ps_set (i := 11) sc_law_same_things.nd rfl (Or.inl rfl) (pe_call (ok_parters_of T) (hr.mono (by decide)) (by rfl) T.d26.mg T.d26.fn.kp T.d26.b .nil pass0 (pa_cons (pv 2) (pa_cons (pe_call (ok_law_moved T) (hr.mono (by decide)) (by rfl) T.d50.mg T.d50.fn.kp T.d50.b .nil pass0 (pa_cons (pv 3) (pa_cons (pv 9) pa_nil))) (pa_cons (pe_call (ok_law_moved T) (hr.mono (by decide)) (by rfl) T.d50.mg T.d50.fn.kp T.d50.b .nil pass0 (pa_cons (pv 3) (pa_cons (pv 10) pa_nil))) pa_nil))))) (pss_cons (ps_if (pt_cmpR (op_neDt (K := K) rfl (List Int) (by decide) hr.units) (pv 11) (pe_callB (cr_sortI (K := K) rfl) (by rfl) T.n_sorted (by decide +kernel) (pa_cons (pe_lc (own := [("at", 14)]) (g := gName 14) (by rfl) sc_law_same_things.nd (pi_listK (K := K) rfl (pe_call (ok_parters_of T) (hr.mono (by decide)) (by rfl) T.d26.mg T.d26.fn.kp T.d26.b .nil pass0 (pa_cons (pv 1) (pa_cons (pv 9) (pa_cons (pv 10) pa_nil))))) (blkOk_by (own := [("at", 14)]) (N := ["pot", "web", "other", "order", "kind", "things", "looks", "moved", "turn", "one", "two", "found", "lots", "look", "at"]) (sc := defScope s_law_same_things) (by decide +kernel)) (fun _ _ _ _ _ => (pg_name (i := 14) sc_law_same_things.nd rfl (Or.inl rfl))) (fun _ _ _ _ _ => pts_nil) (fun _ _ _ _ _ => (pe_ix (ix_listK (K := K) rfl) (pv 3) (pv 14) (fun _ _ => rfl)))) pa_nil)) (nomark _)) (pss_one (ps_ret pe_bl)) pss_nil) (pss_cons (ps_set (i := 12) sc_law_same_things.nd rfl (Or.inl rfl) (pe_lst (pa_cons (pe_lst (pa_cons (pe_call (ok_law_moved T) (hr.mono (by decide)) (by rfl) T.d50.mg T.d50.fn.kp T.d50.b .nil pass0 (pa_cons (pv 3) (pa_cons (pv 9) pa_nil))) (pa_cons (pe_call (ok_law_moved T) (hr.mono (by decide)) (by rfl) T.d50.mg T.d50.fn.kp T.d50.b .nil pass0 (pa_cons (pv 3) (pa_cons (pv 10) pa_nil))) pa_nil))) (pa_cons (pe_lst (pa_cons (pe_ix (ix_listK (K := K) rfl) (pv 3) pe_int (fun _ _ => rfl)) (pa_cons (pe_ix (ix_listK (K := K) rfl) (pv 3) (pe_op op_sub (pe_ix (ix_tupK (K := K) rfl) (pv 1) pe_int (fun _ _ => rfl)) pe_int) (fun _ _ => rfl)) pa_nil))) pa_nil)))) (pss_one (ps_if (pt_cmpR (op_neDt (K := K) rfl (Option Int) (by decide) hr.units) (pe_call (ok_floor_height T) (hr.mono (by decide)) (by rfl) T.d38.mg T.d38.fn.kp T.d38.b .nil pass0 (pa_cons (pv 2) (pa_cons (pv 4) (pa_cons (pv 12) pa_nil)))) (pe_call (ok_floor_height T) (hr.mono (by decide)) (by rfl) T.d38.mg T.d38.fn.kp T.d38.b .nil pass0 (pa_cons (pv 1) (pa_cons (pv 4) (pa_cons (pe_lst (pa_cons (pe_lst (pa_cons (pv 9) (pa_cons (pv 10) pa_nil))) (pa_cons (pe_lst (pa_cons pe_int (pa_cons (pe_op op_sub (pe_ix (ix_tupK (K := K) rfl) (pv 1) pe_int (fun _ _ => rfl)) pe_int) pa_nil))) pa_nil))) pa_nil)))) (nomark _)) (pss_one (ps_ret pe_bl)) pss_nil))))) pss_nil)))))) (pss_one (ps_ret pe_bl))))))), ?_⟩
    refine ⟨_, rfl, _, rfl, _, _, _, (x_web : (Int × (Tup (Int × Int)))), _, rfl, w0, (rep_pair q2 rep_i (rep_tup q3 h3)), ?_⟩
    refine (post_bind hm).mono (fun y7 hm p7 us7 F7 H7 w7 s7 g7 => ?_) (fun _ z => z)
    replace h_pot := A2.mono s7 h_pot
    replace q2 := s7 _ _ q2
    replace q3 := s7 _ _ q3
    replace h3 := A2.mono s7 h3
    replace q4 := s7 _ _ q4
    replace q5 := s7 _ _ q5
    replace h5 := A2.mono s7 h5
    replace q6 := s7 _ _ q6
    replace h6 := A2.mono s7 h6
    replace sF := sF.trans s7
    obtain ⟨F9, s9, w9, q9⟩ : ∃ F', Same F7 F' ∧ W F' _ ((a_pot, .lst vs_pot) :: os) ∧ F' p7 = some (.lst us7) := w7.freezeE (pre := [])
    replace h_pot := A2.mono s9 h_pot
    replace q2 := s9 _ _ q2
    replace q3 := s9 _ _ q3
    replace h3 := A2.mono s9 h3
    replace q4 := s9 _ _ q4
    replace q5 := s9 _ _ q5
    replace h5 := A2.mono s9 h5
    replace q6 := s9 _ _ q6
    replace h6 := A2.mono s9 h6
    replace g7 := A2.mono s9 g7
    replace sF := sF.trans s9
    refine ⟨_, rfl, _, rfl, _, _, _, _, rfl, rfl, SqT.of (w9.same _ _ q2), rfl, _, _, _, _, _, _, rfl, w9, h_pot, ?_⟩
    refine (post_bind hm).mono (fun y10 hm p10 us10 vs10 F10 H10 w10 s10 g10 h10 => ?_) (fun _ z => z)
    replace q2 := s10 _ _ q2
    replace h3 := A2.mono s10 h3
    replace q3 := s10 _ _ q3
    replace q4 := s10 _ _ q4
    replace h5 := A2.mono s10 h5
    replace q5 := s10 _ _ q5
    replace h6 := A2.mono s10 h6
    replace q6 := s10 _ _ q6
    replace g7 := A2.mono s10 g7
    replace q9 := s10 _ _ q9
    replace sF := sF.trans s10
    obtain ⟨F12, s12, w12, q12⟩ : ∃ F', Same F10 F' ∧ W F' _ ((a_pot, .lst vs10) :: os) ∧ F' p10 = some (.lst us10) := w10.freezeE (pre := [])
    replace q2 := s12 _ _ q2
    replace h3 := A2.mono s12 h3
    replace q3 := s12 _ _ q3
    replace q4 := s12 _ _ q4
    replace h5 := A2.mono s12 h5
    replace q5 := s12 _ _ q5
    replace h6 := A2.mono s12 h6
    replace q6 := s12 _ _ q6
    replace g7 := A2.mono s12 g7
    replace q9 := s12 _ _ q9
    replace h10 := A2.mono s12 h10
    replace g10 := A2.mono s12 g10
    replace sF := sF.trans s12
    refine ⟨_, rfl, _, rfl, ⟨_, SqL.of (w12.same _ _ q12)⟩, fun D13 nD13 => ?_⟩
    refine lcM (K := K) (tw_list (a := p10) g10) hm w12 nD13 (fun F' H' acc s w => SqL.of (w.same _ _ (s _ _ q12))) ?_ ?_
    · -- one turn
      intro b13 x13 F13 H13 H13' acc13 N13 P13 s13 w13 y13 hN13 hm
      replace q2 := s13 _ _ q2
      replace h3 := A2.mono s13 h3
      replace q3 := s13 _ _ q3
      replace q4 := s13 _ _ q4
      replace h5 := A2.mono s13 h5
      replace q5 := s13 _ _ q5
      replace h6 := A2.mono s13 h6
      replace q6 := s13 _ _ q6
      replace g7 := A2.mono s13 g7
      replace q9 := s13 _ _ q9
      replace g10 := A2.mono s13 g10
      replace q12 := s13 _ _ q12
      replace h10 := A2.mono s13 h10
      replace sF := sF.trans s13
      obtain ⟨rfl, r15⟩ := y13
      obtain rfl : x13 = V.int b13 := r15
      obtain ⟨t16, e16, hm⟩ := pb_get hm
      obtain ⟨u16, f16, r16⟩ := A2.at h6 e16
      obtain rfl : u16 = V.int t16 := r16
      exact ⟨rfl, _, rfl, _, rfl, _, _, _, _, rfl, rfl, SqL.of (w13.same _ _ q6), f16, hN13 _ (post_ok hm) _ _ _ w13 (Same.refl _) rep_i⟩
    intro us13 F13 H13 ys13 s13 w13 gg13 hm
    replace q2 := s13 _ _ q2
    replace h3 := A2.mono s13 h3
    replace q3 := s13 _ _ q3
    replace q4 := s13 _ _ q4
    replace h5 := A2.mono s13 h5
    replace q5 := s13 _ _ q5
    replace h6 := A2.mono s13 h6
    replace q6 := s13 _ _ q6
    replace g7 := A2.mono s13 g7
    replace q9 := s13 _ _ q9
    replace g10 := A2.mono s13 g10
    replace q12 := s13 _ _ q12
    replace h10 := A2.mono s13 h10
    replace sF := sF.trans s13
    have h18 : A2 (rep K F13) ((sortI ys13).map V.int) (sortI ys13) := A2.of_ints
    refine ⟨_, _, rfl, ints_q (SqL.of (w13.get (pre := []))) gg13, fun p19 n19 => ?_⟩
    have w19 : W F13 _ ((p19, .lst ((sortI ys13).map V.int)) :: (D13, .lst us13) :: (a_pot, .lst vs10) :: os) := w13.new n19
    obtain ⟨F20, s20, w20, q20⟩ : ∃ F', Same F13 F' ∧ W F' _ ((D13, .lst us13) :: (a_pot, .lst vs10) :: os) ∧ F' p19 = some (.lst ((sortI ys13).map V.int)) := w19.freezeE (pre := [])
    replace q2 := s20 _ _ q2
    replace h3 := A2.mono s20 h3
    replace q3 := s20 _ _ q3
    replace q4 := s20 _ _ q4
    replace h5 := A2.mono s20 h5
    replace q5 := s20 _ _ q5
    replace h6 := A2.mono s20 h6
    replace q6 := s20 _ _ q6
    replace g7 := A2.mono s20 g7
    replace q9 := s20 _ _ q9
    replace g10 := A2.mono s20 g10
    replace q12 := s20 _ _ q12
    replace h10 := A2.mono s20 h10
    replace gg13 := A2.mono s20 gg13
    replace h18 := A2.mono s20 h18
    replace sF := sF.trans s20
    have w21 : W F20 _ ((a_pot, .lst vs10) :: os) := w20.drop (pre := [])
    refine ⟨_, rfl, _, rfl, _, rfl, _, _, _, (x_other : (Int × (Tup (Int × Int)))), _, ((sortI ys13) : (List Int)), _, rfl, w21, (rep_pair q4 rep_i (rep_tup q5 h5)), (rep_lst q20 h18), ?_⟩
    refine (post_bind hm).mono (fun y22 hm v22 F22 H22 w22 s22 r22 => ?_) (fun _ z => z)
    replace q2 := s22 _ _ q2
    replace h3 := A2.mono s22 h3
    replace q3 := s22 _ _ q3
    replace q4 := s22 _ _ q4
    replace h5 := A2.mono s22 h5
    replace q5 := s22 _ _ q5
    replace h6 := A2.mono s22 h6
    replace q6 := s22 _ _ q6
    replace g7 := A2.mono s22 g7
    replace q9 := s22 _ _ q9
    replace g10 := A2.mono s22 g10
    replace q12 := s22 _ _ q12
    replace h18 := A2.mono s22 h18
    replace q20 := s22 _ _ q20
    replace h10 := A2.mono s22 h10
    replace sF := sF.trans s22
    obtain ⟨a23, vs23, rfl, q23, h23⟩ := r22
    refine ⟨_, _, _, (y22 : (List (List Thing))), rfl, w22, (rep_lst q23 h23), ?_⟩
    refine (post_bind hm).mono (fun y24 hm v24 F24 H24 w24 s24 r24 => ?_) (fun _ z => z)
    replace q2 := s24 _ _ q2
    replace h3 := A2.mono s24 h3
    replace q3 := s24 _ _ q3
    replace q4 := s24 _ _ q4
    replace h5 := A2.mono s24 h5
    replace q5 := s24 _ _ q5
    replace h6 := A2.mono s24 h6
    replace q6 := s24 _ _ q6
    replace g7 := A2.mono s24 g7
    replace q9 := s24 _ _ q9
    replace g10 := A2.mono s24 g10
    replace q12 := s24 _ _ q12
    replace h18 := A2.mono s24 h18
    replace q20 := s24 _ _ q20
    replace h10 := A2.mono s24 h10
    replace q23 := s24 _ _ q23
    replace h23 := A2.mono s24 h23
    replace sF := sF.trans s24
    obtain ⟨a25, vs25, rfl, q25, h25⟩ := r24
    refine ⟨_, rfl, _, rfl, _, rfl, _, rfl, _, _, _, (x_web : (Int × (Tup (Int × Int)))), _, (y10.1 : (List Int)), _, rfl, w24, (rep_pair q2 rep_i (rep_tup q3 h3)), (rep_lst q12 g10), ?_⟩
    refine (post_bind hm).mono (fun y26 hm v26 F26 H26 w26 s26 r26 => ?_) (fun _ z => z)
    replace q2 := s26 _ _ q2
    replace h3 := A2.mono s26 h3
    replace q3 := s26 _ _ q3
    replace q4 := s26 _ _ q4
    replace h5 := A2.mono s26 h5
    replace q5 := s26 _ _ q5
    replace h6 := A2.mono s26 h6
    replace q6 := s26 _ _ q6
    replace g7 := A2.mono s26 g7
    replace q9 := s26 _ _ q9
    replace g10 := A2.mono s26 g10
    replace q12 := s26 _ _ q12
    replace h18 := A2.mono s26 h18
    replace q20 := s26 _ _ q20
    replace h10 := A2.mono s26 h10
    replace q23 := s26 _ _ q23
    replace h23 := A2.mono s26 h23
    replace q25 := s26 _ _ q25
    replace h25 := A2.mono s26 h25
    replace sF := sF.trans s26
    obtain ⟨a27, vs27, rfl, q27, h27⟩ := r26
    refine ⟨_, _, _, (x_order : (List Int)), _, (y26 : (List (List Thing))), rfl, w26, (rep_lst q6 h6), (rep_lst q27 h27), ?_⟩
    refine (post_bind hm).mono (fun y28 hm v28 F28 H28 w28 s28 r28 => ?_) (fun _ z => z)
    replace q2 := s28 _ _ q2
    replace h3 := A2.mono s28 h3
    replace q3 := s28 _ _ q3
    replace q4 := s28 _ _ q4
    replace h5 := A2.mono s28 h5
    replace q5 := s28 _ _ q5
    replace h6 := A2.mono s28 h6
    replace q6 := s28 _ _ q6
    replace g7 := A2.mono s28 g7
    replace q9 := s28 _ _ q9
    replace g10 := A2.mono s28 g10
    replace q12 := s28 _ _ q12
    replace h18 := A2.mono s28 h18
    replace q20 := s28 _ _ q20
    replace h10 := A2.mono s28 h10
    replace q23 := s28 _ _ q23
    replace h23 := A2.mono s28 h23
    replace q25 := s28 _ _ q25
    replace h25 := A2.mono s28 h25
    replace q27 := s28 _ _ q27
    replace h27 := A2.mono s28 h27
    replace sF := sF.trans s28
    obtain ⟨a29, vs29, rfl, q29, h29⟩ := r28
    refine ⟨(y24 : (List (List TxT))), (y28 : (List (List TxT))), (Rep.mono w28.same (rep_lst q25 h25)), (Rep.mono w28.same (rep_lst q29 h29)), _, rfl, ?_⟩
    refine post_ite hm (fun k30 hm => ?_) (fun k30 hm => ?_)
    · skip
      exact (post_ok hm) _ _ _ _ w28 sF rep_b h10
    · skip
      have h32 : A2 (rep K F28) [(.int 5), (.int 3)] ([(5 : Int), (3 : Int)] : (List Int)) := .cons rep_i (.cons rep_i (.nil))
      refine ⟨(by show 2 ≤ sizeLine; decide), fun p33 n33 => ?_⟩
      have w33 : W F28 _ ((p33, .lst [(.int 5), (.int 3)]) :: (a_pot, .lst vs10) :: os) := w28.new n33
      obtain ⟨t34, e34, hm⟩ := pb_get hm
      obtain ⟨u34, f34, r34⟩ := A2.at h32 e34
      obtain rfl : u34 = V.int t34 := r34
      obtain ⟨c35, hm⟩ := pb_rng hm
      refine ⟨_, rfl, _, _, _, _, rfl, rfl, SqT.of (w33.same _ _ q2), rfl, _, _, rfl, rfl, _, rfl, _, _, _, _, rfl, rfl, SqL.of (w33.get (pre := [])), f34, _, rfl, c35.2.2.1, c35.2.2.2, ?_⟩
      have w36 : W F28 _ ((a_pot, .lst vs10) :: os) := w33.drop (pre := [])
      refine forX (tw_rng0 (j := t34)) hm (fun (g31 : (List Int)) σ H' => ∃ (F' : Hp) (vs31_0 : List V) (o31_9 : Option V) (o31_10 : Option V) (o31_11 : Option V) (o31_12 : Option V) (o31_8 : Option V), σ = [some (.ref a_pot), some (.ref a2), some (.ref a4), some (.ref a6), some (.str x_kind), some (.ref p7), some (.ref p10), some (.ref p19), o31_8, o31_9, o31_10, o31_11, o31_12, none, none] ∧ Same F28 F' ∧ W F' H' ((a_pot, .lst vs31_0) :: os) ∧ A2 (rep K F') vs31_0 g31) ⟨_, _, _, _, _, _, _, rfl, Same.refl _, w36, h10⟩ (fun _ _ _ _ => trivial) ?_ ?_
      · -- a turn
        intro b31 g31 x31 σ31 H31 H31' N31 B31 P31 hI hy hN31 hB31 hZ31 hm
        obtain ⟨F31, vs31_0, o31_9, o31_10, o31_11, o31_12, o31_8, rfl, s31, w31, h31_0⟩ := hI
        replace q2 := s31 _ _ q2
        replace h3 := A2.mono s31 h3
        replace q3 := s31 _ _ q3
        replace q4 := s31 _ _ q4
        replace h5 := A2.mono s31 h5
        replace q5 := s31 _ _ q5
        replace h6 := A2.mono s31 h6
        replace q6 := s31 _ _ q6
        replace g7 := A2.mono s31 g7
        replace q9 := s31 _ _ q9
        replace g10 := A2.mono s31 g10
        replace q12 := s31 _ _ q12
        replace h18 := A2.mono s31 h18
        replace q20 := s31 _ _ q20
        replace q23 := s31 _ _ q23
        replace h23 := A2.mono s31 h23
        replace q25 := s31 _ _ q25
        replace h25 := A2.mono s31 h25
        replace q27 := s31 _ _ q27
        replace h27 := A2.mono s31 h27
        replace q29 := s31 _ _ q29
        replace h29 := A2.mono s31 h29
        replace sF := sF.trans s31
        obtain ⟨rfl, rfl⟩ := hy
        refine ⟨_, rfl, _, rfl, _, rfl, _, _, _, rfl, .inl (SqL.of (w31.same _ _ q9)), g7.length, _, _, _, _, _, _, rfl, w31, h31_0, ?_⟩
        refine (post_bind hm).mono (fun y37 hm v37 vs37 F37 H37 w37 s37 r37 h37 => ?_) (fun _ z => z)
        replace q2 := s37 _ _ q2
        replace h3 := A2.mono s37 h3
        replace q3 := s37 _ _ q3
        replace q4 := s37 _ _ q4
        replace h5 := A2.mono s37 h5
        replace q5 := s37 _ _ q5
        replace h6 := A2.mono s37 h6
        replace q6 := s37 _ _ q6
        replace g7 := A2.mono s37 g7
        replace q9 := s37 _ _ q9
        replace g10 := A2.mono s37 g10
        replace q12 := s37 _ _ q12
        replace h18 := A2.mono s37 h18
        replace q20 := s37 _ _ q20
        replace sF := sF.trans s37
        obtain rfl : v37 = V.int y37.1 := r37
        obtain ⟨t38, e38, hm⟩ := pb_get hm
        obtain ⟨u38, f38, r38⟩ := A2.at g7 e38
        refine ⟨_, _, _, _, rfl, rfl, SqL.of (w37.same _ _ q9), f38, _, rfl, _, rfl, _, rfl, _, _, _, rfl, .inl (SqL.of (w37.same _ _ q9)), g7.length, _, _, _, _, _, _, rfl, w37, h37, ?_⟩
        refine (post_bind hm).mono (fun y40 hm v40 vs40 F40 H40 w40 s40 r40 h40 => ?_) (fun _ z => z)
        replace q2 := s40 _ _ q2
        replace h3 := A2.mono s40 h3
        replace q3 := s40 _ _ q3
        replace q4 := s40 _ _ q4
        replace h5 := A2.mono s40 h5
        replace q5 := s40 _ _ q5
        replace h6 := A2.mono s40 h6
        replace q6 := s40 _ _ q6
        replace g7 := A2.mono s40 g7
        replace q9 := s40 _ _ q9
        replace g10 := A2.mono s40 g10
        replace q12 := s40 _ _ q12
        replace h18 := A2.mono s40 h18
        replace q20 := s40 _ _ q20
        replace r38 := Rep.mono s40 r38
        replace sF := sF.trans s40
        obtain rfl : v40 = V.int y40.1 := r40
        obtain ⟨t41, e41, hm⟩ := pb_get hm
        obtain ⟨u41, f41, r41⟩ := A2.at g7 e41
        refine ⟨_, _, _, _, rfl, rfl, SqL.of (w40.same _ _ q9), f41, _, rfl, _, rfl, _, rfl, _, rfl, _, _, _, (x_order : (List Int)), _, (t38 : Thing), rfl, w40, (rep_lst q6 h6), r38, ?_⟩
        refine (post_bind hm).mono (fun y43 hm v43 F43 H43 w43 s43 r43 => ?_) (fun _ z => z)
        replace q2 := s43 _ _ q2
        replace h3 := A2.mono s43 h3
        replace q3 := s43 _ _ q3
        replace q4 := s43 _ _ q4
        replace h5 := A2.mono s43 h5
        replace q5 := s43 _ _ q5
        replace h6 := A2.mono s43 h6
        replace q6 := s43 _ _ q6
        replace g7 := A2.mono s43 g7
        replace q9 := s43 _ _ q9
        replace g10 := A2.mono s43 g10
        replace q12 := s43 _ _ q12
        replace h18 := A2.mono s43 h18
        replace q20 := s43 _ _ q20
        replace r38 := Rep.mono s43 r38
        replace r41 := Rep.mono s43 r41
        replace h40 := A2.mono s43 h40
        replace sF := sF.trans s43
        refine ⟨_, _, _, (x_other : (Int × (Tup (Int × Int)))), _, ((sortI ys13) : (List Int)), _, (y43 : Thing), rfl, w43, (rep_pair q4 rep_i (rep_tup q5 h5)), (rep_lst q20 h18), r43, ?_⟩
        refine (post_bind hm).mono (fun y45 hm p45 us45 F45 H45 w45 s45 g45 => ?_) (fun _ z => z)
        replace q2 := s45 _ _ q2
        replace h3 := A2.mono s45 h3
        replace q3 := s45 _ _ q3
        replace q4 := s45 _ _ q4
        replace h5 := A2.mono s45 h5
        replace q5 := s45 _ _ q5
        replace h6 := A2.mono s45 h6
        replace q6 := s45 _ _ q6
        replace g7 := A2.mono s45 g7
        replace q9 := s45 _ _ q9
        replace g10 := A2.mono s45 g10
        replace q12 := s45 _ _ q12
        replace h18 := A2.mono s45 h18
        replace q20 := s45 _ _ q20
        replace r38 := Rep.mono s45 r38
        replace r41 := Rep.mono s45 r41
        replace h40 := A2.mono s45 h40
        replace r43 := Rep.mono s45 r43
        replace sF := sF.trans s45
        have h47 : A2 (rep K F45) ((sortI y45).map V.int) (sortI y45) := A2.of_ints
        refine ⟨_, _, rfl, ints_q (SqL.of (w45.get (pre := []))) g45, fun p48 n48 => ?_⟩
        have w48 : W F45 _ ((p48, .lst ((sortI y45).map V.int)) :: (p45, .lst us45) :: (a_pot, .lst vs40) :: os) := w45.new n48
        refine ⟨_, rfl, _, rfl, _, rfl, _, _, _, (x_web : (Int × (Tup (Int × Int)))), _, (y10.1 : (List Int)), _, (t38 : Thing), rfl, w48, (rep_pair q2 rep_i (rep_tup q3 h3)), (rep_lst q12 g10), r38, ?_⟩
        refine (post_bind hm).mono (fun y49 hm p49 us49 F49 H49 w49 s49 g49 => ?_) (fun _ z => z)
        replace q2 := s49 _ _ q2
        replace h3 := A2.mono s49 h3
        replace q3 := s49 _ _ q3
        replace q4 := s49 _ _ q4
        replace h5 := A2.mono s49 h5
        replace q5 := s49 _ _ q5
        replace h6 := A2.mono s49 h6
        replace q6 := s49 _ _ q6
        replace g7 := A2.mono s49 g7
        replace q9 := s49 _ _ q9
        replace g10 := A2.mono s49 g10
        replace q12 := s49 _ _ q12
        replace h18 := A2.mono s49 h18
        replace q20 := s49 _ _ q20
        replace r38 := Rep.mono s49 r38
        replace r41 := Rep.mono s49 r41
        replace h40 := A2.mono s49 h40
        replace r43 := Rep.mono s49 r43
        replace g45 := A2.mono s49 g45
        replace h47 := A2.mono s49 h47
        replace sF := sF.trans s49
        have h51 : A2 (rep K F49) ((sortI y49).map V.int) (sortI y49) := A2.of_ints
        refine ⟨_, _, rfl, ints_q (SqL.of (w49.get (pre := []))) g49, fun p52 n52 => ?_⟩
        have w52 : W F49 _ ((p52, .lst ((sortI y49).map V.int)) :: (p49, .lst us49) :: (p48, .lst ((sortI y45).map V.int)) :: (p45, .lst us45) :: (a_pot, .lst vs40) :: os) := w49.new n52
        refine ⟨((sortI y45) : (List Int)), ((sortI y49) : (List Int)), (rep_own (pre := [_, _]) w52 h47), (rep_own (pre := []) w52 h51), _, rfl, ?_⟩
        have w53 : W F49 _ ((p49, .lst us49) :: (p48, .lst ((sortI y45).map V.int)) :: (p45, .lst us45) :: (a_pot, .lst vs40) :: os) := w52.drop (pre := [])
        have w54 : W F49 _ ((p48, .lst ((sortI y45).map V.int)) :: (p45, .lst us45) :: (a_pot, .lst vs40) :: os) := w53.drop (pre := [])
        have w55 : W F49 _ ((p45, .lst us45) :: (a_pot, .lst vs40) :: os) := w54.drop (pre := [])
        have w56 : W F49 _ ((a_pot, .lst vs40) :: os) := w55.drop (pre := [])
        refine post_ite hm (fun k57 hm => ?_) (fun k57 hm => ?_)
        · skip
          have hm := hZ31 _ (post_ok hm)
          exact (post_ok hm) _ _ _ _ w56 sF rep_b h40
        · skip
          refine ⟨_, rfl, _, rfl, (t38 : Thing), (t41 : Thing), (Rep.mono w56.same r38), (Rep.mono w56.same r41), _, rfl, ?_⟩
          refine post_ite hm (fun k58 hm => ?_) (fun k58 hm => ?_)
          · skip
            refine ⟨_, rfl, _, rfl, _, rfl, _, _, _, (x_order : (List Int)), _, (t38 : Thing), rfl, w56, (rep_lst q6 h6), r38, ?_⟩
            refine (post_bind hm).mono (fun y59 hm v59 F59 H59 w59 s59 r59 => ?_) (fun _ z => z)
            replace q2 := s59 _ _ q2
            replace h3 := A2.mono s59 h3
            replace q3 := s59 _ _ q3
            replace q4 := s59 _ _ q4
            replace h5 := A2.mono s59 h5
            replace q5 := s59 _ _ q5
            replace h6 := A2.mono s59 h6
            replace q6 := s59 _ _ q6
            replace g7 := A2.mono s59 g7
            replace q9 := s59 _ _ q9
            replace g10 := A2.mono s59 g10
            replace q12 := s59 _ _ q12
            replace h18 := A2.mono s59 h18
            replace q20 := s59 _ _ q20
            replace r38 := Rep.mono s59 r38
            replace r41 := Rep.mono s59 r41
            replace h40 := A2.mono s59 h40
            replace r43 := Rep.mono s59 r43
            replace sF := sF.trans s59
            refine ⟨_, rfl, _, rfl, _, _, _, (x_order : (List Int)), _, (t41 : Thing), rfl, w59, (rep_lst q6 h6), r41, ?_⟩
            refine (post_bind hm).mono (fun y61 hm v61 F61 H61 w61 s61 r61 => ?_) (fun _ z => z)
            replace q2 := s61 _ _ q2
            replace h3 := A2.mono s61 h3
            replace q3 := s61 _ _ q3
            replace q4 := s61 _ _ q4
            replace h5 := A2.mono s61 h5
            replace q5 := s61 _ _ q5
            replace h6 := A2.mono s61 h6
            replace q6 := s61 _ _ q6
            replace g7 := A2.mono s61 g7
            replace q9 := s61 _ _ q9
            replace g10 := A2.mono s61 g10
            replace q12 := s61 _ _ q12
            replace h18 := A2.mono s61 h18
            replace q20 := s61 _ _ q20
            replace r38 := Rep.mono s61 r38
            replace r41 := Rep.mono s61 r41
            replace h40 := A2.mono s61 h40
            replace r43 := Rep.mono s61 r43
            replace r59 := Rep.mono s61 r59
            replace sF := sF.trans s61
            refine ⟨_, _, _, (x_other : (Int × (Tup (Int × Int)))), _, (y59 : Thing), _, (y61 : Thing), rfl, w61, (rep_pair q4 rep_i (rep_tup q5 h5)), r59, r61, ?_⟩
            refine (post_bind hm).mono (fun y63 hm p63 us63 F63 H63 w63 s63 g63 => ?_) (fun _ z => z)
            replace q2 := s63 _ _ q2
            replace h3 := A2.mono s63 h3
            replace q3 := s63 _ _ q3
            replace q4 := s63 _ _ q4
            replace h5 := A2.mono s63 h5
            replace q5 := s63 _ _ q5
            replace h6 := A2.mono s63 h6
            replace q6 := s63 _ _ q6
            replace g7 := A2.mono s63 g7
            replace q9 := s63 _ _ q9
            replace g10 := A2.mono s63 g10
            replace q12 := s63 _ _ q12
            replace h18 := A2.mono s63 h18
            replace q20 := s63 _ _ q20
            replace r38 := Rep.mono s63 r38
            replace r41 := Rep.mono s63 r41
            replace h40 := A2.mono s63 h40
            replace r43 := Rep.mono s63 r43
            replace r59 := Rep.mono s63 r59
            replace r61 := Rep.mono s63 r61
            replace sF := sF.trans s63
            obtain ⟨F65, s65, w65, q65⟩ : ∃ F', Same F63 F' ∧ W F' _ ((a_pot, .lst vs40) :: os) ∧ F' p63 = some (.lst us63) := w63.freezeE (pre := [])
            replace q2 := s65 _ _ q2
            replace h3 := A2.mono s65 h3
            replace q3 := s65 _ _ q3
            replace q4 := s65 _ _ q4
            replace h5 := A2.mono s65 h5
            replace q5 := s65 _ _ q5
            replace h6 := A2.mono s65 h6
            replace q6 := s65 _ _ q6
            replace g7 := A2.mono s65 g7
            replace q9 := s65 _ _ q9
            replace g10 := A2.mono s65 g10
            replace q12 := s65 _ _ q12
            replace h18 := A2.mono s65 h18
            replace q20 := s65 _ _ q20
            replace r38 := Rep.mono s65 r38
            replace r41 := Rep.mono s65 r41
            replace h40 := A2.mono s65 h40
            replace r43 := Rep.mono s65 r43
            replace r59 := Rep.mono s65 r59
            replace r61 := Rep.mono s65 r61
            replace g63 := A2.mono s65 g63
            replace sF := sF.trans s65
            refine ⟨_, rfl, _, rfl, _, rfl, _, rfl, _, _, _, (x_web : (Int × (Tup (Int × Int)))), _, (t38 : Thing), _, (t41 : Thing), rfl, w65, (rep_pair q2 rep_i (rep_tup q3 h3)), r38, r41, ?_⟩
            refine (post_bind hm).mono (fun y66 hm p66 us66 F66 H66 w66 s66 g66 => ?_) (fun _ z => z)
            replace q2 := s66 _ _ q2
            replace h3 := A2.mono s66 h3
            replace q3 := s66 _ _ q3
            replace q4 := s66 _ _ q4
            replace h5 := A2.mono s66 h5
            replace q5 := s66 _ _ q5
            replace h6 := A2.mono s66 h6
            replace q6 := s66 _ _ q6
            replace g7 := A2.mono s66 g7
            replace q9 := s66 _ _ q9
            replace g10 := A2.mono s66 g10
            replace q12 := s66 _ _ q12
            replace h18 := A2.mono s66 h18
            replace q20 := s66 _ _ q20
            replace r38 := Rep.mono s66 r38
            replace r41 := Rep.mono s66 r41
            replace g63 := A2.mono s66 g63
            replace q65 := s66 _ _ q65
            replace h40 := A2.mono s66 h40
            replace sF := sF.trans s66
            obtain ⟨F68, s68, w68, q68⟩ : ∃ F', Same F66 F' ∧ W F' _ ((a_pot, .lst vs40) :: os) ∧ F' p66 = some (.lst us66) := w66.freezeE (pre := [])
            replace q2 := s68 _ _ q2
            replace h3 := A2.mono s68 h3
            replace q3 := s68 _ _ q3
            replace q4 := s68 _ _ q4
            replace h5 := A2.mono s68 h5
            replace q5 := s68 _ _ q5
            replace h6 := A2.mono s68 h6
            replace q6 := s68 _ _ q6
            replace g7 := A2.mono s68 g7
            replace q9 := s68 _ _ q9
            replace g10 := A2.mono s68 g10
            replace q12 := s68 _ _ q12
            replace h18 := A2.mono s68 h18
            replace q20 := s68 _ _ q20
            replace r38 := Rep.mono s68 r38
            replace r41 := Rep.mono s68 r41
            replace g63 := A2.mono s68 g63
            replace q65 := s68 _ _ q65
            replace h40 := A2.mono s68 h40
            replace g66 := A2.mono s68 g66
            replace sF := sF.trans s68
            refine ⟨_, rfl, ⟨_, SqL.of (w68.same _ _ q68)⟩, fun D69 nD69 => ?_⟩
            refine lcM (K := K) (tw_list (a := p66) g66) hm w68 nD69 (fun F' H' acc s w => SqL.of (w.same _ _ (s _ _ q68))) ?_ ?_
            · -- one turn
              intro b69 x69 F69 H69 H69' acc69 N69 P69 s69 w69 y69 hN69 hm
              replace q2 := s69 _ _ q2
              replace h3 := A2.mono s69 h3
              replace q3 := s69 _ _ q3
              replace q4 := s69 _ _ q4
              replace h5 := A2.mono s69 h5
              replace q5 := s69 _ _ q5
              replace h6 := A2.mono s69 h6
              replace q6 := s69 _ _ q6
              replace g7 := A2.mono s69 g7
              replace q9 := s69 _ _ q9
              replace g10 := A2.mono s69 g10
              replace q12 := s69 _ _ q12
              replace h18 := A2.mono s69 h18
              replace q20 := s69 _ _ q20
              replace r38 := Rep.mono s69 r38
              replace r41 := Rep.mono s69 r41
              replace g63 := A2.mono s69 g63
              replace q65 := s69 _ _ q65
              replace h40 := A2.mono s69 h40
              replace g66 := A2.mono s69 g66
              replace q68 := s69 _ _ q68
              replace sF := sF.trans s69
              obtain ⟨rfl, r71⟩ := y69
              obtain rfl : x69 = V.int b69 := r71
              obtain ⟨t72, e72, hm⟩ := pb_get hm
              obtain ⟨u72, f72, r72⟩ := A2.at h6 e72
              obtain rfl : u72 = V.int t72 := r72
              exact ⟨rfl, _, rfl, _, rfl, _, _, _, _, rfl, rfl, SqL.of (w69.same _ _ q6), f72, hN69 _ (post_ok hm) _ _ _ w69 (Same.refl _) rep_i⟩
            intro us69 F69 H69 ys69 s69 w69 gg69 hm
            replace q2 := s69 _ _ q2
            replace h3 := A2.mono s69 h3
            replace q3 := s69 _ _ q3
            replace q4 := s69 _ _ q4
            replace h5 := A2.mono s69 h5
            replace q5 := s69 _ _ q5
            replace h6 := A2.mono s69 h6
            replace q6 := s69 _ _ q6
            replace g7 := A2.mono s69 g7
            replace q9 := s69 _ _ q9
            replace g10 := A2.mono s69 g10
            replace q12 := s69 _ _ q12
            replace h18 := A2.mono s69 h18
            replace q20 := s69 _ _ q20
            replace r38 := Rep.mono s69 r38
            replace r41 := Rep.mono s69 r41
            replace g63 := A2.mono s69 g63
            replace q65 := s69 _ _ q65
            replace h40 := A2.mono s69 h40
            replace g66 := A2.mono s69 g66
            replace q68 := s69 _ _ q68
            replace sF := sF.trans s69
            have h74 : A2 (rep K F69) ((sortI ys69).map V.int) (sortI ys69) := A2.of_ints
            refine ⟨_, _, rfl, ints_q (SqL.of (w69.get (pre := []))) gg69, fun p75 n75 => ?_⟩
            have w75 : W F69 _ ((p75, .lst ((sortI ys69).map V.int)) :: (D69, .lst us69) :: (a_pot, .lst vs40) :: os) := w69.new n75
            refine ⟨(y63 : (List Int)), ((sortI ys69) : (List Int)), (Rep.mono w75.same (rep_lst q65 g63)), (rep_own (pre := []) w75 h74), _, rfl, ?_⟩
            have w76 : W F69 _ ((D69, .lst us69) :: (a_pot, .lst vs40) :: os) := w75.drop (pre := [])
            have w77 : W F69 _ ((a_pot, .lst vs40) :: os) := w76.drop (pre := [])
            refine post_ite hm (fun k78 hm => ?_) (fun k78 hm => ?_)
            · skip
              have hm := hZ31 _ (post_ok hm)
              exact (post_ok hm) _ _ _ _ w77 sF rep_b h40
            · skip
              refine ⟨_, rfl, _, rfl, _, _, _, (x_order : (List Int)), _, (t38 : Thing), rfl, w77, (rep_lst q6 h6), r38, ?_⟩
              refine (post_bind hm).mono (fun y79 hm v79 F79 H79 w79 s79 r79 => ?_) (fun _ z => z)
              replace q2 := s79 _ _ q2
              replace h3 := A2.mono s79 h3
              replace q3 := s79 _ _ q3
              replace q4 := s79 _ _ q4
              replace h5 := A2.mono s79 h5
              replace q5 := s79 _ _ q5
              replace h6 := A2.mono s79 h6
              replace q6 := s79 _ _ q6
              replace g7 := A2.mono s79 g7
              replace q9 := s79 _ _ q9
              replace g10 := A2.mono s79 g10
              replace q12 := s79 _ _ q12
              replace h18 := A2.mono s79 h18
              replace q20 := s79 _ _ q20
              replace r38 := Rep.mono s79 r38
              replace r41 := Rep.mono s79 r41
              replace g63 := A2.mono s79 g63
              replace q65 := s79 _ _ q65
              replace h40 := A2.mono s79 h40
              replace g66 := A2.mono s79 g66
              replace q68 := s79 _ _ q68
              replace sF := sF.trans s79
              refine ⟨_, rfl, _, rfl, _, _, _, (x_order : (List Int)), _, (t41 : Thing), rfl, w79, (rep_lst q6 h6), r41, ?_⟩
              refine (post_bind hm).mono (fun y81 hm v81 F81 H81 w81 s81 r81 => ?_) (fun _ z => z)
              replace q2 := s81 _ _ q2
              replace h3 := A2.mono s81 h3
              replace q3 := s81 _ _ q3
              replace q4 := s81 _ _ q4
              replace h5 := A2.mono s81 h5
              replace q5 := s81 _ _ q5
              replace h6 := A2.mono s81 h6
              replace q6 := s81 _ _ q6
              replace g7 := A2.mono s81 g7
              replace q9 := s81 _ _ q9
              replace g10 := A2.mono s81 g10
              replace q12 := s81 _ _ q12
              replace h18 := A2.mono s81 h18
              replace q20 := s81 _ _ q20
              replace r38 := Rep.mono s81 r38
              replace r41 := Rep.mono s81 r41
              replace g63 := A2.mono s81 g63
              replace q65 := s81 _ _ q65
              replace h40 := A2.mono s81 h40
              replace g66 := A2.mono s81 g66
              replace q68 := s81 _ _ q68
              replace r79 := Rep.mono s81 r79
              replace sF := sF.trans s81
              have h83 : A2 (rep K F81) [v79, v81] ([y79, y81] : (List Thing)) := .cons r79 (.cons r81 (.nil))
              refine ⟨(by show 2 ≤ sizeLine; decide), fun p84 n84 => ?_⟩
              have w84 : W F81 _ ((p84, .lst [v79, v81]) :: (a_pot, .lst vs40) :: os) := w81.new n84
              obtain ⟨t85, e85, hm⟩ := pb_get hm
              obtain ⟨u85, f85, r85⟩ := A2.at h6 e85
              obtain rfl : u85 = V.int t85 := r85
              obtain ⟨t86, e86, hm⟩ := pb_get hm
              obtain ⟨u86, f86, r86⟩ := A2.at h6 e86
              obtain rfl : u86 = V.int t86 := r86
              have h87 : A2 (rep K F81) [(.int t85), (.int t86)] ([(Thing.pl t85), (Thing.pl t86)] : (List Thing)) := .cons rep_pl (.cons rep_pl (.nil))
              refine ⟨_, rfl, _, _, _, _, rfl, rfl, SqL.of (w84.same _ _ q6), f85, _, rfl, _, rfl, _, _, _, _, rfl, rfl, SqT.of (w84.same _ _ q2), rfl, _, _, rfl, rfl, _, _, _, _, rfl, rfl, SqL.of (w84.same _ _ q6), f86, (by show 2 ≤ sizeLine; decide), fun p88 n88 => ?_⟩
              have w88 : W F81 _ ((p88, .lst [(.int t85), (.int t86)]) :: (p84, .lst [v79, v81]) :: (a_pot, .lst vs40) :: os) := w84.new n88
              obtain ⟨F89, s89, w89, q89⟩ : ∃ F', Same F81 F' ∧ W F' _ ((p88, .lst [(.int t85), (.int t86)]) :: (a_pot, .lst vs40) :: os) ∧ F' p84 = some (.lst [v79, v81]) := w88.freezeE (pre := [_])
              replace q2 := s89 _ _ q2
              replace h3 := A2.mono s89 h3
              replace q3 := s89 _ _ q3
              replace q4 := s89 _ _ q4
              replace h5 := A2.mono s89 h5
              replace q5 := s89 _ _ q5
              replace h6 := A2.mono s89 h6
              replace q6 := s89 _ _ q6
              replace g7 := A2.mono s89 g7
              replace q9 := s89 _ _ q9
              replace g10 := A2.mono s89 g10
              replace q12 := s89 _ _ q12
              replace h18 := A2.mono s89 h18
              replace q20 := s89 _ _ q20
              replace r38 := Rep.mono s89 r38
              replace r41 := Rep.mono s89 r41
              replace g63 := A2.mono s89 g63
              replace q65 := s89 _ _ q65
              replace h40 := A2.mono s89 h40
              replace g66 := A2.mono s89 g66
              replace q68 := s89 _ _ q68
              replace r79 := Rep.mono s89 r79
              replace r81 := Rep.mono s89 r81
              replace h83 := A2.mono s89 h83
              replace h87 := A2.mono s89 h87
              replace sF := sF.trans s89
              obtain ⟨F90, s90, w90, q90⟩ : ∃ F', Same F89 F' ∧ W F' _ ((a_pot, .lst vs40) :: os) ∧ F' p88 = some (.lst [(.int t85), (.int t86)]) := w89.freezeE (pre := [])
              replace q2 := s90 _ _ q2
              replace h3 := A2.mono s90 h3
              replace q3 := s90 _ _ q3
              replace q4 := s90 _ _ q4
              replace h5 := A2.mono s90 h5
              replace q5 := s90 _ _ q5
              replace h6 := A2.mono s90 h6
              replace q6 := s90 _ _ q6
              replace g7 := A2.mono s90 g7
              replace q9 := s90 _ _ q9
              replace g10 := A2.mono s90 g10
              replace q12 := s90 _ _ q12
              replace h18 := A2.mono s90 h18
              replace q20 := s90 _ _ q20
              replace r38 := Rep.mono s90 r38
              replace r41 := Rep.mono s90 r41
              replace g63 := A2.mono s90 g63
              replace q65 := s90 _ _ q65
              replace h40 := A2.mono s90 h40
              replace g66 := A2.mono s90 g66
              replace q68 := s90 _ _ q68
              replace r79 := Rep.mono s90 r79
              replace r81 := Rep.mono s90 r81
              replace h83 := A2.mono s90 h83
              replace h87 := A2.mono s90 h87
              replace q89 := s90 _ _ q89
              replace sF := sF.trans s90
              have h91 : A2 (rep K F90) [(.ref p84), (.ref p88)] ([([y79, y81] : (List Thing)), ([(Thing.pl t85), (Thing.pl t86)] : (List Thing))] : (List (List Thing))) := .cons (rep_lst q89 h83) (.cons (rep_lst q90 h87) (.nil))
              refine ⟨(by show 2 ≤ sizeLine; decide), fun p92 n92 => ?_⟩
              have w92 : W F90 _ ((p92, .lst [(.ref p84), (.ref p88)]) :: (a_pot, .lst vs40) :: os) := w90.new n92
              obtain ⟨F93, s93, w93, q93⟩ : ∃ F', Same F90 F' ∧ W F' _ ((a_pot, .lst vs40) :: os) ∧ F' p92 = some (.lst [(.ref p84), (.ref p88)]) := w92.freezeE (pre := [])
              replace q2 := s93 _ _ q2
              replace h3 := A2.mono s93 h3
              replace q3 := s93 _ _ q3
              replace q4 := s93 _ _ q4
              replace h5 := A2.mono s93 h5
              replace q5 := s93 _ _ q5
              replace h6 := A2.mono s93 h6
              replace q6 := s93 _ _ q6
              replace g7 := A2.mono s93 g7
              replace q9 := s93 _ _ q9
              replace g10 := A2.mono s93 g10
              replace q12 := s93 _ _ q12
              replace h18 := A2.mono s93 h18
              replace q20 := s93 _ _ q20
              replace r38 := Rep.mono s93 r38
              replace r41 := Rep.mono s93 r41
              replace g63 := A2.mono s93 g63
              replace q65 := s93 _ _ q65
              replace h40 := A2.mono s93 h40
              replace g66 := A2.mono s93 g66
              replace q68 := s93 _ _ q68
              replace r79 := Rep.mono s93 r79
              replace r81 := Rep.mono s93 r81
              replace h83 := A2.mono s93 h83
              replace h87 := A2.mono s93 h87
              replace q89 := s93 _ _ q89
              replace q90 := s93 _ _ q90
              replace h91 := A2.mono s93 h91
              replace sF := sF.trans s93
              refine ⟨_, rfl, _, rfl, _, rfl, _, _, _, (x_other : (Int × (Tup (Int × Int)))), _, _, (([([y79, y81] : (List Thing)), ([(Thing.pl t85), (Thing.pl t86)] : (List Thing))] : (List (List Thing))) : (List (List Thing))), rfl, w93, (rep_pair q4 rep_i (rep_tup q5 h5)), (rep_lst q93 h91), ?_⟩
              refine (post_bind hm).mono (fun y94 hm v94 F94 H94 w94 s94 r94 => ?_) (fun _ z => z)
              replace q2 := s94 _ _ q2
              replace h3 := A2.mono s94 h3
              replace q3 := s94 _ _ q3
              replace q4 := s94 _ _ q4
              replace h5 := A2.mono s94 h5
              replace q5 := s94 _ _ q5
              replace h6 := A2.mono s94 h6
              replace q6 := s94 _ _ q6
              replace g7 := A2.mono s94 g7
              replace q9 := s94 _ _ q9
              replace g10 := A2.mono s94 g10
              replace q12 := s94 _ _ q12
              replace h18 := A2.mono s94 h18
              replace q20 := s94 _ _ q20
              replace r38 := Rep.mono s94 r38
              replace r41 := Rep.mono s94 r41
              replace g63 := A2.mono s94 g63
              replace q65 := s94 _ _ q65
              replace h91 := A2.mono s94 h91
              replace q93 := s94 _ _ q93
              replace h40 := A2.mono s94 h40
              replace sF := sF.trans s94
              have h96 : A2 (rep K F94) [u38, u41] ([t38, t41] : (List Thing)) := .cons r38 (.cons r41 (.nil))
              refine ⟨_, rfl, _, rfl, _, rfl, _, rfl, (by show 2 ≤ sizeLine; decide), fun p97 n97 => ?_⟩
              have w97 : W F94 _ ((p97, .lst [u38, u41]) :: (a_pot, .lst vs40) :: os) := w94.new n97
              have h98 : A2 (rep K F94) [(.int 0), (.int (x_web.1 - (1 : Int)))] ([(Thing.pl (0 : Int)), (Thing.pl (x_web.1 - (1 : Int)))] : (List Thing)) := .cons rep_pl (.cons rep_pl (.nil))
              refine ⟨_, rfl, _, _, _, _, rfl, rfl, SqT.of (w97.same _ _ q2), rfl, _, _, rfl, rfl, (by show 2 ≤ sizeLine; decide), fun p99 n99 => ?_⟩
              have w99 : W F94 _ ((p99, .lst [(.int 0), (.int (x_web.1 - (1 : Int)))]) :: (p97, .lst [u38, u41]) :: (a_pot, .lst vs40) :: os) := w97.new n99
              obtain ⟨F100, s100, w100, q100⟩ : ∃ F', Same F94 F' ∧ W F' _ ((p99, .lst [(.int 0), (.int (x_web.1 - (1 : Int)))]) :: (a_pot, .lst vs40) :: os) ∧ F' p97 = some (.lst [u38, u41]) := w99.freezeE (pre := [_])
              replace q2 := s100 _ _ q2
              replace h3 := A2.mono s100 h3
              replace q3 := s100 _ _ q3
              replace q4 := s100 _ _ q4
              replace h5 := A2.mono s100 h5
              replace q5 := s100 _ _ q5
              replace h6 := A2.mono s100 h6
              replace q6 := s100 _ _ q6
              replace g7 := A2.mono s100 g7
              replace q9 := s100 _ _ q9
              replace g10 := A2.mono s100 g10
              replace q12 := s100 _ _ q12
              replace h18 := A2.mono s100 h18
              replace q20 := s100 _ _ q20
              replace r38 := Rep.mono s100 r38
              replace r41 := Rep.mono s100 r41
              replace g63 := A2.mono s100 g63
              replace q65 := s100 _ _ q65
              replace h91 := A2.mono s100 h91
              replace q93 := s100 _ _ q93
              replace h40 := A2.mono s100 h40
              replace r94 := Rep.mono s100 r94
              replace h96 := A2.mono s100 h96
              replace h98 := A2.mono s100 h98
              replace sF := sF.trans s100
              obtain ⟨F101, s101, w101, q101⟩ : ∃ F', Same F100 F' ∧ W F' _ ((a_pot, .lst vs40) :: os) ∧ F' p99 = some (.lst [(.int 0), (.int (x_web.1 - (1 : Int)))]) := w100.freezeE (pre := [])
              replace q2 := s101 _ _ q2
              replace h3 := A2.mono s101 h3
              replace q3 := s101 _ _ q3
              replace q4 := s101 _ _ q4
              replace h5 := A2.mono s101 h5
              replace q5 := s101 _ _ q5
              replace h6 := A2.mono s101 h6
              replace q6 := s101 _ _ q6
              replace g7 := A2.mono s101 g7
              replace q9 := s101 _ _ q9
              replace g10 := A2.mono s101 g10
              replace q12 := s101 _ _ q12
              replace h18 := A2.mono s101 h18
              replace q20 := s101 _ _ q20
              replace r38 := Rep.mono s101 r38
              replace r41 := Rep.mono s101 r41
              replace g63 := A2.mono s101 g63
              replace q65 := s101 _ _ q65
              replace h91 := A2.mono s101 h91
              replace q93 := s101 _ _ q93
              replace h40 := A2.mono s101 h40
              replace r94 := Rep.mono s101 r94
              replace h96 := A2.mono s101 h96
              replace h98 := A2.mono s101 h98
              replace q100 := s101 _ _ q100
              replace sF := sF.trans s101
              have h102 : A2 (rep K F101) [(.ref p97), (.ref p99)] ([([t38, t41] : (List Thing)), ([(Thing.pl (0 : Int)), (Thing.pl (x_web.1 - (1 : Int)))] : (List Thing))] : (List (List Thing))) := .cons (rep_lst q100 h96) (.cons (rep_lst q101 h98) (.nil))
              refine ⟨(by show 2 ≤ sizeLine; decide), fun p103 n103 => ?_⟩
              have w103 : W F101 _ ((p103, .lst [(.ref p97), (.ref p99)]) :: (a_pot, .lst vs40) :: os) := w101.new n103
              obtain ⟨F104, s104, w104, q104⟩ : ∃ F', Same F101 F' ∧ W F' _ ((a_pot, .lst vs40) :: os) ∧ F' p103 = some (.lst [(.ref p97), (.ref p99)]) := w103.freezeE (pre := [])
              replace q2 := s104 _ _ q2
              replace h3 := A2.mono s104 h3
              replace q3 := s104 _ _ q3
              replace q4 := s104 _ _ q4
              replace h5 := A2.mono s104 h5
              replace q5 := s104 _ _ q5
              replace h6 := A2.mono s104 h6
              replace q6 := s104 _ _ q6
              replace g7 := A2.mono s104 g7
              replace q9 := s104 _ _ q9
              replace g10 := A2.mono s104 g10
              replace q12 := s104 _ _ q12
              replace h18 := A2.mono s104 h18
              replace q20 := s104 _ _ q20
              replace r38 := Rep.mono s104 r38
              replace r41 := Rep.mono s104 r41
              replace g63 := A2.mono s104 g63
              replace q65 := s104 _ _ q65
              replace h91 := A2.mono s104 h91
              replace q93 := s104 _ _ q93
              replace h40 := A2.mono s104 h40
              replace r94 := Rep.mono s104 r94
              replace h96 := A2.mono s104 h96
              replace h98 := A2.mono s104 h98
              replace q100 := s104 _ _ q100
              replace q101 := s104 _ _ q101
              replace h102 := A2.mono s104 h102
              replace sF := sF.trans s104
              refine ⟨_, _, _, (x_web : (Int × (Tup (Int × Int)))), _, _, (([([t38, t41] : (List Thing)), ([(Thing.pl (0 : Int)), (Thing.pl (x_web.1 - (1 : Int)))] : (List Thing))] : (List (List Thing))) : (List (List Thing))), rfl, w104, (rep_pair q2 rep_i (rep_tup q3 h3)), (rep_lst q104 h102), ?_⟩
              refine (post_bind hm).mono (fun y105 hm v105 F105 H105 w105 s105 r105 => ?_) (fun _ z => z)
              replace q2 := s105 _ _ q2
              replace h3 := A2.mono s105 h3
              replace q3 := s105 _ _ q3
              replace q4 := s105 _ _ q4
              replace h5 := A2.mono s105 h5
              replace q5 := s105 _ _ q5
              replace h6 := A2.mono s105 h6
              replace q6 := s105 _ _ q6
              replace g7 := A2.mono s105 g7
              replace q9 := s105 _ _ q9
              replace g10 := A2.mono s105 g10
              replace q12 := s105 _ _ q12
              replace h18 := A2.mono s105 h18
              replace q20 := s105 _ _ q20
              replace r38 := Rep.mono s105 r38
              replace r41 := Rep.mono s105 r41
              replace g63 := A2.mono s105 g63
              replace q65 := s105 _ _ q65
              replace h91 := A2.mono s105 h91
              replace q93 := s105 _ _ q93
              replace h40 := A2.mono s105 h40
              replace r94 := Rep.mono s105 r94
              replace h96 := A2.mono s105 h96
              replace h98 := A2.mono s105 h98
              replace q100 := s105 _ _ q100
              replace q101 := s105 _ _ q101
              replace h102 := A2.mono s105 h102
              replace q104 := s105 _ _ q104
              replace sF := sF.trans s105
              refine ⟨(y94 : (Option Int)), (y105 : (Option Int)), (Rep.mono w105.same r94), (Rep.mono w105.same r105), _, rfl, ?_⟩
              refine post_ite hm (fun k107 hm => ?_) (fun k107 hm => ?_)
              · skip
                have hm := hZ31 _ (post_ok hm)
                exact (post_ok hm) _ _ _ _ w105 sF rep_b h40
              · skip
                exact hN31 _ (post_ok hm) _ _ ⟨_, _, _, _, _, _, _, rfl, (s31.trans (s37.trans (s40.trans (s43.trans (s45.trans (s49.trans (s59.trans (s61.trans (s63.trans (s65.trans (s66.trans (s68.trans (s69.trans (s79.trans (s81.trans (s89.trans (s90.trans (s93.trans (s94.trans (s100.trans (s101.trans (s104.trans s105)))))))))))))))))))))), w105, h40⟩
          · skip
            exact hN31 _ (post_ok hm) _ _ ⟨_, _, _, _, _, _, _, rfl, (s31.trans (s37.trans (s40.trans (s43.trans (s45.trans s49))))), w56, h40⟩
      intro g31 σ31 H31 hI hm
      obtain ⟨F31, vs31_0, o31_9, o31_10, o31_11, o31_12, o31_8, rfl, s31, w31, h31_0⟩ := hI
      replace q2 := s31 _ _ q2
      replace h3 := A2.mono s31 h3
      replace q3 := s31 _ _ q3
      replace q4 := s31 _ _ q4
      replace h5 := A2.mono s31 h5
      replace q5 := s31 _ _ q5
      replace h6 := A2.mono s31 h6
      replace q6 := s31 _ _ q6
      replace g7 := A2.mono s31 g7
      replace q9 := s31 _ _ q9
      replace g10 := A2.mono s31 g10
      replace q12 := s31 _ _ q12
      replace h18 := A2.mono s31 h18
      replace q20 := s31 _ _ q20
      replace q23 := s31 _ _ q23
      replace h23 := A2.mono s31 h23
      replace q25 := s31 _ _ q25
      replace h25 := A2.mono s31 h25
      replace q27 := s31 _ _ q27
      replace h27 := A2.mono s31 h27
      replace q29 := s31 _ _ q29
      replace h29 := A2.mono s31 h29
      replace sF := sF.trans s31
      exact (post_ok hm) _ _ _ _ w31 sF rep_b h31_0
def sp_law (K : Fg) : Sp := fun vs H Q E => ∃ (F : Hp) (os : List (Addr × HO)) (v_script : V) (x_script : Scr), vs = [v_script] ∧ W F H (os) ∧ rep K F v_script x_script ∧ Post (law x_script) (Ret K F os Q) noX
theorem sc_law : FnScope ["script", "k", "cell", "pot", "web", "order", "ties", "tie", "other", "kind"] ["script"] (defScope s_law) := ⟨rfl, rfl, rfl, by decide +kernel, rfl, by decide +kernel, by decide +kernel⟩
set_option maxHeartbeats 40000000 in
theorem ok_law (T : Tx K mg A FD) : FnG P w K mg base CX0 7 (A 55) (FD 55) ["script"] (sp_law K) := by
  refine T.d55.fn.okG sc_law (fun vs H Q E h => ?_) (fun cdv Ar outer s H vs Q E hr hG h => ?_)
  · obtain ⟨F, os, v_script, x_script, rfl, _⟩ := h
    rfl
  · obtain ⟨F0, os, v_script, x_script, rfl, w0, r_script, hm⟩ := h
    have sF : Same F0 F0 := Same.refl _
    obtain ⟨a1, rfl, q1⟩ := r_script
    have h1 : A2 (rep K F0) (x_script.l.map V.int) x_script.l := A2.of_ints
    refine ⟨_, (pss_cons (ps_for PassesOwn.never rfl (pi_k (K := K) (wi := fun K => iEnum K _) rfl (pi_enum (by rfl) T.n_enumerate (pa_cons (pe_call (ok_law_cells T) (hr.mono (by decide)) (by rfl) T.d43.mg T.d43.fn.kp T.d43.b .nil pass0 (pa_cons (pv 0) (pa_cons pe_int pa_nil))) pa_nil))) (pg_k (K := K) (t := fun K => gTup K 2 _) rfl (pg_tup (n := 2) rfl (pgs_cons (pg_name (i := 1) sc_law.nd rfl (Or.inl rfl)) (pgs_cons (pg_name (i := 2) sc_law.nd rfl (Or.inl rfl)) pgs_nil)))) (pss_cons (ps_set (i := 3) sc_law.nd rfl (Or.inl rfl) (pe_call (ok_law_pot T) (hr.mono (by decide)) (by rfl) T.d40.mg T.d40.fn.kp T.d40.b .nil pass0 (pa_cons (pv 2) (pa_cons (pv 1) pa_nil)))) (pss_cons (ps_set (i := 4) sc_law.nd rfl (Or.inl rfl) (pe_call (ok_law_web T) (hr.mono (by decide)) (by rfl) T.d47.mg T.d47.fn.kp T.d47.b .nil pass0 (pa_cons (pv 3) (pa_cons pe_int pa_nil)))) (pss_cons (ps_set (i := 5) sc_law.nd rfl (Or.inl rfl) (pe_call (ok_law_order T) (hr.mono (by decide)) (by rfl) T.d46.mg T.d46.fn.kp T.d46.b .nil pass0 (pa_cons (pv 3) (pa_cons (pe_ix (ix_tupK (K := K) rfl) (pv 4) pe_int (fun _ _ => rfl)) pa_nil)))) (pss_cons (ps_set (i := 6) sc_law.nd rfl (Or.inl rfl) (pe_lst pa_nil)) (pss_cons (ps_for PassesOwn.never rfl (pi_tupK (K := K) rfl (pe_ix (ix_tupK (K := K) rfl) (pv 4) pe_int (fun _ _ => rfl))) (pg_name (i := 7) sc_law.nd rfl (Or.inl rfl)) (pss_one (ps_expr (pe_bm PySem.F.plainAttrs_list PySem.F.slot_list_append PySem.F.type_list_append mt_append (pv 6) (pa_cons (pe_tup (pa_cons (pe_ix (ix_listK (K := K) rfl) (pv 5) (pe_ix (ix_tupK (K := K) rfl) (pv 7) pe_int (fun _ _ => rfl)) (fun _ _ => rfl)) (pa_cons (pe_ix (ix_listK (K := K) rfl) (pv 5) (pe_ix (ix_tupK (K := K) rfl) (pv 7) pe_int (fun _ _ => rfl)) (fun _ _ => rfl)) pa_nil))) pa_nil))))) (pss_cons (ps_set (i := 8) sc_law.nd rfl (Or.inl rfl) (pe_call (ok_made_web T) (hr.mono (by decide)) (by rfl) T.d13.mg T.d13.fn.kp T.d13.b .nil pass0 (pa_cons (pe_ix (ix_tupK (K := K) rfl) (pv 4) pe_int (fun _ _ => rfl)) (pa_cons (pv 6) pa_nil)))) (pss_cons (ps_set (i := 9) sc_law.nd rfl (Or.inl rfl) (pe_call (ok_law_kind T) (hr.mono (by decide)) (by rfl) T.d49.mg T.d49.fn.kp T.d49.b .nil pass0 (pa_cons (pv 3) pa_nil))) (pss_cons (ps_if (pt_not (pt_val (pe_callG (ok_law_same_places T) (hr.mono (by decide)) hG (by rfl) T.d53.mg T.d53.fn.kp T.d53.b .nil pass0 (pa_cons (pv 4) (pa_cons (pv 8) (pa_cons (pv 5) pa_nil)))))) (pss_one (ps_ret pe_bl)) pss_nil) (pss_one (ps_if (PW.pt (pw_and (pt_cmpR (op_neDt (K := K) rfl (List Thing) (by decide) hr.units) (pe_call (ok_things_of T) (hr.mono (by decide)) (by rfl) T.d19.mg T.d19.fn.kp T.d19.b .nil pass0 (pa_cons (pv 4) (pa_cons (pv 9) pa_nil))) (pe_lst pa_nil) (nomark _)) (pw_and1 (pt_not (pt_val (pe_callG (ok_law_same_things T) (hr.mono (by decide)) hG (by rfl) T.d54.mg T.d54.fn.kp T.d54.b .nil pass0 (pa_cons (pv 3) (pa_cons (pv 4) (pa_cons (pv 8) (pa_cons (pv 5) (pa_cons (pv 9) pa_nil))))))))))) (pss_one (ps_ret pe_bl)) pss_nil))))))))))) (pss_one (ps_ret pe_bl))), ?_⟩
    refine ⟨_, rfl, _, _, _, (x_script : Scr), _, rfl, w0, ⟨_, rfl, q1⟩, ?_⟩
    refine (post_bind hm).mono (fun y3 hm p3 us3 F3 H3 w3 s3 g3 => ?_) (fun _ z => z)
    replace q1 := s3.seq q1
    replace h1 := A2.mono s3 h1
    replace sF := sF.trans s3
    obtain ⟨F5, s5, w5, q5⟩ : ∃ F', Same F3 F' ∧ W F' _ (os) ∧ F' p3 = some (.lst us3) := w3.freezeE (pre := [])
    replace q1 := s5.seq q1
    replace h1 := A2.mono s5 h1
    replace g3 := A2.mono s5 g3
    replace sF := sF.trans s5
    refine ⟨_, _, rfl, SqL.of (w5.same _ _ q5), ?_⟩
    refine forX (tw_enum (a := p3) g3) hm (fun (g2 : Unit) σ H' => ∃ (F' : Hp) (o2_3 : Option V) (o2_4 : Option V) (o2_5 : Option V) (o2_6 : Option V) (o2_7 : Option V) (o2_8 : Option V) (o2_9 : Option V) (o2_1 : Option V) (o2_2 : Option V), σ = [some (.ref a1), o2_1, o2_2, o2_3, o2_4, o2_5, o2_6, o2_7, o2_8, o2_9] ∧ Same F5 F' ∧ W F' H' (os)) ⟨_, _, _, _, _, _, _, _, _, _, rfl, Same.refl _, w5⟩ (fun g σ H' hI => by obtain ⟨F', _, _, _, _, _, _, _, _, _, _, s, w⟩ := hI; exact SqL.of (w.same _ _ (s _ _ q5))) ?_ ?_
    · -- a turn
      intro b2 g2 x2 σ2 H2 H2' N2 B2 P2 hI hy hN2 hB2 hZ2 hm
      obtain ⟨F2, o2_3, o2_4, o2_5, o2_6, o2_7, o2_8, o2_9, o2_1, o2_2, rfl, s2, w2⟩ := hI
      replace q1 := s2.seq q1
      replace h1 := A2.mono s2 h1
      replace g3 := A2.mono s2 g3
      replace q5 := s2 _ _ q5
      replace sF := sF.trans s2
      obtain ⟨T6, u6, rfl, n6, rfl, r6⟩ := hy
      obtain ⟨F6, s6, w6, q6⟩ := w2.frzE (o := .tup [.int b2.1, u6]) n6
      replace r6 := Rep.mono s2 r6
      replace q1 := s6.seq q1
      replace h1 := A2.mono s6 h1
      replace g3 := A2.mono s6 g3
      replace q5 := s6 _ _ q5
      replace sF := sF.trans s6
      replace r6 := Rep.mono s6 r6
      obtain rfl : u6 = V.int b2.2 := r6
      refine ⟨_, _, rfl, SqT.of (w6.same _ _ q6), rfl, _, _, rfl, _, _, rfl, rfl, _, rfl, _, rfl, _, _, _, _, rfl, w6, ?_⟩
      refine (post_bind hm).mono (fun y7 hm p7 us7 F7 H7 w7 s7 g7 => ?_) (fun _ z => z)
      replace h1 := A2.mono s7 h1
      replace q1 := s7.seq q1
      replace sF := sF.trans s7
      refine ⟨_, rfl, _, _, _, _, _, _, rfl, w7, g7, ?_⟩
      refine (post_bind hm).mono (fun y9 hm v9 vs9 F9 H9 w9 s9 r9 h9 => ?_) (fun _ z => z)
      replace h1 := A2.mono s9 h1
      replace q1 := s9.seq q1
      replace sF := sF.trans s9
      obtain ⟨a10, u10, z10, rfl, q10, r10a, r10b⟩ := r9
      obtain rfl : u10 = V.int y9.1.1 := r10a
      obtain ⟨a11, vs11, rfl, q11, h11⟩ := r10b
      refine ⟨_, rfl, _, rfl, _, _, _, _, rfl, rfl, SqT.of (w9.same _ _ q10), rfl, _, _, _, _, _, _, rfl, w9, h9, ?_⟩
      refine (post_bind hm).mono (fun y12 hm p12 us12 vs12 F12 H12 w12 s12 g12 h12 => ?_) (fun _ z => z)
      replace h1 := A2.mono s12 h1
      replace q1 := s12.seq q1
      replace q10 := s12 _ _ q10
      replace h11 := A2.mono s12 h11
      replace q11 := s12 _ _ q11
      replace sF := sF.trans s12
      obtain ⟨F14, s14, w14, q14⟩ : ∃ F', Same F12 F' ∧ W F' _ ((p7, .lst vs12) :: os) ∧ F' p12 = some (.lst us12) := w12.freezeE (pre := [])
      replace h1 := A2.mono s14 h1
      replace q1 := s14.seq q1
      replace q10 := s14 _ _ q10
      replace h11 := A2.mono s14 h11
      replace q11 := s14 _ _ q11
      replace h12 := A2.mono s14 h12
      replace g12 := A2.mono s14 g12
      replace sF := sF.trans s14
      have h15 : A2 (rep K F14) [] ([] : (List (Int × Int))) := .nil
      refine ⟨(by show 0 ≤ sizeLine; decide), fun p16 n16 => ?_⟩
      have w16 : W F14 _ ((p16, .lst []) :: (p7, .lst vs12) :: os) := w14.new n16
      refine ⟨_, rfl, _, _, _, _, rfl, rfl, SqT.of (w16.same _ _ q10), rfl, _, rfl, ⟨_, SqT.of (w16.same _ _ q11)⟩, ?_⟩
      refine forS (tw_tup (a := a11) h11) hm (fun (g17 : (List (Int × Int))) σ H' => ∃ (F' : Hp) (vs17_0 : List V) (o17_7 : Option V), σ = [some (.ref a1), some (.int b2.1), some (.int b2.2), some (.ref p7), some (.ref a10), some (.ref p12), some (.ref p16), o17_7, o2_8, o2_9] ∧ Same F14 F' ∧ W F' H' ((p16, .lst vs17_0) :: (p7, .lst vs12) :: os) ∧ A2 (rep K F') vs17_0 g17) ⟨_, _, _, rfl, Same.refl _, w16, h15⟩ (fun g σ H' hI => by obtain ⟨F', _, _, _, s, w, _⟩ := hI; exact SqT.of (w.same _ _ (s _ _ q11))) ?_ ?_
      · -- a turn
        intro b17 g17 x17 σ17 H17 H17' N17 P17 hI hy hN17 hm
        obtain ⟨F17, vs17_0, o17_7, rfl, s17, w17, h17_0⟩ := hI
        replace h1 := A2.mono s17 h1
        replace q1 := s17.seq q1
        replace q10 := s17 _ _ q10
        replace h11 := A2.mono s17 h11
        replace q11 := s17 _ _ q11
        replace g12 := A2.mono s17 g12
        replace q14 := s17 _ _ q14
        replace h12 := A2.mono s17 h12
        replace sF := sF.trans s17
        obtain ⟨rfl, r18⟩ := hy
        replace r18 := Rep.mono s17 r18
        obtain ⟨a19, u19, z19, rfl, q19, r19a, r19b⟩ := r18
        obtain rfl : u19 = V.int b17.1 := r19a
        obtain rfl : z19 = V.int b17.2 := r19b
        obtain ⟨t20, e20, hm⟩ := pb_get hm
        obtain ⟨u20, f20, r20⟩ := A2.at g12 e20
        obtain rfl : u20 = V.int t20 := r20
        obtain ⟨t21, e21, hm⟩ := pb_get hm
        obtain ⟨u21, f21, r21⟩ := A2.at g12 e21
        obtain rfl : u21 = V.int t21 := r21
        refine ⟨_, rfl, .inl ⟨rfl, _, SqL.of (w17.get (pre := []))⟩, _, rfl, _, rfl, _, _, _, _, rfl, rfl, SqT.of (w17.same _ _ q19), rfl, _, _, _, _, rfl, rfl, SqL.of (w17.same _ _ q14), f20, _, rfl, _, rfl, _, _, _, _, rfl, rfl, SqT.of (w17.same _ _ q19), rfl, _, _, _, _, rfl, rfl, SqL.of (w17.same _ _ q14), f21, (by show 2 ≤ sizeLine; decide), fun p22 n22 => ?_⟩
        obtain ⟨F22, s22, w22, q22⟩ := w17.frzE (o := .tup [(.int t20), (.int t21)]) n22
        replace h1 := A2.mono s22 h1
        replace q1 := s22.seq q1
        replace q10 := s22 _ _ q10
        replace h11 := A2.mono s22 h11
        replace q11 := s22 _ _ q11
        replace g12 := A2.mono s22 g12
        replace q14 := s22 _ _ q14
        replace q19 := s22 _ _ q19
        replace h17_0 := A2.mono s22 h17_0
        replace h12 := A2.mono s22 h12
        replace sF := sF.trans s22
        obtain ⟨l23, z23, e23, hm⟩ := pn_app hm
        refine ⟨_, _, _, rfl, rfl, (w22.get (pre := [])), (A2.lt h17_0 z23), ?_⟩
        have h23 : A2 (rep K F22) (vs17_0 ++ [(V.ref p22)]) l23 := e23 ▸ A2.snoc h17_0 (rep_pair q22 rep_i rep_i)
        have w24 : W F22 _ ((p16, .lst (vs17_0 ++ [(V.ref p22)])) :: (p7, .lst vs12) :: os) := w22.set (pre := [])
        exact hN17 _ (post_ok hm) _ _ ⟨_, _, _, rfl, (s17.trans s22), w24, h23⟩
      intro g17 σ17 H17 hI hm
      obtain ⟨F17, vs17_0, o17_7, rfl, s17, w17, h17_0⟩ := hI
      replace h1 := A2.mono s17 h1
      replace q1 := s17.seq q1
      replace q10 := s17 _ _ q10
      replace h11 := A2.mono s17 h11
      replace q11 := s17 _ _ q11
      replace g12 := A2.mono s17 g12
      replace q14 := s17 _ _ q14
      replace h12 := A2.mono s17 h12
      replace sF := sF.trans s17
      refine ⟨_, rfl, _, _, _, _, rfl, rfl, SqT.of (w17.same _ _ q10), rfl, _, rfl, _, _, _, _, _, _, rfl, w17, h17_0, ?_⟩
      refine (post_bind hm).mono (fun y25 hm v25 F25 H25 w25 s25 r25 => ?_) (fun _ z => z)
      replace h1 := A2.mono s25 h1
      replace q1 := s25.seq q1
      replace q10 := s25 _ _ q10
      replace h11 := A2.mono s25 h11
      replace q11 := s25 _ _ q11
      replace g12 := A2.mono s25 g12
      replace q14 := s25 _ _ q14
      replace h17_0 := A2.mono s25 h17_0
      replace h12 := A2.mono s25 h12
      replace sF := sF.trans s25
      obtain ⟨a26, u26, z26, rfl, q26, r26a, r26b⟩ := r25
      obtain rfl : u26 = V.int y25.1 := r26a
      obtain ⟨a27, vs27, rfl, q27, h27⟩ := r26b
      have w28 : W F25 _ ((p7, .lst vs12) :: (p16, .lst vs17_0) :: os) := w25.front (pre := [_])
      refine ⟨_, rfl, _, _, _, _, _, rfl, w28, h12, ?_⟩
      refine (post_bind hm).mono (fun y29 hm v29 vs29 F29 H29 w29 s29 r29 h29 => ?_) (fun _ z => z)
      replace h1 := A2.mono s29 h1
      replace q1 := s29.seq q1
      replace q10 := s29 _ _ q10
      replace h11 := A2.mono s29 h11
      replace q11 := s29 _ _ q11
      replace g12 := A2.mono s29 g12
      replace q14 := s29 _ _ q14
      replace q26 := s29 _ _ q26
      replace h27 := A2.mono s29 h27
      replace q27 := s29 _ _ q27
      replace h17_0 := A2.mono s29 h17_0
      replace sF := sF.trans s29
      obtain rfl : v29 = V.str y29.1 := r29
      refine ⟨_, rfl, _, rfl, _, rfl, _, _, _, (y9.1 : (Int × (Tup (Int × Int)))), _, (y25 : (Int × (Tup (Int × Int)))), _, (y12.1 : (List Int)), rfl, w29, (rep_pair q10 rep_i (rep_tup q11 h11)), (rep_pair q26 rep_i (rep_tup q27 h27)), (rep_lst q14 g12), ?_⟩
      refine (post_bind hm).mono (fun y30 hm v30 F30 H30 w30 s30 r30 => ?_) (fun _ z => z)
      replace h1 := A2.mono s30 h1
      replace q1 := s30.seq q1
      replace q10 := s30 _ _ q10
      replace h11 := A2.mono s30 h11
      replace q11 := s30 _ _ q11
      replace g12 := A2.mono s30 g12
      replace q14 := s30 _ _ q14
      replace q26 := s30 _ _ q26
      replace h27 := A2.mono s30 h27
      replace q27 := s30 _ _ q27
      replace h29 := A2.mono s30 h29
      replace h17_0 := A2.mono s30 h17_0
      replace sF := sF.trans s30
      obtain rfl : v30 = V.bl y30 := r30
      refine ⟨_, rfl, ?_⟩
      refine post_ite hm (fun k31 hm => ?_) (fun k31 hm => ?_)
      · skip
        have hm := hZ2 _ (post_ok hm)
        have w32 : W F30 _ ((p16, .lst vs17_0) :: os) := w30.drop (pre := [])
        have w33 : W F30 _ (os) := w32.drop (pre := [])
        exact (post_ok hm) _ _ _ w33 sF rep_b
      · skip
        refine stepX ?_
        try dsimp only
        refine stepIf ?_
        refine joinT hm (fun (j34 : Bool × (List Int)) c H' => c = j34.1 ∧ ∃ (F' : Hp) (vs34_0 : List V), Same F30 F' ∧ W F' H' ((p7, .lst vs34_0) :: (p16, .lst vs17_0) :: os) ∧ A2 (rep K F') vs34_0 j34.2) ?_ ?_
        · intro Q34 P34 q34 hm
          refine ⟨_, rfl, _, rfl, _, _, _, (y9.1 : (Int × (Tup (Int × Int)))), _, rfl, w30, (rep_pair q10 rep_i (rep_tup q11 h11)), ?_⟩
          refine (post_bind hm).mono (fun y35 hm p35 us35 F35 H35 w35 s35 g35 => ?_) (fun _ z => z)
          replace h1 := A2.mono s35 h1
          replace q1 := s35.seq q1
          replace q10 := s35 _ _ q10
          replace h11 := A2.mono s35 h11
          replace q11 := s35 _ _ q11
          replace g12 := A2.mono s35 g12
          replace q14 := s35 _ _ q14
          replace q26 := s35 _ _ q26
          replace h27 := A2.mono s35 h27
          replace q27 := s35 _ _ q27
          replace h29 := A2.mono s35 h29
          replace h17_0 := A2.mono s35 h17_0
          replace sF := sF.trans s35
          have h37 : A2 (rep K F35) [] ([] : (List Thing)) := .nil
          refine ⟨(by show 0 ≤ sizeLine; decide), fun p38 n38 => ?_⟩
          have w38 : W F35 _ ((p38, .lst []) :: (p35, .lst us35) :: (p7, .lst vs29) :: (p16, .lst vs17_0) :: os) := w35.new n38
          refine ⟨(y35 : (List Thing)), (([] : (List Thing)) : (List Thing)), (rep_own (pre := [_]) w38 g35), (rep_own (pre := []) w38 h37), _, rfl, ?_⟩
          refine post_ite hm (fun k39 hm => ?_) (fun k39 hm => ?_)
          · skip
            have w40 : W F35 _ ((p7, .lst vs29) :: (p38, .lst []) :: (p35, .lst us35) :: (p16, .lst vs17_0) :: os) := w38.front (pre := [_, _])
            refine ⟨_, rfl, _, rfl, _, rfl, _, rfl, _, rfl, _, _, _, _, _, _, (y9.1 : (Int × (Tup (Int × Int)))), _, (y25 : (Int × (Tup (Int × Int)))), _, (y12.1 : (List Int)), _, rfl, w40, h29, (rep_pair q10 rep_i (rep_tup q11 h11)), (rep_pair q26 rep_i (rep_tup q27 h27)), (rep_lst q14 g12), ?_⟩
            refine (post_bind hm).mono (fun y41 hm v41 vs41 F41 H41 w41 s41 r41 h41 => ?_) (fun _ z => z)
            replace h1 := A2.mono s41 h1
            replace q1 := s41.seq q1
            replace q10 := s41 _ _ q10
            replace h11 := A2.mono s41 h11
            replace q11 := s41 _ _ q11
            replace g12 := A2.mono s41 g12
            replace q14 := s41 _ _ q14
            replace q26 := s41 _ _ q26
            replace h27 := A2.mono s41 h27
            replace q27 := s41 _ _ q27
            replace h17_0 := A2.mono s41 h17_0
            replace g35 := A2.mono s41 g35
            replace h37 := A2.mono s41 h37
            replace sF := sF.trans s41
            obtain rfl : v41 = V.bl y41.1 := r41
            have w43 : W F41 _ ((p7, .lst vs41) :: (p35, .lst us35) :: (p16, .lst vs17_0) :: os) := w41.drop (pre := [_])
            have w44 : W F41 _ ((p7, .lst vs41) :: (p16, .lst vs17_0) :: os) := w43.drop (pre := [_])
            exact ⟨_, rfl, q34 _ (post_ok hm) _ _ ⟨rfl, _, _, (s35.trans s41), w44, h41⟩⟩
          · skip
            have w46 : W F35 _ ((p35, .lst us35) :: (p7, .lst vs29) :: (p16, .lst vs17_0) :: os) := w38.drop (pre := [])
            have w47 : W F35 _ ((p7, .lst vs29) :: (p16, .lst vs17_0) :: os) := w46.drop (pre := [])
            exact q34 _ (post_ok hm) _ _ ⟨rfl, _, _, s35, w47, h29⟩
        intro j34 c34 H34 hc34 hm
        obtain ⟨rfl, F34, vs34_0, s34, w34, h34_0⟩ := hc34
        replace h1 := A2.mono s34 h1
        replace q1 := s34.seq q1
        replace q10 := s34 _ _ q10
        replace h11 := A2.mono s34 h11
        replace q11 := s34 _ _ q11
        replace g12 := A2.mono s34 g12
        replace q14 := s34 _ _ q14
        replace q26 := s34 _ _ q26
        replace h27 := A2.mono s34 h27
        replace q27 := s34 _ _ q27
        replace h17_0 := A2.mono s34 h17_0
        replace sF := sF.trans s34
        refine post_ite hm (fun k48 hm => ?_) (fun k48 hm => ?_)
        · skip
          have hm := hZ2 _ (post_ok hm)
          have w49 : W F34 _ ((p16, .lst vs17_0) :: os) := w34.drop (pre := [])
          have w50 : W F34 _ (os) := w49.drop (pre := [])
          exact (post_ok hm) _ _ _ w50 sF rep_b
        · skip
          have w51 : W F34 _ ((p16, .lst vs17_0) :: os) := w34.drop (pre := [])
          have w52 : W F34 _ (os) := w51.drop (pre := [])
          exact hN2 _ (post_ok hm) _ _ ⟨_, _, _, _, _, _, _, _, _, _, rfl, (s2.trans (s6.trans (s7.trans (s9.trans (s12.trans (s14.trans (s17.trans (s25.trans (s29.trans (s30.trans s34)))))))))), w52⟩
    intro g2 σ2 H2 hI hm
    obtain ⟨F2, o2_3, o2_4, o2_5, o2_6, o2_7, o2_8, o2_9, o2_1, o2_2, rfl, s2, w2⟩ := hI
    replace q1 := s2.seq q1
    replace h1 := A2.mono s2 h1
    replace g3 := A2.mono s2 g3
    replace q5 := s2 _ _ q5
    replace sF := sF.trans s2
    exact (post_ok hm) _ _ _ w2 sF rep_b
end
end G
/-! MA: webs drawn from a pot (k02 to k17) -/
namespace G
open PySem L2 Z
def PotOk (s : List Int) : Prop := s ≠ [] ∧ s.length ≤ 2 ∧ ∀ x ∈ s, 0 ≤ x
theorem take_okW {s : List Int} {m : Int} (h : PotOk s) (h0 : 0 < m) (h1 : m.natAbs.log2 < 9000) : Post (law_take s m) (fun r => 0 ≤ r.1 ∧ r.1 < m ∧ PotOk r.2) noX := by
  obtain ⟨hne, hl, hp⟩ := h
  unfold law_take
  have split : ∃ ys y, s = ys ++ [y] := ⟨s.dropLast, s.getLast hne, (List.dropLast_concat_getLast hne).symm⟩
  obtain ⟨ys, y, rfl⟩ := split
  have y0 : 0 ≤ y := hp y (by simp)
  have hdiv : 0 ≤ y / m := Int.ediv_nonneg y0 (by omega)
  have eset : setI (ys ++ [y]) (-1) (y / m) = R.ok (ys ++ [y / m]) := by
    unfold setI
    have e : ixN (ys ++ [y]).length (-1) = some ys.length := by
      unfold ixN
      rw [if_neg (by decide), if_pos (by rw [List.length_append, List.length_singleton]; omega)]
      rw [List.length_append, List.length_singleton]
      congr 1
      omega
    rw [e]
    simp
  refine po_getE (getI_last y) (po_mod h0 fun r0 r1 => po_getE (getI_last y) (po_divW h0 h1 ?_))
  rw [eset, ok_bind]
  have ok2 : PotOk (ys ++ [y / m]) := by
    refine ⟨by simp, by simpa using hl, fun x hx => ?_⟩
    rcases List.mem_append.mp hx with hx | hx
    · exact hp x (List.mem_append_left _ hx)
    · rw [List.mem_singleton] at hx
      rw [hx]; exact hdiv
  refine po_bind (Q := PotOk) ?_ fun g hg => ⟨r0, r1, hg⟩
  refine po_bind (Q := fun j => j = true → 1 < (ys ++ [y / m]).length) (po_getE (getI_last (y / m)) (po_if (fun c => ?_) (fun c => ?_))) fun j hj => po_if (fun c => ?_) (fun c => ok2)
  · intro e
    have := of_decide_eq_true e
    omega
  · intro e
    cases e
  · have hlen := hj c
    have e : popI (ys ++ [y / m]) = R.ok (y / m, ys) := by
      unfold popI
      simp
    rw [e, ok_bind]
    rw [List.length_append, List.length_singleton] at hlen hl
    refine ⟨fun e => ?_, by show ys.length ≤ 2; omega, fun x hx => hp x (List.mem_append_left _ hx)⟩
    have e' : ys = [] := e
    rw [e'] at hlen
    simp at hlen
theorem take_ok {s : List Int} {m : Int} (h : PotOk s) (h0 : 0 < m) (h1 : m < 1073741824) : Post (law_take s m) (fun r => 0 ≤ r.1 ∧ r.1 < m ∧ PotOk r.2) noX := take_okW h h0 (Nat.lt_of_lt_of_le ((Nat.log2_lt (by omega)).mpr (show m.natAbs < 2 ^ 30 by omega)) (by decide))
theorem pot_ok {c k : Int} (k0 : 0 ≤ k) (k1 : k < 1000) : Post (law_pot c k) PotOk noX := by
  unfold law_pot
  refine po_bind (po_fold (fun g => 0 ≤ g.1 ∧ g.1 < 2147483647 ∧ ∃ y, g.2 = [y] ∧ 0 ≤ y) ⟨Int.emod_nonneg _ (by decide), Int.emod_lt_of_pos _ (by decide), 0, rfl, Int.le_refl _⟩ ?_) ?_
  · rintro ⟨m, l⟩ x ⟨m0, m1, y, e, y0⟩ hx
    have e' : l = [y] := e
    subst e'
    have m0' : 0 ≤ m := m0
    have m1' : m < 2147483647 := m1
    refine po_mul (.inl ⟨by show -(2 ^ 64) < m; omega, by show m < 2 ^ 64; omega⟩) (po_getE (x := y) rfl (po_set (Int.le_refl _) (by show (0 : Int) < 1; decide) ?_))
    refine ⟨Int.emod_nonneg _ (by decide), Int.lt_trans (Int.emod_lt_of_pos _ (by decide)) (by decide), _, rfl, ?_⟩
    have h1 : 0 ≤ (m * m + 48271 * m + 3 * x + k) % 2147483629 := Int.emod_nonneg _ (by decide)
    have h2 : 0 ≤ y * 2147483629 := Int.mul_nonneg y0 (by decide)
    show 0 ≤ y * 2147483629 + (m * m + 48271 * m + 3 * x + k) % 2147483629
    omega
  · rintro ⟨m, l⟩ ⟨_, _, y, e, y0⟩
    have e' : l = [y] := e
    subst e'
    refine po_bind (Q := PotOk) (po_if (fun c => ?_) (fun _ => ?_)) fun g hg => hg
    · have c' := of_decide_eq_true c
      refine po_app (by show 1 < 100000; decide) ⟨by simp, by simp, fun x hx => ?_⟩
      have hx' : x ∈ [y, _] := hx
      simp at hx'
      rcases hx' with rfl | rfl
      · exact y0
      · refine Int.le_trans ?_ c'
        decide
    · exact ⟨by simp, by simp, fun x hx => by simp at hx; rw [hx]; exact y0⟩
theorem cells_ok {sc : Scr} {m : Int} (h : sc.l.length ≤ 63) (m0 : 0 < m) (m1 : m < 100) : Post (law_cells sc m) (fun l => (l.length : Int) ≤ m) noX := by
  unfold law_cells
  refine po_if (fun c => by show ((1 : Nat) : Int) ≤ m; omega) (fun c => ?_)
  have hne : 0 < sc.l.length := by
    cases e : sc.l with
    | nil =>
      exfalso
      apply c
      rw [decide_eq_true]
      obtain ⟨l⟩ := sc
      simp at e
      rw [e]
    | cons x l => simp
  unfold law_folded
  have hm : 0 < min2 m (sc.l.length : Int) ∧ min2 m (sc.l.length : Int) ≤ m := by
    unfold min2
    split <;> omega
  refine po_bind (Q := fun l => (l.length : Int) ≤ m) (po_rep (by omega) (by omega) (by decide) ?_) fun y hy => hy
  have hlen : (repL [(0 : Int)] (min2 m (sc.l.length : Int))).length = (min2 m (sc.l.length : Int)).toNat := by
    unfold repL
    simp
  refine po_bind (po_fold (fun g => g.length = (min2 m (sc.l.length : Int)).toNat) hlen fun g x hg hx => ?_) fun g hg => ?_
  · refine po_mod hm.1 fun r0 r1 => po_get r0 (by omega) fun _ _ _ => po_mod hm.1 fun s0 s1 => po_set s0 (by omega) ?_
    show (List.set _ _ _).length = _
    rw [List.length_set]
    exact hg
  · show (g.length : Int) ≤ m
    omega
/-! ### an order -/
theorem order_ok {s : List Int} {n : Int} (h : PotOk s) (n0 : 0 ≤ n) (n1 : n < 10000) : Post (law_order s n) (fun r => r.1.Perm (rng 0 n) ∧ PotOk r.2) noX := by
  unfold law_order
  have hl : (rng 0 n).length = n.toNat := by rw [rng_length]; omega
  refine po_listRng (by decide) (by decide) (by omega) (by omega) (by omega) (po_rng (by decide) (by decide) (by omega) (by omega) ?_)
  refine po_bind (po_mapStA (fun pre acc g => (acc ++ g.1).Perm (rng 0 n) ∧ pre.length = acc.length ∧ PotOk g.2) (by omega) ⟨List.Perm.refl _, rfl, h⟩ ?_) ?_
  · rintro pre acc ⟨left, pot⟩ x post e ⟨h1, h2, h3⟩
    have h1' : (acc ++ left).Perm (rng 0 n) := h1
    have hlen := h1'.length_eq
    rw [List.length_append, hl] at hlen
    have hxl : pre.length + (post.length + 1) = n.toNat := by
      have := congrArg List.length e
      rw [hl] at this
      simp at this
      omega
    have h2' : pre.length = acc.length := h2
    refine po_bind (take_ok h3 (by show (0 : Int) < left.length; omega) (by show (left.length : Int) < _; omega)) fun y ⟨y0, y1, hy⟩ => ?_
    have y1' : y.1 < (left.length : Int) := y1
    refine po_popB y0 y1' (by omega) fun z hz => ?_
    refine ⟨?_, by show (pre ++ [x]).length = (acc ++ [z]).length; rw [List.length_append, List.length_append, h2']; rfl, hy⟩
    show ((acc ++ [z]) ++ left.eraseIdx y.1.toNat).Perm _
    refine List.Perm.trans ?_ h1'
    rw [List.append_assoc]
    refine List.Perm.append_left _ ?_
    have hj := (List.getElem?_eq_some_iff.mp hz)
    obtain ⟨hj1, hj2⟩ := hj
    have : left.Perm (z :: left.eraseIdx y.1.toNat) := by
      have e1 : left = left.take y.1.toNat ++ z :: left.drop (y.1.toNat + 1) := by
        rw [← hj2, ← List.drop_eq_getElem_cons hj1, List.take_append_drop]
      have e2 : left.eraseIdx y.1.toNat = left.take y.1.toNat ++ left.drop (y.1.toNat + 1) := List.eraseIdx_eq_take_drop_succ _ _
      rw [e2]
      conv => lhs; rw [e1]
      exact List.perm_middle
    exact this.symm
  · rintro ⟨acc, left, pot⟩ ⟨h1, h2, h3⟩
    have h1' : (acc ++ left).Perm (rng 0 n) := h1
    have h2' : (rng 0 n).length = acc.length := h2
    have := h1'.length_eq
    rw [List.length_append, h2'] at this
    have e : left = [] := List.eq_nil_of_length_eq_zero (by omega)
    subst e
    rw [List.append_nil] at h1'
    exact ⟨h1', h3⟩
/-! ### ties -/
structure TiesOk (b : Nat) (n : Int) (ts : List (Int × Int)) : Prop where
  rg : ∀ p ∈ ts, 0 ≤ p.1 ∧ p.1 < p.2 ∧ p.2 < n
  nd : ts.Nodup
  conn : Conn n ts
  len : ts.length ≤ b
theorem row_map (n : Int) : ((rng 1 n).map fun b => (b - 1, b)).Nodup := List.Pairwise.map _ (fun a b h e => h (by injection e)) (rng_nodup 1 n)
theorem star_map (n : Int) : ((rng 1 n).map fun b => ((0 : Int), b)).Nodup := List.Pairwise.map _ (fun a b h e => h (by injection e)) (rng_nodup 1 n)
theorem row_ok {n : Int} (n0 : 1 ≤ n) (n1 : n ≤ 60) : TiesOk 500 n ((rng 1 n).map fun b => (b - 1, b)) := by
  refine ⟨fun p hp => ?_, row_map n, conn_tree fun k k1 kn => ⟨k - 1, by omega, by omega, .inl (List.mem_map.mpr ⟨k, rng_mem.mpr ⟨k1, kn⟩, rfl⟩)⟩, by rw [List.length_map, rng_length]; omega⟩
  obtain ⟨b, hb, rfl⟩ := List.mem_map.mp hp
  have := rng_mem.mp hb
  exact ⟨by show 0 ≤ b - 1; omega, by show b - 1 < b; omega, this.2⟩
theorem star_ok {n : Int} (n0 : 1 ≤ n) (n1 : n ≤ 60) : TiesOk 500 n ((rng 1 n).map fun b => (0, b)) := by
  refine ⟨fun p hp => ?_, star_map n, conn_tree fun k k1 kn => ⟨0, by omega, by omega, .inl (List.mem_map.mpr ⟨k, rng_mem.mpr ⟨k1, kn⟩, rfl⟩)⟩, by rw [List.length_map, rng_length]; omega⟩
  obtain ⟨b, hb, rfl⟩ := List.mem_map.mp hp
  have := rng_mem.mp hb
  exact ⟨by show (0 : Int) ≤ 0; omega, by show 0 < b; omega, this.2⟩
theorem TiesOk.add {b c : Nat} {n : Int} {ts : List (Int × Int)} {p : Int × Int} (h : TiesOk b n ts) (h0 : 0 ≤ p.1) (h1 : p.1 < p.2) (h2 : p.2 < n) (hn : p ∉ ts) (hl : ts.length + 1 ≤ c) : TiesOk c n (ts ++ [p]) := by
  refine ⟨fun q hq => ?_, ?_, h.conn.mono fun q hq => List.mem_append_left _ hq, by rw [List.length_append, List.length_singleton]; exact hl⟩
  · rcases List.mem_append.mp hq with hq | hq
    · exact h.rg q hq
    · rw [List.mem_singleton] at hq
      rw [hq]; exact ⟨h0, h1, h2⟩
  · rw [List.nodup_append]
    refine ⟨h.nd, by simp, fun a ha c hc e => ?_⟩
    rw [List.mem_singleton] at hc
    rw [e, hc] at ha
    exact hn ha
/-- pairs below, row by row -/
structure Low (k : Int) (ts : List (Int × Int)) : Prop where
  rg : ∀ p ∈ ts, 0 ≤ p.1 ∧ p.1 < p.2 ∧ p.2 < k
  nd : ts.Nodup
theorem Low.ext {k : Int} {ts us : List (Int × Int)} (h : Low k ts) (hu : ∀ p ∈ us, 0 ≤ p.1 ∧ p.1 < p.2 ∧ p.2 = k) (hn : us.Nodup) : Low (k + 1) (ts ++ us) := by
  refine ⟨fun p hp => ?_, ?_⟩
  · rcases List.mem_append.mp hp with hp | hp
    · have := h.rg p hp
      omega
    · have := hu p hp
      omega
  · rw [List.nodup_append]
    refine ⟨h.nd, hn, fun a ha c hc e => ?_⟩
    have h1 := h.rg a ha
    have h2 := hu c hc
    rw [e] at h1
    omega
/-- bunches: a list of ties, and what it lacks to hang together -/
theorem bunches_ok {s : List Int} {n : Int} (h : PotOk s) (n0 : 1 ≤ n) (n1 : n ≤ 60) (n2 : n < 13) : Post (law_bunches s n) (fun r => TiesOk 500 n r.1 ∧ PotOk r.2) noX := by
  unfold law_bunches
  refine po_bind (take_ok h (by decide) (by decide)) fun y2 ⟨a0, a1, ha⟩ => ?_
  refine po_rng (by decide) (by decide) (by omega) (by omega) ?_
  refine po_bind (po_mapStN (fun _ g => PotOk g) (fun _ => True) (by rw [rng_length]; omega) ha fun k g x hk hg hx => po_bind (take_ok hg (by decide) (by decide)) fun y ⟨_, _, hy⟩ => ⟨trivial, hy⟩) fun l4 ⟨b0, _, b1⟩ => ?_
  refine po_rng (by decide) (by decide) (by omega) (by omega) ?_
  refine po_bind (po_mapStN (fun _ g => PotOk g) (fun v => 0 ≤ v ∧ v < 2 + y2.1) (by rw [rng_length]; omega) b1 fun k g x hk hg hx => po_bind (take_ok hg (by omega) (by omega)) fun y ⟨y0, y1, hy⟩ => ⟨⟨y0, y1⟩, hy⟩) fun l12 ⟨c0, cv, c1⟩ => ?_
  rw [rng_length] at b0 c0
  refine po_rng (by decide) (by decide) (by omega) (by omega) ?_
  refine po_bind (po_foldP (fun pre g => Low pre.length g ∧ g.length ≤ 13 * pre.length) ⟨⟨fun _ h => (nomatch h), List.nodup_nil⟩, Nat.zero_le _⟩ ?_) fun g21 ⟨hlow, hlen⟩ => ?_
  · intro pre g k post e ⟨h1, h2⟩
    obtain ⟨e1, k0, kn⟩ := rng_split e
    have ek : k = 0 + (pre.length : Int) := rng_pre e
    refine po_rng (by decide) (by decide) (by omega) (by omega) ?_
    refine po_bind (Q := fun g' => Low (k + 1) g' ∧ g'.length ≤ 13 * pre.length + k.toNat) (Post.mono (po_foldP (fun pr g' => ∃ us, g' = g ++ us ∧ us.length ≤ pr.length ∧ us.Nodup ∧ ∀ p ∈ us, 0 ≤ p.1 ∧ p.1 < (pr.length : Int) ∧ p.2 = k) ⟨[], by simp, Nat.le_refl _, List.nodup_nil, fun _ h => nomatch h⟩ ?_) ?_ fun _ z => z) fun g' ⟨q1, q2⟩ => ?_
    · intro pr g' j po ej ⟨us, eu, ul, un, ur⟩
      obtain ⟨ej1, j0, jk⟩ := rng_split ej
      have ejn : j = 0 + (pr.length : Int) := rng_pre ej
      refine po_get j0 (by omega) fun t25 m25 _ => po_get k0 (by omega) fun t26 m26 _ => ?_
      refine po_bind (Q := fun _ => True) ?_ fun j27 _ => po_if (fun _ => ?_) (fun _ => ?_)
      · refine po_if (fun _ => trivial) fun _ => ?_
        refine po_bind (Q := fun _ => True) (po_if (fun _ => ?_) fun _ => trivial) fun _ _ => trivial
        refine po_get k0 (by omega) fun t32 m32 _ => ?_
        have := cv t32 m32
        exact po_get this.1 (by omega) fun _ _ _ => trivial
      · refine po_app (by rw [eu, List.length_append]; omega) ⟨us ++ [(j, k)], by rw [eu, List.append_assoc], by rw [List.length_append, List.length_append]; simp; omega, ?_, fun p hp => ?_⟩
        · rw [List.nodup_append]
          refine ⟨un, by simp, fun a ha c hc ec => ?_⟩
          rw [List.mem_singleton] at hc
          have := ur a ha
          rw [ec, hc] at this
          have h3 : j < (pr.length : Int) := this.2.1
          omega
        · rw [List.length_append, List.length_singleton]
          rcases List.mem_append.mp hp with hp | hp
          · have := ur p hp
            omega
          · rw [List.mem_singleton] at hp
            rw [hp]
            exact ⟨j0, by show j < _; omega, rfl⟩
      · refine ⟨us, eu, by rw [List.length_append]; omega, un, fun p hp => ?_⟩
        have := ur p hp
        rw [List.length_append, List.length_singleton]
        omega
    · rintro g' ⟨us, eu, ul, un, ur⟩
      have hkl : ((rng 0 k).length : Int) = k := rng_len k0
      rw [eu]
      refine ⟨?_, by rw [List.length_append]; omega⟩
      have ek' : (pre.length : Int) = k := by omega
      rw [ek'] at h1
      refine h1.ext (fun p hp => ?_) un
      have := ur p hp
      omega
    · refine ⟨?_, by rw [List.length_append, List.length_singleton]; omega⟩
      rw [List.length_append, List.length_singleton]
      have : ((pre.length + 1 : Nat) : Int) = k + 1 := by omega
      rw [this]
      exact q1
  · have hnl : ((rng 0 n).length : Int) = n := rng_len (by omega)
    rw [hnl] at hlow
    have hlen' : g21.length ≤ 13 * 13 := by
      have : (rng 0 n).length ≤ 13 := by omega
      omega
    refine po_rng (by decide) (by decide) (by omega) (by omega) ?_
    -- near: all joined to 0 by g21; the neighbours of 0 are in it
    refine po_bind (po_foldN (fun t g => (∀ k, mhas g k = true → ∀ S : Int → Prop, S 0 → (∀ p ∈ g21, S p.1 ↔ S p.2) → S k) ∧ mhas g 0 = true ∧ g.length ≤ 1 + 2 * 169 * t ∧ (0 < t → ∀ k, (0, k) ∈ g21 → mhas g k = true)) ⟨?_, rfl, by show 1 ≤ 1 + 0; omega, fun h => absurd h (Nat.lt_irrefl _)⟩ ?_) fun g43 ⟨p1, p2, p3, p4⟩ => ?_
    · intro k hk S h0 _
      obtain ⟨p, hp, e⟩ := mhas_iff.mp hk
      have hp' : p ∈ [((0 : Int), true)] := hp
      rw [List.mem_singleton] at hp'
      rw [hp'] at e
      have e' : (0 : Int) = k := e
      rw [← e']; exact h0
    · rintro t g x ht ⟨p1, p2, p3, p4⟩ hx
      refine po_bind (po_foldP (fun pre g' => (∀ k, mhas g' k = true → ∀ S : Int → Prop, S 0 → (∀ p ∈ g21, S p.1 ↔ S p.2) → S k) ∧ mhas g' 0 = true ∧ g'.length ≤ g.length + 2 * pre.length ∧ (∀ k, mhas g k = true → mhas g' k = true) ∧ (∀ k, (0, k) ∈ pre → mhas g' k = true)) ⟨p1, p2, by simp, fun _ h => h, fun _ h => nomatch h⟩ ?_) ?_
      · rintro pre g' ⟨a, b⟩ post e ⟨q1, q2, q3, q4, q5⟩
        have hab : (a, b) ∈ g21 := by rw [e]; simp
        have hpl : pre.length < 169 := by
          have := congrArg List.length e
          simp at this
          omega
        have ht' : t < 13 := by
          rw [rng_length] at ht
          omega
        have mput_has : ∀ (m : List (Int × Bool)) (j k : Int), mhas (mput m j true) k = true ↔ (k = j ∨ mhas m k = true) := by
          intro m j k
          rw [mhas_iff, mhas_iff]
          exact mput_keys
        refine po_if (fun c => ?_) (fun c => ?_)
        · refine po_mput (by omega) (po_mput (by rw [mput_length]; split <;> omega) ⟨?_, ?_, ?_, ?_, ?_⟩)
          · intro k hk S h0 hc
            have sab : S a ∧ S b := by
              have hc' := hc (a, b) hab
              rw [Bool.or_eq_true] at c
              rcases c with c | c
              · have := q1 a c S h0 hc
                exact ⟨this, hc'.mp this⟩
              · have := q1 b c S h0 hc
                exact ⟨hc'.mpr this, this⟩
            rcases (mput_has _ _ _).mp hk with rfl | hk
            · exact sab.2
            · rcases (mput_has _ _ _).mp hk with rfl | hk
              · exact sab.1
              · exact q1 k hk S h0 hc
          · exact (mput_has _ _ _).mpr (.inr ((mput_has _ _ _).mpr (.inr q2)))
          · show (mput (mput g' a true) b true).length ≤ g.length + 2 * (pre ++ [(a, b)]).length
            rw [mput_length, mput_length, List.length_append, List.length_singleton]
            split <;> split <;> omega
          · exact fun k hk => (mput_has _ _ _).mpr (.inr ((mput_has _ _ _).mpr (.inr (q4 k hk))))
          · intro k hk
            rcases List.mem_append.mp hk with hk | hk
            · exact (mput_has _ _ _).mpr (.inr ((mput_has _ _ _).mpr (.inr (q5 k hk))))
            · rw [List.mem_singleton] at hk
              injection hk with h1 h2
              exact (mput_has _ _ _).mpr (.inl h2)
        · refine ⟨q1, q2, by rw [List.length_append, List.length_singleton]; omega, q4, fun k hk => ?_⟩
          rcases List.mem_append.mp hk with hk | hk
          · exact q5 k hk
          · rw [List.mem_singleton] at hk
            injection hk with h1 h2
            exfalso
            apply c
            show (mhas g' a || mhas g' b) = true
            rw [← h1, q2]; rfl
      · rintro g' ⟨q1, q2, q3, q4, q5⟩
        refine ⟨q1, q2, ?_, fun _ k hk => q5 k hk⟩
        have : 2 * g21.length ≤ 2 * 169 := by omega
        rw [Nat.mul_add]
        omega
    · refine po_rng (by decide) (by decide) (by omega) (by omega) ?_
      have p4' := p4 (by rw [rng_length]; omega)
      refine po_filGE (g := fun b => if mhas g43 b = true then none else some ((0 : Int), b)) (by rw [rng_length]; omega) (fun b hb => ?_) ?_
      · cases e : mhas g43 b <;> rfl
      · have hfl : ((rng 1 n).filterMap fun b => if mhas g43 b = true then none else some ((0 : Int), b)).length ≤ 60 := by
          refine Nat.le_trans (List.length_filterMap_le _ _) ?_
          rw [rng_length]; omega
        refine po_extend (by omega) ⟨⟨fun p hp => ?_, ?_, ?_, by rw [List.length_append]; omega⟩, c1⟩
        · rcases List.mem_append.mp hp with hp | hp
          · exact hlow.rg p hp
          · obtain ⟨b, hb, e⟩ := List.mem_filterMap.mp hp
            split at e
            · cases e
            · cases e
              have := rng_mem.mp hb
              exact ⟨Int.le_refl 0, by show (0 : Int) < b; omega, this.2⟩
        · rw [List.nodup_append]
          refine ⟨hlow.nd, ?_, fun a ha c hc e => ?_⟩
          · refine List.Pairwise.filterMap _ (fun a b hab x hx y hy exy => ?_) (rng_nodup 1 n)
            have hx' : (if mhas g43 a = true then none else some ((0 : Int), a)) = some x := hx
            have hy' : (if mhas g43 b = true then none else some ((0 : Int), b)) = some y := hy
            split at hx'
            · cases hx'
            · split at hy'
              · cases hy'
              · cases hx'
                cases hy'
                injection exy with _ h2
                exact hab h2
          · obtain ⟨b, hb, e2⟩ := List.mem_filterMap.mp hc
            split at e2
            · cases e2
            · rename_i hnb
              cases e2
              rw [e] at ha
              exact hnb (p4' b ha)
        · intro S h0 hc
          have hc1 : ∀ p ∈ g21, S p.1 ↔ S p.2 := fun p hp => hc p (List.mem_append_left _ hp)
          intro k k0 kn
          by_cases hk : mhas g43 k = true
          · exact p1 k hk S h0 hc1
          · by_cases hz : k = 0
            · rw [hz]; exact h0
            · refine (hc (0, k) (List.mem_append_right _ (List.mem_filterMap.mpr ⟨k, rng_mem.mpr ⟨by omega, kn⟩, ?_⟩))).mp h0
              rw [if_neg hk]
theorem TiesOk.up {b c : Nat} {n : Int} {ts : List (Int × Int)} (h : TiesOk b n ts) (hl : b ≤ c) : TiesOk c n ts := ⟨h.rg, h.nd, h.conn, Nat.le_trans h.len hl⟩
theorem ties_ok {s : List Int} {n : Int} (h : PotOk s) (n0 : 1 ≤ n) (n1 : n ≤ 60) : Post (law_ties s n) (fun r => TiesOk 700 n r.1 ∧ PotOk r.2) noX := by
  unfold law_ties
  have hl1 : (rng 1 n).length < 100 := by rw [rng_length]; omega
  refine po_bind (take_ok h (by decide) (by decide)) fun y2 ⟨a0, a1, ha⟩ => ?_
  refine po_rng (by decide) (by decide) (by omega) (by omega) (po_mapGE (g := fun b => (b - 1, b)) (by omega) (fun b _ => rfl) ?_)
  have hrow := row_ok n0 n1
  -- ring
  refine po_bind (Q := fun g => TiesOk 500 n g) (po_if (fun c => ?_) fun _ => hrow) fun g8 h8 => ?_
  · rw [Bool.and_eq_true] at c
    have c2 := of_decide_eq_true c.2
    have hll : ((rng 1 n).map fun b => (b - 1, b)).length < 100 := by rw [List.length_map]; exact hl1
    refine po_app (by omega) (hrow.add (by show (0 : Int) ≤ 0; omega) (by show 0 < n - 1; omega) (by show n - 1 < n; omega) (fun hm => ?_) (by omega))
    obtain ⟨b, hb, e⟩ := List.mem_map.mp hm
    injection e with e1 e2
    omega
  -- star
  refine po_bind (Q := fun g => TiesOk 500 n g) (po_if (fun _ => ?_) fun _ => h8) fun g17 h17 => ?_
  · refine po_rng (by decide) (by decide) (by omega) (by omega) (po_mapGE (g := fun b => ((0 : Int), b)) (by omega) (fun b _ => rfl) ?_)
    exact star_ok n0 n1
  -- whole
  refine po_bind (Q := fun g => TiesOk 500 n g) (po_if (fun c => ?_) fun _ => h17) fun g26 h26 => ?_
  · rw [Bool.and_eq_true] at c
    have c2 := of_decide_eq_true c.2
    refine po_rng (by decide) (by decide) (by omega) (by omega) (po_bind (po_foldP (fun pre g => Low pre.length g ∧ g.length ≤ 20 * pre.length ∧ ∀ k : Int, 1 ≤ k → k < pre.length → (k - 1, k) ∈ g) ⟨⟨fun _ h => (nomatch h), List.nodup_nil⟩, Nat.zero_le _, fun k k1 k2 => absurd k2 (by show ¬ k < (0 : Int); omega)⟩ ?_) ?_)
    · intro pre g k post e ⟨q1, q2, q3⟩
      obtain ⟨e1, k0, kn⟩ := rng_split e
      have ek : k = 0 + (pre.length : Int) := rng_pre e
      refine po_rng (by decide) (by decide) (by omega) (by omega) (po_mapGE (g := fun b => (b, k)) (by rw [rng_length]; omega) (fun b _ => rfl) ?_)
      refine po_extend (by rw [List.length_map, rng_length]; omega) ⟨?_, by rw [List.length_append, List.length_append, List.length_map, rng_length, List.length_singleton]; omega, fun j j1 j2 => ?_⟩
      · have e2 : ((pre ++ [k]).length : Int) = k + 1 := by rw [List.length_append, List.length_singleton]; omega
        rw [e2]
        have e3 : (pre.length : Int) = k := by omega
        rw [e3] at q1
        refine q1.ext (fun p hp => ?_) (List.Pairwise.map _ (fun a b h e => h (by injection e)) (rng_nodup 0 k))
        obtain ⟨b, hb, rfl⟩ := List.mem_map.mp hp
        have := rng_mem.mp hb
        exact ⟨this.1, this.2, rfl⟩
      · rw [List.length_append, List.length_singleton] at j2
        by_cases hj : j < (pre.length : Int)
        · exact List.mem_append_left _ (q3 j j1 hj)
        · have : j = k := by omega
          rw [this] at j1 ⊢
          exact List.mem_append_right _ (List.mem_map.mpr ⟨k - 1, rng_mem.mpr ⟨by omega, by omega⟩, rfl⟩)
    · intro g ⟨q1, q2, q3⟩
      have hnl : ((rng 0 n).length : Int) = n := rng_len (by omega)
      rw [hnl] at q1
      refine ⟨q1.rg, q1.nd, conn_tree fun k k1 kn => ⟨k - 1, by omega, by omega, .inl (q3 k k1 (by omega))⟩, by omega⟩
  -- bunches
  refine po_bind (Q := fun g => TiesOk 500 n g.1 ∧ PotOk g.2) (po_if (fun c => ?_) fun _ => ⟨h26, ha⟩) fun g46 ⟨h46, p46⟩ => ?_
  · rw [Bool.and_eq_true] at c
    have c2 := of_decide_eq_true c.2
    exact po_bind (bunches_ok ha n0 n1 c2) fun y hy => hy
  -- trees
  refine po_bind (Q := fun g => TiesOk 500 n g.1 ∧ PotOk g.2) (po_if (fun c => ?_) fun _ => ⟨h46, p46⟩) fun g57 ⟨h57, p57⟩ => ?_
  · refine po_rng (by decide) (by decide) (by omega) (by omega) (po_bind (po_foldP (fun pre g => (∀ p ∈ g.1, 0 ≤ p.1 ∧ p.1 < p.2 ∧ p.2 < 1 + (pre.length : Int)) ∧ g.1.Nodup ∧ g.1.length = pre.length ∧ PotOk g.2 ∧ ∀ k : Int, 1 ≤ k → k < 1 + (pre.length : Int) → ∃ j, 0 ≤ j ∧ j < k ∧ (j, k) ∈ g.1)
      ⟨fun _ h => (nomatch h), List.nodup_nil, rfl, p46, fun k k1 k2 => absurd k2 (by show ¬ k < 1 + (0 : Int); omega)⟩ ?_) ?_)
    · rintro pre ⟨g, pot⟩ k post e ⟨q1, q2, q3, q4, q5⟩
      obtain ⟨e1, k0, kn⟩ := rng_split e
      have ek : k = 1 + (pre.length : Int) := rng_pre e
      have q3' : g.length = pre.length := q3
      refine po_bind (take_ok q4 (by omega) (by omega)) fun y ⟨b0, b1, hb⟩ => po_bind (take_ok hb (by decide) (by decide)) fun z ⟨c0, c1, hc⟩ => ?_
      refine po_get c0 c1 fun t ht _ => po_app (by show g.length < 100000; omega) ?_
      have tr : 0 ≤ t ∧ t < k := by
        have ht' : t = y.1 ∨ t = k - 1 ∨ t = max2 0 (k - 2) := by simpa using ht
        rcases ht' with rfl | rfl | rfl
        · exact ⟨b0, b1⟩
        · omega
        · unfold max2
          split <;> omega
      have hpl : ((pre ++ [k]).length : Int) = k := by rw [List.length_append, List.length_singleton]; omega
      refine ⟨fun p hp => ?_, ?_, by show (g ++ [(t, k)]).length = _; rw [List.length_append, List.length_append, q3']; rfl, hc, fun j j1 j2 => ?_⟩
      · rw [hpl]
        rcases List.mem_append.mp hp with hp | hp
        · have := q1 p hp
          omega
        · rw [List.mem_singleton] at hp
          rw [hp]
          exact ⟨tr.1, tr.2, by show k < 1 + k; omega⟩
      · show (g ++ [(t, k)]).Nodup
        rw [List.nodup_append]
        refine ⟨q2, by simp, fun a ha c hc e => ?_⟩
        rw [List.mem_singleton] at hc
        have := (q1 a ha).2.2
        rw [e, hc] at this
        have this' : k < 1 + (pre.length : Int) := this
        omega
      · rw [hpl] at j2
        by_cases hj : j < k
        · obtain ⟨i, i0, i1, hi⟩ := q5 j j1 (by omega)
          exact ⟨i, i0, i1, List.mem_append_left _ hi⟩
        · have : j = k := by omega
          rw [this]
          exact ⟨t, tr.1, tr.2, List.mem_append_right _ (List.mem_singleton_self _)⟩
    · rintro ⟨g, pot⟩ ⟨q1, q2, q3, q4, q5⟩
      have hnl : ((rng 1 n).length : Int) = n - 1 := by rw [rng_length]; omega
      have q3' : g.length = (rng 1 n).length := q3
      refine ⟨⟨fun p hp => ?_, q2, conn_tree fun k k1 kn => ?_, by show g.length ≤ 500; omega⟩, q4⟩
      · have := q1 p hp
        omega
      · obtain ⟨j, j0, j1, hj⟩ := q5 k k1 (by omega)
        exact ⟨j, j0, j1, .inl hj⟩
  -- some more
  refine po_bind (Q := fun g => TiesOk 700 n g.1 ∧ PotOk g.2) (po_if (fun c => ?_) fun _ => ⟨h57.up (by decide), p57⟩) fun g77 h77 => by exact ⟨h77.1, h77.2⟩
  refine po_bind (take_ok p57 (by decide) (by decide)) fun y ⟨b0, b1, hb⟩ => po_get b0 b1 fun t ht _ => ?_
  have tr : 0 < t ∧ t ≤ 142 := by
    have ht' : t = 7 ∨ t = 7 ∨ t = 7 ∨ t = 142 := by simpa using ht
    omega
  refine po_bind (take_ok hb (by omega) (by omega)) fun z ⟨c0, c1, hc⟩ => po_rng (by decide) (by decide) (by omega) (by omega) ?_
  refine po_bind (po_foldP (fun pre g => TiesOk (500 + pre.length) n g.2 ∧ PotOk g.1) ⟨h57, hc⟩ ?_) ?_
  · rintro pre ⟨pot, g⟩ x post e ⟨q1, q2⟩
    have hpl : pre.length + 1 ≤ 142 := by
      have := congrArg List.length e
      rw [rng_length] at this
      simp at this
      omega
    have q1' : TiesOk (500 + pre.length) n g := q1
    refine po_bind (take_ok q2 (by omega) (by omega)) fun u ⟨u0, u1, hu⟩ => po_bind (take_ok hu (by omega) (by omega)) fun v ⟨v0, v1, hv⟩ => po_if (fun c => ?_) fun _ => ?_
    · rw [Bool.and_eq_true] at c
      have c1 := of_decide_eq_true c.1
      have c2 : (u.1, v.1) ∉ g := by
        have := c.2
        rw [Bool.not_eq_true'] at this
        exact inB_f.mp this
      have hgl := q1'.len
      refine po_app (by show g.length < 100000; omega) ⟨q1'.add u0 c1 v1 c2 ?_, hv⟩
      rw [List.length_append, List.length_singleton]
      omega
    · refine ⟨q1'.up ?_, hv⟩
      rw [List.length_append]
      omega
  · rintro ⟨pot, g⟩ ⟨q1, q2⟩
    refine ⟨TiesOk.up q1 ?_, q2⟩
    rw [rng_length]
    omega
/-! ### the web -/
structure WebOk (n : Int) (ts : List (Int × Int)) : Prop where
  n1 : 1 ≤ n
  n60 : n ≤ 60
  rg : ∀ p ∈ ts, 0 ≤ p.1 ∧ p.1 < p.2 ∧ p.2 < n
  nd : ts.Nodup
  conn : Conn n ts
  len : ts.length ≤ 700
  srt : sortP ts = ts
theorem WebOk.rg4 {n : Int} {ts : List (Int × Int)} (h : WebOk n ts) : ∀ q ∈ ts, 0 ≤ q.1 ∧ q.1 < n ∧ 0 ≤ q.2 ∧ q.2 < n := fun q hq => by
  have := h.rg q hq
  omega
def moved (o : List Int) (p : Int × Int) : Int × Int := (min2 (o.getD p.1.toNat 0) (o.getD p.2.toNat 0), max2 (o.getD p.1.toNat 0) (o.getD p.2.toNat 0))
theorem perm_get {o : List Int} {n : Int} (h : o.Perm (rng 0 n)) (n0 : 0 ≤ n) {k : Int} (k0 : 0 ≤ k) (k1 : k < n) : ∃ x, o[k.toNat]? = some x ∧ 0 ≤ x ∧ x < n := by
  have hl := h.length_eq
  rw [rng_length] at hl
  have hk : k.toNat < o.length := by omega
  refine ⟨o[k.toNat], List.getElem?_eq_getElem hk, ?_⟩
  exact rng_mem.mp (h.mem_iff.mp (List.getElem_mem hk))
theorem perm_getD {o : List Int} {n : Int} (h : o.Perm (rng 0 n)) (n0 : 0 ≤ n) {k : Int} (k0 : 0 ≤ k) (k1 : k < n) : 0 ≤ o.getD k.toNat 0 ∧ o.getD k.toNat 0 < n := by
  obtain ⟨x, e, x0, x1⟩ := perm_get h n0 k0 k1
  rw [List.getD_eq_getElem?_getD, e]
  exact ⟨x0, x1⟩
theorem perm_inj {o : List Int} {n : Int} (h : o.Perm (rng 0 n)) (n0 : 0 ≤ n) {j k : Int} (j0 : 0 ≤ j) (j1 : j < n) (k0 : 0 ≤ k) (k1 : k < n) (e : o.getD j.toNat 0 = o.getD k.toNat 0) : j = k := by
  have hl := h.length_eq
  rw [rng_length] at hl
  have hnd : o.Nodup := (h.nodup_iff).mpr (rng_nodup 0 n)
  have hj : j.toNat < o.length := by omega
  have hk : k.toNat < o.length := by omega
  rw [List.getD_eq_getElem?_getD, List.getD_eq_getElem?_getD, List.getElem?_eq_getElem hj, List.getElem?_eq_getElem hk] at e
  have e' : o[j.toNat] = o[k.toNat] := e
  have hpw := List.pairwise_iff_getElem.mp hnd
  rcases Nat.lt_trichotomy j.toNat k.toNat with q | q | q
  · exact absurd e' (hpw _ _ hj hk q)
  · omega
  · exact absurd e'.symm (hpw _ _ hk hj q)
theorem perm_surj {o : List Int} {n : Int} (h : o.Perm (rng 0 n)) (n0 : 0 ≤ n) {x : Int} (x0 : 0 ≤ x) (x1 : x < n) : ∃ k, 0 ≤ k ∧ k < n ∧ o.getD k.toNat 0 = x := by
  have hx : x ∈ o := h.mem_iff.mpr (rng_mem.mpr ⟨x0, x1⟩)
  obtain ⟨i, hi⟩ := List.mem_iff_getElem?.mp hx
  have hl := h.length_eq
  rw [rng_length] at hl
  have hil := (List.getElem?_eq_some_iff.mp hi).1
  refine ⟨i, by omega, by omega, ?_⟩
  rw [List.getD_eq_getElem?_getD, Int.toNat_natCast, hi]
  rfl
theorem mm_cases (a b : Int) : (min2 a b = a ∧ max2 a b = b ∧ a ≤ b) ∨ (min2 a b = b ∧ max2 a b = a ∧ b ≤ a) := by
  unfold min2 max2
  by_cases h : b < a
  · rw [if_pos h, if_neg (by omega)]
    exact .inr ⟨rfl, rfl, by omega⟩
  · rw [if_neg h]
    by_cases h2 : b > a
    · rw [if_pos h2]
      exact .inl ⟨rfl, rfl, by omega⟩
    · rw [if_neg h2]
      have : a = b := by omega
      subst this
      exact .inl ⟨rfl, rfl, by omega⟩
theorem moved_inj {o : List Int} {n : Int} (h : o.Perm (rng 0 n)) (n0 : 0 ≤ n) {p q : Int × Int} (hp : 0 ≤ p.1 ∧ p.1 < p.2 ∧ p.2 < n) (hq : 0 ≤ q.1 ∧ q.1 < q.2 ∧ q.2 < n) (e : moved o p = moved o q) : p = q := by
  unfold moved at e
  injection e with e1 e2
  have i1 := fun e => perm_inj h n0 (j := p.1) (k := q.1) hp.1 (by omega) hq.1 (by omega) e
  have i2 := fun e => perm_inj h n0 (j := p.2) (k := q.2) (by omega) hp.2.2 (by omega) hq.2.2 e
  have i3 := fun e => perm_inj h n0 (j := p.1) (k := q.2) hp.1 (by omega) (by omega) hq.2.2 e
  have i4 := fun e => perm_inj h n0 (j := p.2) (k := q.1) (by omega) hp.2.2 hq.1 (by omega) e
  rcases mm_cases (o.getD p.1.toNat 0) (o.getD p.2.toNat 0) with ⟨a1, a2, _⟩ | ⟨a1, a2, _⟩ <;> rcases mm_cases (o.getD q.1.toNat 0) (o.getD q.2.toNat 0) with ⟨b1, b2, _⟩ | ⟨b1, b2, _⟩ <;> rw [a1, b1] at e1 <;> rw [a2, b2] at e2
  · exact Prod.ext (i1 e1) (i2 e2)
  · have := i3 e1
    have := i4 e2
    omega
  · have := i4 e1
    have := i3 e2
    omega
  · exact Prod.ext (i1 e2) (i2 e1)
theorem moved_ok {o : List Int} {n : Int} {ts : List (Int × Int)} (ho : o.Perm (rng 0 n)) (n0 : 1 ≤ n) (n1 : n ≤ 60) (h : TiesOk 700 n ts) : WebOk n (sortP (ts.map (moved o))) := by
  have hperm := sortP_perm (ts.map (moved o))
  refine ⟨n0, n1, fun p hp => ?_, ?_, ?_, ?_, ?_⟩
  · obtain ⟨q, hq, rfl⟩ := List.mem_map.mp (hperm.mem_iff.mp hp)
    have hr := h.rg q hq
    have r1 := perm_getD ho (by omega) (k := q.1) hr.1 (by omega)
    have r2 := perm_getD ho (by omega) (k := q.2) (by omega) hr.2.2
    have ne : o.getD q.1.toNat 0 ≠ o.getD q.2.toNat 0 := fun e => by
      have := perm_inj ho (by omega) hr.1 (by omega) (by omega) hr.2.2 e
      omega
    unfold moved
    dsimp only
    rcases mm_cases (o.getD q.1.toNat 0) (o.getD q.2.toNat 0) with ⟨a1, a2, _⟩ | ⟨a1, a2, _⟩ <;> rw [a1, a2] <;> omega
  · refine hperm.nodup_iff.mpr ?_
    refine List.Pairwise.map (R := fun p q => p ≠ q ∧ p ∈ ts ∧ q ∈ ts) _ (fun p q hpq e => hpq.1 (moved_inj ho (by omega) (h.rg p hpq.2.1) (h.rg q hpq.2.2) e)) ?_
    exact h.nd.imp_of_mem fun hp hq hne => ⟨hne, hp, hq⟩
  · intro S h0 hc
    obtain ⟨r, r0, r1, er⟩ := perm_surj ho (by omega) (x := 0) (by omega) (by omega)
    have key := h.conn.any (S := fun k => S (o.getD k.toNat 0)) r0 r1 (by show S (o.getD r.toNat 0); rw [er]; exact h0) fun p hp => by
      have hm : moved o p ∈ sortP (ts.map (moved o)) := hperm.mem_iff.mpr (List.mem_map.mpr ⟨p, hp, rfl⟩)
      have := hc _ hm
      unfold moved at this
      dsimp only at this
      rcases mm_cases (o.getD p.1.toNat 0) (o.getD p.2.toNat 0) with ⟨a1, a2, _⟩ | ⟨a1, a2, _⟩
      · rw [a1, a2] at this
        exact this
      · rw [a1, a2] at this
        exact this.symm
    intro k k0 k1
    obtain ⟨j, j0, j1, ej⟩ := perm_surj ho (by omega) k0 k1
    rw [← ej]
    exact key j j0 j1
  · rw [hperm.length_eq, List.length_map]
    exact h.len
  · exact (sortP_eq (List.Perm.refl _) (sortP_sorted _)).symm
theorem web_ok {s : List Int} {m : Int} (h : PotOk s) (m0 : 1 ≤ m) (m1 : m ≤ 60) : Post (law_web s m) (fun r => WebOk r.1.1 r.1.2.l ∧ PotOk r.2) noX := by
  unfold law_web
  refine po_bind (take_ok h (by omega) (by omega)) fun y2 ⟨a0, a1, ha⟩ => ?_
  refine po_bind (Q := fun g => 1 ≤ g.1 ∧ g.1 ≤ 60 ∧ PotOk g.2) (po_bind (take_ok ha (by decide) (by decide)) fun y4 ⟨b0, b1, hb⟩ => po_if (fun _ => po_bind (take_ok hb (by decide) (by decide)) fun y6 ⟨c0, c1, hc⟩ => ⟨by show 1 ≤ 1 + y6.1; omega, by show 1 + y6.1 ≤ 60; omega, hc⟩) fun _ => ⟨by show 1 ≤ 1 + y2.1; omega, by show 1 + y2.1 ≤ 60; omega, hb⟩) fun g3 ⟨g0, g1, hg⟩ => ?_
  refine po_bind (order_ok hg (by omega) (by omega)) fun y7 ⟨ho, hp⟩ => po_bind (ties_ok hp g0 g1) fun y14 ⟨ht, hq⟩ => ?_
  refine po_bind (Q := fun g => g = y14.1.map (moved y7.1)) (po_foldP (fun pre g => g = pre.map (moved y7.1)) rfl fun pre g x post e hgg => ?_) fun g12 hgg => ?_
  · have hx : x ∈ y14.1 := by rw [e]; simp
    have hr := ht.rg x hx
    obtain ⟨u, eu, _⟩ := perm_get ho (by omega) (k := x.1) hr.1 (by omega)
    obtain ⟨v, ev, _⟩ := perm_get ho (by omega) (k := x.2) (by omega) hr.2.2
    have hlt := ht.len
    have hel := congrArg List.length e
    simp at hel
    refine po_getE (getI_eq hr.1 eu) (po_getE (getI_eq (by omega) ev) (po_getE (getI_eq hr.1 eu) (po_getE (getI_eq (by omega) ev) (po_app (by rw [hgg, List.length_map]; omega) ?_))))
    show _ = _
    rw [hgg, List.map_append]
    congr 1
    show [(min2 u v, max2 u v)] = [moved y7.1 x]
    unfold moved
    rw [List.getD_eq_getElem?_getD, List.getD_eq_getElem?_getD, eu, ev]
    rfl
  · refine ⟨?_, hq⟩
    show WebOk g3.1 (sortP g12)
    rw [hgg]
    exact moved_ok ho g0 g1 ht
end G
/-! MB: neighbours and fars, as the program reckons them -/
namespace G
open PySem L2 Z
/-- the places tied to one, in the ties' order -/
def nbs (ts : List (Int × Int)) (i : Int) : List Int := ts.flatMap fun p => (if p.1 = i then [p.2] else []) ++ (if p.2 = i then [p.1] else [])
theorem nbs_snoc (ts : List (Int × Int)) (x : Int × Int) (i : Int) : nbs (ts ++ [x]) i = nbs ts i ++ ((if x.1 = i then [x.2] else []) ++ (if x.2 = i then [x.1] else [])) := by
  unfold nbs
  rw [List.flatMap_append]
  simp
theorem nbs_mem {ts : List (Int × Int)} {i j : Int} : j ∈ nbs ts i ↔ Adj ts i j := by
  unfold nbs Adj
  rw [List.mem_flatMap]
  constructor
  · rintro ⟨p, hp, h⟩
    rcases List.mem_append.mp h with h | h
    · split at h
      · rename_i e
        rw [List.mem_singleton] at h
        rw [← e, h]
        exact .inl hp
      · cases h
    · split at h
      · rename_i e
        rw [List.mem_singleton] at h
        rw [← e, h]
        exact .inr hp
      · cases h
  · rintro (h | h)
    · exact ⟨_, h, List.mem_append_left _ (by simp)⟩
    · exact ⟨_, h, List.mem_append_right _ (by simp)⟩
theorem nbs_len (ts : List (Int × Int)) (i : Int) : (nbs ts i).length ≤ 2 * ts.length := by
  induction ts with
  | nil => exact Nat.le_refl _
  | cons p ts ih =>
    have e : nbs (p :: ts) i = ((if p.1 = i then [p.2] else []) ++ (if p.2 = i then [p.1] else [])) ++ nbs ts i := rfl
    rw [e, List.length_append, List.length_append, List.length_cons]
    have h1 : (if p.1 = i then [p.2] else []).length ≤ 1 := by split <;> simp
    have h2 : (if p.2 = i then [p.1] else []).length ≤ 1 := by split <;> simp
    omega
theorem map_rng_get {α : Type} {n : Int} {F : Int → α} {j : Int} (h0 : 0 ≤ j) (h1 : j < n) : ((rng 0 n).map F)[j.toNat]? = some (F j) := by
  rw [List.getElem?_map, rng_atE (by omega)]
  show some (F (0 + (j.toNat : Int))) = _
  rw [show (0 : Int) + (j.toNat : Int) = j by omega]
theorem map_rng_set {α : Type} {n : Int} {F : Int → α} {j : Int} {y : α} (h0 : 0 ≤ j) : ((rng 0 n).map F).set j.toNat y = (rng 0 n).map fun i => if i = j then y else F i := by
  apply List.ext_getElem?
  intro k
  rw [List.getElem?_set, List.getElem?_map, List.getElem?_map, List.length_map]
  by_cases hk : k < (n - 0).toNat
  · rw [rng_atE hk]
    by_cases e : j.toNat = k
    · rw [if_pos e, if_pos (by rw [rng_length]; omega)]
      show some y = some (if (0 : Int) + (k : Int) = j then y else F (0 + k))
      rw [if_pos (by omega)]
    · rw [if_neg e]
      show some (F (0 + k)) = some (if (0 : Int) + (k : Int) = j then y else F (0 + k))
      rw [if_neg (by omega)]
  · rw [List.getElem?_eq_none (by rw [rng_length]; omega)]
    by_cases e : j.toNat = k
    · rw [if_pos e, if_neg (by rw [rng_length]; omega)]; rfl
    · rw [if_neg e]
      rfl
theorem map_rng_congr {α : Type} {n : Int} {F G : Int → α} (h : ∀ i, 0 ≤ i → i < n → F i = G i) : (rng 0 n).map F = (rng 0 n).map G := List.map_congr_left fun i hi => h i (rng_mem.mp hi).1 (rng_mem.mp hi).2
theorem range_get {N : Nat} {j : Int} (h0 : 0 ≤ j) (h1 : j < N) : getI (List.range N) j = R.ok j.toNat := by
  refine getI_eq h0 ?_
  rw [List.getElem?_range (by omega)]
def nears (n : Int) (ts : List (Int × Int)) : List (List Int) := (rng 0 n).map fun i => sortI (nbs ts i)
theorem near_lists_ok {n : Int} {ts : List (Int × Int)} (n0 : 0 ≤ n) (n1 : n < 1000) (hl : ts.length < 40000) (hr : ∀ p ∈ ts, 0 ≤ p.1 ∧ p.1 < n ∧ 0 ≤ p.2 ∧ p.2 < n) : near_lists (n, ⟨ts⟩) = R.ok (nears n ts) := by
  refine po_iff ?_
  unfold near_lists
  refine po_rng (by decide) (by decide) (by show -(2 ^ 62) ≤ n; omega) (by show n < 2 ^ 62; omega) ?_
  have hN : (rng 0 n).length = n.toNat := by rw [rng_length]; omega
  refine po_bind (po_mapStA (fun pre acc s => acc = List.range pre.length ∧ s = List.replicate pre.length []) (by show (rng 0 n).length < 100000; omega) ⟨rfl, rfl⟩ fun pre acc s x post e ⟨h1, h2⟩ => ?_) fun l5 ⟨a1, a2⟩ => ?_
  · refine po_newS ⟨?_, ?_⟩
    · show acc ++ [s.length] = _
      rw [h1, h2, List.length_replicate, List.length_append, List.length_singleton, List.range_succ]
    · show s ++ [[]] = _
      rw [h2, List.length_append, List.length_singleton, List.replicate_succ']
  · rw [hN] at a1 a2
    refine po_bind (po_foldP (fun pre g => g = (rng 0 n).map fun i => nbs pre i) ?_ fun pre g x post e hg => ?_) fun g11 hg => ?_
    · rw [a2]
      apply List.ext_getElem?
      intro k
      rw [List.getElem?_replicate, List.getElem?_map]
      by_cases hk : k < n.toNat
      · rw [if_pos hk, rng_atE (by omega)]; rfl
      · rw [if_neg hk, List.getElem?_eq_none (by rw [rng_length]; omega)]; rfl
    · obtain ⟨x1, x2, x3, x4⟩ := hr x (by rw [show ts = pre ++ x :: post from e]; simp)
      have hpl : pre.length < 40000 := by
        have : ts.length = pre.length + (post.length + 1) := by rw [show ts = pre ++ x :: post from e]; simp
        omega
      have hl1 := nbs_len pre x.1
      have hl2 := nbs_len pre x.2
      rw [a1]
      refine po_getE (range_get x1 (by omega)) (po_getS (by rw [hg]; exact map_rng_get x1 x2) (po_app (by omega) (po_setS ?_)))
      rw [hg, map_rng_set x1]
      refine po_getE (range_get x3 (by omega)) (po_getS (map_rng_get x3 x4) (po_app ?_ (po_setS ?_)))
      · split
        · rw [List.length_append, List.length_singleton]; omega
        · omega
      · rw [map_rng_set x3]
        show _ = _
        refine map_rng_congr fun i i0 i1 => ?_
        rw [nbs_snoc]
        by_cases e1 : x.1 = i
        · by_cases e2 : x.2 = i
          · subst e1
            rw [e2]
            simp
          · subst e1
            rw [if_neg (fun q => e2 q.symm), if_pos rfl, if_pos rfl, if_neg e2, List.append_nil]
        · by_cases e2 : x.2 = i
          · subst e2
            rw [if_pos rfl, if_neg (fun q => e1 q.symm), if_neg e1, if_pos rfl, List.nil_append]
          · rw [if_neg (fun q => e2 q.symm), if_neg (fun q => e1 q.symm), if_neg e1, if_neg e2, List.append_nil, List.append_nil]
    · have hg' : g11 = (rng 0 n).map fun i => nbs ts i := hg
      rw [a1]
      refine po_bind (Q := fun l => l = nears n ts) (po_eq (mapG_ok (g := fun b => sortI (nbs ts (b : Nat))) (by rw [List.length_range]; omega) fun b hb => ?_) ?_) fun l h => h
      · have hb' := List.mem_range.mp hb
        refine po_iff (po_getS (xs := nbs ts (b : Nat)) ?_ rfl)
        rw [hg']
        have := map_rng_get (n := n) (F := fun i => nbs ts i) (j := (b : Int)) (by omega) (by omega)
        rw [Int.toNat_natCast] at this
        exact this
      · unfold nears
        apply List.ext_getElem?
        intro k
        rw [List.getElem?_map, List.getElem?_map]
        by_cases hk : k < n.toNat
        · rw [rng_atE (by omega), List.getElem?_range hk]
          show some (sortI (nbs ts (k : Nat))) = some (sortI (nbs ts (0 + (k : Nat))))
          rw [Int.zero_add]
        · rw [List.getElem?_eq_none (by rw [List.length_range]; omega), List.getElem?_eq_none (by rw [rng_length]; omega)]; rfl
theorem sortI_mem {xs : List Int} {x : Int} : x ∈ sortI xs ↔ x ∈ xs := (sortI_perm xs).mem_iff
end G
/-! MC: drawn webs: neighbours, fars -/
namespace G
open PySem L2 Z
theorem web_near {n : Int} {ts : List (Int × Int)} (h : WebOk n ts) : near_lists (n, ⟨ts⟩) = R.ok (nears n ts) := near_lists_ok (by have := h.n1; omega) (by have := h.n60; omega) (by have := h.len; omega) h.rg4
theorem enum_mem {α : Type} {xs : List α} {b : Int × α} (h : b ∈ enum xs) : 0 ≤ b.1 ∧ b.1 < (xs.length : Int) ∧ xs[b.1.toNat]? = some b.2 := by
  unfold enum at h
  obtain ⟨i, hi⟩ := List.mem_iff_getElem?.mp h
  rw [List.getElem?_zip_eq_some] at hi
  obtain ⟨h1, h2⟩ := hi
  have hl := (List.getElem?_eq_some_iff.mp h2).1
  rw [rng_atE (by omega)] at h1
  have e : b.1 = (i : Int) := by
    injection h1 with h1
    omega
  rw [e]
  exact ⟨by omega, by omega, by rw [Int.toNat_natCast]; exact h2⟩
theorem web_dist {n : Int} {ts : List (Int × Int)} {p : Int} (h : WebOk n ts) (p0 : 0 ≤ p) (p1 : p < n) : IsDist n ts p (dst n ts p) := conn_ex h.rg4 h.conn p0 p1
theorem WebOk.adj {n : Int} {ts : List (Int × Int)} (h : WebOk n ts) {a b : Int} (q : Adj ts a b) : 0 ≤ a ∧ a < n ∧ 0 ≤ b ∧ b < n ∧ a ≠ b := by
  rcases q with q | q <;> have := h.rg _ q <;> dsimp only at this <;> omega
theorem perm_nodup {xs ys : List Int} (h1 : xs.Nodup) (h2 : ys.Nodup) (h : ∀ x, x ∈ xs ↔ x ∈ ys) : xs.Perm ys := by
  rw [List.perm_iff_count]
  intro a
  rw [h1.count, h2.count]
  by_cases q : a ∈ xs
  · rw [if_pos q, if_pos ((h a).mp q)]
  · rw [if_neg q, if_neg (fun z => q ((h a).mpr z))]
theorem nbs_nodup {ts : List (Int × Int)} (hn : ts.Nodup) (hr : ∀ p ∈ ts, p.1 < p.2) (i : Int) : (nbs ts i).Nodup := by
  induction ts with
  | nil => exact List.nodup_nil
  | cons p ts ih =>
    have e : nbs (p :: ts) i = ((if p.1 = i then [p.2] else []) ++ (if p.2 = i then [p.1] else [])) ++ nbs ts i := rfl
    obtain ⟨hn1, hn2⟩ := List.nodup_cons.mp hn
    have ih' := ih hn2 fun q hq => hr q (List.mem_cons_of_mem _ hq)
    have hp := hr p List.mem_cons_self
    rw [e]
    by_cases h1 : p.1 = i
    · have h2 : p.2 ≠ i := by omega
      rw [if_pos h1, if_neg h2, List.append_nil]
      refine List.nodup_cons.mpr ⟨fun q => ?_, ih'⟩
      rcases nbs_mem.mp q with q | q
      · exact hn1 (by rw [← h1] at q; exact q)
      · have := hr _ (List.mem_cons_of_mem _ q)
        dsimp only at this
        omega
    · by_cases h2 : p.2 = i
      · rw [if_neg h1, if_pos h2, List.nil_append]
        refine List.nodup_cons.mpr ⟨fun q => ?_, ih'⟩
        rcases nbs_mem.mp q with q | q
        · have := hr _ (List.mem_cons_of_mem _ q)
          dsimp only at this
          omega
        · exact hn1 (by rw [← h2] at q; exact q)
      · rw [if_neg h1, if_neg h2, List.append_nil, List.nil_append]
        exact ih'
theorem rng_sorted (i j : Int) : (rng i j).Pairwise (· < ·) := by
  unfold rng
  refine List.Pairwise.map _ (fun a b h => ?_) List.pairwise_lt_range
  show i + (a : Int) < i + b
  omega
/-- the neighbours of a place, gathered otherwise -/
theorem sort_nbs {n : Int} {ts : List (Int × Int)} (h : WebOk n ts) (i : Int) (P : Int → Bool) (hP : ∀ v, 0 ≤ v → v < n → (P v = true ↔ Adj ts i v)) : sortI (nbs ts i) = (rng 0 n).filter P := by
  refine (sortI_eq ?_ ?_).symm
  · refine perm_nodup ((rng_nodup 0 n).filter _) (nbs_nodup h.nd (fun p hp => (h.rg p hp).2.1) i) fun x => ?_
    rw [List.mem_filter, nbs_mem, rng_mem]
    constructor
    · rintro ⟨⟨x0, x1⟩, hx⟩
      exact (hP x x0 x1).mp hx
    · intro hx
      have := h.adj hx
      exact ⟨⟨this.2.2.1, this.2.2.2.1⟩, (hP x this.2.2.1 this.2.2.2.1).mpr hx⟩
  · exact ((rng_sorted 0 n).sublist List.filter_sublist).imp fun h => Int.le_of_lt h
theorem nears_get {n p : Int} {ts : List (Int × Int)} (p0 : 0 ≤ p) (p1 : p < n) : getI (nears n ts) p = R.ok (sortI (nbs ts p)) := getI_eq p0 (map_rng_get p0 p1)
theorem nbs_len_n {n : Int} {ts : List (Int × Int)} (h : WebOk n ts) (i : Int) : (nbs ts i).length ≤ n.toNat := by
  have := nodup_le (nbs_nodup h.nd (fun p hp => (h.rg p hp).2.1) i) (ys := rng 0 n) fun x hx => by
    have := h.adj (nbs_mem.mp hx)
    exact rng_mem.mpr ⟨this.2.2.1, this.2.2.2.1⟩
  rw [rng_length] at this
  omega
theorem fil_ite {α : Type} (l : List α) (P : α → Bool) : l.filterMap (fun b => if P b = true then some b else none) = l.filter P := by
  induction l with
  | nil => rfl
  | cons a l ih =>
    rw [List.filterMap_cons, List.filter_cons]
    cases P a
    · exact ih
    · show a :: _ = a :: _
      rw [ih]
end G
/-! MF: fars, as the program reckons them -/
namespace G
open PySem L2 Z
/-! ### fars -/
section
variable {n : Int} {ts : List (Int × Int)} {p : Int}
structure Bfs (n : Int) (ts : List (Int × Int)) (p : Int) (at_ : Nat) (line : List Int) (F : Int → Option Int) : Prop where
  le : at_ ≤ line.length
  nd : line.Nodup
  rg : ∀ v ∈ line, 0 ≤ v ∧ v < n
  mem : ∀ v, 0 ≤ v → v < n → (v ∈ line ↔ (F v).isSome = true)
  p0 : F p = some 0
  nn : ∀ v d, F v = some d → 0 ≤ d
  par : ∀ v ∈ line, v = p ∨ ∃ w ∈ line, Adj ts w v ∧ ∃ d, F w = some d ∧ F v = some (d + 1)
  mono : line.Pairwise fun a b => (F a).getD 0 ≤ (F b).getD 0
  cap : ∀ v ∈ line, ∀ u ∈ line.drop at_, (F v).getD 0 ≤ (F u).getD 0 + 1
  done : ∀ i u, i < at_ → line[i]? = some u → ∀ w, Adj ts u w → w ∈ line ∧ (F w).getD 0 ≤ (F u).getD 0 + 1
/-- within a turn: the neighbours of u that are gone through -/
structure BfsIn (n : Int) (ts : List (Int × Int)) (p : Int) (at_ : Nat) (u : Int) (pre : List Int) (line : List Int) (F : Int → Option Int) : Prop where
  b : Bfs n ts p at_ line F
  u0 : line[at_]? = some u
  ok : ∀ w ∈ pre, w ∈ line ∧ (F w).getD 0 ≤ (F u).getD 0 + 1
theorem BfsIn.add {at_ : Nat} {u w : Int} {pre line : List Int} {F : Int → Option Int} {d : Int} (h : BfsIn n ts p at_ u pre line F) (hw : Adj ts u w) (w0 : 0 ≤ w) (w1 : w < n) (hn : F w = none) (hd : F u = some d) :
    BfsIn n ts p at_ u (pre ++ [w]) (line ++ [w]) (fun v => if v = w then some (d + 1) else F v) := by
  have b := h.b
  have hu : u ∈ line := List.mem_of_getElem? h.u0
  have hat : at_ < line.length := (List.getElem?_eq_some_iff.mp h.u0).1
  have hwl : w ∉ line := fun q => by
    have := (b.mem w w0 w1).mp q
    rw [hn] at this
    cases this
  have ne : ∀ v ∈ line, v ≠ w := fun v hv e => hwl (e ▸ hv)
  have eF : ∀ v ∈ line, (if v = w then some (d + 1) else F v) = F v := fun v hv => if_neg (ne v hv)
  have eW : (if w = w then some (d + 1) else F w) = some (d + 1) := if_pos rfl
  have hpl : p ∈ line ∨ True := .inr trivial
  have hd0 := b.nn u d hd
  have hud : u ∈ line.drop at_ := by
    rw [List.mem_iff_getElem?]
    exact ⟨0, by rw [List.getElem?_drop]; exact h.u0⟩
  refine ⟨⟨?_, ?_, ?_, ?_, ?_, ?_, ?_, ?_, ?_, ?_⟩, ?_, ?_⟩
  · rw [List.length_append]; omega
  · rw [List.nodup_append]
    refine ⟨b.nd, by simp, fun a ha c hc => ?_⟩
    rw [List.mem_singleton] at hc
    rw [hc]
    exact ne a ha
  · intro v hv
    rcases List.mem_append.mp hv with hv | hv
    · exact b.rg v hv
    · rw [List.mem_singleton] at hv
      rw [hv]; exact ⟨w0, w1⟩
  · intro v v0 v1
    by_cases e : v = w
    · subst e
      simp
    · show v ∈ line ++ [w] ↔ (if v = w then some (d + 1) else F v).isSome = true
      rw [if_neg e, ← b.mem v v0 v1]
      simp [e]
  · show (if p = w then some (d + 1) else F p) = some 0
    rw [if_neg]
    · exact b.p0
    · intro e
      rw [← e, b.p0] at hn
      cases hn
  · intro v e hv
    have hv' : (if v = w then some (d + 1) else F v) = some e := hv
    by_cases q : v = w
    · rw [if_pos q] at hv'
      cases hv'
      omega
    · rw [if_neg q] at hv'
      exact b.nn v e hv'
  · intro v hv
    rcases List.mem_append.mp hv with hv | hv
    · rcases b.par v hv with e | ⟨x, hx, ha, k, h1, h2⟩
      · exact .inl e
      · refine .inr ⟨x, List.mem_append_left _ hx, ha, k, ?_, ?_⟩
        · show (if x = w then some (d + 1) else F x) = some k
          rw [eF x hx]; exact h1
        · show (if v = w then some (d + 1) else F v) = some (k + 1)
          rw [eF v hv]; exact h2
    · rw [List.mem_singleton] at hv
      subst hv
      refine .inr ⟨u, List.mem_append_left _ hu, hw, d, ?_, eW⟩
      show (if u = v then some (d + 1) else F u) = some d
      rw [eF u hu]; exact hd
  · rw [List.pairwise_append]
    refine ⟨b.mono.imp_of_mem fun {a c} ha hc q => ?_, by simp, fun a ha c hc => ?_⟩
    · show (if a = w then some (d + 1) else F a).getD 0 ≤ (if c = w then some (d + 1) else F c).getD 0
      rw [eF a ha, eF c hc]; exact q
    · rw [List.mem_singleton] at hc
      subst hc
      show (if a = c then some (d + 1) else F a).getD 0 ≤ (if c = c then some (d + 1) else F c).getD 0
      rw [eF a ha, eW]
      have := b.cap a ha u hud
      rw [hd] at this
      exact this
  · intro v hv x hx
    rw [List.drop_append_of_le_length (by omega)] at hx
    show (if v = w then some (d + 1) else F v).getD 0 ≤ (if x = w then some (d + 1) else F x).getD 0 + 1
    have key : ∀ x, x ∈ line.drop at_ → d ≤ (F x).getD 0 := by
      intro x hx
      have hs : line.drop at_ = u :: line.drop (at_ + 1) := by
        rw [List.drop_eq_getElem_cons hat]
        have := (List.getElem?_eq_some_iff.mp h.u0).2
        rw [this]
      have hm := b.mono.sublist (List.drop_sublist at_ line)
      rw [hs] at hm hx
      rcases List.mem_cons.mp hx with rfl | hx
      · rw [hd]; exact Int.le_refl _
      · have := (List.pairwise_cons.mp hm).1 x hx
        rw [hd] at this
        exact this
    have hvd : (if v = w then some (d + 1) else F v).getD 0 ≤ d + 1 := by
      rcases List.mem_append.mp hv with hv | hv
      · rw [eF v hv]
        have := b.cap v hv u hud
        rw [hd] at this
        exact this
      · rw [List.mem_singleton] at hv
        rw [if_pos hv]; exact Int.le_refl _
    rcases List.mem_append.mp hx with hx | hx
    · rw [eF x (List.mem_of_mem_drop hx)]
      have := key x hx
      omega
    · rw [List.mem_singleton] at hx
      rw [if_pos hx]
      show _ ≤ (d + 1) + 1
      omega
  · intro i x hi hx y hy
    rw [List.getElem?_append_left (by omega)] at hx
    obtain ⟨h1, h2⟩ := b.done i x hi hx y hy
    refine ⟨List.mem_append_left _ h1, ?_⟩
    show (if y = w then some (d + 1) else F y).getD 0 ≤ (if x = w then some (d + 1) else F x).getD 0 + 1
    rw [eF y h1, eF x (List.mem_of_getElem? hx)]
    exact h2
  · rw [List.getElem?_append_left hat]; exact h.u0
  · intro v hv
    show v ∈ line ++ [w] ∧ (if v = w then some (d + 1) else F v).getD 0 ≤ (if u = w then some (d + 1) else F u).getD 0 + 1
    rw [eF u hu]
    rcases List.mem_append.mp hv with hv | hv
    · obtain ⟨h1, h2⟩ := h.ok v hv
      rw [eF v h1]
      exact ⟨List.mem_append_left _ h1, h2⟩
    · rw [List.mem_singleton] at hv
      rw [if_pos hv, hd, hv]
      exact ⟨List.mem_append_right _ (List.mem_singleton_self _), Int.le_refl _⟩
theorem BfsIn.skip {at_ : Nat} {u w : Int} {pre line : List Int} {F : Int → Option Int} (h : BfsIn n ts p at_ u pre line F) (hw : (F w).isSome = true) (w0 : 0 ≤ w) (w1 : w < n) : BfsIn n ts p at_ u (pre ++ [w]) line F := by
  refine ⟨h.b, h.u0, fun v hv => ?_⟩
  rcases List.mem_append.mp hv with hv | hv
  · exact h.ok v hv
  · rw [List.mem_singleton] at hv
    subst hv
    have hl := (h.b.mem v w0 w1).mpr hw
    refine ⟨hl, h.b.cap v hl u ?_⟩
    rw [List.mem_iff_getElem?]
    exact ⟨0, by rw [List.getElem?_drop]; exact h.u0⟩
theorem BfsIn.next {at_ : Nat} {u : Int} {nb line : List Int} {F : Int → Option Int} (h : BfsIn n ts p at_ u nb line F) (hnb : ∀ w, Adj ts u w → w ∈ nb) : Bfs n ts p (at_ + 1) line F := by
  have hat : at_ < line.length := (List.getElem?_eq_some_iff.mp h.u0).1
  refine { h.b with le := hat, cap := fun v hv x hx => h.b.cap v hv x ?_, done := fun i x hi hx w hw => ?_ }
  · exact (List.drop_sublist_drop_left line (Nat.le_succ at_)).subset hx
  · by_cases e : i = at_
    · subst e
      rw [h.u0] at hx
      cases hx
      exact h.ok w (hnb w hw)
    · exact h.b.done i x (by omega) hx w hw
theorem Bfs.isDist {line : List Int} {F : Int → Option Int} (b : Bfs n ts p line.length line F) (hc : Conn n ts) (hr : ∀ q ∈ ts, 0 ≤ q.1 ∧ q.1 < n ∧ 0 ≤ q.2 ∧ q.2 < n) (p0 : 0 ≤ p) (p1 : p < n) :
    (∀ v, 0 ≤ v → v < n → (F v).isSome = true) ∧ IsDist n ts p fun v => (F v).getD 0 := by
  have hp : p ∈ line := (b.mem p p0 p1).mpr (by rw [b.p0]; rfl)
  have cl : ∀ u w, u ∈ line → Adj ts u w → w ∈ line ∧ (F w).getD 0 ≤ (F u).getD 0 + 1 := by
    intro u w hu hw
    obtain ⟨i, hi⟩ := List.mem_iff_getElem?.mp hu
    exact b.done i u (List.getElem?_eq_some_iff.mp hi).1 hi w hw
  have all : ∀ k, 0 ≤ k → k < n → k ∈ line := hc.any (S := fun k => k ∈ line) p0 p1 hp fun q hq => ⟨fun h => (cl q.1 q.2 h (.inl hq)).1, fun h => (cl q.2 q.1 h (.inr hq)).1⟩
  refine ⟨fun v v0 v1 => (b.mem v v0 v1).mp (all v v0 v1), ⟨?_, fun v v0 v1 => ?_, fun a c h => ?_, fun v v0 v1 hne => ?_⟩⟩
  · show (F p).getD 0 = 0
    rw [b.p0]; rfl
  · show 0 ≤ (F v).getD 0
    cases e : F v with
    | none => exact Int.le_refl _
    | some d => exact b.nn v d e
  · have ra : 0 ≤ a ∧ a < n := by
      rcases h with h | h
      · exact ⟨(hr _ h).1, (hr _ h).2.1⟩
      · exact ⟨(hr _ h).2.2.1, (hr _ h).2.2.2⟩
    exact (cl a c (all a ra.1 ra.2) h).2
  · rcases b.par v (all v v0 v1) with e | ⟨w, hw, ha, d, h1, h2⟩
    · exact absurd e hne
    · refine ⟨w, (b.rg w hw).1, (b.rg w hw).2, ha, ?_⟩
      show (F w).getD 0 + 1 = (F v).getD 0
      rw [h1, h2]; rfl
end
theorem fars_by_post {n : Int} {ts : List (Int × Int)} {p : Int} (n1 : n < 900) (hr : ∀ q ∈ ts, 0 ≤ q.1 ∧ q.1 < n ∧ 0 ≤ q.2 ∧ q.2 < n) (hc : Conn n ts) (p0 : 0 ≤ p) (p1 : p < n) :
    Post (fars_by (nears n ts) p) (fun l => l = ((rng 0 n).map fun v => some (dst n ts p v)) ∧ IsDist n ts p (dst n ts p)) noX := by
  unfold fars_by
  have hN : (nears n ts).length = n.toNat := by unfold nears; rw [List.length_map, rng_length]; omega
  rw [hN]
  refine po_rep (by omega) (by omega) (by decide) ?_
  have e0 : repL ([none] : List (Option Int)) (n.toNat : Nat) = (rng 0 n).map fun _ => none := by
    unfold repL
    rw [Int.toNat_natCast]
    have h1 : (rng 0 n).length = n.toNat := by rw [rng_length]; omega
    rw [← h1]
    generalize rng 0 n = l
    induction l with
    | nil => rfl
    | cons a l ih =>
      rw [List.length_cons, List.replicate_succ, List.flatten_cons, ih]
      rfl
  rw [e0]
  refine po_set p0 (by rw [List.length_map, rng_length]; omega) ?_
  rw [map_rng_set p0]
  refine po_bind (Q := fun g => g.2.2 = ((rng 0 n).map fun v => some (dst n ts p v)) ∧ IsDist n ts p (dst n ts p)) (po_while (fun g => 0 ≤ g.1 ∧ ∃ F, g.2.2 = (rng 0 n).map F ∧ Bfs n ts p g.1.toNat g.2.1 F) (fun g => n.toNat - g.1.toNat) ?_ (n := fu 1000) ?_ ?_) fun g hg => hg
  · rintro ⟨a, line, fd⟩ ⟨a0, F, e1, b⟩
    have e1' : fd = (rng 0 n).map F := e1
    have a0' : 0 ≤ a := a0
    have b' : Bfs n ts p a.toNat line F := b
    clear e1 b a0
    subst e1'
    refine ⟨fun ht => ?_, fun hf => ?_⟩
    · have ht : a < (line.length : Int) := of_decide_eq_true ht
      refine po_get a0' ht fun u hu e2 => ?_
      obtain ⟨u0, u1⟩ := b'.rg u hu
      refine po_getE (getI_eq u0 (map_rng_get u0 u1)) ?_
      have hin : BfsIn n ts p a.toNat u [] line F := ⟨b', e2, fun _ h => nomatch h⟩
      refine po_bind (po_foldP (fun pre g => ∃ F', g.2 = (rng 0 n).map F' ∧ BfsIn n ts p a.toNat u pre g.1 F') ⟨F, rfl, hin⟩ ?_) ?_
      · rintro pre ⟨ln, fd⟩ w post ew ⟨F', e3, h3⟩
        have e3' : fd = (rng 0 n).map F' := e3
        have h3' : BfsIn n ts p a.toNat u pre ln F' := h3
        clear e3 h3
        subst e3'
        have hw : w ∈ sortI (nbs ts u) := by rw [show sortI (nbs ts u) = pre ++ w :: post from ew]; simp
        have hw := nbs_mem.mp (sortI_mem.mp hw)
        have rw' : 0 ≤ w ∧ w < n := by
          rcases hw with h | h
          · exact ⟨(hr _ h).2.2.1, (hr _ h).2.2.2⟩
          · exact ⟨(hr _ h).1, (hr _ h).2.1⟩
        obtain ⟨w0, w1⟩ := rw'
        refine po_getE (getI_eq w0 (map_rng_get w0 w1)) ?_
        refine po_if (fun c => ?_) (fun c => ?_)
        · have hn : F' w = none := by
            cases e : F' w with
            | none => rfl
            | some d => rw [e] at c; cases c
          refine po_getE (getI_eq a0' h3'.u0) (po_getE (getI_eq u0 (map_rng_get u0 u1)) ?_)
          have hus := (h3'.b.mem u u0 u1).mp (List.mem_of_getElem? h3'.u0)
          obtain ⟨d, hd⟩ := Option.isSome_iff_exists.mp hus
          have hlen : ln.length ≤ n.toNat := by
            have := nodup_le h3'.b.nd (ys := rng 0 n) fun v hv => rng_mem.mpr (h3'.b.rg v hv)
            rw [rng_length] at this
            omega
          refine po_ofO hd (po_set w0 (by rw [List.length_map, rng_length]; omega) (po_app (by show ln.length < 100000; omega) ?_))
          refine ⟨_, map_rng_set w0, ?_⟩
          exact h3'.add hw w0 w1 hn hd
        · refine ⟨F', rfl, h3'.skip ?_ w0 w1⟩
          cases e : F' w with
          | none => rw [e] at c; exact absurd rfl c
          | some d => rfl
      · rintro ⟨ln, fd⟩ ⟨F', e3, h3⟩
        have h3' : BfsIn n ts p a.toNat u (sortI (nbs ts u)) ln F' := h3
        have h4 := h3'.next fun w hw => sortI_mem.mpr (nbs_mem.mpr hw)
        have hat : a.toNat < ln.length := (List.getElem?_eq_some_iff.mp h3'.u0).1
        have hlen : ln.length ≤ n.toNat := by
          have := nodup_le h3'.b.nd (ys := rng 0 n) fun v hv => rng_mem.mpr (h3'.b.rg v hv)
          rw [rng_length] at this
          omega
        refine ⟨⟨by show 0 ≤ a + 1; omega, F', e3, ?_⟩, ?_⟩
        · show Bfs n ts p (a + 1).toNat ln F'
          rw [show (a + 1).toNat = a.toNat + 1 by omega]
          exact h4
        · show n.toNat - (a + 1).toNat < n.toNat - a.toNat
          omega
    · have hf : ¬ a < (line.length : Int) := of_decide_eq_false hf
      have hle := b'.le
      have ea : a.toNat = line.length := by omega
      rw [ea] at b'
      obtain ⟨h1, h2⟩ := b'.isDist hc hr p0 p1
      refine ⟨map_rng_congr fun v v0 v1 => ?_, dst_is h2⟩
      have h3 := dst_eq h2 v v0 v1
      obtain ⟨d, hd⟩ := Option.isSome_iff_exists.mp (h1 v v0 v1)
      have h3' : (F v).getD 0 = dst n ts p v := h3
      rw [hd] at h3' ⊢
      exact congrArg some h3'
  · refine ⟨Int.le_refl 0, _, rfl, ?_⟩
    show Bfs n ts p 0 [p] (fun i => if i = p then some 0 else none)
    refine ⟨Nat.zero_le _, by simp, fun v hv => ?_, fun v v0 v1 => ?_, if_pos rfl, fun v d hv => ?_, fun v hv => ?_, by simp, fun v hv u hu => ?_, fun i u hi => absurd hi (Nat.not_lt_zero _)⟩
    · rw [List.mem_singleton] at hv
      rw [hv]; exact ⟨p0, p1⟩
    · show v ∈ [p] ↔ (if v = p then some (0 : Int) else none).isSome = true
      rw [List.mem_singleton]
      by_cases e : v = p
      · rw [if_pos e]; simp [e]
      · rw [if_neg e]; simp [e]
    · have hv' : (if v = p then some (0 : Int) else none) = some d := hv
      split at hv'
      · cases hv'; exact Int.le_refl _
      · cases hv'
    · exact .inl (List.mem_singleton.mp hv)
    · rw [List.drop_zero] at hu
      rw [List.mem_singleton] at hv hu
      subst hv hu
      show (if u = u then some (0 : Int) else none).getD 0 ≤ (if u = u then some (0 : Int) else none).getD 0 + 1
      rw [if_pos rfl]
      decide
  · rw [fu_eq]
    show n.toNat - (0 : Int).toNat < 1000
    omega
theorem fars_by_ok {n : Int} {ts : List (Int × Int)} {p : Int} (n1 : n < 900) (hr : ∀ q ∈ ts, 0 ≤ q.1 ∧ q.1 < n ∧ 0 ≤ q.2 ∧ q.2 < n) (hc : Conn n ts) (p0 : 0 ≤ p) (p1 : p < n) :
    fars_by (nears n ts) p = R.ok ((rng 0 n).map fun v => some (dst n ts p v)) := po_iff ((fars_by_post n1 hr hc p0 p1).mono (fun _ h => h.1) fun _ h => h)
theorem web_fars {n : Int} {ts : List (Int × Int)} {p : Int} (h : WebOk n ts) (p0 : 0 ≤ p) (p1 : p < n) : fars_by (nears n ts) p = R.ok ((rng 0 n).map fun v => some (dst n ts p v)) := fars_by_ok (by have := h.n60; omega) h.rg4 h.conn p0 p1
end G
/-! MD: webs made, nothing refused -/
namespace G
open PySem L2 Z
def nrm (p : Int × Int) : Int × Int := (min2 p.1 p.2, max2 p.1 p.2)
theorem made_ok {n : Int} {ts us : List (Int × Int)} (h : WebOk n ts) (hp : (us.map nrm).Perm ts) : made_web n us = R.ok (n, ⟨ts⟩) := by
  refine po_iff ?_
  unfold made_web
  have h1 := h.n1
  have h60 := h.n60
  refine po_if (fun c => ?_) fun _ => ?_
  · exfalso
    rw [decide_eq_true h1, decide_eq_true h60] at c
    exact absurd c (by decide)
  have hnd : (us.map nrm).Nodup := hp.nodup_iff.mpr h.nd
  have e1 : sorted_ties n us = R.ok ⟨ts⟩ := by
    refine po_iff ?_
    unfold sorted_ties
    refine po_bind (po_foldP (fun pre g => g = pre.map nrm) rfl fun pre g x post e hg => ?_) fun g hg => ?_
    · have hx : nrm x ∈ ts := hp.mem_iff.mp (List.mem_map.mpr ⟨x, by rw [e]; simp, rfl⟩)
      have hr := h.rg _ hx
      have hle : us.length ≤ 700 := by
        have := hp.length_eq
        rw [List.length_map] at this
        have := h.len
        omega
      have hel := congrArg List.length e
      simp at hel
      have hnin : nrm x ∉ pre.map nrm := by
        rw [e, List.map_append, List.map_cons] at hnd
        have := (List.nodup_append.mp hnd).2.2
        exact fun q => this _ q _ List.mem_cons_self rfl
      refine po_if (fun c => ?_) fun _ => po_app (by rw [hg, List.length_map]; omega) ?_
      · exfalso
        have hne : x.1 ≠ x.2 := fun e2 => by
          have : (nrm x).1 = (nrm x).2 := by
            unfold nrm min2 max2
            rw [e2]
          omega
        have c1 : ¬ (min2 x.1 x.2 < 0) := by have := hr.1; exact fun q => by unfold nrm at this; dsimp only at this; omega
        have c2 : ¬ (n ≤ max2 x.1 x.2) := by have := hr.2.2; exact fun q => by unfold nrm at this; dsimp only at this; omega
        have c3 : (min2 x.1 x.2, max2 x.1 x.2) ∉ g := by rw [hg]; exact hnin
        rw [decide_eq_false c1, decide_eq_false c2, decide_eq_false hne, inB_f.mpr c3] at c
        exact absurd c (by decide)
      · show _ = _
        rw [hg, List.map_append]
        rfl
    · show (⟨sortP g⟩ : Tup (Int × Int)) = ⟨ts⟩
      have e : sortP g = ts := by
        rw [show g = us.map nrm from hg]
        have : (sortP ts).Perm (us.map nrm) := (sortP_perm ts).trans hp.symm
        rw [← sortP_eq this (sortP_sorted ts)]
        exact h.srt
      rw [e]
  rw [e1, ok_bind, web_near h, ok_bind, web_fars h (Int.le_refl 0) (by omega), ok_bind]
  refine po_rng (by decide) (by decide) (by omega) (by omega) (po_bind (po_fold (fun _ => True) trivial fun s x _ hx => ?_) fun _ _ => rfl)
  obtain ⟨x0, x1⟩ := rng_mem.mp hx
  exact po_getE (getI_eq x0 (map_rng_get x0 x1)) trivial
end G
namespace G
open PySem L2 Z
theorem place_ok {n p : Int} {t : Tup (Int × Int)} (p0 : 0 ≤ p) (p1 : p < n) : place_asked (n, t) p = R.ok () := by
  unfold place_asked
  dsimp only
  rw [decide_eq_true p0, decide_eq_true p1]
  rfl
theorem nbr_ok {n p : Int} {ts : List (Int × Int)} (h : WebOk n ts) (p0 : 0 ≤ p) (p1 : p < n) : neighbours_of (n, ⟨ts⟩) p = R.ok (sortI (nbs ts p)) := by
  unfold neighbours_of
  rw [place_ok p0 p1, ok_bind, web_near h, ok_bind, nears_get p0 p1]
  rfl
theorem near_floors_ok {n : Int} {ts : List (Int × Int)} (h : WebOk n ts) : near_lists_floors (n, ⟨ts⟩) = R.ok (nears n ts) := by
  have hn1 := h.n1
  have hn := h.n60
  refine po_iff ?_
  unfold near_lists_floors
  refine po_rng (by decide) (by decide) (by show -(2 ^ 62) ≤ n; omega) (by show n < 2 ^ 62; omega) ?_
  exact po_mapGE (g := fun i => sortI (nbs ts i)) (by show (rng 0 n).length < 100000; rw [rng_length]; omega) (fun i hi => by rw [nbr_ok h (rng_mem.mp hi).1 (rng_mem.mp hi).2]; rfl) rfl
/-- how far each place is from one -/
noncomputable def farL (n : Int) (ts : List (Int × Int)) (p : Int) : List Int := (rng 0 n).map (dst n ts p)
theorem allS_map {α : Type} (l : List α) : allS (l.map some) = R.ok l := allS_iff.mpr rfl
theorem fars_ok {n p : Int} {ts : List (Int × Int)} (h : WebOk n ts) (p0 : 0 ≤ p) (p1 : p < n) : fars_from (n, ⟨ts⟩) p = R.ok (farL n ts p) := by
  unfold fars_from
  rw [place_ok p0 p1, ok_bind, web_near h, ok_bind, web_fars h p0 p1, ok_bind]
  have e : (rng 0 n).map (fun v => some (dst n ts p v)) = ((rng 0 n).map (dst n ts p)).map some := by rw [List.map_map]; rfl
  rw [e, allS_map]
  rfl
/-- how far all places are from all -/
noncomputable def tabL (n : Int) (ts : List (Int × Int)) : List (List Int) := (rng 0 n).map fun p => (rng 0 n).map (dst n ts p)
theorem tab_get {n p : Int} {ts : List (Int × Int)} (p0 : 0 ≤ p) (p1 : p < n) : getI (tabL n ts) p = R.ok ((rng 0 n).map (dst n ts p)) := getI_eq p0 (map_rng_get p0 p1)
theorem row_get {n p v : Int} {ts : List (Int × Int)} (v0 : 0 ≤ v) (v1 : v < n) : getI ((rng 0 n).map (dst n ts p)) v = R.ok (dst n ts p v) := getI_eq v0 (map_rng_get v0 v1)
theorem table_ok {n : Int} {ts : List (Int × Int)} (h : WebOk n ts) : table_of (n, ⟨ts⟩) = R.ok (tabL n ts) := by
  have hn1 := h.n1
  have hn := h.n60
  refine po_iff ?_
  unfold table_of
  refine po_rng (by decide) (by decide) (by show -(2 ^ 62) ≤ n; omega) (by show n < 2 ^ 62; omega) ?_
  refine po_mapGE (g := fun p => (rng 0 n).map (dst n ts p)) (by show (rng 0 n).length < 100000; rw [rng_length]; omega) (fun p hp => ?_) rfl
  rw [fars_ok h (rng_mem.mp hp).1 (rng_mem.mp hp).2]
  rfl
/-- how far a thing is -/
noncomputable def farT (n : Int) (ts : List (Int × Int)) (p : Int) : Thing → Int
  | .pl i => dst n ts p i
  | .ti a b => min2 (dst n ts p a) (dst n ts p b)
def ThOk (n : Int) (ts : List (Int × Int)) : Thing → Prop
  | .pl i => 0 ≤ i ∧ i < n
  | .ti a b => (a, b) ∈ ts
def allT (n : Int) (ts : List (Int × Int)) : List Thing := mkpl (rng 0 n) ++ mkti ts
def kindT (n : Int) (ts : List (Int × Int)) (k : Str) : List Thing := if decide (k = "places") = true then mkpl (rng 0 n) else if decide (k = "ties") = true then mkti ts else allT n ts
theorem pl_mem {n : Int} {t : Thing} : t ∈ mkpl (rng 0 n) ↔ ∃ i, t = .pl i ∧ 0 ≤ i ∧ i < n := by
  unfold mkpl
  rw [List.mem_map]
  constructor
  · rintro ⟨i, hi, rfl⟩
    exact ⟨i, rfl, rng_mem.mp hi⟩
  · rintro ⟨i, rfl, hi⟩
    exact ⟨i, rng_mem.mpr hi, rfl⟩
theorem ti_mem {ts : List (Int × Int)} {t : Thing} : t ∈ mkti ts ↔ ∃ a b, t = .ti a b ∧ (a, b) ∈ ts := by
  unfold mkti
  rw [List.mem_map]
  constructor
  · rintro ⟨p, hp, rfl⟩
    exact ⟨p.1, p.2, rfl, hp⟩
  · rintro ⟨a, b, rfl, h⟩
    exact ⟨(a, b), h, rfl⟩
theorem allT_mem {n : Int} {ts : List (Int × Int)} {t : Thing} : t ∈ allT n ts ↔ ThOk n ts t := by
  unfold allT
  rw [List.mem_append, pl_mem, ti_mem]
  cases t with
  | pl i =>
    constructor
    · rintro (⟨j, e, h⟩ | ⟨a, b, e, _⟩)
      · cases e; exact h
      · cases e
    · intro h
      exact .inl ⟨i, rfl, h⟩
  | ti a b =>
    constructor
    · rintro (⟨j, e, h⟩ | ⟨c, d, e, h⟩)
      · cases e
      · cases e; exact h
    · intro h
      exact .inr ⟨a, b, rfl, h⟩
theorem kindT_ok {n : Int} {ts : List (Int × Int)} {k : Str} {t : Thing} (h : t ∈ kindT n ts k) : ThOk n ts t := by
  unfold kindT at h
  split at h
  · exact allT_mem.mp (List.mem_append_left _ h)
  · split at h
    · exact allT_mem.mp (List.mem_append_right _ h)
    · exact allT_mem.mp h
theorem allT_len {n : Int} {ts : List (Int × Int)} (n0 : 0 ≤ n) : ((allT n ts).length : Int) = n + ts.length := by
  unfold allT mkpl mkti
  rw [List.length_append, List.length_map, List.length_map, rng_length]
  omega
theorem things_ok {n : Int} {ts : List (Int × Int)} {k : Str} (h : WebOk n ts) : things_of (n, ⟨ts⟩) k = R.ok (kindT n ts k) := by
  have hn1 := h.n1
  have hn := h.n60
  have hl := h.len
  refine po_iff ?_
  unfold things_of kindT
  refine po_listRng (by decide) (by decide) (by show -(2 ^ 62) ≤ n; omega) (by show n < 2 ^ 62; omega) (by show (n - 0).toNat ≤ 100000; omega) ?_
  by_cases e1 : decide (k = "places") = true
  · rw [if_pos e1, if_pos e1]; rfl
  · rw [if_neg e1, if_neg e1]
    by_cases e2 : decide (k = "ties") = true
    · rw [if_pos e2, if_pos e2]; rfl
    · rw [if_neg e2, if_neg e2]
      refine po_extend ?_ rfl
      show (mkpl (rng 0 n)).length + (mkti ts).length < 100000
      unfold mkpl mkti
      rw [List.length_map, List.length_map, rng_length]
      omega
theorem far_by_ok {n p : Int} {ts : List (Int × Int)} {t : Thing} (h : WebOk n ts) (p0 : 0 ≤ p) (p1 : p < n) (ht : ThOk n ts t) : far_by (tabL n ts) p t = R.ok (farT n ts p t) := by
  unfold far_by
  cases t with
  | pl i =>
    show (asPl (.pl i) >>= _) = _
    rw [show asPl (.pl i) = R.ok i from rfl, ok_bind, tab_get p0 p1, ok_bind, row_get ht.1 ht.2]
    rfl
  | ti a b =>
    have hr := h.rg4 _ (show (a, b) ∈ ts from ht)
    show (asTi (.ti a b) >>= _) = _
    rw [show asTi (.ti a b) = R.ok (a, b) from rfl, ok_bind, tab_get p0 p1, ok_bind, row_get hr.1 hr.2.1, ok_bind, ok_bind, row_get hr.2.2.1 hr.2.2.2]
    rfl
theorem thing_ok {n : Int} {ts : List (Int × Int)} {t : Thing} (ht : ThOk n ts t) : thing_asked (n, ⟨ts⟩) t = R.ok () := by
  unfold thing_asked
  cases t with
  | pl i =>
    show (asPl (.pl i) >>= _) = _
    rw [show asPl (.pl i) = R.ok i from rfl, ok_bind, decide_eq_true ht.1, decide_eq_true (show i < (n, (⟨ts⟩ : Tup (Int × Int))).1 from ht.2)]
    rfl
  | ti a b =>
    show (asTi (.ti a b) >>= _) = _
    rw [show asTi (.ti a b) = R.ok (a, b) from rfl, ok_bind, inB_t.mpr (show (a, b) ∈ (n, (⟨ts⟩ : Tup (Int × Int))).2.l from ht)]
    rfl
/-- a rising list of places -/
structure LooksOk (n : Int) (ls : List Int) : Prop where
  rg : ∀ l ∈ ls, 0 ≤ l ∧ l < n
  up : ls.Pairwise (· < ·)
theorem LooksOk.len {n : Int} {ls : List Int} (h : LooksOk n ls) : ls.length ≤ n.toNat := by
  have := nodup_le (h.up.imp fun z => Int.ne_of_lt z) (ys := rng 0 n) fun v hv => rng_mem.mpr (h.rg v hv)
  rw [rng_length] at this
  omega
theorem looks_ok {n : Int} {t : Tup (Int × Int)} {ls : List Int} (h : LooksOk n ls) : looks_asked (n, t) ls = R.ok () := by
  refine po_iff ?_
  unfold looks_asked
  refine po_bind (po_fold (fun _ => True) trivial fun s x _ hx => ?_) fun _ _ => rfl
  obtain ⟨x0, x1, ex⟩ := enum_mem hx
  have hm := List.mem_of_getElem? ex
  have hr := h.rg _ hm
  refine po_bind (Q := fun j => j = false) (po_if (fun c => ?_) fun _ => ?_) fun j hj => ?_
  · rw [decide_eq_true hr.1, decide_eq_true (show x.2 < (n, t).1 from hr.2)] at c
    exact absurd c (by decide)
  · refine po_bind (Q := fun j => j = false) (po_if (fun c => ?_) fun _ => rfl) fun j hj => hj
    have c' := of_decide_eq_true c
    refine po_get (by omega) (by omega) fun y _ ey => ?_
    refine decide_eq_false ?_
    obtain ⟨i1, e1⟩ := List.getElem?_eq_some_iff.mp ey
    obtain ⟨i2, e2⟩ := List.getElem?_eq_some_iff.mp ex
    have := List.pairwise_iff_getElem.mp h.up _ _ i1 i2 (by omega)
    rw [e1, e2] at this
    omega
  · rw [hj]
    exact trivial
section
variable {κ α : Type} [DecidableEq κ]
def kstep (ks : List κ) (k : κ) : List κ := if k ∈ ks then ks else ks ++ [k]
def keysG (c : α → κ) (ts : List α) : List κ := (ts.map c).foldl kstep []
def rowsG (c : α → κ) (ks : List κ) (ts : List α) : List (List α) := ks.map fun k => ts.filter fun t => decide (c t = k)
def likesG (c : α → κ) (ts : List α) : List (List α) := (rowsG c (keysG c ts) ts).filter fun r => decide ((1 : Int) < (r.length : Int))
theorem keysG_snoc (c : α → κ) (ts : List α) (t : α) : keysG c (ts ++ [t]) = kstep (keysG c ts) (c t) := by
  unfold keysG
  rw [List.map_append, List.foldl_append]
  rfl
theorem kstep_mem {ks : List κ} {k j : κ} : j ∈ kstep ks k ↔ j ∈ ks ∨ j = k := by
  unfold kstep
  by_cases h : k ∈ ks
  · rw [if_pos h]
    exact ⟨.inl, fun z => z.elim id fun e => e ▸ h⟩
  · rw [if_neg h]
    simp
theorem kstep_nodup {ks : List κ} {k : κ} (h : ks.Nodup) : (kstep ks k).Nodup := by
  unfold kstep
  by_cases q : k ∈ ks
  · rw [if_pos q]; exact h
  · rw [if_neg q]
    rw [List.nodup_append]
    refine ⟨h, by simp, fun a ha b hb e => ?_⟩
    simp at hb
    subst hb
    exact q (e ▸ ha)
theorem snoc_ind {α : Type} {P : List α → Prop} (h0 : P []) (hs : ∀ xs x, P xs → P (xs ++ [x])) (xs : List α) : P xs := by
  have : P xs.reverse.reverse := by
    induction xs.reverse with
    | nil => exact h0
    | cons x l ih =>
      rw [List.reverse_cons]
      exact hs _ _ ih
  rwa [List.reverse_reverse] at this
theorem keysG_mem {c : α → κ} {ts : List α} {k : κ} : k ∈ keysG c ts ↔ ∃ t ∈ ts, c t = k := by
  induction ts using snoc_ind with
  | h0 => simp [keysG]
  | hs ts t ih =>
    rw [keysG_snoc, kstep_mem, ih]
    constructor
    · rintro (⟨u, hu, e⟩ | rfl)
      · exact ⟨u, List.mem_append_left _ hu, e⟩
      · exact ⟨t, by simp, rfl⟩
    · rintro ⟨u, hu, e⟩
      rcases List.mem_append.mp hu with h | h
      · exact .inl ⟨u, h, e⟩
      · simp at h
        exact .inr (h ▸ e.symm)
theorem keysG_nodup {c : α → κ} {ts : List α} : (keysG c ts).Nodup := by
  induction ts using snoc_ind with
  | h0 => exact List.Pairwise.nil
  | hs ts t ih => rw [keysG_snoc]; exact kstep_nodup ih
theorem keysG_len {c : α → κ} {ts : List α} : (keysG c ts).length ≤ ts.length := by
  induction ts using snoc_ind with
  | h0 => exact Nat.le_refl _
  | hs ts t ih =>
    rw [keysG_snoc, List.length_append]
    unfold kstep
    split
    · omega
    · rw [List.length_append]; simp; omega
theorem fidx_mem {k : κ} : ∀ {ks : List κ}, k ∈ ks → ∃ j, fidx k ks = some j ∧ ks[j]? = some k
  | [], h => nomatch h
  | x :: xs, h => by
    by_cases e : x = k
    · exact ⟨0, by unfold fidx; rw [if_pos e], by rw [e]; rfl⟩
    · obtain ⟨j, h1, h2⟩ := fidx_mem (k := k) (ks := xs) ((List.mem_cons.mp h).resolve_left fun z => e z.symm)
      exact ⟨j + 1, by unfold fidx; rw [if_neg e, h1]; rfl, by simpa using h2⟩
/-- the rows once a new code has an empty row -/
theorem rowsG_new {c : α → κ} {ts : List α} {k : κ} (h : k ∉ keysG c ts) : rowsG c (keysG c ts ++ [k]) ts = rowsG c (keysG c ts) ts ++ [[]] := by
  unfold rowsG
  rw [List.map_append, List.map_cons, List.map_nil]
  congr 2
  rw [List.filter_eq_nil_iff]
  intro t ht e
  exact h (keysG_mem.mpr ⟨t, ht, of_decide_eq_true e⟩)
theorem rowsG_get {c : α → κ} {ks : List κ} {ts : List α} {j : Nat} {k : κ} (h : ks[j]? = some k) : (rowsG c ks ts)[j]? = some (ts.filter fun t => decide (c t = k)) := by
  unfold rowsG
  rw [List.getElem?_map, h]
  rfl
theorem rowsG_set {c : α → κ} {ks : List κ} {ts : List α} {t : α} {j : Nat} (hd : ks.Nodup) (h : ks[j]? = some (c t)) : (rowsG c ks ts).set j ((ts.filter fun u => decide (c u = c t)) ++ [t]) = rowsG c ks (ts ++ [t]) := by
  refine List.ext_getElem? fun i => ?_
  unfold rowsG
  rw [List.getElem?_set, List.getElem?_map, List.getElem?_map, List.length_map]
  obtain ⟨hj, ej⟩ := List.getElem?_eq_some_iff.mp h
  by_cases e : j = i
  · subst e
    rw [if_pos rfl, if_pos hj, h]
    simp
  · rw [if_neg e]
    cases q : ks[i]? with
    | none => rfl
    | some k =>
      have : c t ≠ k := fun z => by
        obtain ⟨hi, ei⟩ := List.getElem?_eq_some_iff.mp q
        rcases Nat.lt_or_gt_of_ne e with l | l
        · exact List.pairwise_iff_getElem.mp hd _ _ hj hi l (by rw [ej, ei, z])
        · exact List.pairwise_iff_getElem.mp hd _ _ hi hj l (by rw [ej, ei, z])
      simp [this]
theorem keysG_comp {β : Type} [DecidableEq β] {f : κ → β} (hf : ∀ a b, f a = f b → a = b) (c : α → κ) (ts : List α) : keysG (fun t => f (c t)) ts = (keysG c ts).map f := by
  induction ts using snoc_ind with
  | h0 => rfl
  | hs ts t ih =>
    rw [keysG_snoc, keysG_snoc, ih]
    unfold kstep
    by_cases h : c t ∈ keysG c ts
    · rw [if_pos h, if_pos (List.mem_map_of_mem h)]
    · rw [if_neg h, if_neg, List.map_append]
      · rfl
      · intro z
        obtain ⟨u, h1, h2⟩ := List.mem_map.mp z
        exact h (hf _ _ h2 ▸ h1)
theorem rowsG_comp {β : Type} [DecidableEq β] {f : κ → β} (hf : ∀ a b, f a = f b → a = b) (c : α → κ) (ks : List κ) (ts : List α) : rowsG (fun t => f (c t)) (ks.map f) ts = rowsG c ks ts := by
  unfold rowsG
  rw [List.map_map]
  refine List.map_congr_left fun k _ => List.filter_congr fun t _ => ?_
  by_cases e : c t = k
  · rw [decide_eq_true e, decide_eq_true (congrArg f e)]
  · rw [decide_eq_false e, decide_eq_false fun z => e (hf _ _ z)]
def mkG (i : Nat) : List κ → List (κ × Nat)
  | [] => []
  | k :: ks => (k, i) :: mkG (i + 1) ks
theorem mkG_len : ∀ (i : Nat) (ks : List κ), (mkG i ks).length = ks.length
  | _, [] => rfl
  | i, k :: ks => by show (mkG (i + 1) ks).length + 1 = _; rw [mkG_len]; rfl
theorem mkG_has {k : κ} : ∀ (i : Nat) (ks : List κ), mhas (mkG i ks) k = decide (k ∈ ks)
  | _, [] => rfl
  | i, j :: ks => by
    show (decide (j = k) || mhas (mkG (i + 1) ks) k) = _
    rw [mkG_has (i + 1) ks]
    by_cases e : j = k
    · rw [decide_eq_true e, decide_eq_true (show k ∈ j :: ks from e ▸ List.mem_cons_self)]; rfl
    · rw [decide_eq_false e, Bool.false_or]
      by_cases q : k ∈ ks
      · rw [decide_eq_true q, decide_eq_true (List.mem_cons_of_mem _ q)]
      · rw [decide_eq_false q, decide_eq_false fun z => (List.mem_cons.mp z).elim (fun w => e w.symm) q]
theorem mkG_snoc {k : κ} : ∀ (i : Nat) (ks : List κ), mkG i (ks ++ [k]) = mkG i ks ++ [(k, i + ks.length)]
  | _, [] => rfl
  | i, j :: ks => by
    show (j, i) :: mkG (i + 1) (ks ++ [k]) = (j, i) :: (mkG (i + 1) ks ++ [(k, i + (ks.length + 1))])
    rw [mkG_snoc (i + 1) ks, show i + 1 + ks.length = i + (ks.length + 1) by omega]
theorem mkG_get {k : κ} : ∀ (i : Nat) (ks : List κ), mget (mkG i ks) k = (fidx k ks).map (i + ·)
  | _, [] => rfl
  | i, j :: ks => by
    show mget ((j, i) :: mkG (i + 1) ks) k = _
    rw [mget_cons]
    unfold fidx
    by_cases e : j = k
    · rw [if_pos e, if_pos e]; rfl
    · rw [if_neg e, if_neg e, mkG_get (i + 1) ks, Option.map_map]
      cases fidx k ks with
      | none => rfl
      | some x => show some (i + 1 + x) = some (i + (x + 1)); congr 1; omega
theorem mkG_vals : ∀ (i : Nat) (ks : List κ), (mkG i ks).map (·.2) = List.range' i ks.length
  | _, [] => rfl
  | i, k :: ks => by
    show i :: (mkG (i + 1) ks).map (·.2) = List.range' i (ks.length + 1)
    rw [mkG_vals (i + 1) ks]
    rfl
end
theorem filSt_const {α β γ : Type} {f : γ → α → R (Option β × γ)} {g : α → Option β} {s : γ} : ∀ {xs : List α}, (∀ x ∈ xs, f s x = R.ok (g x, s)) → filSt f s xs = R.ok (xs.filterMap g, s)
  | [], _ => rfl
  | x :: xs, h => by
    unfold filSt
    rw [h x List.mem_cons_self, ok_bind]
    show filSt f s xs >>= _ = _
    rw [filSt_const fun y hy => h y (List.mem_cons_of_mem _ hy), ok_bind, List.filterMap_cons]
    cases g x <;> rfl
theorem mapR_some {α β : Type} {f : α → R β} {g : α → Option β} : ∀ {xs : List α}, (∀ x ∈ xs, ∃ y, g x = some y ∧ f x = R.ok y) → mapR f xs = R.ok (xs.filterMap g)
  | [], _ => rfl
  | x :: xs, h => by
    obtain ⟨y, h1, h2⟩ := h x List.mem_cons_self
    unfold mapR
    rw [h2, ok_bind, mapR_some fun y hy => h y (List.mem_cons_of_mem _ hy), List.filterMap_cons, h1]
    rfl
theorem range_pick {β γ : Type} (st : List β) (p : β → Option γ) : (List.range st.length).filterMap (fun i => st[i]?.bind p) = st.filterMap p := by
  have key : ∀ m, m ≤ st.length → (List.range m).filterMap (fun i => st[i]?.bind p) = (st.take m).filterMap p := by
    intro m
    induction m with
    | zero => intro _; rfl
    | succ m ih =>
      intro h
      have e : st[m]? = some st[m] := List.getElem?_eq_getElem (by omega)
      rw [List.range_succ, List.filterMap_append, ih (by omega), List.take_add_one, List.filterMap_append, e]
      congr 1
      simp [List.filterMap_cons, e]
  rw [key _ (Nat.le_refl _), List.take_length]
/-- the rows of two or more: their numbers, and what they hold -/
theorem pick_deref {β : Type} (st : List (List β)) : deref st ((List.range st.length).filterMap fun i => st[i]?.bind fun (r : List β) => if decide ((1 : Int) < (r.length : Int)) = true then some i else none) = R.ok (st.filter fun r => decide ((1 : Int) < (r.length : Int))) := by
  unfold deref
  rw [mapR_some (g := fun i => st[i]?)]
  · congr 1
    rw [List.filterMap_filterMap]
    have : (fun (i : Nat) => (st[i]?.bind fun (r : List β) => if decide ((1 : Int) < (r.length : Int)) = true then some i else none).bind fun i => st[i]?) = fun (i : Nat) => st[i]?.bind fun (r : List β) => if decide ((1 : Int) < (r.length : Int)) = true then some r else none := by
      funext i
      cases e : st[i]? with
      | none => rfl
      | some r =>
        show ((if decide ((1 : Int) < (r.length : Int)) = true then some i else none).bind fun i => st[i]?) = (if decide ((1 : Int) < (r.length : Int)) = true then some r else none)
        by_cases q : decide ((1 : Int) < (r.length : Int)) = true
        · rw [if_pos q, if_pos q]; exact e
        · rw [if_neg q, if_neg q]; rfl
    rw [this, range_pick st fun (r : List β) => if decide ((1 : Int) < (r.length : Int)) = true then some r else none]
    rw [fil_ite]
  · intro i hi
    obtain ⟨k, _, hk⟩ := List.mem_filterMap.mp hi
    cases e : st[k]? with
    | none => rw [e] at hk; cases hk
    | some r =>
      rw [e] at hk
      have : k = i := by
        change (if decide ((1 : Int) < (r.length : Int)) = true then some k else none) = some i at hk
        split at hk
        · exact Option.some.inj hk
        · cases hk
      subst this
      exact ⟨r, e, by unfold getS; rw [e]; rfl⟩
theorem kind_len {n : Int} {ts : List (Int × Int)} {k : Str} (h : WebOk n ts) : (kindT n ts k).length ≤ 800 := by
  have hn1 := h.n1
  have hn := h.n60
  have hl := h.len
  have : (kindT n ts k).length ≤ (allT n ts).length := by
    unfold kindT allT
    rw [List.length_append]
    split
    · omega
    · split
      · omega
      · rw [List.length_append]; omega
  have := allT_len (ts := ts) (show 0 ≤ n by omega)
  omega
noncomputable def codeT (n : Int) (ts : List (Int × Int)) (ls : List Int) (t : Thing) : List Int := ls.map fun l => farT n ts l t
noncomputable def likesL (n : Int) (ts : List (Int × Int)) (ls : List Int) (k : Str) : List (List Thing) := likesG (codeT n ts ls) (kindT n ts k)
theorem by_code_ok {n : Int} {ts : List (Int × Int)} {ls : List Int} {k : Str} (h : WebOk n ts) (hl : LooksOk n ls) : by_code (n, ⟨ts⟩) ls k = R.ok (mkG 0 (keysG (fun t => Tup.mk (codeT n ts ls t)) (kindT n ts k)), rowsG (codeT n ts ls) (keysG (codeT n ts ls) (kindT n ts k)) (kindT n ts k)) := by
  have hlen := hl.len
  have hn := h.n60
  have hk := kind_len (k := k) h
  have inj : ∀ a b : List Int, Tup.mk a = Tup.mk b → a = b := fun a b e => by injection e
  rw [← rowsG_comp inj, ← keysG_comp inj]
  refine po_iff ?_
  unfold by_code
  rw [table_ok h, ok_bind, things_ok h, ok_bind]
  generalize hc : (fun t => Tup.mk (codeT n ts ls t)) = c
  refine po_bind (po_foldP (fun pre s => s = (mkG 0 (keysG c pre), rowsG c (keysG c pre) pre)) rfl fun pre s t post hp hs => ?_) fun r hr => ?_
  · subst hs
    have ht : ThOk n ts t := kindT_ok (k := k) (by rw [hp]; simp)
    have hpl : pre.length ≤ 800 := by rw [hp, List.length_append] at hk; omega
    have hkl := keysG_len (c := c) (ts := pre)
    refine po_mapGE (g := fun l => farT n ts l t) (by omega) (fun l hm => by
      rw [far_by_ok h (hl.rg l hm).1 (hl.rg l hm).2 ht]
      rfl) ?_
    have ec : Tup.mk (ls.map fun l => farT n ts l t) = c t := by rw [← hc]; rfl
    rw [ec]
    refine po_bind (Q := fun g => g = (mkG 0 (keysG c (pre ++ [t])), rowsG c (keysG c (pre ++ [t])) pre)) (po_if (fun q => ?_) fun q => ?_) fun g hg => ?_
    · rw [mkG_has] at q
      have hm : c t ∉ keysG c pre := fun z => by rw [decide_eq_true z] at q; exact absurd q (by decide)
      rw [keysG_snoc]
      unfold kstep
      rw [if_neg hm, rowsG_new hm]
      refine po_newS (po_mput (by rw [mkG_len]; omega) ?_)
      show (_, _) = (_, _)
      rw [mput_new (by rw [mkG_has]; exact decide_eq_false hm), mkG_snoc]
      unfold rowsG
      rw [List.length_map, Nat.zero_add]
    · rw [mkG_has] at q
      have hm : c t ∈ keysG c pre := by
        by_cases z : c t ∈ keysG c pre
        · exact z
        · exfalso
          apply q
          rw [decide_eq_false z]
          rfl
      rw [keysG_snoc]
      unfold kstep
      rw [if_pos hm]
      exact rfl
    · subst hg
      have hd := keysG_nodup (c := c) (ts := pre ++ [t])
      obtain ⟨j, e1, e2⟩ := fidx_mem (k := c t) (ks := keysG c (pre ++ [t])) (keysG_mem.mpr ⟨t, by simp, rfl⟩)
      refine po_mgetE (x := j) (by rw [mkG_get, e1]; show some (0 + j) = _; rw [Nat.zero_add]) (po_getS (rowsG_get e2) (po_app ?_ (po_setS ?_)))
      · refine Nat.lt_of_le_of_lt (List.length_filter_le _ _) ?_
        omega
      · show (_, _) = (_, _)
        rw [rowsG_set hd e2]
  · subst hr
    exact rfl
theorem likes_pick {n : Int} {ts : List (Int × Int)} {ls : List Int} {k : Str} (h : WebOk n ts) : filStG (fun (g10 : (List (List Thing))) (b10 : Ix) => do
      let x14 ← getS g10 b10
      if (decide ((1 : Int) < (x14.length : Int))) = true then do
        R.ok ((some b10), g10)
      else
        R.ok (none, g10)) (rowsG (codeT n ts ls) (keysG (codeT n ts ls) (kindT n ts k)) (kindT n ts k)) ((mkG 0 (keysG (fun t => Tup.mk (codeT n ts ls t)) (kindT n ts k))).map (·.2)) =
    R.ok ((List.range (rowsG (codeT n ts ls) (keysG (codeT n ts ls) (kindT n ts k)) (kindT n ts k)).length).filterMap (fun i => (rowsG (codeT n ts ls) (keysG (codeT n ts ls) (kindT n ts k)) (kindT n ts k))[i]?.bind fun r => if decide ((1 : Int) < (r.length : Int)) = true then some i else none), rowsG (codeT n ts ls) (keysG (codeT n ts ls) (kindT n ts k)) (kindT n ts k)) := by
  have hk := kind_len (k := k) h
  have inj : ∀ a b : List Int, Tup.mk a = Tup.mk b → a = b := fun a b e => by injection e
  have hkl := keysG_len (c := codeT n ts ls) (ts := kindT n ts k)
  rw [mkG_vals, keysG_comp inj, List.length_map, ← List.range_eq_range']
  have e : (rowsG (codeT n ts ls) (keysG (codeT n ts ls) (kindT n ts k)) (kindT n ts k)).length = (keysG (codeT n ts ls) (kindT n ts k)).length := by unfold rowsG; rw [List.length_map]
  rw [e]
  unfold filStG
  rw [grd_t (decide_eq_true (by rw [List.length_range]; omega)), ok_bind]
  refine filSt_const fun i hi => ?_
  rw [List.mem_range, ← e] at hi
  unfold getS
  rw [List.getElem?_eq_getElem hi]
  show (if _ then _ else _) = _
  by_cases q : decide ((1 : Int) < (((rowsG (codeT n ts ls) (keysG (codeT n ts ls) (kindT n ts k)) (kindT n ts k))[i]).length : Int)) = true
  · rw [if_pos q]
    show _ = R.ok ((if _ then _ else _), _)
    rw [if_pos q]
  · rw [if_neg q]
    show _ = R.ok ((if _ then _ else _), _)
    rw [if_neg q]
theorem likes_by_ok {n : Int} {ts : List (Int × Int)} {ls : List Int} {k : Str} (h : WebOk n ts) (hl : LooksOk n ls) : likes_by (n, ⟨ts⟩) ls k = R.ok (likesL n ts ls k) := by
  unfold likes_by
  rw [looks_ok hl, ok_bind, by_code_ok h hl, ok_bind]
  show filStG _ (rowsG (codeT n ts ls) (keysG (codeT n ts ls) (kindT n ts k)) (kindT n ts k)) ((mkG 0 (keysG (fun t => Tup.mk (codeT n ts ls t)) (kindT n ts k))).map (·.2)) >>= _ = _
  rw [likes_pick h, ok_bind]
  show deref _ _ >>= _ = _
  rw [pick_deref, ok_bind]
  rfl
theorem likesG_mem {κ α : Type} [DecidableEq κ] {c : α → κ} {ts : List α} {r : List α} : r ∈ likesG c ts ↔ ∃ t ∈ ts, r = ts.filter (fun u => decide (c u = c t)) ∧ 1 < r.length := by
  unfold likesG rowsG
  rw [List.mem_filter, List.mem_map]
  constructor
  · rintro ⟨⟨k, hk, rfl⟩, h2⟩
    obtain ⟨t, ht, rfl⟩ := keysG_mem.mp hk
    have := of_decide_eq_true h2
    exact ⟨t, ht, rfl, by omega⟩
  · rintro ⟨t, ht, e, h2⟩
    exact ⟨⟨c t, keysG_mem.mpr ⟨t, ht, rfl⟩, e.symm⟩, decide_eq_true (by omega)⟩
theorem codeT_eq {n : Int} {ts : List (Int × Int)} {ls : List Int} {a b : Thing} : codeT n ts ls a = codeT n ts ls b ↔ ∀ l ∈ ls, farT n ts l a = farT n ts l b := by
  unfold codeT
  exact List.map_inj_left
theorem kindT_nodup {n : Int} {ts : List (Int × Int)} {k : Str} (h : WebOk n ts) : (kindT n ts k).Nodup := by
  have h1 : (mkpl (rng 0 n)).Nodup := by
    unfold mkpl
    refine List.Pairwise.map _ (fun a b (e : a ≠ b) q => e ?_) (rng_nodup 0 n)
    injection q
  have h2 : (mkti ts).Nodup := by
    unfold mkti
    refine List.Pairwise.map _ (fun a b (e : a ≠ b) q => e ?_) h.nd
    injection q with q1 q2
    exact Prod.ext q1 q2
  unfold kindT
  split
  · exact h1
  · split
    · exact h2
    · unfold allT
      rw [List.nodup_append]
      refine ⟨h1, h2, fun a ha b hb e => ?_⟩
      obtain ⟨i, rfl, _⟩ := pl_mem.mp ha
      obtain ⟨c, d, rfl, _⟩ := ti_mem.mp hb
      cases e
open Classical in
/-- no place but they themselves parts them -/
noncomputable def twB (n : Int) (ts : List (Int × Int)) (a b : Int) : Bool := decide (∀ c, 0 ≤ c → c < n → c ≠ a → c ≠ b → (Adj ts a c ↔ Adj ts b c))
open Classical in
theorem twB_iff {n : Int} {ts : List (Int × Int)} {a b : Int} : twB n ts a b = true ↔ ∀ c, 0 ≤ c → c < n → c ≠ a → c ≠ b → (Adj ts a c ↔ Adj ts b c) := by
  unfold twB
  rw [decide_eq_true_iff]
theorem twB_refl (n : Int) (ts : List (Int × Int)) (a : Int) : twB n ts a a = true := twB_iff.mpr fun _ _ _ _ _ => Iff.rfl
theorem twB_symm {n : Int} {ts : List (Int × Int)} {a b : Int} (h : twB n ts a b = true) : twB n ts b a = true := twB_iff.mpr fun c c0 c1 h1 h2 => (twB_iff.mp h c c0 c1 h2 h1).symm
theorem twB_comm (n : Int) (ts : List (Int × Int)) (a b : Int) : twB n ts a b = twB n ts b a := by
  rw [Bool.eq_iff_iff]
  exact ⟨twB_symm, twB_symm⟩
theorem twB_trans {n : Int} {ts : List (Int × Int)} {a b c : Int} (hr : ∀ x, x = a ∨ x = b ∨ x = c → 0 ≤ x ∧ x < n) (h1 : twB n ts a b = true) (h2 : twB n ts b c = true) : twB n ts a c = true := by
  by_cases eab : a = b
  · rw [eab]; exact h2
  by_cases ebc : b = c
  · rw [← ebc]; exact h1
  by_cases eac : a = c
  · rw [eac]; exact twB_refl _ _ _
  refine twB_iff.mpr fun d d0 d1 n1 n2 => ?_
  by_cases e : d = b
  · subst e
    have q1 := twB_iff.mp h1 c (hr c (.inr (.inr rfl))).1 (hr c (.inr (.inr rfl))).2 (fun e => eac e.symm) (fun e => ebc e.symm)
    have q2 := twB_iff.mp h2 a (hr a (.inl rfl)).1 (hr a (.inl rfl)).2 eab eac
    exact ⟨fun h => (q1.mp (q2.mp h.symm).symm).symm, fun h => (q2.mpr (q1.mpr h.symm).symm).symm⟩
  · exact (twB_iff.mp h1 d d0 d1 n1 e).trans (twB_iff.mp h2 d d0 d1 e n2)
theorem filter_eq_iff {α : Type} {l : List α} {P Q : α → Bool} : l.filter P = l.filter Q ↔ ∀ x ∈ l, P x = Q x := by
  constructor
  · intro e x hx
    rw [Bool.eq_iff_iff]
    constructor
    · intro p
      have : x ∈ l.filter P := List.mem_filter.mpr ⟨hx, p⟩
      rw [e] at this
      exact (List.mem_filter.mp this).2
    · intro p
      have : x ∈ l.filter Q := List.mem_filter.mpr ⟨hx, p⟩
      rw [← e] at this
      exact (List.mem_filter.mp this).2
  · exact fun h => List.filter_congr h
open Classical in
theorem tw_lists {n : Int} {ts : List (Int × Int)} {a b : Int} (h : WebOk n ts) : decide ((rng 0 n).filter (fun x => decide (Adj ts a x) && !decide (x = b)) = (rng 0 n).filter (fun x => decide (Adj ts b x) && !decide (x = a))) = twB n ts a b := by
  rw [Bool.eq_iff_iff, decide_eq_true_iff, twB_iff, filter_eq_iff]
  constructor
  · intro q c c0 c1 na nb
    have := q c (rng_mem.mpr ⟨c0, c1⟩)
    rw [decide_eq_false na, decide_eq_false nb] at this
    simpa using this
  · intro q x hx
    obtain ⟨x0, x1⟩ := rng_mem.mp hx
    by_cases ea : x = a
    · subst ea
      have : ¬ Adj ts x x := fun z => (h.adj z).2.2.2.2 rfl
      simp [this]
    · by_cases eb : x = b
      · subst eb
        have : ¬ Adj ts x x := fun z => (h.adj z).2.2.2.2 rfl
        simp [this]
      · have := q x x0 x1 ea eb
        simp [ea, eb, this]
/-- all twins of a place, itself too -/
noncomputable def clsL (n : Int) (ts : List (Int × Int)) (p : Int) : List Int := (rng 0 n).filter fun o => twB n ts p o
/-- whether a place is the first of its twins -/
noncomputable def fstB (n : Int) (ts : List (Int × Int)) (p : Int) : Bool := (rng 0 p).all fun q => !twB n ts q p
theorem fstB_iff {n : Int} {ts : List (Int × Int)} {p : Int} : fstB n ts p = true ↔ ∀ q, 0 ≤ q → q < p → twB n ts q p = false := by
  unfold fstB
  rw [List.all_eq_true]
  constructor
  · intro h q q0 q1
    have := h q (rng_mem.mpr ⟨q0, q1⟩)
    simpa using this
  · intro h q hq
    obtain ⟨q0, q1⟩ := rng_mem.mp hq
    rw [h q q0 q1]; rfl
noncomputable def twinL (n : Int) (ts : List (Int × Int)) : List (List Int) := (((rng 0 n).filter fun p => fstB n ts p).map (clsL n ts)).filter fun r => decide ((1 : Int) < (r.length : Int))
theorem cls_first {n : Int} {ts : List (Int × Int)} {p : Int} (p0 : 0 ≤ p) (p1 : p < n) (h : fstB n ts p = true) : clsL n ts p = [p] ++ (rng (p + 1) n).filter fun o => twB n ts p o := by
  have e : rng 0 n = rng 0 p ++ ([p] ++ rng (p + 1) n) := by
    apply List.ext_getElem?
    intro k
    by_cases hk : k < (n - 0).toNat
    · rw [rng_atE hk]
      by_cases h1 : k < (p - 0).toNat
      · rw [List.getElem?_append_left (by rw [rng_length]; exact h1), rng_atE h1]
      · rw [List.getElem?_append_right (by rw [rng_length]; omega), rng_length]
        by_cases h2 : k = (p - 0).toNat
        · rw [h2, Nat.sub_self]
          show _ = some p
          congr 1
          omega
        · rw [List.getElem?_append_right (by simp; omega)]
          rw [rng_atE (by simp; omega)]
          congr 1
          simp
          omega
    · rw [List.getElem?_eq_none (by rw [rng_length]; omega), List.getElem?_eq_none (by rw [List.length_append, List.length_append, rng_length, rng_length]; simp; omega)]
  unfold clsL
  rw [e, List.filter_append, List.filter_append]
  have e1 : (rng 0 p).filter (fun o => twB n ts p o) = [] := by
    rw [List.filter_eq_nil_iff]
    intro q hq
    obtain ⟨q0, q1⟩ := rng_mem.mp hq
    rw [twB_comm, fstB_iff.mp h q q0 q1]
    decide
  have e2 : [p].filter (fun o => twB n ts p o) = [p] := by
    rw [List.filter_cons_of_pos (twB_refl _ _ _)]
    rfl
  rw [e1, e2, List.nil_append]
/-- each place has a first twin -/
theorem has_first {n : Int} {ts : List (Int × Int)} {p : Int} (p0 : 0 ≤ p) (p1 : p < n) : ∃ q, 0 ≤ q ∧ q ≤ p ∧ fstB n ts q = true ∧ twB n ts q p = true := by
  have key : ∀ (m : Nat) (p : Int), p.toNat ≤ m → 0 ≤ p → p < n → ∃ q, 0 ≤ q ∧ q ≤ p ∧ fstB n ts q = true ∧ twB n ts q p = true := by
    intro m
    induction m with
    | zero =>
      intro p hm p0 p1
      exact ⟨p, p0, Int.le_refl _, fstB_iff.mpr fun q q0 q1 => by omega, twB_refl _ _ _⟩
    | succ m ih =>
      intro p hm p0 p1
      by_cases hf : fstB n ts p = true
      · exact ⟨p, p0, Int.le_refl _, hf, twB_refl _ _ _⟩
      · have : ∃ q, 0 ≤ q ∧ q < p ∧ twB n ts q p = true := by
          apply Classical.byContradiction
          intro hc
          apply hf
          refine fstB_iff.mpr fun q q0 q1 => ?_
          cases e : twB n ts q p with
          | false => rfl
          | true => exact absurd ⟨q, q0, q1, e⟩ hc
        obtain ⟨q, q0, q1, hq⟩ := this
        obtain ⟨r, r0, r1, hr, hrq⟩ := ih q (by omega) q0 (by omega)
        exact ⟨r, r0, by omega, hr, twB_trans (fun x hx => by omega) hrq hq⟩
  exact key _ p (Nat.le_refl _) p0 p1
theorem first_uniq {n : Int} {ts : List (Int × Int)} {p q r : Int} (p0 : 0 ≤ p) (q0 : 0 ≤ q) (r0 : 0 ≤ r) (p1 : p < n) (q1 : q < n) (r1 : r < n) (hp : fstB n ts p = true) (hq : fstB n ts q = true) (h1 : twB n ts p r = true) (h2 : twB n ts q r = true) : p = q := by
  have h3 : twB n ts p q = true := twB_trans (fun x hx => by omega) h1 (twB_symm h2)
  rcases Int.lt_trichotomy p q with h | h | h
  · rw [fstB_iff.mp hq p p0 h] at h3; cases h3
  · exact h
  · rw [twB_comm, fstB_iff.mp hp q q0 h] at h3; cases h3
open Classical in
theorem are_twins_ok {n : Int} {ts : List (Int × Int)} {a b : Int} (h : WebOk n ts) (a0 : 0 ≤ a) (a1 : a < n) (b0 : 0 ≤ b) (b1 : b < n) : are_twins (nears n ts) a b = R.ok (twB n ts a b) := by
  have hn := h.n60
  have ea := sort_nbs h a (fun v => decide (Adj ts a v)) fun v _ _ => decide_eq_true_iff
  have eb := sort_nbs h b (fun v => decide (Adj ts b v)) fun v _ _ => decide_eq_true_iff
  have la := nbs_len_n h a
  have lb := nbs_len_n h b
  rw [← (sortI_perm _).length_eq, ea] at la
  rw [← (sortI_perm _).length_eq, eb] at lb
  refine po_iff ?_
  unfold are_twins
  refine po_getE (nears_get a0 a1) ?_
  rw [ea]
  refine po_filGE (g := fun x => if (!decide (x = b)) = true then some x else none) (by omega) (fun x _ => by
    by_cases q : (!decide (x = b)) = true
    · rw [if_pos q, if_pos q]
    · rw [if_neg q, if_neg q]) ?_
  refine po_getE (nears_get b0 b1) ?_
  rw [eb]
  refine po_filGE (g := fun x => if (!decide (x = a)) = true then some x else none) (by omega) (fun x _ => by
    by_cases q : (!decide (x = a)) = true
    · rw [if_pos q, if_pos q]
    · rw [if_neg q, if_neg q]) ?_
  show decide (_ = _) = _
  rw [fil_ite, fil_ite, List.filter_filter, List.filter_filter, ← tw_lists h]
  congr 1
  simp only [Bool.and_comm]
theorem twins_ok {n : Int} {ts : List (Int × Int)} (h : WebOk n ts) : twins_of (n, ⟨ts⟩) = R.ok ((twinL n ts).map mkpl) := by
  have hn1 := h.n1
  have hn := h.n60
  refine po_iff ?_
  unfold twins_of
  rw [near_floors_ok h, ok_bind]
  refine po_rng (by decide) (by decide) (by show -(2 ^ 62) ≤ n; omega) (by show n < 2 ^ 62; omega) ?_
  refine po_bind (po_foldP (fun pre g => g.1 = (((pre.filter fun p => fstB n ts p).map (clsL n ts)).filter fun r => decide ((1 : Int) < (r.length : Int))).map mkpl ∧ (∀ v, 0 ≤ v → v < n → (v ∈ g.2 ↔ ∃ p, 0 ≤ p ∧ p < (pre.length : Int) ∧ twB n ts p v = true)) ∧ g.2.length ≤ 60 * pre.length)
    ⟨rfl, fun v _ _ => ⟨fun h => (nomatch h), fun ⟨p, p0, p1, _⟩ => absurd p1 (by show ¬ p < (0 : Int); omega)⟩, Nat.zero_le _⟩ ?_) ?_
  · rintro pre ⟨st, met⟩ k post e ⟨h2, h3, h4⟩
    obtain ⟨e1, k0, kn⟩ := rng_split e
    have kn' : k < n := kn
    have ek : k = 0 + (pre.length : Int) := rng_pre e
    have ek' : (pre.length : Int) = k := by omega
    have h2' : st = (((pre.filter fun p => fstB n ts p).map (clsL n ts)).filter fun r => decide ((1 : Int) < (r.length : Int))).map mkpl := h2
    have h3' : ∀ v, 0 ≤ v → v < n → (v ∈ met ↔ ∃ p, 0 ≤ p ∧ p < (pre.length : Int) ∧ twB n ts p v = true) := h3
    have h4' : met.length ≤ 60 * pre.length := h4
    have hfst : k ∉ met ↔ fstB n ts k = true := by
      rw [h3' k k0 kn', fstB_iff, ek']
      constructor
      · intro q p p0 p1
        cases z : twB n ts p k with
        | false => rfl
        | true => exact absurd ⟨p, p0, p1, z⟩ q
      · rintro q ⟨p, p0, p1, z⟩
        rw [q p p0 p1] at z
        cases z
    have hlen : (pre ++ [k]).length = pre.length + 1 := by rw [List.length_append]; rfl
    have hstl : st.length ≤ pre.length := by
      rw [h2', List.length_map]
      refine Nat.le_trans (List.length_filter_le _ _) ?_
      rw [List.length_map]
      exact List.length_filter_le _ _
    have hcl : (clsL n ts k).length ≤ 60 := by
      refine Nat.le_trans (List.length_filter_le _ _) ?_
      rw [rng_length]; omega
    refine po_if (fun c => ?_) fun c => ?_
    · have hk : k ∉ met := by
        rw [Bool.not_eq_true'] at c
        exact inB_f.mp c
      have hf := hfst.mp hk
      refine po_rng (by omega) (by omega) (by show -(2 ^ 62) ≤ n; omega) (by show n < 2 ^ 62; omega) ?_
      refine po_filGE (g := fun o => if twB n ts k o = true then some o else none) (by show (rng (k + 1) n).length < 100000; rw [rng_length]; omega) (fun o ho => ?_) ?_
      · obtain ⟨o0, o1⟩ := rng_mem.mp ho
        rw [are_twins_ok h k0 kn' (by omega) o1, ok_bind]
        by_cases q : twB n ts k o = true
        · rw [if_pos q, if_pos q]
        · rw [if_neg q, if_neg q]
      · rw [fil_ite]
        have ec := cls_first k0 kn' hf
        have hcl2 := congrArg List.length ec
        rw [List.length_append] at hcl2
        refine po_extend (by show [k].length + ((rng (k + 1) n).filter fun o => twB n ts k o).length < 100000; omega) ?_
        show Post (extend met ([k] ++ (rng (k + 1) n).filter fun o => twB n ts k o) >>= _) _ _
        rw [← ec]
        refine po_extend (by show met.length + (clsL n ts k).length < 100000; omega) ?_
        have hmet : ∀ v, 0 ≤ v → v < n → (v ∈ met ++ clsL n ts k ↔ ∃ p, 0 ≤ p ∧ p < ((pre ++ [k]).length : Int) ∧ twB n ts p v = true) := fun v v0 v1 => by
          rw [List.mem_append, h3' v v0 v1, hlen]
          constructor
          · rintro (⟨p, p0, p1, z⟩ | z)
            · exact ⟨p, p0, by omega, z⟩
            · exact ⟨k, k0, by omega, (List.mem_filter.mp z).2⟩
          · rintro ⟨p, p0, p1, z⟩
            by_cases q : p < (pre.length : Int)
            · exact .inl ⟨p, p0, q, z⟩
            · have : p = k := by omega
              rw [this] at z
              exact .inr (List.mem_filter.mpr ⟨rng_mem.mpr ⟨v0, v1⟩, z⟩)
        have hnext : (((pre ++ [k]).filter fun p => fstB n ts p).map (clsL n ts)) = ((pre.filter fun p => fstB n ts p).map (clsL n ts)) ++ [clsL n ts k] := by
          rw [List.filter_append, List.filter_cons_of_pos hf, List.map_append]
          rfl
        refine po_if (fun c2 => ?_) fun c2 => ?_
        · refine po_app (by show st.length < 100000; have := congrArg List.length e; rw [rng_length, List.length_append] at this; omega) ⟨?_, hmet, by show (met ++ clsL n ts k).length ≤ _; rw [List.length_append, hlen]; omega⟩
          show st ++ [mkpl (clsL n ts k)] = _
          rw [hnext, List.filter_append, List.map_append, ← h2', List.filter_cons_of_pos (p := fun r : List Int => decide ((1 : Int) < (r.length : Int))) c2]
          rfl
        · refine ⟨?_, hmet, by show (met ++ clsL n ts k).length ≤ _; rw [List.length_append, hlen]; omega⟩
          show st = _
          rw [hnext, List.filter_append, List.map_append, ← h2', List.filter_cons_of_neg (p := fun r : List Int => decide ((1 : Int) < (r.length : Int))) c2]
          simp
    · have hk : k ∈ met := by
        apply Classical.byContradiction
        intro q
        apply c
        rw [Bool.not_eq_true']
        exact inB_f.mpr q
      have hf : fstB n ts k = false := by
        cases z : fstB n ts k with
        | false => rfl
        | true => exact absurd hk (hfst.mpr z)
      refine ⟨?_, fun v v0 v1 => ?_, by show met.length ≤ _; rw [hlen]; omega⟩
      · show st = _
        rw [List.filter_append, List.filter_cons_of_neg (by rw [hf]; decide)]
        simp
        exact h2'
      · show v ∈ met ↔ _
        rw [h3' v v0 v1, hlen]
        constructor
        · rintro ⟨p, p0, p1, z⟩
          exact ⟨p, p0, by omega, z⟩
        · rintro ⟨p, p0, p1, z⟩
          by_cases q : p < (pre.length : Int)
          · exact ⟨p, p0, q, z⟩
          · have ep : p = k := by omega
            rw [ep] at z
            obtain ⟨p2, a0, a1, a2⟩ := (h3' k k0 kn').mp hk
            exact ⟨p2, a0, a1, twB_trans (fun x hx => by omega) a2 z⟩
  · rintro ⟨st, met⟩ ⟨h2, _, _⟩
    have h2' : st = (twinL n ts).map mkpl := h2
    show st = _
    rw [h2']
/-- the places that part two things -/
noncomputable def partL (n : Int) (ts : List (Int × Int)) (a b : Thing) : List Int := (rng 0 n).filter fun p => !decide (farT n ts p a = farT n ts p b)
theorem parters_by_ok {n : Int} {ts : List (Int × Int)} {a b : Thing} (h : WebOk n ts) (ha : ThOk n ts a) (hb : ThOk n ts b) : parters_by (tabL n ts) a b = R.ok (partL n ts a b) := by
  have hn1 := h.n1
  have hn := h.n60
  refine po_iff ?_
  unfold parters_by
  have hl : (tabL n ts).length = n.toNat := by unfold tabL; rw [List.length_map, rng_length]; omega
  rw [hl, show ((n.toNat : Nat) : Int) = n by omega]
  refine po_rng (by decide) (by decide) (by omega) (by omega) ?_
  refine po_filGE (g := fun p => if (!decide (farT n ts p a = farT n ts p b)) = true then some p else none) (by rw [rng_length]; omega) (fun p hp => ?_) ?_
  · obtain ⟨p0, p1⟩ := rng_mem.mp hp
    rw [far_by_ok h p0 p1 ha, ok_bind, far_by_ok h p0 p1 hb, ok_bind]
    by_cases q : (!decide (farT n ts p a = farT n ts p b)) = true
    · rw [if_pos q, if_pos q]
    · rw [if_neg q, if_neg q]
  · show _ = _
    rw [fil_ite]
    rfl
theorem parters_ok {n : Int} {ts : List (Int × Int)} {a b : Thing} (h : WebOk n ts) (ha : ThOk n ts a) (hb : ThOk n ts b) : parters_of (n, ⟨ts⟩) a b = R.ok (partL n ts a b) := by
  unfold parters_of
  rw [thing_ok ha, ok_bind, thing_ok hb, ok_bind, table_ok h, ok_bind, parters_by_ok h ha hb]
  rfl
theorem code_ok {n : Int} {ts : List (Int × Int)} {ls : List Int} {t : Thing} (h : WebOk n ts) (hl : LooksOk n ls) (ht : ThOk n ts t) : code_of (n, ⟨ts⟩) ls t = R.ok (ls.map fun l => farT n ts l t) := by
  have := hl.len
  have hn := h.n60
  unfold code_of
  rw [looks_ok hl, ok_bind, thing_ok ht, ok_bind, table_ok h, ok_bind]
  rw [mapG_ok (g := fun l => farT n ts l t) (by omega) fun l hm => by
    rw [far_by_ok h (hl.rg l hm).1 (hl.rg l hm).2 ht]
    rfl]
  rfl
theorem some_ok {s : List Int} {m : Int} (h : PotOk s) (m0 : 0 ≤ m) (m1 : m < 10000) : Post (law_some s m) (fun r => LooksOk m r.1 ∧ PotOk r.2) noX := by
  unfold law_some
  refine po_bind (take_ok h (by decide) (by decide)) fun y ⟨_, _, hy⟩ => po_rng (by decide) (by decide) (by omega) (by omega) ?_
  refine po_bind (Q := fun r => r.1.Sublist (rng 0 m) ∧ PotOk r.2) ?_ fun r ⟨h1, h2⟩ => ⟨⟨fun l hl => rng_mem.mp (h1.subset hl), (rng_sorted 0 m).sublist h1⟩, h2⟩
  unfold filStG
  rw [grd_t (decide_eq_true (by rw [rng_length]; omega)), ok_bind]
  generalize rng 0 m = l
  clear h
  have key : ∀ (l : List Int) (s : List Int), PotOk s → Post (filSt (fun (g4 : (List Int)) (b4 : Int) => do
      let y7 ← law_take g4 (5 : Int)
      if (decide (y7.1 < ((1 : Int) + y.1))) = true then do
        R.ok ((some b4), y7.2)
      else
        R.ok (none, y7.2)) s l) (fun r => r.1.Sublist l ∧ PotOk r.2) noX := by
    intro l
    induction l with
    | nil => exact fun s hs => ⟨List.Sublist.refl _, hs⟩
    | cons b l ih =>
      intro s hs
      refine po_bind (Q := fun p => (p.1 = some b ∨ p.1 = none) ∧ PotOk p.2) (po_bind (take_ok hs (by decide) (by decide)) fun z ⟨_, _, hz⟩ => po_if (fun _ => ⟨.inl rfl, hz⟩) fun _ => ⟨.inr rfl, hz⟩) fun p ⟨h1, h2⟩ => po_bind (ih p.2 h2) fun q ⟨h3, h4⟩ => ?_
      rcases h1 with h1 | h1
      · rw [h1]
        exact ⟨h3.cons₂ b, h4⟩
      · rw [h1]
        exact ⟨h3.cons b, h4⟩
  exact key l y.2 hy
theorem zip_self {α β : Type} (f : α → β) (xs : List α) : xs.zip (xs.map f) = xs.map fun x => (x, f x) := by
  induction xs with
  | nil => rfl
  | cons x xs ih => rw [List.map_cons, List.zip_cons_cons, ih]; rfl
theorem cut_from {α : Type} (xs : List α) (k : Nat) : cutL xs (some (k : Int)) none = xs.drop k := by
  unfold cutL
  have e0 : HT.sIx xs.length 0 (some (k : Int)) = min k xs.length := HT.sIx_nat xs.length 0 k
  have e : HT.sIx xs.length xs.length none = xs.length := rfl
  rw [e, e0]
  by_cases h : k ≤ xs.length
  · rw [Nat.min_eq_left h, List.take_of_length_le (by rw [List.length_drop]; exact Nat.le_refl _)]
  · rw [Nat.min_eq_right (by omega), List.drop_of_length_le (Nat.le_refl _), List.drop_of_length_le (by omega), List.take_nil]
theorem po_foldXP {β α ρ : Type} {f : β → α → R (Sum ρ (Bool × β))} {s : β} {xs : List α} {X : Exn → Prop} (I : List α → β → Prop) (P : ρ → Prop) (h0 : I [] s)
    (hf : ∀ pre s x post, xs = pre ++ x :: post → I pre s → Post (f s x) (fun r => (∃ z, r = .inl z ∧ P z) ∨ ∃ s', r = .inr (true, s') ∧ I (pre ++ [x]) s') X) : Post (foldX f s xs) (fun r => (∃ z, r = .inl z ∧ P z) ∨ ∃ s', r = .inr s' ∧ I xs s') X := by
  have key : ∀ (l pre : List α) (s : β), xs = pre ++ l → I pre s → Post (foldX f s l) (fun r => (∃ z, r = .inl z ∧ P z) ∨ ∃ s', r = .inr s' ∧ I xs s') X := by
    intro l
    induction l with
    | nil =>
      intro pre s e h
      rw [List.append_nil] at e
      rw [e]
      exact .inr ⟨s, rfl, h⟩
    | cons x l ih =>
      intro pre s e h
      refine po_bind (hf pre s x l e h) fun r hr => ?_
      rcases hr with ⟨z, rfl, hz⟩ | ⟨s', rfl, hs⟩
      · exact .inl ⟨z, rfl, hz⟩
      · exact ih (pre ++ [x]) s' (by rw [e, List.append_assoc]; rfl) hs
  exact key xs [] s rfl h0
theorem tab_len {n : Int} {ts : List (Int × Int)} (n0 : 0 ≤ n) : ((tabL n ts).length : Int) = n := by
  unfold tabL
  rw [List.length_map, rng_length]
  omega
theorem enum_tab {n : Int} {ts : List (Int × Int)} (n0 : 0 ≤ n) : enum (tabL n ts) = (rng 0 n).map fun p => (p, (rng 0 n).map (dst n ts p)) := by
  unfold enum
  rw [tab_len n0]
  unfold tabL
  exact zip_self _ _
theorem nub_two {xs : List Int} : 1 < (nub xs).length ↔ ∃ a ∈ xs, ∃ b ∈ xs, a ≠ b := by
  constructor
  · intro h
    have hd := nub_nodup xs
    match q : nub xs, h, hd with
    | a :: b :: l, _, hd =>
      refine ⟨a, nub_mem.mp (by rw [q]; simp), b, nub_mem.mp (by rw [q]; simp), fun e => ?_⟩
      exact (List.nodup_cons.mp hd).1 (e ▸ List.mem_cons_self)
  · rintro ⟨a, ha, b, hb, hne⟩
    have ha' := nub_mem.mpr ha
    have hb' := nub_mem.mpr hb
    match q : nub xs with
    | [] => rw [q] at ha'; exact nomatch ha'
    | [c] =>
      rw [q] at ha' hb'
      exact absurd ((List.mem_singleton.mp ha').trans (List.mem_singleton.mp hb').symm) hne
    | c :: d :: l => show 1 < l.length + 1 + 1; omega
/-- the looks to which a lot's things are not all alike -/
noncomputable def lotP (n : Int) (ts : List (Int × Int)) (lot : List Thing) : List Int := (rng 0 n).filter fun p => decide (1 < (nub (lot.map (farT n ts p))).length)
theorem lotP_mem {n p : Int} {ts : List (Int × Int)} {lot : List Thing} : p ∈ lotP n ts lot ↔ (0 ≤ p ∧ p < n) ∧ ∃ X ∈ lot, ∃ Y ∈ lot, farT n ts p X ≠ farT n ts p Y := by
  unfold lotP
  rw [List.mem_filter, rng_mem, decide_eq_true_eq, nub_two]
  constructor
  · rintro ⟨h, a, ha, b, hb, hne⟩
    obtain ⟨X, hX, rfl⟩ := List.mem_map.mp ha
    obtain ⟨Y, hY, rfl⟩ := List.mem_map.mp hb
    exact ⟨h, X, hX, Y, hY, hne⟩
  · rintro ⟨h, X, hX, Y, hY, hne⟩
    exact ⟨h, _, List.mem_map.mpr ⟨X, hX, rfl⟩, _, List.mem_map.mpr ⟨Y, hY, rfl⟩, hne⟩
theorem lotP_nd {n : Int} {ts : List (Int × Int)} {lot : List Thing} : (lotP n ts lot).Nodup := (rng_nodup 0 n).filter _
/-- two things, or places that are twins -/
structure GoodLot (n : Int) (ts : List (Int × Int)) (k : Str) (lot : List Thing) : Prop where
  nd : lot.Nodup
  sub : ∀ X ∈ lot, X ∈ kindT n ts k
  two : 2 ≤ lot.length
  how : (∃ X Y, lot = [X, Y]) ∨ ∃ p, 0 ≤ p ∧ p < n ∧ fstB n ts p = true ∧ lot = mkpl (clsL n ts p)
theorem cls_mem {n p v : Int} {ts : List (Int × Int)} : v ∈ clsL n ts p ↔ (0 ≤ v ∧ v < n) ∧ twB n ts p v = true := by
  unfold clsL
  rw [List.mem_filter, rng_mem]
theorem cls_len {n p : Int} {ts : List (Int × Int)} : (clsL n ts p).length ≤ n.toNat := by
  have := List.length_filter_le (fun o => twB n ts p o) (rng 0 n)
  rw [rng_length] at this
  unfold clsL
  omega
section
variable {n : Int} {ts : List (Int × Int)} {k : Str} (h : WebOk n ts)
include h
/-- how high a floor is -/
def sumL (lots : List (List Thing)) : Int := (lots.map fun l => (l.length : Int) - 1).sum
omit h in
theorem sumL_snoc (lots : List (List Thing)) (l : List Thing) : sumL (lots ++ [l]) = sumL lots + ((l.length : Int) - 1) := by
  unfold sumL
  rw [List.map_append, List.sum_append]
  simp
end
theorem far_fl_ok {n p : Int} {ts : List (Int × Int)} {t : Thing} (h : WebOk n ts) (ht : ThOk n ts t) : far_by_floors ((rng 0 n).map (dst n ts p)) t = R.ok (farT n ts p t) := by
  unfold far_by_floors
  cases t with
  | pl i =>
    show (asPl (.pl i) >>= _) = _
    rw [show asPl (.pl i) = R.ok i from rfl, ok_bind, row_get ht.1 ht.2]
    rfl
  | ti a b =>
    have hr := h.rg4 _ (show (a, b) ∈ ts from ht)
    show (asTi (.ti a b) >>= _) = _
    rw [show asTi (.ti a b) = R.ok (a, b) from rfl, ok_bind, row_get hr.1 hr.2.1, ok_bind, row_get hr.2.2.1 hr.2.2.2]
    rfl
theorem lot_parters_ok {n : Int} {ts : List (Int × Int)} {lot : List Thing} (h : WebOk n ts) (hl : lot.length ≤ 60) (ht : ∀ X ∈ lot, ThOk n ts X) : lot_parters (tabL n ts) lot = R.ok (lotP n ts lot) := by
  have hn1 := h.n1
  have hn := h.n60
  refine po_iff ?_
  unfold lot_parters
  rw [enum_tab (by omega)]
  refine po_filGE (g := fun q : Int × List Int => if decide (1 < (nub (lot.map (farT n ts q.1))).length) = true then some q.1 else none) (by rw [List.length_map, rng_length]; omega) (fun q hq => ?_) ?_
  · obtain ⟨p, hp, rfl⟩ := List.mem_map.mp hq
    rw [mapG_ok (g := farT n ts p) (by omega) fun X hX => by
      show (far_by_floors ((rng 0 n).map (dst n ts p)) X >>= _) = _
      rw [far_fl_ok h (ht X hX)]
      rfl]
    rw [ok_bind]
    have e : setLenI (lot.map (farT n ts p)) = R.ok ((nub (lot.map (farT n ts p))).length : Int) := by
      unfold setLenI
      rw [if_pos (by rw [List.length_map]; omega)]
    rw [e, ok_bind]
    by_cases c : 1 < (nub (lot.map (farT n ts p))).length
    · rw [if_pos (decide_eq_true (by omega))]
      show R.ok (some p) = R.ok (if decide (1 < (nub (lot.map (farT n ts p))).length) = true then some p else none)
      rw [if_pos (decide_eq_true c)]
    · rw [if_neg (by rw [decide_eq_true_eq]; omega)]
      show R.ok none = R.ok (if decide (1 < (nub (lot.map (farT n ts p))).length) = true then some p else none)
      rw [if_neg (by rw [decide_eq_true_eq]; exact c)]
  · show _ = _
    rw [List.filterMap_map]
    show (rng 0 n).filterMap (fun p => if decide (1 < (nub (lot.map (farT n ts p))).length) = true then some p else none) = _
    rw [fil_ite]
    rfl
theorem good_len {n : Int} {ts : List (Int × Int)} {k : Str} {lot : List Thing} (h : WebOk n ts) (g : GoodLot n ts k lot) : lot.length ≤ 60 := by
  have hn := h.n60
  rcases g.how with ⟨X, Y, rfl⟩ | ⟨p, _, _, _, rfl⟩
  · show 2 ≤ 60
    decide
  · unfold mkpl
    rw [List.length_map]
    have := cls_len (n := n) (ts := ts) (p := p)
    omega
theorem small_ok {n : Int} {ts : List (Int × Int)} {X : Thing} (h : WebOk n ts) (hX : ThOk n ts X) : Thing.small X = true := by
  have hn := h.n60
  cases X with
  | pl i =>
    have hr : 0 ≤ i ∧ i < n := hX
    show (decide (0 ≤ i) && decide (i < 64)) = true
    rw [decide_eq_true hr.1, decide_eq_true (show i < 64 by omega)]
    rfl
  | ti a b =>
    have hr := h.rg4 _ (show (a, b) ∈ ts from hX)
    have q1 : 0 ≤ a := hr.1
    have q2 : a < n := hr.2.1
    have q3 : 0 ≤ b := hr.2.2.1
    have q4 : b < n := hr.2.2.2
    show (decide (0 ≤ a) && decide (a < 64) && decide (0 ≤ b) && decide (b < 64)) = true
    rw [decide_eq_true q1, decide_eq_true (show a < 64 by omega), decide_eq_true q3, decide_eq_true (show b < 64 by omega)]
    rfl
theorem good_okS {n : Int} {ts : List (Int × Int)} {k : Str} {lot : List Thing} (h : WebOk n ts) (g : GoodLot n ts k lot) : okS lot = true := by
  have hl := good_len h g
  unfold okS
  rw [decide_eq_true g.nd, decide_eq_true (show lot.length < 64 by omega)]
  rcases g.how with ⟨X, Y, rfl⟩ | ⟨p, _, _, _, rfl⟩
  · have e : [X, Y].all Thing.small = true := by
      rw [List.all_cons, List.all_cons, small_ok h (kindT_ok (g.sub X (by simp))), small_ok h (kindT_ok (g.sub Y (by simp)))]
      rfl
    rw [e, decide_eq_true (show [X, Y].length = 2 from rfl)]
    simp
  · have e : (mkpl (clsL n ts p)).all Thing.isPl = true := List.all_eq_true.mpr fun X hX => by
      obtain ⟨i, _, rfl⟩ := List.mem_map.mp hX
      rfl
    rw [e]
    rfl
theorem is_lot_ok {n : Int} {ts : List (Int × Int)} {k : Str} {lot : List Thing} (h : WebOk n ts) (g : GoodLot n ts k lot) : is_lot (n, ⟨ts⟩) k lot = R.ok true := by
  have hok := good_okS h g
  have h2 := g.two
  have hl := good_len h g
  have hn := h.n60
  refine po_iff ?_
  unfold is_lot
  rw [things_ok h, ok_bind]
  refine po_bind (Q := fun j => j = false) ?_ fun j hj => ?_
  · rw [if_neg (by rw [decide_eq_true_eq]; omega)]
    have e : setLen lot = R.ok (lot.length : Int) := by
      unfold setLen
      rw [if_pos hok]
    rw [e, ok_bind, if_neg (by rw [decide_eq_true_eq]; omega)]
    refine po_mapGE (g := fun b => inB b (kindT n ts k)) (by omega) (fun _ _ => rfl) ?_
    show (!((lot.map fun b => inB b (kindT n ts k)).all id)) = false
    have e2 : ((lot.map fun b => inB b (kindT n ts k)).all id) = true := by
      rw [List.all_map]
      exact List.all_eq_true.mpr fun X hX => inB_t.mpr (g.sub X hX)
    rw [e2]
    rfl
  · rw [hj]
    refine po_if (fun c => absurd c (by decide)) fun _ => po_if (fun _ => rfl) fun c => ?_
    rcases g.how with ⟨X, Y, rfl⟩ | ⟨p, p0, p1, hf, rfl⟩
    · exact absurd (decide_eq_true (show (([X, Y] : List Thing).length : Int) = 2 from rfl)) c
    · refine po_mapGE (g := Thing.isPl) (by omega) (fun _ _ => rfl) ?_
      have e : (((mkpl (clsL n ts p)).map Thing.isPl).all id) = true := by
        rw [List.all_map]
        exact List.all_eq_true.mpr fun X hX => by
          obtain ⟨i, _, rfl⟩ := List.mem_map.mp hX
          rfl
      refine po_if (fun c2 => ?_) fun _ => ?_
      · rw [e] at c2
        cases c2
      · rw [near_floors_ok h, ok_bind]
        have ec := cls_first p0 p1 hf
        have e2 : cutL (mkpl (clsL n ts p)) (some (1 : Int)) none = mkpl ((rng (p + 1) n).filter fun o => twB n ts p o) := by
          rw [ec]
          exact cut_from _ 1
        have e0 : getI (mkpl (clsL n ts p)) (0 : Int) = R.ok (.pl p) := getI_eq (Int.le_refl 0) (by rw [ec]; rfl)
        rw [e2]
        refine po_mapGE (g := fun _ => true) ?_ (fun b hb => ?_) ?_
        · unfold mkpl
          rw [List.length_map]
          have := List.length_filter_le (fun o => twB n ts p o) (rng (p + 1) n)
          rw [rng_length] at this
          omega
        · obtain ⟨o, ho, rfl⟩ := List.mem_map.mp hb
          obtain ⟨ho1, ho2⟩ := List.mem_filter.mp ho
          obtain ⟨o0, o1⟩ := rng_mem.mp ho1
          rw [e0, ok_bind]
          show (are_twins (nears n ts) p o >>= fun y => R.ok y) = _
          rw [are_twins_ok h p0 p1 (by omega) o1, ok_bind, ho2]
        · show ((mkpl _).map fun _ => true).all id = true
          simp
theorem lots_rng {n : Int} {ts : List (Int × Int)} {lots : List (List Thing)} {v : Int} (hv : v ∈ lots.flatMap (lotP n ts)) : v ∈ rng 0 n := by
  obtain ⟨l, _, hl⟩ := List.mem_flatMap.mp hv
  exact rng_mem.mpr (lotP_mem.mp hl).1
theorem floor_ok {n : Int} {ts : List (Int × Int)} {k : Str} {lots : List (List Thing)} (h : WebOk n ts) (g : ∀ l ∈ lots, GoodLot n ts k l) : Post (floor_height (n, ⟨ts⟩) k lots) (fun r => (r = none ∧ ¬ (lots.flatMap (lotP n ts)).Nodup) ∨ (r = some (sumL lots) ∧ (lots.flatMap (lotP n ts)).Nodup)) noX := by
  have hn1 := h.n1
  have hn := h.n60
  unfold floor_height
  refine po_rng (by decide) (by decide) (by show -(2 ^ 62) ≤ n; omega) (by show n < 2 ^ 62; omega) ?_
  refine po_mapGE (g := fun p => (rng 0 n).map (dst n ts p)) (by show (rng 0 n).length < 100000; rw [rng_length]; omega) (fun p hp => by
    rw [fars_ok h (rng_mem.mp hp).1 (rng_mem.mp hp).2]
    rfl) ?_
  refine po_bind (po_foldXP (fun (pre : List (List Thing)) (g : Int × List Int) => g.1 = sumL pre ∧ g.2 = pre.flatMap (lotP n ts) ∧ g.2.Nodup) (fun z : Option Int => z = none ∧ ¬ (lots.flatMap (lotP n ts)).Nodup) ⟨rfl, rfl, List.nodup_nil⟩ ?_) ?_
  · rintro pre ⟨hh, met⟩ lot post e ⟨h1, h2, h3⟩
    have h1' : hh = sumL pre := h1
    have h2' : met = pre.flatMap (lotP n ts) := h2
    have h3' : met.Nodup := h3
    have hg := g lot (by rw [e]; simp)
    rw [is_lot_ok h hg, ok_bind]
    refine po_if (fun c => absurd c (by decide)) fun _ => ?_
    show Post (lot_parters (tabL n ts) lot >>= _) _ _
    rw [lot_parters_ok h (good_len h hg) fun X hX => kindT_ok (hg.sub X hX), ok_bind]
    refine po_bind (po_foldXP (fun (pr : List Int) (m : List Int) => m = met ++ pr ∧ m.Nodup) (fun z : Option Int => z = none ∧ ¬ (lots.flatMap (lotP n ts)).Nodup) ⟨(List.append_nil _).symm, h3'⟩ ?_) ?_
    · rintro pr m v post2 e2 ⟨m1, m2⟩
      refine po_if (fun c => ?_) fun c => ?_
      · refine .inl ⟨none, rfl, rfl, fun z => ?_⟩
        have ef : lots.flatMap (lotP n ts) = pre.flatMap (lotP n ts) ++ ((pr ++ v :: post2) ++ post.flatMap (lotP n ts)) := by rw [e, List.flatMap_append, List.flatMap_cons, e2]
        rw [ef] at z
        have z1 := List.nodup_append.mp z
        have hv : v ∈ met ++ pr := m1 ▸ inB_t.mp c
        rcases List.mem_append.mp hv with q | q
        · exact z1.2.2 v (h2' ▸ q) v (by simp) rfl
        · have z2 := (List.nodup_append.mp z1.2.1).1
          exact (List.nodup_append.mp z2).2.2 v q v List.mem_cons_self rfl
      · have hv : v ∉ m := fun q => c (inB_t.mpr q)
        have hlen : m.length ≤ (rng 0 n).length := nodup_le m2 fun y hy => by
          rw [m1] at hy
          rcases List.mem_append.mp hy with q | q
          · exact lots_rng (h2' ▸ q)
          · exact rng_mem.mpr (lotP_mem.mp (show y ∈ lotP n ts lot by rw [e2]; exact List.mem_append_left _ q)).1
        rw [rng_length] at hlen
        refine po_app (by omega) (.inr ⟨_, rfl, by rw [m1, List.append_assoc], ?_⟩)
        rw [List.nodup_append]
        refine ⟨m2, by simp, fun a ha b hb e3 => ?_⟩
        rw [List.mem_singleton.mp hb] at e3
        exact hv (e3 ▸ ha)
    · rintro r (⟨z, rfl, hz⟩ | ⟨m, rfl, m1, m2⟩)
      · exact .inl ⟨z, rfl, hz⟩
      · refine .inr ⟨_, rfl, ?_, ?_, m2⟩
        · show hh + (lot.length : Int) - 1 = _
          rw [sumL_snoc, h1']
          omega
        · show m = _
          rw [m1, h2', List.flatMap_append, List.flatMap_singleton]
  · rintro r (⟨z, rfl, hz1, hz2⟩ | ⟨⟨hh, met⟩, rfl, h1, h2, h3⟩)
    · exact .inl ⟨hz1, hz2⟩
    · have h1' : hh = sumL lots := h1
      have h2' : met = lots.flatMap (lotP n ts) := h2
      have h3' : met.Nodup := h3
      exact .inr ⟨by show some hh = _; rw [h1'], h2' ▸ h3'⟩
section
variable {n : Int} {ts : List (Int × Int)} {o : List Int}
def nmO (o : List Int) (k : Int) : Int := o.getD k.toNat 0
def mvT (o : List Int) : Thing → Thing
  | .pl i => .pl (nmO o i)
  | .ti a b => .ti (moved o (a, b)).1 (moved o (a, b)).2
theorem moved_two (a b : Int) : moved o (a, b) = (nmO o a, nmO o b) ∨ moved o (a, b) = (nmO o b, nmO o a) := by
  unfold moved nmO
  rcases mm_cases (o.getD a.toNat 0) (o.getD b.toNat 0) with ⟨w1, w2, _⟩ | ⟨w1, w2, _⟩
  · exact .inl (by dsimp only; rw [w1, w2])
  · exact .inr (by dsimp only; rw [w1, w2])
variable (ho : o.Perm (rng 0 n)) (h : WebOk n ts)
include ho h
theorem moved_web : WebOk n (sortP (ts.map (moved o))) := moved_ok ho h.n1 h.n60 ⟨h.rg, h.nd, h.conn, h.len⟩
theorem nm_rg {a : Int} (a0 : 0 ≤ a) (a1 : a < n) : 0 ≤ nmO o a ∧ nmO o a < n := perm_getD ho (by omega) a0 a1
theorem nm_inj {a b : Int} (a0 : 0 ≤ a) (a1 : a < n) (b0 : 0 ≤ b) (b1 : b < n) (e : nmO o a = nmO o b) : a = b := perm_inj ho (by omega) a0 a1 b0 b1 e
theorem adj_moved {a b : Int} (a0 : 0 ≤ a) (a1 : a < n) (b0 : 0 ≤ b) (b1 : b < n) : Adj (sortP (ts.map (moved o))) (nmO o a) (nmO o b) ↔ Adj ts a b := by
  have hp := sortP_perm (ts.map (moved o))
  have back : ∀ x y, 0 ≤ x → x < n → 0 ≤ y → y < n → (nmO o x, nmO o y) ∈ sortP (ts.map (moved o)) → Adj ts x y := fun x y x0 x1 y0 y1 hm => by
    obtain ⟨q, hq, e⟩ := List.mem_map.mp (hp.mem_iff.mp hm)
    have hr := h.rg4 q hq
    obtain ⟨c, d⟩ := q
    rcases moved_two (o := o) c d with w | w <;> rw [w] at e <;> injection e with e1 e2
    · have i1 := nm_inj ho h hr.1 hr.2.1 x0 x1 e1
      have i2 := nm_inj ho h hr.2.2.1 hr.2.2.2 y0 y1 e2
      dsimp only at i1 i2
      subst i1
      subst i2
      exact .inl hq
    · have i1 := nm_inj ho h hr.2.2.1 hr.2.2.2 x0 x1 e1
      have i2 := nm_inj ho h hr.1 hr.2.1 y0 y1 e2
      dsimp only at i1 i2
      subst i1
      subst i2
      exact .inr hq
  have fwd : ∀ x y, (x, y) ∈ ts → Adj (sortP (ts.map (moved o))) (nmO o x) (nmO o y) := fun x y hm => by
    have : moved o (x, y) ∈ sortP (ts.map (moved o)) := hp.mem_iff.mpr (List.mem_map_of_mem hm)
    rcases moved_two (o := o) x y with w | w <;> rw [w] at this
    · exact .inl this
    · exact .inr this
  constructor
  · intro q
    rcases q with q | q
    · exact back a b a0 a1 b0 b1 q
    · exact (back b a b0 b1 a0 a1 q).symm
  · intro q
    rcases q with q | q
    · exact fwd a b q
    · exact (fwd b a q).symm
theorem dst_moved {p v : Int} (p0 : 0 ≤ p) (p1 : p < n) (v0 : 0 ≤ v) (v1 : v < n) : dst n (sortP (ts.map (moved o))) (nmO o p) (nmO o v) = dst n ts p v := by
  have h' := moved_web ho h
  have hI : ∀ x, ∃ y, 0 ≤ x → x < n → 0 ≤ y ∧ y < n ∧ nmO o y = x := fun x => by
    by_cases c : 0 ≤ x ∧ x < n
    · obtain ⟨y, y0, y1, e⟩ := perm_surj ho (by omega) c.1 c.2
      exact ⟨y, fun _ _ => ⟨y0, y1, e⟩⟩
    · exact ⟨0, fun a b => absurd ⟨a, b⟩ c⟩
  obtain ⟨I, hI⟩ := Classical.axiomOfChoice hI
  have hIO : ∀ x, 0 ≤ x → x < n → I (nmO o x) = x := fun x x0 x1 => by
    have hr := nm_rg ho h x0 x1
    obtain ⟨y0, y1, e⟩ := hI _ hr.1 hr.2
    exact nm_inj ho h y0 y1 x0 x1 e
  have hr := nm_rg ho h p0 p1
  have hrv := nm_rg ho h v0 v1
  have d := web_dist h p0 p1
  have key : IsDist n (sortP (ts.map (moved o))) (nmO o p) (fun w => dst n ts p (I w)) := by
    refine ⟨?_, fun w w0 w1 => ?_, fun a b q => ?_, fun w w0 w1 hne => ?_⟩
    · show dst n ts p (I (nmO o p)) = 0
      rw [hIO p p0 p1]
      exact d.zero
    · obtain ⟨y0, y1, _⟩ := hI w w0 w1
      exact d.nn _ y0 y1
    · obtain ⟨a0, a1, b0, b1, _⟩ := h'.adj q
      obtain ⟨x0, x1, ex⟩ := hI a a0 a1
      obtain ⟨y0, y1, ey⟩ := hI b b0 b1
      rw [← ex, ← ey] at q
      exact d.lip _ _ ((adj_moved ho h x0 x1 y0 y1).mp q)
    · obtain ⟨y0, y1, ey⟩ := hI w w0 w1
      have hyp : I w ≠ p := fun e => hne (by rw [← ey, e])
      obtain ⟨z, z0, z1, qz, ez⟩ := d.desc (I w) y0 y1 hyp
      have hz := nm_rg ho h z0 z1
      refine ⟨nmO o z, hz.1, hz.2, ?_, ?_⟩
      · have := (adj_moved ho h z0 z1 y0 y1).mpr qz
        rwa [ey] at this
      · show dst n ts p (I (nmO o z)) + 1 = _
        rw [hIO z z0 z1]
        exact ez
  rw [← dst_eq key _ hrv.1 hrv.2]
  show dst n ts p (I (nmO o v)) = _
  rw [hIO v v0 v1]
theorem mv_ok {X : Thing} (hX : ThOk n ts X) : ThOk n (sortP (ts.map (moved o))) (mvT o X) := by
  cases X with
  | pl i => exact nm_rg ho h hX.1 hX.2
  | ti a b =>
    show ((moved o (a, b)).1, (moved o (a, b)).2) ∈ _
    exact (sortP_perm _).mem_iff.mpr (List.mem_map_of_mem (f := moved o) (show (a, b) ∈ ts from hX))
theorem far_moved {X : Thing} {l : Int} (hX : ThOk n ts X) (l0 : 0 ≤ l) (l1 : l < n) : farT n (sortP (ts.map (moved o))) (nmO o l) (mvT o X) = farT n ts l X := by
  cases X with
  | pl i => exact dst_moved ho h l0 l1 hX.1 hX.2
  | ti a b =>
    have hab : (a, b) ∈ ts := hX
    have hr := h.rg4 _ hab
    have ea := dst_moved ho h l0 l1 (v := a) hr.1 hr.2.1
    have eb := dst_moved ho h l0 l1 (v := b) hr.2.2.1 hr.2.2.2
    show min2 (dst n _ (nmO o l) (moved o (a, b)).1) (dst n _ (nmO o l) (moved o (a, b)).2) = min2 (dst n ts l a) (dst n ts l b)
    rcases moved_two (o := o) a b with w | w <;> rw [w] <;> dsimp only <;> rw [ea, eb]
    rcases mm_cases (dst n ts l a) (dst n ts l b) with ⟨w1, _, c1⟩ | ⟨w1, _, c1⟩ <;> rcases mm_cases (dst n ts l b) (dst n ts l a) with ⟨w2, _, c2⟩ | ⟨w2, _, c2⟩ <;> rw [w1, w2] <;> omega
theorem mv_inj {X Y : Thing} (hX : ThOk n ts X) (hY : ThOk n ts Y) (e : mvT o X = mvT o Y) : X = Y := by
  cases X with
  | pl i =>
    cases Y with
    | pl j =>
      have e' : nmO o i = nmO o j := by injection e
      rw [nm_inj ho h hX.1 hX.2 hY.1 hY.2 e']
    | ti c d => cases e
  | ti a b =>
    cases Y with
    | pl j => cases e
    | ti c d =>
      have e' : moved o (a, b) = moved o (c, d) := by
        injection e with e1 e2
        exact Prod.ext e1 e2
      have := moved_inj ho (by have := h.n1; omega) (h.rg _ (show (a, b) ∈ ts from hX)) (h.rg _ (show (c, d) ∈ ts from hY)) e'
      injection this with e1 e2
      rw [e1, e2]
theorem kind_moved {k : Str} {X' : Thing} : X' ∈ kindT n (sortP (ts.map (moved o))) k ↔ ∃ X ∈ kindT n ts k, X' = mvT o X := by
  have pl : X' ∈ mkpl (rng 0 n) ↔ ∃ X ∈ mkpl (rng 0 n), X' = mvT o X := by
    rw [pl_mem]
    constructor
    · rintro ⟨i, rfl, i0, i1⟩
      obtain ⟨j, j0, j1, e⟩ := perm_surj ho (by omega) i0 i1
      exact ⟨.pl j, pl_mem.mpr ⟨j, rfl, j0, j1⟩, by rw [← e]; rfl⟩
    · rintro ⟨X, hX, rfl⟩
      obtain ⟨j, rfl, j0, j1⟩ := pl_mem.mp hX
      exact ⟨_, rfl, nm_rg ho h j0 j1⟩
  have ti : X' ∈ mkti (sortP (ts.map (moved o))) ↔ ∃ X ∈ mkti ts, X' = mvT o X := by
    rw [ti_mem]
    constructor
    · rintro ⟨a, b, rfl, hab⟩
      obtain ⟨q, hq, e⟩ := List.mem_map.mp ((sortP_perm _).mem_iff.mp hab)
      refine ⟨.ti q.1 q.2, ti_mem.mpr ⟨_, _, rfl, hq⟩, ?_⟩
      show _ = Thing.ti (moved o (q.1, q.2)).1 (moved o (q.1, q.2)).2
      rw [show (q.1, q.2) = q from rfl, e]
    · rintro ⟨X, hX, rfl⟩
      obtain ⟨a, b, rfl, hab⟩ := ti_mem.mp hX
      exact ⟨_, _, rfl, (sortP_perm _).mem_iff.mpr (List.mem_map_of_mem (f := moved o) hab)⟩
  unfold kindT
  split
  · exact pl
  · split
    · exact ti
    · unfold allT
      rw [List.mem_append, pl, ti]
      constructor
      · rintro (⟨X, hX, e⟩ | ⟨X, hX, e⟩)
        · exact ⟨X, List.mem_append_left _ hX, e⟩
        · exact ⟨X, List.mem_append_right _ hX, e⟩
      · rintro ⟨X, hX, e⟩
        rcases List.mem_append.mp hX with hX | hX
        · exact .inl ⟨X, hX, e⟩
        · exact .inr ⟨X, hX, e⟩
theorem looks_moved {ls : List Int} (hl : LooksOk n ls) : LooksOk n (sortI (ls.map (nmO o))) := by
  refine ⟨fun x hx => ?_, ?_⟩
  · obtain ⟨l, hm, rfl⟩ := List.mem_map.mp ((sortI_perm _).mem_iff.mp hx)
    exact nm_rg ho h (hl.rg l hm).1 (hl.rg l hm).2
  · have hd : (ls.map (nmO o)).Nodup := by
      refine List.pairwise_map.mpr (hl.up.imp_of_mem fun {a b} ha hb hab e => ?_)
      have := nm_inj ho h (hl.rg a ha).1 (hl.rg a ha).2 (hl.rg b hb).1 (hl.rg b hb).2 e
      omega
    have hd' : (sortI (ls.map (nmO o))).Nodup := (sortI_perm _).nodup_iff.mpr hd
    refine List.Pairwise.imp (R := fun a b => a ≤ b ∧ a ≠ b) (fun {a b} h => by omega) ?_
    exact (sortI_sorted _).and hd'
end
theorem made_moved {n : Int} {ts : List (Int × Int)} {o : List Int} (ho : o.Perm (rng 0 n)) (h : WebOk n ts) : made_web n (ts.map fun p => (nmO o p.1, nmO o p.2)) = R.ok (n, ⟨sortP (ts.map (moved o))⟩) := by
  refine made_ok (moved_web ho h) ?_
  rw [List.map_map]
  have : (nrm ∘ fun p : Int × Int => (nmO o p.1, nmO o p.2)) = moved o := rfl
  rw [this]
  exact (sortP_perm _).symm
end G
namespace G
open PySem L2 Z
/-! ### rows of things that are alike -/
structure Rows (T : List Thing) (e : Thing → Thing → Bool) (R : List (List Thing)) : Prop where
  cls : ∀ r ∈ R, ∃ t ∈ T, r = T.filter (e t) ∧ 1 < r.length
  has : ∀ t ∈ T, 1 < (T.filter (e t)).length → T.filter (e t) ∈ R
  nd : R.Nodup
theorem perm_nd {α : Type} {xs ys : List α} (h1 : xs.Nodup) (h2 : ys.Nodup) (h : ∀ x, x ∈ xs ↔ x ∈ ys) : xs.Perm ys := (List.perm_ext_iff_of_nodup h1 h2).mpr h
theorem rows_moved {T T' : List Thing} {e e' : Thing → Thing → Bool} {R R' : List (List Thing)} {μ : Thing → Thing} (hR : Rows T e R) (hR' : Rows T' e' R') (nT : T.Nodup) (nT' : T'.Nodup) (mem : ∀ t', t' ∈ T' ↔ ∃ t ∈ T, t' = μ t)
    (inj : ∀ a ∈ T, ∀ b ∈ T, μ a = μ b → a = b) (he : ∀ a ∈ T, ∀ b ∈ T, e' (μ a) (μ b) = e a b) {β : Type} (h : List Thing → β) (hp : ∀ a b : List Thing, a.Perm b → h a = h b) : (R'.map h).Perm (R.map fun r => h (r.map μ)) := by
  have key : ∀ t ∈ T, (T'.filter (e' (μ t))).Perm ((T.filter (e t)).map μ) := fun t ht => by
    refine perm_nd (nT'.filter _) (List.pairwise_map.mpr ((nT.filter _).imp_of_mem fun {a b} ha hb hne z => hne (inj a (List.mem_filter.mp ha).1 b (List.mem_filter.mp hb).1 z))) fun x => ?_
    rw [List.mem_filter, mem, List.mem_map]
    constructor
    · rintro ⟨⟨u, hu, rfl⟩, hx⟩
      rw [he t ht u hu] at hx
      exact ⟨u, List.mem_filter.mpr ⟨hu, hx⟩, rfl⟩
    · rintro ⟨u, hu, rfl⟩
      obtain ⟨h1, h2⟩ := List.mem_filter.mp hu
      exact ⟨⟨u, h1, rfl⟩, by rw [he t ht u h1]; exact h2⟩
  have fe : ∀ t ∈ T, (T'.filter fun x => inB x ((T.filter (e t)).map μ)) = T'.filter (e' (μ t)) := fun t ht => List.filter_congr fun x hx => by
    have m := (key t ht).mem_iff (a := x)
    cases c : e' (μ t) x with
    | true => exact inB_t.mpr (m.mp (List.mem_filter.mpr ⟨hx, c⟩))
    | false =>
      refine inB_f.mpr fun z => ?_
      have := (List.mem_filter.mp (m.mpr z)).2
      rw [c] at this
      cases this
  have P : R'.Perm (R.map fun r => T'.filter fun x => inB x (r.map μ)) := by
    refine perm_nd hR'.nd ?_ fun x => ?_
    · refine List.pairwise_map.mpr (hR.nd.imp_of_mem fun {a b} ha hb hne z => hne ?_)
      obtain ⟨s, hs, rfl, _⟩ := hR.cls a ha
      obtain ⟨t, ht, rfl, _⟩ := hR.cls b hb
      have z' := ((fe s hs).symm.trans z).trans (fe t ht)
      refine List.filter_congr fun u hu => ?_
      have hu' : μ u ∈ T' := (mem _).mpr ⟨u, hu, rfl⟩
      have q2 : μ u ∈ T'.filter (e' (μ s)) ↔ μ u ∈ T'.filter (e' (μ t)) := by rw [z']
      rw [List.mem_filter, List.mem_filter, he s hs u hu, he t ht u hu] at q2
      cases c : e s u with
      | true => exact (q2.mp ⟨hu', c⟩).2.symm
      | false =>
        cases d : e t u with
        | false => rfl
        | true =>
          have := (q2.mpr ⟨hu', d⟩).2
          rw [c] at this
          cases this
    · constructor
      · intro hx
        obtain ⟨t', ht', rfl, hl⟩ := hR'.cls x hx
        obtain ⟨t, ht, rfl⟩ := (mem t').mp ht'
        have hk := (key t ht).length_eq
        rw [List.length_map] at hk
        exact List.mem_map.mpr ⟨T.filter (e t), hR.has t ht (by omega), fe t ht⟩
      · intro hx
        obtain ⟨r, hr, rfl⟩ := List.mem_map.mp hx
        obtain ⟨t, ht, rfl, hl⟩ := hR.cls r hr
        have hk := (key t ht).length_eq
        rw [List.length_map] at hk
        rw [fe t ht]
        exact hR'.has _ ((mem _).mpr ⟨t, ht, rfl⟩) (by omega)
  have E : (R.map fun r => h (r.map μ)) = (R.map fun r => T'.filter fun x => inB x (r.map μ)).map h := by
    rw [List.map_map]
    refine List.map_congr_left fun r hr => ?_
    obtain ⟨t, ht, rfl, _⟩ := hR.cls r hr
    show h _ = h (T'.filter fun x => inB x ((T.filter (e t)).map μ))
    rw [fe t ht]
    exact (hp _ _ (key t ht)).symm
  rw [E]
  exact P.map h
/-! ### things of one code -/
noncomputable def eCode (n : Int) (ts : List (Int × Int)) (ls : List Int) (t u : Thing) : Bool := decide (codeT n ts ls u = codeT n ts ls t)
theorem likes_rows {n : Int} {ts : List (Int × Int)} {ls : List Int} {k : Str} : Rows (kindT n ts k) (eCode n ts ls) (likesL n ts ls k) where
  cls := fun r hr => likesG_mem.mp hr
  has := fun t ht hl => likesG_mem.mpr ⟨t, ht, rfl, hl⟩
  nd := by
    unfold likesL likesG rowsG
    refine List.Pairwise.filter _ (List.pairwise_map.mpr ((keysG_nodup (c := codeT n ts ls) (ts := kindT n ts k)).imp_of_mem fun {a b} ha hb hne z => hne ?_))
    obtain ⟨t, ht, rfl⟩ := keysG_mem.mp ha
    have h1 : t ∈ (kindT n ts k).filter fun u => decide (codeT n ts ls u = codeT n ts ls t) := List.mem_filter.mpr ⟨ht, decide_eq_true rfl⟩
    rw [z] at h1
    exact of_decide_eq_true (List.mem_filter.mp h1).2
/-! ### twins -/
noncomputable def eTw (n : Int) (ts : List (Int × Int)) : Thing → Thing → Bool
  | .pl a, .pl b => twB n ts a b
  | _, _ => false
theorem tw_filter {n p : Int} {ts : List (Int × Int)} : (mkpl (rng 0 n)).filter (eTw n ts (.pl p)) = mkpl (clsL n ts p) := by
  unfold mkpl clsL
  rw [List.filter_map]
  rfl
theorem mkpl_len (l : List Int) : (mkpl l).length = l.length := by
  unfold mkpl
  rw [List.length_map]
theorem tw_rows {n : Int} {ts : List (Int × Int)} : Rows (mkpl (rng 0 n)) (eTw n ts) ((twinL n ts).map mkpl) where
  cls := fun r hr => by
    obtain ⟨r0, h0, rfl⟩ := List.mem_map.mp hr
    unfold twinL at h0
    obtain ⟨h1, h2⟩ := List.mem_filter.mp h0
    obtain ⟨p, hp, rfl⟩ := List.mem_map.mp h1
    obtain ⟨p0, p1⟩ := rng_mem.mp (List.mem_filter.mp hp).1
    have h3 := of_decide_eq_true h2
    exact ⟨.pl p, pl_mem.mpr ⟨p, rfl, p0, p1⟩, tw_filter.symm, by rw [mkpl_len]; omega⟩
  has := fun t ht hl => by
    obtain ⟨i, rfl, i0, i1⟩ := pl_mem.mp ht
    rw [tw_filter] at hl ⊢
    rw [mkpl_len] at hl
    obtain ⟨q, q0, q1, q2, q3⟩ := has_first (ts := ts) i0 i1
    have e : clsL n ts i = clsL n ts q := by
      unfold clsL
      refine List.filter_congr fun o ho => ?_
      obtain ⟨o0, o1⟩ := rng_mem.mp ho
      have rg : ∀ a b c : Int, (0 ≤ a ∧ a < n) → (0 ≤ b ∧ b < n) → (0 ≤ c ∧ c < n) → ∀ x, x = a ∨ x = b ∨ x = c → 0 ≤ x ∧ x < n := fun a b c ha hb hc x hx => by
        rcases hx with rfl | rfl | rfl
        · exact ha
        · exact hb
        · exact hc
      cases c : twB n ts i o with
      | true => exact (twB_trans (rg q i o ⟨q0, by omega⟩ ⟨i0, i1⟩ ⟨o0, o1⟩) q3 c).symm
      | false =>
        cases d : twB n ts q o with
        | false => rfl
        | true =>
          have := twB_trans (rg i q o ⟨i0, i1⟩ ⟨q0, by omega⟩ ⟨o0, o1⟩) (twB_symm q3) d
          rw [c] at this
          cases this
    refine List.mem_map.mpr ⟨clsL n ts i, ?_, rfl⟩
    unfold twinL
    refine List.mem_filter.mpr ⟨List.mem_map.mpr ⟨q, List.mem_filter.mpr ⟨rng_mem.mpr ⟨q0, by omega⟩, q2⟩, e.symm⟩, decide_eq_true (by omega)⟩
  nd := by
    refine List.pairwise_map.mpr (List.Pairwise.imp_of_mem (R := fun a b => a ≠ b) (fun {a b} _ _ hne z => hne ?_) ?_)
    · have : a.map Thing.pl = b.map Thing.pl := z
      exact (List.map_inj_right (fun x y q => by injection q)).mp this
    · unfold twinL
      refine List.Pairwise.filter _ (List.pairwise_map.mpr (((rng_nodup 0 n).filter _).imp_of_mem fun {a b} ha hb hne z => hne ?_))
      obtain ⟨a1, a2⟩ := List.mem_filter.mp ha
      obtain ⟨b1, b2⟩ := List.mem_filter.mp hb
      obtain ⟨a0, an⟩ := rng_mem.mp a1
      obtain ⟨b0, bn⟩ := rng_mem.mp b1
      have h1 : a ∈ clsL n ts b := z ▸ cls_mem.mpr ⟨⟨a0, an⟩, twB_refl n ts a⟩
      exact first_uniq a0 b0 a0 an bn an a2 b2 (twB_refl n ts a) (cls_mem.mp h1).2
/-! ### texts of rows -/
noncomputable def txtT (x : Thing) : TxT := if h : smallT x = true then ⟨strT x, lay_strT h⟩ else ⟨strT (.pl 0), lay_strT (by decide)⟩
theorem strR_ok {x : Thing} (h : smallT x = true) : strR x = R.ok (txtT x) := by
  unfold strR txtT
  rw [dif_pos h, dif_pos h]
noncomputable def rowH (r : List Thing) : List TxT := sortSt (r.map txtT)
theorem rowH_perm (a b : List Thing) (h : a.Perm b) : rowH a = rowH b := sortSt_eq (h.map txtT)
theorem gathered_ok {R : List (List Thing)} (hl : R.length < 100000) (hr : ∀ r ∈ R, r.length < 100000 ∧ ∀ t ∈ r, smallT t = true) : law_gathered R = .ok (sortRs (R.map rowH)) := by
  unfold law_gathered
  rw [mapG_ok (g := rowH) hl fun r hm => by
    rw [mapG_ok (g := txtT) (hr r hm).1 fun t ht => by rw [strR_ok ((hr r hm).2 t ht), ok_bind], ok_bind]
    rfl]
  rfl
section
variable {n : Int} {ts : List (Int × Int)} {o : List Int} (ho : o.Perm (rng 0 n)) (h : WebOk n ts)
include ho h
theorem get_nm {i : Int} (i0 : 0 ≤ i) (i1 : i < n) : getI o i = R.ok (nmO o i) := by
  obtain ⟨x, hx, _⟩ := perm_get ho (by omega) i0 i1
  unfold nmO
  rw [getI_eq i0 hx, List.getD_eq_getElem?_getD, hx]
  rfl
theorem two_sorted (x y : Int) : sortI [x, y] = [min2 x y, max2 x y] := by
  refine (sortI_eq ?_ ?_).symm
  · rcases mm_cases x y with ⟨a, b, _⟩ | ⟨a, b, _⟩
    · rw [a, b]
    · rw [a, b]
      exact List.Perm.swap _ _ _
  · rcases mm_cases x y with ⟨a, b, c⟩ | ⟨a, b, c⟩
    · rw [a, b]
      simp [c]
    · rw [a, b]
      simp [c]
theorem law_moved_ok {t : Thing} (ht : ThOk n ts t) : law_moved o t = R.ok (mvT o t) := by
  cases t with
  | pl i =>
    show (getI o i >>= _) = _
    rw [get_nm ho h ht.1 ht.2]
    rfl
  | ti a b =>
    have hr := h.rg4 _ (show (a, b) ∈ ts from ht)
    show (getI o a >>= fun t7 => getI o b >>= _) = _
    rw [get_nm ho h hr.1 hr.2.1, ok_bind, get_nm ho h hr.2.2.1 hr.2.2.2, ok_bind, two_sorted ho h]
    rfl
theorem rows_moved_ok {R : List (List Thing)} (hl : R.length < 100000) (hr : ∀ r ∈ R, r.length < 100000 ∧ ∀ t ∈ r, ThOk n ts t) (hs : ∀ r ∈ R, ∀ t ∈ r, smallT (mvT o t) = true) : law_rows_moved o R = .ok (sortRs (R.map fun r => rowH (r.map (mvT o)))) := by
  unfold law_rows_moved
  rw [mapG_ok (g := fun r => r.map (mvT o)) hl fun r hm => by
    rw [mapG_ok (g := mvT o) (hr r hm).1 fun t ht => by rw [law_moved_ok ho h ((hr r hm).2 t ht), ok_bind], ok_bind], ok_bind,
    gathered_ok (by rw [List.length_map]; exact hl) fun r hm => by
      obtain ⟨r0, h0, rfl⟩ := List.mem_map.mp hm
      refine ⟨by rw [List.length_map]; exact (hr r0 h0).1, fun t ht => ?_⟩
      obtain ⟨u, hu, rfl⟩ := List.mem_map.mp ht
      exact hs r0 h0 u hu, ok_bind, List.map_map]
  rfl
theorem tw_moved {a b : Int} (ha : 0 ≤ a ∧ a < n) (hb : 0 ≤ b ∧ b < n) : twB n (sortP (ts.map (moved o))) (nmO o a) (nmO o b) = twB n ts a b := by
  have key : twB n (sortP (ts.map (moved o))) (nmO o a) (nmO o b) = true ↔ twB n ts a b = true := by
    rw [twB_iff, twB_iff]
    constructor
    · intro q c c0 c1 hca hcb
      have hc := nm_rg ho h c0 c1
      rw [← adj_moved ho h ha.1 ha.2 c0 c1, ← adj_moved ho h hb.1 hb.2 c0 c1]
      exact q _ hc.1 hc.2 (fun z => hca (nm_inj ho h c0 c1 ha.1 ha.2 z)) fun z => hcb (nm_inj ho h c0 c1 hb.1 hb.2 z)
    · intro q c' c0 c1 hca hcb
      obtain ⟨c, d0, d1, e⟩ := perm_surj ho (by omega) c0 c1
      have e' : nmO o c = c' := e
      subst e'
      rw [adj_moved ho h ha.1 ha.2 d0 d1, adj_moved ho h hb.1 hb.2 d0 d1]
      exact q c d0 d1 (fun z => hca (by rw [z])) fun z => hcb (by rw [z])
  cases c : twB n ts a b with
  | true => exact key.mpr c
  | false =>
    cases d : twB n (sortP (ts.map (moved o))) (nmO o a) (nmO o b) with
    | false => rfl
    | true =>
      rw [key.mp d] at c
      cases c
end
theorem small_th {n : Int} {ts : List (Int × Int)} {X : Thing} (h : WebOk n ts) (hX : ThOk n ts X) : smallT X = true := by
  have hs := small_ok h hX
  cases X with
  | pl i => exact hs
  | ti a b => exact hs
end G
namespace G
open PySem L2 Z
theorem sort_perm {xs ys : List Int} (h : xs.Perm ys) : sortI xs = sortI ys := sort_uniq ((sortI_perm xs).trans (h.trans (sortI_perm ys).symm)) (sortI_sorted xs) (sortI_sorted ys)
theorem steps_all : ((List.range 60).all fun m => decide (RgC 0 ((m : Int) + 1) (1 + ((m : Int) + 1) / 9) (Builtin.Range.rangeSize 0 ((m : Int) + 1) (1 + ((m : Int) + 1) / 9)).toNat) && (rngC 0 (1 + ((m : Int) + 1) / 9) (Builtin.Range.rangeSize 0 ((m : Int) + 1) (1 + ((m : Int) + 1) / 9)).toNat).all fun b => decide (0 ≤ b) && decide (b < (m : Int) + 1)) = true := by decide +kernel
theorem rngC_ok {n : Int} (n0 : 1 ≤ n) (n1 : n ≤ 60) : ∃ l, rngCR 0 n (1 + n / 9) = .ok l ∧ ∀ b ∈ l, 0 ≤ b ∧ b < n := by
  obtain ⟨m, rfl⟩ : ∃ m : Nat, n = (m : Int) + 1 := ⟨(n - 1).toNat, by omega⟩
  have h := List.all_eq_true.mp steps_all m (List.mem_range.mpr (by omega))
  rw [Bool.and_eq_true] at h
  unfold rngCR
  rw [if_pos (of_decide_eq_true h.1)]
  refine ⟨_, rfl, fun b hb => ?_⟩
  have h2 := List.all_eq_true.mp h.2 b hb
  rw [Bool.and_eq_true, decide_eq_true_eq, decide_eq_true_eq] at h2
  exact h2
theorem cls_few {n : Int} {ts : List (Int × Int)} {T : List Thing} {e : Thing → Thing → Bool} {R : List (List Thing)} (hR : Rows T e R) {r : List Thing} (hr : r ∈ R) : r.length ≤ T.length ∧ ∀ t ∈ r, t ∈ T := by
  obtain ⟨t, _, rfl, _⟩ := hR.cls r hr
  exact ⟨List.length_filter_le _ _, fun u hu => (List.mem_filter.mp hu).1⟩
theorem pl_th {n : Int} {ts : List (Int × Int)} {t : Thing} (ht : t ∈ mkpl (rng 0 n)) : ThOk n ts t := by
  obtain ⟨i, rfl, i0, i1⟩ := pl_mem.mp ht
  exact ⟨i0, i1⟩
theorem twin_few (n : Int) (ts : List (Int × Int)) : ((twinL n ts).map mkpl).length ≤ n.toNat := by
  rw [List.length_map]
  unfold twinL
  refine Nat.le_trans (List.length_filter_le _ _) ?_
  rw [List.length_map]
  refine Nat.le_trans (List.length_filter_le _ _) ?_
  rw [rng_length]
  omega
theorem likes_few (n : Int) (ts : List (Int × Int)) (ls : List Int) (k : Str) : (likesL n ts ls k).length ≤ (kindT n ts k).length := by
  unfold likesL likesG rowsG
  refine Nat.le_trans (List.length_filter_le _ _) ?_
  rw [List.length_map]
  exact keysG_len
section
variable {n : Int} {ts : List (Int × Int)} {o : List Int} {k : Str} (ho : o.Perm (rng 0 n)) (h : WebOk n ts)
include ho h
theorem nbs_moved {b : Int} (b0 : 0 ≤ b) (b1 : b < n) : sortI (nbs (sortP (ts.map (moved o))) (nmO o b)) = sortI ((sortI (nbs ts b)).map (nmO o)) := by
  have h' := moved_web ho h
  have rg : ∀ c ∈ sortI (nbs ts b), 0 ≤ c ∧ c < n := fun c hc => by
    have := h.adj (nbs_mem.mp ((sortI_perm _).mem_iff.mp hc))
    exact ⟨this.2.2.1, this.2.2.2.1⟩
  refine sort_perm (perm_nd (nbs_nodup h'.nd (fun p hp => (h'.rg p hp).2.1) _) (List.pairwise_map.mpr (List.Pairwise.imp_of_mem (fun {x y} hx hy hne z => hne (nm_inj ho h (rg x hx).1 (rg x hx).2 (rg y hy).1 (rg y hy).2 z)) ((sortI_perm _).symm.nodup (nbs_nodup h.nd (fun p hp => (h.rg p hp).2.1) b)))) fun x => ?_)
  rw [nbs_mem, List.mem_map]
  constructor
  · intro hx
    have q := h'.adj hx
    obtain ⟨c, c0, c1, e⟩ := perm_surj ho (by omega) q.2.2.1 q.2.2.2.1
    have e' : nmO o c = x := e
    subst e'
    exact ⟨c, (sortI_perm _).mem_iff.mpr (nbs_mem.mpr ((adj_moved ho h b0 b1 c0 c1).mp hx)), rfl⟩
  · rintro ⟨c, hc, rfl⟩
    exact (adj_moved ho h b0 b1 (rg c hc).1 (rg c hc).2).mpr (nbs_mem.mp ((sortI_perm _).mem_iff.mp hc))
theorem gathered_twins : ∃ y, law_gathered ((twinL n (sortP (ts.map (moved o)))).map mkpl) = .ok y ∧ law_rows_moved o ((twinL n ts).map mkpl) = .ok y := by
  have h' := moved_web ho h
  have hn1 := h.n1
  have hn := h.n60
  have lp : (mkpl (rng 0 n)).length ≤ 60 := by
    rw [mkpl_len, rng_length]
    omega
  have f1 := twin_few n ts
  have f2 := twin_few n (sortP (ts.map (moved o)))
  refine ⟨_, gathered_ok (by omega) fun r hr => ?_, ?_⟩
  · obtain ⟨q1, q2⟩ := cls_few (n := n) (ts := ts) tw_rows hr
    exact ⟨by omega, fun t ht => small_th h' (pl_th (q2 t ht))⟩
  · rw [rows_moved_ok ho h (by omega) (fun r hr => by
      obtain ⟨q1, q2⟩ := cls_few (n := n) (ts := ts) tw_rows hr
      exact ⟨by omega, fun t ht => pl_th (q2 t ht)⟩) fun r hr t ht => small_th h' (mv_ok ho h (pl_th ((cls_few (n := n) (ts := ts) tw_rows hr).2 t ht)))]
    congr 1
    have nd : (mkpl (rng 0 n)).Nodup := List.pairwise_map.mpr ((rng_nodup 0 n).imp fun hne z => hne (by injection z))
    refine (sortRs_eq (rows_moved tw_rows tw_rows nd nd (fun t' => ?_) (fun a ha b hb z => mv_inj ho h (pl_th ha) (pl_th hb) z) (fun a ha b hb => ?_) rowH rowH_perm)).symm
    · constructor
      · intro ht
        obtain ⟨i, rfl, i0, i1⟩ := pl_mem.mp ht
        obtain ⟨c, c0, c1, e⟩ := perm_surj ho (by omega) i0 i1
        exact ⟨.pl c, pl_mem.mpr ⟨c, rfl, c0, c1⟩, by rw [← e]; rfl⟩
      · rintro ⟨t, ht, rfl⟩
        obtain ⟨i, rfl, i0, i1⟩ := pl_mem.mp ht
        have q := nm_rg ho h i0 i1
        exact pl_mem.mpr ⟨_, rfl, q.1, q.2⟩
    · obtain ⟨i, rfl, i0, i1⟩ := pl_mem.mp ha
      obtain ⟨j, rfl, j0, j1⟩ := pl_mem.mp hb
      exact tw_moved ho h ⟨i0, i1⟩ ⟨j0, j1⟩
theorem code_moved {ls : List Int} (hl : LooksOk n ls) {a b : Thing} (ha : ThOk n ts a) (hb : ThOk n ts b) : eCode n (sortP (ts.map (moved o))) (sortI (ls.map (nmO o))) (mvT o a) (mvT o b) = eCode n ts ls a b := by
  unfold eCode
  rw [decide_eq_decide, codeT_eq, codeT_eq]
  constructor
  · intro q l hm
    have r := hl.rg l hm
    rw [← far_moved ho h hb r.1 r.2, ← far_moved ho h ha r.1 r.2]
    exact q _ ((sortI_perm _).mem_iff.mpr (List.mem_map_of_mem (f := nmO o) hm))
  · intro q l' hm
    obtain ⟨l, hl', rfl⟩ := List.mem_map.mp ((sortI_perm _).mem_iff.mp hm)
    have r := hl.rg l hl'
    rw [far_moved ho h hb r.1 r.2, far_moved ho h ha r.1 r.2]
    exact q l hl'
theorem gathered_likes {ls : List Int} (hl : LooksOk n ls) : ∃ y, law_gathered (likesL n (sortP (ts.map (moved o))) (sortI (ls.map (nmO o))) k) = .ok y ∧ law_rows_moved o (likesL n ts ls k) = .ok y := by
  have h' := moved_web ho h
  have k1 := kind_len (k := k) h
  have k2 := kind_len (k := k) h'
  have f1 := likes_few n ts ls k
  have f2 := likes_few n (sortP (ts.map (moved o))) (sortI (ls.map (nmO o))) k
  refine ⟨_, gathered_ok (by omega) fun r hr => ?_, ?_⟩
  · obtain ⟨q1, q2⟩ := cls_few (n := n) (ts := ts) likes_rows hr
    exact ⟨by omega, fun t ht => small_th h' (kindT_ok (q2 t ht))⟩
  · rw [rows_moved_ok ho h (by omega) (fun r hr => by
      obtain ⟨q1, q2⟩ := cls_few (n := n) (ts := ts) likes_rows hr
      exact ⟨by omega, fun t ht => kindT_ok (q2 t ht)⟩) fun r hr t ht => small_th h' (mv_ok ho h (kindT_ok ((cls_few (n := n) (ts := ts) likes_rows hr).2 t ht)))]
    congr 1
    exact (sortRs_eq (rows_moved likes_rows likes_rows (kindT_nodup h) (kindT_nodup h') (fun t' => kind_moved ho h) (fun a ha b hb z => mv_inj ho h (kindT_ok ha) (kindT_ok hb) z) (fun a ha b hb => code_moved ho h hl (kindT_ok ha) (kindT_ok hb)) rowH rowH_perm)).symm
theorem places_ok : law_same_places (n, ⟨ts⟩) (n, ⟨sortP (ts.map (moved o))⟩) o = .ok true := by
  have h' := moved_web ho h
  have hn1 := h.n1
  have hn := h.n60
  obtain ⟨l, el, hl⟩ := rngC_ok hn1 hn
  refine po_iff ?_
  unfold law_same_places
  show Post (rngCR 0 n (1 + n / 9) >>= _) _ _
  rw [el, ok_bind]
  refine po_bind (po_foldX (fun _ => True) trivial fun _ b _ hb => ?_) fun r ⟨_, e, _⟩ => ?_
  · obtain ⟨b0, b1⟩ := hl b hb
    have nb := nm_rg ho h b0 b1
    rw [get_nm ho h b0 b1, ok_bind]
    show Post (fars_from (n, ⟨sortP (ts.map (moved o))⟩) (nmO o b) >>= _) _ _
    rw [fars_ok h' nb.1 nb.2, ok_bind]
    refine po_rng (by decide) (by decide) (by show -(2 ^ 62) ≤ n; omega) (by show n < 2 ^ 62; omega) ?_
    refine po_mapGE (g := fun a => dst n ts b a) (by show (rng 0 n).length < 100000; rw [rng_length]; omega) (fun a ha => ?_) ?_
    · obtain ⟨a0, a1⟩ := rng_mem.mp ha
      have na := nm_rg ho h a0 a1
      rw [get_nm ho h a0 a1, ok_bind]
      show (getI ((rng 0 n).map (dst n (sortP (ts.map (moved o))) (nmO o b))) (nmO o a) >>= _) = _
      rw [row_get na.1 na.2, ok_bind, dst_moved ho h b0 b1 a0 a1]
    · show Post (fars_from (n, ⟨ts⟩) b >>= _) _ _
      rw [fars_ok h b0 b1, ok_bind]
      refine po_if (fun c => ?_) fun _ => ?_
      · have c' : (!decide ((rng 0 n).map (fun a => dst n ts b a) = (rng 0 n).map (dst n ts b))) = true := c
        rw [decide_eq_true rfl] at c'
        cases c'
      · rw [ok_bind]
        show Post (neighbours_of (n, ⟨sortP (ts.map (moved o))⟩) (nmO o b) >>= _) _ _
        rw [nbr_ok h' nb.1 nb.2, ok_bind]
        show Post (neighbours_of (n, ⟨ts⟩) b >>= _) _ _
        rw [nbr_ok h b0 b1, ok_bind]
        refine po_mapGE (g := nmO o) (by rw [(sortI_perm _).length_eq]; have := nbs_len_n h b; omega) (fun a ha => ?_) ?_
        · have q := h.adj (nbs_mem.mp ((sortI_perm _).mem_iff.mp ha))
          rw [get_nm ho h q.2.2.1 q.2.2.2.1, ok_bind]
        · refine po_if (fun c => ?_) fun _ => ⟨_, rfl, trivial⟩
          have c' : (!decide (sortI (nbs (sortP (ts.map (moved o))) (nmO o b)) = sortI ((sortI (nbs ts b)).map (nmO o)))) = true := c
          rw [decide_eq_true (nbs_moved ho h b0 b1)] at c'
          cases c'
  · rw [e]
    obtain ⟨y, e1, e2⟩ := gathered_twins ho h
    show Post (twins_of (n, ⟨sortP (ts.map (moved o))⟩) >>= _) _ _
    rw [twins_ok h', ok_bind, e1, ok_bind]
    show Post (twins_of (n, ⟨ts⟩) >>= _) _ _
    rw [twins_ok h, ok_bind, e2, ok_bind]
    exact decide_eq_true rfl
end
end G
namespace G
open PySem L2 Z
/-! ### a lot that is none -/
theorem ties_kind (n : Int) (ts : List (Int × Int)) : kindT n ts "ties" = mkti ts := by
  unfold kindT
  rw [if_neg (by decide), if_pos (by decide)]
theorem is_lot_no {n a b : Int} {ts : List (Int × Int)} (h : WebOk n ts) (hne : a ≠ b) : is_lot (n, ⟨ts⟩) "ties" [.pl a, .pl b] = .ok false := by
  have hne' : Thing.pl a ≠ Thing.pl b := fun z => hne (by injection z)
  refine po_iff ?_
  unfold is_lot
  rw [things_ok h, ok_bind]
  refine po_bind (Q := fun j => j = true) ?_ fun j hj => by
    subst hj
    exact po_if (fun _ => rfl) fun c => absurd rfl c
  rw [if_neg (by show ¬ decide ((2 : Int) < 2) = true; decide)]
  have e : setLen [Thing.pl a, Thing.pl b] = R.ok (2 : Int) := by
    unfold setLen
    have hok : okS [Thing.pl a, Thing.pl b] = true := by
      unfold okS
      rw [decide_eq_true (show [Thing.pl a, Thing.pl b].Nodup from by simp [hne'])]
      rfl
    rw [if_pos hok]
    rfl
  rw [e, ok_bind, if_neg (by show ¬ decide ((2 : Int) < 2) = true; decide)]
  refine po_mapGE (g := fun b => inB b (kindT n ts "ties")) (by show 2 < 100000; decide) (fun _ _ => rfl) ?_
  show (!(([Thing.pl a, Thing.pl b].map fun b => inB b (kindT n ts "ties")).all id)) = true
  have e2 : inB (Thing.pl a) (kindT n ts "ties") = false := inB_f.mpr fun z => by
    rw [ties_kind] at z
    obtain ⟨c, d, q, _⟩ := ti_mem.mp z
    cases q
  rw [List.map_cons, e2]
  rfl
theorem floor_none {n a b : Int} {ts : List (Int × Int)} {l : List Thing} (h : WebOk n ts) (hl : GoodLot n ts "ties" l) (hne : a ≠ b) : floor_height (n, ⟨ts⟩) "ties" [l, [.pl a, .pl b]] = .ok none := by
  have hn1 := h.n1
  have hn := h.n60
  refine po_iff ?_
  unfold floor_height
  refine po_rng (by decide) (by decide) (by show -(2 ^ 62) ≤ n; omega) (by show n < 2 ^ 62; omega) ?_
  refine po_mapGE (g := fun p => (rng 0 n).map (dst n ts p)) (by show (rng 0 n).length < 100000; rw [rng_length]; omega) (fun p hp => by
    rw [fars_ok h (rng_mem.mp hp).1 (rng_mem.mp hp).2]
    rfl) ?_
  refine po_bind (po_foldXP (fun (pre : List (List Thing)) (g : Int × List Int) => (pre = [] ∧ g.2 = []) ∨ pre = [l]) (fun z : Option Int => z = none) (.inl ⟨rfl, rfl⟩) ?_) ?_
  · rintro pre ⟨hh, met⟩ lot post e hI
    rcases hI with ⟨rfl, hm⟩ | rfl
    · have hm' : met = [] := hm
      subst hm'
      have el : lot = l := by
        have e' : [l, [Thing.pl a, .pl b]] = lot :: post := e
        injection e' with e1 e2
        exact e1.symm
      subst el
      rw [is_lot_ok h hl, ok_bind]
      refine po_if (fun c => absurd c (by decide)) fun _ => ?_
      show Post (lot_parters (tabL n ts) lot >>= _) _ _
      rw [lot_parters_ok h (good_len h hl) fun X hX => kindT_ok (hl.sub X hX), ok_bind]
      refine po_bind (po_foldXP (fun (pr : List Int) (m : List Int) => m.length ≤ pr.length) (fun z : Option Int => z = none) (Nat.le_refl _) ?_) ?_
      · intro pr m v post2 e2 hm2
        have hlen : pr.length + 1 ≤ n.toNat := by
          have q1 := congrArg List.length e2
          rw [List.length_append, List.length_cons] at q1
          have q2 := List.length_filter_le (fun p => decide (1 < (nub (lot.map (farT n ts p))).length)) (rng 0 n)
          rw [rng_length] at q2
          have q3 : (lotP n ts lot).length ≤ (n - 0).toNat := q2
          omega
        refine po_if (fun _ => .inl ⟨none, rfl, rfl⟩) fun _ => po_app (by omega) (.inr ⟨_, rfl, ?_⟩)
        rw [List.length_append, List.length_append]
        show m.length + 1 ≤ pr.length + 1
        omega
      · rintro r (⟨z, rfl, hz⟩ | ⟨m, rfl, _⟩)
        · exact .inl ⟨z, rfl, hz⟩
        · exact .inr ⟨_, rfl, .inr rfl⟩
    · have el : lot = [.pl a, .pl b] := by
        have e' : [l, [Thing.pl a, .pl b]] = l :: lot :: post := e
        injection e' with e1 e2
        injection e2 with e3 e4
        exact e3.symm
      subst el
      rw [is_lot_no h hne, ok_bind]
      exact po_if (fun _ => .inl ⟨none, rfl, rfl⟩) fun c => absurd rfl c
  · rintro r (⟨z, rfl, hz⟩ | ⟨g, rfl, hI⟩)
    · exact hz
    · rcases hI with ⟨q, _⟩ | q
      · cases q
      · have := congrArg List.length q
        cases this
section
variable {n : Int} {ts : List (Int × Int)} {o : List Int} {k : Str} (ho : o.Perm (rng 0 n)) (h : WebOk n ts)
include ho h
theorem lot_perm {l : List Thing} (hl : ∀ X ∈ l, ThOk n ts X) : (lotP n (sortP (ts.map (moved o))) (l.map (mvT o))).Perm ((lotP n ts l).map (nmO o)) := by
  refine perm_nd lotP_nd (List.pairwise_map.mpr (lotP_nd.imp_of_mem fun {a b} ha hb hne z => hne (nm_inj ho h (lotP_mem.mp ha).1.1 (lotP_mem.mp ha).1.2 (lotP_mem.mp hb).1.1 (lotP_mem.mp hb).1.2 z))) fun x => ?_
  rw [lotP_mem, List.mem_map]
  constructor
  · rintro ⟨⟨x0, x1⟩, X', hX', Y', hY', hne⟩
    obtain ⟨X, hX, rfl⟩ := List.mem_map.mp hX'
    obtain ⟨Y, hY, rfl⟩ := List.mem_map.mp hY'
    obtain ⟨c, c0, c1, e⟩ := perm_surj ho (by have := h.n1; omega) x0 x1
    have e' : nmO o c = x := e
    subst e'
    rw [far_moved ho h (hl X hX) c0 c1, far_moved ho h (hl Y hY) c0 c1] at hne
    exact ⟨c, lotP_mem.mpr ⟨⟨c0, c1⟩, X, hX, Y, hY, hne⟩, rfl⟩
  · rintro ⟨c, hc, rfl⟩
    obtain ⟨⟨c0, c1⟩, X, hX, Y, hY, hne⟩ := lotP_mem.mp hc
    refine ⟨nm_rg ho h c0 c1, _, List.mem_map_of_mem (f := mvT o) hX, _, List.mem_map_of_mem (f := mvT o) hY, ?_⟩
    rw [far_moved ho h (hl X hX) c0 c1, far_moved ho h (hl Y hY) c0 c1]
    exact hne
theorem lots_nd {X Y : Thing} {a b : Int} (hX : ThOk n ts X) (hY : ThOk n ts Y) (ha : 0 ≤ a ∧ a < n) (hb : 0 ≤ b ∧ b < n) : (([[mvT o X, mvT o Y], [Thing.pl (nmO o a), .pl (nmO o b)]] : List (List Thing)).flatMap (lotP n (sortP (ts.map (moved o))))).Nodup ↔ (([[X, Y], [Thing.pl a, .pl b]] : List (List Thing)).flatMap (lotP n ts)).Nodup := by
  have p1 := lot_perm ho h (l := [X, Y]) fun Z hZ => by
    rcases List.mem_cons.mp hZ with rfl | hZ
    · exact hX
    · rw [List.mem_singleton.mp hZ]; exact hY
  have p2 := lot_perm ho h (l := [Thing.pl a, .pl b]) fun Z hZ => by
    rcases List.mem_cons.mp hZ with rfl | hZ
    · exact ha
    · rw [List.mem_singleton.mp hZ]; exact hb
  have P : (([[mvT o X, mvT o Y], [Thing.pl (nmO o a), .pl (nmO o b)]] : List (List Thing)).flatMap (lotP n (sortP (ts.map (moved o))))).Perm ((([[X, Y], [Thing.pl a, .pl b]] : List (List Thing)).flatMap (lotP n ts)).map (nmO o)) := by
    simp only [List.flatMap_cons, List.flatMap_nil, List.append_nil, List.map_append]
    exact p1.append p2
  rw [P.nodup_iff]
  refine ⟨fun q => List.Pairwise.of_map (nmO o) (fun x y hne z => hne (by rw [z])) q, fun q => List.pairwise_map.mpr (q.imp_of_mem fun {x y} hx hy hne z => hne ?_)⟩
  have rg : ∀ v ∈ (([[X, Y], [Thing.pl a, .pl b]] : List (List Thing)).flatMap (lotP n ts)), 0 ≤ v ∧ v < n := fun v hv => by
    obtain ⟨l, _, hl⟩ := List.mem_flatMap.mp hv
    exact (lotP_mem.mp hl).1
  exact nm_inj ho h (rg x hx).1 (rg x hx).2 (rg y hy).1 (rg y hy).2 z
end
theorem pl_kind {n : Int} {ts : List (Int × Int)} {k : Str} (hk : k ≠ "ties") {a : Int} (ha : 0 ≤ a ∧ a < n) : Thing.pl a ∈ kindT n ts k := by
  have hp : Thing.pl a ∈ mkpl (rng 0 n) := pl_mem.mpr ⟨a, rfl, ha⟩
  unfold kindT
  split
  · exact hp
  · rw [if_neg fun c => hk (of_decide_eq_true c)]
    exact List.mem_append_left _ hp
theorem good_two {n : Int} {ts : List (Int × Int)} {k : Str} {X Y : Thing} (hX : X ∈ kindT n ts k) (hY : Y ∈ kindT n ts k) (hne : X ≠ Y) : GoodLot n ts k [X, Y] :=
  ⟨by simp [hne], fun Z hZ => by
    rcases List.mem_cons.mp hZ with rfl | hZ
    · exact hX
    · rw [List.mem_singleton.mp hZ]; exact hY, Nat.le_refl _, .inl ⟨X, Y, rfl⟩⟩
open Classical in
theorem floor_is {n : Int} {ts : List (Int × Int)} {k : Str} {X Y : Thing} {a b : Int} (h : WebOk n ts) (hX : X ∈ kindT n ts k) (hY : Y ∈ kindT n ts k) (hne : X ≠ Y) (ha : 0 ≤ a ∧ a < n) (hb : 0 ≤ b ∧ b < n) (hab : a ≠ b) :
    floor_height (n, ⟨ts⟩) k [[X, Y], [.pl a, .pl b]] = .ok (if k ≠ "ties" ∧ (([[X, Y], [Thing.pl a, .pl b]] : List (List Thing)).flatMap (lotP n ts)).Nodup then some 2 else none) := by
  by_cases c : k = "ties"
  · subst c
    rw [floor_none h (good_two hX hY hne) hab, if_neg fun q => q.1 rfl]
  · obtain ⟨r, e, q⟩ := po_ex (floor_ok h (lots := [[X, Y], [Thing.pl a, .pl b]]) fun l hl => by
      rcases List.mem_cons.mp hl with rfl | hl
      · exact good_two hX hY hne
      · rw [List.mem_singleton.mp hl]
        exact good_two (pl_kind c ha) (pl_kind c hb) fun z => hab (by injection z))
    rw [e]
    rcases q with ⟨rfl, q⟩ | ⟨rfl, q⟩
    · rw [if_neg fun z => q z.2]
    · rw [if_pos ⟨c, q⟩]
      rfl
theorem floor_moved {n : Int} {ts : List (Int × Int)} {o : List Int} {k : Str} {X Y : Thing} {a b : Int} (ho : o.Perm (rng 0 n)) (h : WebOk n ts) (hX : X ∈ kindT n ts k) (hY : Y ∈ kindT n ts k) (hne : X ≠ Y) (ha : 0 ≤ a ∧ a < n) (hb : 0 ≤ b ∧ b < n) (hab : a ≠ b) :
    ∃ r, floor_height (n, ⟨sortP (ts.map (moved o))⟩) k [[mvT o X, mvT o Y], [.pl (nmO o a), .pl (nmO o b)]] = .ok r ∧ floor_height (n, ⟨ts⟩) k [[X, Y], [.pl a, .pl b]] = .ok r := by
  refine ⟨_, ?_, floor_is h hX hY hne ha hb hab⟩
  rw [floor_is (moved_web ho h) ((kind_moved ho h).mpr ⟨X, hX, rfl⟩) ((kind_moved ho h).mpr ⟨Y, hY, rfl⟩) (fun z => hne (mv_inj ho h (kindT_ok hX) (kindT_ok hY) z)) (nm_rg ho h ha.1 ha.2) (nm_rg ho h hb.1 hb.2) fun z => hab (nm_inj ho h ha.1 ha.2 hb.1 hb.2 z)]
  have q := lots_nd ho h (kindT_ok hX) (kindT_ok hY) ha hb
  by_cases c : k ≠ "ties" ∧ (([[X, Y], [Thing.pl a, .pl b]] : List (List Thing)).flatMap (lotP n ts)).Nodup
  · rw [if_pos c, if_pos ⟨c.1, q.mpr c.2⟩]
  · rw [if_neg c, if_neg fun z => c ⟨z.1, q.mp z.2⟩]
end G
namespace G
open PySem L2 Z
section
variable {n : Int} {ts : List (Int × Int)} {o : List Int} {k : Str} (ho : o.Perm (rng 0 n)) (h : WebOk n ts)
include ho h
theorem part_moved {X Y : Thing} (hX : ThOk n ts X) (hY : ThOk n ts Y) : partL n (sortP (ts.map (moved o))) (mvT o X) (mvT o Y) = sortI ((partL n ts X Y).map (nmO o)) := by
  have pnd : ∀ (us : List (Int × Int)) (A B : Thing), (partL n us A B).Nodup := fun us A B => (rng_nodup 0 n).filter _
  have pm : ∀ (us : List (Int × Int)) (A B : Thing) (p : Int), p ∈ partL n us A B ↔ (0 ≤ p ∧ p < n) ∧ farT n us p A ≠ farT n us p B := fun us A B p => by
    unfold partL
    rw [List.mem_filter, rng_mem]
    simp
  refine sortI_eq (perm_nd (pnd _ _ _) (List.pairwise_map.mpr ((pnd ts X Y).imp_of_mem fun {a b} ha hb hne z => hne (nm_inj ho h ((pm _ _ _ _).mp ha).1.1 ((pm _ _ _ _).mp ha).1.2 ((pm _ _ _ _).mp hb).1.1 ((pm _ _ _ _).mp hb).1.2 z))) fun x => ?_) (((rng_sorted 0 n).sublist List.filter_sublist).imp fun z => Int.le_of_lt z)
  rw [pm, List.mem_map]
  constructor
  · rintro ⟨⟨x0, x1⟩, hx⟩
    obtain ⟨c, c0, c1, e⟩ := perm_surj ho (by have := h.n1; omega) x0 x1
    have e' : nmO o c = x := e
    subst e'
    rw [far_moved ho h hX c0 c1, far_moved ho h hY c0 c1] at hx
    exact ⟨c, (pm _ _ _ _).mpr ⟨⟨c0, c1⟩, hx⟩, rfl⟩
  · rintro ⟨c, hc, rfl⟩
    obtain ⟨⟨c0, c1⟩, hne⟩ := (pm _ _ _ _).mp hc
    refine ⟨nm_rg ho h c0 c1, ?_⟩
    rw [far_moved ho h hX c0 c1, far_moved ho h hY c0 c1]
    exact hne
theorem code_sorted {ls : List Int} (hl : LooksOk n ls) {X : Thing} (hX : ThOk n ts X) : sortI ((sortI (ls.map (nmO o))).map fun l => farT n (sortP (ts.map (moved o))) l (mvT o X)) = sortI (ls.map fun l => farT n ts l X) := by
  refine sort_perm (((sortI_perm _).map _).trans ?_)
  rw [List.map_map]
  refine List.Perm.of_eq (List.map_congr_left fun l hm => ?_)
  exact far_moved ho h hX (hl.rg l hm).1 (hl.rg l hm).2
theorem things_same {s : List Int} (hs : PotOk s) (hk : kindT n ts k ≠ []) : Post (law_same_things s (n, ⟨ts⟩) (n, ⟨sortP (ts.map (moved o))⟩) o k) (fun r => r.1 = true ∧ PotOk r.2) noX := by
  have h' := moved_web ho h
  have hn1 := h.n1
  have hn := h.n60
  have kl := kind_len (k := k) h
  have kpos : 0 < (kindT n ts k).length := Nat.pos_of_ne_zero fun z => hk (List.eq_nil_of_length_eq_zero z)
  unfold law_same_things
  rw [things_ok h, ok_bind]
  refine po_bind (some_ok hs (by show 0 ≤ n; omega) (by show n < 10000; omega)) fun y10 ⟨hl, hp⟩ => ?_
  have hl' : LooksOk n y10.1 := hl
  have ll := hl'.len
  refine po_mapGE (g := nmO o) (by omega) (fun a ha => by rw [get_nm ho h (hl'.rg a ha).1 (hl'.rg a ha).2, ok_bind]) ?_
  obtain ⟨y, e1, e2⟩ := gathered_likes (k := k) ho h hl'
  have lm := looks_moved ho h hl'
  show Post (likes_by (n, ⟨sortP (ts.map (moved o))⟩) (sortI (y10.1.map (nmO o))) k >>= _) _ _
  rw [likes_by_ok h' lm, ok_bind, e1, ok_bind]
  show Post (likes_by (n, ⟨ts⟩) y10.1 k >>= _) _ _
  rw [likes_by_ok h hl', ok_bind, e2, ok_bind]
  refine po_if (fun c => ?_) fun _ => ?_
  · rw [decide_eq_true rfl] at c
    cases c
  have em : ∃ m : Int, getI ([(5 : Int), (3 : Int)] : (List Int)) (b2i (decide ((20 : Int) < n))) = R.ok m ∧ 0 ≤ m ∧ m ≤ 5 := by
    cases decide ((20 : Int) < n) with
    | true => exact ⟨3, rfl, by decide, by decide⟩
    | false => exact ⟨5, rfl, by decide, by decide⟩
  obtain ⟨m, em, m0, m1⟩ := em
  show Post (getI ([(5 : Int), (3 : Int)] : (List Int)) (b2i (decide ((20 : Int) < n))) >>= _) _ _
  rw [em, ok_bind]
  refine po_rng (by decide) (by decide) (by omega) (by omega) ?_
  refine po_bind (po_foldX (fun g => PotOk g) hp fun g _ hg _ => ?_) fun r ⟨g, e, hg⟩ => ?_
  · refine po_bind (take_ok hg (by omega) (by omega)) fun y37 ⟨a0, a1, h37⟩ => po_get a0 a1 fun X hX _ => ?_
    refine po_bind (take_ok h37 (by omega) (by omega)) fun y40 ⟨b0, b1, h40⟩ => po_get b0 b1 fun Y hY _ => ?_
    have tX := kindT_ok hX
    have tY := kindT_ok hY
    rw [law_moved_ok ho h tX, ok_bind]
    show Post (code_of (n, ⟨sortP (ts.map (moved o))⟩) (sortI (y10.1.map (nmO o))) (mvT o X) >>= _) _ _
    rw [code_ok h' lm (mv_ok ho h tX), ok_bind]
    show Post (code_of (n, ⟨ts⟩) y10.1 X >>= _) _ _
    rw [code_ok h hl' tX, ok_bind]
    refine po_if (fun c => ?_) fun _ => ?_
    · have c' : (!decide (sortI ((sortI (y10.1.map (nmO o))).map fun l => farT n (sortP (ts.map (moved o))) l (mvT o X)) = sortI (y10.1.map fun l => farT n ts l X))) = true := c
      rw [decide_eq_true (code_sorted ho h hl' tX)] at c'
      cases c'
    · refine po_if (fun c => ?_) fun _ => ⟨_, rfl, h40⟩
      have hne : X ≠ Y := fun z => by
        rw [decide_eq_true z] at c
        cases c
      have n2 : (0 : Int) ≠ n - 1 := by
        intro z
        have n1' : n = 1 := by omega
        subst n1'
        -- one place has no ties, so there is but one thing
        have ht : ts = [] := by
          cases ets : ts with
          | nil => rfl
          | cons p l =>
            have := h.rg p (by rw [ets]; simp)
            omega
        have one : ∀ Z, ThOk 1 ts Z → Z = .pl 0 := fun Z hZ => by
          cases Z with
          | pl i =>
            have q : 0 ≤ i ∧ i < 1 := hZ
            rw [show i = 0 by omega]
          | ti a b =>
            have q : (a, b) ∈ ts := hZ
            rw [ht] at q
            cases q
        exact hne ((one X tX).trans (one Y tY).symm)
      rw [law_moved_ok ho h tY, ok_bind, ok_bind]
      show Post (parters_of (n, ⟨sortP (ts.map (moved o))⟩) (mvT o X) (mvT o Y) >>= _) _ _
      rw [parters_ok h' (mv_ok ho h tX) (mv_ok ho h tY), ok_bind]
      show Post (parters_of (n, ⟨ts⟩) X Y >>= _) _ _
      rw [parters_ok h tX tY, ok_bind]
      refine po_mapGE (g := nmO o) (by
        have q := List.length_filter_le (fun p => !decide (farT n ts p X = farT n ts p Y)) (rng 0 n)
        rw [rng_length] at q
        show (partL n ts X Y).length < 100000
        have q' : (partL n ts X Y).length ≤ (n - 0).toNat := q
        omega) (fun a ha => by
        obtain ⟨q0, q1⟩ := rng_mem.mp (List.mem_filter.mp ha).1
        rw [get_nm ho h q0 q1, ok_bind]) ?_
      refine po_if (fun c => ?_) fun _ => ?_
      · have c' : (!decide (partL n (sortP (ts.map (moved o))) (mvT o X) (mvT o Y) = sortI ((partL n ts X Y).map (nmO o)))) = true := c
        rw [decide_eq_true (part_moved ho h tX tY)] at c'
        cases c'
      · rw [ok_bind, ok_bind, get_nm ho h (Int.le_refl 0) (by omega), ok_bind]
        show Post (getI o (n - 1) >>= _) _ _
        rw [get_nm ho h (by omega) (by omega), ok_bind]
        obtain ⟨r, f1, f2⟩ := floor_moved (a := 0) (b := n - 1) ho h hX hY hne ⟨Int.le_refl 0, by omega⟩ ⟨by omega, by omega⟩ n2
        show Post (floor_height (n, ⟨sortP (ts.map (moved o))⟩) k [[mvT o X, mvT o Y], [.pl (nmO o 0), .pl (nmO o (n - 1))]] >>= _) _ _
        rw [f1, ok_bind]
        show Post (floor_height (n, ⟨ts⟩) k [[X, Y], [.pl 0, .pl (n - 1)]] >>= _) _ _
        rw [f2, ok_bind]
        refine po_if (fun c => ?_) fun _ => ⟨_, rfl, h40⟩
        rw [decide_eq_true rfl] at c
        cases c
  · rw [e]
    exact ⟨rfl, hg⟩
end
theorem kind_ok {s : List Int} (h : PotOk s) : Post (law_kind s) (fun r => PotOk r.2) noX := by
  unfold law_kind
  refine po_bind (take_ok h (by decide) (by decide)) fun y ⟨q0, q1, hq⟩ => po_get q0 q1 fun t _ _ => hq
theorem law_true (ns : List Int) (h : ns.length ≤ 63) : law ⟨ns⟩ = R.ok true := by
  refine po_iff ?_
  unfold law
  refine po_bind (cells_ok (m := 3) h (by decide) (by decide)) fun y3 hy3 => ?_
  refine po_bind (po_foldX (fun _ => True) trivial fun s x _ hx => ?_) fun r ⟨s, e, _⟩ => ?_
  · obtain ⟨k0, k1, _⟩ := enum_mem hx
    refine po_bind (pot_ok k0 (by omega)) fun y7 h7 => po_bind (web_ok h7 (by decide) (by decide)) fun y9 ⟨h9, p9⟩ => ?_
    obtain ⟨⟨n, ⟨ts⟩⟩, s9⟩ := y9
    have hw : WebOk n ts := h9
    have hn1 := hw.n1
    have hn := hw.n60
    refine po_bind (order_ok p9 (by show 0 ≤ n; omega) (by show n < 10000; omega)) fun y12 ⟨ho, p12⟩ => ?_
    have ho' : y12.1.Perm (rng 0 n) := ho
    refine po_bind (Q := fun g => g = ts.map fun p => (nmO y12.1 p.1, nmO y12.1 p.2)) (Post.mono (po_foldP (fun pre g => g = pre.map fun p => (nmO y12.1 p.1, nmO y12.1 p.2)) rfl ?_) (fun _ z => z) fun _ z => z) fun g hg => ?_
    · intro pre g p post e hg
      have hp : p ∈ ts := by
        have e' : ts = pre ++ p :: post := e
        rw [e']; simp
      have hr := hw.rg4 p hp
      rw [get_nm ho' hw hr.1 hr.2.1, ok_bind, get_nm ho' hw hr.2.2.1 hr.2.2.2, ok_bind]
      have hl : pre.length < 1000 := by
        have e' : ts = pre ++ p :: post := e
        have q := hw.len
        have q2 := congrArg List.length e'
        rw [List.length_append, List.length_cons] at q2
        omega
      refine po_app (by rw [hg, List.length_map]; omega) ?_
      rw [hg, List.map_append]
      rfl
    · subst hg
      show Post (made_web n (ts.map fun p => (nmO y12.1 p.1, nmO y12.1 p.2)) >>= _) _ _
      rw [made_moved ho' hw, ok_bind]
      refine po_bind (kind_ok p12) fun y29 p29 => ?_
      show Post (law_same_places (n, ⟨ts⟩) (n, ⟨sortP (ts.map (moved y12.1))⟩) y12.1 >>= _) _ _
      rw [places_ok ho' hw, ok_bind]
      refine po_if (fun c => absurd c (by decide)) fun _ => ?_
      refine po_bind (Q := fun j => j.1 = false) ?_ fun j hj => ?_
      · show Post (things_of (n, ⟨ts⟩) y29.1 >>= _) _ _
        rw [things_ok hw, ok_bind]
        refine po_if (fun c => ?_) fun _ => rfl
        have hk : kindT n ts y29.1 ≠ [] := fun z => by
          rw [decide_eq_true z] at c
          cases c
        refine po_bind (things_same ho' hw p29 hk) fun y41 ⟨q, _⟩ => ?_
        show (!y41.1) = false
        rw [q]
        rfl
      · rw [hj]
        exact po_if (fun c => absurd c (by decide)) fun _ => ⟨_, rfl, trivial⟩
  · rw [e]
    rfl
end G
namespace HD
open PySem (PyData Obj Params Str)
@[reducible] noncomputable def en (P : PySem.Params) (k : PySem.Str) (t : Nat) (v : PySem.Value) : PySem.DictEntry := .mk (PyData.keyHash P k) (.str k t) v
@[reducible] noncomputable def ob (c : PySem.Value) (d : PySem.Data) : PySem.Obj := .mk c none d (Array.mk [])
@[reducible] noncomputable def fO (c : PySem.Value) (n : PySem.Str) (s : PySem.Stmt) (pm cd : PySem.Value) : PySem.Obj := .mk c none (.func (PySem.W.fnOf n n (L2.defArgs s) (L2.defBody s) (L2.defScope s) .none .none .none pm none cd .none)) (Array.mk [])
@[reducible] noncomputable def cO (n : PySem.Str) (s : PySem.Stmt) : PySem.Obj := .mk .none none (.func (.mk n n (L2.defArgs s) (.stmts (L2.defBody s)) (L2.defScope s) 0 [] .none .none .none .none none .none .none 0)) (Array.mk [])
@[reducible] noncomputable def i (x : Int) : PySem.Value := .int x 0
@[reducible] noncomputable def n (o : PySem.Obj) (x y : PySem.W.BT) : PySem.W.BT := .node o x y
@[reducible] noncomputable def l (o : PySem.Obj) : PySem.W.BT := .node o .nil .nil
noncomputable def a0 : Str := ⟨⟨[95,95,110,97,109,101,95,95]⟩⟩
noncomputable def a1 : Str := ⟨⟨[72,97,105,108,69,114,114,111,114]⟩⟩
noncomputable def a2 : Str := ⟨⟨[86,97,108,117,101,69,114,114,111,114]⟩⟩
noncomputable def a3 : Str := ⟨⟨[78,111,87,101,98]⟩⟩
noncomputable def a4 : Str := ⟨⟨[78,111,80,108,97,99,101]⟩⟩
noncomputable def a5 : Str := ⟨⟨[78,111,84,104,105,110,103]⟩⟩
noncomputable def a6 : Str := ⟨⟨[78,111,76,111,111,107,115]⟩⟩
noncomputable def a7 : Str := ⟨⟨[65,112,97,114,116]⟩⟩
noncomputable def a8 : Str := ⟨⟨[77,79,83,84,95,80,76,65,67,69,83]⟩⟩
noncomputable def a9 : Str := ⟨⟨[110,101,97,114,95,108,105,115,116,115]⟩⟩
noncomputable def a10 : Str := ⟨⟨[110,101,97,114,95,108,105,115,116,115,95,119,101,98,115]⟩⟩
noncomputable def a11 : Str := ⟨⟨[102,97,114,115,95,98,121]⟩⟩
noncomputable def a12 : Str := ⟨⟨[115,111,114,116,101,100,95,116,105,101,115]⟩⟩
noncomputable def a13 : Str := ⟨⟨[109,97,100,101,95,119,101,98]⟩⟩
noncomputable def a14 : Str := ⟨⟨[112,108,97,99,101,95,97,115,107,101,100]⟩⟩
noncomputable def a15 : Str := ⟨⟨[110,101,105,103,104,98,111,117,114,115,95,111,102]⟩⟩
noncomputable def a16 : Str := ⟨⟨[102,97,114,115,95,102,114,111,109]⟩⟩
noncomputable def a17 : Str := ⟨⟨[116,97,98,108,101,95,111,102]⟩⟩
noncomputable def a18 : Str := ⟨⟨[116,104,105,110,103,115,95,111,102]⟩⟩
noncomputable def a19 : Str := ⟨⟨[108,111,111,107,115,95,97,115,107,101,100]⟩⟩
noncomputable def a20 : Str := ⟨⟨[116,104,105,110,103,95,97,115,107,101,100]⟩⟩
noncomputable def a21 : Str := ⟨⟨[102,97,114,95,98,121]⟩⟩
noncomputable def a22 : Str := ⟨⟨[102,97,114,95,98,121,95,99,111,100,101,115]⟩⟩
noncomputable def a23 : Str := ⟨⟨[112,97,114,116,101,114,115,95,98,121]⟩⟩
noncomputable def a24 : Str := ⟨⟨[99,111,100,101,95,111,102]⟩⟩
noncomputable def a25 : Str := ⟨⟨[112,97,114,116,101,114,115,95,111,102]⟩⟩
noncomputable def a26 : Str := ⟨⟨[98,121,95,99,111,100,101]⟩⟩
noncomputable def a27 : Str := ⟨⟨[108,105,107,101,115,95,98,121]⟩⟩
noncomputable def a28 : Str := ⟨⟨[110,101,97,114,95,108,105,115,116,115,95,102,108,111,111,114,115]⟩⟩
noncomputable def a29 : Str := ⟨⟨[102,97,114,95,98,121,95,102,108,111,111,114,115]⟩⟩
noncomputable def a30 : Str := ⟨⟨[97,114,101,95,116,119,105,110,115]⟩⟩
noncomputable def a31 : Str := ⟨⟨[116,119,105,110,115,95,111,102]⟩⟩
noncomputable def a32 : Str := ⟨⟨[105,115,95,108,111,116]⟩⟩
noncomputable def a33 : Str := ⟨⟨[108,111,116,95,112,97,114,116,101,114,115]⟩⟩
noncomputable def a34 : Str := ⟨⟨[102,108,111,111,114,95,104,101,105,103,104,116]⟩⟩
noncomputable def a35 : Str := ⟨⟨[95,108,97,119,95,112,111,116]⟩⟩
noncomputable def a36 : Str := ⟨⟨[95,108,97,119,95,116,97,107,101]⟩⟩
noncomputable def a37 : Str := ⟨⟨[95,108,97,119,95,102,111,108,100,101,100]⟩⟩
noncomputable def a38 : Str := ⟨⟨[95,108,97,119,95,99,101,108,108,115]⟩⟩
noncomputable def a39 : Str := ⟨⟨[95,108,97,119,95,116,105,101,115]⟩⟩
noncomputable def a40 : Str := ⟨⟨[95,108,97,119,95,98,117,110,99,104,101,115]⟩⟩
noncomputable def a41 : Str := ⟨⟨[95,108,97,119,95,111,114,100,101,114]⟩⟩
noncomputable def a42 : Str := ⟨⟨[95,108,97,119,95,119,101,98]⟩⟩
noncomputable def a43 : Str := ⟨⟨[95,108,97,119,95,115,111,109,101]⟩⟩
noncomputable def a44 : Str := ⟨⟨[95,108,97,119,95,107,105,110,100]⟩⟩
noncomputable def a45 : Str := ⟨⟨[95,108,97,119,95,109,111,118,101,100]⟩⟩
noncomputable def a46 : Str := ⟨⟨[95,108,97,119,95,103,97,116,104,101,114,101,100]⟩⟩
noncomputable def a47 : Str := ⟨⟨[95,108,97,119,95,114,111,119,115,95,109,111,118,101,100]⟩⟩
noncomputable def a48 : Str := ⟨⟨[95,108,97,119,95,115,97,109,101,95,112,108,97,99,101,115]⟩⟩
noncomputable def a49 : Str := ⟨⟨[95,108,97,119,95,115,97,109,101,95,116,104,105,110,103,115]⟩⟩
noncomputable def a50 : Str := ⟨⟨[108,97,119]⟩⟩
noncomputable def env : PySem.Env := ⟨(.mk .module [(a0, .local),(a1, .local),(a2, .globalImplicit),(a3, .local),(a4, .local),(a5, .local),(a6, .local),(a7, .local),(a8, .local),(a9, .local),(a10, .local),(a11, .local),(a12, .local),(a13, .local),(a14, .local),(a15, .local),(a16, .local),(a17, .local),(a18, .local),(a19, .local),(a20, .local),(a21, .local),(a22, .local),(a23, .local),(a24, .local),(a25, .local),(a26, .local),(a27, .local),(a28, .local),(a29, .local),(a30, .local),(a31, .local),(a32, .local),(a33, .local),(a34, .local),(a35, .local),(a36, .local),(a37, .local),(a38, .local),(a39, .local),(a40, .local),(a41, .local),(a42, .local),(a43, .local),(a44, .local),(a45, .local),(a46, .local),(a47, .local),(a48, .local),(a49, .local),(a50, .local)] .false .false []), PySem.mainNs, PySem.mainNs, [], PySem.Str.empty, none, (.ref 13), (some 14), 0⟩
noncomputable abbrev q0 (P : Params) : Obj := PySem.W.boot_o_0 P
noncomputable abbrev q1 (P : Params) : Obj := PySem.W.boot_o_1 P
noncomputable abbrev q2 (P : Params) : Obj := PySem.W.boot_o_2 P
noncomputable abbrev q3 (P : Params) : Obj := PySem.W.boot_o_3 P
noncomputable abbrev q4 (P : Params) : Obj := PySem.W.boot_o_4 P
noncomputable abbrev q5 (P : Params) : Obj := PySem.W.boot_o_5 P
noncomputable abbrev q6 (P : Params) : Obj := PySem.W.boot_o_6 P
noncomputable abbrev q7 (P : Params) : Obj := PySem.W.boot_o_7 P
noncomputable abbrev q8 (P : Params) : Obj := PySem.W.boot_o_8 P
noncomputable abbrev q9 (P : Params) : Obj := PySem.W.boot_o_9 P
noncomputable abbrev q10 (P : Params) : Obj := PySem.W.boot_o_10 P
noncomputable abbrev b0 : String := PySem.W.SL.s2766695959194262286x5
noncomputable def o0 : Obj := (ob (.type b0) (.seq ⟨[]⟩ 0))
noncomputable def o1 : Obj := (ob .none (.fields ⟨[]⟩))
noncomputable abbrev b1 : String := PySem.W.SL.s5856160107412720595x4
noncomputable def a51 : Str := ⟨⟨[60,109,111,100,117,108,101,62]⟩⟩
noncomputable def a52 : Str := ⟨⟨[47,99,108,97,105,109,47,99,117,116,46,112,121]⟩⟩
noncomputable def o2 : Obj := (ob (.type b1) (.fields ⟨[(.str a51 182),(.str a51 183),(.str a52 184),(i 1),(i 0),(i 0),(i 0),(i 0),(.ref 11),(.bool .false),(i 181),(.ref 12),.none,.none,.none,.none,(i 185),(i 1),(.str a52 186)]⟩))
noncomputable abbrev b2 : String := PySem.W.SL.s658472552662922059x5
noncomputable def a53 : Str := ⟨⟨[95,95,109,97,105,110,95,95]⟩⟩
noncomputable def o3 : Obj := (.mk (.type b2) none .plain ⟨[(some (.ref 13)),(some (.ref 3)),(some (.ref 3)),none,(some (.str a53 164)),none,(some (.ref 0))]⟩)
noncomputable def hA (P : PySem.Params) : PySem.Heap := ⟨⟨[(q0 P), (q1 P), (q2 P), (q3 P), (q4 P), (q5 P), (q6 P), (q7 P), (q8 P), (q9 P), (q10 P), o0, o1, o2, o3]⟩, (.mk [] [] [] 0 [] [] .false ⟨[]⟩ [] 0 .false .false .false 0 [2000,10,10] .false 0 .true [] [] 0 .false)⟩
noncomputable def tB (P : PySem.Params) : PySem.W.BT := (n (q0 P) (n (q1 P) (n (q3 P) (l (q7 P)) (l o0)) (n (q5 P) (l (q9 P)) (l o2))) (n (q2 P) (n (q4 P) (l (q8 P)) (l o1)) (n (q6 P) (l (q10 P)) (l o3))))
noncomputable abbrev code : PySem.Code := .body (PySem.W.behindTheImports PySem.Challenge.pw_farhail_k17_whole_webs_numbered_otherwis) env
noncomputable abbrev B : List PySem.Frame := [PySem.W.topFrame (.mk 0 0 0 0)]
theorem pre0 (w : PySem.World) : (fun os : PySem.OsState => PySem.W.Fast.tw15667345088766844465 PySem.W.Fast.tw14364793385576792824 PySem.Challenge.pw_farhail_k17_whole_webs_numbered_otherwis w 11 (some (.ref 6)) 12 (PySem.Shared.mk (PySem.W.boot_heap w.params) (Array.mk ([] : List PySem.GenState)) PySem.W.boot_drawn PySem.W.boot_toks os) (PySem.W.topStub PySem.Challenge.pw_farhail_k17_whole_webs_numbered_otherwis)) = fun os => some ((PySem.Shared.mk (hA w.params) (Array.mk ([] : List PySem.GenState)) (.mk 0 0 0 0) 187 os), PySem.Thread.mk (PySem.W.Fast.tw11892475500146522536 PySem.W.Fast.tw14364793385576792824 code) code (.mk 0 0 0 0) B) := by kernel_rfl
theorem pre (w : PySem.World) (os : PySem.OsState) : PySem.W.topGo PySem.treeTable PySem.Challenge.pw_farhail_k17_whole_webs_numbered_otherwis w 11 (some (.ref 6)) 12 (PySem.Shared.mk (PySem.W.boot_heap w.params) (Array.mk ([] : List PySem.GenState)) PySem.W.boot_drawn PySem.W.boot_toks os) (PySem.W.topStub PySem.Challenge.pw_farhail_k17_whole_webs_numbered_otherwis) = some ((PySem.Shared.mk (hA w.params) (Array.mk ([] : List PySem.GenState)) (.mk 0 0 0 0) 187 os), PySem.Thread.mk (PySem.denote PySem.treeTable code) code (.mk 0 0 0 0) B) := by rw [PySem.W.Fast.te15667345088766844465, PySem.W.Fast.te14364793385576792824, PySem.W.Fast.te11892475500146522536]; exact congrFun (pre0 w) os
theorem block0 (w : PySem.World) : (fun os : PySem.OsState => PySem.W.Fast.tw14374325043358763698 PySem.W.Fast.tw14364793385576792824 PySem.Challenge.pw_farhail_k17_whole_webs_numbered_otherwis w 11 (some (.ref 6)) 1 1 (PySem.Shared.mk (hA w.params) (Array.mk ([] : List PySem.GenState)) (.mk 0 0 0 0) 187 os) (PySem.W.blockOf (PySem.W.behindTheImports PySem.Challenge.pw_farhail_k17_whole_webs_numbered_otherwis) env code (.mk 0 0 0 0) B)) = fun os => some (PySem.Flow.next, (PySem.W.SharedT.mk (tB w.params) 15 (.mk [] [] [] 0 [] [] .false ⟨[]⟩ [] 0 .false .false .false 0 [2000,10,10] .false 0 .true [] [] 0 .false) (Array.mk ([] : List PySem.GenState)) (.mk 0 0 0 0) 187 os).abs, code, (.mk 0 0 0 0)) := by kernel_rfl
theorem block (w : PySem.World) (os : PySem.OsState) : PySem.W.segRun PySem.treeTable PySem.Challenge.pw_farhail_k17_whole_webs_numbered_otherwis w 11 (some (.ref 6)) 1 1 (PySem.Shared.mk (hA w.params) (Array.mk ([] : List PySem.GenState)) (.mk 0 0 0 0) 187 os) (PySem.W.blockOf (PySem.W.behindTheImports PySem.Challenge.pw_farhail_k17_whole_webs_numbered_otherwis) env code (.mk 0 0 0 0) B) = some (PySem.Flow.next, (PySem.W.SharedT.mk (tB w.params) 15 (.mk [] [] [] 0 [] [] .false ⟨[]⟩ [] 0 .false .false .false 0 [2000,10,10] .false 0 .true [] [] 0 .false) (Array.mk ([] : List PySem.GenState)) (.mk 0 0 0 0) 187 os).abs, code, (.mk 0 0 0 0)) := by rw [PySem.W.Fast.te14374325043358763698, PySem.W.Fast.te14364793385576792824]; exact congrFun (block0 w) os
noncomputable def a54 : Str := ⟨⟨[102,97,114,104,97,105,108,46,101,114,114,111,114,115]⟩⟩
noncomputable def a55 : Str := ⟨⟨[95,95,105,110,105,116,95,95]⟩⟩
noncomputable def a56 : Str := ⟨⟨[112,108,97,99,101]⟩⟩
noncomputable def a57 : Str := ⟨⟨[102,97,114,104,97,105,108,46,119,101,98,115]⟩⟩
noncomputable def a58 : Str := ⟨⟨[102,97,114,104,97,105,108,46,99,111,100,101,115]⟩⟩
noncomputable def a59 : Str := ⟨⟨[102,97,114,104,97,105,108,46,102,108,111,111,114,115]⟩⟩
noncomputable def a60 : Str := ⟨⟨[108,97,119,95,102,97,114,104,97,105,108,95,107,49,55,95,119,104,111,108,101,95,119,101,98,115,95,110,117,109,98,101,114,101,100,95,111,116,104,101,114,119,105,115]⟩⟩
noncomputable def sts0 : List PySem.Stmt := [(.Assign [(.Name a0 (.mk 1 0 1 8))] (.Constant (.str a54) 0 (.mk 1 11 1 27)) (.mk 1 0 1 27)), (.ClassDef a1 [(.Name a2 (.mk 2 16 2 26))] [] [(.Pass (.mk 3 4 3 8))] [] [] (.mk .class [] .false .false []) none a1 [] (.mk 2 0 3 8)), (.ClassDef a3 [(.Name a1 (.mk 4 12 4 21))] [] [(.Pass (.mk 5 4 5 8))] [] [] (.mk .class [] .false .false []) none a3 [] (.mk 4 0 5 8)), (.ClassDef a4 [(.Name a1 (.mk 6 14 6 23))] [] [(.Pass (.mk 7 4 7 8))] [] [] (.mk .class [] .false .false []) none a4 [] (.mk 6 0 7 8)), (.ClassDef a5 [(.Name a1 (.mk 8 14 8 23))] [] [(.Pass (.mk 9 4 9 8))] [] [] (.mk .class [] .false .false []) none a5 [] (.mk 8 0 9 8)), (.ClassDef a6 [(.Name a1 (.mk 10 14 10 23))] [] [(.Pass (.mk 11 4 11 8))] [] [] (.mk .class [] .false .false []) none a6 [] (.mk 10 0 11 8)), (.ClassDef a7 [(.Name a1 (.mk 12 12 12 21))] [] [(.FunctionDef a55 (L2.defArgs (L2.inClass (G.top 6) 0)) (L2.defBody (L2.inClass (G.top 6) 0)) [] none [] (L2.defScope (L2.inClass (G.top 6) 0)) none a55 (.mk 14 4 16 26))] [] [] (.mk .class [(a55, .local)] .false .false []) none a7 [a56] (.mk 12 0 16 26)), (.Assign [(.Name a0 (.mk 17 0 17 8))] (.Constant (.str a57) 0 (.mk 17 11 17 25)) (.mk 17 0 17 25)), (.Assign [(.Name a8 (.mk 18 0 18 11))] (.Constant (.int 60) 0 (.mk 18 14 18 16)) (.mk 18 0 18 16)), (.FunctionDef a9 (L2.defArgs (G.top 9)) (L2.defBody (G.top 9)) [] none [] (L2.defScope (G.top 9)) none a9 (.mk 19 0 24 41)), (.Assign [(.Name a10 (.mk 25 0 25 15))] (.Name a9 (.mk 25 18 25 28)) (.mk 25 0 25 28)), (.FunctionDef a11 (L2.defArgs (G.top 11)) (L2.defBody (G.top 11)) [] none [] (L2.defScope (G.top 11)) none a11 (.mk 26 0 37 16)), (.FunctionDef a12 (L2.defArgs (G.top 12)) (L2.defBody (G.top 12)) [] none [] (L2.defScope (G.top 12)) none a12 (.mk 38 0 45 31)), (.FunctionDef a13 (L2.defArgs (G.top 13)) (L2.defBody (G.top 13)) [] none [] (L2.defScope (G.top 13)) none a13 (.mk 46 0 54 14)), (.FunctionDef a14 (L2.defArgs (G.top 14)) (L2.defBody (G.top 14)) [] none [] (L2.defScope (G.top 14)) none a14 (.mk 55 0 57 33)), (.FunctionDef a15 (L2.defArgs (G.top 15)) (L2.defBody (G.top 15)) [] none [] (L2.defScope (G.top 15)) none a15 (.mk 58 0 60 38)), (.FunctionDef a16 (L2.defArgs (G.top 16)) (L2.defBody (G.top 16)) [] none [] (L2.defScope (G.top 16)) none a16 (.mk 61 0 63 47)), (.Assign [(.Name a0 (.mk 64 0 64 8))] (.Constant (.str a58) 0 (.mk 64 11 64 26)) (.mk 64 0 64 26)), (.FunctionDef a17 (L2.defArgs (G.top 18)) (L2.defBody (G.top 18)) [] none [] (L2.defScope (G.top 18)) none a17 (.mk 65 0 66 61)), (.FunctionDef a18 (L2.defArgs (G.top 19)) (L2.defBody (G.top 19)) [] none [] (L2.defScope (G.top 19)) none a18 (.mk 67 0 73 32)), (.FunctionDef a19 (L2.defArgs (G.top 20)) (L2.defBody (G.top 20)) [] none [] (L2.defScope (G.top 20)) none a19 (.mk 74 0 77 53)), (.FunctionDef a20 (L2.defArgs (G.top 21)) (L2.defBody (G.top 21)) [] none [] (L2.defScope (G.top 21)) none a20 (.mk 78 0 83 42)), (.FunctionDef a21 (L2.defArgs (G.top 22)) (L2.defBody (G.top 22)) [] none [] (L2.defScope (G.top 22)) none a21 (.mk 84 0 87 60)), (.Assign [(.Name a22 (.mk 88 0 88 12))] (.Name a21 (.mk 88 15 88 21)) (.mk 88 0 88 21)), (.FunctionDef a23 (L2.defArgs (G.top 24)) (L2.defBody (G.top 24)) [] none [] (L2.defScope (G.top 24)) none a23 (.mk 89 0 90 121)), (.FunctionDef a24 (L2.defArgs (G.top 25)) (L2.defBody (G.top 25)) [] none [] (L2.defScope (G.top 25)) none a24 (.mk 91 0 95 63)), (.FunctionDef a25 (L2.defArgs (G.top 26)) (L2.defBody (G.top 26)) [] none [] (L2.defScope (G.top 26)) none a25 (.mk 96 0 99 48)), (.FunctionDef a26 (L2.defArgs (G.top 27)) (L2.defBody (G.top 27)) [] none [] (L2.defScope (G.top 27)) none a26 (.mk 100 0 108 16)), (.FunctionDef a27 (L2.defArgs (G.top 28)) (L2.defBody (G.top 28)) [] none [] (L2.defScope (G.top 28)) none a27 (.mk 109 0 111 87)), (.Assign [(.Name a0 (.mk 112 0 112 8))] (.Constant (.str a59) 0 (.mk 112 11 112 27)) (.mk 112 0 112 27)), (.FunctionDef a9 (L2.defArgs (G.top 30)) (L2.defBody (G.top 30)) [] none [] (L2.defScope (G.top 30)) none a9 (.mk 113 0 114 65)), (.Assign [(.Name a28 (.mk 115 0 115 17))] (.Name a9 (.mk 115 20 115 30)) (.mk 115 0 115 30)), (.FunctionDef a21 (L2.defArgs (G.top 32)) (L2.defBody (G.top 32)) [] none [] (L2.defScope (G.top 32)) none a21 (.mk 116 0 119 46)), (.Assign [(.Name a29 (.mk 120 0 120 13))] (.Name a21 (.mk 120 16 120 22)) (.mk 120 0 120 22)), (.FunctionDef a30 (L2.defArgs (G.top 34)) (L2.defBody (G.top 34)) [] none [] (L2.defScope (G.top 34)) none a30 (.mk 121 0 122 111)), (.FunctionDef a31 (L2.defArgs (G.top 35)) (L2.defBody (G.top 35)) [] none [] (L2.defScope (G.top 35)) none a31 (.mk 123 0 133 16)), (.FunctionDef a32 (L2.defArgs (G.top 36)) (L2.defBody (G.top 36)) [] none [] (L2.defScope (G.top 36)) none a32 (.mk 134 0 143 69)), (.FunctionDef a33 (L2.defArgs (G.top 37)) (L2.defBody (G.top 37)) [] none [] (L2.defScope (G.top 37)) none a33 (.mk 144 0 145 117)), (.FunctionDef a34 (L2.defArgs (G.top 38)) (L2.defBody (G.top 38)) [] none [] (L2.defScope (G.top 38)) none a34 (.mk 146 0 158 17)), (.Assign [(.Name a0 (.mk 159 0 159 8))] (.Constant (.str a60) 0 (.mk 159 11 159 57)) (.mk 159 0 159 57)), (.FunctionDef a35 (L2.defArgs (G.top 40)) (L2.defBody (G.top 40)) [] none [] (L2.defScope (G.top 40)) none a35 (.mk 160 0 168 16)), (.FunctionDef a36 (L2.defArgs (G.top 41)) (L2.defBody (G.top 41)) [] none [] (L2.defScope (G.top 41)) none a36 (.mk 169 0 174 16)), (.FunctionDef a37 (L2.defArgs (G.top 42)) (L2.defBody (G.top 42)) [] none [] (L2.defScope (G.top 42)) none a37 (.mk 175 0 179 16)), (.FunctionDef a38 (L2.defArgs (G.top 43)) (L2.defBody (G.top 43)) [] none [] (L2.defScope (G.top 43)) none a38 (.mk 180 0 183 54)), (.FunctionDef a39 (L2.defArgs (G.top 44)) (L2.defBody (G.top 44)) [] none [] (L2.defScope (G.top 44)) none a39 (.mk 184 0 208 16)), (.FunctionDef a40 (L2.defArgs (G.top 45)) (L2.defBody (G.top 45)) [] none [] (L2.defScope (G.top 45)) none a40 (.mk 209 0 225 68)), (.FunctionDef a41 (L2.defArgs (G.top 46)) (L2.defBody (G.top 46)) [] none [] (L2.defScope (G.top 46)) none a41 (.mk 226 0 228 69)), (.FunctionDef a42 (L2.defArgs (G.top 47)) (L2.defBody (G.top 47)) [] none [] (L2.defScope (G.top 47)) none a42 (.mk 229 0 237 39)), (.FunctionDef a43 (L2.defArgs (G.top 48)) (L2.defBody (G.top 48)) [] none [] (L2.defScope (G.top 48)) none a43 (.mk 238 0 240 72)), (.FunctionDef a44 (L2.defArgs (G.top 49)) (L2.defBody (G.top 49)) [] none [] (L2.defScope (G.top 49)) none a44 (.mk 241 0 242 55)), (.FunctionDef a45 (L2.defArgs (G.top 50)) (L2.defBody (G.top 50)) [] none [] (L2.defScope (G.top 50)) none a45 (.mk 243 0 247 23)), (.FunctionDef a46 (L2.defArgs (G.top 51)) (L2.defBody (G.top 51)) [] none [] (L2.defScope (G.top 51)) none a46 (.mk 248 0 249 74)), (.FunctionDef a47 (L2.defArgs (G.top 52)) (L2.defBody (G.top 52)) [] none [] (L2.defScope (G.top 52)) none a47 (.mk 250 0 251 87)), (.FunctionDef a48 (L2.defArgs (G.top 53)) (L2.defBody (G.top 53)) [] none [] (L2.defScope (G.top 53)) none a48 (.mk 252 0 259 82)), (.FunctionDef a49 (L2.defArgs (G.top 54)) (L2.defBody (G.top 54)) [] none [] (L2.defScope (G.top 54)) none a49 (.mk 260 0 278 15)), (.FunctionDef a50 (L2.defArgs (G.top 55)) (L2.defBody (G.top 55)) [] none [] (L2.defScope (G.top 55)) none a50 (.mk 279 0 293 15))]
noncomputable abbrev b3 : String := PySem.W.SL.s14018661285674007319x4
noncomputable def c0 (P : PySem.Params) (t : List PySem.DictEntry) : List PySem.DictEntry := (en P a49 609 (.ref 327))::(en P a50 625 (.ref 334))::t
noncomputable def c1 (P : PySem.Params) (t : List PySem.DictEntry) : List PySem.DictEntry := (en P a41 550 (.ref 281))::(en P a42 563 (.ref 288))::(en P a43 569 (.ref 293))::(en P a44 576 (.ref 300))::(en P a45 585 (.ref 307))::(en P a46 591 (.ref 312))::(en P a47 597 (.ref 317))::(en P a48 603 (.ref 322))::t
noncomputable def c2 (P : PySem.Params) (t : List PySem.DictEntry) : List PySem.DictEntry := (en P a33 485 (.ref 233))::(en P a34 491 (.ref 238))::(en P a35 504 (.ref 245))::(en P a36 513 (.ref 252))::(en P a37 524 (.ref 259))::(en P a38 532 (.ref 266))::(en P a39 538 (.ref 271))::(en P a40 544 (.ref 276))::t
noncomputable def c3 (P : PySem.Params) (t : List PySem.DictEntry) : List PySem.DictEntry := (en P a25 431 (.ref 191))::(en P a26 437 (.ref 196))::(en P a27 443 (.ref 201))::(en P a28 452 (.ref 206))::(en P a29 461 (.ref 213))::(en P a30 467 (.ref 218))::(en P a31 473 (.ref 223))::(en P a32 479 (.ref 228))::t
noncomputable def c4 (P : PySem.Params) (t : List PySem.DictEntry) : List PySem.DictEntry := (en P a17 373 (.ref 146))::(en P a18 382 (.ref 153))::(en P a19 392 (.ref 160))::(en P a20 400 (.ref 167))::(en P a21 409 (.ref 213))::(en P a22 410 (.ref 174))::(en P a23 416 (.ref 179))::(en P a24 422 (.ref 184))::t
noncomputable def c5 (P : PySem.Params) (t : List PySem.DictEntry) : List PySem.DictEntry := (en P a9 305 (.ref 206))::(en P a10 306 (.ref 99))::(en P a11 318 (.ref 106))::(en P a12 330 (.ref 113))::(en P a13 341 (.ref 120))::(en P a14 349 (.ref 127))::(en P a15 357 (.ref 134))::(en P a16 365 (.ref 141))::t
noncomputable def a61 : Str := ⟨⟨[95,95,99,97,99,104,101,100,95,95]⟩⟩
noncomputable def c6 (P : PySem.Params) (t : List PySem.DictEntry) : List PySem.DictEntry := (en P a61 174 .none)::(en P a1 206 (.ref 24))::(en P a3 222 (.ref 37))::(en P a4 238 (.ref 49))::(en P a5 254 (.ref 61))::(en P a6 270 (.ref 73))::(en P a7 295 (.ref 92))::(en P a8 299 (.int 60 298))::t
noncomputable def a62 : Str := ⟨⟨[95,95,100,111,99,95,95]⟩⟩
noncomputable def a63 : Str := ⟨⟨[95,95,112,97,99,107,97,103,101,95,95]⟩⟩
noncomputable def a64 : Str := ⟨⟨[95,95,108,111,97,100,101,114,95,95]⟩⟩
noncomputable abbrev b4 : String := PySem.W.SL.s7097527257260152453x26
noncomputable def a65 : Str := ⟨⟨[95,95,115,112,101,99,95,95]⟩⟩
noncomputable def a66 : Str := ⟨⟨[95,95,97,110,110,111,116,97,116,105,111,110,115,95,95]⟩⟩
noncomputable def a67 : Str := ⟨⟨[95,95,98,117,105,108,116,105,110,115,95,95]⟩⟩
noncomputable def a68 : Str := ⟨⟨[95,95,102,105,108,101,95,95]⟩⟩
noncomputable def c7 (P : PySem.Params) (t : List PySem.DictEntry) : List PySem.DictEntry := (en P a0 165 (.str a60 492))::(en P a62 166 .none)::(en P a63 167 .none)::(en P a64 168 (.builtin b4))::(en P a65 169 .none)::(en P a66 170 (.ref 6))::(en P a67 171 (.ref 4))::(en P a68 173 (.str a52 172))::t
noncomputable def o4 (P : Params) : Obj := (ob (.type b3) (.dict ⟨(c7 P (c6 P (c5 P (c4 P (c3 P (c2 P (c1 P (c0 P []))))))))⟩ 58))
noncomputable def c8 (t : List PySem.Value) : List PySem.Value := (i 0)::(.ref 333)::t
noncomputable def c9 (t : List PySem.Value) : List PySem.Value := (.ref 316)::(i 252)::(i 0)::(.ref 321)::(i 260)::(i 0)::(.ref 326)::(i 279)::t
noncomputable def c10 (t : List PySem.Value) : List PySem.Value := (i 243)::(i 0)::(.ref 306)::(i 248)::(i 0)::(.ref 311)::(i 250)::(i 0)::t
noncomputable def c11 (t : List PySem.Value) : List PySem.Value := (i 0)::(.ref 287)::(i 238)::(i 0)::(.ref 292)::(i 241)::(i 0)::(.ref 299)::t
noncomputable def c12 (t : List PySem.Value) : List PySem.Value := (.ref 270)::(i 209)::(i 0)::(.ref 275)::(i 226)::(i 0)::(.ref 280)::(i 229)::t
noncomputable def c13 (t : List PySem.Value) : List PySem.Value := (i 175)::(i 0)::(.ref 258)::(i 180)::(i 0)::(.ref 265)::(i 184)::(i 0)::t
noncomputable def c14 (t : List PySem.Value) : List PySem.Value := (i 0)::(.ref 237)::(i 160)::(i 0)::(.ref 244)::(i 169)::(i 0)::(.ref 251)::t
noncomputable def c15 (t : List PySem.Value) : List PySem.Value := (.ref 222)::(i 134)::(i 0)::(.ref 227)::(i 144)::(i 0)::(.ref 232)::(i 146)::t
noncomputable def c16 (t : List PySem.Value) : List PySem.Value := (i 116)::(i 0)::(.ref 212)::(i 121)::(i 0)::(.ref 217)::(i 123)::(i 0)::t
noncomputable def c17 (t : List PySem.Value) : List PySem.Value := (i 0)::(.ref 195)::(i 109)::(i 0)::(.ref 200)::(i 113)::(i 0)::(.ref 205)::t
noncomputable def c18 (t : List PySem.Value) : List PySem.Value := (.ref 178)::(i 91)::(i 0)::(.ref 183)::(i 96)::(i 0)::(.ref 190)::(i 100)::t
noncomputable def c19 (t : List PySem.Value) : List PySem.Value := (i 78)::(i 0)::(.ref 166)::(i 84)::(i 0)::(.ref 173)::(i 89)::(i 0)::t
noncomputable def c20 (t : List PySem.Value) : List PySem.Value := (i 0)::(.ref 145)::(i 67)::(i 0)::(.ref 152)::(i 74)::(i 0)::(.ref 159)::t
noncomputable def c21 (t : List PySem.Value) : List PySem.Value := (.ref 126)::(i 58)::(i 0)::(.ref 133)::(i 61)::(i 0)::(.ref 140)::(i 65)::t
noncomputable def c22 (t : List PySem.Value) : List PySem.Value := (i 38)::(i 0)::(.ref 112)::(i 46)::(i 0)::(.ref 119)::(i 55)::(i 0)::t
noncomputable def c23 (t : List PySem.Value) : List PySem.Value := (i 0)::(.ref 81)::(i 19)::(i 0)::(.ref 98)::(i 26)::(i 0)::(.ref 105)::t
noncomputable def c24 (t : List PySem.Value) : List PySem.Value := (.ref 45)::(i 8)::(i 0)::(.ref 57)::(i 10)::(i 0)::(.ref 69)::(i 12)::t
noncomputable def c25 (t : List PySem.Value) : List PySem.Value := (i 2)::(i 0)::(.ref 20)::(i 4)::(i 0)::(.ref 33)::(i 6)::(i 0)::t
noncomputable def o5 : Obj := (ob .none (.fields ⟨(c25 (c24 (c23 (c22 (c21 (c20 (c19 (c18 (c17 (c16 (c15 (c14 (c13 (c12 (c11 (c10 (c9 (c8 []))))))))))))))))))⟩))
noncomputable abbrev b5 : String := PySem.W.SL.s6070975301684473832x10
noncomputable def o6 : Obj := (ob (.type b0) (.seq ⟨[(.type b5)]⟩ 0))
noncomputable abbrev b6 : String := PySem.W.SL.s11030030927630378310x26
noncomputable abbrev b7 : String := PySem.W.SL.s10062305145149207511x16
noncomputable abbrev b8 : String := PySem.W.SL.s17162191345867700912x4
noncomputable def o7 : Obj := (ob (.type b6) (.fields ⟨[(.builtin b7),(.type b8)]⟩))
noncomputable def a69 : Str := ⟨⟨[95,95,109,111,100,117,108,101,95,95]⟩⟩
noncomputable def a70 : Str := ⟨⟨[95,95,113,117,97,108,110,97,109,101,95,95]⟩⟩
noncomputable def a71 : Str := ⟨⟨[95,95,102,105,114,115,116,108,105,110,101,110,111,95,95]⟩⟩
noncomputable def a72 : Str := ⟨⟨[95,95,115,116,97,116,105,99,95,97,116,116,114,105,98,117,116,101,115,95,95]⟩⟩
noncomputable def o8 (P : Params) : Obj := (ob (.type b3) (.dict ⟨[(en P a69 196 (.str a54 187)),(en P a70 198 (.str a1 197)),(en P a71 200 (.int 2 199)),(en P a72 201 (.ref 22))]⟩ 4))
noncomputable def o9 : Obj := (ob (.type b0) (.seq ⟨[]⟩ 0))
noncomputable def o10 : Obj := (ob .none (.fields ⟨[]⟩))
noncomputable def o11 : Obj := (ob (.type b1) (.fields ⟨[(.str a1 191),(.str a1 192),(.str a52 193),(i 2),(i 0),(i 0),(i 0),(i 0),(.ref 18),(.bool .false),(i 181),(.ref 19),.none,.none,.none,.none,(i 194),(i 2),(.str a52 195)]⟩))
noncomputable def o12 : Obj := (.mk (.type b2) none .plain ⟨[(some (.ref 20)),(some (.ref 3)),(some (.ref 17)),none,(some (.str a54 187)),none,(some (.ref 0))]⟩)
noncomputable def o13 : Obj := (ob (.type b0) (.seq ⟨[]⟩ 0))
noncomputable def a73 : Str := ⟨⟨[95,95,119,101,97,107,114,101,102,95,95]⟩⟩
noncomputable def o14 (P : Params) : Obj := (ob (.type b3) (.dict ⟨[(en P a69 196 (.str a54 187)),(en P a71 200 (.int 2 199)),(en P a72 201 (.ref 22)),(en P a73 203 (.ref 25)),(en P a62 204 .none)]⟩ 3))
noncomputable abbrev b9 : String := PySem.W.SL.s5946037652744460706x9
noncomputable abbrev b10 : String := PySem.W.SL.s4278001404047624695x13
noncomputable abbrev b11 : String := PySem.W.SL.s2742458400755230247x6
noncomputable abbrev b12 : String := PySem.W.SL.s4209523147560561109x18
noncomputable def o15 : Obj := (.mk (.type b8) none (.cls (.mk a1 [(.type b5)] [(.ref 24),(.type b5),(.type b9),(.type b10),(.type b11)] 23 a1 .true [] [(.ref 37),(.ref 49),(.ref 61),(.ref 73),(.ref 92)] .false none .false)) ⟨[(some (.ref 15)),none,(some (.str a1 189)),(some (.str a1 197)),(some (.builtin b12)),(some (.bool .true))]⟩)
noncomputable abbrev b13 : String := PySem.W.SL.s14755015743595814543x17
noncomputable abbrev b14 : String := PySem.W.SL.s10220274742760427390x26
noncomputable def o16 : Obj := (ob (.type b13) (.fields ⟨[(.str a73 202),(.ref 24),(.builtin b14),.none]⟩))
noncomputable abbrev b15 : String := PySem.W.SL.s4290257624100764138x5
noncomputable def o17 : Obj := (ob (.type b15) (.fields ⟨[(.ref 24),(.ref 24),(.ref 24)]⟩))
noncomputable abbrev b16 : String := PySem.W.SL.s4860613602091757760x24
noncomputable def o18 : Obj := (ob (.type b6) (.fields ⟨[(.builtin b16),(.ref 24)]⟩))
noncomputable def o19 : Obj := (ob (.type b0) (.seq ⟨[(.ref 24)]⟩ 0))
noncomputable def o20 : Obj := (ob (.type b6) (.fields ⟨[(.builtin b7),(.type b8)]⟩))
noncomputable def o21 (P : Params) : Obj := (ob (.type b3) (.dict ⟨[(en P a69 214 (.str a54 187)),(en P a70 216 (.str a3 215)),(en P a71 218 (.int 4 217)),(en P a72 219 (.ref 35))]⟩ 4))
noncomputable def o22 : Obj := (ob (.type b0) (.seq ⟨[]⟩ 0))
noncomputable def o23 : Obj := (ob .none (.fields ⟨[]⟩))
noncomputable def o24 : Obj := (ob (.type b1) (.fields ⟨[(.str a3 209),(.str a3 210),(.str a52 211),(i 4),(i 0),(i 0),(i 0),(i 0),(.ref 31),(.bool .false),(i 181),(.ref 32),.none,.none,.none,.none,(i 212),(i 4),(.str a52 213)]⟩))
noncomputable def o25 : Obj := (.mk (.type b2) none .plain ⟨[(some (.ref 33)),(some (.ref 3)),(some (.ref 30)),none,(some (.str a54 187)),none,(some (.ref 0))]⟩)
noncomputable def o26 : Obj := (ob (.type b0) (.seq ⟨[]⟩ 0))
noncomputable def o27 (P : Params) : Obj := (ob (.type b3) (.dict ⟨[(en P a69 214 (.str a54 187)),(en P a71 218 (.int 4 217)),(en P a72 219 (.ref 35)),(en P a62 220 .none)]⟩ 2))
noncomputable def o28 : Obj := (.mk (.type b8) none (.cls (.mk a3 [(.ref 24)] [(.ref 37),(.ref 24),(.type b5),(.type b9),(.type b10),(.type b11)] 36 a3 .true [] [] .false none .false)) ⟨[(some (.ref 28)),none,(some (.str a3 207)),(some (.str a3 215)),(some (.builtin b12)),(some (.bool .true))]⟩)
noncomputable def o29 : Obj := (ob (.type b15) (.fields ⟨[(.ref 37),(.ref 37),(.ref 37)]⟩))
noncomputable def o30 : Obj := (ob (.type b6) (.fields ⟨[(.builtin b16),(.ref 37)]⟩))
noncomputable def o31 : Obj := (ob (.type b0) (.seq ⟨[(.ref 24)]⟩ 0))
noncomputable def o32 : Obj := (ob (.type b6) (.fields ⟨[(.builtin b7),(.type b8)]⟩))
noncomputable def o33 (P : Params) : Obj := (ob (.type b3) (.dict ⟨[(en P a69 230 (.str a54 187)),(en P a70 232 (.str a4 231)),(en P a71 234 (.int 6 233)),(en P a72 235 (.ref 47))]⟩ 4))
noncomputable def o34 : Obj := (ob (.type b0) (.seq ⟨[]⟩ 0))
noncomputable def o35 : Obj := (ob .none (.fields ⟨[]⟩))
noncomputable def o36 : Obj := (ob (.type b1) (.fields ⟨[(.str a4 225),(.str a4 226),(.str a52 227),(i 6),(i 0),(i 0),(i 0),(i 0),(.ref 43),(.bool .false),(i 181),(.ref 44),.none,.none,.none,.none,(i 228),(i 6),(.str a52 229)]⟩))
noncomputable def o37 : Obj := (.mk (.type b2) none .plain ⟨[(some (.ref 45)),(some (.ref 3)),(some (.ref 42)),none,(some (.str a54 187)),none,(some (.ref 0))]⟩)
noncomputable def o38 : Obj := (ob (.type b0) (.seq ⟨[]⟩ 0))
noncomputable def o39 (P : Params) : Obj := (ob (.type b3) (.dict ⟨[(en P a69 230 (.str a54 187)),(en P a71 234 (.int 6 233)),(en P a72 235 (.ref 47)),(en P a62 236 .none)]⟩ 2))
noncomputable def o40 : Obj := (.mk (.type b8) none (.cls (.mk a4 [(.ref 24)] [(.ref 49),(.ref 24),(.type b5),(.type b9),(.type b10),(.type b11)] 48 a4 .true [] [] .false none .false)) ⟨[(some (.ref 40)),none,(some (.str a4 223)),(some (.str a4 231)),(some (.builtin b12)),(some (.bool .true))]⟩)
noncomputable def o41 : Obj := (ob (.type b15) (.fields ⟨[(.ref 49),(.ref 49),(.ref 49)]⟩))
noncomputable def o42 : Obj := (ob (.type b6) (.fields ⟨[(.builtin b16),(.ref 49)]⟩))
noncomputable def o43 : Obj := (ob (.type b0) (.seq ⟨[(.ref 24)]⟩ 0))
noncomputable def o44 : Obj := (ob (.type b6) (.fields ⟨[(.builtin b7),(.type b8)]⟩))
noncomputable def o45 (P : Params) : Obj := (ob (.type b3) (.dict ⟨[(en P a69 246 (.str a54 187)),(en P a70 248 (.str a5 247)),(en P a71 250 (.int 8 249)),(en P a72 251 (.ref 59))]⟩ 4))
noncomputable def o46 : Obj := (ob (.type b0) (.seq ⟨[]⟩ 0))
noncomputable def o47 : Obj := (ob .none (.fields ⟨[]⟩))
noncomputable def o48 : Obj := (ob (.type b1) (.fields ⟨[(.str a5 241),(.str a5 242),(.str a52 243),(i 8),(i 0),(i 0),(i 0),(i 0),(.ref 55),(.bool .false),(i 181),(.ref 56),.none,.none,.none,.none,(i 244),(i 8),(.str a52 245)]⟩))
noncomputable def o49 : Obj := (.mk (.type b2) none .plain ⟨[(some (.ref 57)),(some (.ref 3)),(some (.ref 54)),none,(some (.str a54 187)),none,(some (.ref 0))]⟩)
noncomputable def o50 : Obj := (ob (.type b0) (.seq ⟨[]⟩ 0))
noncomputable def o51 (P : Params) : Obj := (ob (.type b3) (.dict ⟨[(en P a69 246 (.str a54 187)),(en P a71 250 (.int 8 249)),(en P a72 251 (.ref 59)),(en P a62 252 .none)]⟩ 2))
noncomputable def o52 : Obj := (.mk (.type b8) none (.cls (.mk a5 [(.ref 24)] [(.ref 61),(.ref 24),(.type b5),(.type b9),(.type b10),(.type b11)] 60 a5 .true [] [] .false none .false)) ⟨[(some (.ref 52)),none,(some (.str a5 239)),(some (.str a5 247)),(some (.builtin b12)),(some (.bool .true))]⟩)
noncomputable def o53 : Obj := (ob (.type b15) (.fields ⟨[(.ref 61),(.ref 61),(.ref 61)]⟩))
noncomputable def o54 : Obj := (ob (.type b6) (.fields ⟨[(.builtin b16),(.ref 61)]⟩))
noncomputable def o55 : Obj := (ob (.type b0) (.seq ⟨[(.ref 24)]⟩ 0))
noncomputable def o56 : Obj := (ob (.type b6) (.fields ⟨[(.builtin b7),(.type b8)]⟩))
noncomputable def o57 (P : Params) : Obj := (ob (.type b3) (.dict ⟨[(en P a69 262 (.str a54 187)),(en P a70 264 (.str a6 263)),(en P a71 266 (.int 10 265)),(en P a72 267 (.ref 71))]⟩ 4))
noncomputable def o58 : Obj := (ob (.type b0) (.seq ⟨[]⟩ 0))
noncomputable def o59 : Obj := (ob .none (.fields ⟨[]⟩))
noncomputable def o60 : Obj := (ob (.type b1) (.fields ⟨[(.str a6 257),(.str a6 258),(.str a52 259),(i 10),(i 0),(i 0),(i 0),(i 0),(.ref 67),(.bool .false),(i 181),(.ref 68),.none,.none,.none,.none,(i 260),(i 10),(.str a52 261)]⟩))
noncomputable def o61 : Obj := (.mk (.type b2) none .plain ⟨[(some (.ref 69)),(some (.ref 3)),(some (.ref 66)),none,(some (.str a54 187)),none,(some (.ref 0))]⟩)
noncomputable def o62 : Obj := (ob (.type b0) (.seq ⟨[]⟩ 0))
noncomputable def o63 (P : Params) : Obj := (ob (.type b3) (.dict ⟨[(en P a69 262 (.str a54 187)),(en P a71 266 (.int 10 265)),(en P a72 267 (.ref 71)),(en P a62 268 .none)]⟩ 2))
noncomputable def o64 : Obj := (.mk (.type b8) none (.cls (.mk a6 [(.ref 24)] [(.ref 73),(.ref 24),(.type b5),(.type b9),(.type b10),(.type b11)] 72 a6 .true [] [] .false none .false)) ⟨[(some (.ref 64)),none,(some (.str a6 255)),(some (.str a6 263)),(some (.builtin b12)),(some (.bool .true))]⟩)
noncomputable def o65 : Obj := (ob (.type b15) (.fields ⟨[(.ref 73),(.ref 73),(.ref 73)]⟩))
noncomputable def o66 : Obj := (ob (.type b6) (.fields ⟨[(.builtin b16),(.ref 73)]⟩))
noncomputable def o67 : Obj := (ob (.type b0) (.seq ⟨[(.ref 24)]⟩ 0))
noncomputable def o68 : Obj := (ob (.type b6) (.fields ⟨[(.builtin b7),(.type b8)]⟩))
noncomputable def o69 (P : Params) : Obj := (ob (.type b3) (.dict ⟨[(en P a69 278 (.str a54 187)),(en P a70 280 (.str a7 279)),(en P a71 282 (.int 12 281)),(en P a55 290 (.ref 89)),(en P a72 292 (.ref 90))]⟩ 5))
noncomputable def o70 : Obj := (ob (.type b0) (.seq ⟨[]⟩ 0))
noncomputable def o71 : Obj := (ob .none (.fields ⟨[(i 14),(i 4),(.ref 88)]⟩))
noncomputable def o72 : Obj := (ob (.type b1) (.fields ⟨[(.str a7 273),(.str a7 274),(.str a52 275),(i 12),(i 0),(i 0),(i 0),(i 0),(.ref 79),(.bool .false),(i 181),(.ref 80),.none,.none,.none,.none,(i 276),(i 12),(.str a52 277)]⟩))
noncomputable def o73 : Obj := (.mk (.type b2) none .plain ⟨[(some (.ref 81)),(some (.ref 3)),(some (.ref 78)),none,(some (.str a54 187)),none,(some (.ref 0))]⟩)
noncomputable def o74 : Obj := (ob (.type b0) (.seq ⟨[]⟩ 0))
noncomputable def o75 : Obj := (ob .none (.fields ⟨[]⟩))
noncomputable def a74 : Str := ⟨⟨[115,101,108,102]⟩⟩
noncomputable def o76 : Obj := (ob (.type b0) (.seq ⟨[(.str a74 286),(.str a56 287)]⟩ 0))
noncomputable def o77 : Obj := (ob (.type b0) (.seq ⟨[]⟩ 0))
noncomputable def a75 : Str := ⟨⟨[65,112,97,114,116,46,95,95,105,110,105,116,95,95]⟩⟩
noncomputable def o78 : Obj := (.mk .none none (.func (.mk a55 a75 (L2.defArgs (L2.inClass (G.top 6) 0)) (.stmts (L2.defBody (L2.inClass (G.top 6) 0))) (L2.defScope (L2.inClass (G.top 6) 0)) 0 [] .none .none .none .none none .none .none 0)) ⟨[]⟩)
noncomputable def o79 : Obj := (ob (.type b1) (.fields ⟨[(.str a55 283),(.str a75 284),(.str a52 285),(i 14),(i 2),(i 0),(i 0),(i 3),(.ref 83),(.bool .true),(i 181),(.ref 84),.none,(.ref 85),(.ref 86),(.ref 87),(i 288),(i 14),(.str a52 289)]⟩))
noncomputable abbrev b17 : String := PySem.W.SL.s7174869446012820540x8
noncomputable def o80 : Obj := (.mk (.type b17) none (.func (PySem.W.fnOf a55 a75 (L2.defArgs (L2.inClass (G.top 6) 0)) (L2.defBody (L2.inClass (G.top 6) 0)) (L2.defScope (L2.inClass (G.top 6) 0)) .none .none .none (.str a54 187) none (.ref 88) .none)) ⟨[]⟩)
noncomputable def o81 : Obj := (ob (.type b0) (.seq ⟨[(.str a56 291)]⟩ 0))
noncomputable def o82 (P : Params) : Obj := (ob (.type b3) (.dict ⟨[(en P a69 278 (.str a54 187)),(en P a71 282 (.int 12 281)),(en P a55 290 (.ref 89)),(en P a72 292 (.ref 90)),(en P a62 293 .none)]⟩ 2))
noncomputable def o83 : Obj := (.mk (.type b8) none (.cls (.mk a7 [(.ref 24)] [(.ref 92),(.ref 24),(.type b5),(.type b9),(.type b10),(.type b11)] 91 a7 .true [] [] .false none .false)) ⟨[(some (.ref 76)),none,(some (.str a7 271)),(some (.str a7 279)),(some (.builtin b12)),(some (.bool .true))]⟩)
noncomputable def o84 : Obj := (ob (.type b15) (.fields ⟨[(.ref 92),(.ref 92),(.ref 92)]⟩))
noncomputable def o85 : Obj := (ob (.type b6) (.fields ⟨[(.builtin b16),(.ref 92)]⟩))
noncomputable def o86 : Obj := (ob (.type b0) (.seq ⟨[]⟩ 0))
noncomputable def o87 : Obj := (ob .none (.fields ⟨[]⟩))
noncomputable def o88 : Obj := (cO a9 (G.top 9))
noncomputable def o89 : Obj := (ob (.type b1) (.fields ⟨[(.str a9 300),(.str a9 301),(.str a52 302),(i 19),(i 1),(i 0),(i 0),(i 3),(.ref 95),(.bool .true),(i 181),(.ref 96),.none,.none,.none,(.ref 97),(i 303),(i 19),(.str a52 304)]⟩))
noncomputable def o90 : Obj := (fO (.type b17) a9 (G.top 9) (.str a57 296) (.ref 98))
noncomputable def o91 : Obj := (ob (.type b0) (.seq ⟨[]⟩ 0))
noncomputable def o92 : Obj := (ob .none (.fields ⟨[]⟩))
noncomputable def a76 : Str := ⟨⟨[110,101,97,114]⟩⟩
noncomputable def a77 : Str := ⟨⟨[102,111,117,110,100]⟩⟩
noncomputable def a78 : Str := ⟨⟨[108,105,110,101]⟩⟩
noncomputable def a79 : Str := ⟨⟨[97,116]⟩⟩
noncomputable def a80 : Str := ⟨⟨[111,116,104,101,114]⟩⟩
noncomputable def o93 : Obj := (ob (.type b0) (.seq ⟨[(.str a76 310),(.str a56 311),(.str a77 312),(.str a78 313),(.str a79 314),(.str a80 315)]⟩ 0))
noncomputable def o94 : Obj := (ob (.type b0) (.seq ⟨[]⟩ 0))
noncomputable def o95 : Obj := (cO a11 (G.top 11))
noncomputable def o96 : Obj := (ob (.type b1) (.fields ⟨[(.str a11 307),(.str a11 308),(.str a52 309),(i 26),(i 2),(i 0),(i 0),(i 3),(.ref 100),(.bool .true),(i 181),(.ref 101),.none,(.ref 102),(.ref 103),(.ref 104),(i 316),(i 26),(.str a52 317)]⟩))
noncomputable def o97 : Obj := (fO (.type b17) a11 (G.top 11) (.str a57 296) (.ref 105))
noncomputable def o98 : Obj := (ob (.type b0) (.seq ⟨[]⟩ 0))
noncomputable def o99 : Obj := (ob .none (.fields ⟨[]⟩))
noncomputable def a81 : Str := ⟨⟨[109,97,110,121]⟩⟩
noncomputable def a82 : Str := ⟨⟨[116,105,101,115]⟩⟩
noncomputable def a83 : Str := ⟨⟨[111,110,101]⟩⟩
noncomputable def a84 : Str := ⟨⟨[116,105,101]⟩⟩
noncomputable def o100 : Obj := (ob (.type b0) (.seq ⟨[(.str a81 322),(.str a82 323),(.str a77 324),(.str a83 325),(.str a80 326),(.str a84 327)]⟩ 0))
noncomputable def o101 : Obj := (ob (.type b0) (.seq ⟨[]⟩ 0))
noncomputable def o102 : Obj := (cO a12 (G.top 12))
noncomputable def o103 : Obj := (ob (.type b1) (.fields ⟨[(.str a12 319),(.str a12 320),(.str a52 321),(i 38),(i 2),(i 0),(i 0),(i 3),(.ref 107),(.bool .true),(i 181),(.ref 108),.none,(.ref 109),(.ref 110),(.ref 111),(i 328),(i 38),(.str a52 329)]⟩))
noncomputable def o104 : Obj := (fO (.type b17) a12 (G.top 12) (.str a57 296) (.ref 112))
noncomputable def o105 : Obj := (ob (.type b0) (.seq ⟨[]⟩ 0))
noncomputable def o106 : Obj := (ob .none (.fields ⟨[]⟩))
noncomputable def a85 : Str := ⟨⟨[119,101,98]⟩⟩
noncomputable def a86 : Str := ⟨⟨[102,97,114,115]⟩⟩
noncomputable def o107 : Obj := (ob (.type b0) (.seq ⟨[(.str a81 334),(.str a82 335),(.str a85 336),(.str a86 337),(.str a56 338)]⟩ 0))
noncomputable def o108 : Obj := (ob (.type b0) (.seq ⟨[]⟩ 0))
noncomputable def o109 : Obj := (cO a13 (G.top 13))
noncomputable def o110 : Obj := (ob (.type b1) (.fields ⟨[(.str a13 331),(.str a13 332),(.str a52 333),(i 46),(i 2),(i 0),(i 0),(i 3),(.ref 114),(.bool .true),(i 181),(.ref 115),.none,(.ref 116),(.ref 117),(.ref 118),(i 339),(i 46),(.str a52 340)]⟩))
noncomputable def o111 : Obj := (fO (.type b17) a13 (G.top 13) (.str a57 296) (.ref 119))
noncomputable def o112 : Obj := (ob (.type b0) (.seq ⟨[]⟩ 0))
noncomputable def o113 : Obj := (ob .none (.fields ⟨[]⟩))
noncomputable def o114 : Obj := (ob (.type b0) (.seq ⟨[(.str a85 345),(.str a56 346)]⟩ 0))
noncomputable def o115 : Obj := (ob (.type b0) (.seq ⟨[]⟩ 0))
noncomputable def o116 : Obj := (cO a14 (G.top 14))
noncomputable def o117 : Obj := (ob (.type b1) (.fields ⟨[(.str a14 342),(.str a14 343),(.str a52 344),(i 55),(i 2),(i 0),(i 0),(i 3),(.ref 121),(.bool .true),(i 181),(.ref 122),.none,(.ref 123),(.ref 124),(.ref 125),(i 347),(i 55),(.str a52 348)]⟩))
noncomputable def o118 : Obj := (fO (.type b17) a14 (G.top 14) (.str a57 296) (.ref 126))
noncomputable def o119 : Obj := (ob (.type b0) (.seq ⟨[]⟩ 0))
noncomputable def o120 : Obj := (ob .none (.fields ⟨[]⟩))
noncomputable def o121 : Obj := (ob (.type b0) (.seq ⟨[(.str a85 353),(.str a56 354)]⟩ 0))
noncomputable def o122 : Obj := (ob (.type b0) (.seq ⟨[]⟩ 0))
noncomputable def o123 : Obj := (cO a15 (G.top 15))
noncomputable def o124 : Obj := (ob (.type b1) (.fields ⟨[(.str a15 350),(.str a15 351),(.str a52 352),(i 58),(i 2),(i 0),(i 0),(i 3),(.ref 128),(.bool .true),(i 181),(.ref 129),.none,(.ref 130),(.ref 131),(.ref 132),(i 355),(i 58),(.str a52 356)]⟩))
noncomputable def o125 : Obj := (fO (.type b17) a15 (G.top 15) (.str a57 296) (.ref 133))
noncomputable def o126 : Obj := (ob (.type b0) (.seq ⟨[]⟩ 0))
noncomputable def o127 : Obj := (ob .none (.fields ⟨[]⟩))
noncomputable def o128 : Obj := (ob (.type b0) (.seq ⟨[(.str a85 361),(.str a56 362)]⟩ 0))
noncomputable def o129 : Obj := (ob (.type b0) (.seq ⟨[]⟩ 0))
noncomputable def o130 : Obj := (cO a16 (G.top 16))
noncomputable def o131 : Obj := (ob (.type b1) (.fields ⟨[(.str a16 358),(.str a16 359),(.str a52 360),(i 61),(i 2),(i 0),(i 0),(i 3),(.ref 135),(.bool .true),(i 181),(.ref 136),.none,(.ref 137),(.ref 138),(.ref 139),(i 363),(i 61),(.str a52 364)]⟩))
noncomputable def o132 : Obj := (fO (.type b17) a16 (G.top 16) (.str a57 296) (.ref 140))
noncomputable def o133 : Obj := (ob (.type b0) (.seq ⟨[]⟩ 0))
noncomputable def o134 : Obj := (ob .none (.fields ⟨[]⟩))
noncomputable def o135 : Obj := (cO a17 (G.top 18))
noncomputable def o136 : Obj := (ob (.type b1) (.fields ⟨[(.str a17 368),(.str a17 369),(.str a52 370),(i 65),(i 1),(i 0),(i 0),(i 3),(.ref 142),(.bool .true),(i 181),(.ref 143),.none,.none,.none,(.ref 144),(i 371),(i 65),(.str a52 372)]⟩))
noncomputable def o137 : Obj := (fO (.type b17) a17 (G.top 18) (.str a58 366) (.ref 145))
noncomputable def o138 : Obj := (ob (.type b0) (.seq ⟨[]⟩ 0))
noncomputable def o139 : Obj := (ob .none (.fields ⟨[]⟩))
noncomputable def a87 : Str := ⟨⟨[107,105,110,100]⟩⟩
noncomputable def a88 : Str := ⟨⟨[112,108,97,99,101,115]⟩⟩
noncomputable def o140 : Obj := (ob (.type b0) (.seq ⟨[(.str a85 377),(.str a87 378),(.str a88 379)]⟩ 0))
noncomputable def o141 : Obj := (ob (.type b0) (.seq ⟨[]⟩ 0))
noncomputable def o142 : Obj := (cO a18 (G.top 19))
noncomputable def o143 : Obj := (ob (.type b1) (.fields ⟨[(.str a18 374),(.str a18 375),(.str a52 376),(i 67),(i 2),(i 0),(i 0),(i 3),(.ref 147),(.bool .true),(i 181),(.ref 148),.none,(.ref 149),(.ref 150),(.ref 151),(i 380),(i 67),(.str a52 381)]⟩))
noncomputable def o144 : Obj := (fO (.type b17) a18 (G.top 19) (.str a58 366) (.ref 152))
noncomputable def o145 : Obj := (ob (.type b0) (.seq ⟨[]⟩ 0))
noncomputable def o146 : Obj := (ob .none (.fields ⟨[]⟩))
noncomputable def a89 : Str := ⟨⟨[108,111,111,107,115]⟩⟩
noncomputable def a90 : Str := ⟨⟨[108,111,111,107]⟩⟩
noncomputable def o147 : Obj := (ob (.type b0) (.seq ⟨[(.str a85 386),(.str a89 387),(.str a79 388),(.str a90 389)]⟩ 0))
noncomputable def o148 : Obj := (ob (.type b0) (.seq ⟨[]⟩ 0))
noncomputable def o149 : Obj := (cO a19 (G.top 20))
noncomputable def o150 : Obj := (ob (.type b1) (.fields ⟨[(.str a19 383),(.str a19 384),(.str a52 385),(i 74),(i 2),(i 0),(i 0),(i 3),(.ref 154),(.bool .true),(i 181),(.ref 155),.none,(.ref 156),(.ref 157),(.ref 158),(i 390),(i 74),(.str a52 391)]⟩))
noncomputable def o151 : Obj := (fO (.type b17) a19 (G.top 20) (.str a58 366) (.ref 159))
noncomputable def o152 : Obj := (ob (.type b0) (.seq ⟨[]⟩ 0))
noncomputable def o153 : Obj := (ob .none (.fields ⟨[]⟩))
noncomputable def a91 : Str := ⟨⟨[116,104,105,110,103]⟩⟩
noncomputable def o154 : Obj := (ob (.type b0) (.seq ⟨[(.str a85 396),(.str a91 397)]⟩ 0))
noncomputable def o155 : Obj := (ob (.type b0) (.seq ⟨[]⟩ 0))
noncomputable def o156 : Obj := (cO a20 (G.top 21))
noncomputable def o157 : Obj := (ob (.type b1) (.fields ⟨[(.str a20 393),(.str a20 394),(.str a52 395),(i 78),(i 2),(i 0),(i 0),(i 3),(.ref 161),(.bool .true),(i 181),(.ref 162),.none,(.ref 163),(.ref 164),(.ref 165),(i 398),(i 78),(.str a52 399)]⟩))
noncomputable def o158 : Obj := (fO (.type b17) a20 (G.top 21) (.str a58 366) (.ref 166))
noncomputable def o159 : Obj := (ob (.type b0) (.seq ⟨[]⟩ 0))
noncomputable def o160 : Obj := (ob .none (.fields ⟨[]⟩))
noncomputable def a92 : Str := ⟨⟨[116,97,98,108,101]⟩⟩
noncomputable def o161 : Obj := (ob (.type b0) (.seq ⟨[(.str a92 404),(.str a90 405),(.str a91 406)]⟩ 0))
noncomputable def o162 : Obj := (ob (.type b0) (.seq ⟨[]⟩ 0))
noncomputable def o163 : Obj := (cO a21 (G.top 22))
noncomputable def o164 : Obj := (ob (.type b1) (.fields ⟨[(.str a21 401),(.str a21 402),(.str a52 403),(i 84),(i 3),(i 0),(i 0),(i 3),(.ref 168),(.bool .true),(i 181),(.ref 169),.none,(.ref 170),(.ref 171),(.ref 172),(i 407),(i 84),(.str a52 408)]⟩))
noncomputable def o165 : Obj := (fO (.type b17) a21 (G.top 22) (.str a58 366) (.ref 173))
noncomputable def o166 : Obj := (ob (.type b0) (.seq ⟨[]⟩ 0))
noncomputable def o167 : Obj := (ob .none (.fields ⟨[]⟩))
noncomputable def o168 : Obj := (cO a23 (G.top 24))
noncomputable def o169 : Obj := (ob (.type b1) (.fields ⟨[(.str a23 411),(.str a23 412),(.str a52 413),(i 89),(i 3),(i 0),(i 0),(i 3),(.ref 175),(.bool .true),(i 181),(.ref 176),.none,.none,.none,(.ref 177),(i 414),(i 89),(.str a52 415)]⟩))
noncomputable def o170 : Obj := (fO (.type b17) a23 (G.top 24) (.str a58 366) (.ref 178))
noncomputable def o171 : Obj := (ob (.type b0) (.seq ⟨[]⟩ 0))
noncomputable def o172 : Obj := (ob .none (.fields ⟨[]⟩))
noncomputable def o173 : Obj := (cO a24 (G.top 25))
noncomputable def o174 : Obj := (ob (.type b1) (.fields ⟨[(.str a24 417),(.str a24 418),(.str a52 419),(i 91),(i 3),(i 0),(i 0),(i 3),(.ref 180),(.bool .true),(i 181),(.ref 181),.none,.none,.none,(.ref 182),(i 420),(i 91),(.str a52 421)]⟩))
noncomputable def o175 : Obj := (fO (.type b17) a24 (G.top 25) (.str a58 366) (.ref 183))
noncomputable def o176 : Obj := (ob (.type b0) (.seq ⟨[]⟩ 0))
noncomputable def o177 : Obj := (ob .none (.fields ⟨[]⟩))
noncomputable def o178 : Obj := (ob (.type b0) (.seq ⟨[(.str a85 426),(.str a83 427),(.str a80 428)]⟩ 0))
noncomputable def o179 : Obj := (ob (.type b0) (.seq ⟨[]⟩ 0))
noncomputable def o180 : Obj := (cO a25 (G.top 26))
noncomputable def o181 : Obj := (ob (.type b1) (.fields ⟨[(.str a25 423),(.str a25 424),(.str a52 425),(i 96),(i 3),(i 0),(i 0),(i 3),(.ref 185),(.bool .true),(i 181),(.ref 186),.none,(.ref 187),(.ref 188),(.ref 189),(i 429),(i 96),(.str a52 430)]⟩))
noncomputable def o182 : Obj := (fO (.type b17) a25 (G.top 26) (.str a58 366) (.ref 190))
noncomputable def o183 : Obj := (ob (.type b0) (.seq ⟨[]⟩ 0))
noncomputable def o184 : Obj := (ob .none (.fields ⟨[]⟩))
noncomputable def o185 : Obj := (cO a26 (G.top 27))
noncomputable def o186 : Obj := (ob (.type b1) (.fields ⟨[(.str a26 432),(.str a26 433),(.str a52 434),(i 100),(i 3),(i 0),(i 0),(i 3),(.ref 192),(.bool .true),(i 181),(.ref 193),.none,.none,.none,(.ref 194),(i 435),(i 100),(.str a52 436)]⟩))
noncomputable def o187 : Obj := (fO (.type b17) a26 (G.top 27) (.str a58 366) (.ref 195))
noncomputable def o188 : Obj := (ob (.type b0) (.seq ⟨[]⟩ 0))
noncomputable def o189 : Obj := (ob .none (.fields ⟨[]⟩))
noncomputable def o190 : Obj := (cO a27 (G.top 28))
noncomputable def o191 : Obj := (ob (.type b1) (.fields ⟨[(.str a27 438),(.str a27 439),(.str a52 440),(i 109),(i 3),(i 0),(i 0),(i 3),(.ref 197),(.bool .true),(i 181),(.ref 198),.none,.none,.none,(.ref 199),(i 441),(i 109),(.str a52 442)]⟩))
noncomputable def o192 : Obj := (fO (.type b17) a27 (G.top 28) (.str a58 366) (.ref 200))
noncomputable def o193 : Obj := (ob (.type b0) (.seq ⟨[]⟩ 0))
noncomputable def o194 : Obj := (ob .none (.fields ⟨[]⟩))
noncomputable def o195 : Obj := (cO a9 (G.top 30))
noncomputable def o196 : Obj := (ob (.type b1) (.fields ⟨[(.str a9 446),(.str a9 447),(.str a52 448),(i 113),(i 1),(i 0),(i 0),(i 3),(.ref 202),(.bool .true),(i 181),(.ref 203),.none,.none,.none,(.ref 204),(i 449),(i 113),(.str a52 450)]⟩))
noncomputable def o197 : Obj := (fO (.type b17) a9 (G.top 30) (.str a59 444) (.ref 205))
noncomputable def o198 : Obj := (ob (.type b0) (.seq ⟨[]⟩ 0))
noncomputable def o199 : Obj := (ob .none (.fields ⟨[]⟩))
noncomputable def o200 : Obj := (ob (.type b0) (.seq ⟨[(.str a86 456),(.str a91 457)]⟩ 0))
noncomputable def o201 : Obj := (ob (.type b0) (.seq ⟨[]⟩ 0))
noncomputable def o202 : Obj := (cO a21 (G.top 32))
noncomputable def o203 : Obj := (ob (.type b1) (.fields ⟨[(.str a21 453),(.str a21 454),(.str a52 455),(i 116),(i 2),(i 0),(i 0),(i 3),(.ref 207),(.bool .true),(i 181),(.ref 208),.none,(.ref 209),(.ref 210),(.ref 211),(i 458),(i 116),(.str a52 459)]⟩))
noncomputable def o204 : Obj := (fO (.type b17) a21 (G.top 32) (.str a59 444) (.ref 212))
noncomputable def o205 : Obj := (ob (.type b0) (.seq ⟨[]⟩ 0))
noncomputable def o206 : Obj := (ob .none (.fields ⟨[]⟩))
noncomputable def o207 : Obj := (cO a30 (G.top 34))
noncomputable def o208 : Obj := (ob (.type b1) (.fields ⟨[(.str a30 462),(.str a30 463),(.str a52 464),(i 121),(i 3),(i 0),(i 0),(i 3),(.ref 214),(.bool .true),(i 181),(.ref 215),.none,.none,.none,(.ref 216),(i 465),(i 121),(.str a52 466)]⟩))
noncomputable def o209 : Obj := (fO (.type b17) a30 (G.top 34) (.str a59 444) (.ref 217))
noncomputable def o210 : Obj := (ob (.type b0) (.seq ⟨[]⟩ 0))
noncomputable def o211 : Obj := (ob .none (.fields ⟨[]⟩))
noncomputable def o212 : Obj := (cO a31 (G.top 35))
noncomputable def o213 : Obj := (ob (.type b1) (.fields ⟨[(.str a31 468),(.str a31 469),(.str a52 470),(i 123),(i 1),(i 0),(i 0),(i 3),(.ref 219),(.bool .true),(i 181),(.ref 220),.none,.none,.none,(.ref 221),(i 471),(i 123),(.str a52 472)]⟩))
noncomputable def o214 : Obj := (fO (.type b17) a31 (G.top 35) (.str a59 444) (.ref 222))
noncomputable def o215 : Obj := (ob (.type b0) (.seq ⟨[]⟩ 0))
noncomputable def o216 : Obj := (ob .none (.fields ⟨[]⟩))
noncomputable def o217 : Obj := (cO a32 (G.top 36))
noncomputable def o218 : Obj := (ob (.type b1) (.fields ⟨[(.str a32 474),(.str a32 475),(.str a52 476),(i 134),(i 3),(i 0),(i 0),(i 3),(.ref 224),(.bool .true),(i 181),(.ref 225),.none,.none,.none,(.ref 226),(i 477),(i 134),(.str a52 478)]⟩))
noncomputable def o219 : Obj := (fO (.type b17) a32 (G.top 36) (.str a59 444) (.ref 227))
noncomputable def o220 : Obj := (ob (.type b0) (.seq ⟨[]⟩ 0))
noncomputable def o221 : Obj := (ob .none (.fields ⟨[]⟩))
noncomputable def o222 : Obj := (cO a33 (G.top 37))
noncomputable def o223 : Obj := (ob (.type b1) (.fields ⟨[(.str a33 480),(.str a33 481),(.str a52 482),(i 144),(i 2),(i 0),(i 0),(i 3),(.ref 229),(.bool .true),(i 181),(.ref 230),.none,.none,.none,(.ref 231),(i 483),(i 144),(.str a52 484)]⟩))
noncomputable def o224 : Obj := (fO (.type b17) a33 (G.top 37) (.str a59 444) (.ref 232))
noncomputable def o225 : Obj := (ob (.type b0) (.seq ⟨[]⟩ 0))
noncomputable def o226 : Obj := (ob .none (.fields ⟨[]⟩))
noncomputable def o227 : Obj := (cO a34 (G.top 38))
noncomputable def o228 : Obj := (ob (.type b1) (.fields ⟨[(.str a34 486),(.str a34 487),(.str a52 488),(i 146),(i 3),(i 0),(i 0),(i 3),(.ref 234),(.bool .true),(i 181),(.ref 235),.none,.none,.none,(.ref 236),(i 489),(i 146),(.str a52 490)]⟩))
noncomputable def o229 : Obj := (fO (.type b17) a34 (G.top 38) (.str a59 444) (.ref 237))
noncomputable def o230 : Obj := (ob (.type b0) (.seq ⟨[]⟩ 0))
noncomputable def o231 : Obj := (ob .none (.fields ⟨[]⟩))
noncomputable def a93 : Str := ⟨⟨[99,101,108,108]⟩⟩
noncomputable def a94 : Str := ⟨⟨[107]⟩⟩
noncomputable def a95 : Str := ⟨⟨[109,97,114,107]⟩⟩
noncomputable def a96 : Str := ⟨⟨[116,117,114,110]⟩⟩
noncomputable def o232 : Obj := (ob (.type b0) (.seq ⟨[(.str a93 497),(.str a94 498),(.str a95 499),(.str a77 500),(.str a96 501)]⟩ 0))
noncomputable def o233 : Obj := (ob (.type b0) (.seq ⟨[]⟩ 0))
noncomputable def o234 : Obj := (cO a35 (G.top 40))
noncomputable def o235 : Obj := (ob (.type b1) (.fields ⟨[(.str a35 494),(.str a35 495),(.str a52 496),(i 160),(i 2),(i 0),(i 0),(i 3),(.ref 239),(.bool .true),(i 181),(.ref 240),.none,(.ref 241),(.ref 242),(.ref 243),(i 502),(i 160),(.str a52 503)]⟩))
noncomputable def o236 : Obj := (fO (.type b17) a35 (G.top 40) (.str a60 492) (.ref 244))
noncomputable def o237 : Obj := (ob (.type b0) (.seq ⟨[]⟩ 0))
noncomputable def o238 : Obj := (ob .none (.fields ⟨[]⟩))
noncomputable def a97 : Str := ⟨⟨[112,111,116]⟩⟩
noncomputable def o239 : Obj := (ob (.type b0) (.seq ⟨[(.str a97 508),(.str a81 509),(.str a77 510)]⟩ 0))
noncomputable def o240 : Obj := (ob (.type b0) (.seq ⟨[]⟩ 0))
noncomputable def o241 : Obj := (cO a36 (G.top 41))
noncomputable def o242 : Obj := (ob (.type b1) (.fields ⟨[(.str a36 505),(.str a36 506),(.str a52 507),(i 169),(i 2),(i 0),(i 0),(i 3),(.ref 246),(.bool .true),(i 181),(.ref 247),.none,(.ref 248),(.ref 249),(.ref 250),(i 511),(i 169),(.str a52 512)]⟩))
noncomputable def o243 : Obj := (fO (.type b17) a36 (G.top 41) (.str a60 492) (.ref 251))
noncomputable def o244 : Obj := (ob (.type b0) (.seq ⟨[]⟩ 0))
noncomputable def o245 : Obj := (ob .none (.fields ⟨[]⟩))
noncomputable def a98 : Str := ⟨⟨[115,99,114,105,112,116]⟩⟩
noncomputable def o246 : Obj := (ob (.type b0) (.seq ⟨[(.str a98 517),(.str a81 518),(.str a77 519),(.str a94 520),(.str a93 521)]⟩ 0))
noncomputable def o247 : Obj := (ob (.type b0) (.seq ⟨[]⟩ 0))
noncomputable def o248 : Obj := (cO a37 (G.top 42))
noncomputable def o249 : Obj := (ob (.type b1) (.fields ⟨[(.str a37 514),(.str a37 515),(.str a52 516),(i 175),(i 2),(i 0),(i 0),(i 3),(.ref 253),(.bool .true),(i 181),(.ref 254),.none,(.ref 255),(.ref 256),(.ref 257),(i 522),(i 175),(.str a52 523)]⟩))
noncomputable def o250 : Obj := (fO (.type b17) a37 (G.top 42) (.str a60 492) (.ref 258))
noncomputable def o251 : Obj := (ob (.type b0) (.seq ⟨[]⟩ 0))
noncomputable def o252 : Obj := (ob .none (.fields ⟨[]⟩))
noncomputable def a99 : Str := ⟨⟨[109,111,115,116]⟩⟩
noncomputable def o253 : Obj := (ob (.type b0) (.seq ⟨[(.str a98 528),(.str a99 529)]⟩ 0))
noncomputable def o254 : Obj := (ob (.type b0) (.seq ⟨[]⟩ 0))
noncomputable def o255 : Obj := (cO a38 (G.top 43))
noncomputable def o256 : Obj := (ob (.type b1) (.fields ⟨[(.str a38 525),(.str a38 526),(.str a52 527),(i 180),(i 2),(i 0),(i 0),(i 3),(.ref 260),(.bool .true),(i 181),(.ref 261),.none,(.ref 262),(.ref 263),(.ref 264),(i 530),(i 180),(.str a52 531)]⟩))
noncomputable def o257 : Obj := (fO (.type b17) a38 (G.top 43) (.str a60 492) (.ref 265))
noncomputable def o258 : Obj := (ob (.type b0) (.seq ⟨[]⟩ 0))
noncomputable def o259 : Obj := (ob .none (.fields ⟨[]⟩))
noncomputable def o260 : Obj := (cO a39 (G.top 44))
noncomputable def o261 : Obj := (ob (.type b1) (.fields ⟨[(.str a39 533),(.str a39 534),(.str a52 535),(i 184),(i 2),(i 0),(i 0),(i 3),(.ref 267),(.bool .true),(i 181),(.ref 268),.none,.none,.none,(.ref 269),(i 536),(i 184),(.str a52 537)]⟩))
noncomputable def o262 : Obj := (fO (.type b17) a39 (G.top 44) (.str a60 492) (.ref 270))
noncomputable def o263 : Obj := (ob (.type b0) (.seq ⟨[]⟩ 0))
noncomputable def o264 : Obj := (ob .none (.fields ⟨[]⟩))
noncomputable def o265 : Obj := (cO a40 (G.top 45))
noncomputable def o266 : Obj := (ob (.type b1) (.fields ⟨[(.str a40 539),(.str a40 540),(.str a52 541),(i 209),(i 2),(i 0),(i 0),(i 3),(.ref 272),(.bool .true),(i 181),(.ref 273),.none,.none,.none,(.ref 274),(i 542),(i 209),(.str a52 543)]⟩))
noncomputable def o267 : Obj := (fO (.type b17) a40 (G.top 45) (.str a60 492) (.ref 275))
noncomputable def o268 : Obj := (ob (.type b0) (.seq ⟨[]⟩ 0))
noncomputable def o269 : Obj := (ob .none (.fields ⟨[]⟩))
noncomputable def o270 : Obj := (cO a41 (G.top 46))
noncomputable def o271 : Obj := (ob (.type b1) (.fields ⟨[(.str a41 545),(.str a41 546),(.str a52 547),(i 226),(i 2),(i 0),(i 0),(i 3),(.ref 277),(.bool .true),(i 181),(.ref 278),.none,.none,.none,(.ref 279),(i 548),(i 226),(.str a52 549)]⟩))
noncomputable def o272 : Obj := (fO (.type b17) a41 (G.top 46) (.str a60 492) (.ref 280))
noncomputable def o273 : Obj := (ob (.type b0) (.seq ⟨[]⟩ 0))
noncomputable def o274 : Obj := (ob .none (.fields ⟨[]⟩))
noncomputable def a100 : Str := ⟨⟨[111,114,100,101,114]⟩⟩
noncomputable def o275 : Obj := (ob (.type b0) (.seq ⟨[(.str a97 554),(.str a99 555),(.str a81 556),(.str a100 557),(.str a77 558),(.str a83 559),(.str a80 560)]⟩ 0))
noncomputable def o276 : Obj := (ob (.type b0) (.seq ⟨[]⟩ 0))
noncomputable def o277 : Obj := (cO a42 (G.top 47))
noncomputable def o278 : Obj := (ob (.type b1) (.fields ⟨[(.str a42 551),(.str a42 552),(.str a52 553),(i 229),(i 2),(i 0),(i 0),(i 3),(.ref 282),(.bool .true),(i 181),(.ref 283),.none,(.ref 284),(.ref 285),(.ref 286),(i 561),(i 229),(.str a52 562)]⟩))
noncomputable def o279 : Obj := (fO (.type b17) a42 (G.top 47) (.str a60 492) (.ref 287))
noncomputable def o280 : Obj := (ob (.type b0) (.seq ⟨[]⟩ 0))
noncomputable def o281 : Obj := (ob .none (.fields ⟨[]⟩))
noncomputable def o282 : Obj := (cO a43 (G.top 48))
noncomputable def o283 : Obj := (ob (.type b1) (.fields ⟨[(.str a43 564),(.str a43 565),(.str a52 566),(i 238),(i 2),(i 0),(i 0),(i 3),(.ref 289),(.bool .true),(i 181),(.ref 290),.none,.none,.none,(.ref 291),(i 567),(i 238),(.str a52 568)]⟩))
noncomputable def o284 : Obj := (fO (.type b17) a43 (G.top 48) (.str a60 492) (.ref 292))
noncomputable def o285 : Obj := (ob (.type b0) (.seq ⟨[]⟩ 0))
noncomputable def o286 : Obj := (ob .none (.fields ⟨[]⟩))
noncomputable def o287 : Obj := (ob (.type b0) (.seq ⟨[(.str a97 573)]⟩ 0))
noncomputable def o288 : Obj := (ob (.type b0) (.seq ⟨[]⟩ 0))
noncomputable def o289 : Obj := (cO a44 (G.top 49))
noncomputable def o290 : Obj := (ob (.type b1) (.fields ⟨[(.str a44 570),(.str a44 571),(.str a52 572),(i 241),(i 1),(i 0),(i 0),(i 3),(.ref 294),(.bool .true),(i 181),(.ref 295),.none,(.ref 296),(.ref 297),(.ref 298),(i 574),(i 241),(.str a52 575)]⟩))
noncomputable def o291 : Obj := (fO (.type b17) a44 (G.top 49) (.str a60 492) (.ref 299))
noncomputable def o292 : Obj := (ob (.type b0) (.seq ⟨[]⟩ 0))
noncomputable def o293 : Obj := (ob .none (.fields ⟨[]⟩))
noncomputable def a101 : Str := ⟨⟨[101,110,100,115]⟩⟩
noncomputable def o294 : Obj := (ob (.type b0) (.seq ⟨[(.str a100 580),(.str a91 581),(.str a101 582)]⟩ 0))
noncomputable def o295 : Obj := (ob (.type b0) (.seq ⟨[]⟩ 0))
noncomputable def o296 : Obj := (cO a45 (G.top 50))
noncomputable def o297 : Obj := (ob (.type b1) (.fields ⟨[(.str a45 577),(.str a45 578),(.str a52 579),(i 243),(i 2),(i 0),(i 0),(i 3),(.ref 301),(.bool .true),(i 181),(.ref 302),.none,(.ref 303),(.ref 304),(.ref 305),(i 583),(i 243),(.str a52 584)]⟩))
noncomputable def o298 : Obj := (fO (.type b17) a45 (G.top 50) (.str a60 492) (.ref 306))
noncomputable def o299 : Obj := (ob (.type b0) (.seq ⟨[]⟩ 0))
noncomputable def o300 : Obj := (ob .none (.fields ⟨[]⟩))
noncomputable def o301 : Obj := (cO a46 (G.top 51))
noncomputable def o302 : Obj := (ob (.type b1) (.fields ⟨[(.str a46 586),(.str a46 587),(.str a52 588),(i 248),(i 1),(i 0),(i 0),(i 3),(.ref 308),(.bool .true),(i 181),(.ref 309),.none,.none,.none,(.ref 310),(i 589),(i 248),(.str a52 590)]⟩))
noncomputable def o303 : Obj := (fO (.type b17) a46 (G.top 51) (.str a60 492) (.ref 311))
noncomputable def o304 : Obj := (ob (.type b0) (.seq ⟨[]⟩ 0))
noncomputable def o305 : Obj := (ob .none (.fields ⟨[]⟩))
noncomputable def o306 : Obj := (cO a47 (G.top 52))
noncomputable def o307 : Obj := (ob (.type b1) (.fields ⟨[(.str a47 592),(.str a47 593),(.str a52 594),(i 250),(i 2),(i 0),(i 0),(i 3),(.ref 313),(.bool .true),(i 181),(.ref 314),.none,.none,.none,(.ref 315),(i 595),(i 250),(.str a52 596)]⟩))
noncomputable def o308 : Obj := (fO (.type b17) a47 (G.top 52) (.str a60 492) (.ref 316))
noncomputable def o309 : Obj := (ob (.type b0) (.seq ⟨[]⟩ 0))
noncomputable def o310 : Obj := (ob .none (.fields ⟨[]⟩))
noncomputable def o311 : Obj := (cO a48 (G.top 53))
noncomputable def o312 : Obj := (ob (.type b1) (.fields ⟨[(.str a48 598),(.str a48 599),(.str a52 600),(i 252),(i 3),(i 0),(i 0),(i 3),(.ref 318),(.bool .true),(i 181),(.ref 319),.none,.none,.none,(.ref 320),(i 601),(i 252),(.str a52 602)]⟩))
noncomputable def o313 : Obj := (fO (.type b17) a48 (G.top 53) (.str a60 492) (.ref 321))
noncomputable def o314 : Obj := (ob (.type b0) (.seq ⟨[]⟩ 0))
noncomputable def o315 : Obj := (ob .none (.fields ⟨[]⟩))
noncomputable def o316 : Obj := (cO a49 (G.top 54))
noncomputable def o317 : Obj := (ob (.type b1) (.fields ⟨[(.str a49 604),(.str a49 605),(.str a52 606),(i 260),(i 5),(i 0),(i 0),(i 3),(.ref 323),(.bool .true),(i 181),(.ref 324),.none,.none,.none,(.ref 325),(i 607),(i 260),(.str a52 608)]⟩))
noncomputable def o318 : Obj := (fO (.type b17) a49 (G.top 54) (.str a60 492) (.ref 326))
noncomputable def o319 : Obj := (ob (.type b0) (.seq ⟨[]⟩ 0))
noncomputable def o320 : Obj := (ob .none (.fields ⟨[]⟩))
noncomputable def o321 : Obj := (ob (.type b0) (.seq ⟨[(.str a98 613),(.str a94 614),(.str a93 615),(.str a97 616),(.str a85 617),(.str a100 618),(.str a82 619),(.str a84 620),(.str a80 621),(.str a87 622)]⟩ 0))
noncomputable def o322 : Obj := (ob (.type b0) (.seq ⟨[]⟩ 0))
noncomputable def o323 : Obj := (cO a50 (G.top 55))
noncomputable def o324 : Obj := (ob (.type b1) (.fields ⟨[(.str a50 610),(.str a50 611),(.str a52 612),(i 279),(i 1),(i 0),(i 0),(i 3),(.ref 328),(.bool .true),(i 181),(.ref 329),.none,(.ref 330),(.ref 331),(.ref 332),(i 623),(i 279),(.str a52 624)]⟩))
noncomputable def o325 : Obj := (fO (.type b17) a50 (G.top 55) (.str a60 492) (.ref 333))
noncomputable def t0 (P : PySem.Params) : PySem.W.BT := (n (q0 P) (n (q1 P) (n (o4 P) (n (q7 P) (n o6 (n o22 (n o54 (n o118 (l o246) .nil) (n o182 (l o310) .nil)) (n o86 (n o150 (l o278) .nil) (l o214))) (n o38 (n o70 (n o134 (l o262) .nil) (l o198)) (n o102 (n o166 (l o294) .nil) (l o230)))) (n (o14 P) (n o30 (n o62 (n o126 (l o254) .nil) (n o190 (l o318) .nil)) (n o94 (n o158 (l o286) .nil) (l o222))) (n o46 (n o78 (n o142 (l o270) .nil) (l o206)) (n o110 (n o174 (l o302) .nil) (l o238))))) (n o0 (n o10 (n o26 (n o58 (n o122 (l o250) .nil) (n o186 (l o314) .nil)) (n o90 (n o154 (l o282) .nil) (l o218))) (n o42 (n o74 (n o138 (l o266) .nil) (l o202)) (n o106 (n o170 (l o298) .nil) (l o234)))) (n o18 (n o34 (n o66 (n o130 (l o258) .nil) (n o194 (l o322) .nil)) (n o98 (n o162 (l o290) .nil) (l o226))) (n o50 (n (o82 P) (n o146 (l o274) .nil) (l o210)) (n o114 (n o178 (l o306) .nil) (l o242)))))) (n (q5 P) (n (q9 P) (n (o8 P) (n o24 (n o56 (n o120 (l o248) .nil) (n o184 (l o312) .nil)) (n o88 (n o152 (l o280) .nil) (l o216))) (n o40 (n o72 (n o136 (l o264) .nil) (l o200)) (n o104 (n o168 (l o296) .nil) (l o232)))) (n o16 (n o32 (n o64 (n o128 (l o256) .nil) (n o192 (l o320) .nil)) (n o96 (n o160 (l o288) .nil) (l o224))) (n o48 (n o80 (n o144 (l o272) .nil) (l o208)) (n o112 (n o176 (l o304) .nil) (l o240))))) (n o2 (n o12 (n o28 (n o60 (n o124 (l o252) .nil) (n o188 (l o316) .nil)) (n o92 (n o156 (l o284) .nil) (l o220))) (n o44 (n o76 (n o140 (l o268) .nil) (l o204)) (n o108 (n o172 (l o300) .nil) (l o236)))) (n o20 (n o36 (n o68 (n o132 (l o260) .nil) (n o196 (l o324) .nil)) (n o100 (n o164 (l o292) .nil) (l o228))) (n o52 (n o84 (n o148 (l o276) .nil) (l o212)) (n o116 (n o180 (l o308) .nil) (l o244))))))) (n (q2 P) (n (q4 P) (n (q8 P) (n o7 (n o23 (n o55 (n o119 (l o247) .nil) (n o183 (l o311) .nil)) (n o87 (n o151 (l o279) .nil) (l o215))) (n (o39 P) (n o71 (n o135 (l o263) .nil) (l o199)) (n o103 (n o167 (l o295) .nil) (l o231)))) (n o15 (n o31 (n (o63 P) (n o127 (l o255) .nil) (n o191 (l o319) .nil)) (n o95 (n o159 (l o287) .nil) (l o223))) (n o47 (n o79 (n o143 (l o271) .nil) (l o207)) (n o111 (n o175 (l o303) .nil) (l o239))))) (n o5 (n o11 (n (o27 P) (n o59 (n o123 (l o251) .nil) (n o187 (l o315) .nil)) (n o91 (n o155 (l o283) .nil) (l o219))) (n o43 (n o75 (n o139 (l o267) .nil) (l o203)) (n o107 (n o171 (l o299) .nil) (l o235)))) (n o19 (n o35 (n o67 (n o131 (l o259) .nil) (n o195 (l o323) .nil)) (n o99 (n o163 (l o291) .nil) (l o227))) (n (o51 P) (n o83 (n o147 (l o275) .nil) (l o211)) (n o115 (n o179 (l o307) .nil) (l o243)))))) (n (q6 P) (n (q10 P) (n o9 (n o25 (n (o57 P) (n o121 (l o249) .nil) (n o185 (l o313) .nil)) (n o89 (n o153 (l o281) .nil) (l o217))) (n o41 (n o73 (n o137 (l o265) .nil) (l o201)) (n o105 (n o169 (l o297) .nil) (l o233)))) (n o17 (n (o33 P) (n o65 (n o129 (l o257) .nil) (n o193 (l o321) .nil)) (n o97 (n o161 (l o289) .nil) (l o225))) (n o49 (n o81 (n o145 (l o273) .nil) (l o209)) (n o113 (n o177 (l o305) .nil) (l o241))))) (n o3 (n o13 (n o29 (n o61 (n o125 (l o253) .nil) (n o189 (l o317) .nil)) (n o93 (n o157 (l o285) .nil) (l o221))) (n (o45 P) (n o77 (n o141 (l o269) .nil) (l o205)) (n o109 (n o173 (l o301) .nil) (l o237)))) (n (o21 P) (n o37 (n (o69 P) (n o133 (l o261) .nil) (n o197 (l o325) .nil)) (n o101 (n o165 (l o293) .nil) (l o229))) (n o53 (n o85 (n o149 (l o277) .nil) (l o213)) (n o117 (n o181 (l o309) .nil) (l o245))))))))
theorem pz0 : ∀ w : PySem.World, (fun os : PySem.OsState => PySem.W.Fast.tw10110043849684766642 PySem.W.Fast.tw14364793385576792824 PySem.Challenge.pw_farhail_k17_whole_webs_numbered_otherwis w 11 (some (.ref 6)) 1 2534 (PySem.W.SharedT.mk (tB w.params) 15 (.mk [] [] [] 0 [] [] .false ⟨[]⟩ [] 0 .false .false .false 0 [2000,10,10] .false 0 .true [] [] 0 .false) (Array.mk ([] : List PySem.GenState)) (.mk 0 0 0 0) 187 os) (PySem.W.piecesOf sts0 env code (.mk 0 0 0 0) B)) = fun os => some (PySem.Flow.next, (PySem.W.SharedT.mk (t0 w.params) 335 (.mk [] [] [] 0 [] [] .false ⟨[]⟩ [] 0 .false .false .false 0 [2000,10,10] .false 0 .true [] [] 0 .false) (Array.mk ([] : List PySem.GenState)) (.mk 0 0 0 0) 626 os), code, (.mk 279 0 293 15)) := fun w => by kernel_rfl
theorem p0 (w : PySem.World) (os : PySem.OsState) : PySem.W.segRun PySem.treeTable PySem.Challenge.pw_farhail_k17_whole_webs_numbered_otherwis w 11 (some (.ref 6)) 1 2534 (PySem.W.SharedT.mk (tB w.params) 15 (.mk [] [] [] 0 [] [] .false ⟨[]⟩ [] 0 .false .false .false 0 [2000,10,10] .false 0 .true [] [] 0 .false) (Array.mk ([] : List PySem.GenState)) (.mk 0 0 0 0) 187 os).abs (PySem.W.piecesOf sts0 env code (.mk 0 0 0 0) B) = some (PySem.Flow.next, (PySem.W.SharedT.mk (t0 w.params) 335 (.mk [] [] [] 0 [] [] .false ⟨[]⟩ [] 0 .false .false .false 0 [2000,10,10] .false 0 .true [] [] 0 .false) (Array.mk ([] : List PySem.GenState)) (.mk 0 0 0 0) 626 os).abs, code, (.mk 279 0 293 15)) := PySem.W.segRun_of (by rw [PySem.W.Fast.te10110043849684766642, PySem.W.Fast.te14364793385576792824]; exact congrFun (pz0 w) os)
noncomputable def hF (P : PySem.Params) : PySem.Heap := ⟨⟨[(q0 P), (q1 P), (q2 P), (o4 P), (q4 P), (q5 P), (q6 P), (q7 P), (q8 P), (q9 P), (q10 P), o0, o5, o2, o3, o6, o7, (o8 P), o9, o10, o11, o12, o13, (o14 P), o15, o16, o17, o18, o19, o20, (o21 P), o22, o23, o24, o25, o26, (o27 P), o28, o29, o30, o31, o32, (o33 P), o34, o35, o36, o37, o38, (o39 P), o40, o41, o42, o43, o44, (o45 P), o46, o47, o48, o49, o50, (o51 P), o52, o53, o54, o55, o56, (o57 P), o58, o59, o60, o61, o62, (o63 P), o64, o65, o66, o67, o68, (o69 P), o70, o71, o72, o73, o74, o75, o76, o77, o78, o79, o80, o81, (o82 P), o83, o84, o85, o86, o87, o88, o89, o90, o91, o92, o93, o94, o95, o96, o97, o98, o99, o100, o101, o102, o103, o104, o105, o106, o107, o108, o109, o110, o111, o112, o113, o114, o115, o116, o117, o118, o119, o120, o121, o122, o123, o124, o125, o126, o127, o128, o129, o130, o131, o132, o133, o134, o135, o136, o137, o138, o139, o140, o141, o142, o143, o144, o145, o146, o147, o148, o149, o150, o151, o152, o153, o154, o155, o156, o157, o158, o159, o160, o161, o162, o163, o164, o165, o166, o167, o168, o169, o170, o171, o172, o173, o174, o175, o176, o177, o178, o179, o180, o181, o182, o183, o184, o185, o186, o187, o188, o189, o190, o191, o192, o193, o194, o195, o196, o197, o198, o199, o200, o201, o202, o203, o204, o205, o206, o207, o208, o209, o210, o211, o212, o213, o214, o215, o216, o217, o218, o219, o220, o221, o222, o223, o224, o225, o226, o227, o228, o229, o230, o231, o232, o233, o234, o235, o236, o237, o238, o239, o240, o241, o242, o243, o244, o245, o246, o247, o248, o249, o250, o251, o252, o253, o254, o255, o256, o257, o258, o259, o260, o261, o262, o263, o264, o265, o266, o267, o268, o269, o270, o271, o272, o273, o274, o275, o276, o277, o278, o279, o280, o281, o282, o283, o284, o285, o286, o287, o288, o289, o290, o291, o292, o293, o294, o295, o296, o297, o298, o299, o300, o301, o302, o303, o304, o305, o306, o307, o308, o309, o310, o311, o312, o313, o314, o315, o316, o317, o318, o319, o320, o321, o322, o323, o324, o325]⟩, (.mk [] [] [] 0 [] [] .false ⟨[]⟩ [] 0 .false .false .false 0 [2000,10,10] .false 0 .true [] [] 0 .false)⟩
theorem fin0 (w : PySem.World) : (fun os : PySem.OsState => PySem.W.Fast.tw14082659384304107361 PySem.W.Fast.tw14364793385576792824 PySem.Challenge.pw_farhail_k17_whole_webs_numbered_otherwis w 11 (some (.ref 6)) 2 (PySem.W.SharedT.mk (t0 w.params) 335 (.mk [] [] [] 0 [] [] .false ⟨[]⟩ [] 0 .false .false .false 0 [2000,10,10] .false 0 .true [] [] 0 .false) (Array.mk ([] : List PySem.GenState)) (.mk 0 0 0 0) 626 os).abs (PySem.Thread.mk (PySem.W.doneF PySem.Flow.next) code (.mk 279 0 293 15) B)) = fun os => some (PySem.Shared.mk (hF w.params) (Array.mk ([] : List PySem.GenState)) (.mk 0 0 0 0) 626 os) := by kernel_rfl
theorem fin (w : PySem.World) (os : PySem.OsState) : PySem.W.topRun PySem.treeTable PySem.Challenge.pw_farhail_k17_whole_webs_numbered_otherwis w 11 (some (.ref 6)) 2 (PySem.W.SharedT.mk (t0 w.params) 335 (.mk [] [] [] 0 [] [] .false ⟨[]⟩ [] 0 .false .false .false 0 [2000,10,10] .false 0 .true [] [] 0 .false) (Array.mk ([] : List PySem.GenState)) (.mk 0 0 0 0) 626 os).abs (PySem.W.restOf [] env code (.mk 279 0 293 15) B) = some (PySem.Shared.mk (hF w.params) (Array.mk ([] : List PySem.GenState)) (.mk 0 0 0 0) 626 os) := by rw [show PySem.W.restOf [] env code (.mk 279 0 293 15) B = (PySem.Thread.mk (PySem.W.doneF PySem.Flow.next) code (.mk 279 0 293 15) B) by kernel_rfl, PySem.W.Fast.te14082659384304107361, PySem.W.Fast.te14364793385576792824]; exact congrFun (fin0 w) os
theorem parts : PySem.W.behindTheImports PySem.Challenge.pw_farhail_k17_whole_webs_numbered_otherwis = (sts0 ++ []) := by kernel_rfl
noncomputable abbrev SF (w : PySem.World) (os : PySem.OsState) : PySem.Shared := (PySem.Shared.mk (hF w.params) (Array.mk ([] : List PySem.GenState)) (.mk 0 0 0 0) 626 os)
theorem with_parts {tb : String → Option PySem.Builtin} {p : PySem.Program} {w : PySem.World} {n₀ : Nat} {a : Option PySem.Value} {N : Nat} {s : PySem.Shared} {r : Option PySem.Shared} {b b' : List PySem.Stmt} {e : PySem.Env} {c : PySem.Code} {q : PySem.Pos} {F : List PySem.Frame} (h : b = b') (k : PySem.W.topRun tb p w n₀ a N s (PySem.W.restOf b' e c q F) = r) : PySem.W.topRun tb p w n₀ a N s (PySem.W.restOf b e c q F) = r := by rw [h]; exact k
theorem run (w : PySem.World) (os : PySem.OsState) : PySem.W.topRun PySem.treeTable PySem.Challenge.pw_farhail_k17_whole_webs_numbered_otherwis w 11 (some (.ref 6)) (12 + (1 + (2534 + 2))) (PySem.Shared.mk (PySem.W.boot_heap w.params) (Array.mk ([] : List PySem.GenState)) PySem.W.boot_drawn PySem.W.boot_toks os) (PySem.W.topStub PySem.Challenge.pw_farhail_k17_whole_webs_numbered_otherwis) = some (PySem.Shared.mk (hF w.params) (Array.mk ([] : List PySem.GenState)) (.mk 0 0 0 0) 626 os) := PySem.W.go_top (pre w os) (PySem.W.piece_block (block w os) (with_parts parts (PySem.W.piece_app (p0 w os) (fin w os))))
theorem opens : ∀ w : PySem.World, (PySem.W.fencedOpening PySem.treeTable PySem.Challenge.pw_farhail_k17_whole_webs_numbered_otherwis w 5192).map (fun s => (s.heap, s.gens, s.drawn, s.toks)) = some (PySem.W.boot_heap w.params, Array.mk [], PySem.W.boot_drawn, PySem.W.boot_toks) := PySem.W.boot_open (by kernel_rfl) (by kernel_rfl) (fun s => by kernel_rfl)
theorem size : ∀ w : PySem.World, ((PySem.W.boot_heap w.params).isNs PySem.mainGlobals && (Array.mk [] : Array PySem.GenState).size == 0, (PySem.W.boot_heap w.params).objs.size, (PySem.W.boot_heap w.params).nsMap PySem.mainGlobals "__annotations__") = (true, 11, (some (.ref 6))) := fun w => by kernel_rfl
noncomputable def K : PySem.Params → PySem.W.Frag := fun P => (nat_lit 2, (ob .none (.dict ⟨[]⟩ 0))) :: (nat_lit 3, (ob (.type "dict") (.dict ⟨[(.mk (PyData.keyHash P "__name__") (.str "__name__" 165) (.str "law_farhail_k17_whole_webs_numbered_otherwis" 492)),(.mk (PyData.keyHash P "__doc__") (.str "__doc__" 166) .none),(.mk (PyData.keyHash P "__package__") (.str "__package__" 167) .none),(.mk (PyData.keyHash P "__loader__") (.str "__loader__" 168) (.builtin "__main__.__loader__#opaque")),(.mk (PyData.keyHash P "__spec__") (.str "__spec__" 169) .none),(.mk (PyData.keyHash P "__annotations__") (.str "__annotations__" 170) (.ref 6)),(.mk (PyData.keyHash P "__builtins__") (.str "__builtins__" 171) (.ref 4)),(.mk (PyData.keyHash P "__file__") (.str "__file__" 173) (.str "/claim/cut.py" 172)),(.mk (PyData.keyHash P "__cached__") (.str "__cached__" 174) .none),(.mk (PyData.keyHash P "HailError") (.str "HailError" 206) (.ref 24)),(.mk (PyData.keyHash P "NoWeb") (.str "NoWeb" 222) (.ref 37)),(.mk (PyData.keyHash P "NoPlace") (.str "NoPlace" 238) (.ref 49)),(.mk (PyData.keyHash P "NoThing") (.str "NoThing" 254) (.ref 61)),(.mk (PyData.keyHash P "NoLooks") (.str "NoLooks" 270) (.ref 73)),(.mk (PyData.keyHash P "Apart") (.str "Apart" 295) (.ref 92)),(.mk (PyData.keyHash P "MOST_PLACES") (.str "MOST_PLACES" 299) (.int 60 298)),(.mk (PyData.keyHash P "near_lists") (.str "near_lists" 305) (.ref 206)),(.mk (PyData.keyHash P "near_lists_webs") (.str "near_lists_webs" 306) (.ref 99)),(.mk (PyData.keyHash P "fars_by") (.str "fars_by" 318) (.ref 106)),(.mk (PyData.keyHash P "sorted_ties") (.str "sorted_ties" 330) (.ref 113)),(.mk (PyData.keyHash P "made_web") (.str "made_web" 341) (.ref 120)),(.mk (PyData.keyHash P "place_asked") (.str "place_asked" 349) (.ref 127)),(.mk (PyData.keyHash P "neighbours_of") (.str "neighbours_of" 357) (.ref 134)),(.mk (PyData.keyHash P "fars_from") (.str "fars_from" 365) (.ref 141)),(.mk (PyData.keyHash P "table_of") (.str "table_of" 373) (.ref 146)),(.mk (PyData.keyHash P "things_of") (.str "things_of" 382) (.ref 153)),(.mk (PyData.keyHash P "looks_asked") (.str "looks_asked" 392) (.ref 160)),(.mk (PyData.keyHash P "thing_asked") (.str "thing_asked" 400) (.ref 167)),(.mk (PyData.keyHash P "far_by") (.str "far_by" 409) (.ref 213)),(.mk (PyData.keyHash P "far_by_codes") (.str "far_by_codes" 410) (.ref 174)),(.mk (PyData.keyHash P "parters_by") (.str "parters_by" 416) (.ref 179)),(.mk (PyData.keyHash P "code_of") (.str "code_of" 422) (.ref 184)),(.mk (PyData.keyHash P "parters_of") (.str "parters_of" 431) (.ref 191)),(.mk (PyData.keyHash P "by_code") (.str "by_code" 437) (.ref 196)),(.mk (PyData.keyHash P "likes_by") (.str "likes_by" 443) (.ref 201)),(.mk (PyData.keyHash P "near_lists_floors") (.str "near_lists_floors" 452) (.ref 206)),(.mk (PyData.keyHash P "far_by_floors") (.str "far_by_floors" 461) (.ref 213)),(.mk (PyData.keyHash P "are_twins") (.str "are_twins" 467) (.ref 218)),(.mk (PyData.keyHash P "twins_of") (.str "twins_of" 473) (.ref 223)),(.mk (PyData.keyHash P "is_lot") (.str "is_lot" 479) (.ref 228)),(.mk (PyData.keyHash P "lot_parters") (.str "lot_parters" 485) (.ref 233)),(.mk (PyData.keyHash P "floor_height") (.str "floor_height" 491) (.ref 238)),(.mk (PyData.keyHash P "_law_pot") (.str "_law_pot" 504) (.ref 245)),(.mk (PyData.keyHash P "_law_take") (.str "_law_take" 513) (.ref 252)),(.mk (PyData.keyHash P "_law_folded") (.str "_law_folded" 524) (.ref 259)),(.mk (PyData.keyHash P "_law_cells") (.str "_law_cells" 532) (.ref 266)),(.mk (PyData.keyHash P "_law_ties") (.str "_law_ties" 538) (.ref 271)),(.mk (PyData.keyHash P "_law_bunches") (.str "_law_bunches" 544) (.ref 276)),(.mk (PyData.keyHash P "_law_order") (.str "_law_order" 550) (.ref 281)),(.mk (PyData.keyHash P "_law_web") (.str "_law_web" 563) (.ref 288)),(.mk (PyData.keyHash P "_law_some") (.str "_law_some" 569) (.ref 293)),(.mk (PyData.keyHash P "_law_kind") (.str "_law_kind" 576) (.ref 300)),(.mk (PyData.keyHash P "_law_moved") (.str "_law_moved" 585) (.ref 307)),(.mk (PyData.keyHash P "_law_gathered") (.str "_law_gathered" 591) (.ref 312)),(.mk (PyData.keyHash P "_law_rows_moved") (.str "_law_rows_moved" 597) (.ref 317)),(.mk (PyData.keyHash P "_law_same_places") (.str "_law_same_places" 603) (.ref 322)),(.mk (PyData.keyHash P "_law_same_things") (.str "_law_same_things" 609) (.ref 327)),(.mk (PyData.keyHash P "law") (.str "law" 625) (.ref 334))]⟩ 58))) :: (nat_lit 15, (ob (.type "tuple") (.seq ⟨[(.type "ValueError")]⟩ 0))) :: (nat_lit 22, (ob (.type "tuple") (.seq ⟨[]⟩ 0))) :: (nat_lit 23, (ob (.type "dict") (.dict ⟨[(.mk (PyData.keyHash P "__module__") (.str "__module__" 196) (.str "farhail.errors" 187)),(.mk (PyData.keyHash P "__firstlineno__") (.str "__firstlineno__" 200) (.int 2 199)),(.mk (PyData.keyHash P "__static_attributes__") (.str "__static_attributes__" 201) (.ref 22)),(.mk (PyData.keyHash P "__weakref__") (.str "__weakref__" 203) (.ref 25)),(.mk (PyData.keyHash P "__doc__") (.str "__doc__" 204) .none)]⟩ 3))) :: (nat_lit 24, (.mk (.type "type") none (.cls (.mk "HailError" [(.type "ValueError")] [(.ref 24),(.type "ValueError"),(.type "Exception"),(.type "BaseException"),(.type "object")] 23 "HailError" .true [] [(.ref 37),(.ref 49),(.ref 61),(.ref 73),(.ref 92)] .false none .false)) ⟨[(some (.ref 15)),none,(some (.str "HailError" 189)),(some (.str "HailError" 197)),(some (.builtin "ValueError.__new__")),(some (.bool .true))]⟩)) :: (nat_lit 25, (ob (.type "getset_descriptor") (.fields ⟨[(.str "__weakref__" 202),(.ref 24),(.builtin "ExceptionGroup.__weakref__"),.none]⟩))) :: (nat_lit 28, (ob (.type "tuple") (.seq ⟨[(.ref 24)]⟩ 0))) :: (nat_lit 35, (ob (.type "tuple") (.seq ⟨[]⟩ 0))) :: (nat_lit 36, (ob (.type "dict") (.dict ⟨[(.mk (PyData.keyHash P "__module__") (.str "__module__" 214) (.str "farhail.errors" 187)),(.mk (PyData.keyHash P "__firstlineno__") (.str "__firstlineno__" 218) (.int 4 217)),(.mk (PyData.keyHash P "__static_attributes__") (.str "__static_attributes__" 219) (.ref 35)),(.mk (PyData.keyHash P "__doc__") (.str "__doc__" 220) .none)]⟩ 2))) :: (nat_lit 37, (.mk (.type "type") none (.cls (.mk "NoWeb" [(.ref 24)] [(.ref 37),(.ref 24),(.type "ValueError"),(.type "Exception"),(.type "BaseException"),(.type "object")] 36 "NoWeb" .true [] [] .false none .false)) ⟨[(some (.ref 28)),none,(some (.str "NoWeb" 207)),(some (.str "NoWeb" 215)),(some (.builtin "ValueError.__new__")),(some (.bool .true))]⟩)) :: (nat_lit 40, (ob (.type "tuple") (.seq ⟨[(.ref 24)]⟩ 0))) :: (nat_lit 47, (ob (.type "tuple") (.seq ⟨[]⟩ 0))) :: (nat_lit 48, (ob (.type "dict") (.dict ⟨[(.mk (PyData.keyHash P "__module__") (.str "__module__" 230) (.str "farhail.errors" 187)),(.mk (PyData.keyHash P "__firstlineno__") (.str "__firstlineno__" 234) (.int 6 233)),(.mk (PyData.keyHash P "__static_attributes__") (.str "__static_attributes__" 235) (.ref 47)),(.mk (PyData.keyHash P "__doc__") (.str "__doc__" 236) .none)]⟩ 2))) :: (nat_lit 49, (.mk (.type "type") none (.cls (.mk "NoPlace" [(.ref 24)] [(.ref 49),(.ref 24),(.type "ValueError"),(.type "Exception"),(.type "BaseException"),(.type "object")] 48 "NoPlace" .true [] [] .false none .false)) ⟨[(some (.ref 40)),none,(some (.str "NoPlace" 223)),(some (.str "NoPlace" 231)),(some (.builtin "ValueError.__new__")),(some (.bool .true))]⟩)) :: (nat_lit 52, (ob (.type "tuple") (.seq ⟨[(.ref 24)]⟩ 0))) :: (nat_lit 59, (ob (.type "tuple") (.seq ⟨[]⟩ 0))) :: (nat_lit 60, (ob (.type "dict") (.dict ⟨[(.mk (PyData.keyHash P "__module__") (.str "__module__" 246) (.str "farhail.errors" 187)),(.mk (PyData.keyHash P "__firstlineno__") (.str "__firstlineno__" 250) (.int 8 249)),(.mk (PyData.keyHash P "__static_attributes__") (.str "__static_attributes__" 251) (.ref 59)),(.mk (PyData.keyHash P "__doc__") (.str "__doc__" 252) .none)]⟩ 2))) :: (nat_lit 61, (.mk (.type "type") none (.cls (.mk "NoThing" [(.ref 24)] [(.ref 61),(.ref 24),(.type "ValueError"),(.type "Exception"),(.type "BaseException"),(.type "object")] 60 "NoThing" .true [] [] .false none .false)) ⟨[(some (.ref 52)),none,(some (.str "NoThing" 239)),(some (.str "NoThing" 247)),(some (.builtin "ValueError.__new__")),(some (.bool .true))]⟩)) :: (nat_lit 64, (ob (.type "tuple") (.seq ⟨[(.ref 24)]⟩ 0))) :: (nat_lit 71, (ob (.type "tuple") (.seq ⟨[]⟩ 0))) :: (nat_lit 72, (ob (.type "dict") (.dict ⟨[(.mk (PyData.keyHash P "__module__") (.str "__module__" 262) (.str "farhail.errors" 187)),(.mk (PyData.keyHash P "__firstlineno__") (.str "__firstlineno__" 266) (.int 10 265)),(.mk (PyData.keyHash P "__static_attributes__") (.str "__static_attributes__" 267) (.ref 71)),(.mk (PyData.keyHash P "__doc__") (.str "__doc__" 268) .none)]⟩ 2))) :: (nat_lit 73, (.mk (.type "type") none (.cls (.mk "NoLooks" [(.ref 24)] [(.ref 73),(.ref 24),(.type "ValueError"),(.type "Exception"),(.type "BaseException"),(.type "object")] 72 "NoLooks" .true [] [] .false none .false)) ⟨[(some (.ref 64)),none,(some (.str "NoLooks" 255)),(some (.str "NoLooks" 263)),(some (.builtin "ValueError.__new__")),(some (.bool .true))]⟩)) :: (nat_lit 76, (ob (.type "tuple") (.seq ⟨[(.ref 24)]⟩ 0))) :: (nat_lit 83, (ob (.type "tuple") (.seq ⟨[]⟩ 0))) :: (nat_lit 85, (ob (.type "tuple") (.seq ⟨[(.str "self" 286),(.str "place" 287)]⟩ 0))) :: (nat_lit 86, (ob (.type "tuple") (.seq ⟨[]⟩ 0))) :: (nat_lit 88, (ob (.type "code") (.fields ⟨[(.str "__init__" 283),(.str "Apart.__init__" 284),(.str "/claim/cut.py" 285),(.int 14 0),(.int 2 0),(.int 0 0),(.int 0 0),(.int 3 0),(.ref 83),(.bool .true),(.int 181 0),(.ref 84),.none,(.ref 85),(.ref 86),(.ref 87),(.int 288 0),(.int 14 0),(.str "/claim/cut.py" 289)]⟩))) :: (nat_lit 89, (.mk (.type "function") none (.func (PySem.W.fnOf "__init__" "Apart.__init__" (L2.defArgs (L2.inClass (G.top 6) 0)) (L2.defBody (L2.inClass (G.top 6) 0)) (L2.defScope (L2.inClass (G.top 6) 0)) .none .none .none (.str "farhail.errors" 187) none (.ref 88) .none)) ⟨[]⟩)) :: (nat_lit 90, (ob (.type "tuple") (.seq ⟨[(.str "place" 291)]⟩ 0))) :: (nat_lit 91, (ob (.type "dict") (.dict ⟨[(.mk (PyData.keyHash P "__module__") (.str "__module__" 278) (.str "farhail.errors" 187)),(.mk (PyData.keyHash P "__firstlineno__") (.str "__firstlineno__" 282) (.int 12 281)),(.mk (PyData.keyHash P "__init__") (.str "__init__" 290) (.ref 89)),(.mk (PyData.keyHash P "__static_attributes__") (.str "__static_attributes__" 292) (.ref 90)),(.mk (PyData.keyHash P "__doc__") (.str "__doc__" 293) .none)]⟩ 2))) :: (nat_lit 92, (.mk (.type "type") none (.cls (.mk "Apart" [(.ref 24)] [(.ref 92),(.ref 24),(.type "ValueError"),(.type "Exception"),(.type "BaseException"),(.type "object")] 91 "Apart" .true [] [] .false none .false)) ⟨[(some (.ref 76)),none,(some (.str "Apart" 271)),(some (.str "Apart" 279)),(some (.builtin "ValueError.__new__")),(some (.bool .true))]⟩)) :: (nat_lit 95, (ob (.type "tuple") (.seq ⟨[]⟩ 0))) :: (nat_lit 98, (ob (.type "code") (.fields ⟨[(.str "near_lists" 300),(.str "near_lists" 301),(.str "/claim/cut.py" 302),(.int 19 0),(.int 1 0),(.int 0 0),(.int 0 0),(.int 3 0),(.ref 95),(.bool .true),(.int 181 0),(.ref 96),.none,.none,.none,(.ref 97),(.int 303 0),(.int 19 0),(.str "/claim/cut.py" 304)]⟩))) :: (nat_lit 99, (fO (.type "function") "near_lists" (G.top 9) (.str "farhail.webs" 296) (.ref 98))) :: (nat_lit 100, (ob (.type "tuple") (.seq ⟨[]⟩ 0))) :: (nat_lit 102, (ob (.type "tuple") (.seq ⟨[(.str "near" 310),(.str "place" 311),(.str "found" 312),(.str "line" 313),(.str "at" 314),(.str "other" 315)]⟩ 0))) :: (nat_lit 103, (ob (.type "tuple") (.seq ⟨[]⟩ 0))) :: (nat_lit 105, (ob (.type "code") (.fields ⟨[(.str "fars_by" 307),(.str "fars_by" 308),(.str "/claim/cut.py" 309),(.int 26 0),(.int 2 0),(.int 0 0),(.int 0 0),(.int 3 0),(.ref 100),(.bool .true),(.int 181 0),(.ref 101),.none,(.ref 102),(.ref 103),(.ref 104),(.int 316 0),(.int 26 0),(.str "/claim/cut.py" 317)]⟩))) :: (nat_lit 106, (fO (.type "function") "fars_by" (G.top 11) (.str "farhail.webs" 296) (.ref 105))) :: (nat_lit 107, (ob (.type "tuple") (.seq ⟨[]⟩ 0))) :: (nat_lit 109, (ob (.type "tuple") (.seq ⟨[(.str "many" 322),(.str "ties" 323),(.str "found" 324),(.str "one" 325),(.str "other" 326),(.str "tie" 327)]⟩ 0))) :: (nat_lit 110, (ob (.type "tuple") (.seq ⟨[]⟩ 0))) :: (nat_lit 112, (ob (.type "code") (.fields ⟨[(.str "sorted_ties" 319),(.str "sorted_ties" 320),(.str "/claim/cut.py" 321),(.int 38 0),(.int 2 0),(.int 0 0),(.int 0 0),(.int 3 0),(.ref 107),(.bool .true),(.int 181 0),(.ref 108),.none,(.ref 109),(.ref 110),(.ref 111),(.int 328 0),(.int 38 0),(.str "/claim/cut.py" 329)]⟩))) :: (nat_lit 113, (fO (.type "function") "sorted_ties" (G.top 12) (.str "farhail.webs" 296) (.ref 112))) :: (nat_lit 114, (ob (.type "tuple") (.seq ⟨[]⟩ 0))) :: (nat_lit 116, (ob (.type "tuple") (.seq ⟨[(.str "many" 334),(.str "ties" 335),(.str "web" 336),(.str "fars" 337),(.str "place" 338)]⟩ 0))) :: (nat_lit 117, (ob (.type "tuple") (.seq ⟨[]⟩ 0))) :: (nat_lit 119, (ob (.type "code") (.fields ⟨[(.str "made_web" 331),(.str "made_web" 332),(.str "/claim/cut.py" 333),(.int 46 0),(.int 2 0),(.int 0 0),(.int 0 0),(.int 3 0),(.ref 114),(.bool .true),(.int 181 0),(.ref 115),.none,(.ref 116),(.ref 117),(.ref 118),(.int 339 0),(.int 46 0),(.str "/claim/cut.py" 340)]⟩))) :: (nat_lit 120, (fO (.type "function") "made_web" (G.top 13) (.str "farhail.webs" 296) (.ref 119))) :: (nat_lit 121, (ob (.type "tuple") (.seq ⟨[]⟩ 0))) :: (nat_lit 123, (ob (.type "tuple") (.seq ⟨[(.str "web" 345),(.str "place" 346)]⟩ 0))) :: (nat_lit 124, (ob (.type "tuple") (.seq ⟨[]⟩ 0))) :: (nat_lit 126, (ob (.type "code") (.fields ⟨[(.str "place_asked" 342),(.str "place_asked" 343),(.str "/claim/cut.py" 344),(.int 55 0),(.int 2 0),(.int 0 0),(.int 0 0),(.int 3 0),(.ref 121),(.bool .true),(.int 181 0),(.ref 122),.none,(.ref 123),(.ref 124),(.ref 125),(.int 347 0),(.int 55 0),(.str "/claim/cut.py" 348)]⟩))) :: (nat_lit 127, (fO (.type "function") "place_asked" (G.top 14) (.str "farhail.webs" 296) (.ref 126))) :: (nat_lit 128, (ob (.type "tuple") (.seq ⟨[]⟩ 0))) :: (nat_lit 130, (ob (.type "tuple") (.seq ⟨[(.str "web" 353),(.str "place" 354)]⟩ 0))) :: (nat_lit 131, (ob (.type "tuple") (.seq ⟨[]⟩ 0))) :: (nat_lit 133, (ob (.type "code") (.fields ⟨[(.str "neighbours_of" 350),(.str "neighbours_of" 351),(.str "/claim/cut.py" 352),(.int 58 0),(.int 2 0),(.int 0 0),(.int 0 0),(.int 3 0),(.ref 128),(.bool .true),(.int 181 0),(.ref 129),.none,(.ref 130),(.ref 131),(.ref 132),(.int 355 0),(.int 58 0),(.str "/claim/cut.py" 356)]⟩))) :: (nat_lit 134, (fO (.type "function") "neighbours_of" (G.top 15) (.str "farhail.webs" 296) (.ref 133))) :: (nat_lit 135, (ob (.type "tuple") (.seq ⟨[]⟩ 0))) :: (nat_lit 137, (ob (.type "tuple") (.seq ⟨[(.str "web" 361),(.str "place" 362)]⟩ 0))) :: (nat_lit 138, (ob (.type "tuple") (.seq ⟨[]⟩ 0))) :: (nat_lit 140, (ob (.type "code") (.fields ⟨[(.str "fars_from" 358),(.str "fars_from" 359),(.str "/claim/cut.py" 360),(.int 61 0),(.int 2 0),(.int 0 0),(.int 0 0),(.int 3 0),(.ref 135),(.bool .true),(.int 181 0),(.ref 136),.none,(.ref 137),(.ref 138),(.ref 139),(.int 363 0),(.int 61 0),(.str "/claim/cut.py" 364)]⟩))) :: (nat_lit 141, (fO (.type "function") "fars_from" (G.top 16) (.str "farhail.webs" 296) (.ref 140))) :: (nat_lit 142, (ob (.type "tuple") (.seq ⟨[]⟩ 0))) :: (nat_lit 145, (ob (.type "code") (.fields ⟨[(.str "table_of" 368),(.str "table_of" 369),(.str "/claim/cut.py" 370),(.int 65 0),(.int 1 0),(.int 0 0),(.int 0 0),(.int 3 0),(.ref 142),(.bool .true),(.int 181 0),(.ref 143),.none,.none,.none,(.ref 144),(.int 371 0),(.int 65 0),(.str "/claim/cut.py" 372)]⟩))) :: (nat_lit 146, (fO (.type "function") "table_of" (G.top 18) (.str "farhail.codes" 366) (.ref 145))) :: (nat_lit 147, (ob (.type "tuple") (.seq ⟨[]⟩ 0))) :: (nat_lit 149, (ob (.type "tuple") (.seq ⟨[(.str "web" 377),(.str "kind" 378),(.str "places" 379)]⟩ 0))) :: (nat_lit 150, (ob (.type "tuple") (.seq ⟨[]⟩ 0))) :: (nat_lit 152, (ob (.type "code") (.fields ⟨[(.str "things_of" 374),(.str "things_of" 375),(.str "/claim/cut.py" 376),(.int 67 0),(.int 2 0),(.int 0 0),(.int 0 0),(.int 3 0),(.ref 147),(.bool .true),(.int 181 0),(.ref 148),.none,(.ref 149),(.ref 150),(.ref 151),(.int 380 0),(.int 67 0),(.str "/claim/cut.py" 381)]⟩))) :: (nat_lit 153, (fO (.type "function") "things_of" (G.top 19) (.str "farhail.codes" 366) (.ref 152))) :: (nat_lit 154, (ob (.type "tuple") (.seq ⟨[]⟩ 0))) :: (nat_lit 156, (ob (.type "tuple") (.seq ⟨[(.str "web" 386),(.str "looks" 387),(.str "at" 388),(.str "look" 389)]⟩ 0))) :: (nat_lit 157, (ob (.type "tuple") (.seq ⟨[]⟩ 0))) :: (nat_lit 159, (ob (.type "code") (.fields ⟨[(.str "looks_asked" 383),(.str "looks_asked" 384),(.str "/claim/cut.py" 385),(.int 74 0),(.int 2 0),(.int 0 0),(.int 0 0),(.int 3 0),(.ref 154),(.bool .true),(.int 181 0),(.ref 155),.none,(.ref 156),(.ref 157),(.ref 158),(.int 390 0),(.int 74 0),(.str "/claim/cut.py" 391)]⟩))) :: (nat_lit 160, (fO (.type "function") "looks_asked" (G.top 20) (.str "farhail.codes" 366) (.ref 159))) :: (nat_lit 161, (ob (.type "tuple") (.seq ⟨[]⟩ 0))) :: (nat_lit 163, (ob (.type "tuple") (.seq ⟨[(.str "web" 396),(.str "thing" 397)]⟩ 0))) :: (nat_lit 164, (ob (.type "tuple") (.seq ⟨[]⟩ 0))) :: (nat_lit 166, (ob (.type "code") (.fields ⟨[(.str "thing_asked" 393),(.str "thing_asked" 394),(.str "/claim/cut.py" 395),(.int 78 0),(.int 2 0),(.int 0 0),(.int 0 0),(.int 3 0),(.ref 161),(.bool .true),(.int 181 0),(.ref 162),.none,(.ref 163),(.ref 164),(.ref 165),(.int 398 0),(.int 78 0),(.str "/claim/cut.py" 399)]⟩))) :: (nat_lit 167, (fO (.type "function") "thing_asked" (G.top 21) (.str "farhail.codes" 366) (.ref 166))) :: (nat_lit 168, (ob (.type "tuple") (.seq ⟨[]⟩ 0))) :: (nat_lit 170, (ob (.type "tuple") (.seq ⟨[(.str "table" 404),(.str "look" 405),(.str "thing" 406)]⟩ 0))) :: (nat_lit 171, (ob (.type "tuple") (.seq ⟨[]⟩ 0))) :: (nat_lit 173, (ob (.type "code") (.fields ⟨[(.str "far_by" 401),(.str "far_by" 402),(.str "/claim/cut.py" 403),(.int 84 0),(.int 3 0),(.int 0 0),(.int 0 0),(.int 3 0),(.ref 168),(.bool .true),(.int 181 0),(.ref 169),.none,(.ref 170),(.ref 171),(.ref 172),(.int 407 0),(.int 84 0),(.str "/claim/cut.py" 408)]⟩))) :: (nat_lit 174, (fO (.type "function") "far_by" (G.top 22) (.str "farhail.codes" 366) (.ref 173))) :: (nat_lit 175, (ob (.type "tuple") (.seq ⟨[]⟩ 0))) :: (nat_lit 178, (ob (.type "code") (.fields ⟨[(.str "parters_by" 411),(.str "parters_by" 412),(.str "/claim/cut.py" 413),(.int 89 0),(.int 3 0),(.int 0 0),(.int 0 0),(.int 3 0),(.ref 175),(.bool .true),(.int 181 0),(.ref 176),.none,.none,.none,(.ref 177),(.int 414 0),(.int 89 0),(.str "/claim/cut.py" 415)]⟩))) :: (nat_lit 179, (fO (.type "function") "parters_by" (G.top 24) (.str "farhail.codes" 366) (.ref 178))) :: (nat_lit 180, (ob (.type "tuple") (.seq ⟨[]⟩ 0))) :: (nat_lit 183, (ob (.type "code") (.fields ⟨[(.str "code_of" 417),(.str "code_of" 418),(.str "/claim/cut.py" 419),(.int 91 0),(.int 3 0),(.int 0 0),(.int 0 0),(.int 3 0),(.ref 180),(.bool .true),(.int 181 0),(.ref 181),.none,.none,.none,(.ref 182),(.int 420 0),(.int 91 0),(.str "/claim/cut.py" 421)]⟩))) :: (nat_lit 184, (fO (.type "function") "code_of" (G.top 25) (.str "farhail.codes" 366) (.ref 183))) :: (nat_lit 185, (ob (.type "tuple") (.seq ⟨[]⟩ 0))) :: (nat_lit 187, (ob (.type "tuple") (.seq ⟨[(.str "web" 426),(.str "one" 427),(.str "other" 428)]⟩ 0))) :: (nat_lit 188, (ob (.type "tuple") (.seq ⟨[]⟩ 0))) :: (nat_lit 190, (ob (.type "code") (.fields ⟨[(.str "parters_of" 423),(.str "parters_of" 424),(.str "/claim/cut.py" 425),(.int 96 0),(.int 3 0),(.int 0 0),(.int 0 0),(.int 3 0),(.ref 185),(.bool .true),(.int 181 0),(.ref 186),.none,(.ref 187),(.ref 188),(.ref 189),(.int 429 0),(.int 96 0),(.str "/claim/cut.py" 430)]⟩))) :: (nat_lit 191, (fO (.type "function") "parters_of" (G.top 26) (.str "farhail.codes" 366) (.ref 190))) :: (nat_lit 192, (ob (.type "tuple") (.seq ⟨[]⟩ 0))) :: (nat_lit 195, (ob (.type "code") (.fields ⟨[(.str "by_code" 432),(.str "by_code" 433),(.str "/claim/cut.py" 434),(.int 100 0),(.int 3 0),(.int 0 0),(.int 0 0),(.int 3 0),(.ref 192),(.bool .true),(.int 181 0),(.ref 193),.none,.none,.none,(.ref 194),(.int 435 0),(.int 100 0),(.str "/claim/cut.py" 436)]⟩))) :: (nat_lit 196, (fO (.type "function") "by_code" (G.top 27) (.str "farhail.codes" 366) (.ref 195))) :: (nat_lit 197, (ob (.type "tuple") (.seq ⟨[]⟩ 0))) :: (nat_lit 200, (ob (.type "code") (.fields ⟨[(.str "likes_by" 438),(.str "likes_by" 439),(.str "/claim/cut.py" 440),(.int 109 0),(.int 3 0),(.int 0 0),(.int 0 0),(.int 3 0),(.ref 197),(.bool .true),(.int 181 0),(.ref 198),.none,.none,.none,(.ref 199),(.int 441 0),(.int 109 0),(.str "/claim/cut.py" 442)]⟩))) :: (nat_lit 201, (fO (.type "function") "likes_by" (G.top 28) (.str "farhail.codes" 366) (.ref 200))) :: (nat_lit 202, (ob (.type "tuple") (.seq ⟨[]⟩ 0))) :: (nat_lit 205, (ob (.type "code") (.fields ⟨[(.str "near_lists" 446),(.str "near_lists" 447),(.str "/claim/cut.py" 448),(.int 113 0),(.int 1 0),(.int 0 0),(.int 0 0),(.int 3 0),(.ref 202),(.bool .true),(.int 181 0),(.ref 203),.none,.none,.none,(.ref 204),(.int 449 0),(.int 113 0),(.str "/claim/cut.py" 450)]⟩))) :: (nat_lit 206, (fO (.type "function") "near_lists" (G.top 30) (.str "farhail.floors" 444) (.ref 205))) :: (nat_lit 207, (ob (.type "tuple") (.seq ⟨[]⟩ 0))) :: (nat_lit 209, (ob (.type "tuple") (.seq ⟨[(.str "fars" 456),(.str "thing" 457)]⟩ 0))) :: (nat_lit 210, (ob (.type "tuple") (.seq ⟨[]⟩ 0))) :: (nat_lit 212, (ob (.type "code") (.fields ⟨[(.str "far_by" 453),(.str "far_by" 454),(.str "/claim/cut.py" 455),(.int 116 0),(.int 2 0),(.int 0 0),(.int 0 0),(.int 3 0),(.ref 207),(.bool .true),(.int 181 0),(.ref 208),.none,(.ref 209),(.ref 210),(.ref 211),(.int 458 0),(.int 116 0),(.str "/claim/cut.py" 459)]⟩))) :: (nat_lit 213, (fO (.type "function") "far_by" (G.top 32) (.str "farhail.floors" 444) (.ref 212))) :: (nat_lit 214, (ob (.type "tuple") (.seq ⟨[]⟩ 0))) :: (nat_lit 217, (ob (.type "code") (.fields ⟨[(.str "are_twins" 462),(.str "are_twins" 463),(.str "/claim/cut.py" 464),(.int 121 0),(.int 3 0),(.int 0 0),(.int 0 0),(.int 3 0),(.ref 214),(.bool .true),(.int 181 0),(.ref 215),.none,.none,.none,(.ref 216),(.int 465 0),(.int 121 0),(.str "/claim/cut.py" 466)]⟩))) :: (nat_lit 218, (fO (.type "function") "are_twins" (G.top 34) (.str "farhail.floors" 444) (.ref 217))) :: (nat_lit 219, (ob (.type "tuple") (.seq ⟨[]⟩ 0))) :: (nat_lit 222, (ob (.type "code") (.fields ⟨[(.str "twins_of" 468),(.str "twins_of" 469),(.str "/claim/cut.py" 470),(.int 123 0),(.int 1 0),(.int 0 0),(.int 0 0),(.int 3 0),(.ref 219),(.bool .true),(.int 181 0),(.ref 220),.none,.none,.none,(.ref 221),(.int 471 0),(.int 123 0),(.str "/claim/cut.py" 472)]⟩))) :: (nat_lit 223, (fO (.type "function") "twins_of" (G.top 35) (.str "farhail.floors" 444) (.ref 222))) :: (nat_lit 224, (ob (.type "tuple") (.seq ⟨[]⟩ 0))) :: (nat_lit 227, (ob (.type "code") (.fields ⟨[(.str "is_lot" 474),(.str "is_lot" 475),(.str "/claim/cut.py" 476),(.int 134 0),(.int 3 0),(.int 0 0),(.int 0 0),(.int 3 0),(.ref 224),(.bool .true),(.int 181 0),(.ref 225),.none,.none,.none,(.ref 226),(.int 477 0),(.int 134 0),(.str "/claim/cut.py" 478)]⟩))) :: (nat_lit 228, (fO (.type "function") "is_lot" (G.top 36) (.str "farhail.floors" 444) (.ref 227))) :: (nat_lit 229, (ob (.type "tuple") (.seq ⟨[]⟩ 0))) :: (nat_lit 232, (ob (.type "code") (.fields ⟨[(.str "lot_parters" 480),(.str "lot_parters" 481),(.str "/claim/cut.py" 482),(.int 144 0),(.int 2 0),(.int 0 0),(.int 0 0),(.int 3 0),(.ref 229),(.bool .true),(.int 181 0),(.ref 230),.none,.none,.none,(.ref 231),(.int 483 0),(.int 144 0),(.str "/claim/cut.py" 484)]⟩))) :: (nat_lit 233, (fO (.type "function") "lot_parters" (G.top 37) (.str "farhail.floors" 444) (.ref 232))) :: (nat_lit 234, (ob (.type "tuple") (.seq ⟨[]⟩ 0))) :: (nat_lit 237, (ob (.type "code") (.fields ⟨[(.str "floor_height" 486),(.str "floor_height" 487),(.str "/claim/cut.py" 488),(.int 146 0),(.int 3 0),(.int 0 0),(.int 0 0),(.int 3 0),(.ref 234),(.bool .true),(.int 181 0),(.ref 235),.none,.none,.none,(.ref 236),(.int 489 0),(.int 146 0),(.str "/claim/cut.py" 490)]⟩))) :: (nat_lit 238, (fO (.type "function") "floor_height" (G.top 38) (.str "farhail.floors" 444) (.ref 237))) :: (nat_lit 239, (ob (.type "tuple") (.seq ⟨[]⟩ 0))) :: (nat_lit 241, (ob (.type "tuple") (.seq ⟨[(.str "cell" 497),(.str "k" 498),(.str "mark" 499),(.str "found" 500),(.str "turn" 501)]⟩ 0))) :: (nat_lit 242, (ob (.type "tuple") (.seq ⟨[]⟩ 0))) :: (nat_lit 244, (ob (.type "code") (.fields ⟨[(.str "_law_pot" 494),(.str "_law_pot" 495),(.str "/claim/cut.py" 496),(.int 160 0),(.int 2 0),(.int 0 0),(.int 0 0),(.int 3 0),(.ref 239),(.bool .true),(.int 181 0),(.ref 240),.none,(.ref 241),(.ref 242),(.ref 243),(.int 502 0),(.int 160 0),(.str "/claim/cut.py" 503)]⟩))) :: (nat_lit 245, (fO (.type "function") "_law_pot" (G.top 40) (.str "law_farhail_k17_whole_webs_numbered_otherwis" 492) (.ref 244))) :: (nat_lit 246, (ob (.type "tuple") (.seq ⟨[]⟩ 0))) :: (nat_lit 248, (ob (.type "tuple") (.seq ⟨[(.str "pot" 508),(.str "many" 509),(.str "found" 510)]⟩ 0))) :: (nat_lit 249, (ob (.type "tuple") (.seq ⟨[]⟩ 0))) :: (nat_lit 251, (ob (.type "code") (.fields ⟨[(.str "_law_take" 505),(.str "_law_take" 506),(.str "/claim/cut.py" 507),(.int 169 0),(.int 2 0),(.int 0 0),(.int 0 0),(.int 3 0),(.ref 246),(.bool .true),(.int 181 0),(.ref 247),.none,(.ref 248),(.ref 249),(.ref 250),(.int 511 0),(.int 169 0),(.str "/claim/cut.py" 512)]⟩))) :: (nat_lit 252, (fO (.type "function") "_law_take" (G.top 41) (.str "law_farhail_k17_whole_webs_numbered_otherwis" 492) (.ref 251))) :: (nat_lit 253, (ob (.type "tuple") (.seq ⟨[]⟩ 0))) :: (nat_lit 255, (ob (.type "tuple") (.seq ⟨[(.str "script" 517),(.str "many" 518),(.str "found" 519),(.str "k" 520),(.str "cell" 521)]⟩ 0))) :: (nat_lit 256, (ob (.type "tuple") (.seq ⟨[]⟩ 0))) :: (nat_lit 258, (ob (.type "code") (.fields ⟨[(.str "_law_folded" 514),(.str "_law_folded" 515),(.str "/claim/cut.py" 516),(.int 175 0),(.int 2 0),(.int 0 0),(.int 0 0),(.int 3 0),(.ref 253),(.bool .true),(.int 181 0),(.ref 254),.none,(.ref 255),(.ref 256),(.ref 257),(.int 522 0),(.int 175 0),(.str "/claim/cut.py" 523)]⟩))) :: (nat_lit 259, (fO (.type "function") "_law_folded" (G.top 42) (.str "law_farhail_k17_whole_webs_numbered_otherwis" 492) (.ref 258))) :: (nat_lit 260, (ob (.type "tuple") (.seq ⟨[]⟩ 0))) :: (nat_lit 262, (ob (.type "tuple") (.seq ⟨[(.str "script" 528),(.str "most" 529)]⟩ 0))) :: (nat_lit 263, (ob (.type "tuple") (.seq ⟨[]⟩ 0))) :: (nat_lit 265, (ob (.type "code") (.fields ⟨[(.str "_law_cells" 525),(.str "_law_cells" 526),(.str "/claim/cut.py" 527),(.int 180 0),(.int 2 0),(.int 0 0),(.int 0 0),(.int 3 0),(.ref 260),(.bool .true),(.int 181 0),(.ref 261),.none,(.ref 262),(.ref 263),(.ref 264),(.int 530 0),(.int 180 0),(.str "/claim/cut.py" 531)]⟩))) :: (nat_lit 266, (fO (.type "function") "_law_cells" (G.top 43) (.str "law_farhail_k17_whole_webs_numbered_otherwis" 492) (.ref 265))) :: (nat_lit 267, (ob (.type "tuple") (.seq ⟨[]⟩ 0))) :: (nat_lit 270, (ob (.type "code") (.fields ⟨[(.str "_law_ties" 533),(.str "_law_ties" 534),(.str "/claim/cut.py" 535),(.int 184 0),(.int 2 0),(.int 0 0),(.int 0 0),(.int 3 0),(.ref 267),(.bool .true),(.int 181 0),(.ref 268),.none,.none,.none,(.ref 269),(.int 536 0),(.int 184 0),(.str "/claim/cut.py" 537)]⟩))) :: (nat_lit 271, (fO (.type "function") "_law_ties" (G.top 44) (.str "law_farhail_k17_whole_webs_numbered_otherwis" 492) (.ref 270))) :: (nat_lit 272, (ob (.type "tuple") (.seq ⟨[]⟩ 0))) :: (nat_lit 275, (ob (.type "code") (.fields ⟨[(.str "_law_bunches" 539),(.str "_law_bunches" 540),(.str "/claim/cut.py" 541),(.int 209 0),(.int 2 0),(.int 0 0),(.int 0 0),(.int 3 0),(.ref 272),(.bool .true),(.int 181 0),(.ref 273),.none,.none,.none,(.ref 274),(.int 542 0),(.int 209 0),(.str "/claim/cut.py" 543)]⟩))) :: (nat_lit 276, (fO (.type "function") "_law_bunches" (G.top 45) (.str "law_farhail_k17_whole_webs_numbered_otherwis" 492) (.ref 275))) :: (nat_lit 277, (ob (.type "tuple") (.seq ⟨[]⟩ 0))) :: (nat_lit 280, (ob (.type "code") (.fields ⟨[(.str "_law_order" 545),(.str "_law_order" 546),(.str "/claim/cut.py" 547),(.int 226 0),(.int 2 0),(.int 0 0),(.int 0 0),(.int 3 0),(.ref 277),(.bool .true),(.int 181 0),(.ref 278),.none,.none,.none,(.ref 279),(.int 548 0),(.int 226 0),(.str "/claim/cut.py" 549)]⟩))) :: (nat_lit 281, (fO (.type "function") "_law_order" (G.top 46) (.str "law_farhail_k17_whole_webs_numbered_otherwis" 492) (.ref 280))) :: (nat_lit 282, (ob (.type "tuple") (.seq ⟨[]⟩ 0))) :: (nat_lit 284, (ob (.type "tuple") (.seq ⟨[(.str "pot" 554),(.str "most" 555),(.str "many" 556),(.str "order" 557),(.str "found" 558),(.str "one" 559),(.str "other" 560)]⟩ 0))) :: (nat_lit 285, (ob (.type "tuple") (.seq ⟨[]⟩ 0))) :: (nat_lit 287, (ob (.type "code") (.fields ⟨[(.str "_law_web" 551),(.str "_law_web" 552),(.str "/claim/cut.py" 553),(.int 229 0),(.int 2 0),(.int 0 0),(.int 0 0),(.int 3 0),(.ref 282),(.bool .true),(.int 181 0),(.ref 283),.none,(.ref 284),(.ref 285),(.ref 286),(.int 561 0),(.int 229 0),(.str "/claim/cut.py" 562)]⟩))) :: (nat_lit 288, (fO (.type "function") "_law_web" (G.top 47) (.str "law_farhail_k17_whole_webs_numbered_otherwis" 492) (.ref 287))) :: (nat_lit 289, (ob (.type "tuple") (.seq ⟨[]⟩ 0))) :: (nat_lit 292, (ob (.type "code") (.fields ⟨[(.str "_law_some" 564),(.str "_law_some" 565),(.str "/claim/cut.py" 566),(.int 238 0),(.int 2 0),(.int 0 0),(.int 0 0),(.int 3 0),(.ref 289),(.bool .true),(.int 181 0),(.ref 290),.none,.none,.none,(.ref 291),(.int 567 0),(.int 238 0),(.str "/claim/cut.py" 568)]⟩))) :: (nat_lit 293, (fO (.type "function") "_law_some" (G.top 48) (.str "law_farhail_k17_whole_webs_numbered_otherwis" 492) (.ref 292))) :: (nat_lit 294, (ob (.type "tuple") (.seq ⟨[]⟩ 0))) :: (nat_lit 296, (ob (.type "tuple") (.seq ⟨[(.str "pot" 573)]⟩ 0))) :: (nat_lit 297, (ob (.type "tuple") (.seq ⟨[]⟩ 0))) :: (nat_lit 299, (ob (.type "code") (.fields ⟨[(.str "_law_kind" 570),(.str "_law_kind" 571),(.str "/claim/cut.py" 572),(.int 241 0),(.int 1 0),(.int 0 0),(.int 0 0),(.int 3 0),(.ref 294),(.bool .true),(.int 181 0),(.ref 295),.none,(.ref 296),(.ref 297),(.ref 298),(.int 574 0),(.int 241 0),(.str "/claim/cut.py" 575)]⟩))) :: (nat_lit 300, (fO (.type "function") "_law_kind" (G.top 49) (.str "law_farhail_k17_whole_webs_numbered_otherwis" 492) (.ref 299))) :: (nat_lit 301, (ob (.type "tuple") (.seq ⟨[]⟩ 0))) :: (nat_lit 303, (ob (.type "tuple") (.seq ⟨[(.str "order" 580),(.str "thing" 581),(.str "ends" 582)]⟩ 0))) :: (nat_lit 304, (ob (.type "tuple") (.seq ⟨[]⟩ 0))) :: (nat_lit 306, (ob (.type "code") (.fields ⟨[(.str "_law_moved" 577),(.str "_law_moved" 578),(.str "/claim/cut.py" 579),(.int 243 0),(.int 2 0),(.int 0 0),(.int 0 0),(.int 3 0),(.ref 301),(.bool .true),(.int 181 0),(.ref 302),.none,(.ref 303),(.ref 304),(.ref 305),(.int 583 0),(.int 243 0),(.str "/claim/cut.py" 584)]⟩))) :: (nat_lit 307, (fO (.type "function") "_law_moved" (G.top 50) (.str "law_farhail_k17_whole_webs_numbered_otherwis" 492) (.ref 306))) :: (nat_lit 308, (ob (.type "tuple") (.seq ⟨[]⟩ 0))) :: (nat_lit 311, (ob (.type "code") (.fields ⟨[(.str "_law_gathered" 586),(.str "_law_gathered" 587),(.str "/claim/cut.py" 588),(.int 248 0),(.int 1 0),(.int 0 0),(.int 0 0),(.int 3 0),(.ref 308),(.bool .true),(.int 181 0),(.ref 309),.none,.none,.none,(.ref 310),(.int 589 0),(.int 248 0),(.str "/claim/cut.py" 590)]⟩))) :: (nat_lit 312, (fO (.type "function") "_law_gathered" (G.top 51) (.str "law_farhail_k17_whole_webs_numbered_otherwis" 492) (.ref 311))) :: (nat_lit 313, (ob (.type "tuple") (.seq ⟨[]⟩ 0))) :: (nat_lit 316, (ob (.type "code") (.fields ⟨[(.str "_law_rows_moved" 592),(.str "_law_rows_moved" 593),(.str "/claim/cut.py" 594),(.int 250 0),(.int 2 0),(.int 0 0),(.int 0 0),(.int 3 0),(.ref 313),(.bool .true),(.int 181 0),(.ref 314),.none,.none,.none,(.ref 315),(.int 595 0),(.int 250 0),(.str "/claim/cut.py" 596)]⟩))) :: (nat_lit 317, (fO (.type "function") "_law_rows_moved" (G.top 52) (.str "law_farhail_k17_whole_webs_numbered_otherwis" 492) (.ref 316))) :: (nat_lit 318, (ob (.type "tuple") (.seq ⟨[]⟩ 0))) :: (nat_lit 321, (ob (.type "code") (.fields ⟨[(.str "_law_same_places" 598),(.str "_law_same_places" 599),(.str "/claim/cut.py" 600),(.int 252 0),(.int 3 0),(.int 0 0),(.int 0 0),(.int 3 0),(.ref 318),(.bool .true),(.int 181 0),(.ref 319),.none,.none,.none,(.ref 320),(.int 601 0),(.int 252 0),(.str "/claim/cut.py" 602)]⟩))) :: (nat_lit 322, (fO (.type "function") "_law_same_places" (G.top 53) (.str "law_farhail_k17_whole_webs_numbered_otherwis" 492) (.ref 321))) :: (nat_lit 323, (ob (.type "tuple") (.seq ⟨[]⟩ 0))) :: (nat_lit 326, (ob (.type "code") (.fields ⟨[(.str "_law_same_things" 604),(.str "_law_same_things" 605),(.str "/claim/cut.py" 606),(.int 260 0),(.int 5 0),(.int 0 0),(.int 0 0),(.int 3 0),(.ref 323),(.bool .true),(.int 181 0),(.ref 324),.none,.none,.none,(.ref 325),(.int 607 0),(.int 260 0),(.str "/claim/cut.py" 608)]⟩))) :: (nat_lit 327, (fO (.type "function") "_law_same_things" (G.top 54) (.str "law_farhail_k17_whole_webs_numbered_otherwis" 492) (.ref 326))) :: (nat_lit 328, (ob (.type "tuple") (.seq ⟨[]⟩ 0))) :: (nat_lit 330, (ob (.type "tuple") (.seq ⟨[(.str "script" 613),(.str "k" 614),(.str "cell" 615),(.str "pot" 616),(.str "web" 617),(.str "order" 618),(.str "ties" 619),(.str "tie" 620),(.str "other" 621),(.str "kind" 622)]⟩ 0))) :: (nat_lit 331, (ob (.type "tuple") (.seq ⟨[]⟩ 0))) :: (nat_lit 333, (ob (.type "code") (.fields ⟨[(.str "law" 610),(.str "law" 611),(.str "/claim/cut.py" 612),(.int 279 0),(.int 1 0),(.int 0 0),(.int 0 0),(.int 3 0),(.ref 328),(.bool .true),(.int 181 0),(.ref 329),.none,(.ref 330),(.ref 331),(.ref 332),(.int 623 0),(.int 279 0),(.str "/claim/cut.py" 624)]⟩))) :: (nat_lit 334, (fO (.type "function") "law" (G.top 55) (.str "law_farhail_k17_whole_webs_numbered_otherwis" 492) (.ref 333))) :: []
noncomputable abbrev as : List PySem.Addr := nat_lit 2 :: nat_lit 3 :: nat_lit 15 :: nat_lit 22 :: nat_lit 23 :: nat_lit 24 :: nat_lit 25 :: nat_lit 28 :: nat_lit 35 :: nat_lit 36 :: nat_lit 37 :: nat_lit 40 :: nat_lit 47 :: nat_lit 48 :: nat_lit 49 :: nat_lit 52 :: nat_lit 59 :: nat_lit 60 :: nat_lit 61 :: nat_lit 64 :: nat_lit 71 :: nat_lit 72 :: nat_lit 73 :: nat_lit 76 :: nat_lit 83 :: nat_lit 85 :: nat_lit 86 :: nat_lit 88 :: nat_lit 89 :: nat_lit 90 :: nat_lit 91 :: nat_lit 92 :: nat_lit 95 :: nat_lit 98 :: nat_lit 99 :: nat_lit 100 :: nat_lit 102 :: nat_lit 103 :: nat_lit 105 :: nat_lit 106 :: nat_lit 107 :: nat_lit 109 :: nat_lit 110 :: nat_lit 112 :: nat_lit 113 :: nat_lit 114 :: nat_lit 116 :: nat_lit 117 :: nat_lit 119 :: nat_lit 120 :: nat_lit 121 :: nat_lit 123 :: nat_lit 124 :: nat_lit 126 :: nat_lit 127 :: nat_lit 128 :: nat_lit 130 :: nat_lit 131 :: nat_lit 133 :: nat_lit 134 :: nat_lit 135 :: nat_lit 137 :: nat_lit 138 :: nat_lit 140 :: nat_lit 141 :: nat_lit 142 :: nat_lit 145 :: nat_lit 146 :: nat_lit 147 :: nat_lit 149 :: nat_lit 150 :: nat_lit 152 :: nat_lit 153 :: nat_lit 154 :: nat_lit 156 :: nat_lit 157 :: nat_lit 159 :: nat_lit 160 :: nat_lit 161 :: nat_lit 163 :: nat_lit 164 :: nat_lit 166 :: nat_lit 167 :: nat_lit 168 :: nat_lit 170 :: nat_lit 171 :: nat_lit 173 :: nat_lit 174 :: nat_lit 175 :: nat_lit 178 :: nat_lit 179 :: nat_lit 180 :: nat_lit 183 :: nat_lit 184 :: nat_lit 185 :: nat_lit 187 :: nat_lit 188 :: nat_lit 190 :: nat_lit 191 :: nat_lit 192 :: nat_lit 195 :: nat_lit 196 :: nat_lit 197 :: nat_lit 200 :: nat_lit 201 :: nat_lit 202 :: nat_lit 205 :: nat_lit 206 :: nat_lit 207 :: nat_lit 209 :: nat_lit 210 :: nat_lit 212 :: nat_lit 213 :: nat_lit 214 :: nat_lit 217 :: nat_lit 218 :: nat_lit 219 :: nat_lit 222 :: nat_lit 223 :: nat_lit 224 :: nat_lit 227 :: nat_lit 228 :: nat_lit 229 :: nat_lit 232 :: nat_lit 233 :: nat_lit 234 :: nat_lit 237 :: nat_lit 238 :: nat_lit 239 :: nat_lit 241 :: nat_lit 242 :: nat_lit 244 :: nat_lit 245 :: nat_lit 246 :: nat_lit 248 :: nat_lit 249 :: nat_lit 251 :: nat_lit 252 :: nat_lit 253 :: nat_lit 255 :: nat_lit 256 :: nat_lit 258 :: nat_lit 259 :: nat_lit 260 :: nat_lit 262 :: nat_lit 263 :: nat_lit 265 :: nat_lit 266 :: nat_lit 267 :: nat_lit 270 :: nat_lit 271 :: nat_lit 272 :: nat_lit 275 :: nat_lit 276 :: nat_lit 277 :: nat_lit 280 :: nat_lit 281 :: nat_lit 282 :: nat_lit 284 :: nat_lit 285 :: nat_lit 287 :: nat_lit 288 :: nat_lit 289 :: nat_lit 292 :: nat_lit 293 :: nat_lit 294 :: nat_lit 296 :: nat_lit 297 :: nat_lit 299 :: nat_lit 300 :: nat_lit 301 :: nat_lit 303 :: nat_lit 304 :: nat_lit 306 :: nat_lit 307 :: nat_lit 308 :: nat_lit 311 :: nat_lit 312 :: nat_lit 313 :: nat_lit 316 :: nat_lit 317 :: nat_lit 318 :: nat_lit 321 :: nat_lit 322 :: nat_lit 323 :: nat_lit 326 :: nat_lit 327 :: nat_lit 328 :: nat_lit 330 :: nat_lit 331 :: nat_lit 333 :: nat_lit 334 :: []
noncomputable def view : PySem.Program := { PySem.Challenge.pw_farhail_k17_whole_webs_numbered_otherwis with main := { PySem.Challenge.pw_farhail_k17_whole_webs_numbered_otherwis.main with body := [G.top 55] } }
noncomputable def loose : List PySem.Str := [a1, a3, a4, a5, a6, a7, a8, a9, a10, a11, a12, a13, a14, a15, a16, a17, a18, a19, a20, a21, a22, a23, a24, a25, a26, a27, a28, a29, a30, a31, a32, a33, a34, a35, a36, a37, a38, a39, a40, a41, a42, a43, a44, a45, a46, a47, a48, a49]
noncomputable def the : PySem.DefRec := ⟨"law", L2.defArgs (G.top 55), L2.defBody (G.top 55), L2.defScope (G.top 55), (.mk 279 0 293 15)⟩
noncomputable abbrev N : Nat := 5192
theorem as_eq : ∀ P, as = (K P).map (·.1) := fun P => by kernel_rfl
noncomputable abbrev hook : PySem.W.Hook := PySem.W.kHook K as as_eq
noncomputable abbrev Xt : PySem.Shared → Bool := fun s => PySem.W.xlAt view [] s && PySem.W.recOk PySem.Challenge.rw_farhail_k17_whole_webs_numbered_otherwis.row.toRowW.records s
noncomputable abbrev mods := PySem.importedModules PySem.Challenge.pw_farhail_k17_whole_webs_numbered_otherwis.main.body
theorem look1 (w : PySem.World) : (fun os : PySem.OsState => PySem.W.staticsOk mods (PySem.W.boot_heap w.params) (hF w.params) && PySem.W.namesBound PySem.Challenge.pw_farhail_k17_whole_webs_numbered_otherwis (hF w.params) && PySem.W.gensDone (SF w os) && PySem.W.laidKept (PySem.W.boot_heap w.params) (hF w.params)) = fun _ => true := by kernel_rfl
theorem look3 (w : PySem.World) : (fun os => hook.obs (SF w os)) = fun _ => hook.val w := by kernel_rfl
theorem look2 (w : PySem.World) : (fun os => PySem.W.openSeen view loose mods Xt true (SF w os)) = fun _ => PySem.W.openGood view loose := by kernel_rfl
theorem left : PySem.W.LeftO PySem.Challenge.rw_farhail_k17_whole_webs_numbered_otherwis.row.toRowW.prog view loose Xt hook.obs hook.val N :=
  PySem.W.LeftO.of_pieces opens size run (by decide +kernel) fun w => funext fun os => Prod.ext (congrFun (look1 w) os) (Prod.ext (congrFun (look2 w) os) (congrFun (look3 w) os))
open PySem PySem.W PyProof.Rows in
set_option maxHeartbeats 0 in
theorem whole (hc : WalkO view loose (XL view []) (PySem.W.kHook K as as_eq).says PySem.Challenge.rw_farhail_k17_whole_webs_numbered_otherwis.row.toRowW the [] (fun f vs => PySem.call f vs)) : PySem.Challenge.rw_farhail_k17_whole_webs_numbered_otherwis.Holds := by
  w_on; o_law
  refine PySem.W.holds_open (r := PySem.Challenge.rw_farhail_k17_whole_webs_numbered_otherwis.row) (q := view) (loose := loose) (Xt := Xt) (XP := PySem.W.XL view []) (Yf := hook.obs) (Ya := hook.val) (YP := hook.says) (d := the) (kwd := []) (N := N) left hook.of hook.keeps (fun s e => xl_of s (Bool.and_eq_true_iff.mp e).1) XL.keeps (by kernel_rfl) (by kernel_rfl) (by kernel_rfl) (fun s e => recFacts_of (Bool.and_eq_true_iff.mp e).2) (by rfl) (by first | assumption | decide +kernel) (by decide +kernel) ⟨rfl, rfl, rfl, rfl, rfl, by decide +kernel⟩ ?hw hc
  case hw => w_witness2
end HD
namespace G
open PySem L2 Z
open Rep (rep)
theorem us1 : ∀ {us : List Value}, us.length = 1 → ∃ a0, us = [a0]
  | [a0], _ => ⟨a0, rfl⟩
theorem us2 : ∀ {us : List Value}, us.length = 2 → ∃ a0 a1, us = [a0, a1]
  | [a0, a1], _ => ⟨a0, a1, rfl⟩
theorem us3 : ∀ {us : List Value}, us.length = 3 → ∃ a0 a1 a2, us = [a0, a1, a2]
  | [a0, a1, a2], _ => ⟨a0, a1, a2, rfl⟩
theorem us5 : ∀ {us : List Value}, us.length = 5 → ∃ a0 a1 a2 a3 a4, us = [a0, a1, a2, a3, a4]
  | [a0, a1, a2, a3, a4], _ => ⟨a0, a1, a2, a3, a4, rfl⟩
theorem dn_mk {K : Fg} {h : Heap} {mg : Str → Option Value} (X : K.In h) (G : h.Ns mainGlobals mg) {x y : Str} {st : Stmt} {ps : List Str} {f : Addr} {od an : Option Addr} {sl : Array (Option Value)} {oc kV dc pm cd ct : Value}
    (a : PySem.W.nsIn K mainGlobals x = some (some (.ref f))) (l : K.lookup f = some ⟨oc, od, .func (PySem.W.fnOf y y (defArgs st) (defBody st) (defScope st) .none kV dc pm an cd ct), sl⟩) (c : PySem.W.codeIn K cd y = true) (k : PySem.W.keepIn K (.ref f) = true)
    (b : ∀ (kV doc pm : Value) (an : Option Addr) (cdv ct : Value) (us : List Value), us.length = ps.length → bindArgs (PySem.W.fnOf y y (defArgs st) (defBody st) (defScope st) .none kV doc pm an cdv ct) ⟨us, []⟩ = pure (ps.zip us)) :
    Dn K mg x y st ps f (PySem.W.fnOf y y (defArgs st) (defBody st) (defScope st) .none kV dc pm an cd ct) := ⟨fun_mk l c k, PySem.W.mg_of X G a, (fun_mk l c k).binds b⟩
theorem all_mk {l : PySem.W.OpenLaw} {w : World} {K : PySem.W.Frag} {h : Heap} {mg : Str → Option Value} {fa : Addr} (X : K.In h) (G : h.Ns mainGlobals mg) (hfa : mg "law" = some (.ref fa))
    {f9 : Addr} {od9 an9 : Option Addr} {sl9 : Array (Option Value)} {oc9 kV9 dc9 pm9 cd9 ct9 : Value}
    {f11 : Addr} {od11 an11 : Option Addr} {sl11 : Array (Option Value)} {oc11 kV11 dc11 pm11 cd11 ct11 : Value}
    {f12 : Addr} {od12 an12 : Option Addr} {sl12 : Array (Option Value)} {oc12 kV12 dc12 pm12 cd12 ct12 : Value}
    {f13 : Addr} {od13 an13 : Option Addr} {sl13 : Array (Option Value)} {oc13 kV13 dc13 pm13 cd13 ct13 : Value}
    {f14 : Addr} {od14 an14 : Option Addr} {sl14 : Array (Option Value)} {oc14 kV14 dc14 pm14 cd14 ct14 : Value}
    {f15 : Addr} {od15 an15 : Option Addr} {sl15 : Array (Option Value)} {oc15 kV15 dc15 pm15 cd15 ct15 : Value}
    {f16 : Addr} {od16 an16 : Option Addr} {sl16 : Array (Option Value)} {oc16 kV16 dc16 pm16 cd16 ct16 : Value}
    {f18 : Addr} {od18 an18 : Option Addr} {sl18 : Array (Option Value)} {oc18 kV18 dc18 pm18 cd18 ct18 : Value}
    {f19 : Addr} {od19 an19 : Option Addr} {sl19 : Array (Option Value)} {oc19 kV19 dc19 pm19 cd19 ct19 : Value}
    {f20 : Addr} {od20 an20 : Option Addr} {sl20 : Array (Option Value)} {oc20 kV20 dc20 pm20 cd20 ct20 : Value}
    {f21 : Addr} {od21 an21 : Option Addr} {sl21 : Array (Option Value)} {oc21 kV21 dc21 pm21 cd21 ct21 : Value}
    {f22 : Addr} {od22 an22 : Option Addr} {sl22 : Array (Option Value)} {oc22 kV22 dc22 pm22 cd22 ct22 : Value}
    {f24 : Addr} {od24 an24 : Option Addr} {sl24 : Array (Option Value)} {oc24 kV24 dc24 pm24 cd24 ct24 : Value}
    {f25 : Addr} {od25 an25 : Option Addr} {sl25 : Array (Option Value)} {oc25 kV25 dc25 pm25 cd25 ct25 : Value}
    {f26 : Addr} {od26 an26 : Option Addr} {sl26 : Array (Option Value)} {oc26 kV26 dc26 pm26 cd26 ct26 : Value}
    {f27 : Addr} {od27 an27 : Option Addr} {sl27 : Array (Option Value)} {oc27 kV27 dc27 pm27 cd27 ct27 : Value}
    {f28 : Addr} {od28 an28 : Option Addr} {sl28 : Array (Option Value)} {oc28 kV28 dc28 pm28 cd28 ct28 : Value}
    {f30 : Addr} {od30 an30 : Option Addr} {sl30 : Array (Option Value)} {oc30 kV30 dc30 pm30 cd30 ct30 : Value}
    {f32 : Addr} {od32 an32 : Option Addr} {sl32 : Array (Option Value)} {oc32 kV32 dc32 pm32 cd32 ct32 : Value}
    {f34 : Addr} {od34 an34 : Option Addr} {sl34 : Array (Option Value)} {oc34 kV34 dc34 pm34 cd34 ct34 : Value}
    {f35 : Addr} {od35 an35 : Option Addr} {sl35 : Array (Option Value)} {oc35 kV35 dc35 pm35 cd35 ct35 : Value}
    {f36 : Addr} {od36 an36 : Option Addr} {sl36 : Array (Option Value)} {oc36 kV36 dc36 pm36 cd36 ct36 : Value}
    {f37 : Addr} {od37 an37 : Option Addr} {sl37 : Array (Option Value)} {oc37 kV37 dc37 pm37 cd37 ct37 : Value}
    {f38 : Addr} {od38 an38 : Option Addr} {sl38 : Array (Option Value)} {oc38 kV38 dc38 pm38 cd38 ct38 : Value}
    {f40 : Addr} {od40 an40 : Option Addr} {sl40 : Array (Option Value)} {oc40 kV40 dc40 pm40 cd40 ct40 : Value}
    {f41 : Addr} {od41 an41 : Option Addr} {sl41 : Array (Option Value)} {oc41 kV41 dc41 pm41 cd41 ct41 : Value}
    {f42 : Addr} {od42 an42 : Option Addr} {sl42 : Array (Option Value)} {oc42 kV42 dc42 pm42 cd42 ct42 : Value}
    {f43 : Addr} {od43 an43 : Option Addr} {sl43 : Array (Option Value)} {oc43 kV43 dc43 pm43 cd43 ct43 : Value}
    {f44 : Addr} {od44 an44 : Option Addr} {sl44 : Array (Option Value)} {oc44 kV44 dc44 pm44 cd44 ct44 : Value}
    {f45 : Addr} {od45 an45 : Option Addr} {sl45 : Array (Option Value)} {oc45 kV45 dc45 pm45 cd45 ct45 : Value}
    {f46 : Addr} {od46 an46 : Option Addr} {sl46 : Array (Option Value)} {oc46 kV46 dc46 pm46 cd46 ct46 : Value}
    {f47 : Addr} {od47 an47 : Option Addr} {sl47 : Array (Option Value)} {oc47 kV47 dc47 pm47 cd47 ct47 : Value}
    {f48 : Addr} {od48 an48 : Option Addr} {sl48 : Array (Option Value)} {oc48 kV48 dc48 pm48 cd48 ct48 : Value}
    {f49 : Addr} {od49 an49 : Option Addr} {sl49 : Array (Option Value)} {oc49 kV49 dc49 pm49 cd49 ct49 : Value}
    {f50 : Addr} {od50 an50 : Option Addr} {sl50 : Array (Option Value)} {oc50 kV50 dc50 pm50 cd50 ct50 : Value}
    {f51 : Addr} {od51 an51 : Option Addr} {sl51 : Array (Option Value)} {oc51 kV51 dc51 pm51 cd51 ct51 : Value}
    {f52 : Addr} {od52 an52 : Option Addr} {sl52 : Array (Option Value)} {oc52 kV52 dc52 pm52 cd52 ct52 : Value}
    {f53 : Addr} {od53 an53 : Option Addr} {sl53 : Array (Option Value)} {oc53 kV53 dc53 pm53 cd53 ct53 : Value}
    {f54 : Addr} {od54 an54 : Option Addr} {sl54 : Array (Option Value)} {oc54 kV54 dc54 pm54 cd54 ct54 : Value}
    {f55 : Addr} {od55 an55 : Option Addr} {sl55 : Array (Option Value)} {oc55 kV55 dc55 pm55 cd55 ct55 : Value}
    {tk_MOST_PLACES : Tok}
    (a9 : PySem.W.nsIn K mainGlobals "near_lists_webs" = some (some (.ref f9))) (l9 : K.lookup f9 = some ⟨oc9, od9, .func (PySem.W.fnOf "near_lists" "near_lists" (defArgs s_near_lists) (defBody s_near_lists) (defScope s_near_lists) .none kV9 dc9 pm9 an9 cd9 ct9), sl9⟩) (c9 : PySem.W.codeIn K cd9 "near_lists" = true) (k9 : PySem.W.keepIn K (.ref f9) = true)
    (a11 : PySem.W.nsIn K mainGlobals "fars_by" = some (some (.ref f11))) (l11 : K.lookup f11 = some ⟨oc11, od11, .func (PySem.W.fnOf "fars_by" "fars_by" (defArgs s_fars_by) (defBody s_fars_by) (defScope s_fars_by) .none kV11 dc11 pm11 an11 cd11 ct11), sl11⟩) (c11 : PySem.W.codeIn K cd11 "fars_by" = true) (k11 : PySem.W.keepIn K (.ref f11) = true)
    (a12 : PySem.W.nsIn K mainGlobals "sorted_ties" = some (some (.ref f12))) (l12 : K.lookup f12 = some ⟨oc12, od12, .func (PySem.W.fnOf "sorted_ties" "sorted_ties" (defArgs s_sorted_ties) (defBody s_sorted_ties) (defScope s_sorted_ties) .none kV12 dc12 pm12 an12 cd12 ct12), sl12⟩) (c12 : PySem.W.codeIn K cd12 "sorted_ties" = true) (k12 : PySem.W.keepIn K (.ref f12) = true)
    (a13 : PySem.W.nsIn K mainGlobals "made_web" = some (some (.ref f13))) (l13 : K.lookup f13 = some ⟨oc13, od13, .func (PySem.W.fnOf "made_web" "made_web" (defArgs s_made_web) (defBody s_made_web) (defScope s_made_web) .none kV13 dc13 pm13 an13 cd13 ct13), sl13⟩) (c13 : PySem.W.codeIn K cd13 "made_web" = true) (k13 : PySem.W.keepIn K (.ref f13) = true)
    (a14 : PySem.W.nsIn K mainGlobals "place_asked" = some (some (.ref f14))) (l14 : K.lookup f14 = some ⟨oc14, od14, .func (PySem.W.fnOf "place_asked" "place_asked" (defArgs s_place_asked) (defBody s_place_asked) (defScope s_place_asked) .none kV14 dc14 pm14 an14 cd14 ct14), sl14⟩) (c14 : PySem.W.codeIn K cd14 "place_asked" = true) (k14 : PySem.W.keepIn K (.ref f14) = true)
    (a15 : PySem.W.nsIn K mainGlobals "neighbours_of" = some (some (.ref f15))) (l15 : K.lookup f15 = some ⟨oc15, od15, .func (PySem.W.fnOf "neighbours_of" "neighbours_of" (defArgs s_neighbours_of) (defBody s_neighbours_of) (defScope s_neighbours_of) .none kV15 dc15 pm15 an15 cd15 ct15), sl15⟩) (c15 : PySem.W.codeIn K cd15 "neighbours_of" = true) (k15 : PySem.W.keepIn K (.ref f15) = true)
    (a16 : PySem.W.nsIn K mainGlobals "fars_from" = some (some (.ref f16))) (l16 : K.lookup f16 = some ⟨oc16, od16, .func (PySem.W.fnOf "fars_from" "fars_from" (defArgs s_fars_from) (defBody s_fars_from) (defScope s_fars_from) .none kV16 dc16 pm16 an16 cd16 ct16), sl16⟩) (c16 : PySem.W.codeIn K cd16 "fars_from" = true) (k16 : PySem.W.keepIn K (.ref f16) = true)
    (a18 : PySem.W.nsIn K mainGlobals "table_of" = some (some (.ref f18))) (l18 : K.lookup f18 = some ⟨oc18, od18, .func (PySem.W.fnOf "table_of" "table_of" (defArgs s_table_of) (defBody s_table_of) (defScope s_table_of) .none kV18 dc18 pm18 an18 cd18 ct18), sl18⟩) (c18 : PySem.W.codeIn K cd18 "table_of" = true) (k18 : PySem.W.keepIn K (.ref f18) = true)
    (a19 : PySem.W.nsIn K mainGlobals "things_of" = some (some (.ref f19))) (l19 : K.lookup f19 = some ⟨oc19, od19, .func (PySem.W.fnOf "things_of" "things_of" (defArgs s_things_of) (defBody s_things_of) (defScope s_things_of) .none kV19 dc19 pm19 an19 cd19 ct19), sl19⟩) (c19 : PySem.W.codeIn K cd19 "things_of" = true) (k19 : PySem.W.keepIn K (.ref f19) = true)
    (a20 : PySem.W.nsIn K mainGlobals "looks_asked" = some (some (.ref f20))) (l20 : K.lookup f20 = some ⟨oc20, od20, .func (PySem.W.fnOf "looks_asked" "looks_asked" (defArgs s_looks_asked) (defBody s_looks_asked) (defScope s_looks_asked) .none kV20 dc20 pm20 an20 cd20 ct20), sl20⟩) (c20 : PySem.W.codeIn K cd20 "looks_asked" = true) (k20 : PySem.W.keepIn K (.ref f20) = true)
    (a21 : PySem.W.nsIn K mainGlobals "thing_asked" = some (some (.ref f21))) (l21 : K.lookup f21 = some ⟨oc21, od21, .func (PySem.W.fnOf "thing_asked" "thing_asked" (defArgs s_thing_asked) (defBody s_thing_asked) (defScope s_thing_asked) .none kV21 dc21 pm21 an21 cd21 ct21), sl21⟩) (c21 : PySem.W.codeIn K cd21 "thing_asked" = true) (k21 : PySem.W.keepIn K (.ref f21) = true)
    (a22 : PySem.W.nsIn K mainGlobals "far_by_codes" = some (some (.ref f22))) (l22 : K.lookup f22 = some ⟨oc22, od22, .func (PySem.W.fnOf "far_by" "far_by" (defArgs s_far_by) (defBody s_far_by) (defScope s_far_by) .none kV22 dc22 pm22 an22 cd22 ct22), sl22⟩) (c22 : PySem.W.codeIn K cd22 "far_by" = true) (k22 : PySem.W.keepIn K (.ref f22) = true)
    (a24 : PySem.W.nsIn K mainGlobals "parters_by" = some (some (.ref f24))) (l24 : K.lookup f24 = some ⟨oc24, od24, .func (PySem.W.fnOf "parters_by" "parters_by" (defArgs s_parters_by) (defBody s_parters_by) (defScope s_parters_by) .none kV24 dc24 pm24 an24 cd24 ct24), sl24⟩) (c24 : PySem.W.codeIn K cd24 "parters_by" = true) (k24 : PySem.W.keepIn K (.ref f24) = true)
    (a25 : PySem.W.nsIn K mainGlobals "code_of" = some (some (.ref f25))) (l25 : K.lookup f25 = some ⟨oc25, od25, .func (PySem.W.fnOf "code_of" "code_of" (defArgs s_code_of) (defBody s_code_of) (defScope s_code_of) .none kV25 dc25 pm25 an25 cd25 ct25), sl25⟩) (c25 : PySem.W.codeIn K cd25 "code_of" = true) (k25 : PySem.W.keepIn K (.ref f25) = true)
    (a26 : PySem.W.nsIn K mainGlobals "parters_of" = some (some (.ref f26))) (l26 : K.lookup f26 = some ⟨oc26, od26, .func (PySem.W.fnOf "parters_of" "parters_of" (defArgs s_parters_of) (defBody s_parters_of) (defScope s_parters_of) .none kV26 dc26 pm26 an26 cd26 ct26), sl26⟩) (c26 : PySem.W.codeIn K cd26 "parters_of" = true) (k26 : PySem.W.keepIn K (.ref f26) = true)
    (a27 : PySem.W.nsIn K mainGlobals "by_code" = some (some (.ref f27))) (l27 : K.lookup f27 = some ⟨oc27, od27, .func (PySem.W.fnOf "by_code" "by_code" (defArgs s_by_code) (defBody s_by_code) (defScope s_by_code) .none kV27 dc27 pm27 an27 cd27 ct27), sl27⟩) (c27 : PySem.W.codeIn K cd27 "by_code" = true) (k27 : PySem.W.keepIn K (.ref f27) = true)
    (a28 : PySem.W.nsIn K mainGlobals "likes_by" = some (some (.ref f28))) (l28 : K.lookup f28 = some ⟨oc28, od28, .func (PySem.W.fnOf "likes_by" "likes_by" (defArgs s_likes_by) (defBody s_likes_by) (defScope s_likes_by) .none kV28 dc28 pm28 an28 cd28 ct28), sl28⟩) (c28 : PySem.W.codeIn K cd28 "likes_by" = true) (k28 : PySem.W.keepIn K (.ref f28) = true)
    (a30 : PySem.W.nsIn K mainGlobals "near_lists_floors" = some (some (.ref f30))) (l30 : K.lookup f30 = some ⟨oc30, od30, .func (PySem.W.fnOf "near_lists" "near_lists" (defArgs s_near_lists_floors) (defBody s_near_lists_floors) (defScope s_near_lists_floors) .none kV30 dc30 pm30 an30 cd30 ct30), sl30⟩) (c30 : PySem.W.codeIn K cd30 "near_lists" = true) (k30 : PySem.W.keepIn K (.ref f30) = true)
    (a32 : PySem.W.nsIn K mainGlobals "far_by_floors" = some (some (.ref f32))) (l32 : K.lookup f32 = some ⟨oc32, od32, .func (PySem.W.fnOf "far_by" "far_by" (defArgs s_far_by_floors) (defBody s_far_by_floors) (defScope s_far_by_floors) .none kV32 dc32 pm32 an32 cd32 ct32), sl32⟩) (c32 : PySem.W.codeIn K cd32 "far_by" = true) (k32 : PySem.W.keepIn K (.ref f32) = true)
    (a34 : PySem.W.nsIn K mainGlobals "are_twins" = some (some (.ref f34))) (l34 : K.lookup f34 = some ⟨oc34, od34, .func (PySem.W.fnOf "are_twins" "are_twins" (defArgs s_are_twins) (defBody s_are_twins) (defScope s_are_twins) .none kV34 dc34 pm34 an34 cd34 ct34), sl34⟩) (c34 : PySem.W.codeIn K cd34 "are_twins" = true) (k34 : PySem.W.keepIn K (.ref f34) = true)
    (a35 : PySem.W.nsIn K mainGlobals "twins_of" = some (some (.ref f35))) (l35 : K.lookup f35 = some ⟨oc35, od35, .func (PySem.W.fnOf "twins_of" "twins_of" (defArgs s_twins_of) (defBody s_twins_of) (defScope s_twins_of) .none kV35 dc35 pm35 an35 cd35 ct35), sl35⟩) (c35 : PySem.W.codeIn K cd35 "twins_of" = true) (k35 : PySem.W.keepIn K (.ref f35) = true)
    (a36 : PySem.W.nsIn K mainGlobals "is_lot" = some (some (.ref f36))) (l36 : K.lookup f36 = some ⟨oc36, od36, .func (PySem.W.fnOf "is_lot" "is_lot" (defArgs s_is_lot) (defBody s_is_lot) (defScope s_is_lot) .none kV36 dc36 pm36 an36 cd36 ct36), sl36⟩) (c36 : PySem.W.codeIn K cd36 "is_lot" = true) (k36 : PySem.W.keepIn K (.ref f36) = true)
    (a37 : PySem.W.nsIn K mainGlobals "lot_parters" = some (some (.ref f37))) (l37 : K.lookup f37 = some ⟨oc37, od37, .func (PySem.W.fnOf "lot_parters" "lot_parters" (defArgs s_lot_parters) (defBody s_lot_parters) (defScope s_lot_parters) .none kV37 dc37 pm37 an37 cd37 ct37), sl37⟩) (c37 : PySem.W.codeIn K cd37 "lot_parters" = true) (k37 : PySem.W.keepIn K (.ref f37) = true)
    (a38 : PySem.W.nsIn K mainGlobals "floor_height" = some (some (.ref f38))) (l38 : K.lookup f38 = some ⟨oc38, od38, .func (PySem.W.fnOf "floor_height" "floor_height" (defArgs s_floor_height) (defBody s_floor_height) (defScope s_floor_height) .none kV38 dc38 pm38 an38 cd38 ct38), sl38⟩) (c38 : PySem.W.codeIn K cd38 "floor_height" = true) (k38 : PySem.W.keepIn K (.ref f38) = true)
    (a40 : PySem.W.nsIn K mainGlobals "_law_pot" = some (some (.ref f40))) (l40 : K.lookup f40 = some ⟨oc40, od40, .func (PySem.W.fnOf "_law_pot" "_law_pot" (defArgs s_law_pot) (defBody s_law_pot) (defScope s_law_pot) .none kV40 dc40 pm40 an40 cd40 ct40), sl40⟩) (c40 : PySem.W.codeIn K cd40 "_law_pot" = true) (k40 : PySem.W.keepIn K (.ref f40) = true)
    (a41 : PySem.W.nsIn K mainGlobals "_law_take" = some (some (.ref f41))) (l41 : K.lookup f41 = some ⟨oc41, od41, .func (PySem.W.fnOf "_law_take" "_law_take" (defArgs s_law_take) (defBody s_law_take) (defScope s_law_take) .none kV41 dc41 pm41 an41 cd41 ct41), sl41⟩) (c41 : PySem.W.codeIn K cd41 "_law_take" = true) (k41 : PySem.W.keepIn K (.ref f41) = true)
    (a42 : PySem.W.nsIn K mainGlobals "_law_folded" = some (some (.ref f42))) (l42 : K.lookup f42 = some ⟨oc42, od42, .func (PySem.W.fnOf "_law_folded" "_law_folded" (defArgs s_law_folded) (defBody s_law_folded) (defScope s_law_folded) .none kV42 dc42 pm42 an42 cd42 ct42), sl42⟩) (c42 : PySem.W.codeIn K cd42 "_law_folded" = true) (k42 : PySem.W.keepIn K (.ref f42) = true)
    (a43 : PySem.W.nsIn K mainGlobals "_law_cells" = some (some (.ref f43))) (l43 : K.lookup f43 = some ⟨oc43, od43, .func (PySem.W.fnOf "_law_cells" "_law_cells" (defArgs s_law_cells) (defBody s_law_cells) (defScope s_law_cells) .none kV43 dc43 pm43 an43 cd43 ct43), sl43⟩) (c43 : PySem.W.codeIn K cd43 "_law_cells" = true) (k43 : PySem.W.keepIn K (.ref f43) = true)
    (a44 : PySem.W.nsIn K mainGlobals "_law_ties" = some (some (.ref f44))) (l44 : K.lookup f44 = some ⟨oc44, od44, .func (PySem.W.fnOf "_law_ties" "_law_ties" (defArgs s_law_ties) (defBody s_law_ties) (defScope s_law_ties) .none kV44 dc44 pm44 an44 cd44 ct44), sl44⟩) (c44 : PySem.W.codeIn K cd44 "_law_ties" = true) (k44 : PySem.W.keepIn K (.ref f44) = true)
    (a45 : PySem.W.nsIn K mainGlobals "_law_bunches" = some (some (.ref f45))) (l45 : K.lookup f45 = some ⟨oc45, od45, .func (PySem.W.fnOf "_law_bunches" "_law_bunches" (defArgs s_law_bunches) (defBody s_law_bunches) (defScope s_law_bunches) .none kV45 dc45 pm45 an45 cd45 ct45), sl45⟩) (c45 : PySem.W.codeIn K cd45 "_law_bunches" = true) (k45 : PySem.W.keepIn K (.ref f45) = true)
    (a46 : PySem.W.nsIn K mainGlobals "_law_order" = some (some (.ref f46))) (l46 : K.lookup f46 = some ⟨oc46, od46, .func (PySem.W.fnOf "_law_order" "_law_order" (defArgs s_law_order) (defBody s_law_order) (defScope s_law_order) .none kV46 dc46 pm46 an46 cd46 ct46), sl46⟩) (c46 : PySem.W.codeIn K cd46 "_law_order" = true) (k46 : PySem.W.keepIn K (.ref f46) = true)
    (a47 : PySem.W.nsIn K mainGlobals "_law_web" = some (some (.ref f47))) (l47 : K.lookup f47 = some ⟨oc47, od47, .func (PySem.W.fnOf "_law_web" "_law_web" (defArgs s_law_web) (defBody s_law_web) (defScope s_law_web) .none kV47 dc47 pm47 an47 cd47 ct47), sl47⟩) (c47 : PySem.W.codeIn K cd47 "_law_web" = true) (k47 : PySem.W.keepIn K (.ref f47) = true)
    (a48 : PySem.W.nsIn K mainGlobals "_law_some" = some (some (.ref f48))) (l48 : K.lookup f48 = some ⟨oc48, od48, .func (PySem.W.fnOf "_law_some" "_law_some" (defArgs s_law_some) (defBody s_law_some) (defScope s_law_some) .none kV48 dc48 pm48 an48 cd48 ct48), sl48⟩) (c48 : PySem.W.codeIn K cd48 "_law_some" = true) (k48 : PySem.W.keepIn K (.ref f48) = true)
    (a49 : PySem.W.nsIn K mainGlobals "_law_kind" = some (some (.ref f49))) (l49 : K.lookup f49 = some ⟨oc49, od49, .func (PySem.W.fnOf "_law_kind" "_law_kind" (defArgs s_law_kind) (defBody s_law_kind) (defScope s_law_kind) .none kV49 dc49 pm49 an49 cd49 ct49), sl49⟩) (c49 : PySem.W.codeIn K cd49 "_law_kind" = true) (k49 : PySem.W.keepIn K (.ref f49) = true)
    (a50 : PySem.W.nsIn K mainGlobals "_law_moved" = some (some (.ref f50))) (l50 : K.lookup f50 = some ⟨oc50, od50, .func (PySem.W.fnOf "_law_moved" "_law_moved" (defArgs s_law_moved) (defBody s_law_moved) (defScope s_law_moved) .none kV50 dc50 pm50 an50 cd50 ct50), sl50⟩) (c50 : PySem.W.codeIn K cd50 "_law_moved" = true) (k50 : PySem.W.keepIn K (.ref f50) = true)
    (a51 : PySem.W.nsIn K mainGlobals "_law_gathered" = some (some (.ref f51))) (l51 : K.lookup f51 = some ⟨oc51, od51, .func (PySem.W.fnOf "_law_gathered" "_law_gathered" (defArgs s_law_gathered) (defBody s_law_gathered) (defScope s_law_gathered) .none kV51 dc51 pm51 an51 cd51 ct51), sl51⟩) (c51 : PySem.W.codeIn K cd51 "_law_gathered" = true) (k51 : PySem.W.keepIn K (.ref f51) = true)
    (a52 : PySem.W.nsIn K mainGlobals "_law_rows_moved" = some (some (.ref f52))) (l52 : K.lookup f52 = some ⟨oc52, od52, .func (PySem.W.fnOf "_law_rows_moved" "_law_rows_moved" (defArgs s_law_rows_moved) (defBody s_law_rows_moved) (defScope s_law_rows_moved) .none kV52 dc52 pm52 an52 cd52 ct52), sl52⟩) (c52 : PySem.W.codeIn K cd52 "_law_rows_moved" = true) (k52 : PySem.W.keepIn K (.ref f52) = true)
    (a53 : PySem.W.nsIn K mainGlobals "_law_same_places" = some (some (.ref f53))) (l53 : K.lookup f53 = some ⟨oc53, od53, .func (PySem.W.fnOf "_law_same_places" "_law_same_places" (defArgs s_law_same_places) (defBody s_law_same_places) (defScope s_law_same_places) .none kV53 dc53 pm53 an53 cd53 ct53), sl53⟩) (c53 : PySem.W.codeIn K cd53 "_law_same_places" = true) (k53 : PySem.W.keepIn K (.ref f53) = true)
    (a54 : PySem.W.nsIn K mainGlobals "_law_same_things" = some (some (.ref f54))) (l54 : K.lookup f54 = some ⟨oc54, od54, .func (PySem.W.fnOf "_law_same_things" "_law_same_things" (defArgs s_law_same_things) (defBody s_law_same_things) (defScope s_law_same_things) .none kV54 dc54 pm54 an54 cd54 ct54), sl54⟩) (c54 : PySem.W.codeIn K cd54 "_law_same_things" = true) (k54 : PySem.W.keepIn K (.ref f54) = true)
    (a55 : PySem.W.nsIn K mainGlobals "law" = some (some (.ref f55))) (l55 : K.lookup f55 = some ⟨oc55, od55, .func (PySem.W.fnOf "law" "law" (defArgs s_law) (defBody s_law) (defScope s_law) .none kV55 dc55 pm55 an55 cd55 ct55), sl55⟩) (c55 : PySem.W.codeIn K cd55 "law" = true) (k55 : PySem.W.keepIn K (.ref f55) = true)
    (kc_MOST_PLACES : PySem.W.nsIn K mainGlobals "MOST_PLACES" = some (some (.int 60 tk_MOST_PLACES)))
    (z_abs : PySem.W.nsIn K mainGlobals "abs" = some none)
    (z_all : PySem.W.nsIn K mainGlobals "all" = some none)
    (z_enumerate : PySem.W.nsIn K mainGlobals "enumerate" = some none)
    (z_int : PySem.W.nsIn K mainGlobals "int" = some none)
    (z_isinstance : PySem.W.nsIn K mainGlobals "isinstance" = some none)
    (z_len : PySem.W.nsIn K mainGlobals "len" = some none)
    (z_list : PySem.W.nsIn K mainGlobals "list" = some none)
    (z_max : PySem.W.nsIn K mainGlobals "max" = some none)
    (z_min : PySem.W.nsIn K mainGlobals "min" = some none)
    (z_range : PySem.W.nsIn K mainGlobals "range" = some none)
    (z_set : PySem.W.nsIn K mainGlobals "set" = some none)
    (z_sorted : PySem.W.nsIn K mainGlobals "sorted" = some none)
    (z_str : PySem.W.nsIn K mainGlobals "str" = some none)
    (z_tuple : PySem.W.nsIn K mainGlobals "tuple" = some none) :
    ∃ fd : FuncData, (∀ (s : Shared) (v : Value), BindsTo s fd ⟨[v], []⟩ [("script", v)]) ∧ ∀ base : Heap, K.In base → base.Ns mainGlobals mg → FnG l.prog w K mg base CX0 7 fa fd ["script"] (sp_law K) := by
  have e := hfa.symm.trans (PySem.W.mg_of X G a55)
  cases e
  let A : Nat → Addr := fun i => match i with | 9 => f9 | 11 => f11 | 12 => f12 | 13 => f13 | 14 => f14 | 15 => f15 | 16 => f16 | 18 => f18 | 19 => f19 | 20 => f20 | 21 => f21 | 22 => f22 | 24 => f24 | 25 => f25 | 26 => f26 | 27 => f27 | 28 => f28 | 30 => f30 | 32 => f32 | 34 => f34 | 35 => f35 | 36 => f36 | 37 => f37 | 38 => f38 | 40 => f40 | 41 => f41 | 42 => f42 | 43 => f43 | 44 => f44 | 45 => f45 | 46 => f46 | 47 => f47 | 48 => f48 | 49 => f49 | 50 => f50 | 51 => f51 | 52 => f52 | 53 => f53 | 54 => f54 | 55 => fa | _ => fa
  let FD : Nat → FuncData := fun i => match i with | 9 => (PySem.W.fnOf "near_lists" "near_lists" (defArgs s_near_lists) (defBody s_near_lists) (defScope s_near_lists) .none kV9 dc9 pm9 an9 cd9 ct9) | 11 => (PySem.W.fnOf "fars_by" "fars_by" (defArgs s_fars_by) (defBody s_fars_by) (defScope s_fars_by) .none kV11 dc11 pm11 an11 cd11 ct11) | 12 => (PySem.W.fnOf "sorted_ties" "sorted_ties" (defArgs s_sorted_ties) (defBody s_sorted_ties) (defScope s_sorted_ties) .none kV12 dc12 pm12 an12 cd12 ct12) | 13 => (PySem.W.fnOf "made_web" "made_web" (defArgs s_made_web) (defBody s_made_web) (defScope s_made_web) .none kV13 dc13 pm13 an13 cd13 ct13) | 14 => (PySem.W.fnOf "place_asked" "place_asked" (defArgs s_place_asked) (defBody s_place_asked) (defScope s_place_asked) .none kV14 dc14 pm14 an14 cd14 ct14) | 15 => (PySem.W.fnOf "neighbours_of" "neighbours_of" (defArgs s_neighbours_of) (defBody s_neighbours_of) (defScope s_neighbours_of) .none kV15 dc15 pm15 an15 cd15 ct15) | 16 => (PySem.W.fnOf "fars_from" "fars_from" (defArgs s_fars_from) (defBody s_fars_from) (defScope s_fars_from) .none kV16 dc16 pm16 an16 cd16 ct16) | 18 => (PySem.W.fnOf "table_of" "table_of" (defArgs s_table_of) (defBody s_table_of) (defScope s_table_of) .none kV18 dc18 pm18 an18 cd18 ct18) | 19 => (PySem.W.fnOf "things_of" "things_of" (defArgs s_things_of) (defBody s_things_of) (defScope s_things_of) .none kV19 dc19 pm19 an19 cd19 ct19) | 20 => (PySem.W.fnOf "looks_asked" "looks_asked" (defArgs s_looks_asked) (defBody s_looks_asked) (defScope s_looks_asked) .none kV20 dc20 pm20 an20 cd20 ct20) | 21 => (PySem.W.fnOf "thing_asked" "thing_asked" (defArgs s_thing_asked) (defBody s_thing_asked) (defScope s_thing_asked) .none kV21 dc21 pm21 an21 cd21 ct21) | 22 => (PySem.W.fnOf "far_by" "far_by" (defArgs s_far_by) (defBody s_far_by) (defScope s_far_by) .none kV22 dc22 pm22 an22 cd22 ct22) | 24 => (PySem.W.fnOf "parters_by" "parters_by" (defArgs s_parters_by) (defBody s_parters_by) (defScope s_parters_by) .none kV24 dc24 pm24 an24 cd24 ct24) | 25 => (PySem.W.fnOf "code_of" "code_of" (defArgs s_code_of) (defBody s_code_of) (defScope s_code_of) .none kV25 dc25 pm25 an25 cd25 ct25) | 26 => (PySem.W.fnOf "parters_of" "parters_of" (defArgs s_parters_of) (defBody s_parters_of) (defScope s_parters_of) .none kV26 dc26 pm26 an26 cd26 ct26) | 27 => (PySem.W.fnOf "by_code" "by_code" (defArgs s_by_code) (defBody s_by_code) (defScope s_by_code) .none kV27 dc27 pm27 an27 cd27 ct27) | 28 => (PySem.W.fnOf "likes_by" "likes_by" (defArgs s_likes_by) (defBody s_likes_by) (defScope s_likes_by) .none kV28 dc28 pm28 an28 cd28 ct28) | 30 => (PySem.W.fnOf "near_lists" "near_lists" (defArgs s_near_lists_floors) (defBody s_near_lists_floors) (defScope s_near_lists_floors) .none kV30 dc30 pm30 an30 cd30 ct30) | 32 => (PySem.W.fnOf "far_by" "far_by" (defArgs s_far_by_floors) (defBody s_far_by_floors) (defScope s_far_by_floors) .none kV32 dc32 pm32 an32 cd32 ct32) | 34 => (PySem.W.fnOf "are_twins" "are_twins" (defArgs s_are_twins) (defBody s_are_twins) (defScope s_are_twins) .none kV34 dc34 pm34 an34 cd34 ct34) | 35 => (PySem.W.fnOf "twins_of" "twins_of" (defArgs s_twins_of) (defBody s_twins_of) (defScope s_twins_of) .none kV35 dc35 pm35 an35 cd35 ct35) | 36 => (PySem.W.fnOf "is_lot" "is_lot" (defArgs s_is_lot) (defBody s_is_lot) (defScope s_is_lot) .none kV36 dc36 pm36 an36 cd36 ct36) | 37 => (PySem.W.fnOf "lot_parters" "lot_parters" (defArgs s_lot_parters) (defBody s_lot_parters) (defScope s_lot_parters) .none kV37 dc37 pm37 an37 cd37 ct37) | 38 => (PySem.W.fnOf "floor_height" "floor_height" (defArgs s_floor_height) (defBody s_floor_height) (defScope s_floor_height) .none kV38 dc38 pm38 an38 cd38 ct38) | 40 => (PySem.W.fnOf "_law_pot" "_law_pot" (defArgs s_law_pot) (defBody s_law_pot) (defScope s_law_pot) .none kV40 dc40 pm40 an40 cd40 ct40) | 41 => (PySem.W.fnOf "_law_take" "_law_take" (defArgs s_law_take) (defBody s_law_take) (defScope s_law_take) .none kV41 dc41 pm41 an41 cd41 ct41) | 42 => (PySem.W.fnOf "_law_folded" "_law_folded" (defArgs s_law_folded) (defBody s_law_folded) (defScope s_law_folded) .none kV42 dc42 pm42 an42 cd42 ct42) | 43 => (PySem.W.fnOf "_law_cells" "_law_cells" (defArgs s_law_cells) (defBody s_law_cells) (defScope s_law_cells) .none kV43 dc43 pm43 an43 cd43 ct43) | 44 => (PySem.W.fnOf "_law_ties" "_law_ties" (defArgs s_law_ties) (defBody s_law_ties) (defScope s_law_ties) .none kV44 dc44 pm44 an44 cd44 ct44) | 45 => (PySem.W.fnOf "_law_bunches" "_law_bunches" (defArgs s_law_bunches) (defBody s_law_bunches) (defScope s_law_bunches) .none kV45 dc45 pm45 an45 cd45 ct45) | 46 => (PySem.W.fnOf "_law_order" "_law_order" (defArgs s_law_order) (defBody s_law_order) (defScope s_law_order) .none kV46 dc46 pm46 an46 cd46 ct46) | 47 => (PySem.W.fnOf "_law_web" "_law_web" (defArgs s_law_web) (defBody s_law_web) (defScope s_law_web) .none kV47 dc47 pm47 an47 cd47 ct47) | 48 => (PySem.W.fnOf "_law_some" "_law_some" (defArgs s_law_some) (defBody s_law_some) (defScope s_law_some) .none kV48 dc48 pm48 an48 cd48 ct48) | 49 => (PySem.W.fnOf "_law_kind" "_law_kind" (defArgs s_law_kind) (defBody s_law_kind) (defScope s_law_kind) .none kV49 dc49 pm49 an49 cd49 ct49) | 50 => (PySem.W.fnOf "_law_moved" "_law_moved" (defArgs s_law_moved) (defBody s_law_moved) (defScope s_law_moved) .none kV50 dc50 pm50 an50 cd50 ct50) | 51 => (PySem.W.fnOf "_law_gathered" "_law_gathered" (defArgs s_law_gathered) (defBody s_law_gathered) (defScope s_law_gathered) .none kV51 dc51 pm51 an51 cd51 ct51) | 52 => (PySem.W.fnOf "_law_rows_moved" "_law_rows_moved" (defArgs s_law_rows_moved) (defBody s_law_rows_moved) (defScope s_law_rows_moved) .none kV52 dc52 pm52 an52 cd52 ct52) | 53 => (PySem.W.fnOf "_law_same_places" "_law_same_places" (defArgs s_law_same_places) (defBody s_law_same_places) (defScope s_law_same_places) .none kV53 dc53 pm53 an53 cd53 ct53) | 54 => (PySem.W.fnOf "_law_same_things" "_law_same_things" (defArgs s_law_same_things) (defBody s_law_same_things) (defScope s_law_same_things) .none kV54 dc54 pm54 an54 cd54 ct54) | 55 => (PySem.W.fnOf "law" "law" (defArgs s_law) (defBody s_law) (defScope s_law) .none kV55 dc55 pm55 an55 cd55 ct55) | _ => (PySem.W.fnOf "law" "law" (defArgs s_law) (defBody s_law) (defScope s_law) .none kV55 dc55 pm55 an55 cd55 ct55)
  have T : Tx K mg A FD := {
    d9 := dn_mk (st := s_near_lists) (ps := ["web"]) X G a9 l9 c9 k9 fun _ _ _ _ _ _ us hl => by (obtain ⟨_, rfl⟩ := us1 hl; rfl)
    d11 := dn_mk (st := s_fars_by) (ps := ["near", "place"]) X G a11 l11 c11 k11 fun _ _ _ _ _ _ us hl => by (obtain ⟨_, _, rfl⟩ := us2 hl; rfl)
    d12 := dn_mk (st := s_sorted_ties) (ps := ["many", "ties"]) X G a12 l12 c12 k12 fun _ _ _ _ _ _ us hl => by (obtain ⟨_, _, rfl⟩ := us2 hl; rfl)
    d13 := dn_mk (st := s_made_web) (ps := ["many", "ties"]) X G a13 l13 c13 k13 fun _ _ _ _ _ _ us hl => by (obtain ⟨_, _, rfl⟩ := us2 hl; rfl)
    d14 := dn_mk (st := s_place_asked) (ps := ["web", "place"]) X G a14 l14 c14 k14 fun _ _ _ _ _ _ us hl => by (obtain ⟨_, _, rfl⟩ := us2 hl; rfl)
    d15 := dn_mk (st := s_neighbours_of) (ps := ["web", "place"]) X G a15 l15 c15 k15 fun _ _ _ _ _ _ us hl => by (obtain ⟨_, _, rfl⟩ := us2 hl; rfl)
    d16 := dn_mk (st := s_fars_from) (ps := ["web", "place"]) X G a16 l16 c16 k16 fun _ _ _ _ _ _ us hl => by (obtain ⟨_, _, rfl⟩ := us2 hl; rfl)
    d18 := dn_mk (st := s_table_of) (ps := ["web"]) X G a18 l18 c18 k18 fun _ _ _ _ _ _ us hl => by (obtain ⟨_, rfl⟩ := us1 hl; rfl)
    d19 := dn_mk (st := s_things_of) (ps := ["web", "kind"]) X G a19 l19 c19 k19 fun _ _ _ _ _ _ us hl => by (obtain ⟨_, _, rfl⟩ := us2 hl; rfl)
    d20 := dn_mk (st := s_looks_asked) (ps := ["web", "looks"]) X G a20 l20 c20 k20 fun _ _ _ _ _ _ us hl => by (obtain ⟨_, _, rfl⟩ := us2 hl; rfl)
    d21 := dn_mk (st := s_thing_asked) (ps := ["web", "thing"]) X G a21 l21 c21 k21 fun _ _ _ _ _ _ us hl => by (obtain ⟨_, _, rfl⟩ := us2 hl; rfl)
    d22 := dn_mk (st := s_far_by) (ps := ["table", "look", "thing"]) X G a22 l22 c22 k22 fun _ _ _ _ _ _ us hl => by (obtain ⟨_, _, _, rfl⟩ := us3 hl; rfl)
    d24 := dn_mk (st := s_parters_by) (ps := ["table", "one", "other"]) X G a24 l24 c24 k24 fun _ _ _ _ _ _ us hl => by (obtain ⟨_, _, _, rfl⟩ := us3 hl; rfl)
    d25 := dn_mk (st := s_code_of) (ps := ["web", "looks", "thing"]) X G a25 l25 c25 k25 fun _ _ _ _ _ _ us hl => by (obtain ⟨_, _, _, rfl⟩ := us3 hl; rfl)
    d26 := dn_mk (st := s_parters_of) (ps := ["web", "one", "other"]) X G a26 l26 c26 k26 fun _ _ _ _ _ _ us hl => by (obtain ⟨_, _, _, rfl⟩ := us3 hl; rfl)
    d27 := dn_mk (st := s_by_code) (ps := ["web", "looks", "kind"]) X G a27 l27 c27 k27 fun _ _ _ _ _ _ us hl => by (obtain ⟨_, _, _, rfl⟩ := us3 hl; rfl)
    d28 := dn_mk (st := s_likes_by) (ps := ["web", "looks", "kind"]) X G a28 l28 c28 k28 fun _ _ _ _ _ _ us hl => by (obtain ⟨_, _, _, rfl⟩ := us3 hl; rfl)
    d30 := dn_mk (st := s_near_lists_floors) (ps := ["web"]) X G a30 l30 c30 k30 fun _ _ _ _ _ _ us hl => by (obtain ⟨_, rfl⟩ := us1 hl; rfl)
    d32 := dn_mk (st := s_far_by_floors) (ps := ["fars", "thing"]) X G a32 l32 c32 k32 fun _ _ _ _ _ _ us hl => by (obtain ⟨_, _, rfl⟩ := us2 hl; rfl)
    d34 := dn_mk (st := s_are_twins) (ps := ["near", "one", "other"]) X G a34 l34 c34 k34 fun _ _ _ _ _ _ us hl => by (obtain ⟨_, _, _, rfl⟩ := us3 hl; rfl)
    d35 := dn_mk (st := s_twins_of) (ps := ["web"]) X G a35 l35 c35 k35 fun _ _ _ _ _ _ us hl => by (obtain ⟨_, rfl⟩ := us1 hl; rfl)
    d36 := dn_mk (st := s_is_lot) (ps := ["web", "kind", "lot"]) X G a36 l36 c36 k36 fun _ _ _ _ _ _ us hl => by (obtain ⟨_, _, _, rfl⟩ := us3 hl; rfl)
    d37 := dn_mk (st := s_lot_parters) (ps := ["table", "lot"]) X G a37 l37 c37 k37 fun _ _ _ _ _ _ us hl => by (obtain ⟨_, _, rfl⟩ := us2 hl; rfl)
    d38 := dn_mk (st := s_floor_height) (ps := ["web", "kind", "lots"]) X G a38 l38 c38 k38 fun _ _ _ _ _ _ us hl => by (obtain ⟨_, _, _, rfl⟩ := us3 hl; rfl)
    d40 := dn_mk (st := s_law_pot) (ps := ["cell", "k"]) X G a40 l40 c40 k40 fun _ _ _ _ _ _ us hl => by (obtain ⟨_, _, rfl⟩ := us2 hl; rfl)
    d41 := dn_mk (st := s_law_take) (ps := ["pot", "many"]) X G a41 l41 c41 k41 fun _ _ _ _ _ _ us hl => by (obtain ⟨_, _, rfl⟩ := us2 hl; rfl)
    d42 := dn_mk (st := s_law_folded) (ps := ["script", "many"]) X G a42 l42 c42 k42 fun _ _ _ _ _ _ us hl => by (obtain ⟨_, _, rfl⟩ := us2 hl; rfl)
    d43 := dn_mk (st := s_law_cells) (ps := ["script", "most"]) X G a43 l43 c43 k43 fun _ _ _ _ _ _ us hl => by (obtain ⟨_, _, rfl⟩ := us2 hl; rfl)
    d44 := dn_mk (st := s_law_ties) (ps := ["pot", "many"]) X G a44 l44 c44 k44 fun _ _ _ _ _ _ us hl => by (obtain ⟨_, _, rfl⟩ := us2 hl; rfl)
    d45 := dn_mk (st := s_law_bunches) (ps := ["pot", "many"]) X G a45 l45 c45 k45 fun _ _ _ _ _ _ us hl => by (obtain ⟨_, _, rfl⟩ := us2 hl; rfl)
    d46 := dn_mk (st := s_law_order) (ps := ["pot", "many"]) X G a46 l46 c46 k46 fun _ _ _ _ _ _ us hl => by (obtain ⟨_, _, rfl⟩ := us2 hl; rfl)
    d47 := dn_mk (st := s_law_web) (ps := ["pot", "most"]) X G a47 l47 c47 k47 fun _ _ _ _ _ _ us hl => by (obtain ⟨_, _, rfl⟩ := us2 hl; rfl)
    d48 := dn_mk (st := s_law_some) (ps := ["pot", "many"]) X G a48 l48 c48 k48 fun _ _ _ _ _ _ us hl => by (obtain ⟨_, _, rfl⟩ := us2 hl; rfl)
    d49 := dn_mk (st := s_law_kind) (ps := ["pot"]) X G a49 l49 c49 k49 fun _ _ _ _ _ _ us hl => by (obtain ⟨_, rfl⟩ := us1 hl; rfl)
    d50 := dn_mk (st := s_law_moved) (ps := ["order", "thing"]) X G a50 l50 c50 k50 fun _ _ _ _ _ _ us hl => by (obtain ⟨_, _, rfl⟩ := us2 hl; rfl)
    d51 := dn_mk (st := s_law_gathered) (ps := ["rows"]) X G a51 l51 c51 k51 fun _ _ _ _ _ _ us hl => by (obtain ⟨_, rfl⟩ := us1 hl; rfl)
    d52 := dn_mk (st := s_law_rows_moved) (ps := ["order", "rows"]) X G a52 l52 c52 k52 fun _ _ _ _ _ _ us hl => by (obtain ⟨_, _, rfl⟩ := us2 hl; rfl)
    d53 := dn_mk (st := s_law_same_places) (ps := ["web", "other", "order"]) X G a53 l53 c53 k53 fun _ _ _ _ _ _ us hl => by (obtain ⟨_, _, _, rfl⟩ := us3 hl; rfl)
    d54 := dn_mk (st := s_law_same_things) (ps := ["pot", "web", "other", "order", "kind"]) X G a54 l54 c54 k54 fun _ _ _ _ _ _ us hl => by (obtain ⟨_, _, _, _, _, rfl⟩ := us5 hl; rfl)
    d55 := dn_mk (st := s_law) (ps := ["script"]) X G a55 l55 c55 k55 fun _ _ _ _ _ _ us hl => by (obtain ⟨_, rfl⟩ := us1 hl; rfl)
    n_abs := PySem.W.mg_none_of X G z_abs
    n_all := PySem.W.mg_none_of X G z_all
    n_enumerate := PySem.W.mg_none_of X G z_enumerate
    n_int := PySem.W.mg_none_of X G z_int
    n_isinstance := PySem.W.mg_none_of X G z_isinstance
    n_len := PySem.W.mg_none_of X G z_len
    n_list := PySem.W.mg_none_of X G z_list
    n_max := PySem.W.mg_none_of X G z_max
    n_min := PySem.W.mg_none_of X G z_min
    n_range := PySem.W.mg_none_of X G z_range
    n_set := PySem.W.mg_none_of X G z_set
    n_sorted := PySem.W.mg_none_of X G z_sorted
    n_str := PySem.W.mg_none_of X G z_str
    n_tuple := PySem.W.mg_none_of X G z_tuple
    c_MOST_PLACES := ⟨_, PySem.W.mg_of X G kc_MOST_PLACES⟩ }
  exact ⟨(PySem.W.fnOf "law" "law" (defArgs s_law) (defBody s_law) (defScope s_law) .none kV55 dc55 pm55 an55 cd55 ct55), fun s v => .of_eq rfl, fun base _ _ => ok_law (A := A) (FD := FD) T⟩
theorem walk {l : PySem.W.OpenLaw} {q : Program} {loose : List Str} {XP : (Str → Option Value) → Heap → Prop} {YP : World → Heap → Prop} {d : DefRec} {K : Params → PySem.W.Frag} (hn : l.most = some 63) (hdf : d.params.defaults = [])
    (hY : ∀ (w : World) (h : Heap), YP w h → (K w.params).In h)
    (F : ∀ (w : World) (mg : Str → Option Value) (fa : Addr) (h : Heap), (K w.params).In h → h.Ns mainGlobals mg → mg d.name = some (.ref fa) →
      ∃ fd : FuncData, (∀ (s : Shared) (u : Value), BindsTo s fd ⟨[u], []⟩ [("script", u)]) ∧ ∀ base : Heap, (K w.params).In base → base.Ns mainGlobals mg → FnG l.prog w (K w.params) mg base CX0 7 fa fd ["script"] (sp_law (K w.params))) :
    PySem.W.WalkO q loose XP YP l.row.toRowW d [] (fun f vs => PySem.call f vs) :=
  L2.walk_ofG (n := 63) (k := 7) (x := "script") (sp := fun w => sp_law (K w.params)) hn (by decide) hdf ⟨rfl, by decide, by decide⟩ rfl hY F
    (fun _ H a ns hl _ hS => ⟨H, [], .ref a, ⟨ns⟩, rfl, ⟨Same.refl _, (fun _ z => nomatch z), List.Pairwise.nil, (fun _ z => nomatch z)⟩, ⟨a, rfl, hS⟩, by rw [law_true ns hl]; exact fun v F2 H2 w s r => r⟩)
end G
open PySem PySem.W PyProof.Rows
set_option maxRecDepth 100000 in
set_option maxHeartbeats 0 in
theorem PySem.Challenge.cw_farhail_k17_whole_webs_numbered_otherwis_holds : PySem.Challenge.rw_farhail_k17_whole_webs_numbered_otherwis.Holds := by
  refine HD.whole ?_
  k_fill
  refine G.walk (l := PySem.Challenge.rw_farhail_k17_whole_webs_numbered_otherwis) rfl rfl (fun w h Y => PySem.W.kIn_of Y) ?F
  case F =>
    intro w mg fa h KX Gn hmg
    refine' G.all_mk KX Gn hmg ?a9 ?l9 ?c9 ?k9 ?a11 ?l11 ?c11 ?k11 ?a12 ?l12 ?c12 ?k12 ?a13 ?l13 ?c13 ?k13 ?a14 ?l14 ?c14 ?k14 ?a15 ?l15 ?c15 ?k15 ?a16 ?l16 ?c16 ?k16 ?a18 ?l18 ?c18 ?k18 ?a19 ?l19 ?c19 ?k19 ?a20 ?l20 ?c20 ?k20 ?a21 ?l21 ?c21 ?k21 ?a22 ?l22 ?c22 ?k22 ?a24 ?l24 ?c24 ?k24 ?a25 ?l25 ?c25 ?k25 ?a26 ?l26 ?c26 ?k26 ?a27 ?l27 ?c27 ?k27 ?a28 ?l28 ?c28 ?k28 ?a30 ?l30 ?c30 ?k30 ?a32 ?l32 ?c32 ?k32 ?a34 ?l34 ?c34 ?k34 ?a35 ?l35 ?c35 ?k35 ?a36 ?l36 ?c36 ?k36 ?a37 ?l37 ?c37 ?k37 ?a38 ?l38 ?c38 ?k38 ?a40 ?l40 ?c40 ?k40 ?a41 ?l41 ?c41 ?k41 ?a42 ?l42 ?c42 ?k42 ?a43 ?l43 ?c43 ?k43 ?a44 ?l44 ?c44 ?k44 ?a45 ?l45 ?c45 ?k45 ?a46 ?l46 ?c46 ?k46 ?a47 ?l47 ?c47 ?k47 ?a48 ?l48 ?c48 ?k48 ?a49 ?l49 ?c49 ?k49 ?a50 ?l50 ?c50 ?k50 ?a51 ?l51 ?c51 ?k51 ?a52 ?l52 ?c52 ?k52 ?a53 ?l53 ?c53 ?k53 ?a54 ?l54 ?c54 ?k54 ?a55 ?l55 ?c55 ?k55 ?kc_MOST_PLACES ?z_abs ?z_all ?z_enumerate ?z_int ?z_isinstance ?z_len ?z_list ?z_max ?z_min ?z_range ?z_set ?z_sorted ?z_str ?z_tuple
    (case a9 => k_is); (case l9 => k_is); (case c9 => k_is); (case k9 => k_is)
    (case a11 => k_is); (case l11 => k_is); (case c11 => k_is); (case k11 => k_is)
    (case a12 => k_is); (case l12 => k_is); (case c12 => k_is); (case k12 => k_is)
    (case a13 => k_is); (case l13 => k_is); (case c13 => k_is); (case k13 => k_is)
    (case a14 => k_is); (case l14 => k_is); (case c14 => k_is); (case k14 => k_is)
    (case a15 => k_is); (case l15 => k_is); (case c15 => k_is); (case k15 => k_is)
    (case a16 => k_is); (case l16 => k_is); (case c16 => k_is); (case k16 => k_is)
    (case a18 => k_is); (case l18 => k_is); (case c18 => k_is); (case k18 => k_is)
    (case a19 => k_is); (case l19 => k_is); (case c19 => k_is); (case k19 => k_is)
    (case a20 => k_is); (case l20 => k_is); (case c20 => k_is); (case k20 => k_is)
    (case a21 => k_is); (case l21 => k_is); (case c21 => k_is); (case k21 => k_is)
    (case a22 => k_is); (case l22 => k_is); (case c22 => k_is); (case k22 => k_is)
    (case a24 => k_is); (case l24 => k_is); (case c24 => k_is); (case k24 => k_is)
    (case a25 => k_is); (case l25 => k_is); (case c25 => k_is); (case k25 => k_is)
    (case a26 => k_is); (case l26 => k_is); (case c26 => k_is); (case k26 => k_is)
    (case a27 => k_is); (case l27 => k_is); (case c27 => k_is); (case k27 => k_is)
    (case a28 => k_is); (case l28 => k_is); (case c28 => k_is); (case k28 => k_is)
    (case a30 => k_is); (case l30 => k_is); (case c30 => k_is); (case k30 => k_is)
    (case a32 => k_is); (case l32 => k_is); (case c32 => k_is); (case k32 => k_is)
    (case a34 => k_is); (case l34 => k_is); (case c34 => k_is); (case k34 => k_is)
    (case a35 => k_is); (case l35 => k_is); (case c35 => k_is); (case k35 => k_is)
    (case a36 => k_is); (case l36 => k_is); (case c36 => k_is); (case k36 => k_is)
    (case a37 => k_is); (case l37 => k_is); (case c37 => k_is); (case k37 => k_is)
    (case a38 => k_is); (case l38 => k_is); (case c38 => k_is); (case k38 => k_is)
    (case a40 => k_is); (case l40 => k_is); (case c40 => k_is); (case k40 => k_is)
    (case a41 => k_is); (case l41 => k_is); (case c41 => k_is); (case k41 => k_is)
    (case a42 => k_is); (case l42 => k_is); (case c42 => k_is); (case k42 => k_is)
    (case a43 => k_is); (case l43 => k_is); (case c43 => k_is); (case k43 => k_is)
    (case a44 => k_is); (case l44 => k_is); (case c44 => k_is); (case k44 => k_is)
    (case a45 => k_is); (case l45 => k_is); (case c45 => k_is); (case k45 => k_is)
    (case a46 => k_is); (case l46 => k_is); (case c46 => k_is); (case k46 => k_is)
    (case a47 => k_is); (case l47 => k_is); (case c47 => k_is); (case k47 => k_is)
    (case a48 => k_is); (case l48 => k_is); (case c48 => k_is); (case k48 => k_is)
    (case a49 => k_is); (case l49 => k_is); (case c49 => k_is); (case k49 => k_is)
    (case a50 => k_is); (case l50 => k_is); (case c50 => k_is); (case k50 => k_is)
    (case a51 => k_is); (case l51 => k_is); (case c51 => k_is); (case k51 => k_is)
    (case a52 => k_is); (case l52 => k_is); (case c52 => k_is); (case k52 => k_is)
    (case a53 => k_is); (case l53 => k_is); (case c53 => k_is); (case k53 => k_is)
    (case a54 => k_is); (case l54 => k_is); (case c54 => k_is); (case k54 => k_is)
    (case a55 => k_is); (case l55 => k_is); (case c55 => k_is); (case k55 => k_is)
    (case kc_MOST_PLACES => k_is)
    (case z_abs => k_is)
    (case z_all => k_is)
    (case z_enumerate => k_is)
    (case z_int => k_is)
    (case z_isinstance => k_is)
    (case z_len => k_is)
    (case z_list => k_is)
    (case z_max => k_is)
    (case z_min => k_is)
    (case z_range => k_is)
    (case z_set => k_is)
    (case z_sorted => k_is)
    (case z_str => k_is)
    (case z_tuple => k_is)
#print axioms PySem.Challenge.cw_farhail_k17_whole_webs_numbered_otherwis_holds
