import PyProof.Rows.All
import Wide.All
import OpenK.AllK
import Wide.FinOn
import HandS.ForMost
import HandS.Wide
import HandS.Walk
import HandS.Deep
import HandS.SortInts
import HandS.Flow
import HandS.IsInst
import PyProof.P3In
import HandS.TupSets
import HandS.Dict
import HandS.Conv
import HandS.SortRule
import KE.KIsAll
import HandS.Base
import HandS.Call
import HandS.Exc
import HandS.ExcOwn
import HandS.ExcIs
import HandS.ExcValue
import HandS.TryOnly
import HandS.WordsExc
import HandS.TupAny
import HandS.DictTup
import KE.KDictWalk
import PyProof.DictMoreH
import HandS.Iter
import HandS.SetKeys
import KE.IntBitsLaws
import PyProof.AutoSeq1
import HandS.SetFor
import HandS.Strs
import HandS.More
import PySem.Challenge.RW_farhail_k49_whole_shares_of_known_webs
set_option Elab.async false
set_option linter.all false
set_option maxRecDepth 100000
set_option maxHeartbeats 4000000
/-! Z0: results with refusals, data as it stands in a heap, the heap in a frozen part and cells of one's own -/
namespace Z
open PySem L2
abbrev Fg := PySem.W.Frag
/-! ### results -/
structure Exn where
  cls : Str
  arg : Int
  deriving DecidableEq
inductive R (α : Type) where
  | ok (a : α)
  | exc (e : Exn)
  | bad
def R.bind {α β : Type} (m : R α) (f : α → R β) : R β :=
  match m with
  | .ok a => f a
  | .exc e => .exc e
  | .bad => .bad
instance : Monad R where
  pure := R.ok
  bind := R.bind
section
variable {α β γ : Type}
theorem ok_bind (a : α) (f : α → R β) : (R.ok a >>= f) = f a := rfl
theorem bind_bind (m : R α) (f : α → R β) (g : β → R γ) : ((m >>= f) >>= g) = (m >>= fun a => f a >>= g) := by
  cases m <;> rfl
theorem bind_ok_iff {m : R α} {f : α → R β} {b : β} : (m >>= f) = R.ok b ↔ ∃ a, m = R.ok a ∧ f a = R.ok b := by
  cases m with
  | ok a => exact ⟨fun h => ⟨a, rfl, h⟩, fun ⟨_, h1, h2⟩ => by cases h1; exact h2⟩
  | exc e => exact ⟨fun h => (nomatch (show R.exc e = R.ok b from h)), fun ⟨_, h1, _⟩ => nomatch h1⟩
  | bad => exact ⟨fun h => (nomatch (show R.bad = R.ok b from h)), fun ⟨_, h1, _⟩ => nomatch h1⟩
def grd (b : Bool) : R Unit := if b = true then .ok () else .bad
theorem grd_t {b : Bool} (h : b = true) : grd b = R.ok () := by rw [h]; rfl
def ofO (o : Option α) : R α :=
  match o with
  | some a => .ok a
  | none => .bad
theorem ofO_some (a : α) : ofO (some a) = R.ok a := rfl
/-- the item at an index of any sign -/
def getI (xs : List α) (i : Int) : R α := ofO (atI xs i)
/-- the list with another item at an index -/
def setI (xs : List α) (i : Int) (x : α) : R (List α) :=
  match ixN xs.length i with
  | some j => .ok (xs.set j x)
  | none => .bad
/-- a list of at most a thousand items grows by one -/
def app (xs : List α) (x : α) : R (List α) := if xs.length < 100000 then .ok (xs ++ [x]) else .bad
def extend (xs ys : List α) : R (List α) := if xs.length + ys.length < 100000 then .ok (xs ++ ys) else .bad
@[irreducible] def mulI (i j : Int) : R Int := if (-(2 ^ 64) < i ∧ i < 2 ^ 64) ∨ (-(2 ^ 64) < j ∧ j < 2 ^ 64) then .ok (i * j) else .bad
@[irreducible] def modI (i j : Int) : R Int := if 0 < j then .ok (i % j) else .bad
@[irreducible] def divI (i j : Int) : R Int := if 0 < j ∧ j.natAbs.log2 < 9000 then .ok (i / j) else .bad
/-- the ints from i on below j -/
def rng (i j : Int) : List Int := (List.range (j - i).toNat).map fun (k : Nat) => i + (k : Int)
@[irreducible] def rngI (i j : Int) : R (List Int) := if -(2 ^ 62) ≤ i ∧ i < 2 ^ 62 ∧ -(2 ^ 62) ≤ j ∧ j < 2 ^ 62 then .ok (rng i j) else .bad
/-- items for items -/
def mapR (f : α → R β) : List α → R (List β)
  | [] => .ok []
  | x :: xs => do
    let y ← f x
    let ys ← mapR f xs
    pure (y :: ys)
/-- a fold whose turn may leave -/
def foldR (f : β → α → R β) : β → List α → R β
  | s, [] => .ok s
  | s, x :: xs => f s x >>= fun s' => foldR f s' xs
/-- a fold whose turn may end the whole with a value (inl), or the loop alone (inr inl) -/
def foldX {ρ : Type} (f : β → α → R (Sum ρ (Bool × β))) : β → List α → R (Sum ρ β)
  | s, [] => .ok (.inr s)
  | s, x :: xs => f s x >>= fun r =>
    match r with
    | .inl z => .ok (.inl z)
    | .inr (true, s') => foldX f s' xs
    | .inr (false, s') => .ok (.inr s')
/-- what holds of a result -/
def Post (m : R α) (P : α → Prop) (E : Exn → Prop) : Prop :=
  match m with
  | .ok a => P a
  | .exc e => E e
  | .bad => False
variable {P P' : α → Prop} {Q : β → Prop} {E E' : Exn → Prop}
theorem Post.mono {m : R α} (h : Post m P E) (hP : ∀ a, P a → P' a) (hE : ∀ e, E e → E' e) : Post m P' E' := by
  cases m with
  | ok a => exact hP a h
  | exc e => exact hE e h
  | bad => exact h
theorem post_bind {m : R α} {f : α → R β} (h : Post (m >>= f) Q E) : Post m (fun a => Post (f a) Q E) E := by
  cases m <;> exact h
theorem post_ok {a : α} (h : Post (R.ok a) P E) : P a := h
theorem pb_assoc {m : R α} {f : α → R β} {g : β → R γ} {Q : γ → Prop} (h : Post ((m >>= f) >>= g) Q E) : Post (m >>= fun a => f a >>= g) Q E := by
  rw [bind_bind] at h
  exact h
theorem pb_grd {b : Bool} {f : Unit → R β} (h : Post (grd b >>= f) Q E) : b = true ∧ Post (f ()) Q E := by
  cases b with
  | true => exact ⟨rfl, h⟩
  | false => exact (show False from h).elim
theorem pb_ofO {o : Option α} {f : α → R β} (h : Post (ofO o >>= f) Q E) : ∃ a, o = some a ∧ Post (f a) Q E := by
  cases o with
  | some a => exact ⟨a, rfl, h⟩
  | none => exact (show False from h).elim
theorem pb_get {xs : List α} {i : Int} {f : α → R β} (h : Post (getI xs i >>= f) Q E) : ∃ a, atI xs i = some a ∧ Post (f a) Q E := pb_ofO h
theorem pb_set {xs : List α} {i : Int} {x : α} {f : List α → R β} (h : Post (setI xs i x >>= f) Q E) : ∃ j, ixN xs.length i = some j ∧ Post (f (xs.set j x)) Q E := by
  unfold setI at h
  cases e : ixN xs.length i with
  | some j => rw [e] at h; exact ⟨j, rfl, h⟩
  | none => rw [e] at h; exact (show False from h).elim
theorem pb_if {c : Prop} [Decidable c] {a : α} {f : α → R β} (h : Post ((if c then R.ok a else R.bad) >>= f) Q E) : c ∧ Post (f a) Q E := by
  by_cases hc : c
  · rw [if_pos hc] at h
    exact ⟨hc, h⟩
  · rw [if_neg hc] at h
    exact (show False from h).elim
theorem line5 : 100000 ≤ sizeLine := by decide
theorem pb_app {xs : List α} {x : α} {f : List α → R β} (h : Post (app xs x >>= f) Q E) : xs.length < sizeLine ∧ Post (f (xs ++ [x])) Q E :=
  let ⟨a, b⟩ := pb_if h
  ⟨Nat.lt_of_lt_of_le a line5, b⟩
theorem pb_extend {xs ys : List α} {f : List α → R β} (h : Post (extend xs ys >>= f) Q E) : xs.length + ys.length ≤ sizeLine ∧ Post (f (xs ++ ys)) Q E :=
  let ⟨a, b⟩ := pb_if h
  ⟨Nat.le_of_lt (Nat.lt_of_lt_of_le a line5), b⟩
theorem pb_mul {i j : Int} {f : Int → R β} (h : Post (mulI i j >>= f) Q E) : CMul i j ∧ Post (f (i * j)) Q E := by
  unfold mulI at h
  exact let ⟨a, b⟩ := pb_if (c := (-(2 ^ 64) < i ∧ i < 2 ^ 64) ∨ (-(2 ^ 64) < j ∧ j < 2 ^ 64)) h
  ⟨a, b⟩
theorem pb_mod {i j : Int} {f : Int → R β} (h : Post (modI i j >>= f) Q E) : 0 < j ∧ Post (f (i % j)) Q E := by
  unfold modI at h
  exact pb_if h
theorem pb_div {i j : Int} {f : Int → R β} (h : Post (divI i j >>= f) Q E) : CDivW i j ∧ Post (f (i / j)) Q E := by
  unfold divI at h
  exact let ⟨a, b⟩ := pb_if (c := 0 < j ∧ j.natAbs.log2 < 9000) h
  ⟨a, b⟩
theorem pb_rng {i j : Int} {f : List Int → R β} (h : Post (rngI i j >>= f) Q E) : (-(2 ^ 62) ≤ i ∧ i < 2 ^ 62 ∧ -(2 ^ 62) ≤ j ∧ j < 2 ^ 62) ∧ Post (f (rng i j)) Q E := by
  unfold rngI at h
  exact pb_if h
theorem post_ite {c : Bool} {m n : R α} {A B : Prop} (h : Post (if c = true then m else n) P E) (ht : c = true → Post m P E → A) (hf : c = false → Post n P E → B) : if c = true then A else B := by
  cases c with
  | true => exact ht rfl h
  | false => exact hf rfl h
theorem pb_foldR {f : γ → α → R γ} {s : γ} {x : α} {xs : List α} {g : γ → R β} (h : Post (foldR f s (x :: xs) >>= g) Q E) : Post (f s x >>= fun s' => foldR f s' xs >>= g) Q E := by
  have h' : Post ((f s x >>= fun s' => foldR f s' xs) >>= g) Q E := h
  rw [bind_bind] at h'
  exact h'
end
/-! ### lists of values and what they stand for -/
inductive A2 {α : Type} (r : V → α → Prop) : List V → List α → Prop
  | nil : A2 r [] []
  | cons {v : V} {x : α} {vs : List V} {xs : List α} : r v x → A2 r vs xs → A2 r (v :: vs) (x :: xs)
section
variable {α : Type} {r r' : V → α → Prop} {vs us : List V} {xs ys : List α} {v : V} {x : α}
theorem A2.length : ∀ {vs : List V} {xs : List α}, A2 r vs xs → vs.length = xs.length
  | _, _, .nil => rfl
  | _, _, .cons _ t => by rw [List.length_cons, List.length_cons, A2.length t]
theorem A2.imp (f : ∀ v x, r v x → r' v x) : ∀ {vs : List V} {xs : List α}, A2 r vs xs → A2 r' vs xs
  | _, _, .nil => .nil
  | _, _, .cons h t => .cons (f _ _ h) (A2.imp f t)
theorem A2.append : ∀ {vs us : List V} {xs ys : List α}, A2 r vs xs → A2 r us ys → A2 r (vs ++ us) (xs ++ ys)
  | _, _, _, _, .nil, h => h
  | _, _, _, _, .cons a t, h => .cons a (A2.append t h)
theorem A2.snoc (h : A2 r vs xs) (a : r v x) : A2 r (vs ++ [v]) (xs ++ [x]) := h.append (.cons a .nil)
theorem A2.get : ∀ {vs : List V} {xs : List α} {i : Nat} {x : α}, A2 r vs xs → xs[i]? = some x → ∃ v, vs[i]? = some v ∧ r v x
  | _, _, _, _, .nil, e => by simp at e
  | _, _, 0, _, .cons a _, e => by simp at e; subst e; exact ⟨_, rfl, a⟩
  | _, _, i + 1, x, .cons _ t, e => by
    obtain ⟨v, h1, h2⟩ := A2.get (i := i) (x := x) t (by simpa using e)
    exact ⟨v, by simpa using h1, h2⟩
theorem A2.getV : ∀ {vs : List V} {xs : List α} {i : Nat} {v : V}, A2 r vs xs → vs[i]? = some v → ∃ x, xs[i]? = some x ∧ r v x
  | _, _, _, _, .nil, e => by simp at e
  | _, _, 0, _, .cons a _, e => by simp at e; subst e; exact ⟨_, rfl, a⟩
  | _, _, i + 1, x, .cons _ t, e => by
    obtain ⟨v, h1, h2⟩ := A2.getV (i := i) (v := x) t (by simpa using e)
    exact ⟨v, by simpa using h1, h2⟩
theorem A2.at {i : Int} (h : A2 r vs xs) (e : atI xs i = some x) : ∃ v, atI vs i = some v ∧ r v x := by
  unfold atI at e ⊢
  rw [h.length]
  cases q : ixN xs.length i with
  | none => rw [q] at e; cases e
  | some j =>
    rw [q] at e
    exact h.get e
theorem A2.set (a : r v x) : ∀ {vs : List V} {xs : List α} (i : Nat), A2 r vs xs → A2 r (vs.set i v) (xs.set i x)
  | _, _, _, .nil => .nil
  | _, _, 0, .cons _ t => .cons a t
  | _, _, i + 1, .cons q t => .cons q (A2.set a i t)
theorem A2.take : ∀ {vs : List V} {xs : List α} (n : Nat), A2 r vs xs → A2 r (vs.take n) (xs.take n)
  | _, _, 0, _ => .nil
  | _, _, _ + 1, .nil => .nil
  | _, _, n + 1, .cons a t => .cons a (A2.take n t)
theorem A2.drop : ∀ {vs : List V} {xs : List α} (n : Nat), A2 r vs xs → A2 r (vs.drop n) (xs.drop n)
  | _, _, 0, h => h
  | _, _, _ + 1, .nil => .nil
  | _, _, n + 1, .cons _ t => A2.drop n t
end
/-! ### data in a heap -/
class Rep (α : Type) where
  rep : Fg → Hp → V → α → Prop
  mono : ∀ {K : Fg} {H H' : Hp} {v : V} {x : α}, Same H H' → rep K H v x → rep K H' v x
open Rep (rep)
section
variable {α β : Type} [Rep α] [Rep β] {K : Fg} {H H' : Hp} {v : V}
theorem A2.mono {vs : List V} {xs : List α} (s : Same H H') (h : A2 (rep K H) vs xs) : A2 (rep K H') vs xs := h.imp fun _ _ => Rep.mono s
instance : Rep Int := ⟨fun _ _ v x => v = .int x, fun _ h => h⟩
instance : Rep Bool := ⟨fun _ _ v x => v = .bl x, fun _ h => h⟩
instance : Rep Unit := ⟨fun _ _ v _ => v = .non, fun _ h => h⟩
instance : Rep Str := ⟨fun _ _ v x => v = .str x, fun _ h => h⟩
instance repOpt : Rep (Option α) := ⟨fun K H v x => match x with
  | none => v = .non
  | some y => rep K H v y, fun {_ _ _ _ x} s h => by
    cases x with
    | none => exact h
    | some y => exact Rep.mono (α := α) s h⟩
instance repPair : Rep (α × β) := ⟨fun K H v x => ∃ a u w, v = .ref a ∧ H a = some (.tup [u, w]) ∧ rep K H u x.1 ∧ rep K H w x.2,
  fun s ⟨a, u, w, e, q, h1, h2⟩ => ⟨a, u, w, e, s _ _ q, Rep.mono s h1, Rep.mono s h2⟩⟩
instance repList : Rep (List α) := ⟨fun K H v xs => ∃ a vs, v = .ref a ∧ H a = some (.lst vs) ∧ A2 (rep K H) vs xs,
  fun s ⟨a, vs, e, q, h⟩ => ⟨a, vs, e, s _ _ q, h.mono s⟩⟩
/-- the script -/
structure Scr where
  l : List Int
  deriving DecidableEq
instance repScr : Rep Scr := ⟨fun K H v xs => ∃ a, v = .ref a ∧ SqL K H a (xs.l.map V.int), fun s ⟨a, e, q⟩ => ⟨a, e, s.seq q⟩⟩
/-- a tuple of any number of like things -/
structure Tup (α : Type) where
  l : List α
  deriving DecidableEq
instance repTup : Rep (Tup α) := ⟨fun K H v xs => ∃ a vs, v = .ref a ∧ H a = some (.tup vs) ∧ A2 (rep K H) vs xs.l,
  fun s ⟨a, vs, e, q, h⟩ => ⟨a, vs, e, s _ _ q, h.mono s⟩⟩
/-- a place, or a pair -/
inductive Thing where
  | pl (i : Int)
  | ti (a b : Int)
  deriving DecidableEq
instance repThing : Rep Thing := ⟨fun K H v x => match x with
  | .pl i => v = .int i
  | .ti a b => rep K H v (a, b), fun {_ _ _ _ x} s h => by
    cases x with
    | pl i => exact h
    | ti a b => exact Rep.mono (α := Int × Int) s h⟩
theorem A2.ints {vs : List V} {xs : List Int} (h : A2 (rep K H) vs xs) : vs = xs.map V.int := by
  induction h with
  | nil => rfl
  | cons a _ ih =>
    have a' : _ = V.int _ := a
    rw [a', ih]
    rfl
theorem A2.of_ints {xs : List Int} : A2 (rep K H) (xs.map V.int) xs := by
  induction xs with
  | nil => exact .nil
  | cons x xs ih => exact .cons rfl ih
theorem A2.bools {vs : List V} {xs : List Bool} (h : A2 (rep K H) vs xs) : vs = xs.map V.bl := by
  induction h with
  | nil => rfl
  | cons a _ ih =>
    have a' : _ = V.bl _ := a
    rw [a', ih]
    rfl
end
/-! ### the heap: F, frozen, is read alone; the cells os are one's own, not in F -/
structure W (F H : Hp) (os : List (Addr × HO)) : Prop where
  same : Same F H
  own : ∀ p ∈ os, H p.1 = some p.2 ∧ F p.1 = none
  nd : os.Pairwise fun p q => p.1 ≠ q.1
  nt : ∀ p ∈ os, ∀ vs, p.2 ≠ .tup vs
theorem same_new {H : Hp} {p : Addr} {o : HO} (h : H p = none) : Same H (upd H p o) := fun a u e => by
  rw [upd_ne (ne_of_none e h)]
  exact e
section
variable {F H : Hp} {os pre post : List (Addr × HO)} {a p : Addr} {o o' : HO}
theorem W.free (w : W F H os) (n : H p = none) : F p = none := w.same.free n
theorem W.get (w : W F H (pre ++ (a, o) :: post)) : H a = some o := (w.own (a, o) (List.mem_append_right _ List.mem_cons_self)).1
theorem W.no (w : W F H (pre ++ (a, o) :: post)) : F a = none := (w.own (a, o) (List.mem_append_right _ List.mem_cons_self)).2
theorem W.ne (w : W F H os) (n : H p = none) : ∀ q ∈ os, q.1 ≠ p := fun q hq e => by
  have h := (w.own q hq).1
  rw [e, n] at h
  cases h
/-- a new thing, never to be written -/
theorem W.frz (w : W F H os) (n : H p = none) : W (upd F p o) (upd H p o) os where
  same := fun b u e => by
    by_cases hb : b = p
    · subst hb
      rw [upd_same] at e ⊢
      exact e
    · rw [upd_ne hb] at e ⊢
      exact w.same b u e
  own := fun q hq => by
    have hne := w.ne n q hq
    rw [upd_ne hne, upd_ne hne]
    exact w.own q hq
  nd := w.nd
  nt := w.nt
theorem W.frzS (w : W F H os) (n : H p = none) : Same F (upd F p o) := same_new (w.free n)
/-- a new cell of one's own -/
theorem W.new (w : W F H os) (n : H p = none) (ho : ∀ vs, o ≠ .tup vs := by exact fun _ h => nomatch h) : W F (upd H p o) ((p, o) :: os) where
  same := w.same.trans (same_new n)
  own := fun q hq => by
    rcases List.mem_cons.mp hq with rfl | hq
    · exact ⟨upd_same, w.free n⟩
    · rw [upd_ne (w.ne n q hq)]
      exact w.own q hq
  nd := List.pairwise_cons.mpr ⟨fun q hq => fun e => w.ne n q hq e.symm, w.nd⟩
  nt := fun q hq => by
    rcases List.mem_cons.mp hq with rfl | hq
    · exact ho
    · exact w.nt q hq
/-- a cell of one's own is written -/
theorem W.set (w : W F H (pre ++ (a, o) :: post)) (ho : ∀ vs, o' ≠ .tup vs := by exact fun _ h => nomatch h) : W F (upd H a o') (pre ++ (a, o') :: post) where
  same := fun b u e => by
    have hn := w.no
    rw [upd_ne (ne_of_none e hn)]
    exact w.same b u e
  own := fun q hq => by
    have nd := w.nd
    rw [List.pairwise_append] at nd
    obtain ⟨_, n2, n3⟩ := nd
    rw [List.pairwise_cons] at n2
    rcases List.mem_append.mp hq with hq | hq
    · have hne : q.1 ≠ a := n3 q hq (a, o) List.mem_cons_self
      rw [upd_ne hne]
      exact w.own q (List.mem_append_left _ hq)
    · rcases List.mem_cons.mp hq with rfl | hq
      · exact ⟨upd_same, w.no⟩
      · have hne : q.1 ≠ a := fun e => n2.1 q hq e.symm
        rw [upd_ne hne]
        exact w.own q (List.mem_append_right _ (List.mem_cons_of_mem _ hq))
  nd := by
    have nd := w.nd
    rw [List.pairwise_append] at nd ⊢
    obtain ⟨n1, n2, n3⟩ := nd
    rw [List.pairwise_cons] at n2 ⊢
    refine ⟨n1, ⟨n2.1, n2.2⟩, fun x hx y hy => ?_⟩
    rcases List.mem_cons.mp hy with rfl | hy
    · exact n3 x hx (a, o) List.mem_cons_self
    · exact n3 x hx y (List.mem_cons_of_mem _ hy)
  nt := fun q hq => by
    rcases List.mem_append.mp hq with hq | hq
    · exact w.nt q (List.mem_append_left _ hq)
    · rcases List.mem_cons.mp hq with rfl | hq
      · exact ho
      · exact w.nt q (List.mem_append_right _ (List.mem_cons_of_mem _ hq))
/-- a cell is forgotten -/
theorem W.drop (w : W F H (pre ++ (a, o) :: post)) : W F H (pre ++ post) where
  same := w.same
  own := fun q hq => w.own q (by
    rcases List.mem_append.mp hq with h | h
    · exact List.mem_append_left _ h
    · exact List.mem_append_right _ (List.mem_cons_of_mem _ h))
  nd := by
    have nd := w.nd
    rw [List.pairwise_append] at nd ⊢
    obtain ⟨n1, n2, n3⟩ := nd
    rw [List.pairwise_cons] at n2
    exact ⟨n1, n2.2, fun x hx y hy => n3 x hx y (List.mem_cons_of_mem _ hy)⟩
  nt := fun q hq => w.nt q (by
    rcases List.mem_append.mp hq with h | h
    · exact List.mem_append_left _ h
    · exact List.mem_append_right _ (List.mem_cons_of_mem _ h))
/-- a cell of one's own is never written again -/
theorem W.freeze (w : W F H (pre ++ (a, o) :: post)) : W (upd F a o) H (pre ++ post) where
  same := fun b u e => by
    by_cases hb : b = a
    · subst hb
      rw [upd_same] at e
      rw [← e]
      exact w.get
    · rw [upd_ne hb] at e
      exact w.same b u e
  own := fun q hq => by
    have nd := w.nd
    rw [List.pairwise_append] at nd
    obtain ⟨n1, n2, n3⟩ := nd
    rw [List.pairwise_cons] at n2
    have hne : q.1 ≠ a := by
      rcases List.mem_append.mp hq with h | h
      · exact n3 q h (a, o) List.mem_cons_self
      · exact fun e => n2.1 q h e.symm
    have h := w.drop.own q hq
    rw [upd_ne hne]
    exact h
  nd := w.drop.nd
  nt := w.drop.nt
theorem W.freezeS (w : W F H (pre ++ (a, o) :: post)) : Same F (upd F a o) := same_new w.no
/-- a cell is told first -/
theorem W.front (w : W F H (pre ++ (a, o) :: post)) : W F H ((a, o) :: (pre ++ post)) where
  same := w.same
  own := fun x hx => w.own x (by
    rcases List.mem_cons.mp hx with rfl | h
    · exact List.mem_append_right _ List.mem_cons_self
    · rcases List.mem_append.mp h with h | h
      · exact List.mem_append_left _ h
      · exact List.mem_append_right _ (List.mem_cons_of_mem _ h))
  nd := by
    have nd := w.nd
    have nd' := w.drop.nd
    rw [List.pairwise_append] at nd
    obtain ⟨n1, n2, n3⟩ := nd
    rw [List.pairwise_cons] at n2
    refine List.pairwise_cons.mpr ⟨fun x hx => ?_, nd'⟩
    rcases List.mem_append.mp hx with h | h
    · exact fun e => n3 x h (a, o) List.mem_cons_self e.symm
    · exact n2.1 x h
  nt := fun x hx => w.nt x (by
    rcases List.mem_cons.mp hx with rfl | h
    · exact List.mem_append_right _ List.mem_cons_self
    · rcases List.mem_append.mp h with h | h
      · exact List.mem_append_left _ h
      · exact List.mem_append_right _ (List.mem_cons_of_mem _ h))
end
/-! ### what a call hands back -/
section
variable {α β : Type} [Rep α] [Rep β]
/-- a value of the frozen part -/
def Ret (K : Fg) (F : Hp) (os : List (Addr × HO)) (Q : VK) (y : α) : Prop := ∀ v F' H', W F' H' os → Same F F' → rep K F' v y → Q v H'
/-- a new list, the caller's own -/
def RetL (K : Fg) (F : Hp) (os : List (Addr × HO)) (Q : VK) (ys : List α) : Prop := ∀ p vs F' H', W F' H' ((p, .lst vs) :: os) → Same F F' → A2 (rep K F') vs ys → Q (.ref p) H'
/-- a value, and what the list at a holds now -/
def RetM (K : Fg) (F : Hp) (a : Addr) (os : List (Addr × HO)) (Q : VK) (y : α × List β) : Prop :=
  ∀ v vs F' H', W F' H' ((a, .lst vs) :: os) → Same F F' → rep K F' v y.1 → A2 (rep K F') vs y.2 → Q v H'
/-- a new list, the caller's own, and what the list at a holds now -/
def RetLM (K : Fg) (F : Hp) (a : Addr) (os : List (Addr × HO)) (Q : VK) (y : List α × List β) : Prop :=
  ∀ p us vs F' H', W F' H' ((p, .lst us) :: (a, .lst vs) :: os) → Same F F' → A2 (rep K F') us y.1 → A2 (rep K F') vs y.2 → Q (.ref p) H'
def noX : Exn → Prop := fun _ => False
end
end Z
/-! Z1: loops, comprehensions and joins against their mirrors; calls by typed data -/
namespace Z
open PySem L2
open Rep (rep)
/-! ### ways that join -/
section
variable {γ δ : Type} {m : R γ} {k : γ → R δ} {P : δ → Prop} {X : Exn → Prop}
theorem joinS {t u : TS} {D : Ends} {σ : St} {H : Hp} (hm : Post (m >>= k) P X) (J : γ → St → Hp → Prop)
    (h : ∀ (N : St → Hp → Prop) (P' : γ → Prop), (∀ g, P' g → ∀ σ' H', J g σ' H' → N σ' H') → Post m P' X → t { D with nx := N } σ H)
    (h2 : ∀ g σ' H', J g σ' H' → Post (k g) P X → u D σ' H') : tSeq t u D σ H :=
  h _ _ (fun g p σ' H' j => h2 g σ' H' j p) (post_bind hm)
theorem joinT {t : TT} {σ : St} {H : Hp} {Q : Bool → Hp → Prop} (hm : Post (m >>= k) P X) (J : γ → Bool → Hp → Prop)
    (h : ∀ (Q' : Bool → Hp → Prop) (P' : γ → Prop), (∀ g, P' g → ∀ c H', J g c H' → Q' c H') → Post m P' X → t σ H Q')
    (h2 : ∀ g c H', J g c H' → Post (k g) P X → Q c H') : t σ H Q :=
  h _ _ (fun g p c H' j => h2 g c H' j p) (post_bind hm)
theorem joinE {t : TE} {σ : St} {H : Hp} {Q : VK} (hm : Post (m >>= k) P X) (J : γ → V → Hp → Prop)
    (h : ∀ (Q' : VK) (P' : γ → Prop), (∀ g, P' g → ∀ c H', J g c H' → Q' c H') → Post m P' X → t σ H Q')
    (h2 : ∀ g c H', J g c H' → Post (k g) P X → Q c H') : t σ H Q :=
  h _ _ (fun g p c H' j => h2 g c H' j p) (post_bind hm)
/-- a test of a value that is told -/
theorem cutT {t : TT} {σ : St} {H : Hp} {Q : Bool → Hp → Prop} (J : Bool → Hp → Prop) (h : ∀ Q' : Bool → Hp → Prop, (∀ c H', J c H' → Q' c H') → t σ H Q') (h2 : ∀ c H', J c H' → Q c H') : t σ H Q := h _ h2
theorem ifB {c : Bool} {A B : Prop} (h1 : c = true → A) (h2 : c = false → B) : if c = true then A else B := by
  cases c with
  | true => exact h1 rfl
  | false => exact h2 rfl
end
/-! ### what is walked, typed -/
structure TW (J : It) {β : Type} (items : List β) (G : Hp → Prop) (Y : β → Hp → V → Hp → Prop) : Prop where
  walk : Walk J items.length G (fun i H x H' => ∃ b, items[i]? = some b ∧ Y b H x H')
section
variable {K : Fg} {F : Hp} {a : Addr} {α β : Type} [Rep α] [Rep β] {vs us : List V} {xs : List α} {ys : List β}
theorem tw_list (h : A2 (rep K F) vs xs) : TW (Itl K a) xs (fun H => SqL K H a vs) (fun b H x H' => H' = H ∧ rep K F x b) := ⟨by
  rw [← h.length]
  exact walk_list.mono (fun _ g => g) fun i H x H' _ _ y => by
    obtain ⟨y1, y2⟩ := y
    obtain ⟨b, h1, h2⟩ := h.getV y2
    exact ⟨b, h1, y1, h2⟩⟩
theorem tw_tup (h : A2 (rep K F) vs xs) : TW (Itt K a) xs (fun H => SqT K H a vs) (fun b H x H' => H' = H ∧ rep K F x b) := ⟨by
  rw [← h.length]
  exact walk_tup.mono (fun _ g => g) fun i H x H' _ _ y => by
    obtain ⟨y1, y2⟩ := y
    obtain ⟨b, h1, h2⟩ := h.getV y2
    exact ⟨b, h1, y1, h2⟩⟩
theorem rng_length (i j : Int) : (rng i j).length = (j - i).toNat := by
  unfold rng
  rw [List.length_map, List.length_range]
theorem rng_get {i j : Int} {n : Nat} (h : n < (j - i).toNat) : (rng i j)[n]? = some (i + (n : Int)) := by
  unfold rng
  rw [List.getElem?_map, List.getElem?_range h]
  rfl
theorem tw_rng {i j : Int} : TW (Itr i (j - i).toNat) (rng i j) (fun _ => True) (fun b H x H' => H' = H ∧ x = .int b) := ⟨by
  rw [rng_length]
  exact walk_range.mono (fun _ g => g) fun n H x H' hn _ y => ⟨_, rng_get hn, y.1, y.2⟩⟩
theorem tw_rng0 {j : Int} : TW (Itr 0 j.toNat) (rng 0 j) (fun _ => True) (fun b H x H' => H' = H ∧ x = .int b) := by
  have h := tw_rng (i := 0) (j := j)
  rw [Int.sub_zero] at h
  exact h
/-- pairs of a place and the item there -/
def enum (xs : List α) : List (Int × α) := (rng 0 xs.length).zip xs
theorem enum_length (xs : List α) : (enum xs).length = xs.length := by
  unfold enum
  rw [List.length_zip, rng_length]
  omega
theorem enum_get {xs : List α} {i : Nat} {x : α} (h : xs[i]? = some x) : (enum xs)[i]? = some ((i : Int), x) := by
  have hl := (List.getElem?_eq_some_iff.mp h).1
  unfold enum
  rw [List.getElem?_zip_eq_some]
  refine ⟨?_, h⟩
  rw [rng_get (by omega)]
  simp
theorem tw_enum (h : A2 (rep K F) vs xs) : TW (Ite K a) (enum xs) (fun H => SqL K H a vs) (fun b H v H' => ∃ T x, v = .ref T ∧ H T = none ∧ H' = upd H T (.tup [.int b.1, x]) ∧ rep K F x b.2) := ⟨by
  rw [enum_length, ← h.length]
  exact walk_enum.mono (fun _ g => g) fun i H x H' _ _ y => by
    obtain ⟨T, u, w, e1, e2, e3, e4, e5⟩ := y
    obtain ⟨b, h1, h2⟩ := h.getV e5
    cases e4
    exact ⟨((i : Int), b), enum_get h1, T, w, e1, e2, e3, h2⟩⟩
end
/-! ### for -/
section
variable {J : It} {β γ δ ρ : Type} {items : List β} {G : Hp → Prop} {Y : β → Hp → V → Hp → Prop} {g : TG} {tb : TS} {D : Ends} {σ : St} {H : Hp} {P : δ → Prop} {X : Exn → Prop}
theorem drop_cons {l : List β} {i : Nat} {b : β} (h : l[i]? = some b) : l.drop i = b :: l.drop (i + 1) := by
  obtain ⟨hl, e⟩ := List.getElem?_eq_some_iff.mp h
  rw [List.drop_eq_getElem_cons hl, e]
theorem forS (tw : TW J items G Y) {body : γ → β → R γ} {s0 : γ} {k : γ → R δ} (hm : Post (foldR body s0 items >>= k) P X) (I : γ → St → Hp → Prop) (h0 : I s0 σ H) (hG : ∀ c σ H, I c σ H → G H)
    (hs : ∀ (b : β) (c : γ) (x : V) (σ : St) (H H' : Hp) (N : St → Hp → Prop) (P' : γ → Prop), I c σ H → Y b H x H' → (∀ c', P' c' → ∀ σ' H', I c' σ' H' → N σ' H') → Post (body c b) P' X → g x σ H' fun σ2 H2 => tb { D with nx := N, ct := N, bk := D.nx } σ2 H2)
    (hd : ∀ c σ H, I c σ H → Post (k c) P X → D.nx σ H) :
    ∃ W : Nat → Nat → St → Hp → Prop, (∃ m, W 0 m σ H) ∧ ∀ i m σ H, W i m σ H →
      (J.stop i H ∧ D.nx σ H) ∨ (J.go i H ∧ ∃ N : St → Hp → Prop, (∀ σ' H', N σ' H' → ∃ m', m' < m ∧ W (i + 1) m' σ' H') ∧ ∀ x H', J.yld i H x H' → g x σ H' fun σ2 H2 => tb { D with nx := N, ct := N, bk := D.nx } σ2 H2) := by
  refine for_it tw.walk (fun i σ H => ∃ c, I c σ H ∧ Post (foldR body c (items.drop i) >>= k) P X) ⟨s0, h0, hm⟩ (fun i σ H _ ⟨c, h, _⟩ => hG c σ H h) ?_ ?_
  · rintro i x σ H H' hi ⟨c, h, hm⟩ ⟨b, hb, y⟩
    rw [drop_cons hb] at hm
    exact hs b c x σ H H' _ _ h y (fun c' p' σ' H' h' => ⟨c', h', p'⟩) (post_bind (pb_foldR hm))
  · rintro σ H ⟨c, h, hm⟩
    rw [List.drop_length] at hm
    exact hd c σ H h hm
/-- a for that may end the whole, or itself -/
theorem forX (tw : TW J items G Y) {body : γ → β → R (Sum ρ (Bool × γ))} {s0 : γ} {k : Sum ρ γ → R δ} (hm : Post (foldX body s0 items >>= k) P X) (I : γ → St → Hp → Prop) (h0 : I s0 σ H) (hG : ∀ c σ H, I c σ H → G H)
    (hs : ∀ (b : β) (c : γ) (x : V) (σ : St) (H H' : Hp) (N B : St → Hp → Prop) (P' : Sum ρ (Bool × γ) → Prop), I c σ H → Y b H x H' → (∀ c', P' (.inr (true, c')) → ∀ σ' H', I c' σ' H' → N σ' H') → (∀ c', P' (.inr (false, c')) → ∀ σ' H', I c' σ' H' → B σ' H') →
      (∀ z, P' (.inl z) → Post (k (.inl z)) P X) → Post (body c b) P' X → g x σ H' fun σ2 H2 => tb { D with nx := N, ct := N, bk := B } σ2 H2)
    (hd : ∀ c σ H, I c σ H → Post (k (.inr c)) P X → D.nx σ H) :
    ∃ W : Nat → Nat → St → Hp → Prop, (∃ m, W 0 m σ H) ∧ ∀ i m σ H, W i m σ H →
      (J.stop i H ∧ D.nx σ H) ∨ (J.go i H ∧ ∃ N : St → Hp → Prop, (∀ σ' H', N σ' H' → ∃ m', m' < m ∧ W (i + 1) m' σ' H') ∧ ∀ x H', J.yld i H x H' → g x σ H' fun σ2 H2 => tb { D with nx := N, ct := N, bk := D.nx } σ2 H2) := by
  refine for_it tw.walk (fun i σ H => ∃ c, I c σ H ∧ Post (foldX body c (items.drop i) >>= k) P X) ⟨s0, h0, hm⟩ (fun i σ H _ ⟨c, h, _⟩ => hG c σ H h) ?_ ?_
  · rintro i x σ H H' hi ⟨c, h, hm⟩ ⟨b, hb, y⟩
    rw [drop_cons hb] at hm
    have hm' : Post ((body c b >>= fun r => match r with
      | .inl z => (R.ok (.inl z) : R (Sum ρ γ))
      | .inr (true, s') => foldX body s' (items.drop (i + 1))
      | .inr (false, s') => R.ok (.inr s')) >>= k) P X := hm
    rw [bind_bind] at hm'
    exact hs b c x σ H H' _ _ _ h y (fun c' p' σ' H' h' => ⟨c', h', p'⟩) (fun c' p' σ' H' h' => hd c' σ' H' h' p') (fun z p' => p') (post_bind hm')
  · rintro σ H ⟨c, h, hm⟩
    rw [List.drop_length] at hm
    exact hd c σ H h hm
end
/-! ### comprehensions -/
/-- items for items, of a list that is not too long -/
def mapG {α β : Type} (f : α → R β) (xs : List α) : R (List β) := grd (decide (xs.length < 100000)) >>= fun _ => mapR f xs
/-- items for some items -/
def filR {α β : Type} (f : α → R (Option β)) : List α → R (List β)
  | [] => .ok []
  | x :: xs => f x >>= fun o => filR f xs >>= fun ys => match o with
    | some y => .ok (y :: ys)
    | none => .ok ys
def filG {α β : Type} (f : α → R (Option β)) (xs : List α) : R (List β) := grd (decide (xs.length < 100000)) >>= fun _ => filR f xs
/-- items for items, by a state that turns -/
def mapSt {α β γ : Type} (f : γ → α → R (β × γ)) : γ → List α → R (List β × γ)
  | s, [] => .ok ([], s)
  | s, x :: xs => f s x >>= fun p => mapSt f p.2 xs >>= fun q => .ok (p.1 :: q.1, q.2)
def mapStG {α β γ : Type} (f : γ → α → R (β × γ)) (s : γ) (xs : List α) : R (List β × γ) := grd (decide (xs.length < 100000)) >>= fun _ => mapSt f s xs
/-- items for some items, by a state that turns -/
def filSt {α β γ : Type} (f : γ → α → R (Option β × γ)) : γ → List α → R (List β × γ)
  | s, [] => .ok ([], s)
  | s, x :: xs => f s x >>= fun p => filSt f p.2 xs >>= fun q => match p.1 with
    | some y => .ok (y :: q.1, q.2)
    | none => .ok q
def filStG {α β γ : Type} (f : γ → α → R (Option β × γ)) (s : γ) (xs : List α) : R (List β × γ) := grd (decide (xs.length < 100000)) >>= fun _ => filSt f s xs
section
variable {J : It} {β γ δ ε : Type} {items : List β} {G : Hp → Prop} {Y : β → Hp → V → Hp → Prop} {g : TG} {tt : TT} {te : TE} {P : ε → Prop} {X : Exn → Prop} {K : Fg} {vs : List Nat} {σ : St} {F H1 : Hp} {os : List (Addr × HO)} {D : Addr} {Qd : Hp → Prop}
/-- what is asked of a comprehension's list D behind its walk J: by the readings' own words -/
abbrev LcAsk (J : It) (g : TG) (tt : TT) (te : TE) (vs : List Nat) (σ : St) (H1 : Hp) (D : Addr) (Qd : Hp → Prop) : Prop :=
  ∃ W : Nat → Nat → Hp → Prop, (∃ m, W 0 m (upd H1 D (.lst []))) ∧ ∀ i m H, W i m H →
      (J.stop i H ∧ Qd H) ∨ (J.go i H ∧ ∃ Nx : Hp → Prop, (∀ H', Nx H' → ∃ m', m' < m ∧ W (i + 1) m' H') ∧ ∀ x H', J.yld i H x H' → g x (wipe σ vs) H' fun σ2 H2 => wipe σ2 vs = wipe σ vs ∧ tt σ2 H2 fun b H3 =>
        if b = true then te σ2 H3 fun y H4 => ∃ acc, H4 D = some (.lst acc) ∧ acc.length < sizeLine ∧ Nx (upd H4 D (.lst (acc ++ [y]))) else Nx H3)
/-- the state and the items told of a comprehension: os by the state -/
theorem lcFil [Rep δ] (tw : TW J items G Y) {f : γ → β → R (Option δ × γ)} {s0 : γ} {k : List δ × γ → R ε} (hm : Post (filStG f s0 items >>= k) P X) (O : γ → Hp → List (Addr × HO) → Prop) (w : W F H1 os) (o0 : O s0 F os) (nD : H1 D = none)
    (hG : ∀ c F' H' os' acc, Same F F' → W F' H' ((D, .lst acc) :: os') → O c F' os' → G H')
    (hs : ∀ (b : β) (c : γ) (x : V) (F' H' H'' : Hp) (os' : List (Addr × HO)) (acc : List V) (N : V → Hp → Prop) (N0 : Hp → Prop) (P' : Option δ × γ → Prop), Same F F' → W F' H' ((D, .lst acc) :: os') → O c F' os' → Y b H' x H'' →
      (∀ d c', P' (some d, c') → ∀ y F'' H'' os'', W F'' H'' ((D, .lst acc) :: os'') → Same F' F'' → O c' F'' os'' → rep K F'' y d → N y H'') →
      (∀ c', P' (none, c') → ∀ F'' H'' os'', W F'' H'' ((D, .lst acc) :: os'') → Same F' F'' → O c' F'' os'' → N0 H'') → Post (f c b) P' X →
      g x (wipe σ vs) H'' fun σ2 H2 => wipe σ2 vs = wipe σ vs ∧ tt σ2 H2 fun b H3 => if b = true then te σ2 H3 N else N0 H3)
    (hd : ∀ c us F' H' os' ys, Same F F' → W F' H' ((D, .lst us) :: os') → O c F' os' → A2 (rep K F') us ys → Post (k (ys, c)) P X → Qd H') : LcAsk J g tt te vs σ H1 D Qd := by
  obtain ⟨hlen, hm⟩ := pb_grd (pb_assoc hm)
  have hlen : items.length < sizeLine := Nat.lt_of_lt_of_le (of_decide_eq_true hlen) line5
  refine lc_it tw.walk (fun i H => ∃ c F' os' us ys, i ≤ items.length ∧ Same F F' ∧ W F' H ((D, .lst us) :: os') ∧ O c F' os' ∧ A2 (rep K F') us ys ∧ ys.length ≤ i ∧ Post (filSt f c (items.drop i) >>= fun q => k (ys ++ q.1, q.2)) P X) ?_ ?_ ?_ ?_
  · exact ⟨s0, F, os, [], [], Nat.zero_le _, Same.refl _, w.new nD, o0, .nil, Nat.le_refl _, hm⟩
  · rintro i H _ ⟨c, F', os', us, ys, _, s, w', o, _⟩
    exact hG c F' H os' us s w' o
  · rintro i x H H' hi ⟨c, F', os', us, ys, _, s, w', o, h, hl, hm⟩ ⟨b, hb, y⟩
    rw [drop_cons hb] at hm
    have hm' : Post ((f c b >>= fun p => filSt f p.2 (items.drop (i + 1)) >>= fun q => match p.1 with
      | some y => (R.ok (y :: q.1, q.2) : R (List δ × γ))
      | none => R.ok q) >>= fun q => k (ys ++ q.1, q.2)) P X := hm
    rw [bind_bind] at hm'
    have hm2 := post_bind hm'
    have hul : us.length = ys.length := h.length
    refine hs b c x F' H H' os' us (fun y H4 => ∃ acc, H4 D = some (.lst acc) ∧ acc.length < sizeLine ∧ _) _ _ s w' o y ?_ ?_ hm2
    · intro d c' p2 y F'' H'' os'' w2 s2 o2 r2
      refine ⟨us, w2.get (pre := []), by omega, c', F'', os'', us ++ [y], ys ++ [d], hi, s.trans s2, w2.set (pre := []), o2, (h.mono s2).snoc r2, by rw [List.length_append, List.length_singleton]; omega, ?_⟩
      have p3 : Post ((filSt f c' (items.drop (i + 1)) >>= fun q => (R.ok (d :: q.1, q.2) : R (List δ × γ))) >>= fun q => k (ys ++ q.1, q.2)) P X := p2
      rw [bind_bind] at p3
      have e : (fun q : List δ × γ => (R.ok (d :: q.1, q.2) : R (List δ × γ)) >>= fun q => k (ys ++ q.1, q.2)) = fun q => k (ys ++ [d] ++ q.1, q.2) := by
        funext q
        show k (ys ++ (d :: q.1), q.2) = k (ys ++ [d] ++ q.1, q.2)
        rw [List.append_assoc]
        rfl
      rw [e] at p3
      exact p3
    · intro c' p2 F'' H'' os'' w2 s2 o2
      refine ⟨c', F'', os'', us, ys, hi, s.trans s2, w2, o2, h.mono s2, by omega, ?_⟩
      have p3 : Post ((filSt f c' (items.drop (i + 1)) >>= fun q => (R.ok q : R (List δ × γ))) >>= fun q => k (ys ++ q.1, q.2)) P X := p2
      rw [bind_bind] at p3
      exact p3
  · rintro H ⟨c, F', os', us, ys, _, s, w', o, h, _, hm⟩
    rw [List.drop_length] at hm
    have hm' : Post (k (ys ++ [], c)) P X := hm
    rw [List.append_nil] at hm'
    exact hd c us F' H os' ys s w' o h hm'
/-- without a test -/
theorem lcMap [Rep δ] (tw : TW J items G Y) {f : γ → β → R (δ × γ)} {s0 : γ} {k : List δ × γ → R ε} (hm : Post (mapStG f s0 items >>= k) P X) (O : γ → Hp → List (Addr × HO) → Prop) (w : W F H1 os) (o0 : O s0 F os) (nD : H1 D = none)
    (hG : ∀ c F' H' os' acc, Same F F' → W F' H' ((D, .lst acc) :: os') → O c F' os' → G H')
    (hs : ∀ (b : β) (c : γ) (x : V) (F' H' H'' : Hp) (os' : List (Addr × HO)) (acc : List V) (N : V → Hp → Prop) (P' : δ × γ → Prop), Same F F' → W F' H' ((D, .lst acc) :: os') → O c F' os' → Y b H' x H'' →
      (∀ d c', P' (d, c') → ∀ y F'' H'' os'', W F'' H'' ((D, .lst acc) :: os'') → Same F' F'' → O c' F'' os'' → rep K F'' y d → N y H'') → Post (f c b) P' X →
      g x (wipe σ vs) H'' fun σ2 H2 => wipe σ2 vs = wipe σ vs ∧ te σ2 H2 N)
    (hd : ∀ c us F' H' os' ys, Same F F' → W F' H' ((D, .lst us) :: os') → O c F' os' → A2 (rep K F') us ys → Post (k (ys, c)) P X → Qd H') : LcAsk J g tYes te vs σ H1 D Qd := by
  have e : ∀ (s : γ) (l : List β), filSt (fun c b => f c b >>= fun p => R.ok (some p.1, p.2)) s l = mapSt f s l := by
    intro s l
    induction l generalizing s with
    | nil => rfl
    | cons b l ih =>
      show ((f s b >>= fun p => R.ok (some p.1, p.2)) >>= fun p => filSt (fun c b => f c b >>= fun p => R.ok (some p.1, p.2)) p.2 l >>= fun q => match p.1 with
        | some y => (R.ok (y :: q.1, q.2) : R (List δ × γ))
        | none => R.ok q) = (f s b >>= fun p => mapSt f p.2 l >>= fun q => .ok (p.1 :: q.1, q.2))
      rw [bind_bind]
      refine congrArg (f s b >>= ·) ?_
      funext p
      show (filSt (fun c b => f c b >>= fun p => R.ok (some p.1, p.2)) p.2 l >>= fun q => (R.ok (p.1 :: q.1, q.2) : R (List δ × γ))) = _
      rw [ih]
  have hm' : Post (filStG (fun c b => f c b >>= fun p => R.ok (some p.1, p.2)) s0 items >>= k) P X := by
    unfold filStG
    simp only [e]
    exact hm
  refine lcFil tw hm' O w o0 nD hG (fun b c x F' H' H'' os' acc N N0 P' s w' o y hN hN0 hp => ?_) hd
  exact hs b c x F' H' H'' os' acc N _ s w' o y (fun d c' p2 y F'' H'' os'' w2 s2 o2 r2 => hN d c' p2 y F'' H'' os'' w2 s2 o2 r2) (post_bind hp)
/-- without a state -/
theorem lcM [Rep δ] (tw : TW J items G Y) {f : β → R δ} {k : List δ → R ε} (hm : Post (mapG f items >>= k) P X) (w : W F H1 os) (nD : H1 D = none)
    (hG : ∀ F' H' acc, Same F F' → W F' H' ((D, .lst acc) :: os) → G H')
    (hs : ∀ (b : β) (x : V) (F' H' H'' : Hp) (acc : List V) (N : V → Hp → Prop) (P' : δ → Prop), Same F F' → W F' H' ((D, .lst acc) :: os) → Y b H' x H'' →
      (∀ d, P' d → ∀ y F'' H'', W F'' H'' ((D, .lst acc) :: os) → Same F' F'' → rep K F'' y d → N y H'') → Post (f b) P' X →
      g x (wipe σ vs) H'' fun σ2 H2 => wipe σ2 vs = wipe σ vs ∧ te σ2 H2 N)
    (hd : ∀ us F' H' ys, Same F F' → W F' H' ((D, .lst us) :: os) → A2 (rep K F') us ys → Post (k ys) P X → Qd H') : LcAsk J g tYes te vs σ H1 D Qd := by
  have e : ∀ (l : List β), (mapSt (fun (_ : Unit) b => f b >>= fun d => R.ok (d, ())) () l >>= fun q => R.ok q.1) = mapR f l := by
    intro l
    induction l with
    | nil => rfl
    | cons b l ih =>
      show (((f b >>= fun d => R.ok (d, ())) >>= fun p => mapSt (fun (_ : Unit) b => f b >>= fun d => R.ok (d, ())) p.2 l >>= fun q => (R.ok (p.1 :: q.1, q.2) : R (List δ × Unit))) >>= fun q => R.ok q.1) = (f b >>= fun y => mapR f l >>= fun ys => R.ok (y :: ys))
      rw [bind_bind, bind_bind]
      refine congrArg (f b >>= ·) ?_
      funext d
      show ((mapSt (fun (_ : Unit) b => f b >>= fun d => R.ok (d, ())) () l >>= fun q => (R.ok (d :: q.1, q.2) : R (List δ × Unit))) >>= fun q => R.ok q.1) = _
      rw [bind_bind, ← ih, bind_bind]
      rfl
  have hm' : Post (mapStG (fun (_ : Unit) b => f b >>= fun d => R.ok (d, ())) () items >>= fun q => k q.1) P X := by
    have e2 : (mapStG (fun (_ : Unit) b => f b >>= fun d => R.ok (d, ())) () items >>= fun q => R.ok q.1) = mapG f items := by
      unfold mapStG mapG
      rw [bind_bind]
      simp only [e]
    have h2 : Post ((mapStG (fun (_ : Unit) b => f b >>= fun d => R.ok (d, ())) () items >>= fun q => R.ok q.1) >>= k) P X := by
      rw [e2]
      exact hm
    rw [bind_bind] at h2
    exact h2
  refine lcMap tw hm' (fun _ _ os' => os = os') w rfl nD (fun c F' H' os' acc s w' o => by subst o; exact hG F' H' acc s w') (fun b c x F' H' H'' os' acc N P' s w' o y hN hp => ?_) (fun c us F' H' os' ys s w' o h hm => by subst o; exact hd us F' H' ys s w' h hm)
  subst o
  exact hs b x F' H' H'' acc N _ s w' y (fun d p2 y F'' H'' w2 s2 r2 => hN d () p2 y F'' H'' _ w2 s2 rfl r2) (post_bind hp)
/-- .. with a test -/
theorem lcF [Rep δ] (tw : TW J items G Y) {f : β → R (Option δ)} {k : List δ → R ε} (hm : Post (filG f items >>= k) P X) (w : W F H1 os) (nD : H1 D = none)
    (hG : ∀ F' H' acc, Same F F' → W F' H' ((D, .lst acc) :: os) → G H')
    (hs : ∀ (b : β) (x : V) (F' H' H'' : Hp) (acc : List V) (N : V → Hp → Prop) (N0 : Hp → Prop) (P' : Option δ → Prop), Same F F' → W F' H' ((D, .lst acc) :: os) → Y b H' x H'' →
      (∀ d, P' (some d) → ∀ y F'' H'', W F'' H'' ((D, .lst acc) :: os) → Same F' F'' → rep K F'' y d → N y H'') →
      (P' none → ∀ F'' H'', W F'' H'' ((D, .lst acc) :: os) → Same F' F'' → N0 H'') → Post (f b) P' X →
      g x (wipe σ vs) H'' fun σ2 H2 => wipe σ2 vs = wipe σ vs ∧ tt σ2 H2 fun b H3 => if b = true then te σ2 H3 N else N0 H3)
    (hd : ∀ us F' H' ys, Same F F' → W F' H' ((D, .lst us) :: os) → A2 (rep K F') us ys → Post (k ys) P X → Qd H') : LcAsk J g tt te vs σ H1 D Qd := by
  have e : ∀ (l : List β), (filSt (fun (_ : Unit) b => f b >>= fun d => R.ok (d, ())) () l >>= fun q => R.ok q.1) = filR f l := by
    intro l
    induction l with
    | nil => rfl
    | cons b l ih =>
      show (((f b >>= fun d => R.ok (d, ())) >>= fun p => filSt (fun (_ : Unit) b => f b >>= fun d => R.ok (d, ())) p.2 l >>= fun q => match p.1 with
        | some y => (R.ok (y :: q.1, q.2) : R (List δ × Unit))
        | none => R.ok q) >>= fun q => R.ok q.1) = (f b >>= fun o => filR f l >>= fun ys => match o with
        | some y => .ok (y :: ys)
        | none => .ok ys)
      rw [bind_bind, bind_bind]
      refine congrArg (f b >>= ·) ?_
      funext d
      show ((filSt (fun (_ : Unit) b => f b >>= fun d => R.ok (d, ())) () l >>= fun q => match d with
        | some y => (R.ok (y :: q.1, q.2) : R (List δ × Unit))
        | none => R.ok q) >>= fun q => R.ok q.1) = _
      rw [bind_bind, ← ih, bind_bind]
      cases d <;> rfl
  have hm' : Post (filStG (fun (_ : Unit) b => f b >>= fun d => R.ok (d, ())) () items >>= fun q => k q.1) P X := by
    have e2 : (filStG (fun (_ : Unit) b => f b >>= fun d => R.ok (d, ())) () items >>= fun q => R.ok q.1) = filG f items := by
      unfold filStG filG
      rw [bind_bind]
      simp only [e]
    have h2 : Post ((filStG (fun (_ : Unit) b => f b >>= fun d => R.ok (d, ())) () items >>= fun q => R.ok q.1) >>= k) P X := by
      rw [e2]
      exact hm
    rw [bind_bind] at h2
    exact h2
  refine lcFil tw hm' (fun _ _ os' => os = os') w rfl nD (fun c F' H' os' acc s w' o => by subst o; exact hG F' H' acc s w') (fun b c x F' H' H'' os' acc N N0 P' s w' o y hN hN0 hp => ?_) (fun c us F' H' os' ys s w' o h hm => by subst o; exact hd us F' H' ys s w' h hm)
  subst o
  exact hs b x F' H' H'' acc N N0 _ s w' y (fun d p2 y F'' H'' w2 s2 r2 => hN d () p2 y F'' H'' _ w2 s2 rfl r2) (fun p2 F'' H'' w2 s2 => hN0 () p2 F'' H'' _ w2 s2 rfl) (post_bind hp)
end
end Z
namespace Z
open PySem L2
open Rep (rep)
/-! ### short words for a walk -/
section
variable {F F1 F2 H H1 : Hp} {os os' pre post : List (Addr × HO)} {a p : Addr} {o o' : HO} {K : Fg}
theorem W.frzE (w : W F H os) (n : H p = none) : ∃ F', Same F F' ∧ W F' (upd H p o) os ∧ F' p = some o := ⟨_, w.frzS n, w.frz n, upd_same⟩
theorem W.freezeE (w : W F H (pre ++ (a, o) :: post)) : ∃ F', Same F F' ∧ W F' H (pre ++ post) ∧ F' a = some o := ⟨_, w.freezeS, w.freeze, upd_same⟩
theorem rep_own {α : Type} [Rep α] {vs : List V} {xs : List α} (w : W F H (pre ++ (a, .lst vs) :: post)) (h : A2 (rep K F) vs xs) : rep K H (.ref a) xs := ⟨a, vs, rfl, w.get, h.mono w.same⟩
theorem rep_lst {α : Type} [Rep α] {vs : List V} {xs : List α} (q : F a = some (.lst vs)) (h : A2 (rep K F) vs xs) : rep K F (.ref a) xs := ⟨a, vs, rfl, q, h⟩
theorem rep_tup {α : Type} [Rep α] {vs : List V} {xs : List α} (q : F a = some (.tup vs)) (h : A2 (rep K F) vs xs) : rep K F (.ref a) (Tup.mk xs) := ⟨a, vs, rfl, q, h⟩
theorem rep_pair {α β : Type} [Rep α] [Rep β] {u v : V} {x : α} {y : β} (q : F a = some (.tup [u, v])) (h1 : rep K F u x) (h2 : rep K F v y) : rep K F (.ref a) (x, y) := ⟨a, u, v, rfl, q, h1, h2⟩
theorem ints_q {vs : List V} {xs : List Int} (q : SqL K H a vs) (h : A2 (rep K F) vs xs) : SqL K H a (xs.map V.int) := h.ints ▸ q
theorem Room.units65 {k : Nat} {A : Around} (r : Room k A) : A.units + 65 < cLine := by
  have := r.un
  omega
theorem sl_cut {α : Type} {r : V → α → Prop} {vs : List V} {xs : List α} (h : A2 r vs xs) (lo hi : Option Int) : A2 r (cutV vs lo hi) (((xs.drop (HT.sIx xs.length 0 lo)).take (HT.sIx xs.length xs.length hi - HT.sIx xs.length 0 lo))) := by
  unfold cutV
  rw [h.length]
  exact (h.drop _).take _
/-- xs[lo:hi] -/
def cutL {α : Type} (xs : List α) (lo hi : Option Int) : List α := (xs.drop (HT.sIx xs.length 0 lo)).take (HT.sIx xs.length xs.length hi - HT.sIx xs.length 0 lo)
end
end Z
namespace Z
open PySem L2
open Rep (rep)
/-- a while by its fuel -/
def whileR {γ : Type} (c : γ → R Bool) (b : γ → R γ) : Nat → γ → R γ
  | 0, _ => .bad
  | n + 1, s => c s >>= fun t => if t = true then b s >>= fun s' => whileR c b n s' else .ok s
section
variable {γ δ : Type} {P : δ → Prop} {X : Exn → Prop} {tc : TT} {tb : TS} {D : Ends} {σ : St} {H : Hp}
theorem whileS {c : γ → R Bool} {b : γ → R γ} {n : Nat} {s0 : γ} {k : γ → R δ} (hm : Post (whileR c b n s0 >>= k) P X) (I : γ → St → Hp → Prop) (h0 : I s0 σ H)
    (hc : ∀ (g : γ) (σ : St) (H : Hp) (Q' : Bool → Hp → Prop) (P' : Bool → Prop), I g σ H → (∀ t, P' t → ∀ H', I g σ H' → Q' t H') → Post (c g) P' X → tc σ H Q')
    (hs : ∀ (g : γ) (σ : St) (H : Hp) (N : St → Hp → Prop) (P' : γ → Prop), I g σ H → (∀ g', P' g' → ∀ σ' H', I g' σ' H' → N σ' H') → Post (b g) P' X → tb { D with nx := N, ct := N, bk := D.nx } σ H)
    (hd : ∀ g σ H, I g σ H → Post (k g) P X → D.nx σ H) : tWhile tc tb D σ H := by
  refine ⟨fun m σ H => ∃ g, I g σ H ∧ Post (whileR c b m g >>= k) P X, ⟨n, s0, h0, hm⟩, ?_⟩
  rintro m σ H ⟨g, h, hm⟩
  cases m with
  | zero => exact (show False from hm).elim
  | succ m =>
    have hm' : Post ((c g >>= fun t => if t = true then b g >>= fun s' => whileR c b m s' else .ok g) >>= k) P X := hm
    rw [bind_bind] at hm'
    refine hc g σ H _ _ h (fun t p H' h' => ?_) (post_bind hm')
    cases t with
    | false => exact iteF (hd g σ H' h' p)
    | true =>
      refine iteT ?_
      have p' : Post ((b g >>= fun s' => whileR c b m s') >>= k) P X := p
      rw [bind_bind] at p'
      exact ⟨fun σ' H' => ∃ g', I g' σ' H' ∧ Post (whileR c b m g' >>= k) P X, fun σ' H' ⟨g', h1, h2⟩ => ⟨m, Nat.lt_succ_self m, g', h1, h2⟩, hs g σ H' _ _ h' (fun g' p2 σ' H' h2 => ⟨g', h2, p2⟩) (post_bind p')⟩
end
section
variable {α β : Type} {Q : β → Prop} {E : Exn → Prop}
theorem pn_set {xs : List α} {i : Int} {x : α} {f : List α → R β} (h : Post (setI xs i x >>= f) Q E) : ∃ j ys, ixN xs.length i = some j ∧ ys = xs.set j x ∧ Post (f ys) Q E :=
  let ⟨j, a, b⟩ := pb_set h
  ⟨j, _, a, rfl, b⟩
theorem pn_app {xs : List α} {x : α} {f : List α → R β} (h : Post (app xs x >>= f) Q E) : ∃ ys, xs.length < sizeLine ∧ ys = xs ++ [x] ∧ Post (f ys) Q E :=
  let ⟨a, b⟩ := pb_app h
  ⟨_, a, rfl, b⟩
theorem pn_extend {xs ys : List α} {f : List α → R β} (h : Post (extend xs ys >>= f) Q E) : ∃ zs, xs.length + ys.length ≤ sizeLine ∧ zs = xs ++ ys ∧ Post (f zs) Q E :=
  let ⟨a, b⟩ := pb_extend h
  ⟨_, a, rfl, b⟩
theorem A2.lt {r : V → α → Prop} {vs : List V} {xs : List α} {n : Nat} (h : A2 r vs xs) (z : xs.length < n) : vs.length < n := by rw [h.length]; exact z
theorem A2.ix {r : V → α → Prop} {vs : List V} {xs : List α} {i : Int} {j : Nat} (h : A2 r vs xs) (z : ixN xs.length i = some j) : ixN vs.length i = some j := by rw [h.length]; exact z
theorem A2.le2 {γ : Type} {r : V → α → Prop} {r' : V → γ → Prop} {vs us : List V} {xs : List α} {ys : List γ} {n : Nat} (h : A2 r vs xs) (h' : A2 r' us ys) (z : xs.length + ys.length ≤ n) : vs.length + us.length ≤ n := by rw [h.length, h'.length]; exact z
end
section
variable {K : Fg} {F : Hp}
theorem rep_i {i : Int} : rep K F (.int i) i := rfl
theorem rep_b {i : Bool} : rep K F (.bl i) i := rfl
theorem rep_n : rep K F .non () := rfl
end
end Z
namespace Z
open PySem L2
section
variable {X : Cx} {D : Ends} {σ : L2.St} {H : Hp}
def tC1 (v : V) : TE := fun _ H Q => True ∧ Q v H
theorem pe_int1 {i j pos} : PE X (.Constant (.int i) j pos) (tC1 (.int i)) := ⟨fun pins s σ H Q I h => pe_int.run pins s σ H Q I h.2⟩
theorem pe_non1 {j pos} : PE X (.Constant .none j pos) (tC1 .non) := ⟨fun pins s σ H Q I h => pe_non.run pins s σ H Q I h.2⟩
theorem stepN {i : Nat} {v : V} {Q : L2.St → Hp → Prop} (h : Q (σ.set i (some v)) H) : gName i v σ H Q := h
theorem stepX (h : D.nx σ H) : tNext D σ H := h
theorem stepSeq {t u : TS} (h : t { D with nx := u D } σ H) : tSeq t u D σ H := h
theorem stepIf {c : TT} {a b : TS} (h : c σ H fun t H1 => if t = true then a D σ H1 else b D σ H1) : tIfS c a b D σ H := h
theorem stepRet {te : TE} (h : te σ H D.rt) : tRet te D σ H := h
end
end Z
namespace Z
open PySem L2
open Rep (rep)
section
variable {α : Type} [Rep α] {K : Fg} {F : Hp} {v : V} {x : α}
theorem rep_none : rep K F .non (none : Option α) := rfl
theorem rep_some (h : rep K F v x) : rep K F v (some x) := h
end
end Z
/-! Z2: rules by typed data -/
namespace Z
open PySem L2 PySem.Spec PyProof.Rows
open Rep (rep)
/-! ### data that is compared -/
class Dat (α : Type) extends Rep α where
  toD : α → PyData
  dmax : Nat
  dp : ∀ {K : Fg} {H : Hp} {v : V} {x : α}, rep K H v x → Dp K H v (toD x)
  lay : ∀ x : α, (toD x).canLay0 = true
  dep : ∀ x : α, (toD x).depth ≤ dmax
  eqv : ∀ x y : α, PyData.eqv (toD x) (toD y) = true ↔ x = y
section
variable {α β : Type} {K : Fg} {H : Hp}
instance : Dat Int where
  toD := .int
  dmax := 0
  dp := fun h => by
    have h' : _ = V.int _ := h
    subst h'
    exact .int _
  lay := fun x => by simp only [PyData.canLay0]
  dep := fun x => by simp only [PyData.depth, Nat.le_refl]
  eqv := fun x y => by simp [PyData.eqv]
instance : Dat Bool where
  toD := .bool
  dmax := 0
  dp := fun h => by
    have h' : _ = V.bl _ := h
    subst h'
    exact .bl _
  lay := fun x => by simp only [PyData.canLay0]
  dep := fun x => by simp only [PyData.depth, Nat.le_refl]
  eqv := fun x y => by simp [PyData.eqv]
instance datOptInt : Dat (Option Int) where
  toD := fun x => match x with
    | none => .none
    | some i => .int i
  dmax := 0
  dp := fun {K H v x} h => by
    cases x with
    | none =>
      have h' : v = V.non := h
      subst h'
      exact .non
    | some i =>
      have h' : v = V.int i := h
      subst h'
      exact .int _
  lay := fun x => by cases x <;> simp only [PyData.canLay0]
  dep := fun x => by cases x <;> simp only [PyData.depth, Nat.le_refl]
  eqv := fun x y => by cases x <;> cases y <;> simp [PyData.eqv]
instance datPair [Dat α] [Dat β] : Dat (α × β) where
  toD := fun x => .tuple [Dat.toD x.1, Dat.toD x.2]
  dmax := max (Dat.dmax α) (Dat.dmax β) + 1
  dp := fun {K H v x} h => by
    obtain ⟨a, u, w, rfl, q, h1, h2⟩ := h
    exact .tup (SqT.of q) (.cons (Dat.dp h1) (.cons (Dat.dp h2) .nil))
  lay := fun x => by simp only [PyData.canLay0, PyData.canLayAll0, Dat.lay, Bool.and_true]
  dep := fun x => by
    have h1 := Dat.dep x.1
    have h2 := Dat.dep x.2
    simp only [PyData.depth, PyData.depthAll]
    omega
  eqv := fun x y => by
    obtain ⟨x1, x2⟩ := x
    obtain ⟨y1, y2⟩ := y
    simp only [PyData.eqv, PyData.eqvAll, Bool.and_true, Bool.and_eq_true, Dat.eqv, Prod.mk.injEq]
theorem dp_all [Dat α] : ∀ {vs : List V} {xs : List α}, A2 (rep K H) vs xs → DpAll K H vs (xs.map Dat.toD)
  | _, _, .nil => .nil
  | _, _, .cons h t => .cons (Dat.dp h) (dp_all t)
theorem lay_all [Dat α] : ∀ xs : List α, PyData.canLayAll0 (xs.map Dat.toD) = true
  | [] => by simp only [List.map_nil, PyData.canLayAll0]
  | x :: xs => by simp only [List.map_cons, PyData.canLayAll0, Dat.lay, lay_all xs, Bool.and_true]
theorem dep_all [Dat α] : ∀ xs : List α, PyData.depthAll (xs.map Dat.toD) ≤ Dat.dmax α
  | [] => by simp only [List.map_nil, PyData.depthAll, Nat.zero_le]
  | x :: xs => by
    have h1 := dep_all xs
    have h2 := Dat.dep x
    simp only [List.map_cons, PyData.depthAll]
    omega
theorem eqv_all [Dat α] : ∀ xs ys : List α, PyData.eqvAll (xs.map Dat.toD) (ys.map Dat.toD) = true ↔ xs = ys
  | [], [] => by simp [PyData.eqvAll]
  | x :: xs, [] => by simp [PyData.eqvAll]
  | [], y :: ys => by simp [PyData.eqvAll]
  | x :: xs, y :: ys => by simp only [List.map_cons, PyData.eqvAll, Bool.and_eq_true, Dat.eqv, eqv_all xs ys, List.cons.injEq]
instance datList [Dat α] : Dat (List α) where
  toD := fun xs => .list (xs.map Dat.toD)
  dmax := Dat.dmax α + 1
  dp := fun {K H v x} h => by
    obtain ⟨a, vs, rfl, q, h⟩ := h
    exact .lst (SqL.of q) (dp_all h)
  lay := fun x => by
    simp only [PyData.canLay0]
    exact lay_all x
  dep := fun x => by
    have h := dep_all x
    simp only [PyData.depth]
    omega
  eqv := fun x y => by
    simp only [PyData.eqv]
    exact eqv_all x y
instance datTup [Dat α] : Dat (Tup α) where
  toD := fun xs => .tuple (xs.l.map Dat.toD)
  dmax := Dat.dmax α + 1
  dp := fun {K H v x} h => by
    obtain ⟨a, vs, rfl, q, h⟩ := h
    exact .tup (SqT.of q) (dp_all h)
  lay := fun x => by
    simp only [PyData.canLay0]
    exact lay_all x.l
  dep := fun x => by
    have h := dep_all x.l
    simp only [PyData.depth]
    omega
  eqv := fun x y => by
    obtain ⟨x⟩ := x
    obtain ⟨y⟩ := y
    simp only [PyData.eqv, Tup.mk.injEq]
    exact eqv_all x y
instance datThing : Dat Thing where
  toD := fun x => match x with
    | .pl i => .int i
    | .ti a b => .tuple [.int a, .int b]
  dmax := 1
  dp := fun {K H v x} h => by
    cases x with
    | pl i =>
      have h' : v = V.int i := h
      subst h'
      exact .int _
    | ti a b =>
      obtain ⟨p, u, w, rfl, q, h1, h2⟩ := (show rep K H v (a, b) from h)
      have h1' : u = V.int a := h1
      have h2' : w = V.int b := h2
      subst h1' h2'
      exact .tup (SqT.of q) (.cons (.int _) (.cons (.int _) .nil))
  lay := fun x => by cases x <;> simp [PyData.canLay0, PyData.canLayAll0]
  dep := fun x => by cases x <;> simp [PyData.depth, PyData.depthAll]
  eqv := fun x y => by cases x <;> cases y <;> simp [PyData.eqv, PyData.eqvAll]
instance datScr : Dat Scr where
  toD := fun xs => .list (xs.l.map PyData.int)
  dmax := 1
  dp := fun {K H v x} h => by
    obtain ⟨a, rfl, q⟩ := h
    have e : ∀ l : List Int, DpAll K H (l.map V.int) (l.map PyData.int) := fun l => by
      induction l with
      | nil => exact .nil
      | cons x l ih => exact .cons (.int _) ih
    exact .lst q (e x.l)
  lay := fun x => by
    simp only [PyData.canLay0]
    exact lay_all (α := Int) x.l
  dep := fun x => by
    have h := dep_all (α := Int) x.l
    have h' : PyData.depthAll (x.l.map PyData.int) ≤ 0 := h
    simp only [PyData.depth]
    omega
  eqv := fun x y => by
    obtain ⟨x⟩ := x
    obtain ⟨y⟩ := y
    simp only [PyData.eqv, Scr.mk.injEq]
    exact eqv_all (α := Int) x y
theorem shapedD [Dat α] (hd : Dat.dmax α ≤ 60) (x : α) : SeqAt.shaped (Dat.toD x) = true := by
  have h := Dat.dep x
  show ((Dat.toD x).canLay0 && decide ((Dat.toD x).depth ≤ 64)) = true
  rw [Bool.and_eq_true]
  exact ⟨Dat.lay x, decide_eq_true (by omega)⟩
theorem eqvD [Dat α] [DecidableEq α] (x y : α) : PyData.eqv (Dat.toD x) (Dat.toD y) = decide (x = y) := by
  by_cases h : x = y
  · rw [decide_eq_true h]
    exact (Dat.eqv x y).mpr h
  · rw [decide_eq_false h]
    exact Bool.eq_false_iff.mpr fun e => h ((Dat.eqv x y).mp e)
theorem anyD [Dat α] [DecidableEq α] (x : α) : ∀ ys : List α, ((ys.map Dat.toD).any fun z => PyData.eqv z (Dat.toD x)) = decide (x ∈ ys)
  | [] => by simp
  | y :: ys => by
    rw [List.map_cons, List.any_cons, anyD x ys, eqvD]
    by_cases h : y = x
    · subst h; simp
    · have h' : ¬ x = y := fun e => h e.symm
      simp [h, h']
end
section
variable {X : Cx} {α β : Type} {K : Fg}
/-- ==, != of data -/
theorem op_eqDt (hK : X.K = K) (α : Type) [Dat α] [DecidableEq α] (hd : Dat.dmax α ≤ 60) (hu : X.A.units + 64 < cLine) : OpR X (compareOp .Eq) (fun x y H Q => ∃ a b : α, rep K H x a ∧ rep K H y b ∧ Q (.bl (decide (a = b))) H) := by
  subst hK
  intro pins s σ H x y v u Q I rx ry ⟨a, b, h1, h2, q⟩
  exact op_eqD hu pins s σ H x y v u Q I rx ry ⟨Dat.toD a, Dat.toD b, Dat.dp h1, Dat.dp h2, shapedD hd a, shapedD hd b, by rw [eqvD]; exact q⟩
theorem op_neDt (hK : X.K = K) (α : Type) [Dat α] [DecidableEq α] (hd : Dat.dmax α ≤ 60) (hu : X.A.units + 64 < cLine) : OpR X (compareOp .NotEq) (fun x y H Q => ∃ a b : α, rep K H x a ∧ rep K H y b ∧ Q (.bl (!decide (a = b))) H) := by
  subst hK
  intro pins s σ H x y v u Q I rx ry ⟨a, b, h1, h2, q⟩
  exact op_neD hu pins s σ H x y v u Q I rx ry ⟨Dat.toD a, Dat.toD b, Dat.dp h1, Dat.dp h2, shapedD hd a, shapedD hd b, by rw [eqvD]; exact q⟩
/-- in, not in a list, a tuple of data -/
theorem op_inL (hK : X.K = K) (α : Type) [Dat α] [DecidableEq α] (hd : Dat.dmax α ≤ 50) (hu : X.A.units + 65 < cLine) : OpR X (compareOp .In) (fun x y H Q => ∃ (a : α) (b : List α), rep K H x a ∧ rep K H y b ∧ Q (.bl (decide (a ∈ b))) H) := by
  subst hK
  intro pins s σ H x y v u Q I rx ry ⟨a, b, h1, h2, q⟩
  exact op_inD hu pins s σ H x y v u Q I rx ry ⟨Dat.toD a, b.map Dat.toD, Dat.dp h1, Dat.dp h2, shapedD (by omega) a, shapedD (α := List α) (by show Dat.dmax α + 1 ≤ 60; omega) b, by rw [anyD]; exact q⟩
theorem op_notInL (hK : X.K = K) (α : Type) [Dat α] [DecidableEq α] (hd : Dat.dmax α ≤ 50) (hu : X.A.units + 65 < cLine) : OpR X (compareOp .NotIn) (fun x y H Q => ∃ (a : α) (b : List α), rep K H x a ∧ rep K H y b ∧ Q (.bl (!decide (a ∈ b))) H) := by
  subst hK
  intro pins s σ H x y v u Q I rx ry ⟨a, b, h1, h2, q⟩
  exact op_notInD hu pins s σ H x y v u Q I rx ry ⟨Dat.toD a, b.map Dat.toD, Dat.dp h1, Dat.dp h2, shapedD (by omega) a, shapedD (α := List α) (by show Dat.dmax α + 1 ≤ 60; omega) b, by rw [anyD]; exact q⟩
theorem op_inT (hK : X.K = K) (α : Type) [Dat α] [DecidableEq α] (hd : Dat.dmax α ≤ 50) (hu : X.A.units + 65 < cLine) : OpR X (compareOp .In) (fun x y H Q => ∃ (a : α) (b : Tup α), rep K H x a ∧ rep K H y b ∧ Q (.bl (decide (a ∈ b.l))) H) := by
  subst hK
  intro pins s σ H x y v u Q I rx ry ⟨a, b, h1, h2, q⟩
  have sd := shapedD (by omega : Dat.dmax α ≤ 60) a
  have se : SeqAt.shaped (.tuple (b.l.map Dat.toD)) = true := shapedD (α := Tup α) (by show Dat.dmax α + 1 ≤ 60; omega) b
  obtain ⟨as, r1⟩ := Dp.reads I (Dat.toD a) x v (Dat.dp h1) rx
  obtain ⟨bs, r2⟩ := Dp.reads I (.tuple (b.l.map Dat.toD)) y u (Dat.dp h2) ry
  refine SeqAt.in_tuple_reads r2 r1 (SeqAt.canLay_of_shaped se) (SeqAt.canLay_of_shaped sd) (room_in_shaped sd hu) ?_
  rw [anyD]
  exact ⟨.bl _, H, I, rfl, q⟩
theorem op_notInT (hK : X.K = K) (α : Type) [Dat α] [DecidableEq α] (hd : Dat.dmax α ≤ 50) (hu : X.A.units + 65 < cLine) : OpR X (compareOp .NotIn) (fun x y H Q => ∃ (a : α) (b : Tup α), rep K H x a ∧ rep K H y b ∧ Q (.bl (!decide (a ∈ b.l))) H) := by
  subst hK
  intro pins s σ H x y v u Q I rx ry ⟨a, b, h1, h2, q⟩
  have sd := shapedD (by omega : Dat.dmax α ≤ 60) a
  have se : SeqAt.shaped (.tuple (b.l.map Dat.toD)) = true := shapedD (α := Tup α) (by show Dat.dmax α + 1 ≤ 60; omega) b
  obtain ⟨as, r1⟩ := Dp.reads I (Dat.toD a) x v (Dat.dp h1) rx
  obtain ⟨bs, r2⟩ := Dp.reads I (.tuple (b.l.map Dat.toD)) y u (Dat.dp h2) ry
  refine SeqAt.notIn_tuple_reads r2 r1 (SeqAt.canLay_of_shaped se) (SeqAt.canLay_of_shaped sd) (room_in_shaped sd hu) ?_
  rw [anyD]
  exact ⟨.bl _, H, I, rfl, q⟩
/-- == of texts -/
theorem decS (x y : Str) : decide (V.str x = V.str y) = decide (x = y) := by
  by_cases h : x = y
  · subst h; simp
  · rw [decide_eq_false h, decide_eq_false (fun e => h (V.str.inj e))]
theorem op_eqS : OpR X (compareOp .Eq) (fun x y H Q => ∃ a b : Str, x = .str a ∧ y = .str b ∧ Q (.bl (decide (a = b))) H) := by
  intro pins s σ H x y v u Q I rx ry ⟨a, b, h1, h2, q⟩
  subst h1 h2
  exact op_eq pins s σ H _ _ v u Q I rx ry ⟨rfl, by rw [decS]; exact q⟩
/-! ### built-ins -/
theorem call_lenN (hK : X.K = K) : CallR X (.builtin "len") (fun xs H Q => ∃ (p : Addr) (ys : List V) (n : Nat), xs = [.ref p] ∧ (SqL K H p ys ∨ SqT K H p ys) ∧ ys.length = n ∧ Q (.int (n : Int)) H) := by
  subst hK
  intro pins s σ H xs us Q I r ⟨p, ys, n, e, h, hn, q⟩
  subst hn
  exact call_len_seq pins s σ H xs us Q I r ⟨p, ys, e, h, q⟩
def max2 (i j : Int) : Int := if j > i then j else i
def min2 (i j : Int) : Int := if j < i then j else i
/-- the ints in order -/
def sortI (xs : List Int) : List Int := xs.mergeSort fun a b => decide (a ≤ b)
theorem sortI_perm (xs : List Int) : (sortI xs).Perm xs := List.mergeSort_perm xs _
theorem sortI_sorted (xs : List Int) : (sortI xs).Pairwise (· ≤ ·) := by
  have h := List.pairwise_mergeSort (le := fun a b : Int => decide (a ≤ b)) (fun a b c h1 h2 => by simp only [decide_eq_true_eq] at *; omega) (fun a b => by simp only [Bool.or_eq_true, decide_eq_true_eq]; omega) xs
  exact h.imp fun h => by simpa using h
theorem sort_uniq {xs ys : List Int} (h : xs.Perm ys) (hx : xs.Pairwise (· ≤ ·)) (hy : ys.Pairwise (· ≤ ·)) : xs = ys := by
  induction xs generalizing ys with
  | nil => exact (List.nil_perm.mp h).symm
  | cons x xs ih =>
    cases ys with
    | nil => exact absurd h.symm (by simp)
    | cons y ys =>
      rw [List.pairwise_cons] at hx hy
      have e : x = y := by
        have h1 : x ∈ y :: ys := h.mem_iff.mp List.mem_cons_self
        have h2 : y ∈ x :: xs := h.mem_iff.mpr List.mem_cons_self
        rcases List.mem_cons.mp h1 with h1 | h1
        · exact h1
        · rcases List.mem_cons.mp h2 with h2 | h2
          · exact h2.symm
          · have := hx.1 y h2
            have := hy.1 x h1
            omega
      subst e
      rw [ih (List.perm_cons x |>.mp h) hx.2 hy.2]
theorem sortI_eq {xs ys : List Int} (h : ys.Perm xs) (hy : ys.Pairwise (· ≤ ·)) : ys = sortI xs := sort_uniq (h.trans (sortI_perm xs).symm) hy (sortI_sorted xs)
theorem cr_sortI (hK : X.K = K) : CallR X (.builtin "sorted") (fun vs H Q => ∃ (a : Addr) (ns : List Int), vs = [V.ref a] ∧ SqL K H a (ns.map V.int) ∧ ∀ p, H p = none → Q (.ref p) (upd H p (.lst ((sortI ns).map V.int)))) := by
  subst hK
  intro pins s σ H xs us Q I r ⟨a, ns, e, h, q⟩
  refine cr_sortedI pins s σ H xs us Q I r ⟨a, ns, e, h, fun ns' p h1 h2 hp => ?_⟩
  rw [sortI_eq h1 h2]
  exact q p hp
theorem ix_listK (hK : X.K = K) : IxR X (rIxL K) := hK ▸ ix_list
theorem ix_tupK (hK : X.K = K) : IxR X (rIxT K) := hK ▸ ix_tup
theorem sl_listK (hK : X.K = K) : SlR X (rSlL K) := hK ▸ sl_list
theorem cr_sumK (hK : X.K = K) (hc : X.calm = true) : CallR X (.builtin "sum") (rSum K) := hK ▸ cr_sum hc
theorem call_list_ofK (hK : X.K = K) : CallR X (.type "list") (fun xs H Q => ∃ p ys, xs = [.ref p] ∧ (SqL K H p ys ∨ SqT K H p ys) ∧ ∀ l, H l = none → Q (.ref l) (upd H l (.lst ys))) := hK ▸ call_list_of
theorem call_tuple_ofK (hK : X.K = K) : CallR X (.type "tuple") (fun xs H Q => ∃ p ys, xs = [.ref p] ∧ ((SqL K H p ys ∧ ∀ l, H l = none → Q (.ref l) (upd H l (.tup ys))) ∨ (SqT K H p ys ∧ Q (.ref p) H))) := hK ▸ call_tuple_of
theorem pi_listK {tg l : Expr} {tl : TE} (hK : X.K = K) (hl : PE X l tl) : PI X tg l (iList K tl) := hK ▸ pi_list hl
theorem pi_tupK {tg l : Expr} {tl : TE} (hK : X.K = K) (hl : PE X l tl) : PI X tg l (iTup K tl) := hK ▸ pi_tup hl
theorem pi_k {tg l : Expr} {wi : Fg → TI} (hK : X.K = K) (h : PI X tg l (wi X.K)) : PI X tg l (wi K) := hK ▸ h
theorem pe_k {e : Expr} {t : Fg → TE} (hK : X.K = K) (h : PE X e (t X.K)) : PE X e (t K) := hK ▸ h
theorem pg_k {tg : Expr} {t : Fg → TG} (hK : X.K = K) (h : PG X tg (t X.K)) : PG X tg (t K) := hK ▸ h
end
end Z
/-! Z3: sets of tuples by their number, isinstance -/
namespace Z
open PySem L2 PySem.Spec PyProof.Rows
open Rep (rep)
section
variable {α : Type} [DecidableEq α]
theorem nodup_le : ∀ {xs ys : List α}, xs.Nodup → (∀ y ∈ xs, y ∈ ys) → xs.length ≤ ys.length
  | [], _, _, _ => Nat.zero_le _
  | x :: xs, ys, h, hs => by
    obtain ⟨h1, h2⟩ := List.nodup_cons.mp h
    have hx : x ∈ ys := hs x List.mem_cons_self
    have := nodup_le (xs := xs) (ys := ys.erase x) h2 fun y hy => (List.mem_erase_of_ne (show y ≠ x from fun e => by subst e; exact h1 hy)).mpr (hs y (List.mem_cons_of_mem _ hy))
    rw [List.length_erase_of_mem hx] at this
    have := List.length_pos_of_mem hx
    rw [List.length_cons]
    omega
end
section
variable {X : Cx} {K : Fg} {P : Program} {w : World} {F H : Hp}
/-- isinstance of a plain value and a built-in class -/
theorem call_isB (hK : X.K = K) : CallR X (.builtin "isinstance") (fun xs H Q => ∃ (x : V) (a b : String) (r : Bool), xs = [x, .ty b] ∧ TyOf K H x (.type a) ∧ kitB a b = some r ∧ Q (.bl r) H) := by
  subst hK
  intro pins s σ H xs us Q I r ⟨x, a, b, c, e, h1, h2, q⟩
  exact call_isi pins s σ H xs us Q I r ⟨x, .ty b, .type a, .type b, c, e, .ty b, .base h1, kit_ty h2, q⟩
end
end Z
namespace Z
open PySem L2 PySem.Spec PyProof.Rows
open Rep (rep)
section
variable {X : Cx} {K : Fg} {F H : Hp}
theorem bools_q {a : Addr} {vs : List V} {xs : List Bool} (q : SqL K H a vs) (h : A2 (rep K F) vs xs) : SqL K H a (xs.map V.bl) := h.bools ▸ q
theorem cr_allK (hK : X.K = K) (hc : X.calm = true) : CallR X (.builtin "all") (rAll K) := hK ▸ cr_all hc
end
end Z
namespace Z
open PySem L2 PySem.Spec PyProof.Rows
open Rep (rep)
section
variable {X : Cx} {K : Fg} {F H : Hp}
/-- xs * k -/
def repL {α : Type} (xs : List α) (k : Int) : List α := (List.replicate k.toNat xs).flatten
@[irreducible] def repR {α : Type} (xs : List α) (k : Int) : R (List α) := if -(2 ^ 62) ≤ k ∧ k < 2 ^ 62 ∧ xs.length * k.toNat < 100000 then .ok (repL xs k) else .bad
theorem pb_rep {α δ : Type} {xs : List α} {k : Int} {f : List α → R δ} {P : δ → Prop} {E : Exn → Prop} (h : Post (repR xs k >>= f) P E) : ∃ ys, (-(2 ^ 63) ≤ k ∧ k < 2 ^ 63 ∧ xs.length * k.toNat ≤ sizeLine) ∧ ys = repL xs k ∧ Post (f ys) P E := by
  unfold repR at h
  obtain ⟨⟨a, b, c⟩, d⟩ := pb_if h
  exact ⟨_, ⟨by omega, by omega, Nat.le_of_lt (Nat.lt_of_lt_of_le c line5)⟩, rfl, d⟩
theorem A2.flat {α : Type} {r : V → α → Prop} {vs : List V} {xs : List α} (h : A2 r vs xs) (n : Nat) : A2 r (List.replicate n vs).flatten (List.replicate n xs).flatten := by
  induction n with
  | zero => exact .nil
  | succ n ih =>
    rw [List.replicate_succ, List.replicate_succ, List.flatten_cons, List.flatten_cons]
    exact h.append ih
/-! ### None -/
class NonN (α : Type) extends Rep α where
  no : ∀ {K : Fg} {H : Hp} {v : V} {x : α}, rep K H v x → v ≠ .non
instance : NonN Int := ⟨fun h e => by have h' : _ = V.int _ := h; rw [h'] at e; cases e⟩
instance : NonN Bool := ⟨fun h e => by have h' : _ = V.bl _ := h; rw [h'] at e; cases e⟩
instance {α β : Type} [Rep α] [Rep β] : NonN (α × β) := ⟨fun {K H v x} h q => by
  obtain ⟨a, u, w, e, _⟩ := h
  rw [e] at q
  cases q⟩
instance {α : Type} [Rep α] : NonN (List α) := ⟨fun {K H v x} h q => by
  obtain ⟨a, u, e, _⟩ := h
  rw [e] at q
  cases q⟩
instance {α : Type} [Rep α] : NonN (Tup α) := ⟨fun {K H v x} h q => by
  obtain ⟨a, u, e, _⟩ := h
  rw [e] at q
  cases q⟩
theorem isN_eq {α : Type} [NonN α] {v : V} {o : Option α} (h : rep K F v o) : decide (v = .non) = o.isNone := by
  cases o with
  | none =>
    have h' : v = V.non := h
    rw [h']
    rfl
  | some x => exact decide_eq_false (NonN.no (α := α) h)
theorem op_isN2 : OpR X (compareOp .Is) (fun x y H Q => y = V.non ∧ ∃ b, decide (x = .non) = b ∧ Q (.bl b) H) := by
  intro pins s σ H x y v u Q I rx ry ⟨e, b, hb, q⟩
  exact op_isN pins s σ H x y v u Q I rx ry ⟨e, by rw [hb]; exact q⟩
theorem op_notN2 : OpR X (compareOp .IsNot) (fun x y H Q => y = V.non ∧ ∃ b, decide (x = .non) = b ∧ Q (.bl (!b)) H) := by
  intro pins s σ H x y v u Q I rx ry ⟨e, b, hb, q⟩
  exact op_notN pins s σ H x y v u Q I rx ry ⟨e, by rw [hb]; exact q⟩
instance datOptBool : Dat (Option Bool) where
  toD := fun x => match x with
    | none => .none
    | some i => .bool i
  dmax := 0
  dp := fun {K H v x} h => by
    cases x with
    | none =>
      have h' : v = V.non := h
      subst h'
      exact .non
    | some i =>
      have h' : v = V.bl i := h
      subst h'
      exact .bl _
  lay := fun x => by cases x <;> simp only [PyData.canLay0]
  dep := fun x => by cases x <;> simp only [PyData.depth, Nat.le_refl]
  eqv := fun x y => by cases x <;> cases y <;> simp [PyData.eqv]
end
end Z
/-! Z4: statements never reached, tuples into the frozen part, pairs sorted, dicts of scalars, list(range), pop -/
namespace Z
open PySem L2
open Rep (rep)
section
variable {X : Cx}
theorem ps_absurd {st : Stmt} : PS X st (fun _ _ _ => False) := ⟨fun _ _ _ _ _ _ h => h.elim⟩
theorem stepOr {t u : TT} {σ : L2.St} {H : Hp} {Q : Bool → Hp → Prop} (h : t σ H fun c H1 => if c = true then Q true H1 else u σ H1 Q) : tOr t u σ H Q := h
theorem stepNot {t : TT} {σ : L2.St} {H : Hp} {Q : Bool → Hp → Prop} (h : t σ H fun c H1 => Q (!c) H1) : tNot t σ H Q := h
/-- every tuple there is may be read -/
def tupF (F H : Hp) : Hp := fun b => match F b with
  | some u => some u
  | none => match H b with
    | some (.tup vs) => some (.tup vs)
    | _ => none
theorem tupF_some {F H : Hp} {b : Addr} {u : HO} (e : F b = some u) : tupF F H b = some u := by
  unfold tupF
  rw [e]
theorem tupF_none {F H : Hp} {b : Addr} {u : HO} (e : F b = none) (h : tupF F H b = some u) : H b = some u ∧ ∃ vs, u = .tup vs := by
  unfold tupF at h
  rw [e] at h
  dsimp only at h
  split at h
  · rename_i vs e'
    cases h
    exact ⟨e', _, rfl⟩
  · cases h
theorem tupF_tup {F H : Hp} {b : Addr} {vs : List V} (e : F b = none) (h : H b = some (.tup vs)) : tupF F H b = some (.tup vs) := by
  unfold tupF
  rw [e, h]
theorem W.tups {F H : Hp} {os : List (Addr × HO)} (w : W F H os) : ∃ F', Same F F' ∧ W F' H os ∧ ∀ b vs, H b = some (.tup vs) → F' b = some (.tup vs) := by
  refine ⟨tupF F H, fun b u e => tupF_some e, ⟨fun b u e => ?_, fun p hp => ?_, w.nd, w.nt⟩, fun b vs e => ?_⟩
  · cases q : F b with
    | some u' =>
      rw [tupF_some q] at e
      cases e
      exact w.same b _ q
    | none => exact (tupF_none q e).1
  · obtain ⟨h1, h2⟩ := w.own p hp
    refine ⟨h1, ?_⟩
    cases q : tupF F H p.1 with
    | none => rfl
    | some u =>
      obtain ⟨k, vs, rfl⟩ := tupF_none h2 q
      rw [h1] at k
      exact absurd (Option.some.inj k) (w.nt p hp vs)
  · cases q : F b with
    | some u' =>
      have := w.same b _ q
      rw [e] at this
      cases this
      exact tupF_some q
    | none => exact tupF_tup q e
/-! ### sorted, of pairs -/
def leP (p q : Int × Int) : Bool := decide (p.1 < q.1 ∨ (p.1 = q.1 ∧ p.2 ≤ q.2))
def sortP (xs : List (Int × Int)) : List (Int × Int) := xs.mergeSort leP
theorem sortP_perm (xs : List (Int × Int)) : (sortP xs).Perm xs := List.mergeSort_perm xs _
theorem sortP_sorted (xs : List (Int × Int)) : (sortP xs).Pairwise fun p q => leP p q = true := by
  refine List.pairwise_mergeSort (le := leP) (fun a b c h1 h2 => ?_) (fun a b => ?_) xs
  · unfold leP at *
    simp only [decide_eq_true_eq] at *
    omega
  · unfold leP
    simp only [Bool.or_eq_true, decide_eq_true_eq]
    omega
theorem sortP_uniq {xs ys : List (Int × Int)} (h : xs.Perm ys) (hx : xs.Pairwise fun p q => leP p q = true) (hy : ys.Pairwise fun p q => leP p q = true) : xs = ys := by
  induction xs generalizing ys with
  | nil => exact (List.nil_perm.mp h).symm
  | cons x xs ih =>
    cases ys with
    | nil => exact absurd h.length_eq (by simp)
    | cons y ys =>
      rw [List.pairwise_cons] at hx hy
      have e : x = y := by
        have h1 : y ∈ x :: xs := h.mem_iff.mpr List.mem_cons_self
        have h2 : x ∈ y :: ys := h.mem_iff.mp List.mem_cons_self
        rcases List.mem_cons.mp h1 with e | h1
        · exact e.symm
        · rcases List.mem_cons.mp h2 with e | h2
          · exact e
          · have a := hx.1 y h1
            have b := hy.1 x h2
            unfold leP at a b
            simp only [decide_eq_true_eq] at a b
            exact Prod.ext (by omega) (by omega)
      subst e
      rw [ih h.cons_inv hx.2 hy.2]
theorem sortP_eq {xs ys : List (Int × Int)} (h : ys.Perm xs) (hy : ys.Pairwise fun p q => leP p q = true) : ys = sortP xs := sortP_uniq (h.trans (sortP_perm xs).symm) hy (sortP_sorted xs)
/-- which pair stands at a reference -/
def keyP (H : Hp) (v : V) : Int × Int := match v with
  | .ref t => match H t with
    | some (.tup [.int i, .int j]) => (i, j)
    | _ => (0, 0)
  | _ => (0, 0)
theorem keyP_of {K : Fg} {F H : Hp} {v : V} {x : Int × Int} (s : Same F H) (r : rep K F v x) : ∃ t, v = .ref t ∧ F t = some (.tup [.int x.1, .int x.2]) ∧ keyP H v = x := by
  obtain ⟨t, u, z, rfl, q, r1, r2⟩ := r
  obtain rfl : u = V.int x.1 := r1
  obtain rfl : z = V.int x.2 := r2
  refine ⟨t, rfl, q, ?_⟩
  have h := s _ _ q
  unfold keyP
  dsimp only
  rw [h]
theorem keyP_all {K : Fg} {F H : Hp} {vs : List V} {xs : List (Int × Int)} (s : Same F H) (h : A2 (rep K F) vs xs) : xs = vs.map (keyP H) ∧ ∀ v ∈ vs, ∃ t, v = .ref t ∧ F t = some (.tup [.int (keyP H v).1, .int (keyP H v).2]) := by
  induction h with
  | nil => exact ⟨rfl, fun _ z => nomatch z⟩
  | cons a b ih =>
    obtain ⟨t, e, q, k⟩ := keyP_of s a
    refine ⟨by rw [List.map_cons, k, ← ih.1], fun v hv => ?_⟩
    rcases List.mem_cons.mp hv with rfl | hv
    · exact ⟨t, e, by rw [k]; exact q⟩
    · exact ih.2 v hv
theorem rep_keys {K : Fg} {F H : Hp} : ∀ {ys : List V}, (∀ v ∈ ys, ∃ t, v = V.ref t ∧ F t = some (.tup [.int (keyP H v).1, .int (keyP H v).2])) → A2 (rep K F) ys (ys.map (keyP H))
  | [], _ => .nil
  | v :: ys, h => by
    obtain ⟨t, e, q⟩ := h v List.mem_cons_self
    refine .cons ?_ (rep_keys fun y hy => h y (List.mem_cons_of_mem _ hy))
    subst e
    exact ⟨t, _, _, rfl, q, rfl, rfl⟩
theorem cr_sortP {K : Fg} (hK : X.K = K) : CallR X (.builtin "sorted") (fun vs H Q => ∃ (a : Addr) (us : List V) (F : Hp) (xs : List (Int × Int)), vs = [V.ref a] ∧ SqL K H a us ∧ Same F H ∧ A2 (rep K F) us xs ∧
    ∀ p ys, H p = none → A2 (rep K F) ys (sortP xs) → Q (.ref p) (upd H p (.lst ys))) := by
  subst hK
  intro pins s σ H vs us Q I r h
  obtain ⟨a, us', F, xs, rfl, hs, sF, hA, q⟩ := h
  obtain ⟨e1, e2⟩ := keyP_all sF hA
  refine cr_sortedPO pins s σ H _ us Q I r ⟨a, us', keyP H, rfl, hs, fun x hx => ?_, fun ys p h1 h2 hp => q p ys hp ?_⟩
  · obtain ⟨t, e, k⟩ := e2 x hx
    exact ⟨t, e, sF _ _ k⟩
  · have e : ys.map (keyP H) = sortP xs := by
      refine sortP_eq ?_ ?_
      · rw [e1]
        exact h2.perm.map _
      · rw [List.pairwise_map]
        refine h1.imp fun {x y} h => ?_
        have h := SrtO.lexB_no.mp h
        unfold leP
        rw [decide_eq_true_eq]
        omega
    rw [← e]
    exact rep_keys fun v hv => e2 v (h2.perm.mem_iff.mp hv)
end
/-! ### dicts of scalars -/
section
variable {κ β γ δ : Type} [DecidableEq κ]
def mput (m : List (κ × β)) (k : κ) (v : β) : List (κ × β) := if (m.any fun p => decide (p.1 = k)) = true then m.map (fun p => if p.1 = k then (p.1, v) else p) else m ++ [(k, v)]
def mhas (m : List (κ × β)) (k : κ) : Bool := m.any fun p => decide (p.1 = k)
def mget (m : List (κ × β)) (k : κ) : Option β := (m.find? fun p => decide (p.1 = k)).map (·.2)
/-- as the dict stands -/
def encM (e : κ → γ) (ev : β → V) (m : List (κ × β)) : List (γ × V) := m.map fun p => (e p.1, ev p.2)
variable [DecidableEq γ] {e : κ → γ} {ev : β → V}
end
abbrev kI : Int → Key := .inl
/-! ### list(range(n)) -/
@[irreducible] def listRng (i j : Int) : R (List Int) := if -(2 ^ 62) ≤ i ∧ i < 2 ^ 62 ∧ -(2 ^ 62) ≤ j ∧ j < 2 ^ 62 ∧ (j - i).toNat ≤ 100000 then .ok (rng i j) else .bad
theorem rgV_eq (i j : Int) : rgV i j = (rng i j).map V.int := by
  unfold rgV rng
  rw [List.map_map]
  rfl
theorem pb_lrng {δ : Type} {i j : Int} {f : List Int → R δ} {P : δ → Prop} {E : Exn → Prop} (h : Post (listRng i j >>= f) P E) : ∃ l, RgOk i j ∧ l = rng i j ∧ Post (f l) P E := by
  unfold listRng at h
  by_cases hl : -(2 ^ 62) ≤ i ∧ i < 2 ^ 62 ∧ -(2 ^ 62) ≤ j ∧ j < 2 ^ 62 ∧ (j - i).toNat ≤ 100000
  · rw [if_pos hl] at h
    obtain ⟨a, b, c, d, e⟩ := hl
    exact ⟨_, ⟨a, b, c, d, by omega⟩, rfl, h⟩
  · rw [if_neg hl] at h
    exact (show False from h).elim
/-! ### a list of perhaps nothing, where nothing is nothing -/
def allS {α : Type} : List (Option α) → R (List α)
  | [] => .ok []
  | none :: _ => .bad
  | some x :: xs => allS xs >>= fun ys => .ok (x :: ys)
theorem allS_iff {α : Type} : ∀ {xs : List (Option α)} {ys : List α}, allS xs = R.ok ys ↔ xs = ys.map some
  | [], ys => by
    constructor
    · intro h; cases h; rfl
    · intro h
      cases ys with
      | nil => rfl
      | cons => cases h
  | none :: xs, ys => by
    constructor
    · intro h; cases h
    · intro h
      cases ys <;> cases h
  | some x :: xs, ys => by
    constructor
    · intro h
      obtain ⟨zs, e, h⟩ := bind_ok_iff.mp h
      cases h
      rw [allS_iff.mp e]
      rfl
    · intro h
      cases ys with
      | nil => cases h
      | cons y ys =>
        rw [List.map_cons] at h
        injection h with h1 h2
        cases h1
        show (allS xs >>= fun ys => R.ok (x :: ys)) = _
        rw [allS_iff.mpr h2]
        rfl
theorem pb_allS {α δ : Type} {xs : List (Option α)} {f : List α → R δ} {P : δ → Prop} {E : Exn → Prop} (h : Post (allS xs >>= f) P E) : ∃ ys, xs = ys.map some ∧ Post (f ys) P E := by
  cases e : allS xs with
  | ok ys =>
    rw [e] at h
    exact ⟨ys, allS_iff.mp e, h⟩
  | exc x =>
    rw [e] at h
    exfalso
    clear h
    induction xs with
    | nil => cases e
    | cons x xs ih =>
      cases x with
      | none => cases e
      | some x =>
        have e' : (allS xs >>= fun ys => R.ok (x :: ys)) = R.exc _ := e
        cases e2 : allS xs with
        | ok y => rw [e2] at e'; cases e'
        | exc y => rw [e2] at e'; cases e'; exact ih e2
        | bad => rw [e2] at e'; cases e'
  | bad =>
    rw [e] at h
    exact (show False from h).elim
theorem A2.unsome {α : Type} [Rep α] {K : Fg} {F : Hp} : ∀ {vs : List V} {ys : List α}, A2 (rep K F) vs (ys.map some) → A2 (rep K F) vs ys
  | [], [], _ => .nil
  | _ :: _, [], h => nomatch h
  | [], _ :: _, h => nomatch h
  | _ :: _, _ :: _, .cons a b => .cons a (A2.unsome b)
/-! ### pop -/
/-! ### in, of a dict of scalars -/
theorem Room.units1 {k : Nat} {A : Around} (r : Room k A) : A.units + 1 < cLine := by
  have := r.un
  omega
end Z
/-! ZX: an exception caught by its class, held behind the suite as a thing of its own -/
namespace L2
open PySem PySem.Spec PyProof.Rows
/-- a caught exception of the class cls at a -/
def ExH (cls : Value) (a : Addr) : HO := .ext fun h => ∃ (oe : Obj), h.get? a = some oe ∧ Zc cls none oe ∧ ∃ vs, oe.data = .fields vs
end L2
namespace Z
open PySem L2
open Rep (rep)
/-- the class that a name of the text names -/
def Nm (K : Fg) (x : Str) (C : Addr) : Prop := PySem.W.nsIn K mainGlobals x = some (some (.ref C))
theorem Nm.uniq {K : Fg} {x : Str} {C D : Addr} (a : Nm K x C) (b : Nm K x D) : C = D := by
  have h := a.symm.trans b
  injection h with h
  injection h with h
  injection h
instance repExn : Rep Exn := ⟨fun K F v e => ∃ a C, v = .ref a ∧ Nm K e.cls C ∧ F a = some (ExH (.ref C) a), fun s ⟨a, C, h, n, q⟩ => ⟨a, C, h, n, s _ _ q⟩⟩
/-- a call that lets no error out -/
def nx {α : Type} (m : R α) : R α := match m with
  | .ok a => .ok a
  | .exc _ => .bad
  | .bad => .bad
theorem kit_ty {K : Fg} {x : Addr} {T : String} {b : Bool} (h1 : PySem.W.kitMeta T = true) (h3 : PySem.W.subIn K (.ref x) (.type T) = some b) : PySem.W.kitOne K (.ref x) (.type T) = some b := by
  have e : PySem.W.kitCls K (.ref x) (.type T) = some b := by
    show (if PySem.W.kitMeta T = true then PySem.W.subIn K (.ref x) (.type T) else none) = some b
    rw [if_pos h1]
    exact h3
  unfold PySem.W.kitOne
  have h4 : (Value.ref x == Value.type T) = false := rfl
  rw [h4, if_neg (by decide)]
  exact e
end Z
/-! Z5: regions: lists of one's own by their number in a store -/
namespace Z
open PySem L2
open Rep (rep)
/-! ### two lists, item by item -/
inductive F2 {α β : Type} (r : α → β → Prop) : List α → List β → Prop
  | nil : F2 r [] []
  | cons {a : α} {b : β} {as : List α} {bs : List β} : r a b → F2 r as bs → F2 r (a :: as) (b :: bs)
section
variable {α β : Type} {r r' : α → β → Prop} {as : List α} {bs : List β}
theorem F2.length : ∀ {as : List α} {bs : List β}, F2 r as bs → as.length = bs.length
  | _, _, .nil => rfl
  | _, _, .cons _ t => by rw [List.length_cons, List.length_cons, F2.length t]
theorem F2.imp (f : ∀ a b, r a b → r' a b) : ∀ {as : List α} {bs : List β}, F2 r as bs → F2 r' as bs
  | _, _, .nil => .nil
  | _, _, .cons h t => .cons (f _ _ h) (F2.imp f t)
theorem F2.get : ∀ {as : List α} {bs : List β} {i : Nat} {b : β}, F2 r as bs → bs[i]? = some b → ∃ a, as[i]? = some a ∧ r a b
  | _, _, _, _, .nil, e => by simp at e
  | _, _, 0, _, .cons h _, e => by simp at e; subst e; exact ⟨_, rfl, h⟩
  | _, _, i + 1, b, .cons _ t, e => by
    obtain ⟨v, h1, h2⟩ := F2.get (i := i) (b := b) t (by simpa using e)
    exact ⟨v, by simpa using h1, h2⟩
theorem F2.set {a : α} {b : β} (h : r a b) : ∀ {as : List α} {bs : List β} (i : Nat), F2 r as bs → F2 r (as.set i a) (bs.set i b)
  | _, _, _, .nil => .nil
  | _, _, 0, .cons _ t => .cons h t
  | _, _, i + 1, .cons q t => .cons q (F2.set h i t)
theorem F2.append : ∀ {as as' : List α} {bs bs' : List β}, F2 r as bs → F2 r as' bs' → F2 r (as ++ as') (bs ++ bs')
  | _, _, _, _, .nil, h => h
  | _, _, _, _, .cons a t, h => .cons a (F2.append t h)
theorem F2.snoc {a : α} {b : β} (h : F2 r as bs) (q : r a b) : F2 r (as ++ [a]) (bs ++ [b]) := h.append (.cons q .nil)
end
/-! ### a store's lists: cells -/
def nz : List Addr → List (List V) → List (Addr × HO)
  | a :: as, vs :: vss => (a, .lst vs) :: nz as vss
  | _, _ => []
theorem nz_split : ∀ {as : List Addr} {vss : List (List V)} {j : Nat} {a : Addr} {vs : List V}, as[j]? = some a → vss[j]? = some vs →
    ∃ x y, nz as vss = x ++ (a, .lst vs) :: y ∧ ∀ us, nz as (vss.set j us) = x ++ (a, .lst us) :: y
  | [], _, j, _, _, h, _ => by simp at h
  | _ :: _, [], j, _, _, _, h => by simp at h
  | b :: as, ws :: vss, 0, a, vs, h1, h2 => by
    simp at h1 h2
    subst h1 h2
    exact ⟨[], nz as vss, rfl, fun _ => rfl⟩
  | b :: as, ws :: vss, j + 1, a, vs, h1, h2 => by
    obtain ⟨x, y, e1, e2⟩ := nz_split (as := as) (vss := vss) (j := j) (a := a) (vs := vs) (by simpa using h1) (by simpa using h2)
    exact ⟨(b, .lst ws) :: x, y, by show (b, HO.lst ws) :: nz as vss = _; rw [e1]; rfl, fun us => by show (b, HO.lst ws) :: nz as (vss.set j us) = _; rw [e2]; rfl⟩
theorem nz_snoc : ∀ {as : List Addr} {vss : List (List V)} {a : Addr} {vs : List V}, as.length = vss.length → nz (as ++ [a]) (vss ++ [vs]) = nz as vss ++ [(a, .lst vs)]
  | [], [], _, _, _ => rfl
  | [], _ :: _, _, _, h => by simp at h
  | _ :: _, [], _, _, h => by simp at h
  | b :: as, ws :: vss, a, vs, h => by
    show (b, HO.lst ws) :: nz (as ++ [a]) (vss ++ [vs]) = (b, HO.lst ws) :: (nz as vss ++ [(a, .lst vs)])
    rw [nz_snoc (by simpa using h)]
section
variable {F H : Hp} {os os' pre post : List (Addr × HO)} {a p : Addr} {o : HO} {as : List Addr} {vss : List (List V)} {j : Nat} {vs : List V}
theorem W.perm (h : os.Perm os') (w : W F H os) : W F H os' where
  same := w.same
  own := fun q hq => w.own q (h.mem_iff.mpr hq)
  nd := h.pairwise_iff (fun e q => e q.symm) |>.mp w.nd
  nt := fun q hq => w.nt q (h.mem_iff.mpr hq)
/-- the j-th list of a store -/
theorem W.nget (w : W F H (pre ++ (nz as vss ++ post))) (h1 : as[j]? = some a) (h2 : vss[j]? = some vs) : H a = some (.lst vs) := by
  obtain ⟨x, y, e, _⟩ := nz_split h1 h2
  rw [e] at w
  exact (w.own (a, .lst vs) (by simp)).1
theorem W.nset (w : W F H (pre ++ (nz as vss ++ post))) (us : List V) (h1 : as[j]? = some a) (h2 : vss[j]? = some vs) : W F (upd H a (.lst us)) (pre ++ (nz as (vss.set j us) ++ post)) := by
  obtain ⟨x, y, e, e2⟩ := nz_split h1 h2
  rw [e] at w
  rw [e2]
  have w' : W F H ((pre ++ x) ++ (a, .lst vs) :: (y ++ post)) := by
    have e3 : pre ++ (x ++ (a, HO.lst vs) :: y ++ post) = (pre ++ x) ++ (a, HO.lst vs) :: (y ++ post) := by simp
    rw [← e3]
    exact w
  have w2 := w'.set (o' := .lst us)
  have e3 : pre ++ (x ++ (a, HO.lst us) :: y ++ post) = (pre ++ x) ++ (a, HO.lst us) :: (y ++ post) := by simp
  rw [e3]
  exact w2
/-- a cell goes into a store -/
theorem W.nadd (w : W F H ((p, .lst vs) :: (pre ++ (nz as vss ++ post)))) (hl : as.length = vss.length) : W F H (pre ++ (nz (as ++ [p]) (vss ++ [vs]) ++ post)) := by
  rw [nz_snoc hl]
  refine w.perm ?_
  have e : pre ++ (nz as vss ++ [(p, HO.lst vs)] ++ post) = (pre ++ nz as vss) ++ (p, HO.lst vs) :: post := by simp
  have e2 : (p, HO.lst vs) :: (pre ++ (nz as vss ++ post)) = (p, HO.lst vs) :: ((pre ++ nz as vss) ++ post) := by simp
  rw [e, e2]
  exact List.perm_middle.symm
theorem W.dropL (w : W F H (pre ++ (os ++ post))) : W F H (pre ++ post) where
  same := w.same
  own := fun q hq => w.own q (by
    rcases List.mem_append.mp hq with h | h
    · exact List.mem_append_left _ h
    · exact List.mem_append_right _ (List.mem_append_right _ h))
  nd := by
    have nd := w.nd
    rw [List.pairwise_append] at nd ⊢
    obtain ⟨n1, n2, n3⟩ := nd
    rw [List.pairwise_append] at n2
    exact ⟨n1, n2.2.1, fun x hx y hy => n3 x hx y (List.mem_append_right _ hy)⟩
  nt := fun q hq => w.nt q (by
    rcases List.mem_append.mp hq with h | h
    · exact List.mem_append_left _ h
    · exact List.mem_append_right _ (List.mem_append_right _ h))
end
/-! ### what stands in a store -/
section
variable {α β δ : Type} [Rep α] [Rep β] {K : Fg} {F F' H : Hp} {as as' : List Addr} {vss : List (List V)} {st : List (List α)}
structure Sto (K : Fg) (F : Hp) (as : List Addr) (vss : List (List V)) (st : List (List α)) : Prop where
  len : as.length = vss.length
  all : F2 (A2 (rep K F)) vss st
theorem Sto.nil : Sto K F [] [] ([] : List (List α)) := ⟨rfl, .nil⟩
theorem Sto.mono (s : Same F F') (h : Sto K F as vss st) : Sto K F' as vss st := ⟨h.len, h.all.imp fun _ _ q => q.mono s⟩
theorem Sto.len2 (h : Sto K F as vss st) : as.length = st.length := h.len.trans h.all.length
theorem Sto.get {j : Nat} {xs : List α} (h : Sto K F as vss st) (e : st[j]? = some xs) : ∃ a vs, as[j]? = some a ∧ vss[j]? = some vs ∧ A2 (rep K F) vs xs := by
  obtain ⟨vs, h1, h2⟩ := h.all.get e
  have hj := (List.getElem?_eq_some_iff.mp e).1
  rw [← h.len2] at hj
  exact ⟨as[j], vs, List.getElem?_eq_getElem hj, h1, h2⟩
theorem Sto.set {j : Nat} {vs : List V} {xs : List α} (h : Sto K F as vss st) (q : A2 (rep K F) vs xs) : Sto K F as (vss.set j vs) (st.set j xs) := ⟨by rw [List.length_set]; exact h.len, h.all.set q j⟩
theorem Sto.snoc {p : Addr} {vs : List V} {xs : List α} (h : Sto K F as vss st) (q : A2 (rep K F) vs xs) : Sto K F (as ++ [p]) (vss ++ [vs]) (st ++ [xs]) := ⟨by simp [h.len], h.all.snoc q⟩
/-- a number in a store -/
abbrev Ix := Nat
def RX (as : List Addr) (v : V) (j : Ix) : Prop := ∃ a, v = .ref a ∧ as[j]? = some a
theorem RX.mono (h : as <+: as') {v : V} {j : Ix} (q : RX as v j) : RX as' v j := by
  obtain ⟨a, e, q⟩ := q
  obtain ⟨t, rfl⟩ := h
  refine ⟨a, e, ?_⟩
  rw [List.getElem?_append_left (List.getElem?_eq_some_iff.mp q).1]
  exact q
theorem RX.new (h : as.length = n) {p : Addr} : RX (as ++ [p]) (.ref p) n := ⟨p, rfl, by rw [List.getElem?_append_right (by omega), ← h]; simp⟩
theorem IQ.mono (h : as <+: as') {a : Addr} {j : Nat} (q : as[j]? = some a) : as'[j]? = some a := by
  obtain ⟨t, rfl⟩ := h
  rw [List.getElem?_append_left (List.getElem?_eq_some_iff.mp q).1]
  exact q
theorem IQ.new {n : Nat} (h : as.length = n) {p : Addr} : (as ++ [p])[n]? = some p := by
  rw [List.getElem?_append_right (by omega), ← h]
  simp
theorem pfx_trans {as2 : List Addr} (h : as <+: as') (h' : as' <+: as2) : as <+: as2 := h.trans h'
theorem Sto.getq {j : Nat} {xs : List α} {a : Addr} (h : Sto K F as vss st) (e : st[j]? = some xs) (q : as[j]? = some a) : ∃ vs, vss[j]? = some vs ∧ A2 (rep K F) vs xs := h.all.get e
theorem pfx_refl : as <+: as := List.prefix_refl _
theorem pfx_snoc {p : Addr} : as <+: as ++ [p] := List.prefix_append _ _
/-- the list of a number -/
def getS (st : List (List α)) (j : Ix) : R (List α) := ofO st[j]?
theorem pb_getS {st : List (List α)} {j : Ix} {f : List α → R δ} {P : δ → Prop} {E : Exn → Prop} (h : Post (getS st j >>= f) P E) : ∃ xs, st[j]? = some xs ∧ Post (f xs) P E := pb_ofO h
/-- .. another list in its place -/
def setS (st : List (List α)) (j : Ix) (ys : List α) : R (List (List α)) := .ok (st.set j ys)
theorem pn_setS {st : List (List α)} {j : Ix} {ys : List α} {f : List (List α) → R δ} {P : δ → Prop} {E : Exn → Prop} (h : Post (setS st j ys >>= f) P E) : ∃ st', st' = st.set j ys ∧ Post (f st') P E := ⟨_, rfl, h⟩
/-- .. a new one -/
def newS (st : List (List α)) (ys : List α) : R (Ix × List (List α)) := .ok (st.length, st ++ [ys])
theorem pn_newS {st : List (List α)} {ys : List α} {f : Ix × List (List α) → R δ} {P : δ → Prop} {E : Exn → Prop} (h : Post (newS st ys >>= f) P E) : ∃ j st', j = st.length ∧ st' = st ++ [ys] ∧ Post (f (j, st')) P E := ⟨_, _, rfl, rfl, h⟩
end
section
variable {K : Fg} {F : Hp} {a : Addr} {β : Type} {vs : List V} {xs : List β} {r : V → β → Prop}
theorem tw_listR (h : A2 r vs xs) : TW (Itl K a) xs (fun H => SqL K H a vs) (fun b H x H' => H' = H ∧ r x b) := ⟨by
  rw [← h.length]
  exact walk_list.mono (fun _ g => g) fun i H x H' _ _ y => by
    obtain ⟨y1, y2⟩ := y
    obtain ⟨b, h1, h2⟩ := h.getV y2
    exact ⟨b, h1, y1, h2⟩⟩
end
/-! ### comprehensions, what is made told by the state -/
section
variable {J : It} {β γ δ ε : Type} {items : List β} {G : Hp → Prop} {Y : β → Hp → V → Hp → Prop} {g : TG} {tt : TT} {te : TE} {P : ε → Prop} {X : Exn → Prop} {K : Fg} {vs : List Nat} {σ : St} {F H1 : Hp} {os : List (Addr × HO)} {D : Addr} {Qd : Hp → Prop}
theorem lcG (tw : TW J items G Y) {f : γ → β → R (Option δ × γ)} {s0 : γ} {k : List δ × γ → R ε} (hm : Post (filStG f s0 items >>= k) P X) (O : γ → Hp → List (Addr × HO) → List V → List δ → Prop) (w : W F H1 os) (o0 : O s0 F os [] []) (nD : H1 D = none)
    (hl : ∀ c F' os' us ys, O c F' os' us ys → us.length = ys.length)
    (hG : ∀ c F' H' os' acc ys, Same F F' → W F' H' ((D, .lst acc) :: os') → O c F' os' acc ys → G H')
    (hs : ∀ (b : β) (c : γ) (x : V) (F' H' H'' : Hp) (os' : List (Addr × HO)) (acc : List V) (ys : List δ) (N : V → Hp → Prop) (N0 : Hp → Prop) (P' : Option δ × γ → Prop), Same F F' → W F' H' ((D, .lst acc) :: os') → O c F' os' acc ys → Y b H' x H'' →
      (∀ d c', P' (some d, c') → ∀ y F'' H'' os'', W F'' H'' ((D, .lst acc) :: os'') → Same F' F'' → O c' F'' os'' (acc ++ [y]) (ys ++ [d]) → N y H'') →
      (∀ c', P' (none, c') → ∀ F'' H'' os'', W F'' H'' ((D, .lst acc) :: os'') → Same F' F'' → O c' F'' os'' acc ys → N0 H'') → Post (f c b) P' X →
      g x (wipe σ vs) H'' fun σ2 H2 => wipe σ2 vs = wipe σ vs ∧ tt σ2 H2 fun b H3 => if b = true then te σ2 H3 N else N0 H3)
    (hd : ∀ c us F' H' os' ys, Same F F' → W F' H' ((D, .lst us) :: os') → O c F' os' us ys → Post (k (ys, c)) P X → Qd H') : LcAsk J g tt te vs σ H1 D Qd := by
  obtain ⟨hlen, hm⟩ := pb_grd (pb_assoc hm)
  have hlen : items.length < sizeLine := Nat.lt_of_lt_of_le (of_decide_eq_true hlen) line5
  refine lc_it tw.walk (fun i H => ∃ c F' os' us ys, i ≤ items.length ∧ Same F F' ∧ W F' H ((D, .lst us) :: os') ∧ O c F' os' us ys ∧ ys.length ≤ i ∧ Post (filSt f c (items.drop i) >>= fun q => k (ys ++ q.1, q.2)) P X) ?_ ?_ ?_ ?_
  · exact ⟨s0, F, os, [], [], Nat.zero_le _, Same.refl _, w.new nD, o0, Nat.le_refl _, hm⟩
  · rintro i H _ ⟨c, F', os', us, ys, _, s, w', o, _⟩
    exact hG c F' H os' us ys s w' o
  · rintro i x H H' hi ⟨c, F', os', us, ys, _, s, w', o, hl2, hm⟩ ⟨b, hb, y⟩
    rw [drop_cons hb] at hm
    have hm' : Post ((f c b >>= fun p => filSt f p.2 (items.drop (i + 1)) >>= fun q => match p.1 with
      | some y => (R.ok (y :: q.1, q.2) : R (List δ × γ))
      | none => R.ok q) >>= fun q => k (ys ++ q.1, q.2)) P X := hm
    rw [bind_bind] at hm'
    have hm2 := post_bind hm'
    have hul : us.length = ys.length := hl _ _ _ _ _ o
    refine hs b c x F' H H' os' us ys (fun y H4 => ∃ acc, H4 D = some (.lst acc) ∧ acc.length < sizeLine ∧ _) _ _ s w' o y ?_ ?_ hm2
    · intro d c' p2 y F'' H'' os'' w2 s2 o2
      refine ⟨us, w2.get (pre := []), by omega, c', F'', os'', us ++ [y], ys ++ [d], hi, s.trans s2, w2.set (pre := []), o2, by rw [List.length_append, List.length_singleton]; omega, ?_⟩
      have p3 : Post ((filSt f c' (items.drop (i + 1)) >>= fun q => (R.ok (d :: q.1, q.2) : R (List δ × γ))) >>= fun q => k (ys ++ q.1, q.2)) P X := p2
      rw [bind_bind] at p3
      have e : (fun q : List δ × γ => (R.ok (d :: q.1, q.2) : R (List δ × γ)) >>= fun q => k (ys ++ q.1, q.2)) = fun q => k (ys ++ [d] ++ q.1, q.2) := by
        funext q
        show k (ys ++ (d :: q.1), q.2) = k (ys ++ [d] ++ q.1, q.2)
        rw [List.append_assoc]
        rfl
      rw [e] at p3
      exact p3
    · intro c' p2 F'' H'' os'' w2 s2 o2
      refine ⟨c', F'', os'', us, ys, hi, s.trans s2, w2, o2, by omega, ?_⟩
      have p3 : Post ((filSt f c' (items.drop (i + 1)) >>= fun q => (R.ok q : R (List δ × γ))) >>= fun q => k (ys ++ q.1, q.2)) P X := p2
      rw [bind_bind] at p3
      exact p3
  · rintro H ⟨c, F', os', us, ys, _, s, w', o, _, hm⟩
    rw [List.drop_length] at hm
    have hm' : Post (k (ys ++ [], c)) P X := hm
    rw [List.append_nil] at hm'
    exact hd c us F' H os' ys s w' o hm'
theorem lcGM (tw : TW J items G Y) {f : γ → β → R (δ × γ)} {s0 : γ} {k : List δ × γ → R ε} (hm : Post (mapStG f s0 items >>= k) P X) (O : γ → Hp → List (Addr × HO) → List V → List δ → Prop) (w : W F H1 os) (o0 : O s0 F os [] []) (nD : H1 D = none)
    (hl : ∀ c F' os' us ys, O c F' os' us ys → us.length = ys.length)
    (hG : ∀ c F' H' os' acc ys, Same F F' → W F' H' ((D, .lst acc) :: os') → O c F' os' acc ys → G H')
    (hs : ∀ (b : β) (c : γ) (x : V) (F' H' H'' : Hp) (os' : List (Addr × HO)) (acc : List V) (ys : List δ) (N : V → Hp → Prop) (P' : δ × γ → Prop), Same F F' → W F' H' ((D, .lst acc) :: os') → O c F' os' acc ys → Y b H' x H'' →
      (∀ d c', P' (d, c') → ∀ y F'' H'' os'', W F'' H'' ((D, .lst acc) :: os'') → Same F' F'' → O c' F'' os'' (acc ++ [y]) (ys ++ [d]) → N y H'') → Post (f c b) P' X →
      g x (wipe σ vs) H'' fun σ2 H2 => wipe σ2 vs = wipe σ vs ∧ te σ2 H2 N)
    (hd : ∀ c us F' H' os' ys, Same F F' → W F' H' ((D, .lst us) :: os') → O c F' os' us ys → Post (k (ys, c)) P X → Qd H') : LcAsk J g tYes te vs σ H1 D Qd := by
  have e : ∀ (s : γ) (l : List β), filSt (fun c b => f c b >>= fun p => R.ok (some p.1, p.2)) s l = mapSt f s l := by
    intro s l
    induction l generalizing s with
    | nil => rfl
    | cons b l ih =>
      show ((f s b >>= fun p => R.ok (some p.1, p.2)) >>= fun p => filSt (fun c b => f c b >>= fun p => R.ok (some p.1, p.2)) p.2 l >>= fun q => match p.1 with
        | some y => (R.ok (y :: q.1, q.2) : R (List δ × γ))
        | none => R.ok q) = (f s b >>= fun p => mapSt f p.2 l >>= fun q => .ok (p.1 :: q.1, q.2))
      rw [bind_bind]
      refine congrArg (f s b >>= ·) ?_
      funext p
      show (filSt (fun c b => f c b >>= fun p => R.ok (some p.1, p.2)) p.2 l >>= fun q => (R.ok (p.1 :: q.1, q.2) : R (List δ × γ))) = _
      rw [ih]
  have hm' : Post (filStG (fun c b => f c b >>= fun p => R.ok (some p.1, p.2)) s0 items >>= k) P X := by
    unfold filStG
    simp only [e]
    exact hm
  refine lcG tw hm' O w o0 nD hl hG (fun b c x F' H' H'' os' acc ys N N0 P' s w' o y hN hN0 hp => ?_) hd
  exact hs b c x F' H' H'' os' acc ys N _ s w' o y (fun d c' p2 y F'' H'' os'' w2 s2 o2 => hN d c' p2 y F'' H'' os'' w2 s2 o2) (post_bind hp)
end
end Z
/-! Z6: constants of the module, things, dicts as written and asked -/
namespace Z
open PySem L2
open Rep (rep)
section
variable {X : Cx}
theorem pe_globI {x : Str} {n : Int} {pos : Pos} (hg : Gl X x) (h : ∃ t, X.mg x = some (.int n t)) (hd : (x == ("__debug__" : Str)) = false := by decide) : PE X (.Name x pos) (tC (.int n)) := by
  obtain ⟨t, e⟩ := h
  exact pe_glob hg e ⟨_, rfl⟩ hd
theorem call_intB : CallR X (.type "int") (fun xs H Q => ∃ k, xs = [.bl k] ∧ Q (.int (if k = true then 1 else 0)) H) := by
  intro pins s σ H xs us Q I r ⟨k, e, q⟩
  exact call_int1 pins s σ H xs us Q I r (.inr ⟨k, e, q⟩)
end
/-- a while's fuel, not to be reckoned with -/
@[irreducible] def fu (n : Nat) : Nat := n
theorem fu_eq (n : Nat) : fu n = n := by
  unfold fu
  rfl
/-- x in l -/
abbrev inB {α : Type} [DecidableEq α] (x : α) (l : List α) : Bool := decide (x ∈ l)
theorem inB_t {α : Type} [DecidableEq α] {x : α} {l : List α} : inB x l = true ↔ x ∈ l := decide_eq_true_iff
def b2i (b : Bool) : Int := if b = true then 1 else 0
/-! ### things -/
def Thing.isPl : Thing → Bool
  | .pl _ => true
  | .ti _ _ => false
def asPl : Thing → R Int
  | .pl i => .ok i
  | .ti _ _ => .bad
def asTi : Thing → R (Int × Int)
  | .pl _ => .bad
  | .ti a b => .ok (a, b)
def mkpl (xs : List Int) : List Thing := xs.map Thing.pl
def mkti (xs : List (Int × Int)) : List Thing := xs.map fun p => Thing.ti p.1 p.2
section
variable {δ : Type} {P : δ → Prop} {E : Exn → Prop} {K : Fg} {F H : Hp}
theorem pb_asPl {t : Thing} {f : Int → R δ} (h : Post (asPl t >>= f) P E) : ∃ i, t = .pl i ∧ Post (f i) P E := by
  cases t with
  | pl i => exact ⟨i, rfl, h⟩
  | ti a b => exact (show False from h).elim
theorem pb_asTi {t : Thing} {f : Int × Int → R δ} (h : Post (asTi t >>= f) P E) : ∃ q : Int × Int, t = .ti q.1 q.2 ∧ Post (f q) P E := by
  cases t with
  | pl i => exact (show False from h).elim
  | ti a b => exact ⟨(a, b), rfl, h⟩
theorem A2.pl : ∀ {vs : List V} {xs : List Int}, A2 (rep K F) vs xs → A2 (rep K F) vs (mkpl xs)
  | _, _, .nil => .nil
  | _, _, .cons h t => .cons h (A2.pl t)
theorem A2.ti : ∀ {vs : List V} {xs : List (Int × Int)}, A2 (rep K F) vs xs → A2 (rep K F) vs (mkti xs)
  | _, _, .nil => .nil
  | _, _, .cons h t => .cons h (A2.ti t)
theorem th_ty (s : Same F H) {v : V} {t : Thing} (r : rep K F v t) : ∃ a, TyOf K H v (.type a) ∧ (a = "int" ∧ t.isPl = true ∨ a = "tuple" ∧ t.isPl = false) := by
  cases t with
  | pl i =>
    have r' : v = V.int i := r
    subst r'
    exact ⟨_, .int i, .inl ⟨rfl, rfl⟩⟩
  | ti a b =>
    obtain ⟨c, u, w, rfl, q, _⟩ := (show rep K F v (a, b) from r)
    exact ⟨_, .tup (s _ _ q), .inr ⟨rfl, rfl⟩⟩
theorem th_int (s : Same F H) {v : V} {t : Thing} (r : rep K F v t) : ∃ a, TyOf K H v (.type a) ∧ kitB a "int" = some t.isPl := by
  obtain ⟨a, h, z⟩ := th_ty s r
  rcases z with ⟨rfl, e⟩ | ⟨rfl, e⟩
  · exact ⟨_, h, by rw [e]; decide +kernel⟩
  · exact ⟨_, h, by rw [e]; decide +kernel⟩
end
/-! ### dicts of scalars: as written, asked -/
section
variable {β δ : Type} {ev : β → V} {H : Hp} {a b : Addr} {P : δ → Prop} {E : Exn → Prop}
theorem isD_t {kvs : List (List Key × V)} (e : H a = some (.dT kvs)) : IsD H a := .inr ⟨kvs, .inl e⟩
end
/-! ### tuples cut and joined -/
end Z
/-! Z7: dicts of tuple keys whose values are lists of a store; their values walked -/
namespace L2
open PySem PySem.Spec PyProof.Rows
end L2
namespace Z
open PySem L2
open Rep (rep)
/-! ### dicts by what their values stand for -/
section
variable {κ β γ : Type} [DecidableEq κ] [DecidableEq γ] {e : κ → γ} {r r' : V → β → Prop}
inductive AD (e : κ → γ) (r : V → β → Prop) : List (γ × V) → List (κ × β) → Prop
  | nil : AD e r [] []
  | cons {k : κ} {v : V} {x : β} {kvs : List (γ × V)} {m : List (κ × β)} : r v x → AD e r kvs m → AD e r ((e k, v) :: kvs) ((k, x) :: m)
theorem AD.length : ∀ {kvs : List (γ × V)} {m : List (κ × β)}, AD e r kvs m → kvs.length = m.length
  | _, _, .nil => rfl
  | _, _, .cons _ t => by rw [List.length_cons, List.length_cons, AD.length t]
theorem AD.imp (f : ∀ v x, r v x → r' v x) : ∀ {kvs : List (γ × V)} {m : List (κ × β)}, AD e r kvs m → AD e r' kvs m
  | _, _, .nil => .nil
  | _, _, .cons h t => .cons (f _ _ h) (AD.imp f t)
theorem AD.no (he : ∀ a b, e a = e b → a = b) {k : κ} : ∀ {kvs : List (γ × V)} {m : List (κ × β)}, AD e r kvs m → (valV kvs (e k)).isSome = mhas m k
  | _, _, .nil => rfl
  | _, _, .cons (k := j) (v := v) (x := x) (kvs := kvs) (m := m) h t => by
    show _ = (decide (j = k) || mhas m k)
    by_cases q : j = k
    · rw [valV_pos (congrArg e q), decide_eq_true q]; rfl
    · rw [valV_neg (fun z => q (he _ _ z)), decide_eq_false q, AD.no he t]; rfl
theorem AD.get (he : ∀ a b, e a = e b → a = b) {k : κ} {y : β} : ∀ {kvs : List (γ × V)} {m : List (κ × β)}, AD e r kvs m → mget m k = some y → ∃ v, valV kvs (e k) = some v ∧ r v y
  | _, _, .nil, h => by cases h
  | _, _, .cons (k := j) (v := v) (x := x) (kvs := kvs) (m := m) h t, g => by
    unfold mget at g
    by_cases q : j = k
    · rw [List.find?_cons_of_pos (by simpa using q)] at g
      cases g
      exact ⟨v, valV_pos (congrArg e q), h⟩
    · rw [List.find?_cons_of_neg (by simpa using q)] at g
      obtain ⟨u, h1, h2⟩ := AD.get he (k := k) t g
      exact ⟨u, by rw [valV_neg (fun z => q (he _ _ z))]; exact h1, h2⟩
theorem AD.snoc {k : κ} {v : V} {x : β} (h : r v x) : ∀ {kvs : List (γ × V)} {m : List (κ × β)}, AD e r kvs m → AD e r (kvs ++ [(e k, v)]) (m ++ [(k, x)])
  | _, _, .nil => .cons h .nil
  | _, _, .cons a t => .cons a (AD.snoc h t)
theorem AD.upd (he : ∀ a b, e a = e b → a = b) {k : κ} {v : V} {x : β} (h : r v x) : ∀ {kvs : List (γ × V)} {m : List (κ × β)}, AD e r kvs m → AD e r (kvs.map fun p => if p.1 = e k then (p.1, v) else p) (m.map fun p => if p.1 = k then (p.1, x) else p)
  | _, _, .nil => .nil
  | _, _, .cons (k := j) (v := u) (x := y) (kvs := kvs) (m := m) a t => by
    rw [List.map_cons, List.map_cons]
    by_cases q : j = k
    · subst q
      rw [if_pos rfl, if_pos rfl]
      exact .cons h (AD.upd he h t)
    · rw [if_neg q, if_neg (fun z => q (he _ _ z))]
      exact .cons a (AD.upd he h t)
theorem AD.any (he : ∀ a b, e a = e b → a = b) {k : κ} : ∀ {kvs : List (γ × V)} {m : List (κ × β)}, AD e r kvs m → (kvs.any fun p => decide (p.1 = e k)) = m.any fun p => decide (p.1 = k)
  | _, _, .nil => rfl
  | _, _, .cons (k := j) (kvs := kvs) (m := m) a t => by
    rw [List.any_cons, List.any_cons, AD.any he t]
    congr 1
    by_cases q : j = k
    · rw [q]; simp
    · rw [decide_eq_false q, decide_eq_false (fun z => q (he _ _ z))]
theorem AD.put (he : ∀ a b, e a = e b → a = b) {k : κ} {v : V} {x : β} {kvs : List (γ × V)} {m : List (κ × β)} (t : AD e r kvs m) (h : r v x) : AD e r (putK kvs (e k) v) (mput m k x) := by
  unfold putK mput
  rw [t.any he]
  by_cases q : (m.any fun p => decide (p.1 = k)) = true
  · rw [if_pos q, if_pos q]
    exact t.upd he h
  · rw [if_neg q, if_neg q]
    exact t.snoc h
end
/-- a tuple of ints as a key -/
def kT (t : Tup Int) : List Key := t.l.map Sum.inl
theorem kT_inj : ∀ a b, kT a = kT b → a = b := fun a b h => by
  have g : ∀ xs ys : List Int, (xs.map Sum.inl : List Key) = ys.map Sum.inl → xs = ys := by
    intro xs
    induction xs with
    | nil => intro ys e; cases ys <;> first | rfl | cases e
    | cons x xs ih =>
      intro ys e
      cases ys with
      | nil => cases e
      | cons y ys =>
        rw [List.map_cons, List.map_cons] at e
        injection e with e1 e2
        rw [Sum.inl.inj e1, ih ys e2]
  have : a.l = b.l := g _ _ h
  cases a
  cases b
  simp at this
  rw [this]
section
variable {K : Fg} {F H : Hp} {a b : Addr} {kvs : List (List Key × V)} {vs : List V} {t : Tup Int} {β : Type} {r : V → β → Prop} {m : List (Tup Int × β)}
theorem key_tup (s : Same F H) (q : F b = some (.tup vs)) (h : A2 (rep K F) vs t.l) : H b = some (.tup ((kT t).map kV)) := by
  have e : vs = (kT t).map kV := by
    rw [h.ints]
    unfold kT
    rw [List.map_map]
    rfl
  rw [← e]
  exact s _ _ q
end
end Z
/-! ZF: dicts of tuple keys: setdefault, what is walked of them (keys, pairs), values of any kind -/
namespace L2
open PySem PySem.Spec PyProof.Rows
section
variable {X : Cx} {pins : List (Addr × Obj)} {σ : St} {H : Hp} {s : Shared} {a b : Addr} {A : Around} {E : Value → Shared → Prop}
/-- setdefault, the key a tuple -/
theorem dT_setd {kvs : List (List Key × V)} {k : List Key} {y : V} {r : Value} {Q : Value → Shared → Prop} (room : A.units + 1 < cLine) (I : Inv X pins σ H s) (at_ : H a = some (.dT kvs)) (key : H b = some (.tup (k.map kV))) (val : RelV y r) (few : kvs.length < sizeLine)
    (there : ∀ x, valV kvs k = some x → ∀ (u : Value) (s' : Shared), Inv X pins σ H s' → RelV x u → Q u s') (made : valV kvs k = none → ∀ (u : Value) (s' : Shared), Inv X pins σ (upd H a (.dT (putK kvs k y))) s' → RelV y u → Q u s') :
    wpAny (model X.prog X.w) A (call (.builtin "dict.setdefault") [.ref a, .ref b, r]) Q E s := by
  obtain ⟨z, hs, rows, rel, dd⟩ := dt_of I.hok at_
  have rowsFew : rows.length ≤ sizeLine := by
    have := Paired.length rel
    omega
  have newFew : (putK kvs k y).length ≤ sizeLine := by
    have := length_putK kvs k y
    omega
  have q := rel.val k
  refine call_setdefault_heap (hsz := rowsFew) (tupleKind_room_in1 room) (key_of I.hok key) hs dd (fun p hp => ?_) fun hn h2 dd2 same => ?_
  · rw [hp] at q
    cases e : valV kvs k with
    | some x =>
      rw [e] at q
      exact there x e _ _ (I.tok _) q
    | none =>
      rw [e] at q
      exact (show False from q).elim
  · rw [hn] at q
    cases e : valV kvs k with
    | some x =>
      rw [e] at q
      exact (show False from q).elim
    | none =>
      obtain ⟨ob, es, ep, g1, g2, g3, g4, _, g5⟩ := dd2
      have kept : KT (upd H a (.dT (putK kvs k y))) (putK kvs k y) (storedH rows k b r) := (rel.put k key val).keeps fun c ys ec => by
        rw [upd_ne (ne_of ec at_ (fun z => nomatch z))]
        exact ec
      exact made e _ _ (d_write (ob := .dT (putK kvs k y)) I (by rw [at_]; exact True.intro) same ⟨ob, g1⟩ ⟨newFew, hs, _, kept, ob, es, ep, g1, g2, g3, g4, g5⟩) val
end
/-- what setdefault leaves -/
def setdK (kvs : List (List Key × V)) (k : List Key) (v : V) : List (List Key × V) := if (valV kvs k).isSome = true then kvs else putK kvs k v
/-- o.setdefault(k, x), the answer dropped -/
def tDSetdU (to tk tx : TE) : TE := fun σ H Q => to σ H fun o H1 => ∃ a, o = .ref a ∧ IsD H1 a ∧ tk σ H1 fun y H2 => tx σ H2 fun z H3 => ∃ (kvs : List (List Key × V)) (k : List Key) (b : Addr), H3 a = some (.dT kvs) ∧ y = .ref b ∧ H3 b = some (.tup (k.map kV)) ∧ kvs.length < sizeLine ∧
  ∀ x, Q x (upd H3 a (.dT (setdK kvs k z)))
theorem upd_id {H : Hp} {a : Addr} {o : HO} (h : H a = some o) : upd H a o = H := by
  funext b
  by_cases e : b = a
  · rw [e, upd_same, h]
  · rw [upd_ne e]
section
variable {X : Cx} {o e f : Expr} {to tk tx : TE} {apos cpos : Pos}
theorem pe_dsetdU (room : X.A.units + 1 < cLine) (ho : PE X o to) (he : PE X e tk) (hf : PE X f tx) (m : M2 X o "setdefault" apos e f cpos) : PE X (.Call (.Attribute o "setdefault" apos) [e, f] [] cpos) (tDSetdU to tk tx) := ⟨fun pins s σ H Q I h => by
  refine wpAny_Call_method m.base m.few m.line PySem.F.plainAttrs_dict F.slot_dict_setdefault F.type_dict_setdefault (thn (ho.run pins s σ H _ I h) fun u1 s1 hu1 => ?_)
  obtain ⟨v1, H1, I1, r1, a, rfl, d, q1⟩ := hu1
  obtain rfl : u1 = Value.ref a := r1
  refine ⟨(isD_at I1 d).1, (isD_at I1 d).2.1, ?_⟩
  rw [m.trees]
  refine Calls.callWith_builtin rfl (Calls.evalArgs_plain (Calls.spliced_cons (thn (he.run pins s1 σ H1 _ I1 q1) fun u2 s2 hu2 => ?_)))
  obtain ⟨v2, H2, I2, r2, q2⟩ := hu2
  refine Calls.spliced_cons (thn (hf.run pins s2 σ H2 _ I2 q2) fun u3 s3 hu3 => Calls.spliced_nil ?_)
  obtain ⟨v3, H3, I3, r3, kvs, k, b, at_, rfl, key, few, q3⟩ := hu3
  obtain rfl : u2 = Value.ref b := r2
  refine dT_setd room I3 at_ key r3 few (fun x hx w4 s4 I4 r4 => ⟨x, H3, I4, r4, ?_⟩) fun hx w4 s4 I4 r4 => ⟨v3, _, I4, r4, ?_⟩
  · have z := q3 x
    unfold setdK at z
    rw [hx, if_pos (show (some x).isSome = true from rfl), upd_id at_] at z
    exact z
  · have z := q3 v3
    unfold setdK at z
    rw [hx, if_neg (by simp)] at z
    exact z⟩
end
/-! ### the pairs of a locked dict -/
/-- each a new tuple: the key's own tuple, the value -/
def ItiT (d : Addr) (o : Obj) (kvs : List (List Key × V)) : It :=
  ⟨fun i H => H d = some (.frz o (.dT kvs)) ∧ i < kvs.length, fun i H x H' => ∃ T q k v, kvs[i]? = some (k, v) ∧ H q = some (.tup (k.map kV)) ∧ x = .ref T ∧ H T = none ∧ H' = upd H T (.tup [.ref q, v]), fun i H => H d = some (.frz o (.dT kvs)) ∧ kvs.length ≤ i⟩
section
variable {X : Cx} {pins : List (Addr × Obj)} {σ : St} {H : Hp} {s : Shared} {d : Addr} {o : Obj}
theorem Inv.frzTP {kvs : List (List Key × V)} (I : Inv X pins σ H s) (h : H d = some (.frz o (.dT kvs))) :
    (d == sysModules) = false ∧ s.heap.get? d = some o ∧ o.ExactDict ∧ ∃ (es : Array DictEntry) (ep : Nat), o.data = .dict es ep ∧ es.size = kvs.length ∧
      ∀ (i : Nat) (k : List Key) (v : V), kvs[i]? = some (k, v) → ∃ (en : DictEntry) (q : Addr), es[i]? = some en ∧ en.key = .ref q ∧ H q = some (.tup (k.map kV)) ∧ RelV v en.val := by
  obtain ⟨look, few, big, rows, pr, o2, es, ep, look2, exact_, dat, ents, _⟩ := I.hok d _ h
  obtain rfl : o2 = o := by
    rw [look] at look2
    exact (Option.some.inj look2).symm
  refine ⟨big, look, exact_, es, ep, dat, ?_, fun i k v e => ?_⟩
  · have := size_of_entries ents
    have := Paired.length pr
    omega
  · obtain ⟨row, hrow, _, e2, e3⟩ := paired_get pr e
    have q := entry_at ents i
    rw [hrow] at q
    exact ⟨_, row.2.1, q, rfl, e2, e3⟩
end
section
variable {P : Program} {w : World} {K : PySem.W.Frag} {d : Addr} {o : Obj} {es : Array DictEntry} {ep : Nat} {elts : List Expr} {kk : Nat} {tpos : Pos}
theorem turn_itemsT {kvs : List (List Key × V)} (it : Addr) (dat : o.data = .dict es ep) :
    Turn P w K (.Tuple elts kk tpos) (ItiT d o kvs) [it] it (fun i h => ∃ ok ov, IsItemIter h it d i kvs.length ep ok ov) where
  mem := List.mem_singleton.mpr rfl
  obj := fun i h st b hb => by
    obtain rfl := List.mem_singleton.mp hb
    obtain ⟨ok, ov, e⟩ := st
    exact ⟨_, e, fun v z => nomatch z⟩
  keep := fun i h h' st keep => by
    obtain ⟨ok, ov, e⟩ := st
    exact ⟨ok, ov, keep it (List.mem_singleton.mpr rfl) _ e⟩
  item := by
    intro X hP hw hK hc i pins s σ H E I free st hg
    subst hP hw hK
    obtain ⟨at_, few⟩ := hg
    obtain ⟨big, look, exact_, es2, ep2, dat2, size, ents⟩ := I.frzTP at_
    obtain ⟨rfl, rfl⟩ := dict_ep dat dat2
    obtain ⟨⟨k, v⟩, hkv⟩ : ∃ p, kvs[i]? = some p := ⟨kvs[i], List.getElem?_eq_getElem few⟩
    obtain ⟨en, q, hen, ekey, hq, rv⟩ := ents i k v hkv
    have hil : i < es2.size := by omega
    have een : es2[i] = en := by
      rw [Array.getElem?_eq_getElem hil] at hen
      exact Option.some.inj hen
    obtain ⟨ok, ov, he⟩ := st
    rw [← size] at he
    have under : it < s.heap.objs.size := Heap.lt_size he
    refine wpAny_pyNext_items_item_raw he ⟨o, look, exact_, dat2⟩ hil fun h2 ho hT hz hk => ?_
    refine ⟨_, rfl, wpAny_letOwnedTupleGo_items (s := { s with heap := h2 }) ho fun h3 he3 sb => ?_⟩
    rw [een] at hT
    have hT3 : h3.get? s.heap.objs.size = some { cls := .type "tuple", data := .seq #[en.key, en.val] } := (sb.2 _ (Nat.ne_of_gt under)).trans hT
    have new : ObjOk X.prog X.w (upd H s.heap.objs.size (.tup [.ref q, v])) h3 s.heap.objs.size (.tup [.ref q, v]) :=
      ⟨by show 2 ≤ sizeLine; decide, [en.key, en.val], .cons ekey (.cons rv .nil), ⟨_, hT3, rfl, _, rfl⟩⟩
    have I1 : Inv X pins σ (upd H s.heap.objs.size (.tup [.ref q, v])) { s with heap := h3 } :=
      I.turnedNew (t' := s.toks) (ch := [it]) (fun c ob hb e => (sb.2 c (fun z => hb (List.mem_singleton.mpr z))).trans (hk c ob (fun z => hb (List.mem_singleton.mpr z)) e)) free (Nat.le_refl _) new
    refine ⟨.ref s.heap.objs.size, _, I1, rfl, ⟨_, q, k, v, hkv, hq, rfl, I.hok.fresh (Nat.le_refl _), rfl⟩, ⟨es2[i].key, es2[i].val, ?_⟩, fun c hc => ?_⟩
    · rw [← size]
      exact he3
    · obtain rfl := List.mem_singleton.mp hc
      rw [upd_ne (Nat.ne_of_lt under)]
      exact (free c (List.mem_singleton.mpr rfl)).1
  done := by
    intro X hP hw hK hc i pins s σ H E I free st hg
    subst hP hw hK
    obtain ⟨at_, few⟩ := hg
    obtain ⟨f0, f1, f2, f3, f4, f5⟩ := free it (List.mem_singleton.mpr rfl)
    obtain ⟨big, look, exact_, es2, ep2, dat2, size, ents⟩ := I.frzTP at_
    obtain ⟨rfl, rfl⟩ := dict_ep dat dat2
    obtain ⟨ok, ov, he⟩ := st
    rw [← size] at he
    exact wpAny_pyNext_items_end_raw (I.ok.hd hc) he ⟨o, look, exact_, dat2⟩ (by omega) fun h2 eb => ⟨rfl, I.turned (t' := s.toks) (fun c ob hb e => eb c ob hb e) f0 f1 f3 f4 f5⟩
  self := fun A i s Q E st h => by
    obtain ⟨_, _, e⟩ := st
    exact PySem.W.kcp_self e h
end
/-- d.items(), d of tuple keys, locked from there on; locked already -/
def iItemsT (td : TE) : TI := fun σ H R => td σ H fun x H1 => ∃ d kvs, x = .ref d ∧ H1 d = some (.dT kvs) ∧ ∀ od, R (ItiT d od kvs) (upd H1 d (.frz od (.dT kvs)))
section
variable {X : Cx} {tg e : Expr} {td : TE} {apos cpos : Pos}
theorem pi_itemsT {elts : List Expr} {kk : Nat} {tpos : Pos} (he : PE X e td) (hbase : attributeBase e "items" X.env (eval e X.env) = eval e X.env := by rfl) (hline : (apos.endLine == cpos.line) = true := by rfl) :
    PI X (.Tuple elts kk tpos) (.Call (.Attribute e "items" apos) [] [] cpos) (iItemsT td) := ⟨fun pins s σ H R I h => by
  refine wpAny_Call_method (T := "dict") (id := "dict.items") hbase rfl hline F.plainAttrs_dict F.slot_dict_items F.type_dict_items (thn (he.run pins s σ H _ I h) fun u s1 hu => ?_)
  obtain ⟨x, H0, I0, rx, d, kvs, rfl, at0, q0⟩ := hu
  obtain rfl : u = Value.ref d := rx
  obtain ⟨od, I1⟩ := I0.lock at0 (by exact True.intro)
  have q := q0 od
  have at1 : upd H0 d (.frz od (.dT kvs)) d = some (.frz od (.dT kvs)) := upd_same
  obtain ⟨big, look, exact_, es, ep, dat, size, ents⟩ := I1.frzTP at1
  have raw : s1.heap.DictRaw d es ep := ⟨od, look, exact_, dat⟩
  refine ⟨raw.typeIs, fun c hc => ?_, ?_⟩
  · cases hc
    exact ⟨od, look, exact_.2.1⟩
  have I2 : Inv X pins σ (upd H0 d (.frz od (.dT kvs))) { s1 with heap := s1.heap.push { cls := .type "dict_items", data := .fields #[.ref d] } } := I1.kept (t' := s1.toks) fun c ob z => Heap.get?_push_of_some _ z
  have fin : wpAny (model X.prog X.w) X.A (pyIter (.ref s1.heap.objs.size)) (PIE X pins σ (.Tuple elts kk tpos) R) X.xe { s1 with heap := s1.heap.push { cls := .type "dict_items", data := .fields #[.ref d] } } := by
    refine wpAny_pyIter_items_raw (d := d) (es := es) (ep := ep) ⟨_, Heap.get?_push_size _ rfl, rfl, rfl⟩ (raw.at fun c z => Heap.get?_push_of_some _ z) (pi_one (tk := s1.toks) I2 _ (turn_itemsT _ dat) ⟨.none, .none, ?_⟩ q)
    rw [← size]
    exact Heap.get?_push_size _ rfl
  show wpAny _ _ (callWith cpos (.builtin "dict.items") [.ref d] [] []) _ X.xe s1
  exact method_meetsIn F.slot_dict_items F.entry_dict_items rfl (PySem.evalArgs_none ⟨rfl, raw.typeIs, F.args_dict_items_1 _, _, meets_dict_items_raw d big, ⟨es, ep, raw⟩, fin⟩)⟩
end
end L2
namespace Z
open PySem L2
open Rep (rep)
section
variable {K : Fg} {d : Addr} {o : Obj} {β : Type} {r : V → β → Prop} {kvs : List (List Key × V)} {m : List (Tup Int × β)}
theorem AD.both {κ γ : Type} {e : κ → γ} : ∀ {kvs : List (γ × V)} {m : List (κ × β)}, AD e r kvs m → ∀ {i : Nat} {k : γ} {v : V}, kvs[i]? = some (k, v) → ∃ p, m[i]? = some p ∧ k = e p.1 ∧ r v p.2
  | _, _, .nil, i, k, v, h => by simp at h
  | _, _, .cons (k := j) (v := u) (x := x) a t, 0, k, v, h => by
    simp at h
    obtain ⟨rfl, rfl⟩ := h
    exact ⟨(j, x), rfl, rfl, a⟩
  | _, _, .cons a t, i + 1, k, v, h => by
    obtain ⟨p, h1, h2⟩ := AD.both t (i := i) (k := k) (v := v) (by simpa using h)
    exact ⟨p, by simpa using h1, h2⟩
theorem kT_ints (t : Tup Int) : (kT t).map kV = t.l.map V.int := by
  unfold kT
  rw [List.map_map]
  rfl
/-- the pairs: a new tuple of the key's own tuple and the value -/
theorem tw_itemsT (h : AD kT r kvs m) : TW (ItiT d o kvs) m (fun H => H d = some (.frz o (.dT kvs))) (fun b H x H' => ∃ T q v, x = .ref T ∧ H T = none ∧ H q = some (.tup (b.1.l.map V.int)) ∧ H' = upd H T (.tup [.ref q, v]) ∧ r v b.2) := ⟨by
  rw [← h.length]
  refine ⟨fun _ _ hi q => ⟨q, hi⟩, fun _ q => ⟨q, Nat.le_refl _⟩, fun i H x H' _ _ y => ?_⟩
  obtain ⟨T, q, k, v, hk, hq, e1, e2, e3⟩ := y
  obtain ⟨p, h1, h2, h3⟩ := h.both hk
  rw [h2, kT_ints] at hq
  exact ⟨p, h1, T, q, v, e1, e2, hq, e3, h3⟩⟩
theorem tw_keysT (h : AD kT r kvs m) : TW (Itkt d o kvs) (m.map (·.1)) (fun H => H d = some (.frz o (.dT kvs))) (fun b H x H' => H' = H ∧ ∃ q, x = .ref q ∧ H q = some (.tup (b.l.map V.int))) := ⟨by
  rw [List.length_map, ← h.length]
  refine ⟨fun _ _ hi q => ⟨q, hi⟩, fun _ q => ⟨q, Nat.le_refl _⟩, fun i H x H' _ _ y => ?_⟩
  obtain ⟨e, k, v, q, hk, e1, hq⟩ := y
  obtain ⟨p, h1, h2, h3⟩ := h.both hk
  rw [h2, kT_ints] at hq
  exact ⟨p.1, by rw [List.getElem?_map, h1]; rfl, e, q, e1, hq⟩⟩
end
section
variable {κ β : Type} [DecidableEq κ]
def msetd (m : List (κ × β)) (k : κ) (v : β) : List (κ × β) := if mhas m k = true then m else mput m k v
def msetdR (m : List (κ × β)) (k : κ) (v : β) : R (List (κ × β)) := if m.length < 100000 then .ok (msetd m k v) else .bad
theorem pn_msetd {δ : Type} {m : List (κ × β)} {k : κ} {v : β} {f : List (κ × β) → R δ} {P : δ → Prop} {E : Exn → Prop} (h : Post (msetdR m k v >>= f) P E) : ∃ m', m.length < sizeLine ∧ m' = msetd m k v ∧ Post (f m') P E := by
  unfold msetdR at h
  by_cases hl : m.length < 100000
  · rw [if_pos hl] at h
    exact ⟨_, by rw [sizeLine_eq]; omega, rfl, h⟩
  · rw [if_neg hl] at h
    exact (show False from h).elim
theorem po_msetd {δ : Type} {m : List (κ × β)} {k : κ} {v : β} {f : List (κ × β) → R δ} {S : δ → Prop} {X : Exn → Prop} (h : m.length < 100000) (hk : Post (f (msetd m k v)) S X) : Post (msetdR m k v >>= f) S X := by
  unfold msetdR
  rw [if_pos h]
  exact hk
end
theorem AD.setd {β : Type} {r : V → β → Prop} {kvs : List (List Key × V)} {m : List (Tup Int × β)} {k : Tup Int} {v : V} {x : β} (h : AD kT r kvs m) (hv : r v x) : AD kT r (setdK kvs (kT k) v) (msetd m k x) := by
  unfold setdK msetd
  rw [h.no kT_inj]
  split
  · exact h
  · exact h.put kT_inj hv
theorem W.reho {F H : Hp} {pre post : List (Addr × HO)} {a : Addr} {o o' : HO} (w : W F H (pre ++ (a, o) :: post)) (e : o = o') : W F H (pre ++ (a, o') :: post) := e ▸ w
end Z
/-! ZE: tuples item by item (Nt), objects of an own class (Oj), trees of tuples (Tr) -/
namespace Z
open PySem L2 PySem.Spec PyProof.Rows
open Rep (rep)
class RepL (α : Type) where
  repTs : Fg → Hp → List V → α → Prop
  mono : ∀ {K : Fg} {H H' : Hp} {vs : List V} {x : α}, Same H H' → repTs K H vs x → repTs K H' vs x
open RepL (repTs)
instance repLU : RepL Unit := ⟨fun _ _ vs _ => vs = [], fun _ h => h⟩
instance repLP {α β : Type} [Rep α] [RepL β] : RepL (α × β) := ⟨fun K H vs x => ∃ v us, vs = v :: us ∧ rep K H v x.1 ∧ repTs K H us x.2, fun s ⟨v, us, e, h1, h2⟩ => ⟨v, us, e, Rep.mono s h1, RepL.mono s h2⟩⟩
/-- a tuple, item by item -/
structure Nt (α : Type) where
  v : α
  deriving DecidableEq
instance decNtL {α : Type} [DecidableEq α] : DecidableEq (List (Nt α)) := inferInstance
instance repNt {α : Type} [RepL α] : Rep (Nt α) := ⟨fun K H v x => ∃ a vs, v = .ref a ∧ H a = some (.tup vs) ∧ repTs K H vs x.v, fun s ⟨a, vs, e, q, h⟩ => ⟨a, vs, e, s _ _ q, RepL.mono s h⟩⟩
section
variable {α β γ δ : Type} [Rep α] [Rep β] [Rep γ] [Rep δ] {K : Fg} {H H' : Hp} {v u1 u2 u3 u4 : V} {a : Addr}
theorem nt3 {x : Nt (α × β × γ × Unit)} (h : rep K H v x) : ∃ a u1 u2 u3, v = .ref a ∧ H a = some (.tup [u1, u2, u3]) ∧ rep K H u1 x.v.1 ∧ rep K H u2 x.v.2.1 ∧ rep K H u3 x.v.2.2.1 := by
  obtain ⟨a, vs, e, q, u1, _, rfl, h1, u2, _, rfl, h2, u3, _, rfl, h3, rfl⟩ := h
  exact ⟨a, u1, u2, u3, e, q, h1, h2, h3⟩
theorem rep_nt3 {x1 : α} {x2 : β} {x3 : γ} (q : H a = some (.tup [u1, u2, u3])) (h1 : rep K H u1 x1) (h2 : rep K H u2 x2) (h3 : rep K H u3 x3) : rep K H (.ref a) (⟨(x1, x2, x3, ())⟩ : Nt (α × β × γ × Unit)) := ⟨a, _, rfl, q, u1, _, rfl, h1, u2, _, rfl, h2, u3, _, rfl, h3, rfl⟩
end
/-! ### as data -/
class DatL (α : Type) extends RepL α where
  toDs : α → List PyData
  dmaxL : Nat
  dpL : ∀ {K : Fg} {H : Hp} {vs : List V} {x : α}, repTs K H vs x → DpAll K H vs (toDs x)
  layL : ∀ x : α, PyData.canLayAll0 (toDs x) = true
  depL : ∀ x : α, PyData.depthAll (toDs x) ≤ dmaxL
  eqvL : ∀ x y : α, PyData.eqvAll (toDs x) (toDs y) = true ↔ x = y
instance datLU : DatL Unit where
  toDs := fun _ => []
  dmaxL := 0
  dpL := fun h => by
    have h' : _ = [] := h
    subst h'
    exact .nil
  layL := fun _ => by simp only [PyData.canLayAll0]
  depL := fun _ => by simp only [PyData.depthAll, Nat.le_refl]
  eqvL := fun _ _ => by simp [PyData.eqvAll]
instance datLP {α β : Type} [Dat α] [DatL β] : DatL (α × β) where
  toDs := fun x => Dat.toD x.1 :: DatL.toDs x.2
  dmaxL := max (Dat.dmax α) (DatL.dmaxL β)
  dpL := fun {K H vs x} h => by
    obtain ⟨v, us, rfl, h1, h2⟩ := h
    exact .cons (Dat.dp h1) (DatL.dpL h2)
  layL := fun x => by simp only [PyData.canLayAll0, Dat.lay, DatL.layL, Bool.and_true]
  depL := fun x => by
    have h1 := Dat.dep x.1
    have h2 := DatL.depL x.2
    simp only [PyData.depthAll]
    omega
  eqvL := fun x y => by
    obtain ⟨x1, x2⟩ := x
    obtain ⟨y1, y2⟩ := y
    simp only [PyData.eqvAll, Bool.and_eq_true, Dat.eqv, DatL.eqvL, Prod.mk.injEq]
instance datNt {α : Type} [DatL α] : Dat (Nt α) where
  toD := fun x => .tuple (DatL.toDs x.v)
  dmax := DatL.dmaxL α + 1
  dp := fun {K H v x} h => by
    obtain ⟨a, vs, rfl, q, h⟩ := h
    exact .tup (SqT.of q) (DatL.dpL h)
  lay := fun x => by
    simp only [PyData.canLay0]
    exact DatL.layL x.v
  dep := fun x => by
    have h := DatL.depL x.v
    simp only [PyData.depth]
    omega
  eqv := fun x y => by
    obtain ⟨x⟩ := x
    obtain ⟨y⟩ := y
    simp only [PyData.eqv, Nt.mk.injEq]
    exact DatL.eqvL x y
/-! ### objects of an own class -/
def mkfs (fs : List Str) (us : List V) : List (Str × V) := (fs.zip us).foldl (fun l p => putF p.1 p.2 l) []
structure Oj (nm : Str) (fs : List Str) (α : Type) where
  v : α
instance repOj {nm : Str} {fs : List Str} {α : Type} [RepL α] : Rep (Oj nm fs α) := ⟨fun K H v x => ∃ a C dx us, v = .ref a ∧ Nm K nm C ∧ H a = some (.ins C dx (mkfs fs us)) ∧ repTs K H us x.v, fun s ⟨a, C, dx, us, e, n, q, h⟩ => ⟨a, C, dx, us, e, n, s _ _ q, RepL.mono s h⟩⟩
/-! ### trees: (a thing, a thing, a tuple of trees) -/
inductive Tr where
  | n (a b : Thing) (ts : List Tr)
def Tr.a : Tr → Thing
  | .n a _ _ => a
def Tr.b : Tr → Thing
  | .n _ b _ => b
def Tr.ts : Tr → List Tr
  | .n _ _ ts => ts
mutual
def trRep (K : Fg) (H : Hp) : Tr → V → Prop
  | .n a b ts, v => ∃ p u w q vs, v = .ref p ∧ H p = some (.tup [u, w, .ref q]) ∧ rep K H u a ∧ rep K H w b ∧ H q = some (.tup vs) ∧ trsRep K H ts vs
def trsRep (K : Fg) (H : Hp) : List Tr → List V → Prop
  | [], vs => vs = []
  | t :: ts, vs => ∃ v us, vs = v :: us ∧ trRep K H t v ∧ trsRep K H ts us
end
mutual
theorem trRep_mono {K : Fg} {H H' : Hp} (s : Same H H') : ∀ (t : Tr) (v : V), trRep K H t v → trRep K H' t v
  | .n a b ts, v, h => by
    rw [trRep] at h ⊢
    obtain ⟨p, u, w, q, vs, e, h1, h2, h3, h4, h5⟩ := h
    exact ⟨p, u, w, q, vs, e, s _ _ h1, Rep.mono s h2, Rep.mono s h3, s _ _ h4, trsRep_mono s ts vs h5⟩
theorem trsRep_mono {K : Fg} {H H' : Hp} (s : Same H H') : ∀ (ts : List Tr) (vs : List V), trsRep K H ts vs → trsRep K H' ts vs
  | [], vs, h => by
    rw [trsRep] at h ⊢
    exact h
  | t :: ts, vs, h => by
    rw [trsRep] at h ⊢
    obtain ⟨v, us, e, h1, h2⟩ := h
    exact ⟨v, us, e, trRep_mono s t v h1, trsRep_mono s ts us h2⟩
end
instance repTr : Rep Tr := ⟨fun K H v t => trRep K H t v, fun {_ _ _ v t} s h => trRep_mono s t v h⟩
abbrev TrN := Nt (Thing × Thing × Tup Tr × Unit)
def Tr.nt (t : Tr) : TrN := ⟨(t.a, t.b, ⟨t.ts⟩, ())⟩
def Tr.of (x : TrN) : Tr := .n x.v.1 x.v.2.1 x.v.2.2.1.l
/-! ### a tuple and the empty one -/
/-! ### great powers and products -/
@[irreducible] def sqR (i : Int) : R Int := if i.natAbs < 2 ^ 400 then .ok (i ^ (2 : Int).toNat) else .bad
@[irreducible] def mulW (i j : Int) : R Int := if i.natAbs < 2 ^ 400 ∧ j.natAbs < 2 ^ 400 then .ok (i * j) else .bad
theorem pb_sq {β : Type} {Q : β → Prop} {E : Exn → Prop} {i : Int} {f : Int → R β} (h : Post (sqR i >>= f) Q E) : i.natAbs < 2 ^ 400 ∧ Post (f (i ^ (2 : Int).toNat)) Q E := by
  unfold sqR at h
  exact pb_if h
theorem pb_mulW {β : Type} {Q : β → Prop} {E : Exn → Prop} {i j : Int} {f : Int → R β} (h : Post (mulW i j >>= f) Q E) : (i.natAbs < 2 ^ 400 ∧ j.natAbs < 2 ^ 400) ∧ Post (f (i * j)) Q E := by
  unfold mulW at h
  exact pb_if h
theorem po_sq {i : Int} (h : i.natAbs < 2 ^ 400) : sqR i = R.ok (i * i) := by
  unfold sqR
  rw [if_pos h]
  have e : i ^ (2 : Int).toNat = i * i := by
    show i ^ 2 = i * i
    rw [Int.pow_succ, Int.pow_succ, Int.pow_zero, Int.one_mul]
  rw [e]
theorem po_mulW {i j : Int} (h : i.natAbs < 2 ^ 400) (h2 : j.natAbs < 2 ^ 400) : mulW i j = R.ok (i * j) := by
  unfold mulW
  rw [if_pos ⟨h, h2⟩]
section
variable {X : Cx}
theorem op_sq : OpR X (binaryOp .Pow) (rI (fun i j => j = 2 ∧ i.natAbs < 2 ^ 400) fun i j => .int (i ^ j.toNat)) := opI fun i j _ _ _ _ _ hc q => by
  obtain ⟨rfl, h⟩ := hc
  refine PyProof.Rows.pow_int (by decide) ?_ q
  have := intBits_le_iff.mpr h
  omega
theorem op_mulW4 : OpR X (binaryOp .Mult) (rI (fun i j => i.natAbs < 2 ^ 400 ∧ j.natAbs < 2 ^ 400) fun i j => .int (i * j)) := opI fun _ _ _ _ _ _ _ hc q =>
  mul_int q (IntMulOk.of_le (intBits_le_iff.mpr hc.1) (intBits_le_iff.mpr hc.2) (by decide))
end
/-! ### min, max of a tuple of two ints -/
section
variable {prog : Program} {w : World} {A : Around} {E : Value → Shared → Prop} {s : Shared} {l : Addr} {xs : Array (Int × Tok)} {Q : Value → Shared → Prop}
theorem iter_intTup (hl : s.heap.IsTuple l (intItems xs))
    (h : ∀ s₂ : Shared, s₂ = { s with heap := s.heap.push { cls := .type "tuple_iterator", data := .fields #[.ref l, .int 0 0] } } →
      (s₂.heap.IsTupleIter s.heap.objs.size l 0 ∧ s₂.heap.IsTuple l (intItems xs)) → (∀ b ∈ [s.heap.objs.size, l], b < s₂.heap.objs.size) → l ≠ s.heap.objs.size → Q (.ref s.heap.objs.size) s₂) :
    wpAny (model prog w) A (pyIter (.ref l)) Q E s := by
  have hlt : l < s.heap.objs.size := by obtain ⟨_, e, _⟩ := hl; exact Heap.lt_size e
  refine wpAny_pyIter_tuple hl (h _ rfl ⟨⟨_, Heap.get?_push_size _ rfl, rfl, rfl⟩, hl.push _⟩ (fun b hb => ?_) (Nat.ne_of_lt hlt))
  show b < (s.heap.push _).objs.size
  rw [Heap.size_push]
  rcases List.mem_cons.mp hb with rfl | hb
  · exact Nat.lt_succ_self _
  · rcases List.mem_cons.mp hb with rfl | hb
    · exact Nat.lt_succ_of_lt hlt
    · cases hb
theorem old_keptT {h' : Heap} (hk : ∀ b o, b ∉ [s.heap.objs.size] → (s.heap.push { cls := .type "tuple_iterator", data := .fields #[.ref l, .int 0 0] }).get? b = some o → h'.get? b = some o) :
    ∀ b o, s.heap.get? b = some o → h'.get? b = some o := fun b o e => by
  refine hk b o (fun hm => ?_) (Heap.get?_push_of_some _ e)
  rcases List.mem_cons.mp hm with e1 | hm
  · exact absurd (e1 ▸ Heap.lt_size e) (Nat.lt_irrefl _)
  · cases hm
theorem max_intTup (hh : A.handled = none) (hl : s.heap.IsTuple l (intItems xs)) (hne : 0 < xs.size)
    (h : ∀ v h' tk, (intItems xs)[argBest (fun i j => decide (numAt xs i > numAt xs j)) (xs.size - 1)]? = some v → (∀ b o, s.heap.get? b = some o → h'.get? b = some o) → Q v { s with heap := h', toks := tk }) :
    wpAny (model prog w) A (call (.builtin "max") [.ref l]) Q E s := by
  refine call_max_walk (iter_intTup hl fun s₂ e st hfp hlI => ?_)
  subst e
  refine ⟨_, _, _, _, _, _, _, rfl, Walks.tuple (A := A.in1) hh _ l hlI (intItems xs), st, hfp, by simpa [intItems] using hne, CmpOf.ints_gt (numAt xs) (fun _ _ => intItems_at), fun v h' tk hP hk => ?_⟩
  exact h v h' tk (by simpa [intItems] using hP) (old_keptT hk)
theorem min_intTup (hh : A.handled = none) (hl : s.heap.IsTuple l (intItems xs)) (hne : 0 < xs.size)
    (h : ∀ v h' tk, (intItems xs)[argBest (fun i j => decide (numAt xs i < numAt xs j)) (xs.size - 1)]? = some v → (∀ b o, s.heap.get? b = some o → h'.get? b = some o) → Q v { s with heap := h', toks := tk }) :
    wpAny (model prog w) A (call (.builtin "min") [.ref l]) Q E s := by
  refine call_min_walk (iter_intTup hl fun s₂ e st hfp hlI => ?_)
  subst e
  refine ⟨_, _, _, _, _, _, _, rfl, Walks.tuple (A := A.in1) hh _ l hlI (intItems xs), st, hfp, by simpa [intItems] using hne, CmpOf.ints_lt (numAt xs) (fun _ _ => intItems_at), fun v h' tk hP hk => ?_⟩
  exact h v h' tk (by simpa [intItems] using hP) (old_keptT hk)
end
section
variable {X : Cx} {K : Fg}
theorem cr_maxT2 (hK : X.K = K) (hc : X.calm = true) : CallR X (.builtin "max") (fun vs H Q => ∃ (a : Addr) (i j : Int), vs = [V.ref a] ∧ SqT K H a [.int i, .int j] ∧ ∃ k, max2 i j = k ∧ Q (.int k) H) := by
  subst hK
  intro pins s σ H vs us Q I r ⟨a, i, j, e, h, k, ek, q⟩
  subst e ek
  obtain ⟨its, rv, hT, _⟩ := I.tuple h
  obtain ⟨t, u, rfl⟩ := Vals.int2 rv
  rw [Vals.ref1 r]
  refine max_intTup (xs := #[(i, t), (j, u)]) (I.ok.hd hc) (by rw [show intItems #[(i, t), (j, u)] = #[Value.int i t, Value.int j u] by simp [intItems]]; exact hT) (show 0 < 2 from by decide) fun v h' tk hv hk => ?_
  have hv' : v = Value.int (max2 i j) (if j > i then u else t) := by
    unfold max2
    by_cases z : j > i
    · have e : argBest (fun x y => decide (numAt #[(i, t), (j, u)] x > numAt #[(i, t), (j, u)] y)) 1 = 1 := by simp [argBest, numAt, z]
      rw [show (#[(i, t), (j, u)] : Array (Int × Tok)).size - 1 = 1 from rfl, e] at hv
      simpa [intItems, z] using hv.symm
    · have e : argBest (fun x y => decide (numAt #[(i, t), (j, u)] x > numAt #[(i, t), (j, u)] y)) 1 = 0 := by simp [argBest, numAt, z]
      rw [show (#[(i, t), (j, u)] : Array (Int × Tok)).size - 1 = 1 from rfl, e] at hv
      simpa [intItems, z] using hv.symm
  rw [hv']
  exact ⟨.int _, H, I.kept hk, ⟨_, rfl⟩, q⟩
theorem cr_minT2 (hK : X.K = K) (hc : X.calm = true) : CallR X (.builtin "min") (fun vs H Q => ∃ (a : Addr) (i j : Int), vs = [V.ref a] ∧ SqT K H a [.int i, .int j] ∧ ∃ k, min2 i j = k ∧ Q (.int k) H) := by
  subst hK
  intro pins s σ H vs us Q I r ⟨a, i, j, e, h, k, ek, q⟩
  subst e ek
  obtain ⟨its, rv, hT, _⟩ := I.tuple h
  obtain ⟨t, u, rfl⟩ := Vals.int2 rv
  rw [Vals.ref1 r]
  refine min_intTup (xs := #[(i, t), (j, u)]) (I.ok.hd hc) (by rw [show intItems #[(i, t), (j, u)] = #[Value.int i t, Value.int j u] by simp [intItems]]; exact hT) (show 0 < 2 from by decide) fun v h' tk hv hk => ?_
  have hv' : v = Value.int (min2 i j) (if j < i then u else t) := by
    unfold min2
    by_cases z : j < i
    · have e : argBest (fun x y => decide (numAt #[(i, t), (j, u)] x < numAt #[(i, t), (j, u)] y)) 1 = 1 := by simp [argBest, numAt, z]
      rw [show (#[(i, t), (j, u)] : Array (Int × Tok)).size - 1 = 1 from rfl, e] at hv
      simpa [intItems, z] using hv.symm
    · have e : argBest (fun x y => decide (numAt #[(i, t), (j, u)] x < numAt #[(i, t), (j, u)] y)) 1 = 0 := by simp [argBest, numAt, z]
      rw [show (#[(i, t), (j, u)] : Array (Int × Tok)).size - 1 = 1 from rfl, e] at hv
      simpa [intItems, z] using hv.symm
  rw [hv']
  exact ⟨.int _, H, I.kept hk, ⟨_, rfl⟩, q⟩
end
/-! ### a list grows by a tuple's items -/
end Z
/-! Z8: set(list of ints), sorted of it; list.count of data; list.insert -/
namespace L2
open PySem PySem.Spec PyProof.Rows
end L2
namespace Z
open PySem L2
open Rep (rep)
/-- xs.insert(i, y), i not below nought -/
def insR {α : Type} (xs : List α) (i : Int) (y : α) : R (List α) := if xs.length < 100000 ∧ 0 ≤ i ∧ i < 9223372036854775808 then .ok (xs.take i.toNat ++ [y] ++ xs.drop i.toNat) else .bad
theorem pn_ins {α δ : Type} {xs : List α} {i : Int} {y : α} {f : List α → R δ} {P : δ → Prop} {E : Exn → Prop} (h : Post (insR xs i y >>= f) P E) : ∃ l, (xs.length < 100000 ∧ 0 ≤ i ∧ i < 9223372036854775808) ∧ l = xs.take i.toNat ++ [y] ++ xs.drop i.toNat ∧ Post (f l) P E := by
  unfold insR at h
  by_cases q : xs.length < 100000 ∧ 0 ≤ i ∧ i < 9223372036854775808
  · rw [if_pos q] at h
    exact ⟨_, q, rfl, h⟩
  · rw [if_neg q] at h
    exact (show False from h).elim
theorem A2.ins {α : Type} {r : V → α → Prop} {v : V} {y : α} (n : Nat) {vs : List V} {xs : List α} (h : A2 r vs xs) (g : r v y) : A2 r (vs.take n ++ [v] ++ vs.drop n) (xs.take n ++ [y] ++ xs.drop n) := A2.append (A2.append (A2.take n h) (.cons g .nil)) (A2.drop n h)
theorem line_ins {α : Type} {r : V → α → Prop} {vs : List V} {xs : List α} (h : A2 r vs xs) (g : xs.length < 100000) : vs.length < sizeLine := by
  rw [h.length]
  exact Nat.lt_of_lt_of_le g line5
end Z
namespace Z
open PySem L2
open Rep (rep)
/-- a dict that stays as it is -/
structure FzD (κ β : Type) where
  m : List (κ × β)
  deriving DecidableEq
instance repFD : Rep (FzD Int Int) := ⟨fun K H v d => ∃ a, v = .ref a ∧ H a = some (.dK (encM kI V.int d.m)), fun s ⟨a, e, q⟩ => ⟨a, e, s _ _ q⟩⟩
end Z
namespace Z
open PySem L2
open Rep (rep)
end Z
namespace Z
open PySem L2
open Rep (rep)
section
variable {X : Cx} {K : Fg} {F H : Hp}
theorem A2.some {α : Type} [Rep α] {vs : List V} {xs : List α} (h : A2 (rep K F) vs xs) : A2 (rep K F) vs (xs.map Option.some) := by
  induction h with
  | nil => exact .nil
  | cons a _ ih => exact .cons (rep_some a) ih
end
end Z
/-! ZM: lemmas about mirrors -/
namespace Z
open PySem L2
section
variable {α β γ : Type}
theorem mapR_ok {f : α → R β} {g : α → β} : ∀ {xs : List α}, (∀ x ∈ xs, f x = R.ok (g x)) → mapR f xs = R.ok (xs.map g)
  | [], _ => rfl
  | x :: xs, h => by
    show (f x >>= fun y => mapR f xs >>= fun ys => R.ok (y :: ys)) = _
    rw [h x List.mem_cons_self, mapR_ok fun y hy => h y (List.mem_cons_of_mem _ hy)]
    rfl
theorem mapG_ok {f : α → R β} {g : α → β} {xs : List α} (hl : xs.length < 100000) (h : ∀ x ∈ xs, f x = R.ok (g x)) : mapG f xs = R.ok (xs.map g) := by
  unfold mapG
  rw [grd_t (decide_eq_true hl)]
  exact mapR_ok h
theorem filR_ok {f : α → R (Option β)} {g : α → Option β} : ∀ {xs : List α}, (∀ x ∈ xs, f x = R.ok (g x)) → filR f xs = R.ok (xs.filterMap g)
  | [], _ => rfl
  | x :: xs, h => by
    show (f x >>= fun o => filR f xs >>= fun ys => match o with
      | some y => R.ok (y :: ys)
      | none => R.ok ys) = _
    rw [h x List.mem_cons_self, filR_ok fun y hy => h y (List.mem_cons_of_mem _ hy)]
    show (match g x with
      | some y => R.ok (y :: xs.filterMap g)
      | none => R.ok (xs.filterMap g)) = R.ok ((x :: xs).filterMap g)
    rw [List.filterMap_cons]
    cases g x <;> rfl
theorem filG_ok {f : α → R (Option β)} {g : α → Option β} {xs : List α} (hl : xs.length < 100000) (h : ∀ x ∈ xs, f x = R.ok (g x)) : filG f xs = R.ok (xs.filterMap g) := by
  unfold filG
  rw [grd_t (decide_eq_true hl)]
  exact filR_ok h
theorem getI_nat {xs : List α} {i : Int} (h0 : 0 ≤ i) (h1 : i < xs.length) : ∃ x, getI xs i = R.ok x ∧ x ∈ xs ∧ xs[i.toNat]? = some x := by
  have hj : i.toNat < xs.length := by omega
  refine ⟨xs[i.toNat], ?_, List.getElem_mem hj, List.getElem?_eq_getElem hj⟩
  unfold getI
  have e : atI xs i = some xs[i.toNat] := by
    have := atI_nat (xs := xs) (j := i.toNat) (v := xs[i.toNat]) (List.getElem?_eq_getElem hj)
    rw [Int.toNat_of_nonneg h0] at this
    exact this
  rw [e]
  rfl
theorem getI_eq {xs : List α} {i : Int} {x : α} (h0 : 0 ≤ i) (h : xs[i.toNat]? = some x) : getI xs i = R.ok x := by
  have h1 := (List.getElem?_eq_some_iff.mp h).1
  obtain ⟨y, e, _, e2⟩ := getI_nat (xs := xs) (i := i) h0 (by omega)
  rw [h] at e2
  cases e2
  exact e
theorem getI_last {xs : List α} (x : α) : getI (xs ++ [x]) (-1) = R.ok x := by
  unfold getI
  rw [atI_last]
  rfl
theorem setI_nat {xs : List α} {i : Int} {x : α} (h0 : 0 ≤ i) (h1 : i < xs.length) : setI xs i x = R.ok (xs.set i.toNat x) := by
  have e : ixN xs.length i = some i.toNat := by
    unfold ixN
    rw [if_pos h0, if_pos h1]
  unfold setI
  rw [e]
theorem app_ok {xs : List α} {x : α} (h : xs.length < 100000) : app xs x = R.ok (xs ++ [x]) := by
  unfold app
  rw [if_pos h]
theorem extend_ok {xs ys : List α} (h : xs.length + ys.length < 100000) : extend xs ys = R.ok (xs ++ ys) := by
  unfold extend
  rw [if_pos h]
theorem modI_ok {i j : Int} (h : 0 < j) : modI i j = R.ok (i % j) := by
  unfold modI
  rw [if_pos h]
theorem divI_okW {i j : Int} (h : 0 < j) (h2 : j.natAbs.log2 < 9000) : divI i j = R.ok (i / j) := by
  unfold divI
  rw [if_pos ⟨h, h2⟩]
theorem divI_ok {i j : Int} (h : 0 < j) (h2 : j < 1073741824) : divI i j = R.ok (i / j) := by
  refine divI_okW h (Nat.lt_of_lt_of_le ((Nat.log2_lt (by omega)).mpr (show j.natAbs < 2 ^ 30 by omega)) (by decide))
theorem mulI_ok {i j : Int} (h : (-(2 ^ 64) < i ∧ i < 2 ^ 64) ∨ (-(2 ^ 64) < j ∧ j < 2 ^ 64)) : mulI i j = R.ok (i * j) := by
  unfold mulI
  rw [if_pos h]
theorem rngI_ok {i j : Int} (h1 : -(2 ^ 62) ≤ i) (h2 : i < 2 ^ 62) (h3 : -(2 ^ 62) ≤ j) (h4 : j < 2 ^ 62) : rngI i j = R.ok (rng i j) := by
  unfold rngI
  rw [if_pos ⟨h1, h2, h3, h4⟩]
theorem rng_mem {i j k : Int} : k ∈ rng i j ↔ i ≤ k ∧ k < j := by
  unfold rng
  rw [List.mem_map]
  constructor
  · rintro ⟨n, hn, rfl⟩
    have := List.mem_range.mp hn
    omega
  · intro h
    exact ⟨(k - i).toNat, List.mem_range.mpr (by omega), by omega⟩
/-! ### what holds of a result, step by step -/
section
variable {P Q : α → Prop} {S : β → Prop} {X : Exn → Prop}
theorem po_bind {m : R α} {k : α → R β} (h : Post m Q X) (hk : ∀ a, Q a → Post (k a) S X) : Post (m >>= k) S X := by
  cases m with
  | ok a => exact hk a h
  | exc e => exact h
  | bad => exact h
theorem po_ok {a : α} (h : P a) : Post (R.ok a) P X := h
theorem po_eq {m : R α} {a : α} (h : m = R.ok a) (hp : P a) : Post m P X := by
  rw [h]
  exact hp
theorem po_if {c : Prop} [Decidable c] {m n : R α} (h1 : c → Post m P X) (h2 : ¬ c → Post n P X) : Post (if c then m else n) P X := by
  by_cases h : c
  · rw [if_pos h]
    exact h1 h
  · rw [if_neg h]
    exact h2 h
theorem po_ex {m : R α} (h : Post m P noX) : ∃ a, m = R.ok a ∧ P a := by
  cases m with
  | ok a => exact ⟨a, rfl, h⟩
  | exc e => exact (show False from h).elim
  | bad => exact (show False from h).elim
theorem po_iff {m : R α} {a : α} (h : Post m (· = a) noX) : m = R.ok a := by
  obtain ⟨b, e, rfl⟩ := po_ex h
  exact e
theorem po_get {xs : List α} {i : Int} {k : α → R β} (h0 : 0 ≤ i) (h1 : i < xs.length) (hk : ∀ x, x ∈ xs → xs[i.toNat]? = some x → Post (k x) S X) : Post (getI xs i >>= k) S X := by
  obtain ⟨x, e, h2, h3⟩ := getI_nat h0 h1
  rw [e]
  exact hk x h2 h3
theorem po_getE {xs : List α} {i : Int} {x : α} {k : α → R β} (h : getI xs i = R.ok x) (hk : Post (k x) S X) : Post (getI xs i >>= k) S X := by
  rw [h]
  exact hk
theorem po_set {xs : List α} {i : Int} {x : α} {k : List α → R β} (h0 : 0 ≤ i) (h1 : i < xs.length) (hk : Post (k (xs.set i.toNat x)) S X) : Post (setI xs i x >>= k) S X := by
  rw [setI_nat h0 h1]
  exact hk
theorem po_app {xs : List α} {x : α} {k : List α → R β} (h : xs.length < 100000) (hk : Post (k (xs ++ [x])) S X) : Post (app xs x >>= k) S X := by
  rw [app_ok h]
  exact hk
theorem po_extend {xs ys : List α} {k : List α → R β} (h : xs.length + ys.length < 100000) (hk : Post (k (xs ++ ys)) S X) : Post (extend xs ys >>= k) S X := by
  rw [extend_ok h]
  exact hk
theorem po_mod {i j : Int} {k : Int → R β} (h : 0 < j) (hk : 0 ≤ i % j → i % j < j → Post (k (i % j)) S X) : Post (modI i j >>= k) S X := by
  rw [modI_ok h]
  exact hk (Int.emod_nonneg _ (by omega)) (Int.emod_lt_of_pos _ h)
theorem po_div {i j : Int} {k : Int → R β} (h : 0 < j) (h2 : j < 1073741824) (hk : Post (k (i / j)) S X) : Post (divI i j >>= k) S X := by
  rw [divI_ok h h2]
  exact hk
theorem po_mul {i j : Int} {k : Int → R β} (h : (-(2 ^ 64) < i ∧ i < 2 ^ 64) ∨ (-(2 ^ 64) < j ∧ j < 2 ^ 64)) (hk : Post (k (i * j)) S X) : Post (mulI i j >>= k) S X := by
  rw [mulI_ok h]
  exact hk
theorem po_rng {i j : Int} {k : List Int → R β} (h1 : -(2 ^ 62) ≤ i) (h2 : i < 2 ^ 62) (h3 : -(2 ^ 62) ≤ j) (h4 : j < 2 ^ 62) (hk : Post (k (rng i j)) S X) : Post (rngI i j >>= k) S X := by
  rw [rngI_ok h1 h2 h3 h4]
  exact hk
theorem po_fold {f : β → α → R β} {s : β} {xs : List α} (I : β → Prop) (h0 : I s) (hf : ∀ s x, I s → x ∈ xs → Post (f s x) I X) : Post (foldR f s xs) I X := by
  induction xs generalizing s with
  | nil => exact h0
  | cons x xs ih =>
    show Post (f s x >>= fun s' => foldR f s' xs) I X
    exact po_bind (hf s x h0 List.mem_cons_self) fun s' h' => ih h' fun s y hs hy => hf s y hs (List.mem_cons_of_mem _ hy)
end
end
/-! ### dicts -/
section
variable {κ β : Type} [DecidableEq κ]
theorem mhas_iff {m : List (κ × β)} {k : κ} : mhas m k = true ↔ ∃ p ∈ m, p.1 = k := by
  unfold mhas
  rw [List.any_eq_true]
  constructor
  · rintro ⟨p, h, e⟩
    exact ⟨p, h, of_decide_eq_true e⟩
  · rintro ⟨p, h, e⟩
    exact ⟨p, h, decide_eq_true e⟩
theorem mput_new {m : List (κ × β)} {k : κ} {v : β} (h : mhas m k = false) : mput m k v = m ++ [(k, v)] := by
  unfold mput
  have h' : (m.any fun p => decide (p.1 = k)) = false := h
  rw [h', if_neg (by decide)]
end
end Z
/-! ZG: webs: joined, how far; no program in sight -/
namespace Z
open PySem L2
/-! ### more steps -/
section
variable {α β γ δ : Type} {P Q : α → Prop} {S : β → Prop} {X : Exn → Prop}
/-- a fold, by what is gone through -/
theorem po_foldP {f : β → α → R β} {s : β} {xs : List α} (I : List α → β → Prop) (h0 : I [] s) (hf : ∀ pre s x post, xs = pre ++ x :: post → I pre s → Post (f s x) (I (pre ++ [x])) X) : Post (foldR f s xs) (I xs) X := by
  have key : ∀ (l pre : List α) (s : β), xs = pre ++ l → I pre s → Post (foldR f s l) (I xs) X := by
    intro l
    induction l with
    | nil =>
      intro pre s e h
      rw [List.append_nil] at e
      rw [e]
      exact h
    | cons x l ih =>
      intro pre s e h
      show Post (f s x >>= fun s' => foldR f s' l) _ X
      exact po_bind (hf pre s x l e h) fun s' h' => ih (pre ++ [x]) s' (by rw [e, List.append_assoc]; rfl) h'
  exact key xs [] s rfl h0
/-- items for items with a state, by what is made -/
theorem po_mapStA {f : γ → α → R (β × γ)} {s : γ} {xs : List α} (I : List α → List β → γ → Prop) (hl : xs.length < 100000) (h0 : I [] [] s)
    (hf : ∀ pre acc s x post, xs = pre ++ x :: post → I pre acc s → Post (f s x) (fun r => I (pre ++ [x]) (acc ++ [r.1]) r.2) X) : Post (mapStG f s xs) (fun r => I xs r.1 r.2) X := by
  unfold mapStG
  rw [grd_t (decide_eq_true hl), ok_bind]
  have key : ∀ (l pre : List α) (acc : List β) (s : γ), xs = pre ++ l → I pre acc s → Post (mapSt f s l) (fun r => I xs (acc ++ r.1) r.2) X := by
    intro l
    induction l with
    | nil =>
      intro pre acc s e h
      rw [List.append_nil] at e
      show I xs (acc ++ []) s
      rw [List.append_nil, e]
      exact h
    | cons x l ih =>
      intro pre acc s e h
      refine po_bind (hf pre acc s x l e h) fun r hr => po_bind (ih (pre ++ [x]) (acc ++ [r.1]) r.2 (by rw [e, List.append_assoc]; rfl) hr) fun q hq => ?_
      show I xs (acc ++ (r.1 :: q.1)) q.2
      rw [List.append_assoc] at hq
      exact hq
  exact key xs [] [] s rfl h0
theorem po_mapGE {f : α → R β} {g : α → β} {xs : List α} {k : List β → R γ} {T : γ → Prop} (hl : xs.length < 100000) (h : ∀ x ∈ xs, f x = R.ok (g x)) (hk : Post (k (xs.map g)) T X) : Post (mapG f xs >>= k) T X := by
  rw [mapG_ok hl h]
  exact hk
theorem po_filGE {f : α → R (Option β)} {g : α → Option β} {xs : List α} {k : List β → R γ} {T : γ → Prop} (hl : xs.length < 100000) (h : ∀ x ∈ xs, f x = R.ok (g x)) (hk : Post (k (xs.filterMap g)) T X) : Post (filG f xs >>= k) T X := by
  rw [filG_ok hl h]
  exact hk
/-- a while: an invariant, a measure -/
theorem po_while {c : γ → R Bool} {b : γ → R γ} {T : γ → Prop} (I : γ → Prop) (μ : γ → Nat)
    (hs : ∀ s, I s → Post (c s) (fun t => (t = true → Post (b s) (fun s' => I s' ∧ μ s' < μ s) X) ∧ (t = false → T s)) X) : ∀ {n : Nat} {s : γ}, I s → μ s < n → Post (whileR c b n s) T X
  | 0, s, _, h => absurd h (Nat.not_lt_zero _)
  | n + 1, s, hi, h => by
    refine po_bind (hs s hi) fun t ⟨h1, h2⟩ => ?_
    cases t with
    | false => exact h2 rfl
    | true => exact po_bind (h1 rfl) fun s' ⟨a, d⟩ => po_while I μ hs a (by omega)
theorem po_getS {st : List (List α)} {j : Nat} {xs : List α} {k : List α → R γ} {T : γ → Prop} (h : st[j]? = some xs) (hk : Post (k xs) T X) : Post (getS st j >>= k) T X := by
  unfold getS
  rw [h]
  exact hk
theorem po_setS {st : List (List α)} {j : Nat} {xs : List α} {k : List (List α) → R γ} {T : γ → Prop} (hk : Post (k (st.set j xs)) T X) : Post (setS st j xs >>= k) T X := hk
theorem po_newS {st : List (List α)} {xs : List α} {k : Nat × List (List α) → R γ} {T : γ → Prop} (hk : Post (k (st.length, st ++ [xs])) T X) : Post (newS st xs >>= k) T X := hk
theorem po_listRng {i j : Int} {k : List Int → R γ} {T : γ → Prop} (h1 : -(2 ^ 62) ≤ i) (h2 : i < 2 ^ 62) (h3 : -(2 ^ 62) ≤ j) (h4 : j < 2 ^ 62) (h5 : (j - i).toNat ≤ 100000) (hk : Post (k (rng i j)) T X) : Post (listRng i j >>= k) T X := by
  unfold listRng
  rw [if_pos ⟨h1, h2, h3, h4, h5⟩]
  exact hk
theorem po_rep {xs : List α} {i : Int} {k : List α → R γ} {T : γ → Prop} (h1 : 0 ≤ i) (h2 : i < 1000) (h3 : xs.length < 100) (hk : Post (k (repL xs i)) T X) : Post (repR xs i >>= k) T X := by
  unfold repR
  have h4 : xs.length * i.toNat ≤ 100 * 1000 := Nat.mul_le_mul (by omega) (by omega)
  have h5 : xs.length * i.toNat < 100000 := by
    have h6 : xs.length * i.toNat ≤ 99 * 999 := Nat.mul_le_mul (by omega) (by omega)
    omega
  rw [if_pos ⟨by omega, by omega, h5⟩]
  exact hk
theorem po_ofO {o : Option α} {x : α} {k : α → R γ} {T : γ → Prop} (h : o = some x) (hk : Post (k x) T X) : Post (ofO o >>= k) T X := by
  rw [h]
  exact hk
end
theorem rng_atE {i j : Int} {k : Nat} (h : k < (j - i).toNat) : (rng i j)[k]? = some (i + k) := rng_get h
theorem rng_nodup (i j : Int) : (rng i j).Nodup := by
  unfold rng
  refine List.Pairwise.map _ (fun a b h => ?_) List.nodup_range
  intro e
  exact h (by omega)
theorem rng_pre {i j x : Int} {pre post : List Int} (h : rng i j = pre ++ x :: post) : x = i + pre.length := by
  have h1 : (rng i j)[pre.length]? = some x := by rw [h]; simp
  have hl : pre.length < (rng i j).length := by rw [h]; simp
  rw [rng_length] at hl
  rw [rng_atE hl] at h1
  cases h1
  rfl
theorem rng_split {i j x : Int} {pre post : List Int} (h : rng i j = pre ++ x :: post) : pre = rng i x ∧ i ≤ x ∧ x < j := by
  have e := rng_pre h
  have hl : (rng i j).length = pre.length + (post.length + 1) := by rw [h]; simp
  rw [rng_length] at hl
  refine ⟨?_, by omega, by omega⟩
  apply List.ext_getElem?
  intro k
  by_cases hk : k < pre.length
  · have h1 : (rng i j)[k]? = pre[k]? := by rw [h, List.getElem?_append_left hk]
    rw [← h1, rng_atE (by omega), rng_atE (by omega)]
  · rw [List.getElem?_eq_none (by omega), List.getElem?_eq_none (by rw [rng_length]; omega)]
theorem rng_snoc {i j : Int} (h : i ≤ j) : rng i (j + 1) = rng i j ++ [j] := by
  apply List.ext_getElem?
  intro k
  by_cases hk : k < (j - i).toNat
  · rw [List.getElem?_append_left (by rw [rng_length]; exact hk), rng_atE hk, rng_atE (by omega)]
  · by_cases hk2 : k = (j - i).toNat
    · rw [List.getElem?_append_right (by rw [rng_length]; omega), rng_atE (by omega), rng_length, hk2]
      simp
      omega
    · rw [List.getElem?_eq_none (by rw [rng_length]; omega), List.getElem?_eq_none (by rw [List.length_append, rng_length]; simp; omega)]
/-! ### joined -/
def Adj (ts : List (Int × Int)) (a b : Int) : Prop := (a, b) ∈ ts ∨ (b, a) ∈ ts
theorem Adj.symm {ts : List (Int × Int)} {a b : Int} (h : Adj ts a b) : Adj ts b a := h.elim .inr .inl
/-- what holds of a place and goes along all ties holds of all places -/
def Conn (n : Int) (ts : List (Int × Int)) : Prop := ∀ S : Int → Prop, S 0 → (∀ p ∈ ts, S p.1 ↔ S p.2) → ∀ k, 0 ≤ k → k < n → S k
theorem Conn.any {n : Int} {ts : List (Int × Int)} (h : Conn n ts) {S : Int → Prop} {r : Int} (r0 : 0 ≤ r) (r1 : r < n) (hr : S r) (hc : ∀ p ∈ ts, S p.1 ↔ S p.2) : ∀ k, 0 ≤ k → k < n → S k := by
  by_cases h0 : S 0
  · exact h S h0 hc
  · exact absurd hr (h (fun k => ¬ S k) h0 (fun p hp => not_congr (hc p hp)) r r0 r1)
theorem Conn.mono {n : Int} {ts us : List (Int × Int)} (h : Conn n ts) (hs : ∀ p ∈ ts, p ∈ us) : Conn n us := fun S h0 hc => h S h0 fun p hp => hc p (hs p hp)
/-! ### how far -/
structure IsDist (n : Int) (ts : List (Int × Int)) (p : Int) (f : Int → Int) : Prop where
  zero : f p = 0
  nn : ∀ v, 0 ≤ v → v < n → 0 ≤ f v
  lip : ∀ a b, Adj ts a b → f b ≤ f a + 1
  desc : ∀ v, 0 ≤ v → v < n → v ≠ p → ∃ w, 0 ≤ w ∧ w < n ∧ Adj ts w v ∧ f w + 1 = f v
theorem IsDist.le {n : Int} {ts : List (Int × Int)} {p : Int} {f g : Int → Int} (hf : IsDist n ts p f) (hg : IsDist n ts p g) : ∀ v, 0 ≤ v → v < n → f v ≤ g v := by
  have key : ∀ (m : Nat) (v : Int), (g v).toNat ≤ m → 0 ≤ v → v < n → f v ≤ g v := by
    intro m
    induction m with
    | zero =>
      intro v hm v0 v1
      by_cases hv : v = p
      · rw [hv, hf.zero, hg.zero]; exact Int.le_refl _
      · obtain ⟨w, w0, w1, _, e⟩ := hg.desc v v0 v1 hv
        have := hg.nn w w0 w1
        omega
    | succ m ih =>
      intro v hm v0 v1
      by_cases hv : v = p
      · rw [hv, hf.zero, hg.zero]; exact Int.le_refl _
      · obtain ⟨w, w0, w1, ha, e⟩ := hg.desc v v0 v1 hv
        have h1 := hg.nn w w0 w1
        have h2 := ih w (by omega) w0 w1
        have h3 := hf.lip w v ha
        omega
  exact fun v v0 v1 => key _ v (Nat.le_refl _) v0 v1
theorem IsDist.uniq {n : Int} {ts : List (Int × Int)} {p : Int} {f g : Int → Int} (hf : IsDist n ts p f) (hg : IsDist n ts p g) (v : Int) (v0 : 0 ≤ v) (v1 : v < n) : f v = g v :=
  Int.le_antisymm (hf.le hg v v0 v1) (hg.le hf v v0 v1)
/-- how far places are from one, in a web that hangs together -/
noncomputable def dst (n : Int) (ts : List (Int × Int)) (p : Int) : Int → Int := by
  classical
  exact if h : ∃ f, IsDist n ts p f then Classical.choose h else fun _ => 0
theorem dst_is {n : Int} {ts : List (Int × Int)} {p : Int} {f : Int → Int} (h : IsDist n ts p f) : IsDist n ts p (dst n ts p) := by
  have e : ∃ f, IsDist n ts p f := ⟨f, h⟩
  unfold dst
  rw [dif_pos e]
  exact Classical.choose_spec e
theorem dst_eq {n : Int} {ts : List (Int × Int)} {p : Int} {f : Int → Int} (h : IsDist n ts p f) (v : Int) (v0 : 0 ≤ v) (v1 : v < n) : f v = dst n ts p v := h.uniq (dst_is h) v v0 v1
/-! ### there is a distance -/
inductive Rch (ts : List (Int × Int)) (p : Int) : Nat → Int → Prop
  | here : Rch ts p 0 p
  | step {k : Nat} {a b : Int} : Rch ts p k a → Adj ts a b → Rch ts p (k + 1) b
theorem least {P : Nat → Prop} (h : ∃ k, P k) : ∃ k, P k ∧ ∀ j, j < k → ¬ P j := by
  obtain ⟨k, hk⟩ := h
  induction k using Nat.strongRecOn with
  | _ k ih =>
    by_cases q : ∃ j, j < k ∧ P j
    · obtain ⟨j, h1, h2⟩ := q
      exact ih j h1 h2
    · exact ⟨k, hk, fun j hj hp => q ⟨j, hj, hp⟩⟩
theorem conn_ex {n : Int} {ts : List (Int × Int)} {p : Int} (hr : ∀ q ∈ ts, 0 ≤ q.1 ∧ q.1 < n ∧ 0 ≤ q.2 ∧ q.2 < n) (hc : Conn n ts) (p0 : 0 ≤ p) (p1 : p < n) : IsDist n ts p (dst n ts p) := by
  classical
  have all : ∀ v, 0 ≤ v → v < n → ∃ k, Rch ts p k v := hc.any (S := fun v => ∃ k, Rch ts p k v) p0 p1 ⟨0, .here⟩ fun q hq => ⟨fun ⟨k, h⟩ => ⟨k + 1, h.step (.inl hq)⟩, fun ⟨k, h⟩ => ⟨k + 1, h.step (.inr hq)⟩⟩
  have adj : ∀ a b, Adj ts a b → (0 ≤ a ∧ a < n) ∧ (0 ≤ b ∧ b < n) := fun a b h => by
    rcases h with h | h
    · have := hr _ h
      exact ⟨⟨this.1, this.2.1⟩, ⟨this.2.2.1, this.2.2.2⟩⟩
    · have := hr _ h
      exact ⟨⟨this.2.2.1, this.2.2.2⟩, ⟨this.1, this.2.1⟩⟩
  have key : ∀ v, ∃ d : Int, 0 ≤ d ∧ (0 ≤ v → v < n → ∃ k : Nat, d = k ∧ Rch ts p k v ∧ ∀ j, j < k → ¬ Rch ts p j v) := fun v => by
    by_cases hv : 0 ≤ v ∧ v < n
    · obtain ⟨k, h1, h2⟩ := least (all v hv.1 hv.2)
      exact ⟨k, by omega, fun _ _ => ⟨k, rfl, h1, h2⟩⟩
    · exact ⟨0, Int.le_refl 0, fun a b => absurd ⟨a, b⟩ hv⟩
  have hf : ∃ f : Int → Int, ∀ v, 0 ≤ f v ∧ (0 ≤ v → v < n → ∃ k : Nat, f v = k ∧ Rch ts p k v ∧ ∀ j, j < k → ¬ Rch ts p j v) := ⟨fun v => Classical.choose (key v), fun v => Classical.choose_spec (key v)⟩
  obtain ⟨f, hf⟩ := hf
  have lip : ∀ a b, Adj ts a b → f b ≤ f a + 1 := fun a b h => by
    obtain ⟨⟨a0, a1⟩, ⟨b0, b1⟩⟩ := adj a b h
    obtain ⟨k, e1, h1, _⟩ := (hf a).2 a0 a1
    obtain ⟨j, e2, _, h2⟩ := (hf b).2 b0 b1
    have : ¬ k + 1 < j := fun q => h2 (k + 1) q (h1.step h)
    omega
  refine dst_is (f := f) ⟨?_, fun v _ _ => (hf v).1, lip, fun v v0 v1 hne => ?_⟩
  · obtain ⟨k, e, _, h2⟩ := (hf p).2 p0 p1
    have : ¬ 0 < k := fun q => h2 0 q .here
    omega
  · obtain ⟨k, e, h1, h2⟩ := (hf v).2 v0 v1
    cases h1 with
    | here => exact absurd rfl hne
    | step h3 h4 =>
      rename_i j w
      obtain ⟨⟨w0, w1⟩, _⟩ := adj _ _ h4
      refine ⟨w, w0, w1, h4, ?_⟩
      obtain ⟨i, e2, _, h5⟩ := (hf w).2 w0 w1
      have h6 : ¬ j < i := fun q => h5 j q h3
      have := lip w v h4
      omega
end Z
/-! ZN: dicts as lists of pairs -/
namespace Z
open PySem L2
end Z
namespace G
open PySem L2 Z
open Rep (rep)
open RepL (repTs)
def top (i : Nat) : Stmt := PySem.Challenge.pw_farhail_k49_whole_shares_of_known_webs.main.body.getD i (.Pass ⟨0, 0, 0, 0⟩)
abbrev s_near_lists : Stmt := top 7
abbrev s_fars_by : Stmt := top 8
abbrev s_place_asked : Stmt := top 9
abbrev s_fars_from : Stmt := top 10
abbrev s_table_of : Stmt := top 12
abbrev s_things_of : Stmt := top 13
abbrev s_looks_asked : Stmt := top 14
abbrev s_thing_asked : Stmt := top 15
abbrev s_far_by : Stmt := top 16
abbrev s_code_of : Stmt := top 17
abbrev s_ask_shared : Stmt := top 20
abbrev s_parted_pairs : Stmt := top 21
abbrev s_least_parted : Stmt := top 22
abbrev s_common_part : Stmt := top 23
abbrev s_shares_of : Stmt := top 25
abbrev s_law_purse : Stmt := top 27
abbrev s_law_take : Stmt := top 28
abbrev s_law_order : Stmt := top 29
abbrev s_law_pairs : Stmt := top 30
abbrev s_law_shape : Stmt := top 32
abbrev s_law_ratio : Stmt := top 33
abbrev s_law : Stmt := top 34
abbrev s_Board_init : Stmt := inClass (top 24) 0
abbrev s_Board_growing : Stmt := inClass (top 24) 1
abbrev s_Board_bounds_more : Stmt := inClass (top 24) 2
abbrev s_Board_bounding : Stmt := inClass (top 24) 3
abbrev s_Board_turn_in : Stmt := inClass (top 24) 4
abbrev s_Board_solve : Stmt := inClass (top 24) 5
abbrev s_Board_prices_now : Stmt := inClass (top 24) 6
abbrev BoardF : Type := Int × Int × (List Int) × (List (List Int)) × Unit
theorem fl_Board_bottom (u0 u1 u2 u3 : V) : (mkfs [("bottom" : Str), ("priced" : Str), ("held" : Str), ("lines" : Str)] [u0, u1, u2, u3]).lookup ("bottom" : Str) = some u0 := by kernel_rfl
theorem fl_Board_priced (u0 u1 u2 u3 : V) : (mkfs [("bottom" : Str), ("priced" : Str), ("held" : Str), ("lines" : Str)] [u0, u1, u2, u3]).lookup ("priced" : Str) = some u1 := by kernel_rfl
theorem fl_Board_held (u0 u1 u2 u3 : V) : (mkfs [("bottom" : Str), ("priced" : Str), ("held" : Str), ("lines" : Str)] [u0, u1, u2, u3]).lookup ("held" : Str) = some u2 := by kernel_rfl
theorem fl_Board_lines (u0 u1 u2 u3 : V) : (mkfs [("bottom" : Str), ("priced" : Str), ("held" : Str), ("lines" : Str)] [u0, u1, u2, u3]).lookup ("lines" : Str) = some u3 := by kernel_rfl
theorem fz0_Board (u0 u1 u2 u3 : V) : (mkfs [("bottom" : Str), ("priced" : Str), ("held" : Str), ("lines" : Str)] [u0, u1, u2, u3]).length < 1000 := by
  have e : (mkfs [("bottom" : Str), ("priced" : Str), ("held" : Str), ("lines" : Str)] [u0, u1, u2, u3]).length = 4 := by kernel_rfl
  omega
theorem fp_Board_bottom (v u0 u1 u2 u3 : V) : putF ("bottom" : Str) v (mkfs [("bottom" : Str), ("priced" : Str), ("held" : Str), ("lines" : Str)] [u0, u1, u2, u3]) = mkfs [("bottom" : Str), ("priced" : Str), ("held" : Str), ("lines" : Str)] [v, u1, u2, u3] := by kernel_rfl
theorem fm0_Board_growing (u0 u1 u2 u3 : V) : (mkfs [("bottom" : Str), ("priced" : Str), ("held" : Str), ("lines" : Str)] [u0, u1, u2, u3]).lookup ("growing" : Str) = none := by kernel_rfl
theorem fm0_Board_bounds_more (u0 u1 u2 u3 : V) : (mkfs [("bottom" : Str), ("priced" : Str), ("held" : Str), ("lines" : Str)] [u0, u1, u2, u3]).lookup ("bounds_more" : Str) = none := by kernel_rfl
theorem fm0_Board_bounding (u0 u1 u2 u3 : V) : (mkfs [("bottom" : Str), ("priced" : Str), ("held" : Str), ("lines" : Str)] [u0, u1, u2, u3]).lookup ("bounding" : Str) = none := by kernel_rfl
theorem fm0_Board_turn_in (u0 u1 u2 u3 : V) : (mkfs [("bottom" : Str), ("priced" : Str), ("held" : Str), ("lines" : Str)] [u0, u1, u2, u3]).lookup ("turn_in" : Str) = none := by kernel_rfl
theorem fm0_Board_solve (u0 u1 u2 u3 : V) : (mkfs [("bottom" : Str), ("priced" : Str), ("held" : Str), ("lines" : Str)] [u0, u1, u2, u3]).lookup ("solve" : Str) = none := by kernel_rfl
theorem fm0_Board_prices_now (u0 u1 u2 u3 : V) : (mkfs [("bottom" : Str), ("priced" : Str), ("held" : Str), ("lines" : Str)] [u0, u1, u2, u3]).lookup ("prices_now" : Str) = none := by kernel_rfl
/-! ### the mirrors -/
/-! near_lists -/
def near_lists (x_web : (Int × (Tup (Int × Int)))) : R (List (List Int)) := do
  let l4 ← rngI 0 x_web.1
  let l5 ← mapStG (fun (g5 : (List (List Int))) (b5 : Int) => do
      let r9 ← newS g5 ([] : (List Int))
      R.ok (r9.1, r9.2)) ([] : List (List Int)) l4
  let g11 ← foldR (fun (g11 : (List (List Int))) (b11 : (Int × Int)) => do
      let t14 ← getI l5.1 b11.1
      let x16 ← getS g11 t14
      let l17 ← app x16 b11.2
      let r17 ← setS g11 t14 l17
      let t18 ← getI l5.1 b11.2
      let x20 ← getS r17 t18
      let l21 ← app x20 b11.1
      let r21 ← setS r17 t18 l21
      R.ok r21) l5.2 x_web.2.l
  let l22 ← mapG (fun (b22 : Ix) => do
      let x26 ← getS g11 b22
      R.ok (sortI x26)) l5.1
  R.ok l22
/-! fars_by -/
def fars_by (x_near : (List (List Int))) (x_place : Int) : R (List (Option Int)) := do
  let l4 ← repR ([none] : (List (Option Int))) (x_near.length : Int)
  let l7 ← setI l4 x_place (some (0 : Int))
  let g11 ← whileR (fun (g11 : Int × (List Int) × (List (Option Int))) => do
      R.ok (decide (g11.1 < (g11.2.1.length : Int)))) (fun (g11 : Int × (List Int) × (List (Option Int))) => do
      let t13 ← getI g11.2.1 g11.1
      let t14 ← getI x_near t13
      let g12 ← foldR (fun (g12 : (List Int) × (List (Option Int))) (b12 : Int) => do
          let t17 ← getI g12.2 b12
          if t17.isNone = true then do
            let t20 ← getI g12.1 g11.1
            let t21 ← getI g12.2 t20
            let t23 ← ofO t21
            let l24 ← setI g12.2 b12 (some (t23 + (1 : Int)))
            let l26 ← app g12.1 b12
            R.ok (l26, l24)
          else do
            R.ok (g12.1, g12.2)) (g11.2.1, g11.2.2) t14
      R.ok ((g11.1 + (1 : Int)), g12.1, g12.2)) (fu 1000) ((0 : Int), ([x_place] : (List Int)), l7)
  R.ok g11.2.2
/-! place_asked -/
def place_asked (x_web : (Int × (Tup (Int × Int)))) (x_place : Int) : R Unit := do
  if (!((decide ((0 : Int) ≤ x_place)) && (decide (x_place < x_web.1)))) = true then do
    R.bad
  else do
    R.ok ()
/-! fars_from -/
def fars_from (x_web : (Int × (Tup (Int × Int)))) (x_place : Int) : R (List Int) := do
  let y3 ← place_asked x_web x_place
  let y4 ← near_lists x_web
  let y6 ← fars_by y4 x_place
  let l8 ← allS y6
  R.ok l8
/-! table_of -/
def table_of (x_web : (Int × (Tup (Int × Int)))) : R (List (List Int)) := do
  let l3 ← rngI 0 x_web.1
  let l4 ← mapG (fun (b4 : Int) => do
      let y6 ← fars_from x_web b4
      R.ok y6) l3
  R.ok l4
/-! things_of -/
def things_of (x_web : (Int × (Tup (Int × Int)))) (x_kind : Str) : R (List Thing) := do
  let l3 ← listRng 0 x_web.1
  if (decide (x_kind = ("places" : Str))) = true then do
    R.ok (mkpl l3)
  else do
    if (decide (x_kind = ("ties" : Str))) = true then do
      R.ok (mkti x_web.2.l)
    else do
      let l16 ← extend (mkpl l3) (mkti x_web.2.l)
      R.ok l16
/-! looks_asked -/
def looks_asked (x_web : (Int × (Tup (Int × Int)))) (x_looks : (List Int)) : R Unit := do
  let g4 ← foldR (fun (g4 : Unit) (b4 : (Int × Int)) => do
      let j6 ← (do
        if (!((decide ((0 : Int) ≤ b4.2)) && (decide (b4.2 < x_web.1)))) = true then do
          R.ok true
        else do
          let j13 ← (do
            if (decide ((0 : Int) < b4.1)) = true then do
              let t15 ← getI x_looks (b4.1 - (1 : Int))
              R.ok (decide (b4.2 ≤ t15))
            else do
              R.ok false : R (Bool))
          R.ok j13 : R (Bool))
      if j6 = true then do
        R.bad
      else do
        R.ok ()) () (enum x_looks)
  R.ok ()
/-! thing_asked -/
def thing_asked (x_web : (Int × (Tup (Int × Int)))) (x_thing : Thing) : R Unit := do
  if x_thing.isPl = true then do
    let t6 ← asPl x_thing
    if (!((decide ((0 : Int) ≤ t6)) && (decide (t6 < x_web.1)))) = true then do
      R.bad
    else do
      R.ok ()
  else do
    let t12 ← asTi x_thing
    if (!inB t12 x_web.2.l) = true then do
      R.bad
    else do
      R.ok ()
/-! far_by -/
def far_by (x_table : (List (List Int))) (x_look : Int) (x_thing : Thing) : R Int := do
  if x_thing.isPl = true then do
    let t5 ← asPl x_thing
    let t6 ← getI x_table x_look
    let t8 ← getI t6 t5
    R.ok t8
  else do
    let t9 ← asTi x_thing
    let t11 ← getI x_table x_look
    let t13 ← getI t11 t9.1
    let t14 ← getI x_table x_look
    let t16 ← getI t14 t9.2
    R.ok (min2 t13 t16)
/-! code_of -/
def code_of (x_web : (Int × (Tup (Int × Int)))) (x_looks : (List Int)) (x_thing : Thing) : R (List Int) := do
  let y5 ← looks_asked x_web x_looks
  let y6 ← thing_asked x_web x_thing
  let y7 ← table_of x_web
  let l9 ← mapG (fun (b9 : Int) => do
      let y12 ← far_by y7 b9 x_thing
      R.ok y12) x_looks
  R.ok l9
/-! ask_shared -/
def ask_shared (x_web : (Int × (Tup (Int × Int)))) : R Unit := do
  if (decide ((7 : Int) < x_web.1)) = true then do
    R.bad
  else do
    R.ok ()
/-! parted_pairs -/
def parted_pairs (x_web : (Int × (Tup (Int × Int)))) (x_kind : Str) : R (List (Nt (Thing × Thing × (List Int) × Unit))) := do
  let y3 ← things_of x_web x_kind
  let l6 ← mapG (fun (b6 : Thing) => do
      let l10 ← listRng 0 x_web.1
      let y13 ← code_of x_web l10 b6
      R.ok y13) y3
  let g20 ← foldR (fun (g20 : (List (Nt (Thing × Thing × (List Int) × Unit)))) (b20 : (Int × Thing)) => do
      let l24 ← rngI (b20.1 + (1 : Int)) (y3.length : Int)
      let g23 ← foldR (fun (g23 : (List (Nt (Thing × Thing × (List Int) × Unit)))) (b23 : Int) => do
          let l25 ← rngI 0 x_web.1
          let l26 ← filG (fun (b26 : Int) => do
              let t28 ← getI l6 b20.1
              let t30 ← getI t28 b26
              let t31 ← getI l6 b23
              let t33 ← getI t31 b26
              if (!decide (t30 = t33)) = true then do
                R.ok (some b26)
              else
                R.ok none) l25
          let t37 ← getI y3 b23
          let l40 ← app g23 (Nt.mk (b20.2, t37, l26, ()) : (Nt (Thing × Thing × (List Int) × Unit)))
          R.ok l40) g20 l24
      R.ok g23) ([] : (List (Nt (Thing × Thing × (List Int) × Unit)))) (enum y3)
  R.ok g20
/-! least_parted -/
def least_parted (x_pairs : (List (Nt (Thing × Thing × (List Int) × Unit)))) : R (List (Nt (Thing × Thing × (List Int) × Unit))) := do
  let g3 ← foldR (fun (g3 : (List ((Tup Int) × (Nt (Thing × Thing × (List Int) × Unit))))) (b3 : (Nt (Thing × Thing × (List Int) × Unit))) => do
      let l11 ← msetdR g3 (Tup.mk b3.v.2.2.1) b3
      R.ok l11) ([] : (List ((Tup Int) × (Nt (Thing × Thing × (List Int) × Unit))))) x_pairs
  let g15 ← foldR (fun (g15 : (List (Nt (Thing × Thing × (List Int) × Unit)))) (b15 : ((Tup Int) × (Nt (Thing × Thing × (List Int) × Unit)))) => do
      let l25 ← filG (fun (b25 : (Tup Int)) => do
          let j29 ← (do
            if (decide ((b25.l.length : Int) < (b15.1.l.length : Int))) = true then do
              let l31 ← mapG (fun (b31 : Int) => do
                  R.ok (inB b31 b15.1.l)) b25.l
              R.ok (l31.all id)
            else do
              R.ok false : R (Bool))
          if j29 = true then do
            R.ok (some b25)
          else
            R.ok none) (g3.map (·.1))
      if (decide (l25 = ([] : (List (Tup Int))))) = true then do
        let l45 ← app g15 b15.2
        R.ok l45
      else do
        R.ok g15) ([] : (List (Nt (Thing × Thing × (List Int) × Unit)))) g3
  R.ok g15
/-! common_part -/
def common_part (x_one : Int) (x_other : Int) : R Int := do
  let g1 ← whileR (fun (g1 : Int × Int) => do
      R.ok (!decide (g1.2 = (0 : Int)))) (fun (g1 : Int × Int) => do
      let t2 ← modI g1.1 g1.2
      R.ok (g1.2, t2)) (fu 1000) (x_one, x_other)
  R.ok g1.1
/-! Board.__init__ -/
def Board_init (x_many : Int) (x_pairs : (List (Nt (Thing × Thing × (List Int) × Unit)))) : R BoardF := do
  let l6 ← rngI 0 x_many
  let l7 ← mapG (fun (b7 : Int) => do
      R.ok ((x_pairs.length : Int) + b7)) l6
  let l15 ← rngI 0 x_many
  let g14 ← foldR (fun (g14 : (List (List Int))) (b14 : Int) => do
      let l16 ← mapG (fun (b16 : (Nt (Thing × Thing × (List Int) × Unit))) => do
          R.ok (b2i (inB b14 b16.v.2.2.1))) x_pairs
      let l25 ← rngI 0 x_many
      let l26 ← mapG (fun (b26 : Int) => do
          R.ok (b2i (decide (b14 = b26)))) l25
      let l29 ← extend l16 l26
      let l33 ← extend l29 ([(1 : Int)] : (List Int))
      let l36 ← app g14 l33
      R.ok l36) ([] : (List (List Int))) l15
  let l43 ← repR ([(-(1 : Int))] : (List Int)) (x_pairs.length : Int)
  let l47 ← repR ([(0 : Int)] : (List Int)) (x_many + (1 : Int))
  let l49 ← extend l43 l47
  let l52 ← app g14 l49
  R.ok ((1 : Int), (x_pairs.length : Int), l7, l52, ())
/-! Board.growing -/
def Board_growing (x_self : BoardF) : R (Option Int) := do
  let t6 ← getI x_self.2.2.2.1 (-(1 : Int))
  let l8 ← rngI 0 ((t6.length : Int) - (1 : Int))
  let r5 ← foldX (fun (g5 : Unit) (b5 : Int) => do
      let t9 ← getI x_self.2.2.2.1 (-(1 : Int))
      let t11 ← getI t9 b5
      if (decide (t11 < (0 : Int))) = true then do
        R.ok (.inl (some b5))
      else do
        R.ok (.inr (true, ()))) () l8
  match r5 with
  | .inl z => R.ok z
  | .inr g5 => do
    R.ok none
/-! Board.bounds_more -/
def Board_bounds_more (x_self : BoardF) (x_at : Int) (x_best : Int) (x_column : Int) : R Bool := do
  let t5 ← getI x_self.2.2.2.1 x_at
  let t7 ← getI t5 (-(1 : Int))
  let t8 ← getI x_self.2.2.2.1 x_best
  let t10 ← getI t8 x_column
  let t11 ← mulI t7 t10
  let t12 ← getI x_self.2.2.2.1 x_best
  let t14 ← getI t12 (-(1 : Int))
  let t15 ← getI x_self.2.2.2.1 x_at
  let t17 ← getI t15 x_column
  let t18 ← mulI t14 t17
  let j19 ← (do
    if (decide (t11 < t18)) = true then do
      R.ok true
    else do
      let j22 ← (do
        if (decide (t11 = t18)) = true then do
          let t24 ← getI x_self.2.2.1 x_at
          let t25 ← getI x_self.2.2.1 x_best
          R.ok (decide (t24 < t25))
        else do
          R.ok false : R (Bool))
      R.ok j22 : R (Bool))
  R.ok j19
/-! Board.bounding -/
def Board_bounding (x_self : BoardF) (x_column : Int) : R (Option Int) := do
  let l7 ← rngI 0 (x_self.2.2.1.length : Int)
  let g6 ← foldR (fun (g6 : (Option Int)) (b6 : Int) => do
      let t9 ← getI x_self.2.2.2.1 b6
      let t11 ← getI t9 x_column
      if (decide ((0 : Int) < t11)) = true then do
        let j13 ← (do
          if g6.isNone = true then do
            R.ok true
          else do
            let t16 ← ofO g6
            let y21 ← Board_bounds_more (x_self.1, x_self.2.1, x_self.2.2.1, x_self.2.2.2.1, ()) b6 t16 x_column
            R.ok y21 : R (Bool))
        if j13 = true then do
          R.ok (some b6)
        else do
          R.ok g6
      else do
        R.ok g6) none l7
  R.ok g6
/-! Board.turn_in -/
def Board_turn_in (x_self : BoardF) (x_at : Int) (x_column : Int) : R (Unit × (List Int) × (List (List Int)) × Int) := do
  let t5 ← getI x_self.2.2.2.1 x_at
  let t7 ← getI t5 x_column
  let t8 ← getI x_self.2.2.2.1 x_at
  let l11 ← rngI 0 (x_self.2.2.2.1.length : Int)
  let g10 ← foldR (fun (g10 : (List (List Int))) (b10 : Int) => do
      if (!decide (b10 = x_at)) = true then do
        let t13 ← getI g10 b10
        let l15 ← rngI 0 (t13.length : Int)
        let l16 ← mapG (fun (b16 : Int) => do
            let t18 ← getI t13 b16
            let t19 ← mulI t18 t7
            let t20 ← getI t13 x_column
            let t21 ← getI t8 b16
            let t22 ← mulI t20 t21
            let t23 ← divI (t19 - t22) x_self.1
            R.ok t23) l15
        let l26 ← setI g10 b10 l16
        R.ok l26
      else do
        R.ok g10) x_self.2.2.2.1 l11
  let l29 ← setI x_self.2.2.1 x_at x_column
  R.ok ((), l29, g10, t7)
/-! Board.solve -/
def Board_solve (x_self : BoardF) : R (Unit × (List Int) × (List (List Int)) × Int) := do
  let y9 ← Board_growing (x_self.1, x_self.2.1, x_self.2.2.1, x_self.2.2.2.1, ())
  let g11 ← whileR (fun (g11 : Int × (Option Int) × (List Int) × (List (List Int))) => do
      R.ok (!g11.2.1.isNone)) (fun (g11 : Int × (Option Int) × (List Int) × (List (List Int))) => do
      let t14 ← ofO g11.2.1
      let y19 ← Board_bounding (g11.1, x_self.2.1, g11.2.2.1, g11.2.2.2, ()) t14
      let t21 ← ofO y19
      let y26 ← Board_turn_in (g11.1, x_self.2.1, g11.2.2.1, g11.2.2.2, ()) t21 t14
      let y31 ← Board_growing (y26.2.2.2, x_self.2.1, y26.2.1, y26.2.2.1, ())
      R.ok (y26.2.2.2, y31, y26.2.1, y26.2.2.1)) (fu 1000000000000000000000000000000) (x_self.1, y9, x_self.2.2.1, x_self.2.2.2.1)
  R.ok ((), g11.2.2.1, g11.2.2.2, g11.1)
/-! Board.prices_now -/
def Board_prices_now (x_self : BoardF) : R (List Int) := do
  let l7 ← repR ([(0 : Int)] : (List Int)) x_self.2.1
  let g10 ← foldR (fun (g10 : (List Int)) (b10 : (Int × Int)) => do
      if (decide (b10.2 < x_self.2.1)) = true then do
        let t13 ← getI x_self.2.2.2.1 b10.1
        let t15 ← getI t13 (-(1 : Int))
        let l16 ← setI g10 b10.2 t15
        R.ok l16
      else do
        R.ok g10) l7 (enum x_self.2.2.1)
  R.ok g10
/-! shares_of -/
def shares_of (x_web : (Int × (Tup (Int × Int)))) (x_kind : Str) : R (Nt (Int × (List Int) × (List (Nt (Thing × Thing × Int × Unit))) × Unit)) := do
  let y3 ← ask_shared x_web
  let y4 ← parted_pairs x_web x_kind
  let y6 ← least_parted y4
  let y8 ← Board_init x_web.1 y6
  let y19 ← Board_solve (y8.1, y8.2.1, y8.2.2.1, y8.2.2.2.1, ())
  let t20 ← getI y19.2.2.1 (-(1 : Int))
  let y29 ← Board_prices_now (y19.2.2.2, y8.2.1, y19.2.1, y19.2.2.1, ())
  let l32 ← extend (cutL t20 (some (y6.length : Int)) (some (-(1 : Int)))) y29
  let g31 ← foldR (fun (g31 : Int) (b31 : Int) => do
      let y36 ← common_part g31 b31
      R.ok y36) y19.2.2.2 l32
  let l37 ← filG (fun (b37 : (Int × Int)) => do
      if (decide ((0 : Int) < b37.2)) = true then do
        let t41 ← getI y6 b37.1
        let t46 ← getI y6 b37.1
        let t51 ← divI b37.2 g31
        R.ok (some (Nt.mk (t41.v.1, t46.v.2.1, t51, ()) : (Nt (Thing × Thing × Int × Unit))))
      else
        R.ok none) (enum y29)
  let t55 ← divI y19.2.2.2 g31
  let l56 ← mapG (fun (b56 : Int) => do
      let t59 ← divI b56 g31
      R.ok t59) (cutL t20 (some (y6.length : Int)) (some (-(1 : Int))))
  R.ok (Nt.mk (t55, l56, l37, ()) : (Nt (Int × (List Int) × (List (Nt (Thing × Thing × Int × Unit))) × Unit)))
/-! _law_purse -/
def law_purse (x__law_script : Scr) (x__law_k : Int) : R (List Int) := do
  let g2 ← (do
    if (decide (x__law_k < (x__law_script.l.length : Int))) = true then do
      let t4 ← getI x__law_script.l x__law_k
      R.ok t4
    else do
      if (!decide (x__law_script = (⟨([] : (List Int))⟩ : Scr))) = true then do
        let t9 ← modI x__law_k (x__law_script.l.length : Int)
        let t10 ← getI x__law_script.l t9
        R.ok ((t10 % (1000003 : Int)) + ((104729 : Int) * x__law_k))
      else do
        R.ok (0 : Int) : R (Int))
  if (decide (((10 : Int) ^ ((18 : Int) : Int).toNat) ≤ g2)) = true then do
    R.ok ([g2] : (List Int))
  else do
    let t20 ← sqR (((g2 % (((10 : Int) ^ ((30 : Int) : Int).toNat) + (57 : Int))) + ((7919 : Int) * x__law_k)) + (101 : Int))
    let t24 ← mulW (((t20 % (((10 : Int) ^ ((30 : Int) : Int).toNat) + (57 : Int))) + ((977 : Int) * x__law_k)) + (5 : Int)) (618033988749894848204586834365 : Int)
    R.ok ([(t24 % (((10 : Int) ^ ((30 : Int) : Int).toNat) + (57 : Int)))] : (List Int))
/-! _law_take -/
def law_take (x__law_purse_here : (List Int)) (x__law_many : Int) : R (Int × (List Int)) := do
  let t2 ← getI x__law_purse_here (0 : Int)
  let t3 ← modI t2 x__law_many
  let t4 ← getI x__law_purse_here (0 : Int)
  let t5 ← divI t4 x__law_many
  let l6 ← setI x__law_purse_here (0 : Int) t5
  R.ok (t3, l6)
/-! _law_order -/
def law_order (x__law_purse_here : (List Int)) (x__law_many : Int) : R ((List Int) × (List Int)) := do
  let l5 ← rngI 0 x__law_many
  let g4 ← foldR (fun (g4 : (List Int) × (List Int)) (b4 : Int) => do
      let y7 ← law_take g4.2 (b4 + (1 : Int))
      let l8 ← insR g4.1 y7.1 b4
      R.ok (l8, y7.2)) (([] : (List Int)), x__law_purse_here) l5
  R.ok (g4.1, g4.2)
/-! _law_pairs -/
def law_pairs (x__law_purse_here : (List Int)) (x__law_many : Int) (x__law_way : Int) : R ((List (Int × Int)) × (List Int)) := do
  let l5 ← rngI (1 : Int) x__law_many
  let g4 ← foldR (fun (g4 : (List (Int × Int)) × (List Int)) (b4 : Int) => do
      let y7 ← law_take g4.2 b4
      let t10 ← getI ([(b4 - (1 : Int)), (b4 - (1 : Int)), (0 : Int), y7.1] : (List Int)) (min2 x__law_way (3 : Int))
      let l12 ← app g4.1 (t10, b4)
      if (decide (x__law_way = (3 : Int))) = true then do
        let l16 ← rngI 0 b4
        let l17 ← mapG (fun (b17 : Int) => do
            R.ok (b17, b4)) l16
        let l21 ← extend l12 l17
        R.ok (l21, y7.2)
      else do
        R.ok (l12, y7.2)) (([] : (List (Int × Int))), x__law_purse_here) l5
  let g26 ← (do
    if ((decide (x__law_way = (1 : Int))) && (decide ((2 : Int) < x__law_many))) = true then do
      let l33 ← app g4.1 ((0 : Int), (x__law_many - (1 : Int)))
      R.ok l33
    else do
      R.ok g4.1 : R ((List (Int × Int))))
  let g35 ← (do
    if (decide ((4 : Int) < x__law_way)) = true then do
      let y39 ← law_take g4.2 (7 : Int)
      let l40 ← rngI 0 y39.1
      let g37 ← foldR (fun (g37 : (List Int) × (List (Int × Int))) (b37 : Int) => do
          let y41 ← law_take g37.1 x__law_many
          let y42 ← law_take y41.2 x__law_many
          let l46 ← repR ([(y41.1, y42.1)] : (List (Int × Int))) (b2i (!decide (y41.1 = y42.1)))
          let l48 ← extend g37.2 l46
          R.ok (y42.2, l48)) (y39.2, g26) l40
      R.ok (g37.2, g37.1)
    else do
      R.ok (g26, g4.2) : R ((List (Int × Int)) × (List Int)))
  R.ok (g35.1, g35.2)
/-! _law_shape -/
def law_shape (x__law_purse_here : (List Int)) : R (((Int × (Tup (Int × Int))) × Int) × (List Int)) := do
  let y2 ← law_take x__law_purse_here (4 : Int)
  let y3 ← law_take y2.2 (7 : Int)
  let y4 ← law_order y3.2 ((1 : Int) + y3.1)
  let y11 ← law_pairs y4.2 ((1 : Int) + y3.1) y2.1
  let g9 ← foldR (fun (g9 : (List (Int × Int))) (b9 : (Int × Int)) => do
      let t16 ← getI y4.1 b9.1
      let t17 ← getI y4.1 b9.2
      if (!inB ((min2 t16 t17), (max2 t16 t17)) g9) = true then do
        let l22 ← app g9 ((min2 t16 t17), (max2 t16 t17))
        R.ok l22
      else do
        R.ok g9) ([] : (List (Int × Int))) y11.1
  R.ok (((((1 : Int) + y3.1), (Tup.mk (sortP g9))), y2.1), y11.2)
/-! _law_ratio -/
def law_ratio (x__law_many : Int) (x__law_way : Int) : R (Int × Int) := do
  if (decide (x__law_many = (1 : Int))) = true then do
    R.ok ((0 : Int), (1 : Int))
  else do
    if ((decide (x__law_many = (2 : Int))) || ((decide (x__law_way = (0 : Int))) || ((decide (x__law_way = (2 : Int))) && (decide (x__law_many = (3 : Int)))))) = true then do
      R.ok ((1 : Int), (1 : Int))
    else do
      if (decide (x__law_way = (1 : Int))) = true then do
        R.ok (x__law_many, ((x__law_many - (2 : Int)) + (x__law_many % (2 : Int))))
      else do
        if (decide (x__law_way = (2 : Int))) = true then do
          R.ok ((x__law_many - (1 : Int)), (2 : Int))
        else do
          R.ok (x__law_many, (2 : Int))
/-! law -/
def law (x__law_script : Scr) : R Bool := do
  let y2 ← law_purse x__law_script (0 : Int)
  let y4 ← law_shape y2
  let y9 ← law_ratio y4.1.1.1 y4.1.2
  let y11 ← shares_of y4.1.1 ("places" : Str)
  let t15 ← mulI (y11.v.2.1.sum) y9.2
  let t16 ← mulI y9.1 y11.v.1
  if (!decide (t15 = t16)) = true then do
    R.ok false
  else do
    if ((decide (y4.1.2 = (1 : Int))) && (decide ((2 : Int) < y4.1.1.1))) = true then do
      let y23 ← shares_of y4.1.1 ("ties" : Str)
      let t27 ← mulI (y23.v.2.1.sum) y9.2
      let t28 ← mulI y9.1 y23.v.1
      R.ok (decide (t27 = t28))
    else do
      R.ok true
/-! ### what the top has written -/
structure Dn (K : Fg) (mg : Str → Option Value) (x y : Str) (st : Stmt) (ps : List Str) (f : Addr) (fd : FuncData) : Prop where
  fn : Fun K y y st f fd
  mg : mg x = some (.ref f)
  b : Binds K fd ps []
structure Dm (K : Fg) (C : Addr) (x y : Str) (st : Stmt) (ps : List Str) (f : Addr) (fd : FuncData) : Prop where
  fn : Fun K x y st f fd
  mt : Meth K C x f
  b : Binds K fd ps []
structure Tx (K : Fg) (mg : Str → Option Value) (A : Nat → Addr) (FD : Nat → FuncData) : Prop where
  d7 : Dn K mg "near_lists" "near_lists" s_near_lists ["web"] (A 7) (FD 7)
  d8 : Dn K mg "fars_by" "fars_by" s_fars_by ["near", "place"] (A 8) (FD 8)
  d9 : Dn K mg "place_asked" "place_asked" s_place_asked ["web", "place"] (A 9) (FD 9)
  d10 : Dn K mg "fars_from" "fars_from" s_fars_from ["web", "place"] (A 10) (FD 10)
  d12 : Dn K mg "table_of" "table_of" s_table_of ["web"] (A 12) (FD 12)
  d13 : Dn K mg "things_of" "things_of" s_things_of ["web", "kind"] (A 13) (FD 13)
  d14 : Dn K mg "looks_asked" "looks_asked" s_looks_asked ["web", "looks"] (A 14) (FD 14)
  d15 : Dn K mg "thing_asked" "thing_asked" s_thing_asked ["web", "thing"] (A 15) (FD 15)
  d16 : Dn K mg "far_by" "far_by" s_far_by ["table", "look", "thing"] (A 16) (FD 16)
  d17 : Dn K mg "code_of" "code_of" s_code_of ["web", "looks", "thing"] (A 17) (FD 17)
  d20 : Dn K mg "ask_shared" "ask_shared" s_ask_shared ["web"] (A 20) (FD 20)
  d21 : Dn K mg "parted_pairs" "parted_pairs" s_parted_pairs ["web", "kind"] (A 21) (FD 21)
  d22 : Dn K mg "least_parted" "least_parted" s_least_parted ["pairs"] (A 22) (FD 22)
  d23 : Dn K mg "common_part" "common_part" s_common_part ["one", "other"] (A 23) (FD 23)
  d25 : Dn K mg "shares_of" "shares_of" s_shares_of ["web", "kind"] (A 25) (FD 25)
  d27 : Dn K mg "_law_purse" "_law_purse" s_law_purse ["_law_script", "_law_k"] (A 27) (FD 27)
  d28 : Dn K mg "_law_take" "_law_take" s_law_take ["_law_purse_here", "_law_many"] (A 28) (FD 28)
  d29 : Dn K mg "_law_order" "_law_order" s_law_order ["_law_purse_here", "_law_many"] (A 29) (FD 29)
  d30 : Dn K mg "_law_pairs" "_law_pairs" s_law_pairs ["_law_purse_here", "_law_many", "_law_way"] (A 30) (FD 30)
  d32 : Dn K mg "_law_shape" "_law_shape" s_law_shape ["_law_purse_here"] (A 32) (FD 32)
  d33 : Dn K mg "_law_ratio" "_law_ratio" s_law_ratio ["_law_many", "_law_way"] (A 33) (FD 33)
  d34 : Dn K mg "law" "law" s_law ["_law_script"] (A 34) (FD 34)
  d25000 : Dm K (A 24) "__init__" "Board.__init__" s_Board_init ["self", "many", "pairs"] (A 25000) (FD 25000)
  d25001 : Dm K (A 24) "growing" "Board.growing" s_Board_growing ["self"] (A 25001) (FD 25001)
  d25002 : Dm K (A 24) "bounds_more" "Board.bounds_more" s_Board_bounds_more ["self", "at", "best", "column"] (A 25002) (FD 25002)
  d25003 : Dm K (A 24) "bounding" "Board.bounding" s_Board_bounding ["self", "column"] (A 25003) (FD 25003)
  d25004 : Dm K (A 24) "turn_in" "Board.turn_in" s_Board_turn_in ["self", "at", "column"] (A 25004) (FD 25004)
  d25005 : Dm K (A 24) "solve" "Board.solve" s_Board_solve ["self"] (A 25005) (FD 25005)
  d25006 : Dm K (A 24) "prices_now" "Board.prices_now" s_Board_prices_now ["self"] (A 25006) (FD 25006)
  n_all : mg "all" = none
  n_enumerate : mg "enumerate" = none
  n_int : mg "int" = none
  n_isinstance : mg "isinstance" = none
  n_len : mg "len" = none
  n_list : mg "list" = none
  n_max : mg "max" = none
  n_min : mg "min" = none
  n_range : mg "range" = none
  n_sorted : mg "sorted" = none
  n_sum : mg "sum" = none
  n_tuple : mg "tuple" = none
  c_MOST_SHARED : ∃ t, mg "MOST_SHARED" = some (.int 7 t)
  cl_Board : Cls K (A 24)
  nm_Board : Nm K "Board" (A 24)
  mg_Board : mg "Board" = some (.ref (A 24))
  mk_Board : Mk K (A 24) (A 25000)
  na_Board_bottom : NoAttr K (A 24) "bottom"
  na_Board_priced : NoAttr K (A 24) "priced"
  na_Board_held : NoAttr K (A 24) "held"
  na_Board_lines : NoAttr K (A 24) "lines"
section
variable {P : Program} {w : World} {K : PySem.W.Frag} {mg : Str → Option Value} {base : Heap} {A : Nat → Addr} {FD : Nat → FuncData}
def sp_near_lists (K : Fg) : Sp := fun vs H Q E => ∃ (F : Hp) (os : List (Addr × HO)) (v_web : V) (x_web : (Int × (Tup (Int × Int)))), vs = [v_web] ∧ W F H (os) ∧ rep K F v_web x_web ∧ Post (near_lists x_web) (Ret K F os Q) noX
theorem sc_near_lists : FnScope ["web", "found", "one", "other", "place", "row"] ["web"] (defScope s_near_lists) := ⟨rfl, rfl, rfl, by decide +kernel, rfl, by decide +kernel, by decide +kernel⟩
theorem ok_near_lists (T : Tx K mg A FD) : FnOk P w K mg base CX0 1 (A 7) (FD 7) ["web"] (sp_near_lists K) := by
  refine T.d7.fn.ok sc_near_lists (fun vs H Q E h => ?_) (fun cdv Ar outer s H vs Q E hr h => ?_)
  · obtain ⟨F, os, v_web, x_web, rfl, _⟩ := h
    rfl
  · obtain ⟨F0, os, v_web, x_web, rfl, w0, r_web, hm⟩ := h
    have sF : Same F0 F0 := Same.refl _
    obtain ⟨a1, u1, z1, rfl, q1, r1a, r1b⟩ := r_web
    obtain rfl : u1 = V.int x_web.1 := r1a
    obtain ⟨a2, vs2, rfl, q2, h2⟩ := r1b
    have hr_g : Sto K F0 [] [] ([] : List (List Int)) := Sto.nil
    replace w0 : W F0 _ ((nz [] [] ++ os)) := w0
    refine ⟨_, (pss_cons (ps_setLc (i := 1) (own := [("place", 4)]) (g := gName 4) (by rfl) sc_near_lists.nd rfl rfl (sw_true rfl rfl rfl (by decide +kernel)) (pi_range1 (by rfl) T.n_range (pa_cons (pe_ix (ix_tupK (K := K) rfl) (pv 0) pe_int (fun _ _ => rfl)) pa_nil)) (blkOk_by (own := [("place", 4)]) (N := ["web", "found", "one", "other", "place", "row"]) (sc := defScope s_near_lists) (by decide +kernel)) (fun _ _ _ _ _ => (pg_name (i := 4) sc_near_lists.nd rfl (Or.inl rfl))) (fun _ _ _ _ _ => pts_nil) (fun _ _ _ _ _ => (pe_lst pa_nil))) (pss_cons (ps_for PassesOwn.never rfl (pi_tupK (K := K) rfl (pe_ix (ix_tupK (K := K) rfl) (pv 0) pe_int (fun _ _ => rfl))) (pg_k (K := K) (t := fun K => gTup K 2 _) rfl (pg_tup (n := 2) rfl (pgs_cons (pg_name (i := 2) sc_near_lists.nd rfl (Or.inl rfl)) (pgs_cons (pg_name (i := 3) sc_near_lists.nd rfl (Or.inl rfl)) pgs_nil)))) (pss_cons (ps_expr (pe_bm PySem.F.plainAttrs_list PySem.F.slot_list_append PySem.F.type_list_append mt_append (pe_ix (ix_listK (K := K) rfl) (pv 1) (pv 2) (fun _ _ => rfl)) (pa_cons (pv 3) pa_nil))) (pss_one (ps_expr (pe_bm PySem.F.plainAttrs_list PySem.F.slot_list_append PySem.F.type_list_append mt_append (pe_ix (ix_listK (K := K) rfl) (pv 1) (pv 3) (fun _ _ => rfl)) (pa_cons (pv 2) pa_nil)))))) (pss_one (ps_ret (pe_lc (own := [("row", 5)]) (g := gName 5) (by rfl) sc_near_lists.nd (pi_listK (K := K) rfl (pv 1)) (blkOk_by (own := [("row", 5)]) (N := ["web", "found", "one", "other", "place", "row"]) (sc := defScope s_near_lists) (by decide +kernel)) (fun _ _ _ _ _ => (pg_name (i := 5) sc_near_lists.nd rfl (Or.inl rfl))) (fun _ _ _ _ _ => pts_nil) (fun _ _ _ _ _ => (pe_callB (cr_sortI (K := K) rfl) (by rfl) T.n_sorted (by decide +kernel) (pa_cons (pv 5) pa_nil)))))))), ?_⟩
    obtain ⟨c4, hm⟩ := pb_rng hm
    refine ⟨_, rfl, _, _, _, _, rfl, rfl, SqT.of (w0.same _ _ q1), rfl, _, rfl, c4.2.2.1, c4.2.2.2, fun D5 nD5 => ?_⟩
    refine lcGM (tw_rng0 (j := x_web.1)) hm (fun (g5 : (List (List Int))) F' os' us ys => ∃ (as5_0 : List Addr) (vs5_0 : List (List V)), os' = (nz as5_0 vs5_0 ++ os) ∧ [] <+: as5_0 ∧ Sto K F' as5_0 vs5_0 g5 ∧ A2 (RX as5_0) us ys) w0 ⟨_, _, rfl, pfx_refl, hr_g, .nil⟩ nD5 (fun _ _ _ _ _ o => by obtain ⟨_, _, rfl, _, _, h⟩ := o; exact h.length) (fun g F' H' os' acc ys s w o => by obtain ⟨_, _, rfl, _, _, _⟩ := o; exact trivial) ?_ ?_
    · -- one turn
      intro b5 g5 x5 F5 H5 H5' os5 acc5 ya5 N5 P5 s5 w5 o5 y5 hN5 hm
      obtain ⟨as5_0, vs5_0, rfl, p5_0, h5_0, ha5⟩ := o5
      replace q1 := s5 _ _ q1
      replace q2 := s5 _ _ q2
      replace h2 := A2.mono s5 h2
      replace sF := sF.trans s5
      obtain ⟨rfl, rfl⟩ := y5
      have h7 : A2 (rep K F5) [] ([] : (List Int)) := .nil
      refine ⟨rfl, (by show 0 ≤ sizeLine; decide), fun p8 n8 => ?_⟩
      have w8 : W F5 _ ((p8, .lst []) :: (D5, .lst acc5) :: (nz as5_0 vs5_0 ++ os)) := w5.new n8
      obtain ⟨j9, st9, ej9, es9, hm⟩ := pn_newS hm
      have w9 : W F5 _ ((D5, .lst acc5) :: (nz (as5_0 ++ [p8]) (vs5_0 ++ [[]]) ++ os)) := w8.nadd (pre := [_]) h5_0.len
      have q9 : (as5_0 ++ [p8])[j9]? = some p8 := IQ.new (h5_0.len2.trans ej9.symm)
      have h9 : Sto K F5 (as5_0 ++ [p8]) (vs5_0 ++ [[]]) st9 := es9 ▸ Sto.snoc (p := p8) h5_0 h7
      replace ha5 := A2.imp (fun _ _ => RX.mono (pfx_snoc (p := p8))) ha5
      exact hN5 _ _ (post_ok hm) _ _ _ _ w9 (Same.refl _) ⟨_, _, rfl, (pfx_trans p5_0 (pfx_snoc (p := p8))), h9, A2.snoc ha5 ⟨_, rfl, q9⟩⟩
    intro g5 us5 F5 H5 os5 ys5 s5 w5 o5 hm
    obtain ⟨as5_0, vs5_0, rfl, p5_0, h5_0, gg5⟩ := o5
    replace q1 := s5 _ _ q1
    replace q2 := s5 _ _ q2
    replace h2 := A2.mono s5 h2
    replace sF := sF.trans s5
    refine ⟨_, rfl, _, _, _, _, rfl, rfl, SqT.of (w5.same _ _ q1), rfl, _, rfl, ⟨_, SqT.of (w5.same _ _ q2)⟩, ?_⟩
    refine forS (tw_tup (a := a2) h2) hm (fun (g11 : (List (List Int))) σ H' => ∃ (F' : Hp) (as11_0 : List Addr) (vs11_0 : List (List V)) (o11_2 : Option V) (o11_3 : Option V), σ = [some (.ref a1), some (.ref D5), o11_2, o11_3, none, none] ∧ Same F5 F' ∧ W F' H' ((D5, .lst us5) :: (nz as11_0 vs11_0 ++ os)) ∧ as5_0 <+: as11_0 ∧ Sto K F' as11_0 vs11_0 g11) ⟨_, _, _, _, _, rfl, Same.refl _, w5, pfx_refl, h5_0⟩ (fun g σ H' hI => by obtain ⟨F', _, _, _, _, _, s, w, _⟩ := hI; exact SqT.of (w.same _ _ (s _ _ q2))) ?_ ?_
    · -- a turn
      intro b11 g11 x11 σ11 H11 H11' N11 P11 hI hy hN11 hm
      obtain ⟨F11, as11_0, vs11_0, o11_2, o11_3, rfl, s11, w11, p11_0, h11_0⟩ := hI
      replace q1 := s11 _ _ q1
      replace h2 := A2.mono s11 h2
      replace q2 := s11 _ _ q2
      replace sF := sF.trans s11
      replace gg5 := A2.imp (fun _ _ => RX.mono p11_0) gg5
      obtain ⟨rfl, r12⟩ := hy
      replace r12 := Rep.mono s11 r12
      obtain ⟨a13, u13, z13, rfl, q13, r13a, r13b⟩ := r12
      obtain rfl : u13 = V.int b11.1 := r13a
      obtain rfl : z13 = V.int b11.2 := r13b
      obtain ⟨t14, e14, hm⟩ := pb_get hm
      obtain ⟨u14, f14, r14⟩ := A2.at gg5 e14
      obtain ⟨a15, rfl, q15⟩ := r14
      obtain ⟨x16, e16, hm⟩ := pb_getS hm
      obtain ⟨vs16, i16, h16⟩ := Sto.getq h11_0 e16 q15
      obtain ⟨l17, z17, e17, hm⟩ := pn_app hm
      obtain ⟨st17, es17, hm⟩ := pn_setS hm
      refine ⟨_, _, rfl, SqT.of (w11.same _ _ q13), rfl, _, _, rfl, _, _, rfl, rfl, _, rfl, _, rfl, _, _, _, _, rfl, rfl, SqL.of (w11.get (pre := [])), f14, .inl ⟨rfl, _, SqL.of (W.nget (pre := [_]) w11 q15 i16)⟩, _, rfl, _, _, _, rfl, rfl, (W.nget (pre := [_]) w11 q15 i16), (A2.lt h16 z17), ?_⟩
      have h17 : Sto K F11 as11_0 (vs11_0.set t14 (vs16 ++ [(V.int b11.2)])) st17 := es17 ▸ Sto.set h11_0 (e17 ▸ A2.snoc h16 rep_i)
      have w17 : W F11 _ ((D5, .lst us5) :: (nz as11_0 (vs11_0.set t14 (vs16 ++ [(V.int b11.2)])) ++ os)) := w11.nset (pre := [_]) (vs16 ++ [(V.int b11.2)]) q15 i16
      obtain ⟨t18, e18, hm⟩ := pb_get hm
      obtain ⟨u18, f18, r18⟩ := A2.at gg5 e18
      obtain ⟨a19, rfl, q19⟩ := r18
      obtain ⟨x20, e20, hm⟩ := pb_getS hm
      obtain ⟨vs20, i20, h20⟩ := Sto.getq h17 e20 q19
      obtain ⟨l21, z21, e21, hm⟩ := pn_app hm
      obtain ⟨st21, es21, hm⟩ := pn_setS hm
      refine ⟨_, rfl, _, rfl, _, _, _, _, rfl, rfl, SqL.of (w17.get (pre := [])), f18, .inl ⟨rfl, _, SqL.of (W.nget (pre := [_]) w17 q19 i20)⟩, _, rfl, _, _, _, rfl, rfl, (W.nget (pre := [_]) w17 q19 i20), (A2.lt h20 z21), ?_⟩
      have h21 : Sto K F11 as11_0 ((vs11_0.set t14 (vs16 ++ [(V.int b11.2)])).set t18 (vs20 ++ [(V.int b11.1)])) st21 := es21 ▸ Sto.set h17 (e21 ▸ A2.snoc h20 rep_i)
      have w21 : W F11 _ ((D5, .lst us5) :: (nz as11_0 ((vs11_0.set t14 (vs16 ++ [(V.int b11.2)])).set t18 (vs20 ++ [(V.int b11.1)])) ++ os)) := w17.nset (pre := [_]) (vs20 ++ [(V.int b11.1)]) q19 i20
      exact hN11 _ (post_ok hm) _ _ ⟨_, _, _, _, _, rfl, s11, w21, p11_0, h21⟩
    intro g11 σ11 H11 hI hm
    obtain ⟨F11, as11_0, vs11_0, o11_2, o11_3, rfl, s11, w11, p11_0, h11_0⟩ := hI
    replace q1 := s11 _ _ q1
    replace h2 := A2.mono s11 h2
    replace q2 := s11 _ _ q2
    replace sF := sF.trans s11
    replace gg5 := A2.imp (fun _ _ => RX.mono p11_0) gg5
    refine ⟨_, rfl, _, rfl, ⟨_, SqL.of (w11.get (pre := []))⟩, fun D22 nD22 => ?_⟩
    refine lcM (K := K) (tw_listR (a := D5) gg5) hm w11 nD22 (fun F' H' acc s w => SqL.of (w.get (pre := [_]))) ?_ ?_
    · -- one turn
      intro b22 x22 F22 H22 H22' acc22 N22 P22 s22 w22 y22 hN22 hm
      replace q1 := s22 _ _ q1
      replace h2 := A2.mono s22 h2
      replace q2 := s22 _ _ q2
      replace h11_0 := Sto.mono s22 h11_0
      replace sF := sF.trans s22
      obtain ⟨rfl, r24⟩ := y22
      obtain ⟨a25, rfl, q25⟩ := r24
      obtain ⟨x26, e26, hm⟩ := pb_getS hm
      obtain ⟨vs26, i26, h26⟩ := Sto.getq h11_0 e26 q25
      have h27 : A2 (rep K F22) ((sortI x26).map V.int) (sortI x26) := A2.of_ints
      refine ⟨rfl, _, rfl, _, _, rfl, ints_q (SqL.of (W.nget (pre := [_, _]) w22 q25 i26)) h26, fun p28 n28 => ?_⟩
      have w28 : W F22 _ ((p28, .lst ((sortI x26).map V.int)) :: (D22, .lst acc22) :: (D5, .lst us5) :: (nz as11_0 vs11_0 ++ os)) := w22.new n28
      obtain ⟨F29, s29, w29, q29⟩ : ∃ F', Same F22 F' ∧ W F' _ ((D22, .lst acc22) :: (D5, .lst us5) :: (nz as11_0 vs11_0 ++ os)) ∧ F' p28 = some (.lst ((sortI x26).map V.int)) := w28.freezeE (pre := [])
      replace q1 := s29 _ _ q1
      replace h2 := A2.mono s29 h2
      replace q2 := s29 _ _ q2
      replace h11_0 := Sto.mono s29 h11_0
      replace h26 := A2.mono s29 h26
      replace h27 := A2.mono s29 h27
      replace sF := sF.trans s29
      exact hN22 _ (post_ok hm) _ _ _ w29 s29 (rep_lst q29 h27)
    intro us22 F22 H22 ys22 s22 w22 gg22 hm
    replace q1 := s22 _ _ q1
    replace h2 := A2.mono s22 h2
    replace q2 := s22 _ _ q2
    replace h11_0 := Sto.mono s22 h11_0
    replace sF := sF.trans s22
    obtain ⟨F31, s31, w31, q31⟩ : ∃ F', Same F22 F' ∧ W F' _ ((D5, .lst us5) :: (nz as11_0 vs11_0 ++ os)) ∧ F' D22 = some (.lst us22) := w22.freezeE (pre := [])
    replace q1 := s31 _ _ q1
    replace h2 := A2.mono s31 h2
    replace q2 := s31 _ _ q2
    replace h11_0 := Sto.mono s31 h11_0
    replace gg22 := A2.mono s31 gg22
    replace sF := sF.trans s31
    have w32 : W F31 _ ((nz as11_0 vs11_0 ++ os)) := w31.drop (pre := [])
    have w33 : W F31 _ (os) := w32.dropL (pre := [])
    exact (post_ok hm) _ _ _ w33 sF (rep_lst q31 gg22)
def sp_fars_by (K : Fg) : Sp := fun vs H Q E => ∃ (F : Hp) (os : List (Addr × HO)) (v_near : V) (x_near : (List (List Int))) (x_place : Int), vs = [v_near, .int x_place] ∧ W F H (os) ∧ rep K F v_near x_near ∧ Post (fars_by x_near x_place) (RetL K F os Q) noX
theorem sc_fars_by : FnScope ["near", "place", "found", "line", "at", "other"] ["near", "place"] (defScope s_fars_by) := ⟨rfl, rfl, rfl, by decide +kernel, rfl, by decide +kernel, by decide +kernel⟩
theorem ok_fars_by (T : Tx K mg A FD) : FnOk P w K mg base CX0 1 (A 8) (FD 8) ["near", "place"] (sp_fars_by K) := by
  refine T.d8.fn.ok sc_fars_by (fun vs H Q E h => ?_) (fun cdv Ar outer s H vs Q E hr h => ?_)
  · obtain ⟨F, os, v_near, x_near, x_place, rfl, _⟩ := h
    rfl
  · obtain ⟨F0, os, v_near, x_near, x_place, rfl, w0, r_near, hm⟩ := h
    have sF : Same F0 F0 := Same.refl _
    obtain ⟨a1, vs1, rfl, q1, h1⟩ := r_near
    refine ⟨_, (pss_cons (ps_set (i := 2) sc_fars_by.nd rfl (Or.inl rfl) (pe_op op_rep (pe_lst (pa_cons pe_non pa_nil)) (pe_callB (call_lenN (K := K) rfl) (by rfl) T.n_len (by decide +kernel) (pa_cons (pv 0) pa_nil)))) (pss_cons (ps_asg pe_int (pg_sub (pv 2) (pv 1) set_list)) (pss_cons (ps_set (i := 3) sc_fars_by.nd rfl (Or.inl rfl) (pe_lst (pa_cons (pv 1) pa_nil))) (pss_cons (ps_set (i := 4) sc_fars_by.nd rfl (Or.inl rfl) pe_int1) (pss_cons (ps_while PassesOwn.never (pt_cmp (pc_lt (pv 4) (pe_callB (call_lenN (K := K) rfl) (by rfl) T.n_len (by decide +kernel) (pa_cons (pv 3) pa_nil)))) (pss_cons (ps_for PassesOwn.never rfl (pi_listK (K := K) rfl (pe_ix (ix_listK (K := K) rfl) (pv 0) (pe_ix (ix_listK (K := K) rfl) (pv 3) (pv 4) (fun _ _ => rfl)) (fun _ _ => rfl))) (pg_name (i := 5) sc_fars_by.nd rfl (Or.inl rfl)) (pss_one (ps_if (pt_cmpR op_isN2 (pe_ix (ix_listK (K := K) rfl) (pv 2) (pv 5) (fun _ _ => rfl)) pe_non (nomark _)) (pss_cons (ps_asg (pe_op op_add (pe_ix (ix_listK (K := K) rfl) (pv 2) (pe_ix (ix_listK (K := K) rfl) (pv 3) (pv 4) (fun _ _ => rfl)) (fun _ _ => rfl)) pe_int) (pg_sub (pv 2) (pv 5) set_list)) (pss_one (ps_expr (pe_bm PySem.F.plainAttrs_list PySem.F.slot_list_append PySem.F.type_list_append mt_append (pv 3) (pa_cons (pv 5) pa_nil))))) pss_nil))) (pss_one (ps_set (i := 4) sc_fars_by.nd rfl (Or.inl rfl) (pe_op op_add (pv 4) pe_int))))) (pss_one (ps_ret (pv 2)))))))), ?_⟩
    have h2 : A2 (rep K F0) [.non] ([none] : (List (Option Int))) := .cons rep_none (.nil)
    refine ⟨(by show 1 ≤ sizeLine; decide), fun p3 n3 => ?_⟩
    have w3 : W F0 _ ((p3, .lst [.non]) :: os) := w0.new n3
    obtain ⟨l4, z4, e4, hm⟩ := pb_rep hm
    have h4 : A2 (rep K F0) (List.replicate (x_near.length : Int).toNat [.non]).flatten l4 := e4 ▸ A2.flat h2 _
    refine ⟨_, rfl, _, _, _, rfl, .inl (SqL.of (w3.same _ _ q1)), h1.length, _, _, _, rfl, rfl, (w3.get (pre := [])), z4.1, z4.2.1, (by rw [h2.length]; exact z4.2.2), fun p5 n5 => ?_⟩
    have w5 : W F0 _ ((p5, .lst (List.replicate (x_near.length : Int).toNat [.non]).flatten) :: (p3, .lst [.non]) :: os) := w3.new n5
    have w6 : W F0 _ ((p5, .lst (List.replicate (x_near.length : Int).toNat [.non]).flatten) :: os) := w5.drop (pre := [_])
    obtain ⟨j7, l7, z7, e7, hm⟩ := pn_set hm
    refine ⟨_, rfl, _, rfl, _, _, _, _, rfl, rfl, (w6.get (pre := [])), (A2.ix h4 z7), ?_⟩
    have h7 : A2 (rep K F0) ((List.replicate (x_near.length : Int).toNat [.non]).flatten.set j7 (V.int 0)) l7 := e7 ▸ A2.set (rep_some rep_i) j7 h4
    have w8 : W F0 _ ((p5, .lst ((List.replicate (x_near.length : Int).toNat [.non]).flatten.set j7 (V.int 0))) :: os) := w6.set (pre := [])
    have h9 : A2 (rep K F0) [(.int x_place)] ([x_place] : (List Int)) := .cons rep_i (.nil)
    refine ⟨_, rfl, (by show 1 ≤ sizeLine; decide), fun p10 n10 => ?_⟩
    have w10 : W F0 _ ((p10, .lst [(.int x_place)]) :: (p5, .lst ((List.replicate (x_near.length : Int).toNat [.non]).flatten.set j7 (V.int 0))) :: os) := w8.new n10
    refine ⟨trivial, ?_⟩
    refine stepN ?_
    try dsimp only
    refine stepSeq (whileS hm (fun (g11 : Int × (List Int) × (List (Option Int))) σ H' => ∃ (F' : Hp) (vs11_0 : List V) (vs11_1 : List V) (o11_5 : Option V), σ = [some (.ref a1), some (.int x_place), some (.ref p5), some (.ref p10), some (.int g11.1), o11_5] ∧ Same F0 F' ∧ W F' H' ((p10, .lst vs11_0) :: (p5, .lst vs11_1) :: os) ∧ A2 (rep K F') vs11_0 g11.2.1 ∧ A2 (rep K F') vs11_1 g11.2.2) ⟨_, _, _, _, rfl, Same.refl _, w10, h9, h7⟩ ?_ ?_ ?_)
    · intro g11 σ11 H11 N11 P11 hI hN11 hm
      obtain ⟨F11, vs11_0, vs11_1, o11_5, rfl, s11, w11, h11_0, h11_1⟩ := hI
      replace h1 := A2.mono s11 h1
      replace q1 := s11 _ _ q1
      replace sF := sF.trans s11
      exact ⟨_, rfl, _, rfl, _, _, _, rfl, .inl (SqL.of (w11.get (pre := []))), h11_0.length, _, _, rfl, rfl, _, rfl, hN11 _ (post_ok hm) _ ⟨_, _, _, _, rfl, s11, w11, h11_0, h11_1⟩⟩
    · intro g11 σ11 H11 N11 P11 hI hN11 hm
      obtain ⟨F11, vs11_0, vs11_1, o11_5, rfl, s11, w11, h11_0, h11_1⟩ := hI
      replace h1 := A2.mono s11 h1
      replace q1 := s11 _ _ q1
      replace sF := sF.trans s11
      obtain ⟨t13, e13, hm⟩ := pb_get hm
      obtain ⟨u13, f13, r13⟩ := A2.at h11_0 e13
      obtain rfl : u13 = V.int t13 := r13
      obtain ⟨t14, e14, hm⟩ := pb_get hm
      obtain ⟨u14, f14, r14⟩ := A2.at h1 e14
      obtain ⟨a15, vs15, rfl, q15, h15⟩ := r14
      refine ⟨_, rfl, _, rfl, _, rfl, _, _, _, _, rfl, rfl, SqL.of (w11.get (pre := [])), f13, _, _, _, _, rfl, rfl, SqL.of (w11.same _ _ q1), f14, _, rfl, ⟨_, SqL.of (w11.same _ _ q15)⟩, ?_⟩
      refine forS (tw_list (a := a15) h15) hm (fun (g12 : (List Int) × (List (Option Int))) σ H' => ∃ (F' : Hp) (vs12_0 : List V) (vs12_1 : List V) (o12_5 : Option V), σ = [some (.ref a1), some (.int x_place), some (.ref p5), some (.ref p10), some (.int g11.1), o12_5] ∧ Same F11 F' ∧ W F' H' ((p10, .lst vs12_0) :: (p5, .lst vs12_1) :: os) ∧ A2 (rep K F') vs12_0 g12.1 ∧ A2 (rep K F') vs12_1 g12.2) ⟨_, _, _, _, rfl, Same.refl _, w11, h11_0, h11_1⟩ (fun g σ H' hI => by obtain ⟨F', _, _, _, _, s, w, _⟩ := hI; exact SqL.of (w.same _ _ (s _ _ q15))) ?_ ?_
      · -- a turn
        intro b12 g12 x12 σ12 H12 H12' N12 P12 hI hy hN12 hm
        obtain ⟨F12, vs12_0, vs12_1, o12_5, rfl, s12, w12, h12_0, h12_1⟩ := hI
        replace h1 := A2.mono s12 h1
        replace q1 := s12 _ _ q1
        replace q15 := s12 _ _ q15
        replace h15 := A2.mono s12 h15
        replace sF := sF.trans s12
        obtain ⟨rfl, r16⟩ := hy
        obtain rfl : x12 = V.int b12 := r16
        obtain ⟨t17, e17, hm⟩ := pb_get hm
        obtain ⟨u17, f17, r17⟩ := A2.at h12_1 e17
        refine ⟨_, rfl, _, rfl, _, _, _, _, rfl, rfl, SqL.of (w12.get (pre := [_])), f17, rfl, _, isN_eq r17, _, rfl, ?_⟩
        refine post_ite hm (fun k19 hm => ?_) (fun k19 hm => ?_)
        · skip
          obtain ⟨t20, e20, hm⟩ := pb_get hm
          obtain ⟨u20, f20, r20⟩ := A2.at h12_0 e20
          obtain rfl : u20 = V.int t20 := r20
          obtain ⟨t21, e21, hm⟩ := pb_get hm
          obtain ⟨u21, f21, r21⟩ := A2.at h12_1 e21
          obtain ⟨t23, e23, hm⟩ := pb_ofO hm
          have r23 : rep K F12 u21 (some t23) := e23 ▸ r21
          replace r23 : u21 = V.int t23 := r23
          subst r23
          obtain ⟨j24, l24, z24, e24, hm⟩ := pn_set hm
          refine ⟨_, rfl, _, rfl, _, rfl, _, _, _, _, rfl, rfl, SqL.of (w12.get (pre := [])), f20, _, _, _, _, rfl, rfl, SqL.of (w12.get (pre := [_])), f21, _, _, rfl, rfl, _, rfl, _, rfl, _, _, _, _, rfl, rfl, (w12.get (pre := [_])), (A2.ix h12_1 z24), ?_⟩
          have h24 : A2 (rep K F12) (vs12_1.set j24 (V.int (t23 + (1 : Int)))) l24 := e24 ▸ A2.set (rep_some rep_i) j24 h12_1
          have w25 : W F12 _ ((p10, .lst vs12_0) :: (p5, .lst (vs12_1.set j24 (V.int (t23 + (1 : Int))))) :: os) := w12.set (pre := [_])
          obtain ⟨l26, z26, e26, hm⟩ := pn_app hm
          refine ⟨_, rfl, .inl ⟨rfl, _, SqL.of (w25.get (pre := []))⟩, _, rfl, _, _, _, rfl, rfl, (w25.get (pre := [])), (A2.lt h12_0 z26), ?_⟩
          have h26 : A2 (rep K F12) (vs12_0 ++ [(V.int b12)]) l26 := e26 ▸ A2.snoc h12_0 rep_i
          have w27 : W F12 _ ((p10, .lst (vs12_0 ++ [(V.int b12)])) :: (p5, .lst (vs12_1.set j24 (V.int (t23 + (1 : Int))))) :: os) := w25.set (pre := [])
          exact hN12 _ (post_ok hm) _ _ ⟨_, _, _, _, rfl, s12, w27, h26, h24⟩
        · skip
          exact hN12 _ (post_ok hm) _ _ ⟨_, _, _, _, rfl, s12, w12, h12_0, h12_1⟩
      intro g12 σ12 H12 hI hm
      obtain ⟨F12, vs12_0, vs12_1, o12_5, rfl, s12, w12, h12_0, h12_1⟩ := hI
      replace h1 := A2.mono s12 h1
      replace q1 := s12 _ _ q1
      replace q15 := s12 _ _ q15
      replace h15 := A2.mono s12 h15
      replace sF := sF.trans s12
      exact ⟨_, rfl, _, _, rfl, rfl, hN11 _ (post_ok hm) _ _ ⟨_, _, _, _, rfl, (s11.trans s12), w12, h12_0, h12_1⟩⟩
    intro g11 σ11 H11 hI hm
    obtain ⟨F11, vs11_0, vs11_1, o11_5, rfl, s11, w11, h11_0, h11_1⟩ := hI
    replace h1 := A2.mono s11 h1
    replace q1 := s11 _ _ q1
    replace sF := sF.trans s11
    have w28 : W F11 _ ((p5, .lst vs11_1) :: os) := w11.drop (pre := [])
    exact ⟨_, rfl, (post_ok hm) _ _ _ _ w28 sF h11_1⟩
def sp_place_asked (K : Fg) : Sp := fun vs H Q E => ∃ (F : Hp) (os : List (Addr × HO)) (v_web : V) (x_web : (Int × (Tup (Int × Int)))) (x_place : Int), vs = [v_web, .int x_place] ∧ W F H (os) ∧ rep K F v_web x_web ∧ Post (place_asked x_web x_place) (Ret K F os Q) noX
theorem sc_place_asked : FnScope ["web", "place"] ["web", "place"] (defScope s_place_asked) := ⟨rfl, rfl, rfl, by decide +kernel, rfl, by decide +kernel, by decide +kernel⟩
theorem ok_place_asked (T : Tx K mg A FD) : FnOk P w K mg base CX0 1 (A 9) (FD 9) ["web", "place"] (sp_place_asked K) := by
  refine T.d9.fn.ok sc_place_asked (fun vs H Q E h => ?_) (fun cdv Ar outer s H vs Q E hr h => ?_)
  · obtain ⟨F, os, v_web, x_web, x_place, rfl, _⟩ := h
    rfl
  · obtain ⟨F0, os, v_web, x_web, x_place, rfl, w0, r_web, hm⟩ := h
    have sF : Same F0 F0 := Same.refl _
    obtain ⟨a1, u1, z1, rfl, q1, r1a, r1b⟩ := r_web
    obtain rfl : u1 = V.int x_web.1 := r1a
    obtain ⟨a2, vs2, rfl, q2, h2⟩ := r1b
    refine ⟨_, (pss_one (ps_if (pt_not (pt_chain op_le op_lt pe_int (pv 1) (pe_ix (ix_tupK (K := K) rfl) (pv 0) pe_int (fun _ _ => rfl)))) (pss_one ps_absurd) pss_nil)), ?_⟩
    try dsimp only
    refine stepIf ?_
    refine stepNot ?_
    refine cutT (fun c H' => c = ((decide ((0 : Int) ≤ x_place)) && (decide (x_place < x_web.1))) ∧ ∃ F', Same F0 F' ∧ W F' H' (os)) (fun Q3 q3 => ?_) (fun c3 H3 hc3 => ?_)
    · -- the ways
      refine ⟨_, rfl, _, _, rfl, rfl, _, rfl, ?_⟩
      refine ifB (fun k4 => ?_) (fun k4 => ?_)
      · skip
        exact ⟨_, rfl, _, _, _, _, rfl, rfl, SqT.of (w0.same _ _ q1), rfl, _, _, rfl, rfl, _, rfl, q3 _ _ ⟨(by first | rfl | exact absurd k4 (by decide) | (simp [k4]; done) | ((try simp only [Bool.not_eq_true] at k4); simp only [k4, Bool.true_or, Bool.false_or, Bool.or_false, Bool.or_true, Bool.true_and, Bool.false_and, Bool.and_true, Bool.and_false])), _, Same.refl _, w0⟩⟩
      · skip
        exact ⟨_, rfl, q3 _ _ ⟨(by first | rfl | exact absurd k4 (by decide) | (simp [k4]; done) | ((try simp only [Bool.not_eq_true] at k4); simp only [k4, Bool.true_or, Bool.false_or, Bool.or_false, Bool.or_true, Bool.true_and, Bool.false_and, Bool.and_true, Bool.and_false])), _, Same.refl _, w0⟩⟩
    obtain ⟨rfl, F3, s3, w3⟩ := hc3
    replace q1 := s3 _ _ q1
    replace q2 := s3 _ _ q2
    replace h2 := A2.mono s3 h2
    replace sF := sF.trans s3
    refine post_ite hm (fun k7 hm => ?_) (fun k7 hm => ?_)
    · skip
      try dsimp only
      exact hm
    · skip
      exact (post_ok hm) _ _ _ w3 sF rep_n
def sp_fars_from (K : Fg) : Sp := fun vs H Q E => ∃ (F : Hp) (os : List (Addr × HO)) (v_web : V) (x_web : (Int × (Tup (Int × Int)))) (x_place : Int), vs = [v_web, .int x_place] ∧ W F H (os) ∧ rep K F v_web x_web ∧ Post (fars_from x_web x_place) (RetL K F os Q) noX
theorem sc_fars_from : FnScope ["web", "place"] ["web", "place"] (defScope s_fars_from) := ⟨rfl, rfl, rfl, by decide +kernel, rfl, by decide +kernel, by decide +kernel⟩
theorem ok_fars_from (T : Tx K mg A FD) : FnOk P w K mg base CX0 2 (A 10) (FD 10) ["web", "place"] (sp_fars_from K) := by
  refine T.d10.fn.ok sc_fars_from (fun vs H Q E h => ?_) (fun cdv Ar outer s H vs Q E hr h => ?_)
  · obtain ⟨F, os, v_web, x_web, x_place, rfl, _⟩ := h
    rfl
  · obtain ⟨F0, os, v_web, x_web, x_place, rfl, w0, r_web, hm⟩ := h
    have sF : Same F0 F0 := Same.refl _
    obtain ⟨a1, u1, z1, rfl, q1, r1a, r1b⟩ := r_web
    obtain rfl : u1 = V.int x_web.1 := r1a
    obtain ⟨a2, vs2, rfl, q2, h2⟩ := r1b
    refine ⟨_, (pss_cons (ps_expr (pe_call (ok_place_asked T) (hr.mono (by decide)) (by rfl) T.d9.mg T.d9.fn.kp T.d9.b .nil pass0 (pa_cons (pv 0) (pa_cons (pv 1) pa_nil)))) (pss_one (ps_ret (pe_call (ok_fars_by T) (hr.mono (by decide)) (by rfl) T.d8.mg T.d8.fn.kp T.d8.b .nil pass0 (pa_cons (pe_call (ok_near_lists T) (hr.mono (by decide)) (by rfl) T.d7.mg T.d7.fn.kp T.d7.b .nil pass0 (pa_cons (pv 0) pa_nil)) (pa_cons (pv 1) pa_nil)))))), ?_⟩
    refine ⟨_, rfl, _, rfl, _, _, _, (x_web : (Int × (Tup (Int × Int)))), _, rfl, w0, (rep_pair q1 rep_i (rep_tup q2 h2)), ?_⟩
    refine (post_bind hm).mono (fun y3 hm v3 F3 H3 w3 s3 r3 => ?_) (fun _ z => z)
    replace q1 := s3 _ _ q1
    replace q2 := s3 _ _ q2
    replace h2 := A2.mono s3 h2
    replace sF := sF.trans s3
    obtain rfl : v3 = V.non := r3
    refine ⟨_, rfl, _, _, _, (x_web : (Int × (Tup (Int × Int)))), rfl, w3, (rep_pair q1 rep_i (rep_tup q2 h2)), ?_⟩
    refine (post_bind hm).mono (fun y4 hm v4 F4 H4 w4 s4 r4 => ?_) (fun _ z => z)
    replace q1 := s4 _ _ q1
    replace h2 := A2.mono s4 h2
    replace q2 := s4 _ _ q2
    replace sF := sF.trans s4
    obtain ⟨a5, vs5, rfl, q5, h5⟩ := r4
    refine ⟨_, rfl, _, _, _, (y4 : (List (List Int))), _, rfl, w4, (rep_lst q5 h5), ?_⟩
    refine (post_bind hm).mono (fun y6 hm p6 us6 F6 H6 w6 s6 g6 => ?_) (fun _ z => z)
    replace q1 := s6 _ _ q1
    replace h2 := A2.mono s6 h2
    replace q2 := s6 _ _ q2
    replace q5 := s6 _ _ q5
    replace h5 := A2.mono s6 h5
    replace sF := sF.trans s6
    obtain ⟨l8, e8, hm⟩ := pb_allS hm
    have h8 : A2 (rep K F6) us6 l8 := A2.unsome (e8 ▸ g6)
    exact (post_ok hm) _ _ _ _ w6 sF h8
def sp_table_of (K : Fg) : Sp := fun vs H Q E => ∃ (F : Hp) (os : List (Addr × HO)) (v_web : V) (x_web : (Int × (Tup (Int × Int)))), vs = [v_web] ∧ W F H (os) ∧ rep K F v_web x_web ∧ Post (table_of x_web) (Ret K F os Q) noX
theorem sc_table_of : FnScope ["web", "place"] ["web"] (defScope s_table_of) := ⟨rfl, rfl, rfl, by decide +kernel, rfl, by decide +kernel, by decide +kernel⟩
theorem ok_table_of (T : Tx K mg A FD) : FnOk P w K mg base CX0 3 (A 12) (FD 12) ["web"] (sp_table_of K) := by
  refine T.d12.fn.ok sc_table_of (fun vs H Q E h => ?_) (fun cdv Ar outer s H vs Q E hr h => ?_)
  · obtain ⟨F, os, v_web, x_web, rfl, _⟩ := h
    rfl
  · obtain ⟨F0, os, v_web, x_web, rfl, w0, r_web, hm⟩ := h
    have sF : Same F0 F0 := Same.refl _
    obtain ⟨a1, u1, z1, rfl, q1, r1a, r1b⟩ := r_web
    obtain rfl : u1 = V.int x_web.1 := r1a
    obtain ⟨a2, vs2, rfl, q2, h2⟩ := r1b
    refine ⟨_, (pss_one (ps_ret (pe_lc (own := [("place", 1)]) (g := gName 1) (by rfl) sc_table_of.nd (pi_range1 (by rfl) T.n_range (pa_cons (pe_ix (ix_tupK (K := K) rfl) (pv 0) pe_int (fun _ _ => rfl)) pa_nil)) (blkOk_by (own := [("place", 1)]) (N := ["web", "place"]) (sc := defScope s_table_of) (by decide +kernel)) (fun _ _ _ _ _ => (pg_name (i := 1) sc_table_of.nd rfl (Or.inl rfl))) (fun _ _ _ _ _ => pts_nil) (fun _ _ _ _ _ => (pe_call (ok_fars_from T) (hr.mono (by decide)) (by rfl) T.d10.mg T.d10.fn.kp T.d10.b .nil pass0 (pa_cons (pv 0) (pa_cons (pv 1) pa_nil))))))), ?_⟩
    obtain ⟨c3, hm⟩ := pb_rng hm
    refine ⟨_, rfl, _, _, _, _, rfl, rfl, SqT.of (w0.same _ _ q1), rfl, _, rfl, c3.2.2.1, c3.2.2.2, fun D4 nD4 => ?_⟩
    refine lcM (K := K) (tw_rng0 (j := x_web.1)) hm w0 nD4 (fun F' H' acc s w => trivial) ?_ ?_
    · -- one turn
      intro b4 x4 F4 H4 H4' acc4 N4 P4 s4 w4 y4 hN4 hm
      replace q1 := s4 _ _ q1
      replace q2 := s4 _ _ q2
      replace h2 := A2.mono s4 h2
      replace sF := sF.trans s4
      obtain ⟨rfl, rfl⟩ := y4
      refine ⟨rfl, _, rfl, _, rfl, _, _, _, (x_web : (Int × (Tup (Int × Int)))), _, rfl, w4, (rep_pair q1 rep_i (rep_tup q2 h2)), ?_⟩
      refine (post_bind hm).mono (fun y6 hm p6 us6 F6 H6 w6 s6 g6 => ?_) (fun _ z => z)
      replace q1 := s6 _ _ q1
      replace q2 := s6 _ _ q2
      replace h2 := A2.mono s6 h2
      replace sF := sF.trans s6
      obtain ⟨F8, s8, w8, q8⟩ : ∃ F', Same F6 F' ∧ W F' _ ((D4, .lst acc4) :: os) ∧ F' p6 = some (.lst us6) := w6.freezeE (pre := [])
      replace q1 := s8 _ _ q1
      replace q2 := s8 _ _ q2
      replace h2 := A2.mono s8 h2
      replace g6 := A2.mono s8 g6
      replace sF := sF.trans s8
      exact hN4 _ (post_ok hm) _ _ _ w8 (s6.trans s8) (rep_lst q8 g6)
    intro us4 F4 H4 ys4 s4 w4 gg4 hm
    replace q1 := s4 _ _ q1
    replace q2 := s4 _ _ q2
    replace h2 := A2.mono s4 h2
    replace sF := sF.trans s4
    obtain ⟨F10, s10, w10, q10⟩ : ∃ F', Same F4 F' ∧ W F' _ (os) ∧ F' D4 = some (.lst us4) := w4.freezeE (pre := [])
    replace q1 := s10 _ _ q1
    replace q2 := s10 _ _ q2
    replace h2 := A2.mono s10 h2
    replace gg4 := A2.mono s10 gg4
    replace sF := sF.trans s10
    exact (post_ok hm) _ _ _ w10 sF (rep_lst q10 gg4)
def sp_things_of (K : Fg) : Sp := fun vs H Q E => ∃ (F : Hp) (os : List (Addr × HO)) (v_web : V) (x_web : (Int × (Tup (Int × Int)))) (x_kind : Str), vs = [v_web, .str x_kind] ∧ W F H (os) ∧ rep K F v_web x_web ∧ Post (things_of x_web x_kind) (RetL K F os Q) noX
theorem sc_things_of : FnScope ["web", "kind", "places"] ["web", "kind"] (defScope s_things_of) := ⟨rfl, rfl, rfl, by decide +kernel, rfl, by decide +kernel, by decide +kernel⟩
theorem ok_things_of (T : Tx K mg A FD) : FnOk P w K mg base CX0 1 (A 13) (FD 13) ["web", "kind"] (sp_things_of K) := by
  refine T.d13.fn.ok sc_things_of (fun vs H Q E h => ?_) (fun cdv Ar outer s H vs Q E hr h => ?_)
  · obtain ⟨F, os, v_web, x_web, x_kind, rfl, _⟩ := h
    rfl
  · obtain ⟨F0, os, v_web, x_web, x_kind, rfl, w0, r_web, hm⟩ := h
    have sF : Same F0 F0 := Same.refl _
    obtain ⟨a1, u1, z1, rfl, q1, r1a, r1b⟩ := r_web
    obtain rfl : u1 = V.int x_web.1 := r1a
    obtain ⟨a2, vs2, rfl, q2, h2⟩ := r1b
    refine ⟨_, (pss_cons (ps_set (i := 2) sc_things_of.nd rfl (Or.inl rfl) (pe_listRg rfl (by rfl) T.n_list (prg_1 (by rfl) T.n_range (pe_ix (ix_tupK (K := K) rfl) (pv 0) pe_int (fun _ _ => rfl))))) (pss_cons (ps_if (pt_cmpR op_eqS (pv 1) pe_str (nomark _)) (pss_one (ps_ret (pv 2))) pss_nil) (pss_cons (ps_if (pt_cmpR op_eqS (pv 1) pe_str (nomark _)) (pss_one (ps_ret (pe_callTy (call_list_ofK (K := K) rfl) (by rfl) T.n_list (by decide +kernel) (pa_cons (pe_ix (ix_tupK (K := K) rfl) (pv 0) pe_int (fun _ _ => rfl)) pa_nil)))) pss_nil) (pss_one (ps_ret (pe_op op_cat (pv 2) (pe_callTy (call_list_ofK (K := K) rfl) (by rfl) T.n_list (by decide +kernel) (pa_cons (pe_ix (ix_tupK (K := K) rfl) (pv 0) pe_int (fun _ _ => rfl)) pa_nil)))))))), ?_⟩
    obtain ⟨l3, z3, e3, hm⟩ := pb_lrng hm
    have h3 : A2 (rep K F0) (rgV 0 x_web.1) l3 := by rw [e3, rgV_eq]; exact A2.of_ints
    refine ⟨_, rfl, _, _, _, _, rfl, rfl, SqT.of (w0.same _ _ q1), rfl, _, rfl, z3, fun p4 n4 => ?_⟩
    have w4 : W F0 _ ((p4, .lst (rgV 0 x_web.1)) :: os) := w0.new n4
    refine ⟨_, rfl, _, _, rfl, rfl, _, rfl, ?_⟩
    refine post_ite hm (fun k5 hm => ?_) (fun k5 hm => ?_)
    · skip
      have h6 : A2 (rep K F0) (rgV 0 x_web.1) (mkpl l3) := A2.pl h3
      exact ⟨_, rfl, (post_ok hm) _ _ _ _ w4 sF h6⟩
    · skip
      refine ⟨_, rfl, _, _, rfl, rfl, _, rfl, ?_⟩
      refine post_ite hm (fun k7 hm => ?_) (fun k7 hm => ?_)
      · skip
        have h8 : A2 (rep K F0) vs2 x_web.2.l := h2
        refine ⟨_, rfl, _, _, _, _, rfl, rfl, SqT.of (w4.same _ _ q1), rfl, _, _, rfl, .inr (SqT.of (w4.same _ _ q2)), fun p9 n9 => ?_⟩
        have w9 : W F0 _ ((p9, .lst vs2) :: (p4, .lst (rgV 0 x_web.1)) :: os) := w4.new n9
        have h10 : A2 (rep K F0) vs2 (mkti x_web.2.l) := A2.ti h8
        have w11 : W F0 _ ((p9, .lst vs2) :: os) := w9.drop (pre := [_])
        exact (post_ok hm) _ _ _ _ w11 sF h10
      · skip
        have h12 : A2 (rep K F0) vs2 x_web.2.l := h2
        refine ⟨_, rfl, _, rfl, _, _, _, _, rfl, rfl, SqT.of (w4.same _ _ q1), rfl, _, _, rfl, .inr (SqT.of (w4.same _ _ q2)), fun p13 n13 => ?_⟩
        have w13 : W F0 _ ((p13, .lst vs2) :: (p4, .lst (rgV 0 x_web.1)) :: os) := w4.new n13
        have h14 : A2 (rep K F0) (rgV 0 x_web.1) (mkpl l3) := A2.pl h3
        have h15 : A2 (rep K F0) vs2 (mkti x_web.2.l) := A2.ti h12
        obtain ⟨l16, z16, e16, hm⟩ := pn_extend hm
        have h16 : A2 (rep K F0) ((rgV 0 x_web.1) ++ vs2) l16 := e16 ▸ A2.append h14 h15
        refine ⟨_, _, _, _, rfl, rfl, (w13.get (pre := [_])), (w13.get (pre := [])), (A2.le2 h14 h15 z16), fun p17 n17 => ?_⟩
        have w17 : W F0 _ ((p17, .lst ((rgV 0 x_web.1) ++ vs2)) :: (p13, .lst vs2) :: (p4, .lst (rgV 0 x_web.1)) :: os) := w13.new n17
        have w18 : W F0 _ ((p17, .lst ((rgV 0 x_web.1) ++ vs2)) :: (p4, .lst (rgV 0 x_web.1)) :: os) := w17.drop (pre := [_])
        have w19 : W F0 _ ((p17, .lst ((rgV 0 x_web.1) ++ vs2)) :: os) := w18.drop (pre := [_])
        exact (post_ok hm) _ _ _ _ w19 sF h16
def sp_looks_asked (K : Fg) : Sp := fun vs H Q E => ∃ (F : Hp) (os : List (Addr × HO)) (v_web : V) (x_web : (Int × (Tup (Int × Int)))) (v_looks : V) (x_looks : (List Int)), vs = [v_web, v_looks] ∧ W F H (os) ∧ rep K F v_web x_web ∧ rep K F v_looks x_looks ∧ Post (looks_asked x_web x_looks) (Ret K F os Q) noX
theorem sc_looks_asked : FnScope ["web", "looks", "at", "look"] ["web", "looks"] (defScope s_looks_asked) := ⟨rfl, rfl, rfl, by decide +kernel, rfl, by decide +kernel, by decide +kernel⟩
theorem ok_looks_asked (T : Tx K mg A FD) : FnOk P w K mg base CX0 1 (A 14) (FD 14) ["web", "looks"] (sp_looks_asked K) := by
  refine T.d14.fn.ok sc_looks_asked (fun vs H Q E h => ?_) (fun cdv Ar outer s H vs Q E hr h => ?_)
  · obtain ⟨F, os, v_web, x_web, v_looks, x_looks, rfl, _⟩ := h
    rfl
  · obtain ⟨F0, os, v_web, x_web, v_looks, x_looks, rfl, w0, r_web, r_looks, hm⟩ := h
    have sF : Same F0 F0 := Same.refl _
    obtain ⟨a1, u1, z1, rfl, q1, r1a, r1b⟩ := r_web
    obtain rfl : u1 = V.int x_web.1 := r1a
    obtain ⟨a2, vs2, rfl, q2, h2⟩ := r1b
    obtain ⟨a3, vs3, rfl, q3, h3⟩ := r_looks
    refine ⟨_, (pss_one (ps_for PassesOwn.never rfl (pi_k (K := K) (wi := fun K => iEnum K _) rfl (pi_enum (by rfl) T.n_enumerate (pa_cons (pv 1) pa_nil))) (pg_k (K := K) (t := fun K => gTup K 2 _) rfl (pg_tup (n := 2) rfl (pgs_cons (pg_name (i := 2) sc_looks_asked.nd rfl (Or.inl rfl)) (pgs_cons (pg_name (i := 3) sc_looks_asked.nd rfl (Or.inl rfl)) pgs_nil)))) (pss_one (ps_if (PW.pt (pw_or (pt_not (pt_chain op_le op_lt pe_int (pv 3) (pe_ix (ix_tupK (K := K) rfl) (pv 0) pe_int (fun _ _ => rfl)))) (pw_or1 (PW.pt (pw_and (pt_cmp (pc_gt (pv 2) pe_int)) (pw_and1 (pt_cmp (pc_le (pv 3) (pe_ix (ix_listK (K := K) rfl) (pv 1) (pe_op op_sub (pv 2) pe_int) (fun _ _ => rfl)))))))))) (pss_one ps_absurd) pss_nil)))), ?_⟩
    refine ⟨_, rfl, _, _, rfl, SqL.of (w0.same _ _ q3), ?_⟩
    refine forS (tw_enum (a := a3) h3) hm (fun (g4 : Unit) σ H' => ∃ (F' : Hp) (o4_2 : Option V) (o4_3 : Option V), σ = [some (.ref a1), some (.ref a3), o4_2, o4_3] ∧ Same F0 F' ∧ W F' H' (os)) ⟨_, _, _, rfl, Same.refl _, w0⟩ (fun g σ H' hI => by obtain ⟨F', _, _, _, s, w⟩ := hI; exact SqL.of (w.same _ _ (s _ _ q3))) ?_ ?_
    · -- a turn
      intro b4 g4 x4 σ4 H4 H4' N4 P4 hI hy hN4 hm
      obtain ⟨F4, o4_2, o4_3, rfl, s4, w4⟩ := hI
      replace q1 := s4 _ _ q1
      replace q2 := s4 _ _ q2
      replace h2 := A2.mono s4 h2
      replace q3 := s4 _ _ q3
      replace h3 := A2.mono s4 h3
      replace sF := sF.trans s4
      obtain ⟨T5, u5, rfl, n5, rfl, r5⟩ := hy
      obtain ⟨F5, s5, w5, q5⟩ := w4.frzE (o := .tup [.int b4.1, u5]) n5
      replace r5 := Rep.mono s4 r5
      replace q1 := s5 _ _ q1
      replace q2 := s5 _ _ q2
      replace h2 := A2.mono s5 h2
      replace q3 := s5 _ _ q3
      replace h3 := A2.mono s5 h3
      replace sF := sF.trans s5
      replace r5 := Rep.mono s5 r5
      obtain rfl : u5 = V.int b4.2 := r5
      refine ⟨_, _, rfl, SqT.of (w5.same _ _ q5), rfl, _, _, rfl, _, _, rfl, rfl, ?_⟩
      try dsimp only
      refine stepIf ?_
      refine joinT hm (fun (j6 : Bool) c H' => c = j6 ∧ ∃ (F' : Hp), Same F5 F' ∧ W F' H' (os)) ?_ ?_
      · intro Q6 P6 q6 hm
        refine stepOr ?_
        refine stepNot ?_
        refine cutT (fun c H' => c = ((decide ((0 : Int) ≤ b4.2)) && (decide (b4.2 < x_web.1))) ∧ ∃ F', Same F5 F' ∧ W F' H' (os)) (fun Q7 q7 => ?_) (fun c7 H7 hc7 => ?_)
        · -- the ways
          refine ⟨_, rfl, _, _, rfl, rfl, _, rfl, ?_⟩
          refine ifB (fun k8 => ?_) (fun k8 => ?_)
          · skip
            exact ⟨_, rfl, _, _, _, _, rfl, rfl, SqT.of (w5.same _ _ q1), rfl, _, _, rfl, rfl, _, rfl, q7 _ _ ⟨(by first | rfl | exact absurd k8 (by decide) | (simp [k8]; done) | ((try simp only [Bool.not_eq_true] at k8); simp only [k8, Bool.true_or, Bool.false_or, Bool.or_false, Bool.or_true, Bool.true_and, Bool.false_and, Bool.and_true, Bool.and_false])), _, Same.refl _, w5⟩⟩
          · skip
            exact ⟨_, rfl, q7 _ _ ⟨(by first | rfl | exact absurd k8 (by decide) | (simp [k8]; done) | ((try simp only [Bool.not_eq_true] at k8); simp only [k8, Bool.true_or, Bool.false_or, Bool.or_false, Bool.or_true, Bool.true_and, Bool.false_and, Bool.and_true, Bool.and_false])), _, Same.refl _, w5⟩⟩
        obtain ⟨rfl, F7, s7, w7⟩ := hc7
        replace q1 := s7 _ _ q1
        replace h2 := A2.mono s7 h2
        replace q2 := s7 _ _ q2
        replace h3 := A2.mono s7 h3
        replace q3 := s7 _ _ q3
        replace sF := sF.trans s7
        refine post_ite hm (fun k11 hm => ?_) (fun k11 hm => ?_)
        · skip
          exact q6 _ (post_ok hm) _ _ ⟨rfl, _, s7, w7⟩
        · skip
          refine joinT hm (fun (j13 : Bool) c H' => c = j13 ∧ ∃ (F' : Hp), Same F7 F' ∧ W F' H' (os)) ?_ ?_
          · intro Q13 P13 q13 hm
            refine ⟨_, rfl, _, _, rfl, rfl, _, rfl, ?_⟩
            refine post_ite hm (fun k14 hm => ?_) (fun k14 hm => ?_)
            · skip
              obtain ⟨t15, e15, hm⟩ := pb_get hm
              obtain ⟨u15, f15, r15⟩ := A2.at h3 e15
              obtain rfl : u15 = V.int t15 := r15
              exact ⟨_, rfl, _, rfl, _, rfl, _, _, rfl, rfl, _, _, _, _, rfl, rfl, SqL.of (w7.same _ _ q3), f15, _, _, rfl, rfl, _, rfl, q13 _ (post_ok hm) _ _ ⟨rfl, _, Same.refl _, w7⟩⟩
            · skip
              exact q13 _ (post_ok hm) _ _ ⟨rfl, _, Same.refl _, w7⟩
          intro j13 c13 H13 hc13 hm
          obtain ⟨rfl, F13, s13, w13⟩ := hc13
          replace q1 := s13 _ _ q1
          replace h2 := A2.mono s13 h2
          replace q2 := s13 _ _ q2
          replace h3 := A2.mono s13 h3
          replace q3 := s13 _ _ q3
          replace sF := sF.trans s13
          exact q6 _ (post_ok hm) _ _ ⟨rfl, _, (s7.trans s13), w13⟩
      intro j6 c6 H6 hc6 hm
      obtain ⟨rfl, F6, s6, w6⟩ := hc6
      replace q1 := s6 _ _ q1
      replace h2 := A2.mono s6 h2
      replace q2 := s6 _ _ q2
      replace h3 := A2.mono s6 h3
      replace q3 := s6 _ _ q3
      replace sF := sF.trans s6
      refine post_ite hm (fun k19 hm => ?_) (fun k19 hm => ?_)
      · skip
        try dsimp only
        exact hm
      · skip
        exact hN4 _ (post_ok hm) _ _ ⟨_, _, _, rfl, (s4.trans (s5.trans s6)), w6⟩
    intro g4 σ4 H4 hI hm
    obtain ⟨F4, o4_2, o4_3, rfl, s4, w4⟩ := hI
    replace q1 := s4 _ _ q1
    replace q2 := s4 _ _ q2
    replace h2 := A2.mono s4 h2
    replace q3 := s4 _ _ q3
    replace h3 := A2.mono s4 h3
    replace sF := sF.trans s4
    exact (post_ok hm) _ _ _ w4 sF rep_n
def sp_thing_asked (K : Fg) : Sp := fun vs H Q E => ∃ (F : Hp) (os : List (Addr × HO)) (v_web : V) (x_web : (Int × (Tup (Int × Int)))) (v_thing : V) (x_thing : Thing), vs = [v_web, v_thing] ∧ W F H (os) ∧ rep K F v_web x_web ∧ rep K F v_thing x_thing ∧ Post (thing_asked x_web x_thing) (Ret K F os Q) noX
theorem sc_thing_asked : FnScope ["web", "thing"] ["web", "thing"] (defScope s_thing_asked) := ⟨rfl, rfl, rfl, by decide +kernel, rfl, by decide +kernel, by decide +kernel⟩
theorem ok_thing_asked (T : Tx K mg A FD) : FnOk P w K mg base CX0 1 (A 15) (FD 15) ["web", "thing"] (sp_thing_asked K) := by
  refine T.d15.fn.ok sc_thing_asked (fun vs H Q E h => ?_) (fun cdv Ar outer s H vs Q E hr h => ?_)
  · obtain ⟨F, os, v_web, x_web, v_thing, x_thing, rfl, _⟩ := h
    rfl
  · obtain ⟨F0, os, v_web, x_web, v_thing, x_thing, rfl, w0, r_web, r_thing, hm⟩ := h
    have sF : Same F0 F0 := Same.refl _
    obtain ⟨a1, u1, z1, rfl, q1, r1a, r1b⟩ := r_web
    obtain rfl : u1 = V.int x_web.1 := r1a
    obtain ⟨a2, vs2, rfl, q2, h2⟩ := r1b
    refine ⟨_, (pss_one (ps_if (pt_val (pe_callB (call_isB (K := K) rfl) (by rfl) T.n_isinstance (by decide +kernel) (pa_cons (pv 1) (pa_cons (pe_bltn (v := .ty "int") (by rfl) T.n_int (by decide +kernel) rfl) pa_nil)))) (pss_one (ps_if (pt_not (pt_chain op_le op_lt pe_int (pv 1) (pe_ix (ix_tupK (K := K) rfl) (pv 0) pe_int (fun _ _ => rfl)))) (pss_one ps_absurd) pss_nil)) (pss_one (ps_if (pt_cmpR (op_notInT (K := K) rfl (Int × Int) (by decide) (Room.units65 hr)) (pv 1) (pe_ix (ix_tupK (K := K) rfl) (pv 0) pe_int (fun _ _ => rfl)) (by rfl)) (pss_one ps_absurd) pss_nil)))), ?_⟩
    obtain ⟨a4, y4, k4⟩ := th_int w0.same r_thing
    refine ⟨_, rfl, _, _, _, x_thing.isPl, rfl, y4, k4, _, rfl, ?_⟩
    refine post_ite hm (fun k5 hm => ?_) (fun k5 hm => ?_)
    · skip
      obtain ⟨t6, e6, hm⟩ := pb_asPl hm
      have r6 : v_thing = V.int t6 := (show rep K F0 v_thing (Thing.pl t6) from e6 ▸ r_thing)
      subst r6
      try dsimp only
      refine stepIf ?_
      refine stepNot ?_
      refine cutT (fun c H' => c = ((decide ((0 : Int) ≤ t6)) && (decide (t6 < x_web.1))) ∧ ∃ F', Same F0 F' ∧ W F' H' (os)) (fun Q7 q7 => ?_) (fun c7 H7 hc7 => ?_)
      · -- the ways
        refine ⟨_, rfl, _, _, rfl, rfl, _, rfl, ?_⟩
        refine ifB (fun k8 => ?_) (fun k8 => ?_)
        · skip
          exact ⟨_, rfl, _, _, _, _, rfl, rfl, SqT.of (w0.same _ _ q1), rfl, _, _, rfl, rfl, _, rfl, q7 _ _ ⟨(by first | rfl | exact absurd k8 (by decide) | (simp [k8]; done) | ((try simp only [Bool.not_eq_true] at k8); simp only [k8, Bool.true_or, Bool.false_or, Bool.or_false, Bool.or_true, Bool.true_and, Bool.false_and, Bool.and_true, Bool.and_false])), _, Same.refl _, w0⟩⟩
        · skip
          exact ⟨_, rfl, q7 _ _ ⟨(by first | rfl | exact absurd k8 (by decide) | (simp [k8]; done) | ((try simp only [Bool.not_eq_true] at k8); simp only [k8, Bool.true_or, Bool.false_or, Bool.or_false, Bool.or_true, Bool.true_and, Bool.false_and, Bool.and_true, Bool.and_false])), _, Same.refl _, w0⟩⟩
      obtain ⟨rfl, F7, s7, w7⟩ := hc7
      replace q1 := s7 _ _ q1
      replace q2 := s7 _ _ q2
      replace h2 := A2.mono s7 h2
      replace r_thing := Rep.mono s7 r_thing
      replace sF := sF.trans s7
      refine post_ite hm (fun k11 hm => ?_) (fun k11 hm => ?_)
      · skip
        try dsimp only
        exact hm
      · skip
        exact (post_ok hm) _ _ _ w7 sF rep_n
    · skip
      obtain ⟨t12, e12, hm⟩ := pb_asTi hm
      have r12 : rep K F0 v_thing (t12 : Int × Int) := (show rep K F0 v_thing (Thing.ti t12.1 t12.2) from e12 ▸ r_thing)
      obtain ⟨a13, u13, z13, rfl, q13, r13a, r13b⟩ := r12
      obtain rfl : u13 = V.int t12.1 := r13a
      obtain rfl : z13 = V.int t12.2 := r13b
      refine ⟨_, rfl, _, rfl, _, _, _, _, rfl, rfl, SqT.of (w0.same _ _ q1), rfl, (t12 : (Int × Int)), _, (Rep.mono w0.same (rep_pair q13 rep_i rep_i)), (Rep.mono w0.same (rep_tup q2 h2)), _, rfl, ?_⟩
      refine post_ite hm (fun k14 hm => ?_) (fun k14 hm => ?_)
      · skip
        try dsimp only
        exact hm
      · skip
        exact (post_ok hm) _ _ _ w0 sF rep_n
def sp_far_by (K : Fg) : Sp := fun vs H Q E => ∃ (F : Hp) (os : List (Addr × HO)) (v_table : V) (x_table : (List (List Int))) (x_look : Int) (v_thing : V) (x_thing : Thing), vs = [v_table, .int x_look, v_thing] ∧ W F H (os) ∧ rep K F v_table x_table ∧ rep K F v_thing x_thing ∧ Post (far_by x_table x_look x_thing) (Ret K F os Q) noX
theorem sc_far_by : FnScope ["table", "look", "thing"] ["table", "look", "thing"] (defScope s_far_by) := ⟨rfl, rfl, rfl, by decide +kernel, rfl, by decide +kernel, by decide +kernel⟩
theorem ok_far_by (T : Tx K mg A FD) : FnOk P w K mg base CX0 1 (A 16) (FD 16) ["table", "look", "thing"] (sp_far_by K) := by
  refine T.d16.fn.ok sc_far_by (fun vs H Q E h => ?_) (fun cdv Ar outer s H vs Q E hr h => ?_)
  · obtain ⟨F, os, v_table, x_table, x_look, v_thing, x_thing, rfl, _⟩ := h
    rfl
  · obtain ⟨F0, os, v_table, x_table, x_look, v_thing, x_thing, rfl, w0, r_table, r_thing, hm⟩ := h
    have sF : Same F0 F0 := Same.refl _
    obtain ⟨a1, vs1, rfl, q1, h1⟩ := r_table
    refine ⟨_, (pss_cons (ps_if (pt_val (pe_callB (call_isB (K := K) rfl) (by rfl) T.n_isinstance (by decide +kernel) (pa_cons (pv 2) (pa_cons (pe_bltn (v := .ty "int") (by rfl) T.n_int (by decide +kernel) rfl) pa_nil)))) (pss_one (ps_ret (pe_ix (ix_listK (K := K) rfl) (pe_ix (ix_listK (K := K) rfl) (pv 0) (pv 1) (fun _ _ => rfl)) (pv 2) (fun _ _ => rfl)))) pss_nil) (pss_one (ps_ret (pe_callB (call_min2 rfl) (by rfl) T.n_min (by decide +kernel) (pa_cons (pe_ix (ix_listK (K := K) rfl) (pe_ix (ix_listK (K := K) rfl) (pv 0) (pv 1) (fun _ _ => rfl)) (pe_ix (ix_tupK (K := K) rfl) (pv 2) pe_int (fun _ _ => rfl)) (fun _ _ => rfl)) (pa_cons (pe_ix (ix_listK (K := K) rfl) (pe_ix (ix_listK (K := K) rfl) (pv 0) (pv 1) (fun _ _ => rfl)) (pe_ix (ix_tupK (K := K) rfl) (pv 2) pe_int (fun _ _ => rfl)) (fun _ _ => rfl)) pa_nil)))))), ?_⟩
    obtain ⟨a3, y3, k3⟩ := th_int w0.same r_thing
    refine ⟨_, rfl, _, _, _, x_thing.isPl, rfl, y3, k3, _, rfl, ?_⟩
    refine post_ite hm (fun k4 hm => ?_) (fun k4 hm => ?_)
    · skip
      obtain ⟨t5, e5, hm⟩ := pb_asPl hm
      have r5 : v_thing = V.int t5 := (show rep K F0 v_thing (Thing.pl t5) from e5 ▸ r_thing)
      subst r5
      obtain ⟨t6, e6, hm⟩ := pb_get hm
      obtain ⟨u6, f6, r6⟩ := A2.at h1 e6
      obtain ⟨a7, vs7, rfl, q7, h7⟩ := r6
      obtain ⟨t8, e8, hm⟩ := pb_get hm
      obtain ⟨u8, f8, r8⟩ := A2.at h7 e8
      obtain rfl : u8 = V.int t8 := r8
      exact ⟨_, rfl, _, rfl, _, _, _, _, rfl, rfl, SqL.of (w0.same _ _ q1), f6, _, rfl, _, _, _, _, rfl, rfl, SqL.of (w0.same _ _ q7), f8, (post_ok hm) _ _ _ w0 sF rep_i⟩
    · skip
      obtain ⟨t9, e9, hm⟩ := pb_asTi hm
      have r9 : rep K F0 v_thing (t9 : Int × Int) := (show rep K F0 v_thing (Thing.ti t9.1 t9.2) from e9 ▸ r_thing)
      obtain ⟨a10, u10, z10, rfl, q10, r10a, r10b⟩ := r9
      obtain rfl : u10 = V.int t9.1 := r10a
      obtain rfl : z10 = V.int t9.2 := r10b
      obtain ⟨t11, e11, hm⟩ := pb_get hm
      obtain ⟨u11, f11, r11⟩ := A2.at h1 e11
      obtain ⟨a12, vs12, rfl, q12, h12⟩ := r11
      obtain ⟨t13, e13, hm⟩ := pb_get hm
      obtain ⟨u13, f13, r13⟩ := A2.at h12 e13
      obtain rfl : u13 = V.int t13 := r13
      obtain ⟨t14, e14, hm⟩ := pb_get hm
      obtain ⟨u14, f14, r14⟩ := A2.at h1 e14
      obtain ⟨a15, vs15, rfl, q15, h15⟩ := r14
      obtain ⟨t16, e16, hm⟩ := pb_get hm
      obtain ⟨u16, f16, r16⟩ := A2.at h15 e16
      obtain rfl : u16 = V.int t16 := r16
      exact ⟨_, rfl, _, rfl, _, _, _, _, rfl, rfl, SqL.of (w0.same _ _ q1), f11, _, rfl, _, _, _, _, rfl, rfl, SqT.of (w0.same _ _ q10), rfl, _, _, _, _, rfl, rfl, SqL.of (w0.same _ _ q12), f13, _, rfl, _, rfl, _, _, _, _, rfl, rfl, SqL.of (w0.same _ _ q1), f14, _, rfl, _, _, _, _, rfl, rfl, SqT.of (w0.same _ _ q10), rfl, _, _, _, _, rfl, rfl, SqL.of (w0.same _ _ q15), f16, _, _, rfl, (post_ok hm) _ _ _ w0 sF rep_i⟩
def sp_code_of (K : Fg) : Sp := fun vs H Q E => ∃ (F : Hp) (os : List (Addr × HO)) (v_web : V) (x_web : (Int × (Tup (Int × Int)))) (v_looks : V) (x_looks : (List Int)) (v_thing : V) (x_thing : Thing), vs = [v_web, v_looks, v_thing] ∧ W F H (os) ∧ rep K F v_web x_web ∧ rep K F v_looks x_looks ∧ rep K F v_thing x_thing ∧ Post (code_of x_web x_looks x_thing) (RetL K F os Q) noX
theorem sc_code_of : FnScope ["web", "looks", "thing", "table", "look"] ["web", "looks", "thing"] (defScope s_code_of) := ⟨rfl, rfl, rfl, by decide +kernel, rfl, by decide +kernel, by decide +kernel⟩
theorem ok_code_of (T : Tx K mg A FD) : FnOk P w K mg base CX0 4 (A 17) (FD 17) ["web", "looks", "thing"] (sp_code_of K) := by
  refine T.d17.fn.ok sc_code_of (fun vs H Q E h => ?_) (fun cdv Ar outer s H vs Q E hr h => ?_)
  · obtain ⟨F, os, v_web, x_web, v_looks, x_looks, v_thing, x_thing, rfl, _⟩ := h
    rfl
  · obtain ⟨F0, os, v_web, x_web, v_looks, x_looks, v_thing, x_thing, rfl, w0, r_web, r_looks, r_thing, hm⟩ := h
    have sF : Same F0 F0 := Same.refl _
    obtain ⟨a1, u1, z1, rfl, q1, r1a, r1b⟩ := r_web
    obtain rfl : u1 = V.int x_web.1 := r1a
    obtain ⟨a2, vs2, rfl, q2, h2⟩ := r1b
    obtain ⟨a3, vs3, rfl, q3, h3⟩ := r_looks
    refine ⟨_, (pss_cons (ps_expr (pe_call (ok_looks_asked T) (hr.mono (by decide)) (by rfl) T.d14.mg T.d14.fn.kp T.d14.b .nil pass0 (pa_cons (pv 0) (pa_cons (pv 1) pa_nil)))) (pss_cons (ps_expr (pe_call (ok_thing_asked T) (hr.mono (by decide)) (by rfl) T.d15.mg T.d15.fn.kp T.d15.b .nil pass0 (pa_cons (pv 0) (pa_cons (pv 2) pa_nil)))) (pss_cons (ps_set (i := 3) sc_code_of.nd rfl (Or.inr rfl) (pe_call (ok_table_of T) (hr.mono (by decide)) (by rfl) T.d12.mg T.d12.fn.kp T.d12.b .nil pass0 (pa_cons (pv 0) pa_nil))) (pss_one (ps_ret (pe_lc (own := [("look", 4)]) (g := gName 4) (by rfl) sc_code_of.nd (pi_listK (K := K) rfl (pv 1)) (blkOk_by (own := [("look", 4)]) (N := ["web", "looks", "thing", "table", "look"]) (sc := defScope s_code_of) (by decide +kernel)) (fun _ _ _ _ _ => (pg_name (i := 4) sc_code_of.nd rfl (Or.inl rfl))) (fun _ _ _ _ _ => pts_nil) (fun _ _ _ _ _ => (pe_call (ok_far_by T) (hr.mono (by decide)) (by rfl) T.d16.mg T.d16.fn.kp T.d16.b .nil pass0 (pa_cons (pv 3) (pa_cons (pv 4) (pa_cons (pv 2) pa_nil))))))))))), ?_⟩
    refine ⟨_, rfl, _, rfl, _, _, _, (x_web : (Int × (Tup (Int × Int)))), _, (x_looks : (List Int)), rfl, w0, (rep_pair q1 rep_i (rep_tup q2 h2)), (rep_lst q3 h3), ?_⟩
    refine (post_bind hm).mono (fun y5 hm v5 F5 H5 w5 s5 r5 => ?_) (fun _ z => z)
    replace q1 := s5 _ _ q1
    replace q2 := s5 _ _ q2
    replace h2 := A2.mono s5 h2
    replace q3 := s5 _ _ q3
    replace h3 := A2.mono s5 h3
    replace r_thing := Rep.mono s5 r_thing
    replace sF := sF.trans s5
    obtain rfl : v5 = V.non := r5
    refine ⟨_, rfl, _, rfl, _, _, _, (x_web : (Int × (Tup (Int × Int)))), _, (x_thing : Thing), rfl, w5, (rep_pair q1 rep_i (rep_tup q2 h2)), r_thing, ?_⟩
    refine (post_bind hm).mono (fun y6 hm v6 F6 H6 w6 s6 r6 => ?_) (fun _ z => z)
    replace q1 := s6 _ _ q1
    replace h2 := A2.mono s6 h2
    replace q2 := s6 _ _ q2
    replace h3 := A2.mono s6 h3
    replace q3 := s6 _ _ q3
    replace r_thing := Rep.mono s6 r_thing
    replace sF := sF.trans s6
    obtain rfl : v6 = V.non := r6
    refine ⟨_, rfl, _, _, _, (x_web : (Int × (Tup (Int × Int)))), rfl, w6, (rep_pair q1 rep_i (rep_tup q2 h2)), ?_⟩
    refine (post_bind hm).mono (fun y7 hm v7 F7 H7 w7 s7 r7 => ?_) (fun _ z => z)
    replace q1 := s7 _ _ q1
    replace h2 := A2.mono s7 h2
    replace q2 := s7 _ _ q2
    replace h3 := A2.mono s7 h3
    replace q3 := s7 _ _ q3
    replace r_thing := Rep.mono s7 r_thing
    replace sF := sF.trans s7
    obtain ⟨a8, vs8, rfl, q8, h8⟩ := r7
    refine ⟨_, rfl, _, rfl, ⟨_, SqL.of (w7.same _ _ q3)⟩, fun D9 nD9 => ?_⟩
    refine lcM (K := K) (tw_list (a := a3) h3) hm w7 nD9 (fun F' H' acc s w => SqL.of (w.same _ _ (s _ _ q3))) ?_ ?_
    · -- one turn
      intro b9 x9 F9 H9 H9' acc9 N9 P9 s9 w9 y9 hN9 hm
      replace q1 := s9 _ _ q1
      replace h2 := A2.mono s9 h2
      replace q2 := s9 _ _ q2
      replace h3 := A2.mono s9 h3
      replace q3 := s9 _ _ q3
      replace r_thing := Rep.mono s9 r_thing
      replace h8 := A2.mono s9 h8
      replace q8 := s9 _ _ q8
      replace sF := sF.trans s9
      obtain ⟨rfl, r11⟩ := y9
      obtain rfl : x9 = V.int b9 := r11
      refine ⟨rfl, _, rfl, _, rfl, _, rfl, _, _, _, (y7 : (List (List Int))), _, _, (x_thing : Thing), rfl, w9, (rep_lst q8 h8), r_thing, ?_⟩
      refine (post_bind hm).mono (fun y12 hm v12 F12 H12 w12 s12 r12 => ?_) (fun _ z => z)
      replace q1 := s12 _ _ q1
      replace h2 := A2.mono s12 h2
      replace q2 := s12 _ _ q2
      replace h3 := A2.mono s12 h3
      replace q3 := s12 _ _ q3
      replace r_thing := Rep.mono s12 r_thing
      replace h8 := A2.mono s12 h8
      replace q8 := s12 _ _ q8
      replace sF := sF.trans s12
      obtain rfl : v12 = V.int y12 := r12
      exact hN9 _ (post_ok hm) _ _ _ w12 s12 rep_i
    intro us9 F9 H9 ys9 s9 w9 gg9 hm
    replace q1 := s9 _ _ q1
    replace h2 := A2.mono s9 h2
    replace q2 := s9 _ _ q2
    replace h3 := A2.mono s9 h3
    replace q3 := s9 _ _ q3
    replace r_thing := Rep.mono s9 r_thing
    replace h8 := A2.mono s9 h8
    replace q8 := s9 _ _ q8
    replace sF := sF.trans s9
    exact (post_ok hm) _ _ _ _ w9 sF gg9
def sp_ask_shared (K : Fg) : Sp := fun vs H Q E => ∃ (F : Hp) (os : List (Addr × HO)) (v_web : V) (x_web : (Int × (Tup (Int × Int)))), vs = [v_web] ∧ W F H (os) ∧ rep K F v_web x_web ∧ Post (ask_shared x_web) (Ret K F os Q) noX
theorem sc_ask_shared : FnScope ["web"] ["web"] (defScope s_ask_shared) := ⟨rfl, rfl, rfl, by decide +kernel, rfl, by decide +kernel, by decide +kernel⟩
theorem ok_ask_shared (T : Tx K mg A FD) : FnOk P w K mg base CX0 1 (A 20) (FD 20) ["web"] (sp_ask_shared K) := by
  refine T.d20.fn.ok sc_ask_shared (fun vs H Q E h => ?_) (fun cdv Ar outer s H vs Q E hr h => ?_)
  · obtain ⟨F, os, v_web, x_web, rfl, _⟩ := h
    rfl
  · obtain ⟨F0, os, v_web, x_web, rfl, w0, r_web, hm⟩ := h
    have sF : Same F0 F0 := Same.refl _
    obtain ⟨a1, u1, z1, rfl, q1, r1a, r1b⟩ := r_web
    obtain rfl : u1 = V.int x_web.1 := r1a
    obtain ⟨a2, vs2, rfl, q2, h2⟩ := r1b
    refine ⟨_, (pss_one (ps_if (pt_cmp (pc_gt (pe_ix (ix_tupK (K := K) rfl) (pv 0) pe_int (fun _ _ => rfl)) (pe_globI (by rfl) T.c_MOST_SHARED))) (pss_one ps_absurd) pss_nil)), ?_⟩
    refine ⟨_, rfl, _, _, _, _, rfl, rfl, SqT.of (w0.same _ _ q1), rfl, _, _, rfl, rfl, _, rfl, ?_⟩
    refine post_ite hm (fun k3 hm => ?_) (fun k3 hm => ?_)
    · skip
      try dsimp only
      exact hm
    · skip
      exact (post_ok hm) _ _ _ w0 sF rep_n
def sp_parted_pairs (K : Fg) : Sp := fun vs H Q E => ∃ (F : Hp) (os : List (Addr × HO)) (v_web : V) (x_web : (Int × (Tup (Int × Int)))) (x_kind : Str), vs = [v_web, .str x_kind] ∧ W F H (os) ∧ rep K F v_web x_web ∧ Post (parted_pairs x_web x_kind) (Ret K F os Q) noX
theorem sc_parted_pairs : FnScope ["web", "kind", "things", "codes", "found", "at", "one", "to", "parters", "thing", "place"] ["web", "kind"] (defScope s_parted_pairs) := ⟨rfl, rfl, rfl, by decide +kernel, rfl, by decide +kernel, by decide +kernel⟩
theorem ok_parted_pairs (T : Tx K mg A FD) : FnOk P w K mg base CX0 5 (A 21) (FD 21) ["web", "kind"] (sp_parted_pairs K) := by
  refine T.d21.fn.ok sc_parted_pairs (fun vs H Q E h => ?_) (fun cdv Ar outer s H vs Q E hr h => ?_)
  · obtain ⟨F, os, v_web, x_web, x_kind, rfl, _⟩ := h
    rfl
  · obtain ⟨F0, os, v_web, x_web, x_kind, rfl, w0, r_web, hm⟩ := h
    have sF : Same F0 F0 := Same.refl _
    obtain ⟨a1, u1, z1, rfl, q1, r1a, r1b⟩ := r_web
    obtain rfl : u1 = V.int x_web.1 := r1a
    obtain ⟨a2, vs2, rfl, q2, h2⟩ := r1b
    refine ⟨_, (pss_cons (ps_set (i := 2) sc_parted_pairs.nd rfl (Or.inl rfl) (pe_call (ok_things_of T) (hr.mono (by decide)) (by rfl) T.d13.mg T.d13.fn.kp T.d13.b .nil pass0 (pa_cons (pv 0) (pa_cons (pv 1) pa_nil)))) (pss_cons (ps_set (i := 3) sc_parted_pairs.nd rfl (Or.inr rfl) (pe_lc (own := [("thing", 9)]) (g := gName 9) (by rfl) sc_parted_pairs.nd (pi_listK (K := K) rfl (pv 2)) (blkOk_by (own := [("thing", 9)]) (N := ["web", "kind", "things", "codes", "found", "at", "one", "to", "parters", "thing", "place"]) (sc := defScope s_parted_pairs) (by decide +kernel)) (fun _ _ _ _ _ => (pg_name (i := 9) sc_parted_pairs.nd rfl (Or.inl rfl))) (fun _ _ _ _ _ => pts_nil) (fun _ _ _ _ _ => (pe_call (ok_code_of T) (hr.mono (by decide)) (by rfl) T.d17.mg T.d17.fn.kp T.d17.b .nil pass0 (pa_cons (pv 0) (pa_cons (pe_listRg rfl (by rfl) T.n_list (prg_1 (by rfl) T.n_range (pe_ix (ix_tupK (K := K) rfl) (pv 0) pe_int (fun _ _ => rfl)))) (pa_cons (pv 9) pa_nil))))))) (pss_cons (ps_set (i := 4) sc_parted_pairs.nd rfl (Or.inl rfl) (pe_lst pa_nil)) (pss_cons (ps_for PassesOwn.never rfl (pi_k (K := K) (wi := fun K => iEnum K _) rfl (pi_enum (by rfl) T.n_enumerate (pa_cons (pv 2) pa_nil))) (pg_k (K := K) (t := fun K => gTup K 2 _) rfl (pg_tup (n := 2) rfl (pgs_cons (pg_name (i := 5) sc_parted_pairs.nd rfl (Or.inr rfl)) (pgs_cons (pg_name (i := 6) sc_parted_pairs.nd rfl (Or.inl rfl)) pgs_nil)))) (pss_one (ps_for PassesOwn.never rfl (pi_range2 (by rfl) T.n_range (pa_cons (pe_op op_add (pv 5) pe_int) (pa_cons (pe_callB (call_lenN (K := K) rfl) (by rfl) T.n_len (by decide +kernel) (pa_cons (pv 2) pa_nil)) pa_nil))) (pg_name (i := 7) sc_parted_pairs.nd rfl (Or.inr rfl)) (pss_cons (ps_setLc (i := 8) (own := [("place", 10)]) (g := gName 10) (by rfl) sc_parted_pairs.nd rfl rfl (sw_true rfl rfl rfl (by decide +kernel)) (pi_range1 (by rfl) T.n_range (pa_cons (pe_ix (ix_tupK (K := K) rfl) (pv 0) pe_int (fun _ _ => rfl)) pa_nil)) (blkOk_by (own := [("place", 10)]) (N := ["web", "kind", "things", "codes", "found", "at", "one", "to", "parters", "thing", "place"]) (sc := defScope s_parted_pairs) (by decide +kernel)) (fun _ _ _ _ _ => (pg_name (i := 10) sc_parted_pairs.nd rfl (Or.inl rfl))) (fun _ _ _ _ _ => (pts_one (pt_cmp (pc_neI (pe_ix (ix_listK (K := K) rfl) (pe_ix (ix_listK (K := K) rfl) (pv 3) (pv 5) (fun _ _ => rfl)) (pv 10) (fun _ _ => rfl)) (pe_ix (ix_listK (K := K) rfl) (pe_ix (ix_listK (K := K) rfl) (pv 3) (pv 7) (fun _ _ => rfl)) (pv 10) (fun _ _ => rfl)))))) (fun _ _ _ _ _ => (pv 10))) (pss_one (ps_expr (pe_bm PySem.F.plainAttrs_list PySem.F.slot_list_append PySem.F.type_list_append mt_append (pv 4) (pa_cons (pe_tup (pa_cons (pv 6) (pa_cons (pe_ix (ix_listK (K := K) rfl) (pv 2) (pv 7) (fun _ _ => rfl)) (pa_cons (pv 8) pa_nil)))) pa_nil)))))))) (pss_one (ps_ret (pv 4))))))), ?_⟩
    refine ⟨_, rfl, _, rfl, _, _, _, (x_web : (Int × (Tup (Int × Int)))), _, rfl, w0, (rep_pair q1 rep_i (rep_tup q2 h2)), ?_⟩
    refine (post_bind hm).mono (fun y3 hm p3 us3 F3 H3 w3 s3 g3 => ?_) (fun _ z => z)
    replace q1 := s3 _ _ q1
    replace q2 := s3 _ _ q2
    replace h2 := A2.mono s3 h2
    replace sF := sF.trans s3
    obtain ⟨F5, s5, w5, q5⟩ : ∃ F', Same F3 F' ∧ W F' _ (os) ∧ F' p3 = some (.lst us3) := w3.freezeE (pre := [])
    replace q1 := s5 _ _ q1
    replace q2 := s5 _ _ q2
    replace h2 := A2.mono s5 h2
    replace g3 := A2.mono s5 g3
    replace sF := sF.trans s5
    refine ⟨_, rfl, _, rfl, ⟨_, SqL.of (w5.same _ _ q5)⟩, fun D6 nD6 => ?_⟩
    refine lcM (K := K) (tw_list (a := p3) g3) hm w5 nD6 (fun F' H' acc s w => SqL.of (w.same _ _ (s _ _ q5))) ?_ ?_
    · -- one turn
      intro b6 x6 F6 H6 H6' acc6 N6 P6 s6 w6 y6 hN6 hm
      replace q1 := s6 _ _ q1
      replace h2 := A2.mono s6 h2
      replace q2 := s6 _ _ q2
      replace g3 := A2.mono s6 g3
      replace q5 := s6 _ _ q5
      replace sF := sF.trans s6
      obtain ⟨rfl, r8⟩ := y6
      replace r8 := Rep.mono s6 r8
      obtain ⟨l10, z10, e10, hm⟩ := pb_lrng hm
      have h10 : A2 (rep K F6) (rgV 0 x_web.1) l10 := by rw [e10, rgV_eq]; exact A2.of_ints
      refine ⟨rfl, _, rfl, _, rfl, _, _, _, _, rfl, rfl, SqT.of (w6.same _ _ q1), rfl, _, rfl, z10, fun p11 n11 => ?_⟩
      have w11 : W F6 _ ((p11, .lst (rgV 0 x_web.1)) :: (D6, .lst acc6) :: os) := w6.new n11
      obtain ⟨F12, s12, w12, q12⟩ : ∃ F', Same F6 F' ∧ W F' _ ((D6, .lst acc6) :: os) ∧ F' p11 = some (.lst (rgV 0 x_web.1)) := w11.freezeE (pre := [])
      replace q1 := s12 _ _ q1
      replace h2 := A2.mono s12 h2
      replace q2 := s12 _ _ q2
      replace g3 := A2.mono s12 g3
      replace q5 := s12 _ _ q5
      replace r8 := Rep.mono s12 r8
      replace h10 := A2.mono s12 h10
      replace sF := sF.trans s12
      refine ⟨_, rfl, _, _, _, (x_web : (Int × (Tup (Int × Int)))), _, (l10 : (List Int)), _, (b6 : Thing), rfl, w12, (rep_pair q1 rep_i (rep_tup q2 h2)), (rep_lst q12 h10), r8, ?_⟩
      refine (post_bind hm).mono (fun y13 hm p13 us13 F13 H13 w13 s13 g13 => ?_) (fun _ z => z)
      replace q1 := s13 _ _ q1
      replace h2 := A2.mono s13 h2
      replace q2 := s13 _ _ q2
      replace g3 := A2.mono s13 g3
      replace q5 := s13 _ _ q5
      replace r8 := Rep.mono s13 r8
      replace h10 := A2.mono s13 h10
      replace q12 := s13 _ _ q12
      replace sF := sF.trans s13
      obtain ⟨F15, s15, w15, q15⟩ : ∃ F', Same F13 F' ∧ W F' _ ((D6, .lst acc6) :: os) ∧ F' p13 = some (.lst us13) := w13.freezeE (pre := [])
      replace q1 := s15 _ _ q1
      replace h2 := A2.mono s15 h2
      replace q2 := s15 _ _ q2
      replace g3 := A2.mono s15 g3
      replace q5 := s15 _ _ q5
      replace r8 := Rep.mono s15 r8
      replace h10 := A2.mono s15 h10
      replace q12 := s15 _ _ q12
      replace g13 := A2.mono s15 g13
      replace sF := sF.trans s15
      exact hN6 _ (post_ok hm) _ _ _ w15 (s12.trans (s13.trans s15)) (rep_lst q15 g13)
    intro us6 F6 H6 ys6 s6 w6 gg6 hm
    replace q1 := s6 _ _ q1
    replace h2 := A2.mono s6 h2
    replace q2 := s6 _ _ q2
    replace g3 := A2.mono s6 g3
    replace q5 := s6 _ _ q5
    replace sF := sF.trans s6
    obtain ⟨F17, s17, w17, q17⟩ : ∃ F', Same F6 F' ∧ W F' _ (os) ∧ F' D6 = some (.lst us6) := w6.freezeE (pre := [])
    replace q1 := s17 _ _ q1
    replace h2 := A2.mono s17 h2
    replace q2 := s17 _ _ q2
    replace g3 := A2.mono s17 g3
    replace q5 := s17 _ _ q5
    replace gg6 := A2.mono s17 gg6
    replace sF := sF.trans s17
    have h18 : A2 (rep K F17) [] ([] : (List (Nt (Thing × Thing × (List Int) × Unit)))) := .nil
    refine ⟨(by show 0 ≤ sizeLine; decide), fun p19 n19 => ?_⟩
    have w19 : W F17 _ ((p19, .lst []) :: os) := w17.new n19
    refine ⟨_, rfl, _, _, rfl, SqL.of (w19.same _ _ q5), ?_⟩
    refine forS (tw_enum (a := p3) g3) hm (fun (g20 : (List (Nt (Thing × Thing × (List Int) × Unit)))) σ H' => ∃ (F' : Hp) (vs20_0 : List V) (o20_7 : Option V) (o20_8 : Option V) (o20_5 : Option V) (o20_6 : Option V), σ = [some (.ref a1), some (.str x_kind), some (.ref p3), some (.ref D6), some (.ref p19), o20_5, o20_6, o20_7, o20_8, none, none] ∧ Same F17 F' ∧ W F' H' ((p19, .lst vs20_0) :: os) ∧ A2 (rep K F') vs20_0 g20) ⟨_, _, _, _, _, _, rfl, Same.refl _, w19, h18⟩ (fun g σ H' hI => by obtain ⟨F', _, _, _, _, _, _, s, w, _⟩ := hI; exact SqL.of (w.same _ _ (s _ _ q5))) ?_ ?_
    · -- a turn
      intro b20 g20 x20 σ20 H20 H20' N20 P20 hI hy hN20 hm
      obtain ⟨F20, vs20_0, o20_7, o20_8, o20_5, o20_6, rfl, s20, w20, h20_0⟩ := hI
      replace q1 := s20 _ _ q1
      replace h2 := A2.mono s20 h2
      replace q2 := s20 _ _ q2
      replace g3 := A2.mono s20 g3
      replace q5 := s20 _ _ q5
      replace gg6 := A2.mono s20 gg6
      replace q17 := s20 _ _ q17
      replace sF := sF.trans s20
      obtain ⟨T21, u21, rfl, n21, rfl, r21⟩ := hy
      obtain ⟨F21, s21, w21, q21⟩ := w20.frzE (o := .tup [.int b20.1, u21]) n21
      replace r21 := Rep.mono s20 r21
      replace q1 := s21 _ _ q1
      replace h2 := A2.mono s21 h2
      replace q2 := s21 _ _ q2
      replace g3 := A2.mono s21 g3
      replace q5 := s21 _ _ q5
      replace gg6 := A2.mono s21 gg6
      replace q17 := s21 _ _ q17
      replace h20_0 := A2.mono s21 h20_0
      replace sF := sF.trans s21
      replace r21 := Rep.mono s21 r21
      obtain ⟨c24, hm⟩ := pb_rng hm
      refine ⟨_, _, rfl, SqT.of (w21.same _ _ q21), rfl, _, _, rfl, _, _, rfl, rfl, _, rfl, _, _, rfl, rfl, _, rfl, _, _, _, rfl, .inl (SqL.of (w21.same _ _ q5)), g3.length, _, _, rfl, c24, ?_⟩
      refine forS (tw_rng (i := (b20.1 + (1 : Int))) (j := (y3.length : Int))) hm (fun (g23 : (List (Nt (Thing × Thing × (List Int) × Unit)))) σ H' => ∃ (F' : Hp) (vs23_0 : List V) (o23_8 : Option V) (o23_7 : Option V), σ = [some (.ref a1), some (.str x_kind), some (.ref p3), some (.ref D6), some (.ref p19), some (.int b20.1), some u21, o23_7, o23_8, none, none] ∧ Same F21 F' ∧ W F' H' ((p19, .lst vs23_0) :: os) ∧ A2 (rep K F') vs23_0 g23) ⟨_, _, _, _, rfl, Same.refl _, w21, h20_0⟩ (fun _ _ _ _ => trivial) ?_ ?_
      · -- a turn
        intro b23 g23 x23 σ23 H23 H23' N23 P23 hI hy hN23 hm
        obtain ⟨F23, vs23_0, o23_8, o23_7, rfl, s23, w23, h23_0⟩ := hI
        replace q1 := s23 _ _ q1
        replace h2 := A2.mono s23 h2
        replace q2 := s23 _ _ q2
        replace g3 := A2.mono s23 g3
        replace q5 := s23 _ _ q5
        replace gg6 := A2.mono s23 gg6
        replace q17 := s23 _ _ q17
        replace r21 := Rep.mono s23 r21
        replace sF := sF.trans s23
        obtain ⟨rfl, rfl⟩ := hy
        obtain ⟨c25, hm⟩ := pb_rng hm
        refine ⟨_, rfl, _, _, _, _, rfl, rfl, SqT.of (w23.same _ _ q1), rfl, _, rfl, c25.2.2.1, c25.2.2.2, fun D26 nD26 => ?_⟩
        refine lcF (K := K) (tw_rng0 (j := x_web.1)) hm w23 nD26 (fun F' H' acc s w => trivial) ?_ ?_
        · -- one turn
          intro b26 x26 F26 H26 H26' acc26 N26 M26 P26 s26 w26 y26 hN26 hM26 hm
          replace q1 := s26 _ _ q1
          replace h2 := A2.mono s26 h2
          replace q2 := s26 _ _ q2
          replace g3 := A2.mono s26 g3
          replace q5 := s26 _ _ q5
          replace gg6 := A2.mono s26 gg6
          replace q17 := s26 _ _ q17
          replace r21 := Rep.mono s26 r21
          replace h23_0 := A2.mono s26 h23_0
          replace sF := sF.trans s26
          obtain ⟨rfl, rfl⟩ := y26
          obtain ⟨t28, e28, hm⟩ := pb_get hm
          obtain ⟨u28, f28, r28⟩ := A2.at gg6 e28
          obtain ⟨a29, vs29, rfl, q29, h29⟩ := r28
          obtain ⟨t30, e30, hm⟩ := pb_get hm
          obtain ⟨u30, f30, r30⟩ := A2.at h29 e30
          obtain rfl : u30 = V.int t30 := r30
          obtain ⟨t31, e31, hm⟩ := pb_get hm
          obtain ⟨u31, f31, r31⟩ := A2.at gg6 e31
          obtain ⟨a32, vs32, rfl, q32, h32⟩ := r31
          obtain ⟨t33, e33, hm⟩ := pb_get hm
          obtain ⟨u33, f33, r33⟩ := A2.at h32 e33
          obtain rfl : u33 = V.int t33 := r33
          refine ⟨rfl, _, rfl, _, rfl, _, _, _, _, rfl, rfl, SqL.of (w26.same _ _ q17), f28, _, rfl, _, _, _, _, rfl, rfl, SqL.of (w26.same _ _ q29), f30, _, rfl, _, rfl, _, _, _, _, rfl, rfl, SqL.of (w26.same _ _ q17), f31, _, rfl, _, _, _, _, rfl, rfl, SqL.of (w26.same _ _ q32), f33, _, _, rfl, rfl, _, rfl, ?_⟩
          refine post_ite hm (fun k34 hm => ?_) (fun k34 hm => ?_)
          · skip
            exact ⟨_, rfl, hN26 _ (post_ok hm) _ _ _ w26 (Same.refl _) rep_i⟩
          · skip
            exact hM26 (post_ok hm) _ _ w26 (Same.refl _)
        intro us26 F26 H26 ys26 s26 w26 gg26 hm
        replace q1 := s26 _ _ q1
        replace h2 := A2.mono s26 h2
        replace q2 := s26 _ _ q2
        replace g3 := A2.mono s26 g3
        replace q5 := s26 _ _ q5
        replace gg6 := A2.mono s26 gg6
        replace q17 := s26 _ _ q17
        replace r21 := Rep.mono s26 r21
        replace h23_0 := A2.mono s26 h23_0
        replace sF := sF.trans s26
        obtain ⟨F36, s36, w36, q36⟩ : ∃ F', Same F26 F' ∧ W F' _ ((p19, .lst vs23_0) :: os) ∧ F' D26 = some (.lst us26) := w26.freezeE (pre := [])
        replace q1 := s36 _ _ q1
        replace h2 := A2.mono s36 h2
        replace q2 := s36 _ _ q2
        replace g3 := A2.mono s36 g3
        replace q5 := s36 _ _ q5
        replace gg6 := A2.mono s36 gg6
        replace q17 := s36 _ _ q17
        replace r21 := Rep.mono s36 r21
        replace h23_0 := A2.mono s36 h23_0
        replace gg26 := A2.mono s36 gg26
        replace sF := sF.trans s36
        obtain ⟨t37, e37, hm⟩ := pb_get hm
        obtain ⟨u37, f37, r37⟩ := A2.at g3 e37
        refine ⟨_, rfl, .inl ⟨rfl, _, SqL.of (w36.get (pre := []))⟩, _, rfl, _, rfl, _, rfl, _, _, _, _, rfl, rfl, SqL.of (w36.same _ _ q5), f37, _, rfl, (by show 3 ≤ sizeLine; decide), fun p39 n39 => ?_⟩
        obtain ⟨F39, s39, w39, q39⟩ := w36.frzE (o := .tup [u21, u37, (.ref D26)]) n39
        replace q1 := s39 _ _ q1
        replace h2 := A2.mono s39 h2
        replace q2 := s39 _ _ q2
        replace g3 := A2.mono s39 g3
        replace q5 := s39 _ _ q5
        replace gg6 := A2.mono s39 gg6
        replace q17 := s39 _ _ q17
        replace gg26 := A2.mono s39 gg26
        replace q36 := s39 _ _ q36
        replace r21 := Rep.mono s39 r21
        replace h23_0 := A2.mono s39 h23_0
        replace r37 := Rep.mono s39 r37
        replace sF := sF.trans s39
        obtain ⟨l40, z40, e40, hm⟩ := pn_app hm
        refine ⟨_, _, _, rfl, rfl, (w39.get (pre := [])), (A2.lt h23_0 z40), ?_⟩
        have h40 : A2 (rep K F39) (vs23_0 ++ [(V.ref p39)]) l40 := e40 ▸ A2.snoc h23_0 (rep_nt3 q39 r21 r37 (rep_lst q36 gg26))
        have w41 : W F39 _ ((p19, .lst (vs23_0 ++ [(V.ref p39)])) :: os) := w39.set (pre := [])
        exact hN23 _ (post_ok hm) _ _ ⟨_, _, _, _, rfl, (s23.trans (s26.trans (s36.trans s39))), w41, h40⟩
      intro g23 σ23 H23 hI hm
      obtain ⟨F23, vs23_0, o23_8, o23_7, rfl, s23, w23, h23_0⟩ := hI
      replace q1 := s23 _ _ q1
      replace h2 := A2.mono s23 h2
      replace q2 := s23 _ _ q2
      replace g3 := A2.mono s23 g3
      replace q5 := s23 _ _ q5
      replace gg6 := A2.mono s23 gg6
      replace q17 := s23 _ _ q17
      replace r21 := Rep.mono s23 r21
      replace sF := sF.trans s23
      exact hN20 _ (post_ok hm) _ _ ⟨_, _, _, _, _, _, rfl, (s20.trans (s21.trans s23)), w23, h23_0⟩
    intro g20 σ20 H20 hI hm
    obtain ⟨F20, vs20_0, o20_7, o20_8, o20_5, o20_6, rfl, s20, w20, h20_0⟩ := hI
    replace q1 := s20 _ _ q1
    replace h2 := A2.mono s20 h2
    replace q2 := s20 _ _ q2
    replace g3 := A2.mono s20 g3
    replace q5 := s20 _ _ q5
    replace gg6 := A2.mono s20 gg6
    replace q17 := s20 _ _ q17
    replace sF := sF.trans s20
    obtain ⟨F42, s42, w42, q42⟩ : ∃ F', Same F20 F' ∧ W F' _ (os) ∧ F' p19 = some (.lst vs20_0) := w20.freezeE (pre := [])
    replace q1 := s42 _ _ q1
    replace h2 := A2.mono s42 h2
    replace q2 := s42 _ _ q2
    replace g3 := A2.mono s42 g3
    replace q5 := s42 _ _ q5
    replace gg6 := A2.mono s42 gg6
    replace q17 := s42 _ _ q17
    replace h20_0 := A2.mono s42 h20_0
    replace sF := sF.trans s42
    exact ⟨_, rfl, (post_ok hm) _ _ _ w42 sF (rep_lst q42 h20_0)⟩
def sp_least_parted (K : Fg) : Sp := fun vs H Q E => ∃ (F : Hp) (os : List (Addr × HO)) (v_pairs : V) (x_pairs : (List (Nt (Thing × Thing × (List Int) × Unit)))), vs = [v_pairs] ∧ W F H (os) ∧ rep K F v_pairs x_pairs ∧ Post (least_parted x_pairs) (Ret K F os Q) noX
theorem sc_least_parted : FnScope ["pairs", "unlike", "pair", "found", "parters", "lesser", "one", "place"] ["pairs"] (defScope s_least_parted) := ⟨rfl, rfl, rfl, by decide +kernel, rfl, by decide +kernel, by decide +kernel⟩
theorem ok_least_parted (T : Tx K mg A FD) : FnOk P w K mg base CX0 1 (A 22) (FD 22) ["pairs"] (sp_least_parted K) := by
  refine T.d22.fn.ok sc_least_parted (fun vs H Q E h => ?_) (fun cdv Ar outer s H vs Q E hr h => ?_)
  · obtain ⟨F, os, v_pairs, x_pairs, rfl, _⟩ := h
    rfl
  · obtain ⟨F0, os, v_pairs, x_pairs, rfl, w0, r_pairs, hm⟩ := h
    have sF : Same F0 F0 := Same.refl _
    obtain ⟨a1, vs1, rfl, q1, h1⟩ := r_pairs
    refine ⟨_, (pss_cons (ps_set (i := 1) sc_least_parted.nd rfl (Or.inl rfl) pe_dnewT) (pss_cons (ps_for PassesOwn.never rfl (pi_listK (K := K) rfl (pv 0)) (pg_name (i := 2) sc_least_parted.nd rfl (Or.inl rfl)) (pss_one (ps_expr (pe_dsetdU (Room.units1 hr) (pv 1) (pe_callTy (call_tuple_ofK (K := K) rfl) (by rfl) T.n_tuple (by decide +kernel) (pa_cons (pe_ix (ix_tupK (K := K) rfl) (pv 2) pe_int (fun _ _ => rfl)) pa_nil)) (pv 2) ⟨rfl, rfl, rfl, rfl⟩)))) (pss_cons (ps_set (i := 3) sc_least_parted.nd rfl (Or.inl rfl) (pe_lst pa_nil)) (pss_cons (ps_for PassesOwn.never rfl (pi_itemsT (pv 1)) (pg_k (K := K) (t := fun K => gTup K 2 _) rfl (pg_tup (n := 2) rfl (pgs_cons (pg_name (i := 4) sc_least_parted.nd rfl (Or.inr rfl)) (pgs_cons (pg_name (i := 2) sc_least_parted.nd rfl (Or.inl rfl)) pgs_nil)))) (pss_cons (ps_setLc (i := 5) (own := [("one", 6)]) (g := gName 6) (by rfl) sc_least_parted.nd rfl rfl (sw_true rfl rfl rfl (by decide +kernel)) (pi_keys (pv 1)) (blkOk_by (own := [("one", 6)]) (N := ["pairs", "unlike", "pair", "found", "parters", "lesser", "one", "place"]) (sc := defScope s_least_parted) (by decide +kernel)) (fun _ _ _ _ _ => (pg_name (i := 6) sc_least_parted.nd rfl (Or.inl rfl))) (fun _ _ _ _ _ => (pts_one (PW.pt (pw_and (pt_cmp (pc_lt (pe_callB (call_lenN (K := K) rfl) (by rfl) T.n_len (by decide +kernel) (pa_cons (pv 6) pa_nil)) (pe_callB (call_lenN (K := K) rfl) (by rfl) T.n_len (by decide +kernel) (pa_cons (pv 4) pa_nil)))) (pw_and1 (pt_val (pe_callB (cr_allK (K := K) rfl rfl) (by rfl) T.n_all (by decide +kernel) (pa_cons (pe_lc (own := [("place", 7)]) (g := gName 7) (by rfl) sc_least_parted.nd (pi_tupK (K := K) rfl (pv 6)) (blkOk_by (own := [("place", 7)]) (N := ["pairs", "unlike", "pair", "found", "parters", "lesser", "one", "place"]) (sc := _) (by kernel_rfl)) (fun _ _ _ _ _ => (pg_name (i := 7) sc_least_parted.nd rfl (Or.inl rfl))) (fun _ _ _ _ _ => pts_nil) (fun _ _ _ _ _ => (pe_cmpR (op_inT (K := K) rfl Int (by decide) (Room.units65 hr)) (pv 7) (pv 4) (by rfl)))) pa_nil)))))))) (fun _ _ _ _ _ => (pv 6))) (pss_one (ps_if (pt_cmpR (op_eqDt (K := K) rfl (List (Tup Int)) (by decide) hr.units) (pv 5) (pe_lst pa_nil) (nomark _)) (pss_one (ps_expr (pe_bm PySem.F.plainAttrs_list PySem.F.slot_list_append PySem.F.type_list_append mt_append (pv 3) (pa_cons (pv 2) pa_nil)))) pss_nil)))) (pss_one (ps_ret (pv 3))))))), ?_⟩
    refine fun p2 n2 => ?_
    have w2 : W F0 _ ((p2, .dT []) :: os) := w0.new n2
    have h2 : AD kT (rep K F0) [] ([] : (List ((Tup Int) × (Nt (Thing × Thing × (List Int) × Unit))))) := .nil
    refine ⟨_, rfl, _, rfl, ⟨_, SqL.of (w2.same _ _ q1)⟩, ?_⟩
    refine forS (tw_list (a := a1) h1) hm (fun (g3 : (List ((Tup Int) × (Nt (Thing × Thing × (List Int) × Unit))))) σ H' => ∃ (F' : Hp) (vs3_0 : List (List Key × V)) (o3_2 : Option V), σ = [some (.ref a1), some (.ref p2), o3_2, none, none, none, none, none] ∧ Same F0 F' ∧ W F' H' ((p2, .dT vs3_0) :: os) ∧ AD kT (rep K F') vs3_0 g3) ⟨_, _, _, rfl, Same.refl _, w2, h2⟩ (fun g σ H' hI => by obtain ⟨F', _, _, _, s, w, _⟩ := hI; exact SqL.of (w.same _ _ (s _ _ q1))) ?_ ?_
    · -- a turn
      intro b3 g3 x3 σ3 H3 H3' N3 P3 hI hy hN3 hm
      obtain ⟨F3, vs3_0, o3_2, rfl, s3, w3, h3_0⟩ := hI
      replace h1 := A2.mono s3 h1
      replace q1 := s3 _ _ q1
      replace sF := sF.trans s3
      obtain ⟨rfl, r4⟩ := hy
      replace r4 := Rep.mono s3 r4
      obtain ⟨a5, u5_0, u5_1, u5_2, rfl, q5, r5_0, r5_1, r5_2⟩ := nt3 r4
      replace r5_0 : rep K F3 u5_0 (b3.v.1 : Thing) := r5_0
      replace r5_1 : rep K F3 u5_1 (b3.v.2.1 : Thing) := r5_1
      replace r5_2 : rep K F3 u5_2 (b3.v.2.2.1 : (List Int)) := r5_2
      obtain ⟨a8, vs8, rfl, q8, h8⟩ := r5_2
      have h9 : A2 (rep K F3) vs8 b3.v.2.2.1 := h8
      refine ⟨_, rfl, _, rfl, isD_t (w3.get (pre := [])), _, rfl, _, _, _, _, rfl, rfl, SqT.of (w3.same _ _ q5), rfl, _, _, rfl, .inl ⟨SqL.of (w3.same _ _ q8), fun p10 n10 => ?_⟩⟩
      obtain ⟨F10, s10, w10, q10⟩ := w3.frzE (o := .tup vs8) n10
      replace h1 := A2.mono s10 h1
      replace q1 := s10 _ _ q1
      replace q5 := s10 _ _ q5
      replace r5_0 := Rep.mono s10 r5_0
      replace r5_1 := Rep.mono s10 r5_1
      replace h8 := A2.mono s10 h8
      replace q8 := s10 _ _ q8
      replace h3_0 := AD.imp (fun _ _ => Rep.mono s10) h3_0
      replace h9 := A2.mono s10 h9
      replace sF := sF.trans s10
      obtain ⟨l11, z11, e11, hm⟩ := pn_msetd hm
      refine ⟨_, rfl, _, _, _, (w10.get (pre := [])), rfl, key_tup (t := (Tup.mk b3.v.2.2.1)) w10.same q10 h9, (by rw [AD.length h3_0]; exact z11), fun _ => ?_⟩
      have h11 : AD kT (rep K F10) (setdK vs3_0 (kT (Tup.mk b3.v.2.2.1)) (.ref a5)) l11 := e11 ▸ AD.setd h3_0 (rep_nt3 q5 r5_0 r5_1 (rep_lst q8 h8))
      have w12 : W F10 _ ((p2, .dT (setdK vs3_0 (kT (Tup.mk b3.v.2.2.1)) (.ref a5))) :: os) := w10.set (pre := [])
      exact hN3 _ (post_ok hm) _ _ ⟨_, _, _, rfl, (s3.trans s10), w12, h11⟩
    intro g3 σ3 H3 hI hm
    obtain ⟨F3, vs3_0, o3_2, rfl, s3, w3, h3_0⟩ := hI
    replace h1 := A2.mono s3 h1
    replace q1 := s3 _ _ q1
    replace sF := sF.trans s3
    have h13 : A2 (rep K F3) [] ([] : (List (Nt (Thing × Thing × (List Int) × Unit)))) := .nil
    refine ⟨(by show 0 ≤ sizeLine; decide), fun p14 n14 => ?_⟩
    have w14 : W F3 _ ((p14, .lst []) :: (p2, .dT vs3_0) :: os) := w3.new n14
    refine ⟨_, rfl, _, _, rfl, (w14.get (pre := [_])), fun od16 => ?_⟩
    have w16 : W F3 _ ((p14, .lst []) :: (p2, (.frz od16 (.dT vs3_0))) :: os) := w14.set (pre := [_])
    refine forS (tw_itemsT (d := p2) (o := od16) h3_0) hm (fun (g15 : (List (Nt (Thing × Thing × (List Int) × Unit)))) σ H' => ∃ (F' : Hp) (vs15_0 : List V) (o15_5 : Option V) (o15_4 : Option V) (o15_2 : Option V), σ = [some (.ref a1), some (.ref p2), o15_2, some (.ref p14), o15_4, o15_5, none, none] ∧ Same F3 F' ∧ W F' H' ((p14, .lst vs15_0) :: (p2, (.frz od16 (.dT vs3_0))) :: os) ∧ A2 (rep K F') vs15_0 g15) ⟨_, _, _, _, _, rfl, Same.refl _, w16, h13⟩ (fun g σ H' hI => by obtain ⟨F', _, _, _, _, _, s, w, _⟩ := hI; exact w.get (pre := [_])) ?_ ?_
    · -- a turn
      intro b15 g15 x15 σ15 H15 H15' N15 P15 hI hy hN15 hm
      obtain ⟨F15, vs15_0, o15_5, o15_4, o15_2, rfl, s15, w15, h15_0⟩ := hI
      replace h1 := A2.mono s15 h1
      replace q1 := s15 _ _ q1
      replace h3_0 := AD.imp (fun _ _ => Rep.mono s15) h3_0
      replace sF := sF.trans s15
      obtain ⟨T17, k17, u17, rfl, n17, hk17, rfl, r17⟩ := hy
      replace r17 := Rep.mono s15 r17
      obtain ⟨F18, s18, w18, f18⟩ := w15.tups
      have q18 := f18 _ _ hk17
      replace r17 := Rep.mono s18 r17
      replace h1 := A2.mono s18 h1
      replace q1 := s18 _ _ q1
      replace h3_0 := AD.imp (fun _ _ => Rep.mono s18) h3_0
      replace h15_0 := A2.mono s18 h15_0
      replace sF := sF.trans s18
      have h18 : A2 (rep K F18) (b15.1.l.map V.int) b15.1.l := A2.of_ints
      obtain ⟨F19, s19, w19, q19⟩ := w18.frzE (o := .tup [.ref k17, u17]) n17
      replace r17 := Rep.mono s19 r17
      replace h1 := A2.mono s19 h1
      replace q1 := s19 _ _ q1
      replace h3_0 := AD.imp (fun _ _ => Rep.mono s19) h3_0
      replace h15_0 := A2.mono s19 h15_0
      replace q18 := s19 _ _ q18
      replace h18 := A2.mono s19 h18
      replace sF := sF.trans s19
      obtain ⟨a20, u20_0, u20_1, u20_2, rfl, q20, r20_0, r20_1, r20_2⟩ := nt3 r17
      replace r20_0 : rep K F19 u20_0 (b15.2.v.1 : Thing) := r20_0
      replace r20_1 : rep K F19 u20_1 (b15.2.v.2.1 : Thing) := r20_1
      replace r20_2 : rep K F19 u20_2 (b15.2.v.2.2.1 : (List Int)) := r20_2
      obtain ⟨a23, vs23, rfl, q23, h23⟩ := r20_2
      refine ⟨_, _, rfl, SqT.of (w19.same _ _ q19), rfl, _, _, rfl, _, _, rfl, rfl, _, rfl, _, _, rfl, .inr ⟨_, (w19.get (pre := [_])), ?_⟩⟩
      refine fun D25 nD25 => ?_
      refine lcF (K := K) (tw_keysT (d := p2) (o := od16) h3_0) hm w19 nD25 (fun F' H' acc s w => w.get (pre := [_, _])) ?_ ?_
      · -- one turn
        intro b25 x25 F25 H25 H25' acc25 N25 M25 P25 s25 w25 y25 hN25 hM25 hm
        replace h1 := A2.mono s25 h1
        replace q1 := s25 _ _ q1
        replace q20 := s25 _ _ q20
        replace r20_0 := Rep.mono s25 r20_0
        replace r20_1 := Rep.mono s25 r20_1
        replace h23 := A2.mono s25 h23
        replace q23 := s25 _ _ q23
        replace h18 := A2.mono s25 h18
        replace q18 := s25 _ _ q18
        replace h15_0 := A2.mono s25 h15_0
        replace h3_0 := AD.imp (fun _ _ => Rep.mono s25) h3_0
        replace sF := sF.trans s25
        obtain ⟨rfl, k27, rfl, hk27⟩ := y25
        obtain ⟨F28, s28, w28, f28⟩ := w25.tups
        have q28 := f28 _ _ hk27
        replace h1 := A2.mono s28 h1
        replace q1 := s28 _ _ q1
        replace q20 := s28 _ _ q20
        replace r20_0 := Rep.mono s28 r20_0
        replace r20_1 := Rep.mono s28 r20_1
        replace h23 := A2.mono s28 h23
        replace q23 := s28 _ _ q23
        replace h18 := A2.mono s28 h18
        replace q18 := s28 _ _ q18
        replace h15_0 := A2.mono s28 h15_0
        replace h3_0 := AD.imp (fun _ _ => Rep.mono s28) h3_0
        replace sF := sF.trans s28
        have h28 : A2 (rep K F28) (b25.l.map V.int) b25.l := A2.of_ints
        refine ⟨rfl, ?_⟩
        refine joinT hm (fun (j29 : Bool) c H' => c = j29 ∧ ∃ (F' : Hp), Same F28 F' ∧ W F' H' ((D25, .lst acc25) :: (p14, .lst vs15_0) :: (p2, (.frz od16 (.dT vs3_0))) :: os)) ?_ ?_
        · intro Q29 P29 q29 hm
          refine ⟨_, rfl, _, _, _, rfl, .inr (SqT.of (w28.same _ _ q28)), h28.length, _, rfl, _, _, _, rfl, .inr (SqT.of (w28.same _ _ q18)), h18.length, _, _, rfl, rfl, _, rfl, ?_⟩
          refine post_ite hm (fun k30 hm => ?_) (fun k30 hm => ?_)
          · skip
            refine ⟨_, rfl, _, rfl, ⟨_, SqT.of (w28.same _ _ q28)⟩, fun D31 nD31 => ?_⟩
            refine lcM (K := K) (tw_tup (a := k27) h28) hm w28 nD31 (fun F' H' acc s w => SqT.of (w.same _ _ (s _ _ q28))) ?_ ?_
            · -- one turn
              intro b31 x31 F31 H31 H31' acc31 N31 P31 s31 w31 y31 hN31 hm
              replace h1 := A2.mono s31 h1
              replace q1 := s31 _ _ q1
              replace q20 := s31 _ _ q20
              replace r20_0 := Rep.mono s31 r20_0
              replace r20_1 := Rep.mono s31 r20_1
              replace h23 := A2.mono s31 h23
              replace q23 := s31 _ _ q23
              replace h18 := A2.mono s31 h18
              replace q18 := s31 _ _ q18
              replace h15_0 := A2.mono s31 h15_0
              replace h3_0 := AD.imp (fun _ _ => Rep.mono s31) h3_0
              replace q28 := s31 _ _ q28
              replace h28 := A2.mono s31 h28
              replace sF := sF.trans s31
              obtain ⟨rfl, r33⟩ := y31
              obtain rfl : x31 = V.int b31 := r33
              exact ⟨rfl, _, rfl, _, rfl, (b31 : Int), _, rep_i, (Rep.mono w31.same (rep_tup q18 h18)), hN31 _ (post_ok hm) _ _ _ w31 (Same.refl _) rep_b⟩
            intro us31 F31 H31 ys31 s31 w31 gg31 hm
            replace h1 := A2.mono s31 h1
            replace q1 := s31 _ _ q1
            replace q20 := s31 _ _ q20
            replace r20_0 := Rep.mono s31 r20_0
            replace r20_1 := Rep.mono s31 r20_1
            replace h23 := A2.mono s31 h23
            replace q23 := s31 _ _ q23
            replace h18 := A2.mono s31 h18
            replace q18 := s31 _ _ q18
            replace h15_0 := A2.mono s31 h15_0
            replace h3_0 := AD.imp (fun _ _ => Rep.mono s31) h3_0
            replace q28 := s31 _ _ q28
            replace h28 := A2.mono s31 h28
            replace sF := sF.trans s31
            have w36 : W F31 _ ((D25, .lst acc25) :: (p14, .lst vs15_0) :: (p2, (.frz od16 (.dT vs3_0))) :: os) := w31.drop (pre := [])
            exact ⟨_, _, rfl, bools_q (SqL.of (w31.get (pre := []))) gg31, _, rfl, q29 _ (post_ok hm) _ _ ⟨rfl, _, s31, w36⟩⟩
          · skip
            exact q29 _ (post_ok hm) _ _ ⟨rfl, _, Same.refl _, w28⟩
        intro j29 c29 H29 hc29 hm
        obtain ⟨rfl, F29, s29, w29⟩ := hc29
        replace h1 := A2.mono s29 h1
        replace q1 := s29 _ _ q1
        replace q20 := s29 _ _ q20
        replace r20_0 := Rep.mono s29 r20_0
        replace r20_1 := Rep.mono s29 r20_1
        replace h23 := A2.mono s29 h23
        replace q23 := s29 _ _ q23
        replace h18 := A2.mono s29 h18
        replace q18 := s29 _ _ q18
        replace h15_0 := A2.mono s29 h15_0
        replace h3_0 := AD.imp (fun _ _ => Rep.mono s29) h3_0
        replace q28 := s29 _ _ q28
        replace h28 := A2.mono s29 h28
        replace sF := sF.trans s29
        refine post_ite hm (fun k38 hm => ?_) (fun k38 hm => ?_)
        · skip
          exact ⟨_, rfl, hN25 _ (post_ok hm) _ _ _ w29 (s28.trans s29) (rep_tup q28 h28)⟩
        · skip
          exact hM25 (post_ok hm) _ _ w29 (s28.trans s29)
      intro us25 F25 H25 ys25 s25 w25 gg25 hm
      replace h1 := A2.mono s25 h1
      replace q1 := s25 _ _ q1
      replace q20 := s25 _ _ q20
      replace r20_0 := Rep.mono s25 r20_0
      replace r20_1 := Rep.mono s25 r20_1
      replace h23 := A2.mono s25 h23
      replace q23 := s25 _ _ q23
      replace h18 := A2.mono s25 h18
      replace q18 := s25 _ _ q18
      replace h15_0 := A2.mono s25 h15_0
      replace h3_0 := AD.imp (fun _ _ => Rep.mono s25) h3_0
      replace sF := sF.trans s25
      obtain ⟨F40, s40, w40, q40⟩ : ∃ F', Same F25 F' ∧ W F' _ ((p14, .lst vs15_0) :: (p2, (.frz od16 (.dT vs3_0))) :: os) ∧ F' D25 = some (.lst us25) := w25.freezeE (pre := [])
      replace h1 := A2.mono s40 h1
      replace q1 := s40 _ _ q1
      replace q20 := s40 _ _ q20
      replace r20_0 := Rep.mono s40 r20_0
      replace r20_1 := Rep.mono s40 r20_1
      replace h23 := A2.mono s40 h23
      replace q23 := s40 _ _ q23
      replace h18 := A2.mono s40 h18
      replace q18 := s40 _ _ q18
      replace h15_0 := A2.mono s40 h15_0
      replace h3_0 := AD.imp (fun _ _ => Rep.mono s40) h3_0
      replace gg25 := A2.mono s40 gg25
      replace sF := sF.trans s40
      have h41 : A2 (rep K F40) [] ([] : (List (Tup Int))) := .nil
      refine ⟨_, rfl, (by show 0 ≤ sizeLine; decide), fun p42 n42 => ?_⟩
      have w42 : W F40 _ ((p42, .lst []) :: (p14, .lst vs15_0) :: (p2, (.frz od16 (.dT vs3_0))) :: os) := w40.new n42
      refine ⟨(ys25 : (List (Tup Int))), (([] : (List (Tup Int))) : (List (Tup Int))), (Rep.mono w42.same (rep_lst q40 gg25)), (rep_own (pre := []) w42 h41), _, rfl, ?_⟩
      have w43 : W F40 _ ((p14, .lst vs15_0) :: (p2, (.frz od16 (.dT vs3_0))) :: os) := w42.drop (pre := [])
      refine post_ite hm (fun k44 hm => ?_) (fun k44 hm => ?_)
      · skip
        obtain ⟨l45, z45, e45, hm⟩ := pn_app hm
        refine ⟨_, rfl, .inl ⟨rfl, _, SqL.of (w43.get (pre := []))⟩, _, rfl, _, _, _, rfl, rfl, (w43.get (pre := [])), (A2.lt h15_0 z45), ?_⟩
        have h45 : A2 (rep K F40) (vs15_0 ++ [(V.ref a20)]) l45 := e45 ▸ A2.snoc h15_0 (rep_nt3 q20 r20_0 r20_1 (rep_lst q23 h23))
        have w46 : W F40 _ ((p14, .lst (vs15_0 ++ [(V.ref a20)])) :: (p2, (.frz od16 (.dT vs3_0))) :: os) := w43.set (pre := [])
        exact hN15 _ (post_ok hm) _ _ ⟨_, _, _, _, _, rfl, (s15.trans (s18.trans (s19.trans (s25.trans s40)))), w46, h45⟩
      · skip
        exact hN15 _ (post_ok hm) _ _ ⟨_, _, _, _, _, rfl, (s15.trans (s18.trans (s19.trans (s25.trans s40)))), w43, h15_0⟩
    intro g15 σ15 H15 hI hm
    obtain ⟨F15, vs15_0, o15_5, o15_4, o15_2, rfl, s15, w15, h15_0⟩ := hI
    replace h1 := A2.mono s15 h1
    replace q1 := s15 _ _ q1
    replace h3_0 := AD.imp (fun _ _ => Rep.mono s15) h3_0
    replace sF := sF.trans s15
    obtain ⟨F47, s47, w47, q47⟩ : ∃ F', Same F15 F' ∧ W F' _ ((p2, (.frz od16 (.dT vs3_0))) :: os) ∧ F' p14 = some (.lst vs15_0) := w15.freezeE (pre := [])
    replace h1 := A2.mono s47 h1
    replace q1 := s47 _ _ q1
    replace h15_0 := A2.mono s47 h15_0
    replace h3_0 := AD.imp (fun _ _ => Rep.mono s47) h3_0
    replace sF := sF.trans s47
    have w48 : W F47 _ (os) := w47.drop (pre := [])
    exact ⟨_, rfl, (post_ok hm) _ _ _ w48 sF (rep_lst q47 h15_0)⟩
def sp_common_part (K : Fg) : Sp := fun vs H Q E => ∃ (F : Hp) (os : List (Addr × HO)) (x_one : Int) (x_other : Int), vs = [.int x_one, .int x_other] ∧ W F H (os) ∧ Post (common_part x_one x_other) (Ret K F os Q) noX
theorem sc_common_part : FnScope ["one", "other"] ["one", "other"] (defScope s_common_part) := ⟨rfl, rfl, rfl, by decide +kernel, rfl, by decide +kernel, by decide +kernel⟩
theorem ok_common_part (T : Tx K mg A FD) : FnOk P w K mg base CX0 1 (A 23) (FD 23) ["one", "other"] (sp_common_part K) := by
  refine T.d23.fn.ok sc_common_part (fun vs H Q E h => ?_) (fun cdv Ar outer s H vs Q E hr h => ?_)
  · obtain ⟨F, os, x_one, x_other, rfl, _⟩ := h
    rfl
  · obtain ⟨F0, os, x_one, x_other, rfl, w0, hm⟩ := h
    have sF : Same F0 F0 := Same.refl _
    refine ⟨_, (pss_cons (ps_while PassesOwn.never (pt_cmp (pc_neI (pv 1) pe_int)) (pss_one (ps_par (i := 0) (j := 1) rfl sc_common_part.nd rfl rfl (by decide) rfl rfl (pa_cons (pv 1) (pa_cons (pe_op op_mod (pv 0) (pv 1)) pa_nil)) rfl))) (pss_one (ps_ret (pv 0)))), ?_⟩
    try dsimp only
    refine stepSeq (whileS hm (fun (g1 : Int × Int) σ H' => ∃ (F' : Hp), σ = [some (.int g1.1), some (.int g1.2)] ∧ Same F0 F' ∧ W F' H' (os)) ⟨_, rfl, Same.refl _, w0⟩ ?_ ?_ ?_)
    · intro g1 σ1 H1 N1 P1 hI hN1 hm
      obtain ⟨F1, rfl, s1, w1⟩ := hI
      replace sF := sF.trans s1
      exact ⟨_, rfl, _, _, rfl, rfl, _, rfl, hN1 _ (post_ok hm) _ ⟨_, rfl, s1, w1⟩⟩
    · intro g1 σ1 H1 N1 P1 hI hN1 hm
      obtain ⟨F1, rfl, s1, w1⟩ := hI
      replace sF := sF.trans s1
      obtain ⟨c2, hm⟩ := pb_mod hm
      exact ⟨_, rfl, _, rfl, _, rfl, _, _, rfl, rfl, c2, _, _, rfl, hN1 _ (post_ok hm) _ _ ⟨_, rfl, s1, w1⟩⟩
    intro g1 σ1 H1 hI hm
    obtain ⟨F1, rfl, s1, w1⟩ := hI
    replace sF := sF.trans s1
    exact ⟨_, rfl, (post_ok hm) _ _ _ w1 sF rep_i⟩
def sp_Board_init (K : Fg) : Sp := fun vs H Q E => ∃ (F : Hp) (os : List (Addr × HO)) (a_self : Addr) (dx_self : Addr) (C_self : Addr) (x_many : Int) (v_pairs : V) (x_pairs : (List (Nt (Thing × Thing × (List Int) × Unit)))), vs = [.ref a_self, .int x_many, v_pairs] ∧ W F H ((a_self, .ins C_self dx_self []) :: (dx_self, .own a_self) :: os) ∧ Nm K "Board" C_self ∧ rep K F v_pairs x_pairs ∧ Post (Board_init x_many x_pairs) (fun (y : BoardF) => ∀ (p_held : Addr) (us_held : List V) (p_lines : Addr) (us_lines : List V) (F' H' : Hp), W F' H' ((a_self, .ins C_self dx_self (mkfs [("bottom" : Str), ("priced" : Str), ("held" : Str), ("lines" : Str)] [.int y.1, .int y.2.1, .ref p_held, .ref p_lines])) :: (dx_self, .own a_self) :: (p_held, .lst us_held) :: (p_lines, .lst us_lines) :: os) → Same F F' → A2 (rep K F') us_held y.2.2.1 → A2 (rep K F') us_lines y.2.2.2.1 → Q .non H') noX
theorem sc_Board_init : FnScope ["self", "many", "pairs", "place", "line", "one", "other", "parters"] ["self", "many", "pairs"] (defScope s_Board_init) := ⟨rfl, rfl, rfl, by decide +kernel, rfl, by decide +kernel, by decide +kernel⟩
theorem ok_Board_init (T : Tx K mg A FD) : FnOk P w K mg base CX0 1 (A 25000) (FD 25000) ["self", "many", "pairs"] (sp_Board_init K) := by
  refine T.d25000.fn.ok sc_Board_init (fun vs H Q E h => ?_) (fun cdv Ar outer s H vs Q E hr h => ?_)
  · obtain ⟨F, os, a_self, dx_self, C_self, x_many, v_pairs, x_pairs, rfl, _⟩ := h
    rfl
  · obtain ⟨F0, os, a_self, dx_self, C_self, x_many, v_pairs, x_pairs, rfl, w0, n_self, r_pairs, hm⟩ := h
    have sF : Same F0 F0 := Same.refl _
    obtain rfl := n_self.uniq T.nm_Board
    obtain ⟨a3, vs3, rfl, q3, h3⟩ := r_pairs
    refine ⟨_, (pss_cons (ps_fld (pv 0) pe_int (by rfl)) (pss_cons (ps_fld (pv 0) (pe_callB (call_lenN (K := K) rfl) (by rfl) T.n_len (by decide +kernel) (pa_cons (pv 2) pa_nil)) (by rfl)) (pss_cons (ps_fld (pv 0) (pe_lc (own := [("place", 3)]) (g := gName 3) (by rfl) sc_Board_init.nd (pi_range1 (by rfl) T.n_range (pa_cons (pv 1) pa_nil)) (blkOk_by (own := [("place", 3)]) (N := ["self", "many", "pairs", "place", "line", "one", "other", "parters"]) (sc := defScope s_Board_init) (by decide +kernel)) (fun _ _ _ _ _ => (pg_name (i := 3) sc_Board_init.nd rfl (Or.inl rfl))) (fun _ _ _ _ _ => pts_nil) (fun _ _ _ _ _ => (pe_op op_add (pe_callB (call_lenN (K := K) rfl) (by rfl) T.n_len (by decide +kernel) (pa_cons (pv 2) pa_nil)) (pv 3)))) (by rfl)) (pss_cons (ps_fld (pv 0) (pe_lst pa_nil) (by rfl)) (pss_cons (ps_for PassesOwn.never rfl (pi_range1 (by rfl) T.n_range (pa_cons (pv 1) pa_nil)) (pg_name (i := 3) sc_Board_init.nd rfl (Or.inr rfl)) (pss_cons (ps_setLc (i := 4) (own := [("one", 5), ("other", 6), ("parters", 7)]) (g := _) (by rfl) sc_Board_init.nd rfl rfl (sw_true rfl rfl rfl (by decide +kernel)) (pi_listK (K := K) rfl (pv 2)) (blkOk_by (own := [("one", 5), ("other", 6), ("parters", 7)]) (N := ["self", "many", "pairs", "place", "line", "one", "other", "parters"]) (sc := defScope s_Board_init) (by decide +kernel)) (fun _ _ _ _ _ => (pg_k (K := K) (t := fun K => gTup K 3 _) rfl (pg_tup (n := 3) rfl (pgs_cons (pg_name (i := 5) sc_Board_init.nd rfl (Or.inl rfl)) (pgs_cons (pg_name (i := 6) sc_Board_init.nd rfl (Or.inl rfl)) (pgs_cons (pg_name (i := 7) sc_Board_init.nd rfl (Or.inl rfl)) pgs_nil)))))) (fun _ _ _ _ _ => pts_nil) (fun _ _ _ _ _ => (pe_callTy call_intB (by rfl) T.n_int (by decide +kernel) (pa_cons (pe_cmpR (op_inL (K := K) rfl Int (by decide) (Room.units65 hr)) (pv 3) (pv 7) (by rfl)) pa_nil)))) (pss_one (ps_expr (pe_bm PySem.F.plainAttrs_list PySem.F.slot_list_append PySem.F.type_list_append mt_append (pe_fld (pv 0) (by rfl)) (pa_cons (pe_op op_cat (pe_op op_cat (pv 4) (pe_lc (own := [("other", 6)]) (g := gName 6) (by rfl) sc_Board_init.nd (pi_range1 (by rfl) T.n_range (pa_cons (pv 1) pa_nil)) (blkOk_by (own := [("other", 6)]) (N := ["self", "many", "pairs", "place", "line", "one", "other", "parters"]) (sc := defScope s_Board_init) (by decide +kernel)) (fun _ _ _ _ _ => (pg_name (i := 6) sc_Board_init.nd rfl (Or.inl rfl))) (fun _ _ _ _ _ => pts_nil) (fun _ _ _ _ _ => (pe_callTy call_intB (by rfl) T.n_int (by decide +kernel) (pa_cons (pe_cmp (pc_eqI (pv 3) (pv 6))) pa_nil))))) (pe_lst (pa_cons pe_int pa_nil))) pa_nil)))))) (pss_one (ps_expr (pe_bm PySem.F.plainAttrs_list PySem.F.slot_list_append PySem.F.type_list_append mt_append (pe_fld (pv 0) (by rfl)) (pa_cons (pe_op op_cat (pe_op op_rep (pe_lst (pa_cons (pe_un un_neg pe_int) pa_nil)) (pe_callB (call_lenN (K := K) rfl) (by rfl) T.n_len (by decide +kernel) (pa_cons (pv 2) pa_nil))) (pe_op op_rep (pe_lst (pa_cons pe_int pa_nil)) (pe_op op_add (pv 1) pe_int))) pa_nil))))))))), ?_⟩
    refine ⟨_, rfl, _, _, _, _, rfl, (w0.get (pre := [])), T.cl_Board, T.na_Board_bottom, (Nat.lt_of_le_of_lt (Nat.le_refl _) (by decide : 0 < 1000)), ?_⟩
    have w4 : W F0 _ ((a_self, (.ins (A 24) dx_self (putF ("bottom" : Str) (.int 1) []))) :: (dx_self, (.own a_self)) :: os) := w0.set (pre := [])
    refine ⟨_, rfl, _, _, _, rfl, .inl (SqL.of (w4.same _ _ q3)), h3.length, _, rfl, _, _, _, _, rfl, (w4.get (pre := [])), T.cl_Board, T.na_Board_priced, (Nat.lt_of_le_of_lt (Nat.le_trans (length_putF _ _ _) (Nat.succ_le_succ (Nat.le_refl _))) (by decide : 1 < 1000)), ?_⟩
    have w5 : W F0 _ ((a_self, (.ins (A 24) dx_self (putF ("priced" : Str) (.int (x_pairs.length : Int)) (putF ("bottom" : Str) (.int 1) [])))) :: (dx_self, (.own a_self)) :: os) := w4.set (pre := [])
    obtain ⟨c6, hm⟩ := pb_rng hm
    refine ⟨_, rfl, _, rfl, c6.2.2.1, c6.2.2.2, fun D7 nD7 => ?_⟩
    refine lcM (K := K) (tw_rng0 (j := x_many)) hm w5 nD7 (fun F' H' acc s w => trivial) ?_ ?_
    · -- one turn
      intro b7 x7 F7 H7 H7' acc7 N7 P7 s7 w7 y7 hN7 hm
      replace h3 := A2.mono s7 h3
      replace q3 := s7 _ _ q3
      replace sF := sF.trans s7
      obtain ⟨rfl, rfl⟩ := y7
      exact ⟨rfl, _, rfl, _, _, _, rfl, .inl (SqL.of (w7.same _ _ q3)), h3.length, _, rfl, _, _, rfl, rfl, hN7 _ (post_ok hm) _ _ _ w7 (Same.refl _) rep_i⟩
    intro us7 F7 H7 ys7 s7 w7 gg7 hm
    replace h3 := A2.mono s7 h3
    replace q3 := s7 _ _ q3
    replace sF := sF.trans s7
    refine ⟨_, rfl, _, _, _, _, rfl, (w7.get (pre := [_])), T.cl_Board, T.na_Board_held, (Nat.lt_of_le_of_lt (Nat.le_trans (length_putF _ _ _) (Nat.succ_le_succ (Nat.le_trans (length_putF _ _ _) (Nat.succ_le_succ (Nat.le_refl _))))) (by decide : 2 < 1000)), ?_⟩
    have w10 : W F7 _ ((D7, .lst us7) :: (a_self, (.ins (A 24) dx_self (putF ("held" : Str) (.ref D7) (putF ("priced" : Str) (.int (x_pairs.length : Int)) (putF ("bottom" : Str) (.int 1) []))))) :: (dx_self, (.own a_self)) :: os) := w7.set (pre := [_])
    have h11 : A2 (rep K F7) [] ([] : (List (List Int))) := .nil
    refine ⟨(by show 0 ≤ sizeLine; decide), fun p12 n12 => ?_⟩
    have w12 : W F7 _ ((p12, .lst []) :: (D7, .lst us7) :: (a_self, (.ins (A 24) dx_self (putF ("held" : Str) (.ref D7) (putF ("priced" : Str) (.int (x_pairs.length : Int)) (putF ("bottom" : Str) (.int 1) []))))) :: (dx_self, (.own a_self)) :: os) := w10.new n12
    refine ⟨_, rfl, _, _, _, _, rfl, (w12.get (pre := [_, _])), T.cl_Board, T.na_Board_lines, (Nat.lt_of_le_of_lt (Nat.le_trans (length_putF _ _ _) (Nat.succ_le_succ (Nat.le_trans (length_putF _ _ _) (Nat.succ_le_succ (Nat.le_trans (length_putF _ _ _) (Nat.succ_le_succ (Nat.le_refl _))))))) (by decide : 3 < 1000)), ?_⟩
    have w13 : W F7 _ ((p12, .lst []) :: (D7, .lst us7) :: (a_self, (.ins (A 24) dx_self (putF ("lines" : Str) (.ref p12) (putF ("held" : Str) (.ref D7) (putF ("priced" : Str) (.int (x_pairs.length : Int)) (putF ("bottom" : Str) (.int 1) [])))))) :: (dx_self, (.own a_self)) :: os) := w12.set (pre := [_, _])
    replace w13 : W F7 _ ((p12, .lst []) :: (D7, .lst us7) :: (a_self, (.ins (A 24) dx_self (mkfs [("bottom" : Str), ("priced" : Str), ("held" : Str), ("lines" : Str)] [(.int 1), (.int (x_pairs.length : Int)), (.ref D7), (.ref p12)]))) :: (dx_self, (.own a_self)) :: os) := w13
    obtain ⟨c15, hm⟩ := pb_rng hm
    refine ⟨_, rfl, _, rfl, c15.2.2.1, c15.2.2.2, ?_⟩
    refine forS (tw_rng0 (j := x_many)) hm (fun (g14 : (List (List Int))) σ H' => ∃ (F' : Hp) (vs14_0 : List V) (o14_4 : Option V) (o14_3 : Option V), σ = [some (.ref a_self), some (.int x_many), some (.ref a3), o14_3, o14_4, none, none, none] ∧ Same F7 F' ∧ W F' H' ((p12, .lst vs14_0) :: (D7, .lst us7) :: (a_self, (.ins (A 24) dx_self (mkfs [("bottom" : Str), ("priced" : Str), ("held" : Str), ("lines" : Str)] [(.int 1), (.int (x_pairs.length : Int)), (.ref D7), (.ref p12)]))) :: (dx_self, (.own a_self)) :: os) ∧ A2 (rep K F') vs14_0 g14) ⟨_, _, _, _, rfl, Same.refl _, w13, h11⟩ (fun _ _ _ _ => trivial) ?_ ?_
    · -- a turn
      intro b14 g14 x14 σ14 H14 H14' N14 P14 hI hy hN14 hm
      obtain ⟨F14, vs14_0, o14_4, o14_3, rfl, s14, w14, h14_0⟩ := hI
      replace h3 := A2.mono s14 h3
      replace q3 := s14 _ _ q3
      replace gg7 := A2.mono s14 gg7
      replace sF := sF.trans s14
      obtain ⟨rfl, rfl⟩ := hy
      refine ⟨_, rfl, _, rfl, ⟨_, SqL.of (w14.same _ _ q3)⟩, fun D16 nD16 => ?_⟩
      refine lcM (K := K) (tw_list (a := a3) h3) hm w14 nD16 (fun F' H' acc s w => SqL.of (w.same _ _ (s _ _ q3))) ?_ ?_
      · -- one turn
        intro b16 x16 F16 H16 H16' acc16 N16 P16 s16 w16 y16 hN16 hm
        replace h3 := A2.mono s16 h3
        replace q3 := s16 _ _ q3
        replace h14_0 := A2.mono s16 h14_0
        replace gg7 := A2.mono s16 gg7
        replace sF := sF.trans s16
        obtain ⟨rfl, r18⟩ := y16
        replace r18 := Rep.mono s16 r18
        obtain ⟨a19, u19_0, u19_1, u19_2, rfl, q19, r19_0, r19_1, r19_2⟩ := nt3 r18
        replace r19_0 : rep K F16 u19_0 (b16.v.1 : Thing) := r19_0
        replace r19_1 : rep K F16 u19_1 (b16.v.2.1 : Thing) := r19_1
        replace r19_2 : rep K F16 u19_2 (b16.v.2.2.1 : (List Int)) := r19_2
        obtain ⟨a22, vs22, rfl, q22, h22⟩ := r19_2
        exact ⟨_, _, rfl, SqT.of (w16.same _ _ q19), rfl, _, _, rfl, _, _, rfl, _, _, rfl, rfl, rfl, _, rfl, _, rfl, (b14 : Int), _, rep_i, (Rep.mono w16.same (rep_lst q22 h22)), _, rfl, hN16 _ (post_ok hm) _ _ _ w16 (Same.refl _) rep_i⟩
      intro us16 F16 H16 ys16 s16 w16 gg16 hm
      replace h3 := A2.mono s16 h3
      replace q3 := s16 _ _ q3
      replace h14_0 := A2.mono s16 h14_0
      replace gg7 := A2.mono s16 gg7
      replace sF := sF.trans s16
      obtain ⟨F24, s24, w24, q24⟩ : ∃ F', Same F16 F' ∧ W F' _ ((p12, .lst vs14_0) :: (D7, .lst us7) :: (a_self, (.ins (A 24) dx_self (mkfs [("bottom" : Str), ("priced" : Str), ("held" : Str), ("lines" : Str)] [(.int 1), (.int (x_pairs.length : Int)), (.ref D7), (.ref p12)]))) :: (dx_self, (.own a_self)) :: os) ∧ F' D16 = some (.lst us16) := w16.freezeE (pre := [])
      replace h3 := A2.mono s24 h3
      replace q3 := s24 _ _ q3
      replace h14_0 := A2.mono s24 h14_0
      replace gg7 := A2.mono s24 gg7
      replace gg16 := A2.mono s24 gg16
      replace sF := sF.trans s24
      obtain ⟨c25, hm⟩ := pb_rng hm
      refine ⟨_, rfl, _, _, _, _, _, rfl, (w24.get (pre := [_, _])), T.cl_Board, T.na_Board_lines, (fl_Board_lines ((.int 1) : V) ((.int (x_pairs.length : Int)) : V) ((.ref D7) : V) ((.ref p12) : V)), .inl ⟨rfl, _, SqL.of (w24.get (pre := []))⟩, _, rfl, _, rfl, _, rfl, c25.2.2.1, c25.2.2.2, fun D26 nD26 => ?_⟩
      refine lcM (K := K) (tw_rng0 (j := x_many)) hm w24 nD26 (fun F' H' acc s w => trivial) ?_ ?_
      · -- one turn
        intro b26 x26 F26 H26 H26' acc26 N26 P26 s26 w26 y26 hN26 hm
        replace h3 := A2.mono s26 h3
        replace q3 := s26 _ _ q3
        replace gg16 := A2.mono s26 gg16
        replace q24 := s26 _ _ q24
        replace h14_0 := A2.mono s26 h14_0
        replace gg7 := A2.mono s26 gg7
        replace sF := sF.trans s26
        obtain ⟨rfl, rfl⟩ := y26
        exact ⟨rfl, _, rfl, _, rfl, _, _, rfl, rfl, _, rfl, hN26 _ (post_ok hm) _ _ _ w26 (Same.refl _) rep_i⟩
      intro us26 F26 H26 ys26 s26 w26 gg26 hm
      replace h3 := A2.mono s26 h3
      replace q3 := s26 _ _ q3
      replace gg16 := A2.mono s26 gg16
      replace q24 := s26 _ _ q24
      replace h14_0 := A2.mono s26 h14_0
      replace gg7 := A2.mono s26 gg7
      replace sF := sF.trans s26
      obtain ⟨l29, z29, e29, hm⟩ := pn_extend hm
      have h29 : A2 (rep K F26) (us16 ++ us26) l29 := e29 ▸ A2.append gg16 gg26
      refine ⟨_, _, _, _, rfl, rfl, (w26.same _ _ q24), (w26.get (pre := [])), (A2.le2 gg16 gg26 z29), fun p30 n30 => ?_⟩
      have w30 : W F26 _ ((p30, .lst (us16 ++ us26)) :: (D26, .lst us26) :: (p12, .lst vs14_0) :: (D7, .lst us7) :: (a_self, (.ins (A 24) dx_self (mkfs [("bottom" : Str), ("priced" : Str), ("held" : Str), ("lines" : Str)] [(.int 1), (.int (x_pairs.length : Int)), (.ref D7), (.ref p12)]))) :: (dx_self, (.own a_self)) :: os) := w26.new n30
      have h31 : A2 (rep K F26) [(.int 1)] ([(1 : Int)] : (List Int)) := .cons rep_i (.nil)
      refine ⟨(by show 1 ≤ sizeLine; decide), fun p32 n32 => ?_⟩
      have w32 : W F26 _ ((p32, .lst [(.int 1)]) :: (p30, .lst (us16 ++ us26)) :: (D26, .lst us26) :: (p12, .lst vs14_0) :: (D7, .lst us7) :: (a_self, (.ins (A 24) dx_self (mkfs [("bottom" : Str), ("priced" : Str), ("held" : Str), ("lines" : Str)] [(.int 1), (.int (x_pairs.length : Int)), (.ref D7), (.ref p12)]))) :: (dx_self, (.own a_self)) :: os) := w30.new n32
      obtain ⟨l33, z33, e33, hm⟩ := pn_extend hm
      have h33 : A2 (rep K F26) ((us16 ++ us26) ++ [(.int 1)]) l33 := e33 ▸ A2.append h29 h31
      refine ⟨_, _, _, _, rfl, rfl, (w32.get (pre := [_])), (w32.get (pre := [])), (A2.le2 h29 h31 z33), fun p34 n34 => ?_⟩
      have w34 : W F26 _ ((p34, .lst ((us16 ++ us26) ++ [(.int 1)])) :: (p32, .lst [(.int 1)]) :: (p30, .lst (us16 ++ us26)) :: (D26, .lst us26) :: (p12, .lst vs14_0) :: (D7, .lst us7) :: (a_self, (.ins (A 24) dx_self (mkfs [("bottom" : Str), ("priced" : Str), ("held" : Str), ("lines" : Str)] [(.int 1), (.int (x_pairs.length : Int)), (.ref D7), (.ref p12)]))) :: (dx_self, (.own a_self)) :: os) := w32.new n34
      obtain ⟨F35, s35, w35, q35⟩ : ∃ F', Same F26 F' ∧ W F' _ ((p32, .lst [(.int 1)]) :: (p30, .lst (us16 ++ us26)) :: (D26, .lst us26) :: (p12, .lst vs14_0) :: (D7, .lst us7) :: (a_self, (.ins (A 24) dx_self (mkfs [("bottom" : Str), ("priced" : Str), ("held" : Str), ("lines" : Str)] [(.int 1), (.int (x_pairs.length : Int)), (.ref D7), (.ref p12)]))) :: (dx_self, (.own a_self)) :: os) ∧ F' p34 = some (.lst ((us16 ++ us26) ++ [(.int 1)])) := w34.freezeE (pre := [])
      replace h3 := A2.mono s35 h3
      replace q3 := s35 _ _ q3
      replace gg16 := A2.mono s35 gg16
      replace q24 := s35 _ _ q24
      replace h14_0 := A2.mono s35 h14_0
      replace gg7 := A2.mono s35 gg7
      replace gg26 := A2.mono s35 gg26
      replace h29 := A2.mono s35 h29
      replace h31 := A2.mono s35 h31
      replace h33 := A2.mono s35 h33
      replace sF := sF.trans s35
      obtain ⟨l36, z36, e36, hm⟩ := pn_app hm
      refine ⟨_, _, _, rfl, rfl, (w35.get (pre := [_, _, _])), (A2.lt h14_0 z36), ?_⟩
      have h36 : A2 (rep K F35) (vs14_0 ++ [(V.ref p34)]) l36 := e36 ▸ A2.snoc h14_0 (rep_lst q35 h33)
      have w37 : W F35 _ ((p32, .lst [(.int 1)]) :: (p30, .lst (us16 ++ us26)) :: (D26, .lst us26) :: (p12, .lst (vs14_0 ++ [(V.ref p34)])) :: (D7, .lst us7) :: (a_self, (.ins (A 24) dx_self (mkfs [("bottom" : Str), ("priced" : Str), ("held" : Str), ("lines" : Str)] [(.int 1), (.int (x_pairs.length : Int)), (.ref D7), (.ref p12)]))) :: (dx_self, (.own a_self)) :: os) := w35.set (pre := [_, _, _])
      have w38 : W F35 _ ((p30, .lst (us16 ++ us26)) :: (D26, .lst us26) :: (p12, .lst (vs14_0 ++ [(V.ref p34)])) :: (D7, .lst us7) :: (a_self, (.ins (A 24) dx_self (mkfs [("bottom" : Str), ("priced" : Str), ("held" : Str), ("lines" : Str)] [(.int 1), (.int (x_pairs.length : Int)), (.ref D7), (.ref p12)]))) :: (dx_self, (.own a_self)) :: os) := w37.drop (pre := [])
      have w39 : W F35 _ ((D26, .lst us26) :: (p12, .lst (vs14_0 ++ [(V.ref p34)])) :: (D7, .lst us7) :: (a_self, (.ins (A 24) dx_self (mkfs [("bottom" : Str), ("priced" : Str), ("held" : Str), ("lines" : Str)] [(.int 1), (.int (x_pairs.length : Int)), (.ref D7), (.ref p12)]))) :: (dx_self, (.own a_self)) :: os) := w38.drop (pre := [])
      have w40 : W F35 _ ((p12, .lst (vs14_0 ++ [(V.ref p34)])) :: (D7, .lst us7) :: (a_self, (.ins (A 24) dx_self (mkfs [("bottom" : Str), ("priced" : Str), ("held" : Str), ("lines" : Str)] [(.int 1), (.int (x_pairs.length : Int)), (.ref D7), (.ref p12)]))) :: (dx_self, (.own a_self)) :: os) := w39.drop (pre := [])
      exact hN14 _ (post_ok hm) _ _ ⟨_, _, _, _, rfl, (s14.trans (s16.trans (s24.trans (s26.trans s35)))), w40, h36⟩
    intro g14 σ14 H14 hI hm
    obtain ⟨F14, vs14_0, o14_4, o14_3, rfl, s14, w14, h14_0⟩ := hI
    replace h3 := A2.mono s14 h3
    replace q3 := s14 _ _ q3
    replace gg7 := A2.mono s14 gg7
    replace sF := sF.trans s14
    have h41 : A2 (rep K F14) [(.int (-(1 : Int)))] ([(-(1 : Int))] : (List Int)) := .cons rep_i (.nil)
    refine ⟨_, rfl, _, _, _, _, _, rfl, (w14.get (pre := [_, _])), T.cl_Board, T.na_Board_lines, (fl_Board_lines ((.int 1) : V) ((.int (x_pairs.length : Int)) : V) ((.ref D7) : V) ((.ref p12) : V)), .inl ⟨rfl, _, SqL.of (w14.get (pre := []))⟩, _, rfl, (by show 1 ≤ sizeLine; decide), fun p42 n42 => ?_⟩
    have w42 : W F14 _ ((p42, .lst [(.int (-(1 : Int)))]) :: (p12, .lst vs14_0) :: (D7, .lst us7) :: (a_self, (.ins (A 24) dx_self (mkfs [("bottom" : Str), ("priced" : Str), ("held" : Str), ("lines" : Str)] [(.int 1), (.int (x_pairs.length : Int)), (.ref D7), (.ref p12)]))) :: (dx_self, (.own a_self)) :: os) := w14.new n42
    obtain ⟨l43, z43, e43, hm⟩ := pb_rep hm
    have h43 : A2 (rep K F14) (List.replicate (x_pairs.length : Int).toNat [(.int (-(1 : Int)))]).flatten l43 := e43 ▸ A2.flat h41 _
    refine ⟨_, rfl, _, _, _, rfl, .inl (SqL.of (w42.same _ _ q3)), h3.length, _, _, _, rfl, rfl, (w42.get (pre := [])), z43.1, z43.2.1, (by rw [h41.length]; exact z43.2.2), fun p44 n44 => ?_⟩
    have w44 : W F14 _ ((p44, .lst (List.replicate (x_pairs.length : Int).toNat [(.int (-(1 : Int)))]).flatten) :: (p42, .lst [(.int (-(1 : Int)))]) :: (p12, .lst vs14_0) :: (D7, .lst us7) :: (a_self, (.ins (A 24) dx_self (mkfs [("bottom" : Str), ("priced" : Str), ("held" : Str), ("lines" : Str)] [(.int 1), (.int (x_pairs.length : Int)), (.ref D7), (.ref p12)]))) :: (dx_self, (.own a_self)) :: os) := w42.new n44
    have h45 : A2 (rep K F14) [(.int 0)] ([(0 : Int)] : (List Int)) := .cons rep_i (.nil)
    refine ⟨(by show 1 ≤ sizeLine; decide), fun p46 n46 => ?_⟩
    have w46 : W F14 _ ((p46, .lst [(.int 0)]) :: (p44, .lst (List.replicate (x_pairs.length : Int).toNat [(.int (-(1 : Int)))]).flatten) :: (p42, .lst [(.int (-(1 : Int)))]) :: (p12, .lst vs14_0) :: (D7, .lst us7) :: (a_self, (.ins (A 24) dx_self (mkfs [("bottom" : Str), ("priced" : Str), ("held" : Str), ("lines" : Str)] [(.int 1), (.int (x_pairs.length : Int)), (.ref D7), (.ref p12)]))) :: (dx_self, (.own a_self)) :: os) := w44.new n46
    obtain ⟨l47, z47, e47, hm⟩ := pb_rep hm
    have h47 : A2 (rep K F14) (List.replicate (x_many + (1 : Int)).toNat [(.int 0)]).flatten l47 := e47 ▸ A2.flat h45 _
    refine ⟨_, rfl, _, _, rfl, rfl, _, _, _, rfl, rfl, (w46.get (pre := [])), z47.1, z47.2.1, (by rw [h45.length]; exact z47.2.2), fun p48 n48 => ?_⟩
    have w48 : W F14 _ ((p48, .lst (List.replicate (x_many + (1 : Int)).toNat [(.int 0)]).flatten) :: (p46, .lst [(.int 0)]) :: (p44, .lst (List.replicate (x_pairs.length : Int).toNat [(.int (-(1 : Int)))]).flatten) :: (p42, .lst [(.int (-(1 : Int)))]) :: (p12, .lst vs14_0) :: (D7, .lst us7) :: (a_self, (.ins (A 24) dx_self (mkfs [("bottom" : Str), ("priced" : Str), ("held" : Str), ("lines" : Str)] [(.int 1), (.int (x_pairs.length : Int)), (.ref D7), (.ref p12)]))) :: (dx_self, (.own a_self)) :: os) := w46.new n48
    obtain ⟨l49, z49, e49, hm⟩ := pn_extend hm
    have h49 : A2 (rep K F14) ((List.replicate (x_pairs.length : Int).toNat [(.int (-(1 : Int)))]).flatten ++ (List.replicate (x_many + (1 : Int)).toNat [(.int 0)]).flatten) l49 := e49 ▸ A2.append h43 h47
    refine ⟨_, _, _, _, rfl, rfl, (w48.get (pre := [_, _])), (w48.get (pre := [])), (A2.le2 h43 h47 z49), fun p50 n50 => ?_⟩
    generalize (((List.replicate (x_pairs.length : Int).toNat [(.int (-(1 : Int)))]).flatten ++ (List.replicate (x_many + (1 : Int)).toNat [(.int 0)]).flatten) : List V) = u50 at h49 ⊢
    have w50 : W F14 _ ((p50, .lst u50) :: (p48, .lst (List.replicate (x_many + (1 : Int)).toNat [(.int 0)]).flatten) :: (p46, .lst [(.int 0)]) :: (p44, .lst (List.replicate (x_pairs.length : Int).toNat [(.int (-(1 : Int)))]).flatten) :: (p42, .lst [(.int (-(1 : Int)))]) :: (p12, .lst vs14_0) :: (D7, .lst us7) :: (a_self, (.ins (A 24) dx_self (mkfs [("bottom" : Str), ("priced" : Str), ("held" : Str), ("lines" : Str)] [(.int 1), (.int (x_pairs.length : Int)), (.ref D7), (.ref p12)]))) :: (dx_self, (.own a_self)) :: os) := w48.new n50
    obtain ⟨F51, s51, w51, q51⟩ : ∃ F', Same F14 F' ∧ W F' _ ((p48, .lst (List.replicate (x_many + (1 : Int)).toNat [(.int 0)]).flatten) :: (p46, .lst [(.int 0)]) :: (p44, .lst (List.replicate (x_pairs.length : Int).toNat [(.int (-(1 : Int)))]).flatten) :: (p42, .lst [(.int (-(1 : Int)))]) :: (p12, .lst vs14_0) :: (D7, .lst us7) :: (a_self, (.ins (A 24) dx_self (mkfs [("bottom" : Str), ("priced" : Str), ("held" : Str), ("lines" : Str)] [(.int 1), (.int (x_pairs.length : Int)), (.ref D7), (.ref p12)]))) :: (dx_self, (.own a_self)) :: os) ∧ F' p50 = some (.lst u50) := w50.freezeE (pre := [])
    replace h3 := A2.mono s51 h3
    replace q3 := s51 _ _ q3
    replace h14_0 := A2.mono s51 h14_0
    replace gg7 := A2.mono s51 gg7
    replace h41 := A2.mono s51 h41
    replace h43 := A2.mono s51 h43
    replace h45 := A2.mono s51 h45
    replace h47 := A2.mono s51 h47
    replace h49 := A2.mono s51 h49
    replace sF := sF.trans s51
    obtain ⟨l52, z52, e52, hm⟩ := pn_app hm
    refine ⟨_, _, _, rfl, rfl, (w51.get (pre := [_, _, _, _])), (A2.lt h14_0 z52), ?_⟩
    have h52 : A2 (rep K F51) (vs14_0 ++ [(V.ref p50)]) l52 := e52 ▸ A2.snoc h14_0 (rep_lst q51 h49)
    have w53 : W F51 _ ((p48, .lst (List.replicate (x_many + (1 : Int)).toNat [(.int 0)]).flatten) :: (p46, .lst [(.int 0)]) :: (p44, .lst (List.replicate (x_pairs.length : Int).toNat [(.int (-(1 : Int)))]).flatten) :: (p42, .lst [(.int (-(1 : Int)))]) :: (p12, .lst (vs14_0 ++ [(V.ref p50)])) :: (D7, .lst us7) :: (a_self, (.ins (A 24) dx_self (mkfs [("bottom" : Str), ("priced" : Str), ("held" : Str), ("lines" : Str)] [(.int 1), (.int (x_pairs.length : Int)), (.ref D7), (.ref p12)]))) :: (dx_self, (.own a_self)) :: os) := w51.set (pre := [_, _, _, _])
    have w54 : W F51 _ ((p46, .lst [(.int 0)]) :: (p44, .lst (List.replicate (x_pairs.length : Int).toNat [(.int (-(1 : Int)))]).flatten) :: (p42, .lst [(.int (-(1 : Int)))]) :: (p12, .lst (vs14_0 ++ [(V.ref p50)])) :: (D7, .lst us7) :: (a_self, (.ins (A 24) dx_self (mkfs [("bottom" : Str), ("priced" : Str), ("held" : Str), ("lines" : Str)] [(.int 1), (.int (x_pairs.length : Int)), (.ref D7), (.ref p12)]))) :: (dx_self, (.own a_self)) :: os) := w53.drop (pre := [])
    have w55 : W F51 _ ((p44, .lst (List.replicate (x_pairs.length : Int).toNat [(.int (-(1 : Int)))]).flatten) :: (p42, .lst [(.int (-(1 : Int)))]) :: (p12, .lst (vs14_0 ++ [(V.ref p50)])) :: (D7, .lst us7) :: (a_self, (.ins (A 24) dx_self (mkfs [("bottom" : Str), ("priced" : Str), ("held" : Str), ("lines" : Str)] [(.int 1), (.int (x_pairs.length : Int)), (.ref D7), (.ref p12)]))) :: (dx_self, (.own a_self)) :: os) := w54.drop (pre := [])
    have w56 : W F51 _ ((p42, .lst [(.int (-(1 : Int)))]) :: (p12, .lst (vs14_0 ++ [(V.ref p50)])) :: (D7, .lst us7) :: (a_self, (.ins (A 24) dx_self (mkfs [("bottom" : Str), ("priced" : Str), ("held" : Str), ("lines" : Str)] [(.int 1), (.int (x_pairs.length : Int)), (.ref D7), (.ref p12)]))) :: (dx_self, (.own a_self)) :: os) := w55.drop (pre := [])
    have w57 : W F51 _ ((p12, .lst (vs14_0 ++ [(V.ref p50)])) :: (D7, .lst us7) :: (a_self, (.ins (A 24) dx_self (mkfs [("bottom" : Str), ("priced" : Str), ("held" : Str), ("lines" : Str)] [(.int 1), (.int (x_pairs.length : Int)), (.ref D7), (.ref p12)]))) :: (dx_self, (.own a_self)) :: os) := w56.drop (pre := [])
    have w58 : W F51 _ ((D7, .lst us7) :: (p12, .lst (vs14_0 ++ [(V.ref p50)])) :: (a_self, (.ins (A 24) dx_self (mkfs [("bottom" : Str), ("priced" : Str), ("held" : Str), ("lines" : Str)] [(.int 1), (.int (x_pairs.length : Int)), (.ref D7), (.ref p12)]))) :: (dx_self, (.own a_self)) :: os) := w57.front (pre := [_])
    have w59 : W F51 _ ((dx_self, (.own a_self)) :: (D7, .lst us7) :: (p12, .lst (vs14_0 ++ [(V.ref p50)])) :: (a_self, (.ins (A 24) dx_self (mkfs [("bottom" : Str), ("priced" : Str), ("held" : Str), ("lines" : Str)] [(.int 1), (.int (x_pairs.length : Int)), (.ref D7), (.ref p12)]))) :: os) := w58.front (pre := [_, _, _])
    have w60 : W F51 _ ((a_self, (.ins (A 24) dx_self (mkfs [("bottom" : Str), ("priced" : Str), ("held" : Str), ("lines" : Str)] [(.int 1), (.int (x_pairs.length : Int)), (.ref D7), (.ref p12)]))) :: (dx_self, (.own a_self)) :: (D7, .lst us7) :: (p12, .lst (vs14_0 ++ [(V.ref p50)])) :: os) := w59.front (pre := [_, _, _])
    exact (post_ok hm) _ _ _ _ _ _ w60 sF gg7 h52
def sp_Board_growing (K : Fg) : Sp := fun vs H Q E => ∃ (F : Hp) (os : List (Addr × HO)) (a_self : Addr) (dx_self : Addr) (C_self : Addr) (a_self_held : Addr) (vs_self_held : List V) (a_self_lines : Addr) (vs_self_lines : List V) (x_self : BoardF), vs = [.ref a_self] ∧ W F H ((a_self, .ins C_self dx_self (mkfs [("bottom" : Str), ("priced" : Str), ("held" : Str), ("lines" : Str)] [.int x_self.1, .int x_self.2.1, .ref a_self_held, .ref a_self_lines])) :: (dx_self, .own a_self) :: (a_self_held, .lst vs_self_held) :: (a_self_lines, .lst vs_self_lines) :: os) ∧ Nm K "Board" C_self ∧ A2 (rep K F) vs_self_held x_self.2.2.1 ∧ A2 (rep K F) vs_self_lines x_self.2.2.2.1 ∧ Post (Board_growing x_self) (fun (y : (Option Int)) => ∀ (v : V) (F' H' : Hp), W F' H' ((a_self, .ins C_self dx_self (mkfs [("bottom" : Str), ("priced" : Str), ("held" : Str), ("lines" : Str)] [.int x_self.1, .int x_self.2.1, .ref a_self_held, .ref a_self_lines])) :: (dx_self, .own a_self) :: (a_self_held, .lst vs_self_held) :: (a_self_lines, .lst vs_self_lines) :: os) → Same F F' → rep K F' v (y : (Option Int)) → Q v H') noX
theorem sc_Board_growing : FnScope ["self", "at"] ["self"] (defScope s_Board_growing) := ⟨rfl, rfl, rfl, by decide +kernel, rfl, by decide +kernel, by decide +kernel⟩
theorem ok_Board_growing (T : Tx K mg A FD) : FnOk P w K mg base CX0 1 (A 25001) (FD 25001) ["self"] (sp_Board_growing K) := by
  refine T.d25001.fn.ok sc_Board_growing (fun vs H Q E h => ?_) (fun cdv Ar outer s H vs Q E hr h => ?_)
  · obtain ⟨F, os, a_self, dx_self, C_self, a_self_held, vs_self_held, a_self_lines, vs_self_lines, x_self, rfl, _⟩ := h
    rfl
  · obtain ⟨F0, os, a_self, dx_self, C_self, a_self_held, vs_self_held, a_self_lines, vs_self_lines, x_self, rfl, w0, n_self, h_self_held, h_self_lines, hm⟩ := h
    have sF : Same F0 F0 := Same.refl _
    obtain rfl := n_self.uniq T.nm_Board
    refine ⟨_, (pss_cons (ps_for PassesOwn.never rfl (pi_range1 (by rfl) T.n_range (pa_cons (pe_op op_sub (pe_callB (call_lenN (K := K) rfl) (by rfl) T.n_len (by decide +kernel) (pa_cons (pe_ix (ix_listK (K := K) rfl) (pe_fld (pv 0) (by rfl)) (pe_un un_neg pe_int) (fun _ _ => rfl)) pa_nil)) pe_int) pa_nil)) (pg_name (i := 1) sc_Board_growing.nd rfl (Or.inl rfl)) (pss_one (ps_if (pt_cmp (pc_lt (pe_ix (ix_listK (K := K) rfl) (pe_ix (ix_listK (K := K) rfl) (pe_fld (pv 0) (by rfl)) (pe_un un_neg pe_int) (fun _ _ => rfl)) (pv 1) (fun _ _ => rfl)) pe_int)) (pss_one (ps_ret (pv 1))) pss_nil))) (pss_one (ps_ret pe_non))), ?_⟩
    obtain ⟨t6, e6, hm⟩ := pb_get hm
    obtain ⟨u6, f6, r6⟩ := A2.at h_self_lines e6
    obtain ⟨a7, vs7, rfl, q7, h7⟩ := r6
    obtain ⟨c8, hm⟩ := pb_rng hm
    refine ⟨_, rfl, _, _, _, _, _, rfl, (w0.get (pre := [])), T.cl_Board, T.na_Board_lines, (fl_Board_lines ((.int x_self.1) : V) ((.int x_self.2.1) : V) ((.ref a_self_held) : V) ((.ref a_self_lines) : V)), _, rfl, _, _, _, _, rfl, rfl, SqL.of (w0.get (pre := [_, _, _])), f6, _, _, _, rfl, .inl (SqL.of (w0.same _ _ q7)), h7.length, _, _, rfl, rfl, _, rfl, c8.2.2.1, c8.2.2.2, ?_⟩
    refine forX (tw_rng0 (j := ((t6.length : Int) - (1 : Int)))) hm (fun (g5 : Unit) σ H' => ∃ (F' : Hp) (o5_1 : Option V), σ = [some (.ref a_self), o5_1] ∧ Same F0 F' ∧ W F' H' ((a_self, (.ins (A 24) dx_self (mkfs [("bottom" : Str), ("priced" : Str), ("held" : Str), ("lines" : Str)] [(.int x_self.1), (.int x_self.2.1), (.ref a_self_held), (.ref a_self_lines)]))) :: (dx_self, (.own a_self)) :: (a_self_held, .lst vs_self_held) :: (a_self_lines, .lst vs_self_lines) :: os)) ⟨_, _, rfl, Same.refl _, w0⟩ (fun _ _ _ _ => trivial) ?_ ?_
    · -- a turn
      intro b5 g5 x5 σ5 H5 H5' N5 B5 P5 hI hy hN5 hB5 hZ5 hm
      obtain ⟨F5, o5_1, rfl, s5, w5⟩ := hI
      replace h_self_held := A2.mono s5 h_self_held
      replace h_self_lines := A2.mono s5 h_self_lines
      replace q7 := s5 _ _ q7
      replace h7 := A2.mono s5 h7
      replace sF := sF.trans s5
      obtain ⟨rfl, rfl⟩ := hy
      obtain ⟨t9, e9, hm⟩ := pb_get hm
      obtain ⟨u9, f9, r9⟩ := A2.at h_self_lines e9
      obtain ⟨a10, vs10, rfl, q10, h10⟩ := r9
      obtain ⟨t11, e11, hm⟩ := pb_get hm
      obtain ⟨u11, f11, r11⟩ := A2.at h10 e11
      obtain rfl : u11 = V.int t11 := r11
      refine ⟨_, rfl, _, _, _, _, _, rfl, (w5.get (pre := [])), T.cl_Board, T.na_Board_lines, (fl_Board_lines ((.int x_self.1) : V) ((.int x_self.2.1) : V) ((.ref a_self_held) : V) ((.ref a_self_lines) : V)), _, rfl, _, _, _, _, rfl, rfl, SqL.of (w5.get (pre := [_, _, _])), f9, _, rfl, _, _, _, _, rfl, rfl, SqL.of (w5.same _ _ q10), f11, _, _, rfl, rfl, _, rfl, ?_⟩
      refine post_ite hm (fun k12 hm => ?_) (fun k12 hm => ?_)
      · skip
        have hm := hZ5 _ (post_ok hm)
        exact ⟨_, rfl, (post_ok hm) _ _ _ w5 sF (rep_some rep_i)⟩
      · skip
        exact hN5 _ (post_ok hm) _ _ ⟨_, _, rfl, s5, w5⟩
    intro g5 σ5 H5 hI hm
    obtain ⟨F5, o5_1, rfl, s5, w5⟩ := hI
    replace h_self_held := A2.mono s5 h_self_held
    replace h_self_lines := A2.mono s5 h_self_lines
    replace q7 := s5 _ _ q7
    replace h7 := A2.mono s5 h7
    replace sF := sF.trans s5
    exact (post_ok hm) _ _ _ w5 sF rep_none
def sp_Board_bounds_more (K : Fg) : Sp := fun vs H Q E => ∃ (F : Hp) (os : List (Addr × HO)) (a_self : Addr) (dx_self : Addr) (C_self : Addr) (a_self_held : Addr) (vs_self_held : List V) (a_self_lines : Addr) (vs_self_lines : List V) (x_self : BoardF) (x_at : Int) (x_best : Int) (x_column : Int), vs = [.ref a_self, .int x_at, .int x_best, .int x_column] ∧ W F H ((a_self, .ins C_self dx_self (mkfs [("bottom" : Str), ("priced" : Str), ("held" : Str), ("lines" : Str)] [.int x_self.1, .int x_self.2.1, .ref a_self_held, .ref a_self_lines])) :: (dx_self, .own a_self) :: (a_self_held, .lst vs_self_held) :: (a_self_lines, .lst vs_self_lines) :: os) ∧ Nm K "Board" C_self ∧ A2 (rep K F) vs_self_held x_self.2.2.1 ∧ A2 (rep K F) vs_self_lines x_self.2.2.2.1 ∧ Post (Board_bounds_more x_self x_at x_best x_column) (fun (y : Bool) => ∀ (v : V) (F' H' : Hp), W F' H' ((a_self, .ins C_self dx_self (mkfs [("bottom" : Str), ("priced" : Str), ("held" : Str), ("lines" : Str)] [.int x_self.1, .int x_self.2.1, .ref a_self_held, .ref a_self_lines])) :: (dx_self, .own a_self) :: (a_self_held, .lst vs_self_held) :: (a_self_lines, .lst vs_self_lines) :: os) → Same F F' → rep K F' v (y : Bool) → Q v H') noX
theorem sc_Board_bounds_more : FnScope ["self", "at", "best", "column", "one", "other"] ["self", "at", "best", "column"] (defScope s_Board_bounds_more) := ⟨rfl, rfl, rfl, by decide +kernel, rfl, by decide +kernel, by decide +kernel⟩
theorem ok_Board_bounds_more (T : Tx K mg A FD) : FnOk P w K mg base CX0 1 (A 25002) (FD 25002) ["self", "at", "best", "column"] (sp_Board_bounds_more K) := by
  refine T.d25002.fn.ok sc_Board_bounds_more (fun vs H Q E h => ?_) (fun cdv Ar outer s H vs Q E hr h => ?_)
  · obtain ⟨F, os, a_self, dx_self, C_self, a_self_held, vs_self_held, a_self_lines, vs_self_lines, x_self, x_at, x_best, x_column, rfl, _⟩ := h
    rfl
  · obtain ⟨F0, os, a_self, dx_self, C_self, a_self_held, vs_self_held, a_self_lines, vs_self_lines, x_self, x_at, x_best, x_column, rfl, w0, n_self, h_self_held, h_self_lines, hm⟩ := h
    have sF : Same F0 F0 := Same.refl _
    obtain rfl := n_self.uniq T.nm_Board
    refine ⟨_, (pss_cons (ps_set (i := 4) sc_Board_bounds_more.nd rfl (Or.inl rfl) (pe_op op_mul (pe_ix (ix_listK (K := K) rfl) (pe_ix (ix_listK (K := K) rfl) (pe_fld (pv 0) (by rfl)) (pv 1) (fun _ _ => rfl)) (pe_un un_neg pe_int) (fun _ _ => rfl)) (pe_ix (ix_listK (K := K) rfl) (pe_ix (ix_listK (K := K) rfl) (pe_fld (pv 0) (by rfl)) (pv 2) (fun _ _ => rfl)) (pv 3) (fun _ _ => rfl)))) (pss_cons (ps_set (i := 5) sc_Board_bounds_more.nd rfl (Or.inl rfl) (pe_op op_mul (pe_ix (ix_listK (K := K) rfl) (pe_ix (ix_listK (K := K) rfl) (pe_fld (pv 0) (by rfl)) (pv 2) (fun _ _ => rfl)) (pe_un un_neg pe_int) (fun _ _ => rfl)) (pe_ix (ix_listK (K := K) rfl) (pe_ix (ix_listK (K := K) rfl) (pe_fld (pv 0) (by rfl)) (pv 1) (fun _ _ => rfl)) (pv 3) (fun _ _ => rfl)))) (pss_one (ps_ret (pe_or (pe_cmp (pc_lt (pv 4) (pv 5))) (pe_one (pe_and (pe_cmp (pc_eqI (pv 4) (pv 5))) (pe_one (pe_cmp (pc_lt (pe_ix (ix_listK (K := K) rfl) (pe_fld (pv 0) (by rfl)) (pv 1) (fun _ _ => rfl)) (pe_ix (ix_listK (K := K) rfl) (pe_fld (pv 0) (by rfl)) (pv 2) (fun _ _ => rfl)))))))))))), ?_⟩
    obtain ⟨t5, e5, hm⟩ := pb_get hm
    obtain ⟨u5, f5, r5⟩ := A2.at h_self_lines e5
    obtain ⟨a6, vs6, rfl, q6, h6⟩ := r5
    obtain ⟨t7, e7, hm⟩ := pb_get hm
    obtain ⟨u7, f7, r7⟩ := A2.at h6 e7
    obtain rfl : u7 = V.int t7 := r7
    obtain ⟨t8, e8, hm⟩ := pb_get hm
    obtain ⟨u8, f8, r8⟩ := A2.at h_self_lines e8
    obtain ⟨a9, vs9, rfl, q9, h9⟩ := r8
    obtain ⟨t10, e10, hm⟩ := pb_get hm
    obtain ⟨u10, f10, r10⟩ := A2.at h9 e10
    obtain rfl : u10 = V.int t10 := r10
    obtain ⟨c11, hm⟩ := pb_mul hm
    obtain ⟨t12, e12, hm⟩ := pb_get hm
    obtain ⟨u12, f12, r12⟩ := A2.at h_self_lines e12
    obtain ⟨a13, vs13, rfl, q13, h13⟩ := r12
    obtain ⟨t14, e14, hm⟩ := pb_get hm
    obtain ⟨u14, f14, r14⟩ := A2.at h13 e14
    obtain rfl : u14 = V.int t14 := r14
    obtain ⟨t15, e15, hm⟩ := pb_get hm
    obtain ⟨u15, f15, r15⟩ := A2.at h_self_lines e15
    obtain ⟨a16, vs16, rfl, q16, h16⟩ := r15
    obtain ⟨t17, e17, hm⟩ := pb_get hm
    obtain ⟨u17, f17, r17⟩ := A2.at h16 e17
    obtain rfl : u17 = V.int t17 := r17
    obtain ⟨c18, hm⟩ := pb_mul hm
    refine ⟨_, rfl, _, _, _, _, _, rfl, (w0.get (pre := [])), T.cl_Board, T.na_Board_lines, (fl_Board_lines ((.int x_self.1) : V) ((.int x_self.2.1) : V) ((.ref a_self_held) : V) ((.ref a_self_lines) : V)), _, rfl, _, _, _, _, rfl, rfl, SqL.of (w0.get (pre := [_, _, _])), f5, _, rfl, _, _, _, _, rfl, rfl, SqL.of (w0.same _ _ q6), f7, _, rfl, _, _, _, _, _, rfl, (w0.get (pre := [])), T.cl_Board, T.na_Board_lines, (fl_Board_lines ((.int x_self.1) : V) ((.int x_self.2.1) : V) ((.ref a_self_held) : V) ((.ref a_self_lines) : V)), _, rfl, _, _, _, _, rfl, rfl, SqL.of (w0.get (pre := [_, _, _])), f8, _, rfl, _, _, _, _, rfl, rfl, SqL.of (w0.same _ _ q9), f10, _, _, rfl, rfl, c11, _, rfl, _, _, _, _, _, rfl, (w0.get (pre := [])), T.cl_Board, T.na_Board_lines, (fl_Board_lines ((.int x_self.1) : V) ((.int x_self.2.1) : V) ((.ref a_self_held) : V) ((.ref a_self_lines) : V)), _, rfl, _, _, _, _, rfl, rfl, SqL.of (w0.get (pre := [_, _, _])), f12, _, rfl, _, _, _, _, rfl, rfl, SqL.of (w0.same _ _ q13), f14, _, rfl, _, _, _, _, _, rfl, (w0.get (pre := [])), T.cl_Board, T.na_Board_lines, (fl_Board_lines ((.int x_self.1) : V) ((.int x_self.2.1) : V) ((.ref a_self_held) : V) ((.ref a_self_lines) : V)), _, rfl, _, _, _, _, rfl, rfl, SqL.of (w0.get (pre := [_, _, _])), f15, _, rfl, _, _, _, _, rfl, rfl, SqL.of (w0.same _ _ q16), f17, _, _, rfl, rfl, c18, ?_⟩
    refine stepN ?_
    try dsimp only
    refine stepRet ?_
    refine joinE hm (fun (j19 : Bool) c H' => c = V.bl j19 ∧ ∃ (F' : Hp), Same F0 F' ∧ W F' H' ((a_self, (.ins (A 24) dx_self (mkfs [("bottom" : Str), ("priced" : Str), ("held" : Str), ("lines" : Str)] [(.int x_self.1), (.int x_self.2.1), (.ref a_self_held), (.ref a_self_lines)]))) :: (dx_self, (.own a_self)) :: (a_self_held, .lst vs_self_held) :: (a_self_lines, .lst vs_self_lines) :: os)) ?_ ?_
    · intro Q19 P19 q19 hm
      refine ⟨_, rfl, _, rfl, _, _, rfl, rfl, _, rfl, ?_⟩
      refine post_ite hm (fun k20 hm => ?_) (fun k20 hm => ?_)
      · skip
        exact q19 _ (post_ok hm) _ _ ⟨rfl, _, Same.refl _, w0⟩
      · skip
        refine joinE hm (fun (j22 : Bool) c H' => c = V.bl j22 ∧ ∃ (F' : Hp), Same F0 F' ∧ W F' H' ((a_self, (.ins (A 24) dx_self (mkfs [("bottom" : Str), ("priced" : Str), ("held" : Str), ("lines" : Str)] [(.int x_self.1), (.int x_self.2.1), (.ref a_self_held), (.ref a_self_lines)]))) :: (dx_self, (.own a_self)) :: (a_self_held, .lst vs_self_held) :: (a_self_lines, .lst vs_self_lines) :: os)) ?_ ?_
        · intro Q22 P22 q22 hm
          refine ⟨_, rfl, _, rfl, _, _, rfl, rfl, _, rfl, ?_⟩
          refine post_ite hm (fun k23 hm => ?_) (fun k23 hm => ?_)
          · skip
            obtain ⟨t24, e24, hm⟩ := pb_get hm
            obtain ⟨u24, f24, r24⟩ := A2.at h_self_held e24
            obtain rfl : u24 = V.int t24 := r24
            obtain ⟨t25, e25, hm⟩ := pb_get hm
            obtain ⟨u25, f25, r25⟩ := A2.at h_self_held e25
            obtain rfl : u25 = V.int t25 := r25
            exact ⟨_, rfl, _, _, _, _, _, rfl, (w0.get (pre := [])), T.cl_Board, T.na_Board_held, (fl_Board_held ((.int x_self.1) : V) ((.int x_self.2.1) : V) ((.ref a_self_held) : V) ((.ref a_self_lines) : V)), _, rfl, _, _, _, _, rfl, rfl, SqL.of (w0.get (pre := [_, _])), f24, _, rfl, _, _, _, _, _, rfl, (w0.get (pre := [])), T.cl_Board, T.na_Board_held, (fl_Board_held ((.int x_self.1) : V) ((.int x_self.2.1) : V) ((.ref a_self_held) : V) ((.ref a_self_lines) : V)), _, rfl, _, _, _, _, rfl, rfl, SqL.of (w0.get (pre := [_, _])), f25, _, _, rfl, rfl, q22 _ (post_ok hm) _ _ ⟨rfl, _, Same.refl _, w0⟩⟩
          · skip
            exact q22 _ (post_ok hm) _ _ ⟨rfl, _, Same.refl _, w0⟩
        intro j22 c22 H22 hc22 hm
        obtain ⟨rfl, F22, s22, w22⟩ := hc22
        replace h_self_held := A2.mono s22 h_self_held
        replace h_self_lines := A2.mono s22 h_self_lines
        replace sF := sF.trans s22
        exact q19 _ (post_ok hm) _ _ ⟨rfl, _, s22, w22⟩
    intro j19 c19 H19 hc19 hm
    obtain ⟨rfl, F19, s19, w19⟩ := hc19
    replace h_self_held := A2.mono s19 h_self_held
    replace h_self_lines := A2.mono s19 h_self_lines
    replace sF := sF.trans s19
    exact (post_ok hm) _ _ _ w19 sF rep_b
def sp_Board_bounding (K : Fg) : Sp := fun vs H Q E => ∃ (F : Hp) (os : List (Addr × HO)) (a_self : Addr) (dx_self : Addr) (C_self : Addr) (a_self_held : Addr) (vs_self_held : List V) (a_self_lines : Addr) (vs_self_lines : List V) (x_self : BoardF) (x_column : Int), vs = [.ref a_self, .int x_column] ∧ W F H ((a_self, .ins C_self dx_self (mkfs [("bottom" : Str), ("priced" : Str), ("held" : Str), ("lines" : Str)] [.int x_self.1, .int x_self.2.1, .ref a_self_held, .ref a_self_lines])) :: (dx_self, .own a_self) :: (a_self_held, .lst vs_self_held) :: (a_self_lines, .lst vs_self_lines) :: os) ∧ Nm K "Board" C_self ∧ A2 (rep K F) vs_self_held x_self.2.2.1 ∧ A2 (rep K F) vs_self_lines x_self.2.2.2.1 ∧ Post (Board_bounding x_self x_column) (fun (y : (Option Int)) => ∀ (v : V) (F' H' : Hp), W F' H' ((a_self, .ins C_self dx_self (mkfs [("bottom" : Str), ("priced" : Str), ("held" : Str), ("lines" : Str)] [.int x_self.1, .int x_self.2.1, .ref a_self_held, .ref a_self_lines])) :: (dx_self, .own a_self) :: (a_self_held, .lst vs_self_held) :: (a_self_lines, .lst vs_self_lines) :: os) → Same F F' → rep K F' v (y : (Option Int)) → Q v H') noX
theorem sc_Board_bounding : FnScope ["self", "column", "best", "at"] ["self", "column"] (defScope s_Board_bounding) := ⟨rfl, rfl, rfl, by decide +kernel, rfl, by decide +kernel, by decide +kernel⟩
theorem ok_Board_bounding (T : Tx K mg A FD) : FnOk P w K mg base CX0 2 (A 25003) (FD 25003) ["self", "column"] (sp_Board_bounding K) := by
  refine T.d25003.fn.ok sc_Board_bounding (fun vs H Q E h => ?_) (fun cdv Ar outer s H vs Q E hr h => ?_)
  · obtain ⟨F, os, a_self, dx_self, C_self, a_self_held, vs_self_held, a_self_lines, vs_self_lines, x_self, x_column, rfl, _⟩ := h
    rfl
  · obtain ⟨F0, os, a_self, dx_self, C_self, a_self_held, vs_self_held, a_self_lines, vs_self_lines, x_self, x_column, rfl, w0, n_self, h_self_held, h_self_lines, hm⟩ := h
    have sF : Same F0 F0 := Same.refl _
    obtain rfl := n_self.uniq T.nm_Board
    refine ⟨_, (pss_cons (ps_set (i := 2) sc_Board_bounding.nd rfl (Or.inl rfl) pe_non1) (pss_cons (ps_for PassesOwn.never rfl (pi_range1 (by rfl) T.n_range (pa_cons (pe_callB (call_lenN (K := K) rfl) (by rfl) T.n_len (by decide +kernel) (pa_cons (pe_fld (pv 0) (by rfl)) pa_nil)) pa_nil)) (pg_name (i := 3) sc_Board_bounding.nd rfl (Or.inl rfl)) (pss_one (ps_if (pt_cmp (pc_gt (pe_ix (ix_listK (K := K) rfl) (pe_ix (ix_listK (K := K) rfl) (pe_fld (pv 0) (by rfl)) (pv 3) (fun _ _ => rfl)) (pv 1) (fun _ _ => rfl)) pe_int)) (pss_one (ps_if (PW.pt (pw_or (pt_cmpR op_isN2 (pv 2) pe_non (nomark _)) (pw_or1 (pt_val (pe_meth (pl := _) (pv 0) T.cl_Board T.d25002.mt (ok_Board_bounds_more T) (hr.mono (by decide)) T.d25002.b .nil pass0 (pa_cons (pv 3) (pa_cons (pv 2) (pa_cons (pv 1) pa_nil)))))))) (pss_one (ps_set (i := 2) sc_Board_bounding.nd rfl (Or.inl rfl) (pv 3))) pss_nil)) pss_nil))) (pss_one (ps_ret (pv 2))))), ?_⟩
    have r5 : rep K F0 .non (none : (Option Int)) := rep_none
    obtain ⟨c7, hm⟩ := pb_rng hm
    refine ⟨trivial, _, rfl, _, _, _, _, _, rfl, (w0.get (pre := [])), T.cl_Board, T.na_Board_held, (fl_Board_held ((.int x_self.1) : V) ((.int x_self.2.1) : V) ((.ref a_self_held) : V) ((.ref a_self_lines) : V)), _, _, _, rfl, .inl (SqL.of (w0.get (pre := [_, _]))), h_self_held.length, _, rfl, c7.2.2.1, c7.2.2.2, ?_⟩
    refine forS (tw_rng0 (j := (x_self.2.2.1.length : Int))) hm (fun (g6 : (Option Int)) σ H' => ∃ (F' : Hp) (v6_2 : V) (o6_3 : Option V), σ = [some (.ref a_self), some (.int x_column), some v6_2, o6_3] ∧ Same F0 F' ∧ W F' H' ((a_self, (.ins (A 24) dx_self (mkfs [("bottom" : Str), ("priced" : Str), ("held" : Str), ("lines" : Str)] [(.int x_self.1), (.int x_self.2.1), (.ref a_self_held), (.ref a_self_lines)]))) :: (dx_self, (.own a_self)) :: (a_self_held, .lst vs_self_held) :: (a_self_lines, .lst vs_self_lines) :: os) ∧ rep K F' v6_2 (g6 : (Option Int))) ⟨_, _, _, rfl, Same.refl _, w0, r5⟩ (fun _ _ _ _ => trivial) ?_ ?_
    · -- a turn
      intro b6 g6 x6 σ6 H6 H6' N6 P6 hI hy hN6 hm
      obtain ⟨F6, v6_2, o6_3, rfl, s6, w6, r6_2⟩ := hI
      replace r5 := Rep.mono s6 r5
      replace h_self_held := A2.mono s6 h_self_held
      replace h_self_lines := A2.mono s6 h_self_lines
      replace sF := sF.trans s6
      obtain ⟨rfl, rfl⟩ := hy
      obtain ⟨t9, e9, hm⟩ := pb_get hm
      obtain ⟨u9, f9, r9⟩ := A2.at h_self_lines e9
      obtain ⟨a10, vs10, rfl, q10, h10⟩ := r9
      obtain ⟨t11, e11, hm⟩ := pb_get hm
      obtain ⟨u11, f11, r11⟩ := A2.at h10 e11
      obtain rfl : u11 = V.int t11 := r11
      refine ⟨_, rfl, _, _, _, _, _, rfl, (w6.get (pre := [])), T.cl_Board, T.na_Board_lines, (fl_Board_lines ((.int x_self.1) : V) ((.int x_self.2.1) : V) ((.ref a_self_held) : V) ((.ref a_self_lines) : V)), _, rfl, _, _, _, _, rfl, rfl, SqL.of (w6.get (pre := [_, _, _])), f9, _, rfl, _, _, _, _, rfl, rfl, SqL.of (w6.same _ _ q10), f11, _, _, rfl, rfl, _, rfl, ?_⟩
      refine post_ite hm (fun k12 hm => ?_) (fun k12 hm => ?_)
      · skip
        try dsimp only
        refine stepIf ?_
        refine joinT hm (fun (j13 : Bool) c H' => c = j13 ∧ ∃ (F' : Hp), Same F6 F' ∧ W F' H' ((a_self, (.ins (A 24) dx_self (mkfs [("bottom" : Str), ("priced" : Str), ("held" : Str), ("lines" : Str)] [(.int x_self.1), (.int x_self.2.1), (.ref a_self_held), (.ref a_self_lines)]))) :: (dx_self, (.own a_self)) :: (a_self_held, .lst vs_self_held) :: (a_self_lines, .lst vs_self_lines) :: os)) ?_ ?_
        · intro Q13 P13 q13 hm
          refine ⟨_, rfl, rfl, _, isN_eq r6_2, _, rfl, ?_⟩
          refine post_ite hm (fun k14 hm => ?_) (fun k14 hm => ?_)
          · skip
            exact q13 _ (post_ok hm) _ _ ⟨rfl, _, Same.refl _, w6⟩
          · skip
            obtain ⟨t16, e16, hm⟩ := pb_ofO hm
            have r16 : rep K F6 v6_2 (some t16) := e16 ▸ r6_2
            replace r16 : v6_2 = V.int t16 := r16
            subst r16
            have w17 : W F6 _ ((a_self_lines, .lst vs_self_lines) :: (a_self, (.ins (A 24) dx_self (mkfs [("bottom" : Str), ("priced" : Str), ("held" : Str), ("lines" : Str)] [(.int x_self.1), (.int x_self.2.1), (.ref a_self_held), (.ref a_self_lines)]))) :: (dx_self, (.own a_self)) :: (a_self_held, .lst vs_self_held) :: os) := w6.front (pre := [_, _, _])
            have w18 : W F6 _ ((a_self_held, .lst vs_self_held) :: (a_self_lines, .lst vs_self_lines) :: (a_self, (.ins (A 24) dx_self (mkfs [("bottom" : Str), ("priced" : Str), ("held" : Str), ("lines" : Str)] [(.int x_self.1), (.int x_self.2.1), (.ref a_self_held), (.ref a_self_lines)]))) :: (dx_self, (.own a_self)) :: os) := w17.front (pre := [_, _, _])
            have w19 : W F6 _ ((dx_self, (.own a_self)) :: (a_self_held, .lst vs_self_held) :: (a_self_lines, .lst vs_self_lines) :: (a_self, (.ins (A 24) dx_self (mkfs [("bottom" : Str), ("priced" : Str), ("held" : Str), ("lines" : Str)] [(.int x_self.1), (.int x_self.2.1), (.ref a_self_held), (.ref a_self_lines)]))) :: os) := w18.front (pre := [_, _, _])
            have w20 : W F6 _ ((a_self, (.ins (A 24) dx_self (mkfs [("bottom" : Str), ("priced" : Str), ("held" : Str), ("lines" : Str)] [(.int x_self.1), (.int x_self.2.1), (.ref a_self_held), (.ref a_self_lines)]))) :: (dx_self, (.own a_self)) :: (a_self_held, .lst vs_self_held) :: (a_self_lines, .lst vs_self_lines) :: os) := w19.front (pre := [_, _, _])
            refine ⟨_, rfl, _, _, _, rfl, (w6.get (pre := [])), fm0_Board_bounds_more ((.int x_self.1) : V) ((.int x_self.2.1) : V) ((.ref a_self_held) : V) ((.ref a_self_lines) : V), _, rfl, _, rfl, _, rfl, _, _, _, _, _, _, _, _, _, ((x_self.1, x_self.2.1, x_self.2.2.1, x_self.2.2.2.1, ()) : BoardF), _, _, _, rfl, w20, T.nm_Board, h_self_held, h_self_lines, ?_⟩
            refine (post_bind hm).mono (fun y21 hm v21 F21 H21 w21 s21 r21 => ?_) (fun _ z => z)
            replace r6_2 := Rep.mono s21 r6_2
            replace h_self_held := A2.mono s21 h_self_held
            replace h_self_lines := A2.mono s21 h_self_lines
            replace q10 := s21 _ _ q10
            replace h10 := A2.mono s21 h10
            replace sF := sF.trans s21
            obtain rfl : v21 = V.bl y21 := r21
            exact ⟨_, rfl, q13 _ (post_ok hm) _ _ ⟨rfl, _, s21, w21⟩⟩
        intro j13 c13 H13 hc13 hm
        obtain ⟨rfl, F13, s13, w13⟩ := hc13
        replace r6_2 := Rep.mono s13 r6_2
        replace h_self_held := A2.mono s13 h_self_held
        replace h_self_lines := A2.mono s13 h_self_lines
        replace q10 := s13 _ _ q10
        replace h10 := A2.mono s13 h10
        replace sF := sF.trans s13
        refine post_ite hm (fun k23 hm => ?_) (fun k23 hm => ?_)
        · skip
          have r24 : rep K F13 (.int b6) ((some b6) : (Option Int)) := (rep_some rep_i)
          exact ⟨_, rfl, hN6 _ (post_ok hm) _ _ ⟨_, _, _, rfl, (s6.trans s13), w13, r24⟩⟩
        · skip
          exact hN6 _ (post_ok hm) _ _ ⟨_, _, _, rfl, (s6.trans s13), w13, r6_2⟩
      · skip
        exact hN6 _ (post_ok hm) _ _ ⟨_, _, _, rfl, s6, w6, r6_2⟩
    intro g6 σ6 H6 hI hm
    obtain ⟨F6, v6_2, o6_3, rfl, s6, w6, r6_2⟩ := hI
    replace r5 := Rep.mono s6 r5
    replace h_self_held := A2.mono s6 h_self_held
    replace h_self_lines := A2.mono s6 h_self_lines
    replace sF := sF.trans s6
    exact ⟨_, rfl, (post_ok hm) _ _ _ w6 sF r6_2⟩
def sp_Board_turn_in (K : Fg) : Sp := fun vs H Q E => ∃ (F : Hp) (os : List (Addr × HO)) (a_self : Addr) (dx_self : Addr) (C_self : Addr) (a_self_held : Addr) (vs_self_held : List V) (a_self_lines : Addr) (vs_self_lines : List V) (x_self : BoardF) (x_at : Int) (x_column : Int), vs = [.ref a_self, .int x_at, .int x_column] ∧ W F H ((a_self, .ins C_self dx_self (mkfs [("bottom" : Str), ("priced" : Str), ("held" : Str), ("lines" : Str)] [.int x_self.1, .int x_self.2.1, .ref a_self_held, .ref a_self_lines])) :: (dx_self, .own a_self) :: (a_self_held, .lst vs_self_held) :: (a_self_lines, .lst vs_self_lines) :: os) ∧ Nm K "Board" C_self ∧ A2 (rep K F) vs_self_held x_self.2.2.1 ∧ A2 (rep K F) vs_self_lines x_self.2.2.2.1 ∧ Post (Board_turn_in x_self x_at x_column) (fun (y : (Unit × (List Int) × (List (List Int)) × Int)) => ∀ (v : V) (zs_self_held : List V) (zs_self_lines : List V) (F' H' : Hp), W F' H' ((a_self, .ins C_self dx_self (mkfs [("bottom" : Str), ("priced" : Str), ("held" : Str), ("lines" : Str)] [.int y.2.2.2, .int x_self.2.1, .ref a_self_held, .ref a_self_lines])) :: (dx_self, .own a_self) :: (a_self_held, .lst zs_self_held) :: (a_self_lines, .lst zs_self_lines) :: os) → Same F F' → rep K F' v (y.1 : Unit) → A2 (rep K F') zs_self_held y.2.1 → A2 (rep K F') zs_self_lines y.2.2.1 → Q v H') noX
theorem sc_Board_turn_in : FnScope ["self", "at", "column", "by", "held", "other", "line", "k"] ["self", "at", "column"] (defScope s_Board_turn_in) := ⟨rfl, rfl, rfl, by decide +kernel, rfl, by decide +kernel, by decide +kernel⟩
theorem ok_Board_turn_in (T : Tx K mg A FD) : FnOk P w K mg base CX0 1 (A 25004) (FD 25004) ["self", "at", "column"] (sp_Board_turn_in K) := by
  refine T.d25004.fn.ok sc_Board_turn_in (fun vs H Q E h => ?_) (fun cdv Ar outer s H vs Q E hr h => ?_)
  · obtain ⟨F, os, a_self, dx_self, C_self, a_self_held, vs_self_held, a_self_lines, vs_self_lines, x_self, x_at, x_column, rfl, _⟩ := h
    rfl
  · obtain ⟨F0, os, a_self, dx_self, C_self, a_self_held, vs_self_held, a_self_lines, vs_self_lines, x_self, x_at, x_column, rfl, w0, n_self, h_self_held, h_self_lines, hm⟩ := h
    have sF : Same F0 F0 := Same.refl _
    obtain rfl := n_self.uniq T.nm_Board
    refine ⟨_, (pss_cons (ps_set (i := 3) sc_Board_turn_in.nd rfl (Or.inr rfl) (pe_ix (ix_listK (K := K) rfl) (pe_ix (ix_listK (K := K) rfl) (pe_fld (pv 0) (by rfl)) (pv 1) (fun _ _ => rfl)) (pv 2) (fun _ _ => rfl))) (pss_cons (ps_set (i := 4) sc_Board_turn_in.nd rfl (Or.inr rfl) (pe_ix (ix_listK (K := K) rfl) (pe_fld (pv 0) (by rfl)) (pv 1) (fun _ _ => rfl))) (pss_cons (ps_for PassesOwn.never rfl (pi_range1 (by rfl) T.n_range (pa_cons (pe_callB (call_lenN (K := K) rfl) (by rfl) T.n_len (by decide +kernel) (pa_cons (pe_fld (pv 0) (by rfl)) pa_nil)) pa_nil)) (pg_name (i := 5) sc_Board_turn_in.nd rfl (Or.inl rfl)) (pss_one (ps_if (pt_cmp (pc_neI (pv 5) (pv 1))) (pss_cons (ps_set (i := 6) sc_Board_turn_in.nd rfl (Or.inr rfl) (pe_ix (ix_listK (K := K) rfl) (pe_fld (pv 0) (by rfl)) (pv 5) (fun _ _ => rfl))) (pss_one (ps_asg (pe_lc (own := [("k", 7)]) (g := gName 7) (by rfl) sc_Board_turn_in.nd (pi_range1 (by rfl) T.n_range (pa_cons (pe_callB (call_lenN (K := K) rfl) (by rfl) T.n_len (by decide +kernel) (pa_cons (pv 6) pa_nil)) pa_nil)) (blkOk_by (own := [("k", 7)]) (N := ["self", "at", "column", "by", "held", "other", "line", "k"]) (sc := defScope s_Board_turn_in) (by decide +kernel)) (fun _ _ _ _ _ => (pg_name (i := 7) sc_Board_turn_in.nd rfl (Or.inl rfl))) (fun _ _ _ _ _ => pts_nil) (fun _ _ _ _ _ => (pe_op op_fdivW (pe_op op_sub (pe_op op_mul (pe_ix (ix_listK (K := K) rfl) (pv 6) (pv 7) (fun _ _ => rfl)) (pv 3)) (pe_op op_mul (pe_ix (ix_listK (K := K) rfl) (pv 6) (pv 2) (fun _ _ => rfl)) (pe_ix (ix_listK (K := K) rfl) (pv 4) (pv 7) (fun _ _ => rfl)))) (pe_k (K := K) (t := fun K => tFld K _ _) rfl (pe_fld (pv 0) (by rfl)))))) (pg_sub (pe_fld (pv 0) (by rfl)) (pv 5) set_list)))) pss_nil))) (pss_cons (ps_fld (pv 0) (pv 3) (by rfl)) (pss_one (ps_asg (pv 2) (pg_sub (pe_fld (pv 0) (by rfl)) (pv 1) set_list))))))), ?_⟩
    obtain ⟨t5, e5, hm⟩ := pb_get hm
    obtain ⟨u5, f5, r5⟩ := A2.at h_self_lines e5
    obtain ⟨a6, vs6, rfl, q6, h6⟩ := r5
    obtain ⟨t7, e7, hm⟩ := pb_get hm
    obtain ⟨u7, f7, r7⟩ := A2.at h6 e7
    obtain rfl : u7 = V.int t7 := r7
    obtain ⟨t8, e8, hm⟩ := pb_get hm
    obtain ⟨u8, f8, r8⟩ := A2.at h_self_lines e8
    obtain ⟨a9, vs9, rfl, q9, h9⟩ := r8
    obtain ⟨c11, hm⟩ := pb_rng hm
    refine ⟨_, rfl, _, _, _, _, _, rfl, (w0.get (pre := [])), T.cl_Board, T.na_Board_lines, (fl_Board_lines ((.int x_self.1) : V) ((.int x_self.2.1) : V) ((.ref a_self_held) : V) ((.ref a_self_lines) : V)), _, rfl, _, _, _, _, rfl, rfl, SqL.of (w0.get (pre := [_, _, _])), f5, _, rfl, _, _, _, _, rfl, rfl, SqL.of (w0.same _ _ q6), f7, _, rfl, _, _, _, _, _, rfl, (w0.get (pre := [])), T.cl_Board, T.na_Board_lines, (fl_Board_lines ((.int x_self.1) : V) ((.int x_self.2.1) : V) ((.ref a_self_held) : V) ((.ref a_self_lines) : V)), _, rfl, _, _, _, _, rfl, rfl, SqL.of (w0.get (pre := [_, _, _])), f8, _, rfl, _, _, _, _, _, rfl, (w0.get (pre := [])), T.cl_Board, T.na_Board_lines, (fl_Board_lines ((.int x_self.1) : V) ((.int x_self.2.1) : V) ((.ref a_self_held) : V) ((.ref a_self_lines) : V)), _, _, _, rfl, .inl (SqL.of (w0.get (pre := [_, _, _]))), h_self_lines.length, _, rfl, c11.2.2.1, c11.2.2.2, ?_⟩
    refine forS (tw_rng0 (j := (x_self.2.2.2.1.length : Int))) hm (fun (g10 : (List (List Int))) σ H' => ∃ (F' : Hp) (vs10_0 : List V) (o10_6 : Option V) (o10_5 : Option V), σ = [some (.ref a_self), some (.int x_at), some (.int x_column), some (.int t7), some (.ref a9), o10_5, o10_6, none] ∧ Same F0 F' ∧ W F' H' ((a_self, (.ins (A 24) dx_self (mkfs [("bottom" : Str), ("priced" : Str), ("held" : Str), ("lines" : Str)] [(.int x_self.1), (.int x_self.2.1), (.ref a_self_held), (.ref a_self_lines)]))) :: (dx_self, (.own a_self)) :: (a_self_held, .lst vs_self_held) :: (a_self_lines, .lst vs10_0) :: os) ∧ A2 (rep K F') vs10_0 g10) ⟨_, _, _, _, rfl, Same.refl _, w0, h_self_lines⟩ (fun _ _ _ _ => trivial) ?_ ?_
    · -- a turn
      intro b10 g10 x10 σ10 H10 H10' N10 P10 hI hy hN10 hm
      obtain ⟨F10, vs10_0, o10_6, o10_5, rfl, s10, w10, h10_0⟩ := hI
      replace h9 := A2.mono s10 h9
      replace q9 := s10 _ _ q9
      replace h_self_held := A2.mono s10 h_self_held
      replace sF := sF.trans s10
      obtain ⟨rfl, rfl⟩ := hy
      refine ⟨_, rfl, _, rfl, _, _, rfl, rfl, _, rfl, ?_⟩
      refine post_ite hm (fun k12 hm => ?_) (fun k12 hm => ?_)
      · skip
        obtain ⟨t13, e13, hm⟩ := pb_get hm
        obtain ⟨u13, f13, r13⟩ := A2.at h10_0 e13
        obtain ⟨a14, vs14, rfl, q14, h14⟩ := r13
        obtain ⟨c15, hm⟩ := pb_rng hm
        refine ⟨_, rfl, _, _, _, _, _, rfl, (w10.get (pre := [])), T.cl_Board, T.na_Board_lines, (fl_Board_lines ((.int x_self.1) : V) ((.int x_self.2.1) : V) ((.ref a_self_held) : V) ((.ref a_self_lines) : V)), _, rfl, _, _, _, _, rfl, rfl, SqL.of (w10.get (pre := [_, _, _])), f13, _, rfl, _, _, _, rfl, .inl (SqL.of (w10.same _ _ q14)), h14.length, _, rfl, c15.2.2.1, c15.2.2.2, fun D16 nD16 => ?_⟩
        refine lcM (K := K) (tw_rng0 (j := (t13.length : Int))) hm w10 nD16 (fun F' H' acc s w => trivial) ?_ ?_
        · -- one turn
          intro b16 x16 F16 H16 H16' acc16 N16 P16 s16 w16 y16 hN16 hm
          replace h9 := A2.mono s16 h9
          replace q9 := s16 _ _ q9
          replace h14 := A2.mono s16 h14
          replace q14 := s16 _ _ q14
          replace h_self_held := A2.mono s16 h_self_held
          replace h10_0 := A2.mono s16 h10_0
          replace sF := sF.trans s16
          obtain ⟨rfl, rfl⟩ := y16
          obtain ⟨t18, e18, hm⟩ := pb_get hm
          obtain ⟨u18, f18, r18⟩ := A2.at h14 e18
          obtain rfl : u18 = V.int t18 := r18
          obtain ⟨c19, hm⟩ := pb_mul hm
          obtain ⟨t20, e20, hm⟩ := pb_get hm
          obtain ⟨u20, f20, r20⟩ := A2.at h14 e20
          obtain rfl : u20 = V.int t20 := r20
          obtain ⟨t21, e21, hm⟩ := pb_get hm
          obtain ⟨u21, f21, r21⟩ := A2.at h9 e21
          obtain rfl : u21 = V.int t21 := r21
          obtain ⟨c22, hm⟩ := pb_mul hm
          obtain ⟨c23, hm⟩ := pb_div hm
          exact ⟨rfl, _, rfl, _, rfl, _, _, _, _, rfl, rfl, SqL.of (w16.same _ _ q14), f18, _, rfl, _, _, rfl, rfl, c19, _, rfl, _, rfl, _, _, _, _, rfl, rfl, SqL.of (w16.same _ _ q14), f20, _, rfl, _, rfl, _, _, _, _, rfl, rfl, SqL.of (w16.same _ _ q9), f21, _, _, rfl, rfl, c22, _, _, rfl, rfl, _, rfl, _, _, _, _, _, rfl, (w16.get (pre := [_])), T.cl_Board, T.na_Board_bottom, (fl_Board_bottom ((.int x_self.1) : V) ((.int x_self.2.1) : V) ((.ref a_self_held) : V) ((.ref a_self_lines) : V)), _, _, rfl, rfl, c23, hN16 _ (post_ok hm) _ _ _ w16 (Same.refl _) rep_i⟩
        intro us16 F16 H16 ys16 s16 w16 gg16 hm
        replace h9 := A2.mono s16 h9
        replace q9 := s16 _ _ q9
        replace h14 := A2.mono s16 h14
        replace q14 := s16 _ _ q14
        replace h_self_held := A2.mono s16 h_self_held
        replace h10_0 := A2.mono s16 h10_0
        replace sF := sF.trans s16
        obtain ⟨F25, s25, w25, q25⟩ : ∃ F', Same F16 F' ∧ W F' _ ((a_self, (.ins (A 24) dx_self (mkfs [("bottom" : Str), ("priced" : Str), ("held" : Str), ("lines" : Str)] [(.int x_self.1), (.int x_self.2.1), (.ref a_self_held), (.ref a_self_lines)]))) :: (dx_self, (.own a_self)) :: (a_self_held, .lst vs_self_held) :: (a_self_lines, .lst vs10_0) :: os) ∧ F' D16 = some (.lst us16) := w16.freezeE (pre := [])
        replace h9 := A2.mono s25 h9
        replace q9 := s25 _ _ q9
        replace h14 := A2.mono s25 h14
        replace q14 := s25 _ _ q14
        replace h_self_held := A2.mono s25 h_self_held
        replace h10_0 := A2.mono s25 h10_0
        replace gg16 := A2.mono s25 gg16
        replace sF := sF.trans s25
        obtain ⟨j26, l26, z26, e26, hm⟩ := pn_set hm
        refine ⟨_, rfl, _, _, _, _, _, rfl, (w25.get (pre := [])), T.cl_Board, T.na_Board_lines, (fl_Board_lines ((.int x_self.1) : V) ((.int x_self.2.1) : V) ((.ref a_self_held) : V) ((.ref a_self_lines) : V)), _, rfl, _, _, _, _, rfl, rfl, (w25.get (pre := [_, _, _])), (A2.ix h10_0 z26), ?_⟩
        have h26 : A2 (rep K F25) (vs10_0.set j26 (V.ref D16)) l26 := e26 ▸ A2.set (rep_lst q25 gg16) j26 h10_0
        have w27 : W F25 _ ((a_self, (.ins (A 24) dx_self (mkfs [("bottom" : Str), ("priced" : Str), ("held" : Str), ("lines" : Str)] [(.int x_self.1), (.int x_self.2.1), (.ref a_self_held), (.ref a_self_lines)]))) :: (dx_self, (.own a_self)) :: (a_self_held, .lst vs_self_held) :: (a_self_lines, .lst (vs10_0.set j26 (V.ref D16))) :: os) := w25.set (pre := [_, _, _])
        exact hN10 _ (post_ok hm) _ _ ⟨_, _, _, _, rfl, (s10.trans (s16.trans s25)), w27, h26⟩
      · skip
        exact hN10 _ (post_ok hm) _ _ ⟨_, _, _, _, rfl, s10, w10, h10_0⟩
    intro g10 σ10 H10 hI hm
    obtain ⟨F10, vs10_0, o10_6, o10_5, rfl, s10, w10, h10_0⟩ := hI
    replace h9 := A2.mono s10 h9
    replace q9 := s10 _ _ q9
    replace h_self_held := A2.mono s10 h_self_held
    replace sF := sF.trans s10
    refine ⟨_, rfl, _, rfl, _, _, _, _, rfl, (w10.get (pre := [])), T.cl_Board, T.na_Board_bottom, (fz0_Board ((.int x_self.1) : V) ((.int x_self.2.1) : V) ((.ref a_self_held) : V) ((.ref a_self_lines) : V)), ?_⟩
    have w28a := w10.set (o' := .ins (A 24) dx_self (putF ("bottom" : Str) (.int t7) (mkfs [("bottom" : Str), ("priced" : Str), ("held" : Str), ("lines" : Str)] [(.int x_self.1), (.int x_self.2.1), (.ref a_self_held), (.ref a_self_lines)]))) (pre := [])
    have w28 : W F10 _ ((a_self, (.ins (A 24) dx_self (mkfs [("bottom" : Str), ("priced" : Str), ("held" : Str), ("lines" : Str)] [(.int t7), (.int x_self.2.1), (.ref a_self_held), (.ref a_self_lines)]))) :: (dx_self, (.own a_self)) :: (a_self_held, .lst vs_self_held) :: (a_self_lines, .lst vs10_0) :: os) := w28a.reho (pre := []) (congrArg (HO.ins (A 24) dx_self) (fp_Board_bottom ((.int t7) : V) ((.int x_self.1) : V) ((.int x_self.2.1) : V) ((.ref a_self_held) : V) ((.ref a_self_lines) : V)))
    obtain ⟨j29, l29, z29, e29, hm⟩ := pn_set hm
    refine ⟨_, rfl, _, rfl, _, _, _, _, _, rfl, (w28.get (pre := [])), T.cl_Board, T.na_Board_held, (fl_Board_held ((.int t7) : V) ((.int x_self.2.1) : V) ((.ref a_self_held) : V) ((.ref a_self_lines) : V)), _, rfl, _, _, _, _, rfl, rfl, (w28.get (pre := [_, _])), (A2.ix h_self_held z29), ?_⟩
    have h29 : A2 (rep K F10) (vs_self_held.set j29 (V.int x_column)) l29 := e29 ▸ A2.set rep_i j29 h_self_held
    have w30 : W F10 _ ((a_self, (.ins (A 24) dx_self (mkfs [("bottom" : Str), ("priced" : Str), ("held" : Str), ("lines" : Str)] [(.int t7), (.int x_self.2.1), (.ref a_self_held), (.ref a_self_lines)]))) :: (dx_self, (.own a_self)) :: (a_self_held, .lst (vs_self_held.set j29 (V.int x_column))) :: (a_self_lines, .lst vs10_0) :: os) := w28.set (pre := [_, _])
    exact (post_ok hm) _ _ _ _ _ w30 sF rep_n h29 h10_0
def sp_Board_solve (K : Fg) : Sp := fun vs H Q E => ∃ (F : Hp) (os : List (Addr × HO)) (a_self : Addr) (dx_self : Addr) (C_self : Addr) (a_self_held : Addr) (vs_self_held : List V) (a_self_lines : Addr) (vs_self_lines : List V) (x_self : BoardF), vs = [.ref a_self] ∧ W F H ((a_self, .ins C_self dx_self (mkfs [("bottom" : Str), ("priced" : Str), ("held" : Str), ("lines" : Str)] [.int x_self.1, .int x_self.2.1, .ref a_self_held, .ref a_self_lines])) :: (dx_self, .own a_self) :: (a_self_held, .lst vs_self_held) :: (a_self_lines, .lst vs_self_lines) :: os) ∧ Nm K "Board" C_self ∧ A2 (rep K F) vs_self_held x_self.2.2.1 ∧ A2 (rep K F) vs_self_lines x_self.2.2.2.1 ∧ Post (Board_solve x_self) (fun (y : (Unit × (List Int) × (List (List Int)) × Int)) => ∀ (v : V) (zs_self_held : List V) (zs_self_lines : List V) (F' H' : Hp), W F' H' ((a_self, .ins C_self dx_self (mkfs [("bottom" : Str), ("priced" : Str), ("held" : Str), ("lines" : Str)] [.int y.2.2.2, .int x_self.2.1, .ref a_self_held, .ref a_self_lines])) :: (dx_self, .own a_self) :: (a_self_held, .lst zs_self_held) :: (a_self_lines, .lst zs_self_lines) :: os) → Same F F' → rep K F' v (y.1 : Unit) → A2 (rep K F') zs_self_held y.2.1 → A2 (rep K F') zs_self_lines y.2.2.1 → Q v H') noX
theorem sc_Board_solve : FnScope ["self", "column"] ["self"] (defScope s_Board_solve) := ⟨rfl, rfl, rfl, by decide +kernel, rfl, by decide +kernel, by decide +kernel⟩
theorem ok_Board_solve (T : Tx K mg A FD) : FnOk P w K mg base CX0 3 (A 25005) (FD 25005) ["self"] (sp_Board_solve K) := by
  refine T.d25005.fn.ok sc_Board_solve (fun vs H Q E h => ?_) (fun cdv Ar outer s H vs Q E hr h => ?_)
  · obtain ⟨F, os, a_self, dx_self, C_self, a_self_held, vs_self_held, a_self_lines, vs_self_lines, x_self, rfl, _⟩ := h
    rfl
  · obtain ⟨F0, os, a_self, dx_self, C_self, a_self_held, vs_self_held, a_self_lines, vs_self_lines, x_self, rfl, w0, n_self, h_self_held, h_self_lines, hm⟩ := h
    have sF : Same F0 F0 := Same.refl _
    obtain rfl := n_self.uniq T.nm_Board
    refine ⟨_, (pss_cons (ps_set (i := 1) sc_Board_solve.nd rfl (Or.inl rfl) (pe_meth0 (pl := _) (pv 0) T.cl_Board T.d25001.mt (ok_Board_growing T) (hr.mono (by decide)) T.d25001.b .nil pass0)) (pss_one (ps_while PassesOwn.never (pt_cmpR op_notN2 (pv 1) pe_non (nomark _)) (pss_cons (ps_expr (pe_meth (pl := _) (pv 0) T.cl_Board T.d25004.mt (ok_Board_turn_in T) (hr.mono (by decide)) T.d25004.b .nil pass0 (pa_cons (pe_meth (pl := _) (pv 0) T.cl_Board T.d25003.mt (ok_Board_bounding T) (hr.mono (by decide)) T.d25003.b .nil pass0 (pa_cons (pv 1) pa_nil)) (pa_cons (pv 1) pa_nil)))) (pss_one (ps_set (i := 1) sc_Board_solve.nd rfl (Or.inl rfl) (pe_meth0 (pl := _) (pv 0) T.cl_Board T.d25001.mt (ok_Board_growing T) (hr.mono (by decide)) T.d25001.b .nil pass0))))))), ?_⟩
    have w5 : W F0 _ ((a_self_lines, .lst vs_self_lines) :: (a_self, (.ins (A 24) dx_self (mkfs [("bottom" : Str), ("priced" : Str), ("held" : Str), ("lines" : Str)] [(.int x_self.1), (.int x_self.2.1), (.ref a_self_held), (.ref a_self_lines)]))) :: (dx_self, (.own a_self)) :: (a_self_held, .lst vs_self_held) :: os) := w0.front (pre := [_, _, _])
    have w6 : W F0 _ ((a_self_held, .lst vs_self_held) :: (a_self_lines, .lst vs_self_lines) :: (a_self, (.ins (A 24) dx_self (mkfs [("bottom" : Str), ("priced" : Str), ("held" : Str), ("lines" : Str)] [(.int x_self.1), (.int x_self.2.1), (.ref a_self_held), (.ref a_self_lines)]))) :: (dx_self, (.own a_self)) :: os) := w5.front (pre := [_, _, _])
    have w7 : W F0 _ ((dx_self, (.own a_self)) :: (a_self_held, .lst vs_self_held) :: (a_self_lines, .lst vs_self_lines) :: (a_self, (.ins (A 24) dx_self (mkfs [("bottom" : Str), ("priced" : Str), ("held" : Str), ("lines" : Str)] [(.int x_self.1), (.int x_self.2.1), (.ref a_self_held), (.ref a_self_lines)]))) :: os) := w6.front (pre := [_, _, _])
    have w8 : W F0 _ ((a_self, (.ins (A 24) dx_self (mkfs [("bottom" : Str), ("priced" : Str), ("held" : Str), ("lines" : Str)] [(.int x_self.1), (.int x_self.2.1), (.ref a_self_held), (.ref a_self_lines)]))) :: (dx_self, (.own a_self)) :: (a_self_held, .lst vs_self_held) :: (a_self_lines, .lst vs_self_lines) :: os) := w7.front (pre := [_, _, _])
    refine ⟨_, rfl, _, _, _, rfl, (w0.get (pre := [])), fm0_Board_growing ((.int x_self.1) : V) ((.int x_self.2.1) : V) ((.ref a_self_held) : V) ((.ref a_self_lines) : V), _, _, _, _, _, _, _, _, _, ((x_self.1, x_self.2.1, x_self.2.2.1, x_self.2.2.2.1, ()) : BoardF), rfl, w8, T.nm_Board, h_self_held, h_self_lines, ?_⟩
    refine (post_bind hm).mono (fun y9 hm v9 F9 H9 w9 s9 r9 => ?_) (fun _ z => z)
    replace h_self_held := A2.mono s9 h_self_held
    replace h_self_lines := A2.mono s9 h_self_lines
    replace sF := sF.trans s9
    refine stepN ?_
    try dsimp only
    refine (whileS hm (fun (g11 : Int × (Option Int) × (List Int) × (List (List Int))) σ H' => ∃ (F' : Hp) (v11_1 : V) (vs11_0 : List V) (vs11_1 : List V), σ = [some (.ref a_self), some v11_1] ∧ Same F9 F' ∧ W F' H' ((a_self, (.ins (A 24) dx_self (mkfs [("bottom" : Str), ("priced" : Str), ("held" : Str), ("lines" : Str)] [(.int g11.1), (.int x_self.2.1), (.ref a_self_held), (.ref a_self_lines)]))) :: (dx_self, (.own a_self)) :: (a_self_held, .lst vs11_0) :: (a_self_lines, .lst vs11_1) :: os) ∧ rep K F' v11_1 (g11.2.1 : (Option Int)) ∧ A2 (rep K F') vs11_0 g11.2.2.1 ∧ A2 (rep K F') vs11_1 g11.2.2.2) ⟨_, _, _, _, rfl, Same.refl _, w9, r9, h_self_held, h_self_lines⟩ ?_ ?_ ?_)
    · intro g11 σ11 H11 N11 P11 hI hN11 hm
      obtain ⟨F11, v11_1, vs11_0, vs11_1, rfl, s11, w11, r11_1, h11_0, h11_1⟩ := hI
      replace r9 := Rep.mono s11 r9
      replace sF := sF.trans s11
      exact ⟨_, rfl, rfl, _, isN_eq r11_1, _, rfl, hN11 _ (post_ok hm) _ ⟨_, _, _, _, rfl, s11, w11, r11_1, h11_0, h11_1⟩⟩
    · intro g11 σ11 H11 N11 P11 hI hN11 hm
      obtain ⟨F11, v11_1, vs11_0, vs11_1, rfl, s11, w11, r11_1, h11_0, h11_1⟩ := hI
      replace r9 := Rep.mono s11 r9
      replace sF := sF.trans s11
      obtain ⟨t14, e14, hm⟩ := pb_ofO hm
      have r14 : rep K F11 v11_1 (some t14) := e14 ▸ r11_1
      replace r14 : v11_1 = V.int t14 := r14
      subst r14
      have w15 : W F11 _ ((a_self_lines, .lst vs11_1) :: (a_self, (.ins (A 24) dx_self (mkfs [("bottom" : Str), ("priced" : Str), ("held" : Str), ("lines" : Str)] [(.int g11.1), (.int x_self.2.1), (.ref a_self_held), (.ref a_self_lines)]))) :: (dx_self, (.own a_self)) :: (a_self_held, .lst vs11_0) :: os) := w11.front (pre := [_, _, _])
      have w16 : W F11 _ ((a_self_held, .lst vs11_0) :: (a_self_lines, .lst vs11_1) :: (a_self, (.ins (A 24) dx_self (mkfs [("bottom" : Str), ("priced" : Str), ("held" : Str), ("lines" : Str)] [(.int g11.1), (.int x_self.2.1), (.ref a_self_held), (.ref a_self_lines)]))) :: (dx_self, (.own a_self)) :: os) := w15.front (pre := [_, _, _])
      have w17 : W F11 _ ((dx_self, (.own a_self)) :: (a_self_held, .lst vs11_0) :: (a_self_lines, .lst vs11_1) :: (a_self, (.ins (A 24) dx_self (mkfs [("bottom" : Str), ("priced" : Str), ("held" : Str), ("lines" : Str)] [(.int g11.1), (.int x_self.2.1), (.ref a_self_held), (.ref a_self_lines)]))) :: os) := w16.front (pre := [_, _, _])
      have w18 : W F11 _ ((a_self, (.ins (A 24) dx_self (mkfs [("bottom" : Str), ("priced" : Str), ("held" : Str), ("lines" : Str)] [(.int g11.1), (.int x_self.2.1), (.ref a_self_held), (.ref a_self_lines)]))) :: (dx_self, (.own a_self)) :: (a_self_held, .lst vs11_0) :: (a_self_lines, .lst vs11_1) :: os) := w17.front (pre := [_, _, _])
      refine ⟨_, rfl, _, _, _, rfl, (w11.get (pre := [])), fm0_Board_turn_in ((.int g11.1) : V) ((.int x_self.2.1) : V) ((.ref a_self_held) : V) ((.ref a_self_lines) : V), _, rfl, _, _, _, rfl, (w11.get (pre := [])), fm0_Board_bounding ((.int g11.1) : V) ((.int x_self.2.1) : V) ((.ref a_self_held) : V) ((.ref a_self_lines) : V), _, rfl, _, _, _, _, _, _, _, _, _, ((g11.1, x_self.2.1, g11.2.2.1, g11.2.2.2, ()) : BoardF), _, rfl, w18, T.nm_Board, h11_0, h11_1, ?_⟩
      refine (post_bind hm).mono (fun y19 hm v19 F19 H19 w19 s19 r19 => ?_) (fun _ z => z)
      replace r11_1 := Rep.mono s19 r11_1
      replace h11_0 := A2.mono s19 h11_0
      replace h11_1 := A2.mono s19 h11_1
      replace sF := sF.trans s19
      obtain ⟨t21, e21, hm⟩ := pb_ofO hm
      have r21 : rep K F19 v19 (some t21) := e21 ▸ r19
      replace r21 : v19 = V.int t21 := r21
      subst r21
      have w22 : W F19 _ ((a_self_lines, .lst vs11_1) :: (a_self, (.ins (A 24) dx_self (mkfs [("bottom" : Str), ("priced" : Str), ("held" : Str), ("lines" : Str)] [(.int g11.1), (.int x_self.2.1), (.ref a_self_held), (.ref a_self_lines)]))) :: (dx_self, (.own a_self)) :: (a_self_held, .lst vs11_0) :: os) := w19.front (pre := [_, _, _])
      have w23 : W F19 _ ((a_self_held, .lst vs11_0) :: (a_self_lines, .lst vs11_1) :: (a_self, (.ins (A 24) dx_self (mkfs [("bottom" : Str), ("priced" : Str), ("held" : Str), ("lines" : Str)] [(.int g11.1), (.int x_self.2.1), (.ref a_self_held), (.ref a_self_lines)]))) :: (dx_self, (.own a_self)) :: os) := w22.front (pre := [_, _, _])
      have w24 : W F19 _ ((dx_self, (.own a_self)) :: (a_self_held, .lst vs11_0) :: (a_self_lines, .lst vs11_1) :: (a_self, (.ins (A 24) dx_self (mkfs [("bottom" : Str), ("priced" : Str), ("held" : Str), ("lines" : Str)] [(.int g11.1), (.int x_self.2.1), (.ref a_self_held), (.ref a_self_lines)]))) :: os) := w23.front (pre := [_, _, _])
      have w25 : W F19 _ ((a_self, (.ins (A 24) dx_self (mkfs [("bottom" : Str), ("priced" : Str), ("held" : Str), ("lines" : Str)] [(.int g11.1), (.int x_self.2.1), (.ref a_self_held), (.ref a_self_lines)]))) :: (dx_self, (.own a_self)) :: (a_self_held, .lst vs11_0) :: (a_self_lines, .lst vs11_1) :: os) := w24.front (pre := [_, _, _])
      refine ⟨_, rfl, _, _, _, _, _, _, _, _, _, ((g11.1, x_self.2.1, g11.2.2.1, g11.2.2.2, ()) : BoardF), _, _, rfl, w25, T.nm_Board, h11_0, h11_1, ?_⟩
      refine (post_bind hm).mono (fun y26 hm v26 vs26 vs26_1 F26 H26 w26 s26 r26 h26 h26_1 => ?_) (fun _ z => z)
      replace r11_1 := Rep.mono s26 r11_1
      replace r19 := Rep.mono s26 r19
      replace sF := sF.trans s26
      obtain rfl : v26 = V.non := r26
      have w27 : W F26 _ ((a_self_lines, .lst vs26_1) :: (a_self, (.ins (A 24) dx_self (mkfs [("bottom" : Str), ("priced" : Str), ("held" : Str), ("lines" : Str)] [(.int y26.2.2.2), (.int x_self.2.1), (.ref a_self_held), (.ref a_self_lines)]))) :: (dx_self, (.own a_self)) :: (a_self_held, .lst vs26) :: os) := w26.front (pre := [_, _, _])
      have w28 : W F26 _ ((a_self_held, .lst vs26) :: (a_self_lines, .lst vs26_1) :: (a_self, (.ins (A 24) dx_self (mkfs [("bottom" : Str), ("priced" : Str), ("held" : Str), ("lines" : Str)] [(.int y26.2.2.2), (.int x_self.2.1), (.ref a_self_held), (.ref a_self_lines)]))) :: (dx_self, (.own a_self)) :: os) := w27.front (pre := [_, _, _])
      have w29 : W F26 _ ((dx_self, (.own a_self)) :: (a_self_held, .lst vs26) :: (a_self_lines, .lst vs26_1) :: (a_self, (.ins (A 24) dx_self (mkfs [("bottom" : Str), ("priced" : Str), ("held" : Str), ("lines" : Str)] [(.int y26.2.2.2), (.int x_self.2.1), (.ref a_self_held), (.ref a_self_lines)]))) :: os) := w28.front (pre := [_, _, _])
      have w30 : W F26 _ ((a_self, (.ins (A 24) dx_self (mkfs [("bottom" : Str), ("priced" : Str), ("held" : Str), ("lines" : Str)] [(.int y26.2.2.2), (.int x_self.2.1), (.ref a_self_held), (.ref a_self_lines)]))) :: (dx_self, (.own a_self)) :: (a_self_held, .lst vs26) :: (a_self_lines, .lst vs26_1) :: os) := w29.front (pre := [_, _, _])
      refine ⟨_, rfl, _, _, _, rfl, (w26.get (pre := [])), fm0_Board_growing ((.int y26.2.2.2) : V) ((.int x_self.2.1) : V) ((.ref a_self_held) : V) ((.ref a_self_lines) : V), _, _, _, _, _, _, _, _, _, ((y26.2.2.2, x_self.2.1, y26.2.1, y26.2.2.1, ()) : BoardF), rfl, w30, T.nm_Board, h26, h26_1, ?_⟩
      refine (post_bind hm).mono (fun y31 hm v31 F31 H31 w31 s31 r31 => ?_) (fun _ z => z)
      replace h26 := A2.mono s31 h26
      replace h26_1 := A2.mono s31 h26_1
      replace sF := sF.trans s31
      exact hN11 _ (post_ok hm) _ _ ⟨_, _, _, _, rfl, (s11.trans (s19.trans (s26.trans s31))), w31, r31, h26, h26_1⟩
    intro g11 σ11 H11 hI hm
    obtain ⟨F11, v11_1, vs11_0, vs11_1, rfl, s11, w11, r11_1, h11_0, h11_1⟩ := hI
    replace r9 := Rep.mono s11 r9
    replace sF := sF.trans s11
    exact (post_ok hm) _ _ _ _ _ w11 sF rep_n h11_0 h11_1
def sp_Board_prices_now (K : Fg) : Sp := fun vs H Q E => ∃ (F : Hp) (os : List (Addr × HO)) (a_self : Addr) (dx_self : Addr) (C_self : Addr) (a_self_held : Addr) (vs_self_held : List V) (a_self_lines : Addr) (vs_self_lines : List V) (x_self : BoardF), vs = [.ref a_self] ∧ W F H ((a_self, .ins C_self dx_self (mkfs [("bottom" : Str), ("priced" : Str), ("held" : Str), ("lines" : Str)] [.int x_self.1, .int x_self.2.1, .ref a_self_held, .ref a_self_lines])) :: (dx_self, .own a_self) :: (a_self_held, .lst vs_self_held) :: (a_self_lines, .lst vs_self_lines) :: os) ∧ Nm K "Board" C_self ∧ A2 (rep K F) vs_self_held x_self.2.2.1 ∧ A2 (rep K F) vs_self_lines x_self.2.2.2.1 ∧ Post (Board_prices_now x_self) (fun (y : (List Int)) => ∀ (v : V) (F' H' : Hp), W F' H' ((a_self, .ins C_self dx_self (mkfs [("bottom" : Str), ("priced" : Str), ("held" : Str), ("lines" : Str)] [.int x_self.1, .int x_self.2.1, .ref a_self_held, .ref a_self_lines])) :: (dx_self, .own a_self) :: (a_self_held, .lst vs_self_held) :: (a_self_lines, .lst vs_self_lines) :: os) → Same F F' → rep K F' v (y : (List Int)) → Q v H') noX
theorem sc_Board_prices_now : FnScope ["self", "found", "at", "column"] ["self"] (defScope s_Board_prices_now) := ⟨rfl, rfl, rfl, by decide +kernel, rfl, by decide +kernel, by decide +kernel⟩
theorem ok_Board_prices_now (T : Tx K mg A FD) : FnOk P w K mg base CX0 1 (A 25006) (FD 25006) ["self"] (sp_Board_prices_now K) := by
  refine T.d25006.fn.ok sc_Board_prices_now (fun vs H Q E h => ?_) (fun cdv Ar outer s H vs Q E hr h => ?_)
  · obtain ⟨F, os, a_self, dx_self, C_self, a_self_held, vs_self_held, a_self_lines, vs_self_lines, x_self, rfl, _⟩ := h
    rfl
  · obtain ⟨F0, os, a_self, dx_self, C_self, a_self_held, vs_self_held, a_self_lines, vs_self_lines, x_self, rfl, w0, n_self, h_self_held, h_self_lines, hm⟩ := h
    have sF : Same F0 F0 := Same.refl _
    obtain rfl := n_self.uniq T.nm_Board
    refine ⟨_, (pss_cons (ps_set (i := 1) sc_Board_prices_now.nd rfl (Or.inl rfl) (pe_op op_rep (pe_lst (pa_cons pe_int pa_nil)) (pe_fld (pv 0) (by rfl)))) (pss_cons (ps_for PassesOwn.never rfl (pi_k (K := K) (wi := fun K => iEnum K _) rfl (pi_enum (by rfl) T.n_enumerate (pa_cons (pe_fld (pv 0) (by rfl)) pa_nil))) (pg_k (K := K) (t := fun K => gTup K 2 _) rfl (pg_tup (n := 2) rfl (pgs_cons (pg_name (i := 2) sc_Board_prices_now.nd rfl (Or.inl rfl)) (pgs_cons (pg_name (i := 3) sc_Board_prices_now.nd rfl (Or.inl rfl)) pgs_nil)))) (pss_one (ps_if (pt_cmp (pc_lt (pv 3) (pe_fld (pv 0) (by rfl)))) (pss_one (ps_asg (pe_ix (ix_listK (K := K) rfl) (pe_ix (ix_listK (K := K) rfl) (pe_fld (pv 0) (by rfl)) (pv 2) (fun _ _ => rfl)) (pe_un un_neg pe_int) (fun _ _ => rfl)) (pg_sub (pv 1) (pv 3) set_list))) pss_nil))) (pss_one (ps_ret (pv 1))))), ?_⟩
    have h5 : A2 (rep K F0) [(.int 0)] ([(0 : Int)] : (List Int)) := .cons rep_i (.nil)
    refine ⟨(by show 1 ≤ sizeLine; decide), fun p6 n6 => ?_⟩
    have w6 : W F0 _ ((p6, .lst [(.int 0)]) :: (a_self, (.ins (A 24) dx_self (mkfs [("bottom" : Str), ("priced" : Str), ("held" : Str), ("lines" : Str)] [(.int x_self.1), (.int x_self.2.1), (.ref a_self_held), (.ref a_self_lines)]))) :: (dx_self, (.own a_self)) :: (a_self_held, .lst vs_self_held) :: (a_self_lines, .lst vs_self_lines) :: os) := w0.new n6
    obtain ⟨l7, z7, e7, hm⟩ := pb_rep hm
    have h7 : A2 (rep K F0) (List.replicate x_self.2.1.toNat [(.int 0)]).flatten l7 := e7 ▸ A2.flat h5 _
    refine ⟨_, rfl, _, _, _, _, _, rfl, (w6.get (pre := [_])), T.cl_Board, T.na_Board_priced, (fl_Board_priced ((.int x_self.1) : V) ((.int x_self.2.1) : V) ((.ref a_self_held) : V) ((.ref a_self_lines) : V)), _, _, _, rfl, rfl, (w6.get (pre := [])), z7.1, z7.2.1, (by rw [h5.length]; exact z7.2.2), fun p8 n8 => ?_⟩
    have w8 : W F0 _ ((p8, .lst (List.replicate x_self.2.1.toNat [(.int 0)]).flatten) :: (p6, .lst [(.int 0)]) :: (a_self, (.ins (A 24) dx_self (mkfs [("bottom" : Str), ("priced" : Str), ("held" : Str), ("lines" : Str)] [(.int x_self.1), (.int x_self.2.1), (.ref a_self_held), (.ref a_self_lines)]))) :: (dx_self, (.own a_self)) :: (a_self_held, .lst vs_self_held) :: (a_self_lines, .lst vs_self_lines) :: os) := w6.new n8
    have w9 : W F0 _ ((p8, .lst (List.replicate x_self.2.1.toNat [(.int 0)]).flatten) :: (a_self, (.ins (A 24) dx_self (mkfs [("bottom" : Str), ("priced" : Str), ("held" : Str), ("lines" : Str)] [(.int x_self.1), (.int x_self.2.1), (.ref a_self_held), (.ref a_self_lines)]))) :: (dx_self, (.own a_self)) :: (a_self_held, .lst vs_self_held) :: (a_self_lines, .lst vs_self_lines) :: os) := w8.drop (pre := [_])
    refine ⟨_, rfl, _, _, _, _, _, rfl, (w9.get (pre := [_])), T.cl_Board, T.na_Board_held, (fl_Board_held ((.int x_self.1) : V) ((.int x_self.2.1) : V) ((.ref a_self_held) : V) ((.ref a_self_lines) : V)), _, _, rfl, SqL.of (w9.get (pre := [_, _, _])), ?_⟩
    refine forS (tw_enum (a := a_self_held) h_self_held) hm (fun (g10 : (List Int)) σ H' => ∃ (F' : Hp) (vs10_0 : List V) (o10_2 : Option V) (o10_3 : Option V), σ = [some (.ref a_self), some (.ref p8), o10_2, o10_3] ∧ Same F0 F' ∧ W F' H' ((p8, .lst vs10_0) :: (a_self, (.ins (A 24) dx_self (mkfs [("bottom" : Str), ("priced" : Str), ("held" : Str), ("lines" : Str)] [(.int x_self.1), (.int x_self.2.1), (.ref a_self_held), (.ref a_self_lines)]))) :: (dx_self, (.own a_self)) :: (a_self_held, .lst vs_self_held) :: (a_self_lines, .lst vs_self_lines) :: os) ∧ A2 (rep K F') vs10_0 g10) ⟨_, _, _, _, rfl, Same.refl _, w9, h7⟩ (fun g σ H' hI => by obtain ⟨F', _, _, _, _, s, w, _⟩ := hI; exact SqL.of (w.get (pre := [_, _, _]))) ?_ ?_
    · -- a turn
      intro b10 g10 x10 σ10 H10 H10' N10 P10 hI hy hN10 hm
      obtain ⟨F10, vs10_0, o10_2, o10_3, rfl, s10, w10, h10_0⟩ := hI
      replace h_self_held := A2.mono s10 h_self_held
      replace h_self_lines := A2.mono s10 h_self_lines
      replace sF := sF.trans s10
      obtain ⟨T11, u11, rfl, n11, rfl, r11⟩ := hy
      obtain ⟨F11, s11, w11, q11⟩ := w10.frzE (o := .tup [.int b10.1, u11]) n11
      replace r11 := Rep.mono s10 r11
      replace h_self_held := A2.mono s11 h_self_held
      replace h_self_lines := A2.mono s11 h_self_lines
      replace h10_0 := A2.mono s11 h10_0
      replace sF := sF.trans s11
      replace r11 := Rep.mono s11 r11
      obtain rfl : u11 = V.int b10.2 := r11
      refine ⟨_, _, rfl, SqT.of (w11.same _ _ q11), rfl, _, _, rfl, _, _, rfl, rfl, _, rfl, _, rfl, _, _, _, _, _, rfl, (w11.get (pre := [_])), T.cl_Board, T.na_Board_priced, (fl_Board_priced ((.int x_self.1) : V) ((.int x_self.2.1) : V) ((.ref a_self_held) : V) ((.ref a_self_lines) : V)), _, _, rfl, rfl, _, rfl, ?_⟩
      refine post_ite hm (fun k12 hm => ?_) (fun k12 hm => ?_)
      · skip
        obtain ⟨t13, e13, hm⟩ := pb_get hm
        obtain ⟨u13, f13, r13⟩ := A2.at h_self_lines e13
        obtain ⟨a14, vs14, rfl, q14, h14⟩ := r13
        obtain ⟨t15, e15, hm⟩ := pb_get hm
        obtain ⟨u15, f15, r15⟩ := A2.at h14 e15
        obtain rfl : u15 = V.int t15 := r15
        obtain ⟨j16, l16, z16, e16, hm⟩ := pn_set hm
        refine ⟨_, rfl, _, _, _, _, _, rfl, (w11.get (pre := [_])), T.cl_Board, T.na_Board_lines, (fl_Board_lines ((.int x_self.1) : V) ((.int x_self.2.1) : V) ((.ref a_self_held) : V) ((.ref a_self_lines) : V)), _, rfl, _, _, _, _, rfl, rfl, SqL.of (w11.get (pre := [_, _, _, _])), f13, _, rfl, _, _, _, _, rfl, rfl, SqL.of (w11.same _ _ q14), f15, _, rfl, _, rfl, _, _, _, _, rfl, rfl, (w11.get (pre := [])), (A2.ix h10_0 z16), ?_⟩
        have h16 : A2 (rep K F11) (vs10_0.set j16 (V.int t15)) l16 := e16 ▸ A2.set rep_i j16 h10_0
        have w17 : W F11 _ ((p8, .lst (vs10_0.set j16 (V.int t15))) :: (a_self, (.ins (A 24) dx_self (mkfs [("bottom" : Str), ("priced" : Str), ("held" : Str), ("lines" : Str)] [(.int x_self.1), (.int x_self.2.1), (.ref a_self_held), (.ref a_self_lines)]))) :: (dx_self, (.own a_self)) :: (a_self_held, .lst vs_self_held) :: (a_self_lines, .lst vs_self_lines) :: os) := w11.set (pre := [])
        exact hN10 _ (post_ok hm) _ _ ⟨_, _, _, _, rfl, (s10.trans s11), w17, h16⟩
      · skip
        exact hN10 _ (post_ok hm) _ _ ⟨_, _, _, _, rfl, (s10.trans s11), w11, h10_0⟩
    intro g10 σ10 H10 hI hm
    obtain ⟨F10, vs10_0, o10_2, o10_3, rfl, s10, w10, h10_0⟩ := hI
    replace h_self_held := A2.mono s10 h_self_held
    replace h_self_lines := A2.mono s10 h_self_lines
    replace sF := sF.trans s10
    obtain ⟨F18, s18, w18, q18⟩ : ∃ F', Same F10 F' ∧ W F' _ ((a_self, (.ins (A 24) dx_self (mkfs [("bottom" : Str), ("priced" : Str), ("held" : Str), ("lines" : Str)] [(.int x_self.1), (.int x_self.2.1), (.ref a_self_held), (.ref a_self_lines)]))) :: (dx_self, (.own a_self)) :: (a_self_held, .lst vs_self_held) :: (a_self_lines, .lst vs_self_lines) :: os) ∧ F' p8 = some (.lst vs10_0) := w10.freezeE (pre := [])
    replace h10_0 := A2.mono s18 h10_0
    replace h_self_held := A2.mono s18 h_self_held
    replace h_self_lines := A2.mono s18 h_self_lines
    replace sF := sF.trans s18
    exact ⟨_, rfl, (post_ok hm) _ _ _ w18 sF (rep_lst q18 h10_0)⟩
def sp_shares_of (K : Fg) : Sp := fun vs H Q E => ∃ (F : Hp) (os : List (Addr × HO)) (v_web : V) (x_web : (Int × (Tup (Int × Int)))) (x_kind : Str), vs = [v_web, .str x_kind] ∧ W F H (os) ∧ rep K F v_web x_web ∧ Post (shares_of x_web x_kind) (Ret K F os Q) noX
theorem sc_shares_of : FnScope ["web", "kind", "pairs", "board", "shares", "prices", "by", "number", "told", "at", "price", "share"] ["web", "kind"] (defScope s_shares_of) := ⟨rfl, rfl, rfl, by decide +kernel, rfl, by decide +kernel, by decide +kernel⟩
set_option maxHeartbeats 40000000 in
theorem ok_shares_of (T : Tx K mg A FD) : FnOk P w K mg base CX0 6 (A 25) (FD 25) ["web", "kind"] (sp_shares_of K) := by
  refine T.d25.fn.ok sc_shares_of (fun vs H Q E h => ?_) (fun cdv Ar outer s H vs Q E hr h => ?_)
  · obtain ⟨F, os, v_web, x_web, x_kind, rfl, _⟩ := h
    rfl
  · obtain ⟨F0, os, v_web, x_web, x_kind, rfl, w0, r_web, hm⟩ := h
    have sF : Same F0 F0 := Same.refl _
    obtain ⟨a1, u1, z1, rfl, q1, r1a, r1b⟩ := r_web
    obtain rfl : u1 = V.int x_web.1 := r1a
    obtain ⟨a2, vs2, rfl, q2, h2⟩ := r1b
    refine ⟨_, (pss_cons (ps_expr (pe_call (ok_ask_shared T) (hr.mono (by decide)) (by rfl) T.d20.mg T.d20.fn.kp T.d20.b .nil pass0 (pa_cons (pv 0) pa_nil))) (pss_cons (ps_set (i := 2) sc_shares_of.nd rfl (Or.inr rfl) (pe_call (ok_least_parted T) (hr.mono (by decide)) (by rfl) T.d22.mg T.d22.fn.kp T.d22.b .nil pass0 (pa_cons (pe_call (ok_parted_pairs T) (hr.mono (by decide)) (by rfl) T.d21.mg T.d21.fn.kp T.d21.b .nil pass0 (pa_cons (pv 0) (pa_cons (pv 1) pa_nil))) pa_nil))) (pss_cons (ps_set (i := 3) sc_shares_of.nd rfl (Or.inl rfl) (pe_make T.mk_Board (ok_Board_init T) (hr.mono (by first | decide | omega)) (by rfl) T.mg_Board T.d25000.b .nil pass0 (pa_cons (pe_ix (ix_tupK (K := K) rfl) (pv 0) pe_int (fun _ _ => rfl)) (pa_cons (pv 2) pa_nil)))) (pss_cons (ps_expr (pe_meth0 (pl := _) (pv 3) T.cl_Board T.d25005.mt (ok_Board_solve T) (hr.mono (by decide)) T.d25005.b .nil pass0)) (pss_cons (ps_set (i := 4) sc_shares_of.nd rfl (Or.inl rfl) (pe_slice (sl_listK (K := K) rfl) (pe_ix (ix_listK (K := K) rfl) (pe_fld (pv 3) (by rfl)) (pe_un un_neg pe_int) (fun _ _ => rfl)) (po_some (pe_callB (call_lenN (K := K) rfl) (by rfl) T.n_len (by decide +kernel) (pa_cons (pv 2) pa_nil))) (po_some (pe_un un_neg pe_int)))) (pss_cons (ps_set (i := 5) sc_shares_of.nd rfl (Or.inl rfl) (pe_meth0 (pl := _) (pv 3) T.cl_Board T.d25006.mt (ok_Board_prices_now T) (hr.mono (by decide)) T.d25006.b .nil pass0)) (pss_cons (ps_set (i := 6) sc_shares_of.nd rfl (Or.inr rfl) (pe_fld (pv 3) (by rfl))) (pss_cons (ps_for PassesOwn.never rfl (pi_listK (K := K) rfl (pe_op op_cat (pv 4) (pv 5))) (pg_name (i := 7) sc_shares_of.nd rfl (Or.inl rfl)) (pss_one (ps_set (i := 6) sc_shares_of.nd rfl (Or.inr rfl) (pe_call (ok_common_part T) (hr.mono (by decide)) (by rfl) T.d23.mg T.d23.fn.kp T.d23.b .nil pass0 (pa_cons (pv 6) (pa_cons (pv 7) pa_nil)))))) (pss_cons (ps_setLc (i := 8) (own := [("at", 9), ("price", 10)]) (g := _) (by rfl) sc_shares_of.nd rfl rfl (sw_true rfl rfl rfl (by decide +kernel)) (pi_k (K := K) (wi := fun K => iEnum K _) rfl (pi_enum (by rfl) T.n_enumerate (pa_cons (pv 5) pa_nil))) (blkOk_by (own := [("at", 9), ("price", 10)]) (N := ["web", "kind", "pairs", "board", "shares", "prices", "by", "number", "told", "at", "price", "share"]) (sc := defScope s_shares_of) (by decide +kernel)) (fun _ _ _ _ _ => (pg_k (K := K) (t := fun K => gTup K 2 _) rfl (pg_tup (n := 2) rfl (pgs_cons (pg_name (i := 9) sc_shares_of.nd rfl (Or.inl rfl)) (pgs_cons (pg_name (i := 10) sc_shares_of.nd rfl (Or.inl rfl)) pgs_nil))))) (fun _ _ _ _ _ => (pts_one (pt_cmp (pc_gt (pv 10) pe_int)))) (fun _ _ _ _ _ => (pe_tup (pa_cons (pe_ix (ix_tupK (K := K) rfl) (pe_ix (ix_listK (K := K) rfl) (pv 2) (pv 9) (fun _ _ => rfl)) pe_int (fun _ _ => rfl)) (pa_cons (pe_ix (ix_tupK (K := K) rfl) (pe_ix (ix_listK (K := K) rfl) (pv 2) (pv 9) (fun _ _ => rfl)) pe_int (fun _ _ => rfl)) (pa_cons (pe_op op_fdivW (pv 10) (pv 6)) pa_nil)))))) (pss_one (ps_ret (pe_tup (pa_cons (pe_op op_fdivW (pe_fld (pv 3) (by rfl)) (pv 6)) (pa_cons (pe_lc (own := [("share", 11)]) (g := gName 11) (by rfl) sc_shares_of.nd (pi_listK (K := K) rfl (pv 4)) (blkOk_by (own := [("share", 11)]) (N := ["web", "kind", "pairs", "board", "shares", "prices", "by", "number", "told", "at", "price", "share"]) (sc := defScope s_shares_of) (by decide +kernel)) (fun _ _ _ _ _ => (pg_name (i := 11) sc_shares_of.nd rfl (Or.inl rfl))) (fun _ _ _ _ _ => pts_nil) (fun _ _ _ _ _ => (pe_op op_fdivW (pv 11) (pv 6)))) (pa_cons (pv 8) pa_nil))))))))))))))), ?_⟩
    refine ⟨_, rfl, _, _, _, (x_web : (Int × (Tup (Int × Int)))), rfl, w0, (rep_pair q1 rep_i (rep_tup q2 h2)), ?_⟩
    refine (post_bind hm).mono (fun y3 hm v3 F3 H3 w3 s3 r3 => ?_) (fun _ z => z)
    replace q1 := s3 _ _ q1
    replace q2 := s3 _ _ q2
    replace h2 := A2.mono s3 h2
    replace sF := sF.trans s3
    obtain rfl : v3 = V.non := r3
    refine ⟨_, rfl, _, rfl, _, _, _, (x_web : (Int × (Tup (Int × Int)))), _, rfl, w3, (rep_pair q1 rep_i (rep_tup q2 h2)), ?_⟩
    refine (post_bind hm).mono (fun y4 hm v4 F4 H4 w4 s4 r4 => ?_) (fun _ z => z)
    replace q1 := s4 _ _ q1
    replace h2 := A2.mono s4 h2
    replace q2 := s4 _ _ q2
    replace sF := sF.trans s4
    obtain ⟨a5, vs5, rfl, q5, h5⟩ := r4
    refine ⟨_, _, _, (y4 : (List (Nt (Thing × Thing × (List Int) × Unit)))), rfl, w4, (rep_lst q5 h5), ?_⟩
    refine (post_bind hm).mono (fun y6 hm v6 F6 H6 w6 s6 r6 => ?_) (fun _ z => z)
    replace q1 := s6 _ _ q1
    replace h2 := A2.mono s6 h2
    replace q2 := s6 _ _ q2
    replace q5 := s6 _ _ q5
    replace h5 := A2.mono s6 h5
    replace sF := sF.trans s6
    obtain ⟨a7, vs7, rfl, q7, h7⟩ := r6
    refine ⟨_, rfl, _, _, _, _, rfl, rfl, SqT.of (w6.same _ _ q1), rfl, _, rfl, fun a8 dx8 na8 nd8 ne8 => ?_⟩
    have wd8 : W F6 _ ((dx8, (.own a8)) :: os) := w6.new (o := .own a8) nd8
    have w8 : W F6 _ ((a8, (.ins (A 24) dx8 [])) :: (dx8, (.own a8)) :: os) := wd8.new (o := .ins (A 24) dx8 []) (by rw [upd_ne ne8.symm]; exact na8)
    refine ⟨_, _, _, _, _, _, _, (y6 : (List (Nt (Thing × Thing × (List Int) × Unit)))), rfl, w8, T.nm_Board, (rep_lst q7 h7), ?_⟩
    refine (post_bind hm).mono (fun y8 hm p8_2 us8_2 p8_3 us8_3 F8 H8 w8i s8 h8_2 h8_3 => ⟨rfl, ?_⟩) (fun _ z => z)
    replace q1 := s8 _ _ q1
    replace h2 := A2.mono s8 h2
    replace q2 := s8 _ _ q2
    replace h7 := A2.mono s8 h7
    replace q7 := s8 _ _ q7
    replace sF := sF.trans s8
    have w15 : W F8 _ ((p8_3, .lst us8_3) :: (a8, (.ins (A 24) dx8 (mkfs [("bottom" : Str), ("priced" : Str), ("held" : Str), ("lines" : Str)] [(.int y8.1), (.int y8.2.1), (.ref p8_2), (.ref p8_3)]))) :: (dx8, (.own a8)) :: (p8_2, .lst us8_2) :: os) := w8i.front (pre := [_, _, _])
    have w16 : W F8 _ ((p8_2, .lst us8_2) :: (p8_3, .lst us8_3) :: (a8, (.ins (A 24) dx8 (mkfs [("bottom" : Str), ("priced" : Str), ("held" : Str), ("lines" : Str)] [(.int y8.1), (.int y8.2.1), (.ref p8_2), (.ref p8_3)]))) :: (dx8, (.own a8)) :: os) := w15.front (pre := [_, _, _])
    have w17 : W F8 _ ((dx8, (.own a8)) :: (p8_2, .lst us8_2) :: (p8_3, .lst us8_3) :: (a8, (.ins (A 24) dx8 (mkfs [("bottom" : Str), ("priced" : Str), ("held" : Str), ("lines" : Str)] [(.int y8.1), (.int y8.2.1), (.ref p8_2), (.ref p8_3)]))) :: os) := w16.front (pre := [_, _, _])
    have w18 : W F8 _ ((a8, (.ins (A 24) dx8 (mkfs [("bottom" : Str), ("priced" : Str), ("held" : Str), ("lines" : Str)] [(.int y8.1), (.int y8.2.1), (.ref p8_2), (.ref p8_3)]))) :: (dx8, (.own a8)) :: (p8_2, .lst us8_2) :: (p8_3, .lst us8_3) :: os) := w17.front (pre := [_, _, _])
    refine ⟨_, rfl, _, _, _, rfl, (w8i.get (pre := [])), fm0_Board_solve ((.int y8.1) : V) ((.int y8.2.1) : V) ((.ref p8_2) : V) ((.ref p8_3) : V), _, _, _, _, _, _, _, _, _, ((y8.1, y8.2.1, y8.2.2.1, y8.2.2.2.1, ()) : BoardF), rfl, w18, T.nm_Board, h8_2, h8_3, ?_⟩
    refine (post_bind hm).mono (fun y19 hm v19 vs19 vs19_1 F19 H19 w19 s19 r19 h19 h19_1 => ?_) (fun _ z => z)
    replace q1 := s19 _ _ q1
    replace h2 := A2.mono s19 h2
    replace q2 := s19 _ _ q2
    replace h7 := A2.mono s19 h7
    replace q7 := s19 _ _ q7
    replace sF := sF.trans s19
    obtain rfl : v19 = V.non := r19
    obtain ⟨t20, e20, hm⟩ := pb_get hm
    obtain ⟨u20, f20, r20⟩ := A2.at h19_1 e20
    obtain ⟨a21, vs21, rfl, q21, h21⟩ := r20
    have h22 : A2 (rep K F19) (cutV vs21 (some (y6.length : Int)) (some (-(1 : Int)))) (cutL t20 (some (y6.length : Int)) (some (-(1 : Int)))) := sl_cut h21 _ _
    refine ⟨_, rfl, _, _, _, _, _, rfl, (w19.get (pre := [])), T.cl_Board, T.na_Board_lines, (fl_Board_lines ((.int y19.2.2.2) : V) ((.int y8.2.1) : V) ((.ref p8_2) : V) ((.ref p8_3) : V)), _, rfl, _, _, _, _, rfl, rfl, SqL.of (w19.get (pre := [_, _, _])), f20, _, rfl, _, _, _, rfl, .inl (SqL.of (w19.same _ _ q7)), h7.length, _, rfl, _, rfl, _, rfl, _, _, rfl, SqL.of (w19.same _ _ q21), fun p23 n23 => ?_⟩
    have w23 : W F19 _ ((p23, .lst (cutV vs21 (some (y6.length : Int)) (some (-(1 : Int))))) :: (a8, (.ins (A 24) dx8 (mkfs [("bottom" : Str), ("priced" : Str), ("held" : Str), ("lines" : Str)] [(.int y19.2.2.2), (.int y8.2.1), (.ref p8_2), (.ref p8_3)]))) :: (dx8, (.own a8)) :: (p8_2, .lst vs19) :: (p8_3, .lst vs19_1) :: os) := w19.new n23
    obtain ⟨F24, s24, w24, q24⟩ : ∃ F', Same F19 F' ∧ W F' _ ((a8, (.ins (A 24) dx8 (mkfs [("bottom" : Str), ("priced" : Str), ("held" : Str), ("lines" : Str)] [(.int y19.2.2.2), (.int y8.2.1), (.ref p8_2), (.ref p8_3)]))) :: (dx8, (.own a8)) :: (p8_2, .lst vs19) :: (p8_3, .lst vs19_1) :: os) ∧ F' p23 = some (.lst (cutV vs21 (some (y6.length : Int)) (some (-(1 : Int))))) := w23.freezeE (pre := [])
    replace q1 := s24 _ _ q1
    replace h2 := A2.mono s24 h2
    replace q2 := s24 _ _ q2
    replace h7 := A2.mono s24 h7
    replace q7 := s24 _ _ q7
    replace h19 := A2.mono s24 h19
    replace h19_1 := A2.mono s24 h19_1
    replace q21 := s24 _ _ q21
    replace h21 := A2.mono s24 h21
    replace h22 := A2.mono s24 h22
    replace sF := sF.trans s24
    have w25 : W F24 _ ((p8_3, .lst vs19_1) :: (a8, (.ins (A 24) dx8 (mkfs [("bottom" : Str), ("priced" : Str), ("held" : Str), ("lines" : Str)] [(.int y19.2.2.2), (.int y8.2.1), (.ref p8_2), (.ref p8_3)]))) :: (dx8, (.own a8)) :: (p8_2, .lst vs19) :: os) := w24.front (pre := [_, _, _])
    have w26 : W F24 _ ((p8_2, .lst vs19) :: (p8_3, .lst vs19_1) :: (a8, (.ins (A 24) dx8 (mkfs [("bottom" : Str), ("priced" : Str), ("held" : Str), ("lines" : Str)] [(.int y19.2.2.2), (.int y8.2.1), (.ref p8_2), (.ref p8_3)]))) :: (dx8, (.own a8)) :: os) := w25.front (pre := [_, _, _])
    have w27 : W F24 _ ((dx8, (.own a8)) :: (p8_2, .lst vs19) :: (p8_3, .lst vs19_1) :: (a8, (.ins (A 24) dx8 (mkfs [("bottom" : Str), ("priced" : Str), ("held" : Str), ("lines" : Str)] [(.int y19.2.2.2), (.int y8.2.1), (.ref p8_2), (.ref p8_3)]))) :: os) := w26.front (pre := [_, _, _])
    have w28 : W F24 _ ((a8, (.ins (A 24) dx8 (mkfs [("bottom" : Str), ("priced" : Str), ("held" : Str), ("lines" : Str)] [(.int y19.2.2.2), (.int y8.2.1), (.ref p8_2), (.ref p8_3)]))) :: (dx8, (.own a8)) :: (p8_2, .lst vs19) :: (p8_3, .lst vs19_1) :: os) := w27.front (pre := [_, _, _])
    refine ⟨_, rfl, _, _, _, rfl, (w24.get (pre := [])), fm0_Board_prices_now ((.int y19.2.2.2) : V) ((.int y8.2.1) : V) ((.ref p8_2) : V) ((.ref p8_3) : V), _, _, _, _, _, _, _, _, _, ((y19.2.2.2, y8.2.1, y19.2.1, y19.2.2.1, ()) : BoardF), rfl, w28, T.nm_Board, h19, h19_1, ?_⟩
    refine (post_bind hm).mono (fun y29 hm v29 F29 H29 w29 s29 r29 => ?_) (fun _ z => z)
    replace q1 := s29 _ _ q1
    replace h2 := A2.mono s29 h2
    replace q2 := s29 _ _ q2
    replace h7 := A2.mono s29 h7
    replace q7 := s29 _ _ q7
    replace h22 := A2.mono s29 h22
    replace q24 := s29 _ _ q24
    replace h19 := A2.mono s29 h19
    replace h19_1 := A2.mono s29 h19_1
    replace sF := sF.trans s29
    obtain ⟨a30, vs30, rfl, q30, h30⟩ := r29
    obtain ⟨l32, z32, e32, hm⟩ := pn_extend hm
    have h32 : A2 (rep K F29) ((cutV vs21 (some (y6.length : Int)) (some (-(1 : Int)))) ++ vs30) l32 := e32 ▸ A2.append h22 h30
    refine ⟨_, rfl, _, _, _, _, _, rfl, (w29.get (pre := [])), T.cl_Board, T.na_Board_bottom, (fl_Board_bottom ((.int y19.2.2.2) : V) ((.int y8.2.1) : V) ((.ref p8_2) : V) ((.ref p8_3) : V)), _, rfl, _, rfl, _, _, _, _, rfl, rfl, (w29.same _ _ q24), (w29.same _ _ q30), (A2.le2 h22 h30 z32), fun p33 n33 => ?_⟩
    have w33 : W F29 _ ((p33, .lst ((cutV vs21 (some (y6.length : Int)) (some (-(1 : Int)))) ++ vs30)) :: (a8, (.ins (A 24) dx8 (mkfs [("bottom" : Str), ("priced" : Str), ("held" : Str), ("lines" : Str)] [(.int y19.2.2.2), (.int y8.2.1), (.ref p8_2), (.ref p8_3)]))) :: (dx8, (.own a8)) :: (p8_2, .lst vs19) :: (p8_3, .lst vs19_1) :: os) := w29.new n33
    obtain ⟨F34, s34, w34, q34⟩ : ∃ F', Same F29 F' ∧ W F' _ ((a8, (.ins (A 24) dx8 (mkfs [("bottom" : Str), ("priced" : Str), ("held" : Str), ("lines" : Str)] [(.int y19.2.2.2), (.int y8.2.1), (.ref p8_2), (.ref p8_3)]))) :: (dx8, (.own a8)) :: (p8_2, .lst vs19) :: (p8_3, .lst vs19_1) :: os) ∧ F' p33 = some (.lst ((cutV vs21 (some (y6.length : Int)) (some (-(1 : Int)))) ++ vs30)) := w33.freezeE (pre := [])
    replace q1 := s34 _ _ q1
    replace h2 := A2.mono s34 h2
    replace q2 := s34 _ _ q2
    replace h7 := A2.mono s34 h7
    replace q7 := s34 _ _ q7
    replace h22 := A2.mono s34 h22
    replace q24 := s34 _ _ q24
    replace h30 := A2.mono s34 h30
    replace q30 := s34 _ _ q30
    replace h19 := A2.mono s34 h19
    replace h19_1 := A2.mono s34 h19_1
    replace h32 := A2.mono s34 h32
    replace sF := sF.trans s34
    refine ⟨_, rfl, ⟨_, SqL.of (w34.same _ _ q34)⟩, ?_⟩
    refine forS (tw_list (a := p33) h32) hm (fun (g31 : Int) σ H' => ∃ (F' : Hp) (o31_7 : Option V), σ = [some (.ref a1), some (.str x_kind), some (.ref a7), some (.ref a8), some (.ref p23), some (.ref a30), some (.int g31), o31_7, none, none, none, none] ∧ Same F34 F' ∧ W F' H' ((a8, (.ins (A 24) dx8 (mkfs [("bottom" : Str), ("priced" : Str), ("held" : Str), ("lines" : Str)] [(.int y19.2.2.2), (.int y8.2.1), (.ref p8_2), (.ref p8_3)]))) :: (dx8, (.own a8)) :: (p8_2, .lst vs19) :: (p8_3, .lst vs19_1) :: os)) ⟨_, _, rfl, Same.refl _, w34⟩ (fun g σ H' hI => by obtain ⟨F', _, _, s, w⟩ := hI; exact SqL.of (w.same _ _ (s _ _ q34))) ?_ ?_
    · -- a turn
      intro b31 g31 x31 σ31 H31 H31' N31 P31 hI hy hN31 hm
      obtain ⟨F31, o31_7, rfl, s31, w31⟩ := hI
      replace q1 := s31 _ _ q1
      replace h2 := A2.mono s31 h2
      replace q2 := s31 _ _ q2
      replace h7 := A2.mono s31 h7
      replace q7 := s31 _ _ q7
      replace h22 := A2.mono s31 h22
      replace q24 := s31 _ _ q24
      replace h30 := A2.mono s31 h30
      replace q30 := s31 _ _ q30
      replace h19 := A2.mono s31 h19
      replace h19_1 := A2.mono s31 h19_1
      replace h32 := A2.mono s31 h32
      replace q34 := s31 _ _ q34
      replace sF := sF.trans s31
      obtain ⟨rfl, r35⟩ := hy
      obtain rfl : x31 = V.int b31 := r35
      refine ⟨_, rfl, _, rfl, _, _, _, _, rfl, w31, ?_⟩
      refine (post_bind hm).mono (fun y36 hm v36 F36 H36 w36 s36 r36 => ?_) (fun _ z => z)
      replace q1 := s36 _ _ q1
      replace h2 := A2.mono s36 h2
      replace q2 := s36 _ _ q2
      replace h7 := A2.mono s36 h7
      replace q7 := s36 _ _ q7
      replace h22 := A2.mono s36 h22
      replace q24 := s36 _ _ q24
      replace h30 := A2.mono s36 h30
      replace q30 := s36 _ _ q30
      replace h19 := A2.mono s36 h19
      replace h19_1 := A2.mono s36 h19_1
      replace sF := sF.trans s36
      obtain rfl : v36 = V.int y36 := r36
      exact hN31 _ (post_ok hm) _ _ ⟨_, _, rfl, (s31.trans s36), w36⟩
    intro g31 σ31 H31 hI hm
    obtain ⟨F31, o31_7, rfl, s31, w31⟩ := hI
    replace q1 := s31 _ _ q1
    replace h2 := A2.mono s31 h2
    replace q2 := s31 _ _ q2
    replace h7 := A2.mono s31 h7
    replace q7 := s31 _ _ q7
    replace h22 := A2.mono s31 h22
    replace q24 := s31 _ _ q24
    replace h30 := A2.mono s31 h30
    replace q30 := s31 _ _ q30
    replace h19 := A2.mono s31 h19
    replace h19_1 := A2.mono s31 h19_1
    replace h32 := A2.mono s31 h32
    replace q34 := s31 _ _ q34
    replace sF := sF.trans s31
    refine ⟨_, rfl, _, _, rfl, SqL.of (w31.same _ _ q30), fun D37 nD37 => ?_⟩
    refine lcF (K := K) (tw_enum (a := a30) h30) hm w31 nD37 (fun F' H' acc s w => SqL.of (w.same _ _ (s _ _ q30))) ?_ ?_
    · -- one turn
      intro b37 x37 F37 H37 H37' acc37 N37 M37 P37 s37 w37 y37 hN37 hM37 hm
      replace q1 := s37 _ _ q1
      replace h2 := A2.mono s37 h2
      replace q2 := s37 _ _ q2
      replace h7 := A2.mono s37 h7
      replace q7 := s37 _ _ q7
      replace h22 := A2.mono s37 h22
      replace q24 := s37 _ _ q24
      replace h30 := A2.mono s37 h30
      replace q30 := s37 _ _ q30
      replace h19 := A2.mono s37 h19
      replace h19_1 := A2.mono s37 h19_1
      replace sF := sF.trans s37
      obtain ⟨T39, u39, rfl, n39, rfl, r39⟩ := y37
      obtain ⟨F39, s39, w39, q39⟩ := w37.frzE (o := .tup [.int b37.1, u39]) n39
      replace r39 := Rep.mono s37 r39
      replace q1 := s39 _ _ q1
      replace h2 := A2.mono s39 h2
      replace q2 := s39 _ _ q2
      replace h7 := A2.mono s39 h7
      replace q7 := s39 _ _ q7
      replace h22 := A2.mono s39 h22
      replace q24 := s39 _ _ q24
      replace h30 := A2.mono s39 h30
      replace q30 := s39 _ _ q30
      replace h19 := A2.mono s39 h19
      replace h19_1 := A2.mono s39 h19_1
      replace sF := sF.trans s39
      replace r39 := Rep.mono s39 r39
      obtain rfl : u39 = V.int b37.2 := r39
      refine ⟨_, _, rfl, SqT.of (w39.same _ _ q39), rfl, _, _, rfl, _, _, rfl, rfl, rfl, _, rfl, _, _, rfl, rfl, _, rfl, ?_⟩
      refine post_ite hm (fun k40 hm => ?_) (fun k40 hm => ?_)
      · skip
        obtain ⟨t41, e41, hm⟩ := pb_get hm
        obtain ⟨u41, f41, r41⟩ := A2.at h7 e41
        obtain ⟨a42, u42_0, u42_1, u42_2, rfl, q42, r42_0, r42_1, r42_2⟩ := nt3 r41
        replace r42_0 : rep K F39 u42_0 (t41.v.1 : Thing) := r42_0
        replace r42_1 : rep K F39 u42_1 (t41.v.2.1 : Thing) := r42_1
        replace r42_2 : rep K F39 u42_2 (t41.v.2.2.1 : (List Int)) := r42_2
        obtain ⟨a45, vs45, rfl, q45, h45⟩ := r42_2
        obtain ⟨t46, e46, hm⟩ := pb_get hm
        obtain ⟨u46, f46, r46⟩ := A2.at h7 e46
        obtain ⟨a47, u47_0, u47_1, u47_2, rfl, q47, r47_0, r47_1, r47_2⟩ := nt3 r46
        replace r47_0 : rep K F39 u47_0 (t46.v.1 : Thing) := r47_0
        replace r47_1 : rep K F39 u47_1 (t46.v.2.1 : Thing) := r47_1
        replace r47_2 : rep K F39 u47_2 (t46.v.2.2.1 : (List Int)) := r47_2
        obtain ⟨a50, vs50, rfl, q50, h50⟩ := r47_2
        obtain ⟨c51, hm⟩ := pb_div hm
        refine ⟨_, rfl, _, rfl, _, _, _, _, rfl, rfl, SqL.of (w39.same _ _ q7), f41, _, _, _, _, rfl, rfl, SqT.of (w39.same _ _ q42), rfl, _, rfl, _, rfl, _, _, _, _, rfl, rfl, SqL.of (w39.same _ _ q7), f46, _, _, _, _, rfl, rfl, SqT.of (w39.same _ _ q47), rfl, _, rfl, _, rfl, _, _, rfl, rfl, c51, (by show 3 ≤ sizeLine; decide), fun p52 n52 => ?_⟩
        obtain ⟨F52, s52, w52, q52⟩ := w39.frzE (o := .tup [u42_0, u47_1, (.int (b37.2 / g31))]) n52
        replace q1 := s52 _ _ q1
        replace h2 := A2.mono s52 h2
        replace q2 := s52 _ _ q2
        replace h7 := A2.mono s52 h7
        replace q7 := s52 _ _ q7
        replace h22 := A2.mono s52 h22
        replace q24 := s52 _ _ q24
        replace h30 := A2.mono s52 h30
        replace q30 := s52 _ _ q30
        replace h19 := A2.mono s52 h19
        replace h19_1 := A2.mono s52 h19_1
        replace q39 := s52 _ _ q39
        replace q42 := s52 _ _ q42
        replace r42_0 := Rep.mono s52 r42_0
        replace r42_1 := Rep.mono s52 r42_1
        replace q45 := s52 _ _ q45
        replace h45 := A2.mono s52 h45
        replace q47 := s52 _ _ q47
        replace r47_0 := Rep.mono s52 r47_0
        replace r47_1 := Rep.mono s52 r47_1
        replace q50 := s52 _ _ q50
        replace h50 := A2.mono s52 h50
        replace sF := sF.trans s52
        exact hN37 _ (post_ok hm) _ _ _ w52 (s39.trans s52) (rep_nt3 q52 r42_0 r47_1 rep_i)
      · skip
        exact hM37 (post_ok hm) _ _ w39 s39
    intro us37 F37 H37 ys37 s37 w37 gg37 hm
    replace q1 := s37 _ _ q1
    replace h2 := A2.mono s37 h2
    replace q2 := s37 _ _ q2
    replace h7 := A2.mono s37 h7
    replace q7 := s37 _ _ q7
    replace h22 := A2.mono s37 h22
    replace q24 := s37 _ _ q24
    replace h30 := A2.mono s37 h30
    replace q30 := s37 _ _ q30
    replace h19 := A2.mono s37 h19
    replace h19_1 := A2.mono s37 h19_1
    replace sF := sF.trans s37
    obtain ⟨F54, s54, w54, q54⟩ : ∃ F', Same F37 F' ∧ W F' _ ((a8, (.ins (A 24) dx8 (mkfs [("bottom" : Str), ("priced" : Str), ("held" : Str), ("lines" : Str)] [(.int y19.2.2.2), (.int y8.2.1), (.ref p8_2), (.ref p8_3)]))) :: (dx8, (.own a8)) :: (p8_2, .lst vs19) :: (p8_3, .lst vs19_1) :: os) ∧ F' D37 = some (.lst us37) := w37.freezeE (pre := [])
    replace q1 := s54 _ _ q1
    replace h2 := A2.mono s54 h2
    replace q2 := s54 _ _ q2
    replace h7 := A2.mono s54 h7
    replace q7 := s54 _ _ q7
    replace h22 := A2.mono s54 h22
    replace q24 := s54 _ _ q24
    replace h30 := A2.mono s54 h30
    replace q30 := s54 _ _ q30
    replace h19 := A2.mono s54 h19
    replace h19_1 := A2.mono s54 h19_1
    replace gg37 := A2.mono s54 gg37
    replace sF := sF.trans s54
    obtain ⟨c55, hm⟩ := pb_div hm
    refine ⟨_, rfl, _, _, _, _, _, rfl, (w54.get (pre := [])), T.cl_Board, T.na_Board_bottom, (fl_Board_bottom ((.int y19.2.2.2) : V) ((.int y8.2.1) : V) ((.ref p8_2) : V) ((.ref p8_3) : V)), _, rfl, _, _, rfl, rfl, c55, _, rfl, _, rfl, ⟨_, SqL.of (w54.same _ _ q24)⟩, fun D56 nD56 => ?_⟩
    refine lcM (K := K) (tw_list (a := p23) h22) hm w54 nD56 (fun F' H' acc s w => SqL.of (w.same _ _ (s _ _ q24))) ?_ ?_
    · -- one turn
      intro b56 x56 F56 H56 H56' acc56 N56 P56 s56 w56 y56 hN56 hm
      replace q1 := s56 _ _ q1
      replace h2 := A2.mono s56 h2
      replace q2 := s56 _ _ q2
      replace h7 := A2.mono s56 h7
      replace q7 := s56 _ _ q7
      replace h22 := A2.mono s56 h22
      replace q24 := s56 _ _ q24
      replace h30 := A2.mono s56 h30
      replace q30 := s56 _ _ q30
      replace gg37 := A2.mono s56 gg37
      replace q54 := s56 _ _ q54
      replace h19 := A2.mono s56 h19
      replace h19_1 := A2.mono s56 h19_1
      replace sF := sF.trans s56
      obtain ⟨rfl, r58⟩ := y56
      obtain rfl : x56 = V.int b56 := r58
      obtain ⟨c59, hm⟩ := pb_div hm
      exact ⟨rfl, _, rfl, _, rfl, _, _, rfl, rfl, c59, hN56 _ (post_ok hm) _ _ _ w56 (Same.refl _) rep_i⟩
    intro us56 F56 H56 ys56 s56 w56 gg56 hm
    replace q1 := s56 _ _ q1
    replace h2 := A2.mono s56 h2
    replace q2 := s56 _ _ q2
    replace h7 := A2.mono s56 h7
    replace q7 := s56 _ _ q7
    replace h22 := A2.mono s56 h22
    replace q24 := s56 _ _ q24
    replace h30 := A2.mono s56 h30
    replace q30 := s56 _ _ q30
    replace gg37 := A2.mono s56 gg37
    replace q54 := s56 _ _ q54
    replace h19 := A2.mono s56 h19
    replace h19_1 := A2.mono s56 h19_1
    replace sF := sF.trans s56
    obtain ⟨F61, s61, w61, q61⟩ : ∃ F', Same F56 F' ∧ W F' _ ((a8, (.ins (A 24) dx8 (mkfs [("bottom" : Str), ("priced" : Str), ("held" : Str), ("lines" : Str)] [(.int y19.2.2.2), (.int y8.2.1), (.ref p8_2), (.ref p8_3)]))) :: (dx8, (.own a8)) :: (p8_2, .lst vs19) :: (p8_3, .lst vs19_1) :: os) ∧ F' D56 = some (.lst us56) := w56.freezeE (pre := [])
    replace q1 := s61 _ _ q1
    replace h2 := A2.mono s61 h2
    replace q2 := s61 _ _ q2
    replace h7 := A2.mono s61 h7
    replace q7 := s61 _ _ q7
    replace h22 := A2.mono s61 h22
    replace q24 := s61 _ _ q24
    replace h30 := A2.mono s61 h30
    replace q30 := s61 _ _ q30
    replace gg37 := A2.mono s61 gg37
    replace q54 := s61 _ _ q54
    replace h19 := A2.mono s61 h19
    replace h19_1 := A2.mono s61 h19_1
    replace gg56 := A2.mono s61 gg56
    replace sF := sF.trans s61
    refine ⟨_, rfl, (by show 3 ≤ sizeLine; decide), fun p62 n62 => ?_⟩
    obtain ⟨F62, s62, w62, q62⟩ := w61.frzE (o := .tup [(.int (y19.2.2.2 / g31)), (.ref D56), (.ref D37)]) n62
    replace q1 := s62 _ _ q1
    replace h2 := A2.mono s62 h2
    replace q2 := s62 _ _ q2
    replace h7 := A2.mono s62 h7
    replace q7 := s62 _ _ q7
    replace h22 := A2.mono s62 h22
    replace q24 := s62 _ _ q24
    replace h30 := A2.mono s62 h30
    replace q30 := s62 _ _ q30
    replace gg37 := A2.mono s62 gg37
    replace q54 := s62 _ _ q54
    replace h19 := A2.mono s62 h19
    replace h19_1 := A2.mono s62 h19_1
    replace gg56 := A2.mono s62 gg56
    replace q61 := s62 _ _ q61
    replace sF := sF.trans s62
    have w63 : W F62 _ ((dx8, (.own a8)) :: (p8_2, .lst vs19) :: (p8_3, .lst vs19_1) :: os) := w62.drop (pre := [])
    have w64 : W F62 _ ((p8_2, .lst vs19) :: (p8_3, .lst vs19_1) :: os) := w63.drop (pre := [])
    have w65 : W F62 _ ((p8_3, .lst vs19_1) :: os) := w64.drop (pre := [])
    have w66 : W F62 _ (os) := w65.drop (pre := [])
    exact (post_ok hm) _ _ _ w66 sF (rep_nt3 q62 rep_i (rep_lst q61 gg56) (rep_lst q54 gg37))
def sp_law_purse (K : Fg) : Sp := fun vs H Q E => ∃ (F : Hp) (os : List (Addr × HO)) (v__law_script : V) (x__law_script : Scr) (x__law_k : Int), vs = [v__law_script, .int x__law_k] ∧ W F H (os) ∧ rep K F v__law_script x__law_script ∧ Post (law_purse x__law_script x__law_k) (RetL K F os Q) noX
theorem sc_law_purse : FnScope ["_law_script", "_law_k", "_law_cell", "_law_number"] ["_law_script", "_law_k"] (defScope s_law_purse) := ⟨rfl, rfl, rfl, by decide +kernel, rfl, by decide +kernel, by decide +kernel⟩
theorem ok_law_purse (T : Tx K mg A FD) : FnOk P w K mg base CX0 1 (A 27) (FD 27) ["_law_script", "_law_k"] (sp_law_purse K) := by
  refine T.d27.fn.ok sc_law_purse (fun vs H Q E h => ?_) (fun cdv Ar outer s H vs Q E hr h => ?_)
  · obtain ⟨F, os, v__law_script, x__law_script, x__law_k, rfl, _⟩ := h
    rfl
  · obtain ⟨F0, os, v__law_script, x__law_script, x__law_k, rfl, w0, r__law_script, hm⟩ := h
    have sF : Same F0 F0 := Same.refl _
    obtain ⟨a1, rfl, q1⟩ := r__law_script
    have h1 : A2 (rep K F0) (x__law_script.l.map V.int) x__law_script.l := A2.of_ints
    refine ⟨_, (pss_cons (ps_set (i := 2) sc_law_purse.nd rfl (Or.inl rfl) pe_int1) (pss_cons (ps_if (pt_cmp (pc_lt (pv 1) (pe_callB (call_lenN (K := K) rfl) (by rfl) T.n_len (by decide +kernel) (pa_cons (pv 0) pa_nil)))) (pss_one (ps_set (i := 2) sc_law_purse.nd rfl (Or.inl rfl) (pe_ix (ix_listK (K := K) rfl) (pv 0) (pv 1) (fun _ _ => rfl)))) (pss_one (ps_if (pt_cmpR (op_neDt (K := K) rfl Scr (by decide) hr.units) (pv 0) (pe_lst pa_nil) (nomark _)) (pss_one (ps_set (i := 2) sc_law_purse.nd rfl (Or.inl rfl) (pe_op op_add (pe_op op_mod (pe_ix (ix_listK (K := K) rfl) (pv 0) (pe_op op_mod (pv 1) (pe_callB (call_lenN (K := K) rfl) (by rfl) T.n_len (by decide +kernel) (pa_cons (pv 0) pa_nil))) (fun _ _ => rfl)) pe_int) (pe_op op_mul pe_int (pv 1))))) pss_nil))) (pss_cons (ps_if (pt_cmp (pc_ge (pv 2) (pe_op op_pow pe_int pe_int))) (pss_one (ps_ret (pe_lst (pa_cons (pv 2) pa_nil)))) pss_nil) (pss_cons (ps_set (i := 3) sc_law_purse.nd rfl (Or.inl rfl) (pe_op op_mod (pe_op op_sq (pe_op op_add (pe_op op_add (pe_op op_mod (pv 2) (pe_op op_add (pe_op op_pow pe_int pe_int) pe_int)) (pe_op op_mul pe_int (pv 1))) pe_int) pe_int) (pe_op op_add (pe_op op_pow pe_int pe_int) pe_int))) (pss_one (ps_ret (pe_lst (pa_cons (pe_op op_mod (pe_op op_mulW4 (pe_op op_add (pe_op op_add (pv 3) (pe_op op_mul pe_int (pv 1))) pe_int) pe_int) (pe_op op_add (pe_op op_pow pe_int pe_int) pe_int)) pa_nil)))))))), ?_⟩
    refine ⟨trivial, ?_⟩
    refine stepN ?_
    try dsimp only
    refine joinS hm (fun (g2 : Int) σ H' => ∃ (F' : Hp), σ = [some (.ref a1), some (.int x__law_k), some (.int g2), none] ∧ Same F0 F' ∧ W F' H' (os)) ?_ ?_
    · intro N2 P2 hN2 hm
      refine ⟨_, rfl, _, rfl, _, _, _, rfl, .inl (w0.same.seq q1), h1.length, _, _, rfl, rfl, _, rfl, ?_⟩
      refine post_ite hm (fun k3 hm => ?_) (fun k3 hm => ?_)
      · skip
        obtain ⟨t4, e4, hm⟩ := pb_get hm
        obtain ⟨u4, f4, r4⟩ := A2.at h1 e4
        obtain rfl : u4 = V.int t4 := r4
        exact ⟨_, rfl, _, rfl, _, _, _, _, rfl, rfl, w0.same.seq q1, f4, hN2 _ (post_ok hm) _ _ ⟨_, rfl, Same.refl _, w0⟩⟩
      · skip
        have h5 : A2 (rep K F0) [] ([] : (List Int)) := .nil
        refine ⟨_, rfl, (by show 0 ≤ sizeLine; decide), fun p6 n6 => ?_⟩
        have w6 : W F0 _ ((p6, .lst []) :: os) := w0.new n6
        refine ⟨(x__law_script : Scr), (⟨([] : (List Int))⟩ : Scr), (Rep.mono w6.same ⟨_, rfl, q1⟩), ⟨_, rfl, SqL.of (w6.get (pre := []))⟩, _, rfl, ?_⟩
        have w7 : W F0 _ (os) := w6.drop (pre := [])
        refine post_ite hm (fun k8 hm => ?_) (fun k8 hm => ?_)
        · skip
          obtain ⟨c9, hm⟩ := pb_mod hm
          obtain ⟨t10, e10, hm⟩ := pb_get hm
          obtain ⟨u10, f10, r10⟩ := A2.at h1 e10
          obtain rfl : u10 = V.int t10 := r10
          exact ⟨_, rfl, _, rfl, _, rfl, _, _, _, rfl, .inl (w7.same.seq q1), h1.length, _, _, rfl, rfl, c9, _, _, _, _, rfl, rfl, w7.same.seq q1, f10, _, _, rfl, rfl, (by show (0 : Int) < (1000003 : Int); decide), _, rfl, _, _, rfl, rfl, (.inl (by constructor <;> decide)), _, _, rfl, rfl, hN2 _ (post_ok hm) _ _ ⟨_, rfl, Same.refl _, w7⟩⟩
        · skip
          exact hN2 _ (post_ok hm) _ _ ⟨_, rfl, Same.refl _, w7⟩
    intro g2 σ2 H2 hI hm
    obtain ⟨F2, rfl, s2, w2⟩ := hI
    replace h1 := A2.mono s2 h1
    replace q1 := s2.seq q1
    replace sF := sF.trans s2
    refine ⟨_, rfl, _, _, rfl, rfl, (by refine ⟨?_, ?_, ?_⟩ <;> decide), _, _, rfl, rfl, _, rfl, ?_⟩
    refine post_ite hm (fun k14 hm => ?_) (fun k14 hm => ?_)
    · skip
      have h15 : A2 (rep K F2) [(.int g2)] ([g2] : (List Int)) := .cons rep_i (.nil)
      refine ⟨_, rfl, (by show 1 ≤ sizeLine; decide), fun p16 n16 => ?_⟩
      have w16 : W F2 _ ((p16, .lst [(.int g2)]) :: os) := w2.new n16
      exact (post_ok hm) _ _ _ _ w16 sF h15
    · skip
      obtain ⟨c20, hm⟩ := pb_sq hm
      obtain ⟨c24, hm⟩ := pb_mulW hm
      have h27 : A2 (rep K F2) [(.int (((((((((g2 % (((10 : Int) ^ ((30 : Int) : Int).toNat) + (57 : Int))) + ((7919 : Int) * x__law_k)) + (101 : Int)) ^ (2 : Int).toNat) % (((10 : Int) ^ ((30 : Int) : Int).toNat) + (57 : Int))) + ((977 : Int) * x__law_k)) + (5 : Int)) * (618033988749894848204586834365 : Int)) % (((10 : Int) ^ ((30 : Int) : Int).toNat) + (57 : Int))))] ([(((((((((g2 % (((10 : Int) ^ ((30 : Int) : Int).toNat) + (57 : Int))) + ((7919 : Int) * x__law_k)) + (101 : Int)) ^ (2 : Int).toNat) % (((10 : Int) ^ ((30 : Int) : Int).toNat) + (57 : Int))) + ((977 : Int) * x__law_k)) + (5 : Int)) * (618033988749894848204586834365 : Int)) % (((10 : Int) ^ ((30 : Int) : Int).toNat) + (57 : Int)))] : (List Int)) := .cons rep_i (.nil)
      refine ⟨_, rfl, _, _, rfl, rfl, (by refine ⟨?_, ?_, ?_⟩ <;> decide), _, _, rfl, rfl, _, _, rfl, rfl, (by show (0 : Int) < (((10 : Int) ^ ((30 : Int) : Int).toNat) + (57 : Int)); decide), _, rfl, _, _, rfl, rfl, (.inl (by constructor <;> decide)), _, _, rfl, rfl, _, _, rfl, rfl, _, _, rfl, rfl, ⟨rfl, c20⟩, _, _, rfl, rfl, (by refine ⟨?_, ?_, ?_⟩ <;> decide), _, _, rfl, rfl, _, _, rfl, rfl, (by show (0 : Int) < (((10 : Int) ^ ((30 : Int) : Int).toNat) + (57 : Int)); decide), _, rfl, _, rfl, _, _, rfl, rfl, (.inl (by constructor <;> decide)), _, _, rfl, rfl, _, _, rfl, rfl, _, _, rfl, rfl, c24, _, _, rfl, rfl, (by refine ⟨?_, ?_, ?_⟩ <;> decide), _, _, rfl, rfl, _, _, rfl, rfl, (by show (0 : Int) < (((10 : Int) ^ ((30 : Int) : Int).toNat) + (57 : Int)); decide), (by show 1 ≤ sizeLine; decide), fun p28 n28 => ?_⟩
      have w28 : W F2 _ ((p28, .lst [(.int (((((((((g2 % (((10 : Int) ^ ((30 : Int) : Int).toNat) + (57 : Int))) + ((7919 : Int) * x__law_k)) + (101 : Int)) ^ (2 : Int).toNat) % (((10 : Int) ^ ((30 : Int) : Int).toNat) + (57 : Int))) + ((977 : Int) * x__law_k)) + (5 : Int)) * (618033988749894848204586834365 : Int)) % (((10 : Int) ^ ((30 : Int) : Int).toNat) + (57 : Int))))]) :: os) := w2.new n28
      exact (post_ok hm) _ _ _ _ w28 sF h27
def sp_law_take (K : Fg) : Sp := fun vs H Q E => ∃ (F : Hp) (os : List (Addr × HO)) (a__law_purse_here : Addr) (vs__law_purse_here : List V) (x__law_purse_here : (List Int)) (x__law_many : Int), vs = [.ref a__law_purse_here, .int x__law_many] ∧ W F H ((a__law_purse_here, .lst vs__law_purse_here) :: os) ∧ A2 (rep K F) vs__law_purse_here x__law_purse_here ∧ Post (law_take x__law_purse_here x__law_many) (RetM K F a__law_purse_here os Q) noX
theorem sc_law_take : FnScope ["_law_purse_here", "_law_many", "_law_found"] ["_law_purse_here", "_law_many"] (defScope s_law_take) := ⟨rfl, rfl, rfl, by decide +kernel, rfl, by decide +kernel, by decide +kernel⟩
theorem ok_law_take (T : Tx K mg A FD) : FnOk P w K mg base CX0 1 (A 28) (FD 28) ["_law_purse_here", "_law_many"] (sp_law_take K) := by
  refine T.d28.fn.ok sc_law_take (fun vs H Q E h => ?_) (fun cdv Ar outer s H vs Q E hr h => ?_)
  · obtain ⟨F, os, a__law_purse_here, vs__law_purse_here, x__law_purse_here, x__law_many, rfl, _⟩ := h
    rfl
  · obtain ⟨F0, os, a__law_purse_here, vs__law_purse_here, x__law_purse_here, x__law_many, rfl, w0, h__law_purse_here, hm⟩ := h
    have sF : Same F0 F0 := Same.refl _
    refine ⟨_, (pss_cons (ps_set (i := 2) sc_law_take.nd rfl (Or.inl rfl) (pe_op op_mod (pe_ix (ix_listK (K := K) rfl) (pv 0) pe_int (fun _ _ => rfl)) (pv 1))) (pss_cons (ps_asg (pe_op op_fdivW (pe_ix (ix_listK (K := K) rfl) (pv 0) pe_int (fun _ _ => rfl)) (pv 1)) (pg_sub (pv 0) pe_int set_list)) (pss_one (ps_ret (pv 2))))), ?_⟩
    obtain ⟨t2, e2, hm⟩ := pb_get hm
    obtain ⟨u2, f2, r2⟩ := A2.at h__law_purse_here e2
    obtain rfl : u2 = V.int t2 := r2
    obtain ⟨c3, hm⟩ := pb_mod hm
    obtain ⟨t4, e4, hm⟩ := pb_get hm
    obtain ⟨u4, f4, r4⟩ := A2.at h__law_purse_here e4
    obtain rfl : u4 = V.int t4 := r4
    obtain ⟨c5, hm⟩ := pb_div hm
    obtain ⟨j6, l6, z6, e6, hm⟩ := pn_set hm
    refine ⟨_, rfl, _, _, _, _, rfl, rfl, SqL.of (w0.get (pre := [])), f2, _, rfl, _, _, rfl, rfl, c3, _, rfl, _, _, _, _, rfl, rfl, SqL.of (w0.get (pre := [])), f4, _, rfl, _, _, rfl, rfl, c5, _, rfl, _, _, _, _, rfl, rfl, (w0.get (pre := [])), (A2.ix h__law_purse_here z6), ?_⟩
    have h6 : A2 (rep K F0) (vs__law_purse_here.set j6 (V.int (t4 / x__law_many))) l6 := e6 ▸ A2.set rep_i j6 h__law_purse_here
    have w7 : W F0 _ ((a__law_purse_here, .lst (vs__law_purse_here.set j6 (V.int (t4 / x__law_many)))) :: os) := w0.set (pre := [])
    exact ⟨_, rfl, (post_ok hm) _ _ _ _ w7 sF rep_i h6⟩
def sp_law_order (K : Fg) : Sp := fun vs H Q E => ∃ (F : Hp) (os : List (Addr × HO)) (a__law_purse_here : Addr) (vs__law_purse_here : List V) (x__law_purse_here : (List Int)) (x__law_many : Int), vs = [.ref a__law_purse_here, .int x__law_many] ∧ W F H ((a__law_purse_here, .lst vs__law_purse_here) :: os) ∧ A2 (rep K F) vs__law_purse_here x__law_purse_here ∧ Post (law_order x__law_purse_here x__law_many) (RetLM K F a__law_purse_here os Q) noX
theorem sc_law_order : FnScope ["_law_purse_here", "_law_many", "_law_found", "_law_k"] ["_law_purse_here", "_law_many"] (defScope s_law_order) := ⟨rfl, rfl, rfl, by decide +kernel, rfl, by decide +kernel, by decide +kernel⟩
theorem ok_law_order (T : Tx K mg A FD) : FnOk P w K mg base CX0 2 (A 29) (FD 29) ["_law_purse_here", "_law_many"] (sp_law_order K) := by
  refine T.d29.fn.ok sc_law_order (fun vs H Q E h => ?_) (fun cdv Ar outer s H vs Q E hr h => ?_)
  · obtain ⟨F, os, a__law_purse_here, vs__law_purse_here, x__law_purse_here, x__law_many, rfl, _⟩ := h
    rfl
  · obtain ⟨F0, os, a__law_purse_here, vs__law_purse_here, x__law_purse_here, x__law_many, rfl, w0, h__law_purse_here, hm⟩ := h
    have sF : Same F0 F0 := Same.refl _
    refine ⟨_, (pss_cons (ps_set (i := 2) sc_law_order.nd rfl (Or.inl rfl) (pe_lst pa_nil)) (pss_cons (ps_for PassesOwn.never rfl (pi_range1 (by rfl) T.n_range (pa_cons (pv 1) pa_nil)) (pg_name (i := 3) sc_law_order.nd rfl (Or.inl rfl)) (pss_one (ps_expr (pe_bm PySem.F.plainAttrs_list PySem.F.slot_list_insert PySem.F.type_list_insert mt_insert (pv 2) (pa_cons (pe_call (ok_law_take T) (hr.mono (by decide)) (by rfl) T.d28.mg T.d28.fn.kp T.d28.b .nil pass0 (pa_cons (pv 0) (pa_cons (pe_op op_add (pv 3) pe_int) pa_nil))) (pa_cons (pv 3) pa_nil)))))) (pss_one (ps_ret (pv 2))))), ?_⟩
    have h2 : A2 (rep K F0) [] ([] : (List Int)) := .nil
    refine ⟨(by show 0 ≤ sizeLine; decide), fun p3 n3 => ?_⟩
    have w3 : W F0 _ ((p3, .lst []) :: (a__law_purse_here, .lst vs__law_purse_here) :: os) := w0.new n3
    obtain ⟨c5, hm⟩ := pb_rng hm
    refine ⟨_, rfl, _, rfl, c5.2.2.1, c5.2.2.2, ?_⟩
    refine forS (tw_rng0 (j := x__law_many)) hm (fun (g4 : (List Int) × (List Int)) σ H' => ∃ (F' : Hp) (vs4_0 : List V) (vs4_1 : List V) (o4_3 : Option V), σ = [some (.ref a__law_purse_here), some (.int x__law_many), some (.ref p3), o4_3] ∧ Same F0 F' ∧ W F' H' ((p3, .lst vs4_0) :: (a__law_purse_here, .lst vs4_1) :: os) ∧ A2 (rep K F') vs4_0 g4.1 ∧ A2 (rep K F') vs4_1 g4.2) ⟨_, _, _, _, rfl, Same.refl _, w3, h2, h__law_purse_here⟩ (fun _ _ _ _ => trivial) ?_ ?_
    · -- a turn
      intro b4 g4 x4 σ4 H4 H4' N4 P4 hI hy hN4 hm
      obtain ⟨F4, vs4_0, vs4_1, o4_3, rfl, s4, w4, h4_0, h4_1⟩ := hI
      replace sF := sF.trans s4
      obtain ⟨rfl, rfl⟩ := hy
      have w6 : W F4 _ ((a__law_purse_here, .lst vs4_1) :: (p3, .lst vs4_0) :: os) := w4.front (pre := [_])
      refine ⟨_, rfl, .inl ⟨rfl, _, SqL.of (w4.get (pre := []))⟩, _, rfl, _, rfl, _, _, rfl, rfl, _, _, _, _, _, _, rfl, w6, h4_1, ?_⟩
      refine (post_bind hm).mono (fun y7 hm v7 vs7 F7 H7 w7 s7 r7 h7 => ?_) (fun _ z => z)
      replace h4_0 := A2.mono s7 h4_0
      replace sF := sF.trans s7
      obtain rfl : v7 = V.int y7.1 := r7
      obtain ⟨l8, z8, e8, hm⟩ := pn_ins hm
      refine ⟨_, rfl, _, _, _, _, rfl, rfl, (w7.get (pre := [_])), (line_ins h4_0 z8.1), z8.2.1, (by have := z8.2.2; omega), ?_⟩
      have h8 : A2 (rep K F7) (vs4_0.take y7.1.toNat ++ [(.int b4)] ++ vs4_0.drop y7.1.toNat) l8 := e8 ▸ A2.ins _ h4_0 rep_i
      have w9 : W F7 _ ((a__law_purse_here, .lst vs7) :: (p3, .lst (vs4_0.take y7.1.toNat ++ [(.int b4)] ++ vs4_0.drop y7.1.toNat)) :: os) := w7.set (pre := [_])
      have w10 : W F7 _ ((p3, .lst (vs4_0.take y7.1.toNat ++ [(.int b4)] ++ vs4_0.drop y7.1.toNat)) :: (a__law_purse_here, .lst vs7) :: os) := w9.front (pre := [_])
      exact hN4 _ (post_ok hm) _ _ ⟨_, _, _, _, rfl, (s4.trans s7), w10, h8, h7⟩
    intro g4 σ4 H4 hI hm
    obtain ⟨F4, vs4_0, vs4_1, o4_3, rfl, s4, w4, h4_0, h4_1⟩ := hI
    replace sF := sF.trans s4
    exact ⟨_, rfl, (post_ok hm) _ _ _ _ _ w4 sF h4_0 h4_1⟩
def sp_law_pairs (K : Fg) : Sp := fun vs H Q E => ∃ (F : Hp) (os : List (Addr × HO)) (a__law_purse_here : Addr) (vs__law_purse_here : List V) (x__law_purse_here : (List Int)) (x__law_many : Int) (x__law_way : Int), vs = [.ref a__law_purse_here, .int x__law_many, .int x__law_way] ∧ W F H ((a__law_purse_here, .lst vs__law_purse_here) :: os) ∧ A2 (rep K F) vs__law_purse_here x__law_purse_here ∧ Post (law_pairs x__law_purse_here x__law_many x__law_way) (RetLM K F a__law_purse_here os Q) noX
theorem sc_law_pairs : FnScope ["_law_purse_here", "_law_many", "_law_way", "_law_found", "_law_k", "_law_near", "_law_one", "_law_other"] ["_law_purse_here", "_law_many", "_law_way"] (defScope s_law_pairs) := ⟨rfl, rfl, rfl, by decide +kernel, rfl, by decide +kernel, by decide +kernel⟩
theorem ok_law_pairs (T : Tx K mg A FD) : FnOk P w K mg base CX0 2 (A 30) (FD 30) ["_law_purse_here", "_law_many", "_law_way"] (sp_law_pairs K) := by
  refine T.d30.fn.ok sc_law_pairs (fun vs H Q E h => ?_) (fun cdv Ar outer s H vs Q E hr h => ?_)
  · obtain ⟨F, os, a__law_purse_here, vs__law_purse_here, x__law_purse_here, x__law_many, x__law_way, rfl, _⟩ := h
    rfl
  · obtain ⟨F0, os, a__law_purse_here, vs__law_purse_here, x__law_purse_here, x__law_many, x__law_way, rfl, w0, h__law_purse_here, hm⟩ := h
    have sF : Same F0 F0 := Same.refl _
    refine ⟨_, (pss_cons (ps_set (i := 3) sc_law_pairs.nd rfl (Or.inl rfl) (pe_lst pa_nil)) (pss_cons (ps_for PassesOwn.never rfl (pi_range2 (by rfl) T.n_range (pa_cons pe_int (pa_cons (pv 1) pa_nil))) (pg_name (i := 4) sc_law_pairs.nd rfl (Or.inr rfl)) (pss_cons (ps_set (i := 5) sc_law_pairs.nd rfl (Or.inl rfl) (pe_call (ok_law_take T) (hr.mono (by decide)) (by rfl) T.d28.mg T.d28.fn.kp T.d28.b .nil pass0 (pa_cons (pv 0) (pa_cons (pv 4) pa_nil)))) (pss_cons (ps_expr (pe_bm PySem.F.plainAttrs_list PySem.F.slot_list_append PySem.F.type_list_append mt_append (pv 3) (pa_cons (pe_tup (pa_cons (pe_ix (ix_listK (K := K) rfl) (pe_lst (pa_cons (pe_op op_sub (pv 4) pe_int) (pa_cons (pe_op op_sub (pv 4) pe_int) (pa_cons pe_int (pa_cons (pv 5) pa_nil))))) (pe_callB (call_min2 rfl) (by rfl) T.n_min (by decide +kernel) (pa_cons (pv 2) (pa_cons pe_int pa_nil))) (fun _ _ => rfl)) (pa_cons (pv 4) pa_nil))) pa_nil))) (pss_one (ps_if (pt_cmp (pc_eqI (pv 2) pe_int)) (pss_one (ps_expr (pe_bm PySem.F.plainAttrs_list PySem.F.slot_list_extend PySem.F.type_list_extend mt_extend (pv 3) (pa_cons (pe_lc (own := [("_law_one", 6)]) (g := gName 6) (by rfl) sc_law_pairs.nd (pi_range1 (by rfl) T.n_range (pa_cons (pv 4) pa_nil)) (blkOk_by (own := [("_law_one", 6)]) (N := ["_law_purse_here", "_law_many", "_law_way", "_law_found", "_law_k", "_law_near", "_law_one", "_law_other"]) (sc := defScope s_law_pairs) (by decide +kernel)) (fun _ _ _ _ _ => (pg_name (i := 6) sc_law_pairs.nd rfl (Or.inl rfl))) (fun _ _ _ _ _ => pts_nil) (fun _ _ _ _ _ => (pe_tup (pa_cons (pv 6) (pa_cons (pv 4) pa_nil))))) pa_nil)))) pss_nil))))) (pss_cons (ps_if (PW.pt (pw_and (pt_cmp (pc_eqI (pv 2) pe_int)) (pw_and1 (pt_cmp (pc_gt (pv 1) pe_int))))) (pss_one (ps_expr (pe_bm PySem.F.plainAttrs_list PySem.F.slot_list_append PySem.F.type_list_append mt_append (pv 3) (pa_cons (pe_tup (pa_cons pe_int (pa_cons (pe_op op_sub (pv 1) pe_int) pa_nil))) pa_nil)))) pss_nil) (pss_cons (ps_if (pt_cmp (pc_gt (pv 2) pe_int)) (pss_one (ps_for PassesOwn.never rfl (pi_range1 (by rfl) T.n_range (pa_cons (pe_call (ok_law_take T) (hr.mono (by decide)) (by rfl) T.d28.mg T.d28.fn.kp T.d28.b .nil pass0 (pa_cons (pv 0) (pa_cons pe_int pa_nil))) pa_nil)) (pg_name (i := 4) sc_law_pairs.nd rfl (Or.inr rfl)) (pss_cons (ps_set (i := 6) sc_law_pairs.nd rfl (Or.inl rfl) (pe_call (ok_law_take T) (hr.mono (by decide)) (by rfl) T.d28.mg T.d28.fn.kp T.d28.b .nil pass0 (pa_cons (pv 0) (pa_cons (pv 1) pa_nil)))) (pss_cons (ps_set (i := 7) sc_law_pairs.nd rfl (Or.inl rfl) (pe_call (ok_law_take T) (hr.mono (by decide)) (by rfl) T.d28.mg T.d28.fn.kp T.d28.b .nil pass0 (pa_cons (pv 0) (pa_cons (pv 1) pa_nil)))) (pss_one (ps_expr (pe_bm PySem.F.plainAttrs_list PySem.F.slot_list_extend PySem.F.type_list_extend mt_extend (pv 3) (pa_cons (pe_op op_rep (pe_lst (pa_cons (pe_tup (pa_cons (pv 6) (pa_cons (pv 7) pa_nil))) pa_nil)) (pe_callTy call_intB (by rfl) T.n_int (by decide +kernel) (pa_cons (pe_cmp (pc_neI (pv 6) (pv 7))) pa_nil))) pa_nil)))))))) pss_nil) (pss_one (ps_ret (pv 3))))))), ?_⟩
    have h2 : A2 (rep K F0) [] ([] : (List (Int × Int))) := .nil
    refine ⟨(by show 0 ≤ sizeLine; decide), fun p3 n3 => ?_⟩
    have w3 : W F0 _ ((p3, .lst []) :: (a__law_purse_here, .lst vs__law_purse_here) :: os) := w0.new n3
    obtain ⟨c5, hm⟩ := pb_rng hm
    refine ⟨_, rfl, _, _, rfl, c5, ?_⟩
    refine forS (tw_rng (i := (1 : Int)) (j := x__law_many)) hm (fun (g4 : (List (Int × Int)) × (List Int)) σ H' => ∃ (F' : Hp) (vs4_0 : List V) (vs4_1 : List V) (o4_5 : Option V) (o4_4 : Option V), σ = [some (.ref a__law_purse_here), some (.int x__law_many), some (.int x__law_way), some (.ref p3), o4_4, o4_5, none, none] ∧ Same F0 F' ∧ W F' H' ((p3, .lst vs4_0) :: (a__law_purse_here, .lst vs4_1) :: os) ∧ A2 (rep K F') vs4_0 g4.1 ∧ A2 (rep K F') vs4_1 g4.2) ⟨_, _, _, _, _, rfl, Same.refl _, w3, h2, h__law_purse_here⟩ (fun _ _ _ _ => trivial) ?_ ?_
    · -- a turn
      intro b4 g4 x4 σ4 H4 H4' N4 P4 hI hy hN4 hm
      obtain ⟨F4, vs4_0, vs4_1, o4_5, o4_4, rfl, s4, w4, h4_0, h4_1⟩ := hI
      replace sF := sF.trans s4
      obtain ⟨rfl, rfl⟩ := hy
      have w6 : W F4 _ ((a__law_purse_here, .lst vs4_1) :: (p3, .lst vs4_0) :: os) := w4.front (pre := [_])
      refine ⟨_, rfl, _, rfl, _, _, _, _, _, _, rfl, w6, h4_1, ?_⟩
      refine (post_bind hm).mono (fun y7 hm v7 vs7 F7 H7 w7 s7 r7 h7 => ?_) (fun _ z => z)
      replace h4_0 := A2.mono s7 h4_0
      replace sF := sF.trans s7
      obtain rfl : v7 = V.int y7.1 := r7
      have h8 : A2 (rep K F7) [(.int (b4 - (1 : Int))), (.int (b4 - (1 : Int))), (.int 0), (.int y7.1)] ([(b4 - (1 : Int)), (b4 - (1 : Int)), (0 : Int), y7.1] : (List Int)) := .cons rep_i (.cons rep_i (.cons rep_i (.cons rep_i (.nil))))
      refine ⟨_, rfl, .inl ⟨rfl, _, SqL.of (w7.get (pre := [_]))⟩, _, rfl, _, _, rfl, rfl, _, rfl, _, _, rfl, rfl, _, rfl, (by show 4 ≤ sizeLine; decide), fun p9 n9 => ?_⟩
      have w9 : W F7 _ ((p9, .lst [(.int (b4 - (1 : Int))), (.int (b4 - (1 : Int))), (.int 0), (.int y7.1)]) :: (a__law_purse_here, .lst vs7) :: (p3, .lst vs4_0) :: os) := w7.new n9
      obtain ⟨t10, e10, hm⟩ := pb_get hm
      obtain ⟨u10, f10, r10⟩ := A2.at h8 e10
      obtain rfl : u10 = V.int t10 := r10
      refine ⟨_, rfl, _, _, rfl, _, _, _, _, rfl, rfl, SqL.of (w9.get (pre := [])), f10, _, rfl, (by show 2 ≤ sizeLine; decide), fun p11 n11 => ?_⟩
      obtain ⟨F11, s11, w11, q11⟩ := w9.frzE (o := .tup [(.int t10), (.int b4)]) n11
      replace h7 := A2.mono s11 h7
      replace h4_0 := A2.mono s11 h4_0
      replace h8 := A2.mono s11 h8
      replace sF := sF.trans s11
      obtain ⟨l12, z12, e12, hm⟩ := pn_app hm
      refine ⟨_, _, _, rfl, rfl, (w11.get (pre := [_, _])), (A2.lt h4_0 z12), ?_⟩
      have h12 : A2 (rep K F11) (vs4_0 ++ [(V.ref p11)]) l12 := e12 ▸ A2.snoc h4_0 (rep_pair q11 rep_i rep_i)
      have w13 : W F11 _ ((p9, .lst [(.int (b4 - (1 : Int))), (.int (b4 - (1 : Int))), (.int 0), (.int y7.1)]) :: (a__law_purse_here, .lst vs7) :: (p3, .lst (vs4_0 ++ [(V.ref p11)])) :: os) := w11.set (pre := [_, _])
      have w14 : W F11 _ ((a__law_purse_here, .lst vs7) :: (p3, .lst (vs4_0 ++ [(V.ref p11)])) :: os) := w13.drop (pre := [])
      refine ⟨_, rfl, _, _, rfl, rfl, _, rfl, ?_⟩
      refine post_ite hm (fun k15 hm => ?_) (fun k15 hm => ?_)
      · skip
        obtain ⟨c16, hm⟩ := pb_rng hm
        refine ⟨_, rfl, .inl ⟨rfl, _, SqL.of (w14.get (pre := [_]))⟩, _, rfl, _, rfl, c16.2.2.1, c16.2.2.2, fun D17 nD17 => ?_⟩
        refine lcM (K := K) (tw_rng0 (j := b4)) hm w14 nD17 (fun F' H' acc s w => trivial) ?_ ?_
        · -- one turn
          intro b17 x17 F17 H17 H17' acc17 N17 P17 s17 w17 y17 hN17 hm
          replace h7 := A2.mono s17 h7
          replace h12 := A2.mono s17 h12
          replace sF := sF.trans s17
          obtain ⟨rfl, rfl⟩ := y17
          refine ⟨rfl, _, rfl, _, rfl, (by show 2 ≤ sizeLine; decide), fun p19 n19 => ?_⟩
          obtain ⟨F19, s19, w19, q19⟩ := w17.frzE (o := .tup [(.int b17), (.int b4)]) n19
          replace h7 := A2.mono s19 h7
          replace h12 := A2.mono s19 h12
          replace sF := sF.trans s19
          exact hN17 _ (post_ok hm) _ _ _ w19 s19 (rep_pair q19 rep_i rep_i)
        intro us17 F17 H17 ys17 s17 w17 gg17 hm
        replace h7 := A2.mono s17 h7
        replace h12 := A2.mono s17 h12
        replace sF := sF.trans s17
        obtain ⟨l21, z21, e21, hm⟩ := pn_extend hm
        refine ⟨_, _, _, _, rfl, rfl, (w17.get (pre := [_, _])), (w17.get (pre := [])), (A2.le2 h12 gg17 z21), ?_⟩
        have h21 : A2 (rep K F17) ((vs4_0 ++ [(V.ref p11)]) ++ us17) l21 := e21 ▸ A2.append h12 gg17
        have w22 : W F17 _ ((D17, .lst us17) :: (a__law_purse_here, .lst vs7) :: (p3, .lst ((vs4_0 ++ [(V.ref p11)]) ++ us17)) :: os) := w17.set (pre := [_, _])
        have w23 : W F17 _ ((a__law_purse_here, .lst vs7) :: (p3, .lst ((vs4_0 ++ [(V.ref p11)]) ++ us17)) :: os) := w22.drop (pre := [])
        have w24 : W F17 _ ((p3, .lst ((vs4_0 ++ [(V.ref p11)]) ++ us17)) :: (a__law_purse_here, .lst vs7) :: os) := w23.front (pre := [_])
        exact hN4 _ (post_ok hm) _ _ ⟨_, _, _, _, _, rfl, (s4.trans (s7.trans (s11.trans s17))), w24, h21, h7⟩
      · skip
        have w25 : W F11 _ ((p3, .lst (vs4_0 ++ [(V.ref p11)])) :: (a__law_purse_here, .lst vs7) :: os) := w14.front (pre := [_])
        exact hN4 _ (post_ok hm) _ _ ⟨_, _, _, _, _, rfl, (s4.trans (s7.trans s11)), w25, h12, h7⟩
    intro g4 σ4 H4 hI hm
    obtain ⟨F4, vs4_0, vs4_1, o4_5, o4_4, rfl, s4, w4, h4_0, h4_1⟩ := hI
    replace sF := sF.trans s4
    try dsimp only
    refine joinS hm (fun (g26 : (List (Int × Int))) σ H' => ∃ (F' : Hp) (vs26_0 : List V), σ = [some (.ref a__law_purse_here), some (.int x__law_many), some (.int x__law_way), some (.ref p3), o4_4, o4_5, none, none] ∧ Same F4 F' ∧ W F' H' ((p3, .lst vs26_0) :: (a__law_purse_here, .lst vs4_1) :: os) ∧ A2 (rep K F') vs26_0 g26) ?_ ?_
    · intro N26 P26 hN26 hm
      refine stepIf ?_
      refine cutT (fun c H' => c = (((decide (x__law_way = (1 : Int))) && (decide ((2 : Int) < x__law_many)))) ∧ ∃ F', Same F4 F' ∧ W F' H' ((p3, .lst vs4_0) :: (a__law_purse_here, .lst vs4_1) :: os)) (fun Q27 q27 => ?_) (fun c27 H27 hc27 => ?_)
      · -- the ways
        refine ⟨_, rfl, _, _, rfl, rfl, _, rfl, ?_⟩
        refine ifB (fun k28 => ?_) (fun k28 => ?_)
        · skip
          exact ⟨_, rfl, _, _, rfl, rfl, _, rfl, q27 _ _ ⟨(by first | rfl | exact absurd k28 (by decide) | (simp [k28]; done) | ((try simp only [Bool.not_eq_true] at k28); simp only [k28, Bool.true_or, Bool.false_or, Bool.or_false, Bool.or_true, Bool.true_and, Bool.false_and, Bool.and_true, Bool.and_false])), _, Same.refl _, w4⟩⟩
        · skip
          exact q27 _ _ ⟨(by first | rfl | exact absurd k28 (by decide) | (simp [k28]; done) | ((try simp only [Bool.not_eq_true] at k28); simp only [k28, Bool.true_or, Bool.false_or, Bool.or_false, Bool.or_true, Bool.true_and, Bool.false_and, Bool.and_true, Bool.and_false])), _, Same.refl _, w4⟩
      obtain ⟨rfl, F27, s27, w27⟩ := hc27
      replace h4_0 := A2.mono s27 h4_0
      replace h4_1 := A2.mono s27 h4_1
      replace sF := sF.trans s27
      refine post_ite hm (fun k31 hm => ?_) (fun k31 hm => ?_)
      · skip
        refine ⟨_, rfl, .inl ⟨rfl, _, SqL.of (w27.get (pre := []))⟩, _, rfl, _, _, rfl, rfl, (by show 2 ≤ sizeLine; decide), fun p32 n32 => ?_⟩
        obtain ⟨F32, s32, w32, q32⟩ := w27.frzE (o := .tup [(.int 0), (.int (x__law_many - (1 : Int)))]) n32
        replace h4_0 := A2.mono s32 h4_0
        replace h4_1 := A2.mono s32 h4_1
        replace sF := sF.trans s32
        obtain ⟨l33, z33, e33, hm⟩ := pn_app hm
        refine ⟨_, _, _, rfl, rfl, (w32.get (pre := [])), (A2.lt h4_0 z33), ?_⟩
        have h33 : A2 (rep K F32) (vs4_0 ++ [(V.ref p32)]) l33 := e33 ▸ A2.snoc h4_0 (rep_pair q32 rep_i rep_i)
        have w34 : W F32 _ ((p3, .lst (vs4_0 ++ [(V.ref p32)])) :: (a__law_purse_here, .lst vs4_1) :: os) := w32.set (pre := [])
        exact hN26 _ (post_ok hm) _ _ ⟨_, _, rfl, (s27.trans s32), w34, h33⟩
      · skip
        exact hN26 _ (post_ok hm) _ _ ⟨_, _, rfl, s27, w27, h4_0⟩
    intro g26 σ26 H26 hI hm
    obtain ⟨F26, vs26_0, rfl, s26, w26, h26_0⟩ := hI
    replace h4_1 := A2.mono s26 h4_1
    replace sF := sF.trans s26
    try dsimp only
    refine joinS hm (fun (g35 : (List (Int × Int)) × (List Int)) σ H' => ∃ (F' : Hp) (vs35_0 : List V) (vs35_1 : List V) (o35_4 : Option V) (o35_6 : Option V) (o35_7 : Option V), σ = [some (.ref a__law_purse_here), some (.int x__law_many), some (.int x__law_way), some (.ref p3), o35_4, o4_5, o35_6, o35_7] ∧ Same F26 F' ∧ W F' H' ((p3, .lst vs35_0) :: (a__law_purse_here, .lst vs35_1) :: os) ∧ A2 (rep K F') vs35_0 g35.1 ∧ A2 (rep K F') vs35_1 g35.2) ?_ ?_
    · intro N35 P35 hN35 hm
      refine ⟨_, rfl, _, _, rfl, rfl, _, rfl, ?_⟩
      refine post_ite hm (fun k36 hm => ?_) (fun k36 hm => ?_)
      · skip
        have w38 : W F26 _ ((a__law_purse_here, .lst vs4_1) :: (p3, .lst vs26_0) :: os) := w26.front (pre := [_])
        refine ⟨_, rfl, _, _, _, _, _, _, rfl, w38, h4_1, ?_⟩
        refine (post_bind hm).mono (fun y39 hm v39 vs39 F39 H39 w39 s39 r39 h39 => ?_) (fun _ z => z)
        replace h26_0 := A2.mono s39 h26_0
        replace sF := sF.trans s39
        obtain rfl : v39 = V.int y39.1 := r39
        obtain ⟨c40, hm⟩ := pb_rng hm
        refine ⟨_, rfl, c40.2.2.1, c40.2.2.2, ?_⟩
        refine forS (tw_rng0 (j := y39.1)) hm (fun (g37 : (List Int) × (List (Int × Int))) σ H' => ∃ (F' : Hp) (vs37_0 : List V) (vs37_1 : List V) (o37_6 : Option V) (o37_7 : Option V) (o37_4 : Option V), σ = [some (.ref a__law_purse_here), some (.int x__law_many), some (.int x__law_way), some (.ref p3), o37_4, o4_5, o37_6, o37_7] ∧ Same F39 F' ∧ W F' H' ((a__law_purse_here, .lst vs37_0) :: (p3, .lst vs37_1) :: os) ∧ A2 (rep K F') vs37_0 g37.1 ∧ A2 (rep K F') vs37_1 g37.2) ⟨_, _, _, _, _, _, rfl, Same.refl _, w39, h39, h26_0⟩ (fun _ _ _ _ => trivial) ?_ ?_
        · -- a turn
          intro b37 g37 x37 σ37 H37 H37' N37 P37 hI hy hN37 hm
          obtain ⟨F37, vs37_0, vs37_1, o37_6, o37_7, o37_4, rfl, s37, w37, h37_0, h37_1⟩ := hI
          replace sF := sF.trans s37
          obtain ⟨rfl, rfl⟩ := hy
          refine ⟨_, rfl, _, rfl, _, _, _, _, _, _, rfl, w37, h37_0, ?_⟩
          refine (post_bind hm).mono (fun y41 hm v41 vs41 F41 H41 w41 s41 r41 h41 => ?_) (fun _ z => z)
          replace h37_1 := A2.mono s41 h37_1
          replace sF := sF.trans s41
          obtain rfl : v41 = V.int y41.1 := r41
          refine ⟨_, rfl, _, rfl, _, _, _, _, _, _, rfl, w41, h41, ?_⟩
          refine (post_bind hm).mono (fun y42 hm v42 vs42 F42 H42 w42 s42 r42 h42 => ?_) (fun _ z => z)
          replace h37_1 := A2.mono s42 h37_1
          replace sF := sF.trans s42
          obtain rfl : v42 = V.int y42.1 := r42
          refine ⟨_, rfl, .inl ⟨rfl, _, SqL.of (w42.get (pre := [_]))⟩, _, rfl, _, rfl, (by show 2 ≤ sizeLine; decide), fun p43 n43 => ?_⟩
          obtain ⟨F43, s43, w43, q43⟩ := w42.frzE (o := .tup [(.int y41.1), (.int y42.1)]) n43
          replace h42 := A2.mono s43 h42
          replace h37_1 := A2.mono s43 h37_1
          replace sF := sF.trans s43
          have h44 : A2 (rep K F43) [(.ref p43)] ([(y41.1, y42.1)] : (List (Int × Int))) := .cons (rep_pair q43 rep_i rep_i) (.nil)
          refine ⟨(by show 1 ≤ sizeLine; decide), fun p45 n45 => ?_⟩
          have w45 : W F43 _ ((p45, .lst [(.ref p43)]) :: (a__law_purse_here, .lst vs42) :: (p3, .lst vs37_1) :: os) := w43.new n45
          obtain ⟨l46, z46, e46, hm⟩ := pb_rep hm
          have h46 : A2 (rep K F43) (List.replicate (b2i (!decide (y41.1 = y42.1))).toNat [(.ref p43)]).flatten l46 := e46 ▸ A2.flat h44 _
          refine ⟨_, rfl, _, rfl, _, _, rfl, rfl, _, rfl, _, _, _, rfl, rfl, (w45.get (pre := [])), z46.1, z46.2.1, (by rw [h44.length]; exact z46.2.2), fun p47 n47 => ?_⟩
          have w47 : W F43 _ ((p47, .lst (List.replicate (b2i (!decide (y41.1 = y42.1))).toNat [(.ref p43)]).flatten) :: (p45, .lst [(.ref p43)]) :: (a__law_purse_here, .lst vs42) :: (p3, .lst vs37_1) :: os) := w45.new n47
          obtain ⟨l48, z48, e48, hm⟩ := pn_extend hm
          refine ⟨_, _, _, _, rfl, rfl, (w47.get (pre := [_, _, _])), (w47.get (pre := [])), (A2.le2 h37_1 h46 z48), ?_⟩
          have h48 : A2 (rep K F43) (vs37_1 ++ (List.replicate (b2i (!decide (y41.1 = y42.1))).toNat [(.ref p43)]).flatten) l48 := e48 ▸ A2.append h37_1 h46
          have w49 : W F43 _ ((p47, .lst (List.replicate (b2i (!decide (y41.1 = y42.1))).toNat [(.ref p43)]).flatten) :: (p45, .lst [(.ref p43)]) :: (a__law_purse_here, .lst vs42) :: (p3, .lst (vs37_1 ++ (List.replicate (b2i (!decide (y41.1 = y42.1))).toNat [(.ref p43)]).flatten)) :: os) := w47.set (pre := [_, _, _])
          have w50 : W F43 _ ((p45, .lst [(.ref p43)]) :: (a__law_purse_here, .lst vs42) :: (p3, .lst (vs37_1 ++ (List.replicate (b2i (!decide (y41.1 = y42.1))).toNat [(.ref p43)]).flatten)) :: os) := w49.drop (pre := [])
          have w51 : W F43 _ ((a__law_purse_here, .lst vs42) :: (p3, .lst (vs37_1 ++ (List.replicate (b2i (!decide (y41.1 = y42.1))).toNat [(.ref p43)]).flatten)) :: os) := w50.drop (pre := [])
          exact hN37 _ (post_ok hm) _ _ ⟨_, _, _, _, _, _, rfl, (s37.trans (s41.trans (s42.trans s43))), w51, h42, h48⟩
        intro g37 σ37 H37 hI hm
        obtain ⟨F37, vs37_0, vs37_1, o37_6, o37_7, o37_4, rfl, s37, w37, h37_0, h37_1⟩ := hI
        replace sF := sF.trans s37
        have w52 : W F37 _ ((p3, .lst vs37_1) :: (a__law_purse_here, .lst vs37_0) :: os) := w37.front (pre := [_])
        exact hN35 _ (post_ok hm) _ _ ⟨_, _, _, _, _, _, rfl, (s39.trans s37), w52, h37_1, h37_0⟩
      · skip
        exact hN35 _ (post_ok hm) _ _ ⟨_, _, _, _, _, _, rfl, Same.refl _, w26, h26_0, h4_1⟩
    intro g35 σ35 H35 hI hm
    obtain ⟨F35, vs35_0, vs35_1, o35_4, o35_6, o35_7, rfl, s35, w35, h35_0, h35_1⟩ := hI
    replace sF := sF.trans s35
    exact ⟨_, rfl, (post_ok hm) _ _ _ _ _ w35 sF h35_0 h35_1⟩
def sp_law_shape (K : Fg) : Sp := fun vs H Q E => ∃ (F : Hp) (os : List (Addr × HO)) (a__law_purse_here : Addr) (vs__law_purse_here : List V) (x__law_purse_here : (List Int)), vs = [.ref a__law_purse_here] ∧ W F H ((a__law_purse_here, .lst vs__law_purse_here) :: os) ∧ A2 (rep K F) vs__law_purse_here x__law_purse_here ∧ Post (law_shape x__law_purse_here) (RetM K F a__law_purse_here os Q) noX
theorem sc_law_shape : FnScope ["_law_purse_here", "_law_way", "_law_many", "_law_places", "_law_found", "_law_one", "_law_other", "_law_ends"] ["_law_purse_here"] (defScope s_law_shape) := ⟨rfl, rfl, rfl, by decide +kernel, rfl, by decide +kernel, by decide +kernel⟩
theorem ok_law_shape (T : Tx K mg A FD) : FnOk P w K mg base CX0 3 (A 32) (FD 32) ["_law_purse_here"] (sp_law_shape K) := by
  refine T.d32.fn.ok sc_law_shape (fun vs H Q E h => ?_) (fun cdv Ar outer s H vs Q E hr h => ?_)
  · obtain ⟨F, os, a__law_purse_here, vs__law_purse_here, x__law_purse_here, rfl, _⟩ := h
    rfl
  · obtain ⟨F0, os, a__law_purse_here, vs__law_purse_here, x__law_purse_here, rfl, w0, h__law_purse_here, hm⟩ := h
    have sF : Same F0 F0 := Same.refl _
    refine ⟨_, (pss_cons (ps_set (i := 1) sc_law_shape.nd rfl (Or.inl rfl) (pe_call (ok_law_take T) (hr.mono (by decide)) (by rfl) T.d28.mg T.d28.fn.kp T.d28.b .nil pass0 (pa_cons (pv 0) (pa_cons pe_int pa_nil)))) (pss_cons (ps_set (i := 2) sc_law_shape.nd rfl (Or.inl rfl) (pe_op op_add pe_int (pe_call (ok_law_take T) (hr.mono (by decide)) (by rfl) T.d28.mg T.d28.fn.kp T.d28.b .nil pass0 (pa_cons (pv 0) (pa_cons pe_int pa_nil))))) (pss_cons (ps_set (i := 3) sc_law_shape.nd rfl (Or.inl rfl) (pe_call (ok_law_order T) (hr.mono (by decide)) (by rfl) T.d29.mg T.d29.fn.kp T.d29.b .nil pass0 (pa_cons (pv 0) (pa_cons (pv 2) pa_nil)))) (pss_cons (ps_set (i := 4) sc_law_shape.nd rfl (Or.inl rfl) (pe_lst pa_nil)) (pss_cons (ps_for PassesOwn.never rfl (pi_listK (K := K) rfl (pe_call (ok_law_pairs T) (hr.mono (by decide)) (by rfl) T.d30.mg T.d30.fn.kp T.d30.b .nil pass0 (pa_cons (pv 0) (pa_cons (pv 2) (pa_cons (pv 1) pa_nil))))) (pg_k (K := K) (t := fun K => gTup K 2 _) rfl (pg_tup (n := 2) rfl (pgs_cons (pg_name (i := 5) sc_law_shape.nd rfl (Or.inl rfl)) (pgs_cons (pg_name (i := 6) sc_law_shape.nd rfl (Or.inl rfl)) pgs_nil)))) (pss_cons (ps_set (i := 7) sc_law_shape.nd rfl (Or.inl rfl) (pe_tup (pa_cons (pe_ix (ix_listK (K := K) rfl) (pv 3) (pv 5) (fun _ _ => rfl)) (pa_cons (pe_ix (ix_listK (K := K) rfl) (pv 3) (pv 6) (fun _ _ => rfl)) pa_nil)))) (pss_one (ps_if (pt_cmpR (op_notInL (K := K) rfl (Int × Int) (by decide) (Room.units65 hr)) (pe_tup (pa_cons (pe_callB (cr_minT2 (K := K) rfl rfl) (by rfl) T.n_min (by decide +kernel) (pa_cons (pv 7) pa_nil)) (pa_cons (pe_callB (cr_maxT2 (K := K) rfl rfl) (by rfl) T.n_max (by decide +kernel) (pa_cons (pv 7) pa_nil)) pa_nil))) (pv 4) (by rfl)) (pss_one (ps_expr (pe_bm PySem.F.plainAttrs_list PySem.F.slot_list_append PySem.F.type_list_append mt_append (pv 4) (pa_cons (pe_tup (pa_cons (pe_callB (cr_minT2 (K := K) rfl rfl) (by rfl) T.n_min (by decide +kernel) (pa_cons (pv 7) pa_nil)) (pa_cons (pe_callB (cr_maxT2 (K := K) rfl rfl) (by rfl) T.n_max (by decide +kernel) (pa_cons (pv 7) pa_nil)) pa_nil))) pa_nil)))) pss_nil)))) (pss_one (ps_ret (pe_tup (pa_cons (pe_tup (pa_cons (pv 2) (pa_cons (pe_callTy (call_tuple_ofK (K := K) rfl) (by rfl) T.n_tuple (by decide +kernel) (pa_cons (pe_callB (cr_sortP (K := K) rfl) (by rfl) T.n_sorted (by decide +kernel) (pa_cons (pv 4) pa_nil)) pa_nil)) pa_nil))) (pa_cons (pv 1) pa_nil)))))))))), ?_⟩
    refine ⟨_, rfl, _, _, _, _, _, _, rfl, w0, h__law_purse_here, ?_⟩
    refine (post_bind hm).mono (fun y2 hm v2 vs2 F2 H2 w2 s2 r2 h2 => ?_) (fun _ z => z)
    replace sF := sF.trans s2
    obtain rfl : v2 = V.int y2.1 := r2
    refine ⟨_, rfl, _, _, _, _, _, _, rfl, w2, h2, ?_⟩
    refine (post_bind hm).mono (fun y3 hm v3 vs3 F3 H3 w3 s3 r3 h3 => ?_) (fun _ z => z)
    replace sF := sF.trans s3
    obtain rfl : v3 = V.int y3.1 := r3
    refine ⟨_, _, rfl, rfl, _, rfl, _, rfl, _, _, _, _, _, _, rfl, w3, h3, ?_⟩
    refine (post_bind hm).mono (fun y4 hm p4 us4 vs4 F4 H4 w4 s4 g4 h4 => ?_) (fun _ z => z)
    replace sF := sF.trans s4
    obtain ⟨F6, s6, w6, q6⟩ : ∃ F', Same F4 F' ∧ W F' _ ((a__law_purse_here, .lst vs4) :: os) ∧ F' p4 = some (.lst us4) := w4.freezeE (pre := [])
    replace h4 := A2.mono s6 h4
    replace g4 := A2.mono s6 g4
    replace sF := sF.trans s6
    have h7 : A2 (rep K F6) [] ([] : (List (Int × Int))) := .nil
    refine ⟨(by show 0 ≤ sizeLine; decide), fun p8 n8 => ?_⟩
    have w8 : W F6 _ ((p8, .lst []) :: (a__law_purse_here, .lst vs4) :: os) := w6.new n8
    have w10 : W F6 _ ((a__law_purse_here, .lst vs4) :: (p8, .lst []) :: os) := w8.front (pre := [_])
    refine ⟨_, rfl, _, rfl, _, rfl, _, _, _, _, _, _, _, rfl, w10, h4, ?_⟩
    refine (post_bind hm).mono (fun y11 hm p11 us11 vs11 F11 H11 w11 s11 g11 h11 => ?_) (fun _ z => z)
    replace g4 := A2.mono s11 g4
    replace q6 := s11 _ _ q6
    replace h7 := A2.mono s11 h7
    replace sF := sF.trans s11
    obtain ⟨F13, s13, w13, q13⟩ : ∃ F', Same F11 F' ∧ W F' _ ((a__law_purse_here, .lst vs11) :: (p8, .lst []) :: os) ∧ F' p11 = some (.lst us11) := w11.freezeE (pre := [])
    replace g4 := A2.mono s13 g4
    replace q6 := s13 _ _ q6
    replace h7 := A2.mono s13 h7
    replace h11 := A2.mono s13 h11
    replace g11 := A2.mono s13 g11
    replace sF := sF.trans s13
    refine ⟨_, rfl, ⟨_, SqL.of (w13.same _ _ q13)⟩, ?_⟩
    refine forS (tw_list (a := p11) g11) hm (fun (g9 : (List (Int × Int))) σ H' => ∃ (F' : Hp) (vs9_0 : List V) (o9_7 : Option V) (o9_5 : Option V) (o9_6 : Option V), σ = [some (.ref a__law_purse_here), some (.int y2.1), some (.int ((1 : Int) + y3.1)), some (.ref p4), some (.ref p8), o9_5, o9_6, o9_7] ∧ Same F13 F' ∧ W F' H' ((a__law_purse_here, .lst vs11) :: (p8, .lst vs9_0) :: os) ∧ A2 (rep K F') vs9_0 g9) ⟨_, _, _, _, _, rfl, Same.refl _, w13, h7⟩ (fun g σ H' hI => by obtain ⟨F', _, _, _, _, _, s, w, _⟩ := hI; exact SqL.of (w.same _ _ (s _ _ q13))) ?_ ?_
    · -- a turn
      intro b9 g9 x9 σ9 H9 H9' N9 P9 hI hy hN9 hm
      obtain ⟨F9, vs9_0, o9_7, o9_5, o9_6, rfl, s9, w9, h9_0⟩ := hI
      replace g4 := A2.mono s9 g4
      replace q6 := s9 _ _ q6
      replace h11 := A2.mono s9 h11
      replace g11 := A2.mono s9 g11
      replace q13 := s9 _ _ q13
      replace sF := sF.trans s9
      obtain ⟨rfl, r14⟩ := hy
      replace r14 := Rep.mono s9 r14
      obtain ⟨a15, u15, z15, rfl, q15, r15a, r15b⟩ := r14
      obtain rfl : u15 = V.int b9.1 := r15a
      obtain rfl : z15 = V.int b9.2 := r15b
      obtain ⟨t16, e16, hm⟩ := pb_get hm
      obtain ⟨u16, f16, r16⟩ := A2.at g4 e16
      obtain rfl : u16 = V.int t16 := r16
      obtain ⟨t17, e17, hm⟩ := pb_get hm
      obtain ⟨u17, f17, r17⟩ := A2.at g4 e17
      obtain rfl : u17 = V.int t17 := r17
      refine ⟨_, _, rfl, SqT.of (w9.same _ _ q15), rfl, _, _, rfl, _, _, rfl, rfl, _, rfl, _, rfl, _, _, _, _, rfl, rfl, SqL.of (w9.same _ _ q6), f16, _, rfl, _, rfl, _, _, _, _, rfl, rfl, SqL.of (w9.same _ _ q6), f17, (by show 2 ≤ sizeLine; decide), fun p18 n18 => ?_⟩
      obtain ⟨F18, s18, w18, q18⟩ := w9.frzE (o := .tup [(.int t16), (.int t17)]) n18
      replace g4 := A2.mono s18 g4
      replace q6 := s18 _ _ q6
      replace h11 := A2.mono s18 h11
      replace h9_0 := A2.mono s18 h9_0
      replace sF := sF.trans s18
      refine ⟨_, rfl, _, _, _, rfl, SqT.of (w18.same _ _ q18), _, rfl, _, rfl, _, _, _, rfl, SqT.of (w18.same _ _ q18), _, rfl, (by show 2 ≤ sizeLine; decide), fun p19 n19 => ?_⟩
      obtain ⟨F19, s19, w19, q19⟩ := w18.frzE (o := .tup [(.int (min2 t16 t17)), (.int (max2 t16 t17))]) n19
      replace g4 := A2.mono s19 g4
      replace q6 := s19 _ _ q6
      replace q18 := s19 _ _ q18
      replace h11 := A2.mono s19 h11
      replace h9_0 := A2.mono s19 h9_0
      replace sF := sF.trans s19
      refine ⟨_, rfl, (((min2 t16 t17), (max2 t16 t17)) : (Int × Int)), _, (Rep.mono w19.same (rep_pair q19 rep_i rep_i)), (rep_own (pre := [_]) w19 h9_0), _, rfl, ?_⟩
      refine post_ite hm (fun k20 hm => ?_) (fun k20 hm => ?_)
      · skip
        refine ⟨_, rfl, .inl ⟨rfl, _, SqL.of (w19.get (pre := [_]))⟩, _, rfl, _, _, _, rfl, SqT.of (w19.same _ _ q18), _, rfl, _, rfl, _, _, _, rfl, SqT.of (w19.same _ _ q18), _, rfl, (by show 2 ≤ sizeLine; decide), fun p21 n21 => ?_⟩
        obtain ⟨F21, s21, w21, q21⟩ := w19.frzE (o := .tup [(.int (min2 t16 t17)), (.int (max2 t16 t17))]) n21
        replace g4 := A2.mono s21 g4
        replace q6 := s21 _ _ q6
        replace q18 := s21 _ _ q18
        replace h11 := A2.mono s21 h11
        replace h9_0 := A2.mono s21 h9_0
        replace q19 := s21 _ _ q19
        replace sF := sF.trans s21
        obtain ⟨l22, z22, e22, hm⟩ := pn_app hm
        refine ⟨_, _, _, rfl, rfl, (w21.get (pre := [_])), (A2.lt h9_0 z22), ?_⟩
        have h22 : A2 (rep K F21) (vs9_0 ++ [(V.ref p21)]) l22 := e22 ▸ A2.snoc h9_0 (rep_pair q21 rep_i rep_i)
        have w23 : W F21 _ ((a__law_purse_here, .lst vs11) :: (p8, .lst (vs9_0 ++ [(V.ref p21)])) :: os) := w21.set (pre := [_])
        exact hN9 _ (post_ok hm) _ _ ⟨_, _, _, _, _, rfl, (s9.trans (s18.trans (s19.trans s21))), w23, h22⟩
      · skip
        exact hN9 _ (post_ok hm) _ _ ⟨_, _, _, _, _, rfl, (s9.trans (s18.trans s19)), w19, h9_0⟩
    intro g9 σ9 H9 hI hm
    obtain ⟨F9, vs9_0, o9_7, o9_5, o9_6, rfl, s9, w9, h9_0⟩ := hI
    replace g4 := A2.mono s9 g4
    replace q6 := s9 _ _ q6
    replace h11 := A2.mono s9 h11
    replace g11 := A2.mono s9 g11
    replace q13 := s9 _ _ q13
    replace sF := sF.trans s9
    refine ⟨_, rfl, _, rfl, _, _, F9, g9, rfl, SqL.of (w9.get (pre := [_])), w9.same, h9_0, fun p24 us24 n24 h24 => ?_⟩
    have w24 : W F9 _ ((p24, .lst us24) :: (a__law_purse_here, .lst vs11) :: (p8, .lst vs9_0) :: os) := w9.new n24
    have h26 : A2 (rep K F9) us24 (sortP g9) := h24
    refine ⟨_, _, rfl, .inl ⟨SqL.of (w24.get (pre := [])), fun p27 n27 => ?_⟩⟩
    obtain ⟨F27, s27, w27, q27⟩ := w24.frzE (o := .tup us24) n27
    replace g4 := A2.mono s27 g4
    replace q6 := s27 _ _ q6
    replace h11 := A2.mono s27 h11
    replace h9_0 := A2.mono s27 h9_0
    replace h24 := A2.mono s27 h24
    replace h26 := A2.mono s27 h26
    replace sF := sF.trans s27
    refine ⟨(by show 2 ≤ sizeLine; decide), fun p28 n28 => ?_⟩
    obtain ⟨F28, s28, w28, q28⟩ := w27.frzE (o := .tup [(.int ((1 : Int) + y3.1)), (.ref p27)]) n28
    replace g4 := A2.mono s28 g4
    replace q6 := s28 _ _ q6
    replace h11 := A2.mono s28 h11
    replace h9_0 := A2.mono s28 h9_0
    replace h24 := A2.mono s28 h24
    replace h26 := A2.mono s28 h26
    replace q27 := s28 _ _ q27
    replace sF := sF.trans s28
    refine ⟨_, rfl, (by show 2 ≤ sizeLine; decide), fun p29 n29 => ?_⟩
    obtain ⟨F29, s29, w29, q29⟩ := w28.frzE (o := .tup [(.ref p28), (.int y2.1)]) n29
    replace g4 := A2.mono s29 g4
    replace q6 := s29 _ _ q6
    replace h11 := A2.mono s29 h11
    replace h9_0 := A2.mono s29 h9_0
    replace h24 := A2.mono s29 h24
    replace h26 := A2.mono s29 h26
    replace q27 := s29 _ _ q27
    replace q28 := s29 _ _ q28
    replace sF := sF.trans s29
    have w30 : W F29 _ ((a__law_purse_here, .lst vs11) :: (p8, .lst vs9_0) :: os) := w29.drop (pre := [])
    have w31 : W F29 _ ((a__law_purse_here, .lst vs11) :: os) := w30.drop (pre := [_])
    exact (post_ok hm) _ _ _ _ w31 sF (rep_pair q29 (rep_pair q28 rep_i (rep_tup q27 h26)) rep_i) h11
def sp_law_ratio (K : Fg) : Sp := fun vs H Q E => ∃ (F : Hp) (os : List (Addr × HO)) (x__law_many : Int) (x__law_way : Int), vs = [.int x__law_many, .int x__law_way] ∧ W F H (os) ∧ Post (law_ratio x__law_many x__law_way) (Ret K F os Q) noX
theorem sc_law_ratio : FnScope ["_law_many", "_law_way"] ["_law_many", "_law_way"] (defScope s_law_ratio) := ⟨rfl, rfl, rfl, by decide +kernel, rfl, by decide +kernel, by decide +kernel⟩
theorem ok_law_ratio (T : Tx K mg A FD) : FnOk P w K mg base CX0 1 (A 33) (FD 33) ["_law_many", "_law_way"] (sp_law_ratio K) := by
  refine T.d33.fn.ok sc_law_ratio (fun vs H Q E h => ?_) (fun cdv Ar outer s H vs Q E hr h => ?_)
  · obtain ⟨F, os, x__law_many, x__law_way, rfl, _⟩ := h
    rfl
  · obtain ⟨F0, os, x__law_many, x__law_way, rfl, w0, hm⟩ := h
    have sF : Same F0 F0 := Same.refl _
    refine ⟨_, (pss_cons (ps_if (pt_cmp (pc_eqI (pv 0) pe_int)) (pss_one (ps_ret (pe_tup (pa_cons pe_int (pa_cons pe_int pa_nil))))) pss_nil) (pss_cons (ps_if (PW.pt (pw_or (pt_cmp (pc_eqI (pv 0) pe_int)) (pw_or (pt_cmp (pc_eqI (pv 1) pe_int)) (pw_or1 (PW.pt (pw_and (pt_cmp (pc_eqI (pv 1) pe_int)) (pw_and1 (pt_cmp (pc_eqI (pv 0) pe_int))))))))) (pss_one (ps_ret (pe_tup (pa_cons pe_int (pa_cons pe_int pa_nil))))) pss_nil) (pss_cons (ps_if (pt_cmp (pc_eqI (pv 1) pe_int)) (pss_one (ps_ret (pe_tup (pa_cons (pv 0) (pa_cons (pe_op op_add (pe_op op_sub (pv 0) pe_int) (pe_op op_mod (pv 0) pe_int)) pa_nil))))) pss_nil) (pss_cons (ps_if (pt_cmp (pc_eqI (pv 1) pe_int)) (pss_one (ps_ret (pe_tup (pa_cons (pe_op op_sub (pv 0) pe_int) (pa_cons pe_int pa_nil))))) pss_nil) (pss_one (ps_ret (pe_tup (pa_cons (pv 0) (pa_cons pe_int pa_nil))))))))), ?_⟩
    refine ⟨_, rfl, _, _, rfl, rfl, _, rfl, ?_⟩
    refine post_ite hm (fun k1 hm => ?_) (fun k1 hm => ?_)
    · skip
      refine ⟨(by show 2 ≤ sizeLine; decide), fun p2 n2 => ?_⟩
      obtain ⟨F2, s2, w2, q2⟩ := w0.frzE (o := .tup [(.int 0), (.int 1)]) n2
      replace sF := sF.trans s2
      exact (post_ok hm) _ _ _ w2 sF (rep_pair q2 rep_i rep_i)
    · skip
      refine stepX ?_
      try dsimp only
      refine stepSeq (stepIf ?_)
      refine cutT (fun c H' => c = (((decide (x__law_many = (2 : Int))) || ((decide (x__law_way = (0 : Int))) || ((decide (x__law_way = (2 : Int))) && (decide (x__law_many = (3 : Int))))))) ∧ ∃ F', Same F0 F' ∧ W F' H' (os)) (fun Q3 q3 => ?_) (fun c3 H3 hc3 => ?_)
      · -- the ways
        refine ⟨_, rfl, _, _, rfl, rfl, _, rfl, ?_⟩
        refine ifB (fun k4 => ?_) (fun k4 => ?_)
        · skip
          exact q3 _ _ ⟨(by first | rfl | exact absurd k4 (by decide) | (simp [k4]; done) | ((try simp only [Bool.not_eq_true] at k4); simp only [k4, Bool.true_or, Bool.false_or, Bool.or_false, Bool.or_true, Bool.true_and, Bool.false_and, Bool.and_true, Bool.and_false])), _, Same.refl _, w0⟩
        · skip
          refine ⟨_, rfl, _, _, rfl, rfl, _, rfl, ?_⟩
          refine ifB (fun k6 => ?_) (fun k6 => ?_)
          · skip
            exact q3 _ _ ⟨(by first | rfl | exact absurd k4 (by decide) | exact absurd k6 (by decide) | (simp [k4, k6]; done) | ((try simp only [Bool.not_eq_true] at k4); (try simp only [Bool.not_eq_true] at k6); simp only [k4, k6, Bool.true_or, Bool.false_or, Bool.or_false, Bool.or_true, Bool.true_and, Bool.false_and, Bool.and_true, Bool.and_false])), _, Same.refl _, w0⟩
          · skip
            refine cutT (fun c H' => c = (((decide (x__law_way = (2 : Int))) && (decide (x__law_many = (3 : Int))))) ∧ ∃ F', Same F0 F' ∧ W F' H' (os)) (fun Q8 q8 => ?_) (fun c8 H8 hc8 => ?_)
            · -- the ways
              refine ⟨_, rfl, _, _, rfl, rfl, _, rfl, ?_⟩
              refine ifB (fun k9 => ?_) (fun k9 => ?_)
              · skip
                exact ⟨_, rfl, _, _, rfl, rfl, _, rfl, q8 _ _ ⟨(by first | rfl | exact absurd k9 (by decide) | (simp [k9]; done) | ((try simp only [Bool.not_eq_true] at k9); simp only [k9, Bool.true_or, Bool.false_or, Bool.or_false, Bool.or_true, Bool.true_and, Bool.false_and, Bool.and_true, Bool.and_false])), _, Same.refl _, w0⟩⟩
              · skip
                exact q8 _ _ ⟨(by first | rfl | exact absurd k9 (by decide) | (simp [k9]; done) | ((try simp only [Bool.not_eq_true] at k9); simp only [k9, Bool.true_or, Bool.false_or, Bool.or_false, Bool.or_true, Bool.true_and, Bool.false_and, Bool.and_true, Bool.and_false])), _, Same.refl _, w0⟩
            obtain ⟨rfl, F8, s8, w8⟩ := hc8
            replace sF := sF.trans s8
            exact q3 _ _ ⟨(by first | rfl | exact absurd k4 (by decide) | exact absurd k6 (by decide) | (simp [k4, k6]; done) | ((try simp only [Bool.not_eq_true] at k4); (try simp only [Bool.not_eq_true] at k6); simp only [k4, k6, Bool.true_or, Bool.false_or, Bool.or_false, Bool.or_true, Bool.true_and, Bool.false_and, Bool.and_true, Bool.and_false])), _, s8, w8⟩
      obtain ⟨rfl, F3, s3, w3⟩ := hc3
      replace sF := sF.trans s3
      refine post_ite hm (fun k13 hm => ?_) (fun k13 hm => ?_)
      · skip
        refine ⟨(by show 2 ≤ sizeLine; decide), fun p14 n14 => ?_⟩
        obtain ⟨F14, s14, w14, q14⟩ := w3.frzE (o := .tup [(.int 1), (.int 1)]) n14
        replace sF := sF.trans s14
        exact (post_ok hm) _ _ _ w14 sF (rep_pair q14 rep_i rep_i)
      · skip
        refine ⟨_, rfl, _, _, rfl, rfl, _, rfl, ?_⟩
        refine post_ite hm (fun k15 hm => ?_) (fun k15 hm => ?_)
        · skip
          refine ⟨_, rfl, _, rfl, _, _, rfl, rfl, _, rfl, _, _, rfl, rfl, (by show (0 : Int) < (2 : Int); decide), _, _, rfl, rfl, (by show 2 ≤ sizeLine; decide), fun p17 n17 => ?_⟩
          obtain ⟨F17, s17, w17, q17⟩ := w3.frzE (o := .tup [(.int x__law_many), (.int ((x__law_many - (2 : Int)) + (x__law_many % (2 : Int))))]) n17
          replace sF := sF.trans s17
          exact (post_ok hm) _ _ _ w17 sF (rep_pair q17 rep_i rep_i)
        · skip
          refine ⟨_, rfl, _, _, rfl, rfl, _, rfl, ?_⟩
          refine post_ite hm (fun k18 hm => ?_) (fun k18 hm => ?_)
          · skip
            refine ⟨_, rfl, _, _, rfl, rfl, (by show 2 ≤ sizeLine; decide), fun p19 n19 => ?_⟩
            obtain ⟨F19, s19, w19, q19⟩ := w3.frzE (o := .tup [(.int (x__law_many - (1 : Int))), (.int 2)]) n19
            replace sF := sF.trans s19
            exact (post_ok hm) _ _ _ w19 sF (rep_pair q19 rep_i rep_i)
          · skip
            refine ⟨_, rfl, (by show 2 ≤ sizeLine; decide), fun p20 n20 => ?_⟩
            obtain ⟨F20, s20, w20, q20⟩ := w3.frzE (o := .tup [(.int x__law_many), (.int 2)]) n20
            replace sF := sF.trans s20
            exact (post_ok hm) _ _ _ w20 sF (rep_pair q20 rep_i rep_i)
def sp_law (K : Fg) : Sp := fun vs H Q E => ∃ (F : Hp) (os : List (Addr × HO)) (v__law_script : V) (x__law_script : Scr), vs = [v__law_script] ∧ W F H (os) ∧ rep K F v__law_script x__law_script ∧ Post (law x__law_script) (Ret K F os Q) noX
theorem sc_law : FnScope ["_law_script", "_law_web_here", "_law_way", "_law_many", "_law_above", "_law_below", "_law_bottom", "_law_shares", "_law_prices"] ["_law_script"] (defScope s_law) := ⟨rfl, rfl, rfl, by decide +kernel, rfl, by decide +kernel, by decide +kernel⟩
theorem ok_law (T : Tx K mg A FD) : FnOk P w K mg base CX0 7 (A 34) (FD 34) ["_law_script"] (sp_law K) := by
  refine T.d34.fn.ok sc_law (fun vs H Q E h => ?_) (fun cdv Ar outer s H vs Q E hr h => ?_)
  · obtain ⟨F, os, v__law_script, x__law_script, rfl, _⟩ := h
    rfl
  · obtain ⟨F0, os, v__law_script, x__law_script, rfl, w0, r__law_script, hm⟩ := h
    have sF : Same F0 F0 := Same.refl _
    obtain ⟨a1, rfl, q1⟩ := r__law_script
    have h1 : A2 (rep K F0) (x__law_script.l.map V.int) x__law_script.l := A2.of_ints
    refine ⟨_, (pss_cons (ps_asg (pe_call (ok_law_shape T) (hr.mono (by decide)) (by rfl) T.d32.mg T.d32.fn.kp T.d32.b .nil pass0 (pa_cons (pe_call (ok_law_purse T) (hr.mono (by decide)) (by rfl) T.d27.mg T.d27.fn.kp T.d27.b .nil pass0 (pa_cons (pv 0) (pa_cons pe_int pa_nil))) pa_nil)) (pg_k (K := K) (t := fun K => gTup K 2 _) rfl (pg_tup (n := 2) rfl (pgs_cons (pg_name (i := 1) sc_law.nd rfl (Or.inl rfl)) (pgs_cons (pg_name (i := 2) sc_law.nd rfl (Or.inl rfl)) pgs_nil))))) (pss_cons (ps_set (i := 3) sc_law.nd rfl (Or.inl rfl) (pe_ix (ix_tupK (K := K) rfl) (pv 1) pe_int (fun _ _ => rfl))) (pss_cons (ps_asg (pe_call (ok_law_ratio T) (hr.mono (by decide)) (by rfl) T.d33.mg T.d33.fn.kp T.d33.b .nil pass0 (pa_cons (pv 3) (pa_cons (pv 2) pa_nil))) (pg_k (K := K) (t := fun K => gTup K 2 _) rfl (pg_tup (n := 2) rfl (pgs_cons (pg_name (i := 4) sc_law.nd rfl (Or.inl rfl)) (pgs_cons (pg_name (i := 5) sc_law.nd rfl (Or.inl rfl)) pgs_nil))))) (pss_cons (ps_asg (pe_call (ok_shares_of T) (hr.mono (by decide)) (by rfl) T.d25.mg T.d25.fn.kp T.d25.b .nil pass0 (pa_cons (pv 1) (pa_cons pe_str pa_nil))) (pg_k (K := K) (t := fun K => gTup K 3 _) rfl (pg_tup (n := 3) rfl (pgs_cons (pg_name (i := 6) sc_law.nd rfl (Or.inl rfl)) (pgs_cons (pg_name (i := 7) sc_law.nd rfl (Or.inl rfl)) (pgs_cons (pg_name (i := 8) sc_law.nd rfl (Or.inl rfl)) pgs_nil)))))) (pss_cons (ps_if (pt_cmp (pc_neI (pe_op op_mul (pe_callB (cr_sumK (K := K) rfl rfl) (by rfl) T.n_sum (by decide +kernel) (pa_cons (pv 7) pa_nil)) (pv 5)) (pe_op op_mul (pv 4) (pv 6)))) (pss_one (ps_ret pe_bl)) pss_nil) (pss_cons (ps_if (PW.pt (pw_and (pt_cmp (pc_eqI (pv 2) pe_int)) (pw_and1 (pt_cmp (pc_gt (pv 3) pe_int))))) (pss_cons (ps_asg (pe_call (ok_shares_of T) (hr.mono (by decide)) (by rfl) T.d25.mg T.d25.fn.kp T.d25.b .nil pass0 (pa_cons (pv 1) (pa_cons pe_str pa_nil))) (pg_k (K := K) (t := fun K => gTup K 3 _) rfl (pg_tup (n := 3) rfl (pgs_cons (pg_name (i := 6) sc_law.nd rfl (Or.inl rfl)) (pgs_cons (pg_name (i := 7) sc_law.nd rfl (Or.inl rfl)) (pgs_cons (pg_name (i := 8) sc_law.nd rfl (Or.inl rfl)) pgs_nil)))))) (pss_one (ps_ret (pe_cmp (pc_eqI (pe_op op_mul (pe_callB (cr_sumK (K := K) rfl rfl) (by rfl) T.n_sum (by decide +kernel) (pa_cons (pv 7) pa_nil)) (pv 5)) (pe_op op_mul (pv 4) (pv 6))))))) pss_nil) (pss_one (ps_ret pe_bl)))))))), ?_⟩
    refine ⟨_, rfl, _, _, _, (x__law_script : Scr), _, rfl, w0, ⟨_, rfl, q1⟩, ?_⟩
    refine (post_bind hm).mono (fun y2 hm p2 us2 F2 H2 w2 s2 g2 => ?_) (fun _ z => z)
    replace q1 := s2.seq q1
    replace h1 := A2.mono s2 h1
    replace sF := sF.trans s2
    refine ⟨_, _, _, _, _, rfl, w2, g2, ?_⟩
    refine (post_bind hm).mono (fun y4 hm v4 vs4 F4 H4 w4 s4 r4 h4 => ?_) (fun _ z => z)
    replace q1 := s4.seq q1
    replace h1 := A2.mono s4 h1
    replace sF := sF.trans s4
    obtain ⟨a5, u5, z5, rfl, q5, r5a, r5b⟩ := r4
    obtain ⟨a6, u6, z6, rfl, q6, r6a, r6b⟩ := r5a
    obtain rfl : u6 = V.int y4.1.1.1 := r6a
    obtain ⟨a7, vs7, rfl, q7, h7⟩ := r6b
    obtain rfl : z5 = V.int y4.1.2 := r5b
    have w8 : W F4 _ (os) := w4.drop (pre := [])
    refine ⟨_, _, rfl, SqT.of (w4.same _ _ q5), rfl, _, _, rfl, _, _, rfl, rfl, _, rfl, _, _, _, _, rfl, rfl, SqT.of (w4.same _ _ q6), rfl, _, rfl, _, rfl, _, _, _, _, rfl, w8, ?_⟩
    refine (post_bind hm).mono (fun y9 hm v9 F9 H9 w9 s9 r9 => ?_) (fun _ z => z)
    replace h1 := A2.mono s9 h1
    replace q1 := s9.seq q1
    replace q6 := s9 _ _ q6
    replace h7 := A2.mono s9 h7
    replace q7 := s9 _ _ q7
    replace sF := sF.trans s9
    obtain ⟨a10, u10, z10, rfl, q10, r10a, r10b⟩ := r9
    obtain rfl : u10 = V.int y9.1 := r10a
    obtain rfl : z10 = V.int y9.2 := r10b
    refine ⟨_, _, rfl, SqT.of (w9.same _ _ q10), rfl, _, _, rfl, _, _, rfl, rfl, _, rfl, _, _, _, (y4.1.1 : (Int × (Tup (Int × Int)))), _, rfl, w9, (rep_pair q6 rep_i (rep_tup q7 h7)), ?_⟩
    refine (post_bind hm).mono (fun y11 hm v11 F11 H11 w11 s11 r11 => ?_) (fun _ z => z)
    replace h1 := A2.mono s11 h1
    replace q1 := s11.seq q1
    replace q6 := s11 _ _ q6
    replace h7 := A2.mono s11 h7
    replace q7 := s11 _ _ q7
    replace sF := sF.trans s11
    obtain ⟨a12, u12_0, u12_1, u12_2, rfl, q12, r12_0, r12_1, r12_2⟩ := nt3 r11
    replace r12_0 : rep K F11 u12_0 (y11.v.1 : Int) := r12_0
    obtain rfl : u12_0 = V.int y11.v.1 := r12_0
    replace r12_1 : rep K F11 u12_1 (y11.v.2.1 : (List Int)) := r12_1
    obtain ⟨a13, vs13, rfl, q13, h13⟩ := r12_1
    replace r12_2 : rep K F11 u12_2 (y11.v.2.2.1 : (List (Nt (Thing × Thing × Int × Unit)))) := r12_2
    obtain ⟨a14, vs14, rfl, q14, h14⟩ := r12_2
    obtain ⟨c15, hm⟩ := pb_mul hm
    obtain ⟨c16, hm⟩ := pb_mul hm
    refine ⟨_, _, rfl, SqT.of (w11.same _ _ q12), rfl, _, _, rfl, _, _, rfl, _, _, rfl, rfl, _, rfl, _, _, rfl, ints_q (SqL.of (w11.same _ _ q13)) h13, _, rfl, _, _, rfl, rfl, c15, _, rfl, _, rfl, _, _, rfl, rfl, c16, _, _, rfl, rfl, _, rfl, ?_⟩
    refine post_ite hm (fun k17 hm => ?_) (fun k17 hm => ?_)
    · skip
      exact (post_ok hm) _ _ _ w11 sF rep_b
    · skip
      refine stepX ?_
      try dsimp only
      refine stepSeq (stepIf ?_)
      refine cutT (fun c H' => c = (((decide (y4.1.2 = (1 : Int))) && (decide ((2 : Int) < y4.1.1.1)))) ∧ ∃ F', Same F11 F' ∧ W F' H' (os)) (fun Q18 q18 => ?_) (fun c18 H18 hc18 => ?_)
      · -- the ways
        refine ⟨_, rfl, _, _, rfl, rfl, _, rfl, ?_⟩
        refine ifB (fun k19 => ?_) (fun k19 => ?_)
        · skip
          exact ⟨_, rfl, _, _, rfl, rfl, _, rfl, q18 _ _ ⟨(by first | rfl | exact absurd k19 (by decide) | (simp [k19]; done) | ((try simp only [Bool.not_eq_true] at k19); simp only [k19, Bool.true_or, Bool.false_or, Bool.or_false, Bool.or_true, Bool.true_and, Bool.false_and, Bool.and_true, Bool.and_false])), _, Same.refl _, w11⟩⟩
        · skip
          exact q18 _ _ ⟨(by first | rfl | exact absurd k19 (by decide) | (simp [k19]; done) | ((try simp only [Bool.not_eq_true] at k19); simp only [k19, Bool.true_or, Bool.false_or, Bool.or_false, Bool.or_true, Bool.true_and, Bool.false_and, Bool.and_true, Bool.and_false])), _, Same.refl _, w11⟩
      obtain ⟨rfl, F18, s18, w18⟩ := hc18
      replace h1 := A2.mono s18 h1
      replace q1 := s18.seq q1
      replace q6 := s18 _ _ q6
      replace h7 := A2.mono s18 h7
      replace q7 := s18 _ _ q7
      replace h13 := A2.mono s18 h13
      replace q13 := s18 _ _ q13
      replace h14 := A2.mono s18 h14
      replace q14 := s18 _ _ q14
      replace sF := sF.trans s18
      refine post_ite hm (fun k22 hm => ?_) (fun k22 hm => ?_)
      · skip
        refine ⟨_, rfl, _, _, _, (y4.1.1 : (Int × (Tup (Int × Int)))), _, rfl, w18, (rep_pair q6 rep_i (rep_tup q7 h7)), ?_⟩
        refine (post_bind hm).mono (fun y23 hm v23 F23 H23 w23 s23 r23 => ?_) (fun _ z => z)
        replace h1 := A2.mono s23 h1
        replace q1 := s23.seq q1
        replace q6 := s23 _ _ q6
        replace h7 := A2.mono s23 h7
        replace q7 := s23 _ _ q7
        replace h13 := A2.mono s23 h13
        replace q13 := s23 _ _ q13
        replace h14 := A2.mono s23 h14
        replace q14 := s23 _ _ q14
        replace sF := sF.trans s23
        obtain ⟨a24, u24_0, u24_1, u24_2, rfl, q24, r24_0, r24_1, r24_2⟩ := nt3 r23
        replace r24_0 : rep K F23 u24_0 (y23.v.1 : Int) := r24_0
        obtain rfl : u24_0 = V.int y23.v.1 := r24_0
        replace r24_1 : rep K F23 u24_1 (y23.v.2.1 : (List Int)) := r24_1
        obtain ⟨a25, vs25, rfl, q25, h25⟩ := r24_1
        replace r24_2 : rep K F23 u24_2 (y23.v.2.2.1 : (List (Nt (Thing × Thing × Int × Unit)))) := r24_2
        obtain ⟨a26, vs26, rfl, q26, h26⟩ := r24_2
        obtain ⟨c27, hm⟩ := pb_mul hm
        obtain ⟨c28, hm⟩ := pb_mul hm
        exact ⟨_, _, rfl, SqT.of (w23.same _ _ q24), rfl, _, _, rfl, _, _, rfl, _, _, rfl, rfl, _, rfl, _, _, rfl, ints_q (SqL.of (w23.same _ _ q25)) h25, _, rfl, _, _, rfl, rfl, c27, _, rfl, _, rfl, _, _, rfl, rfl, c28, _, _, rfl, rfl, (post_ok hm) _ _ _ w23 sF rep_b⟩
      · skip
        exact (post_ok hm) _ _ _ w18 sF rep_b
end
end G
/-! MA2: webs drawn from a pool -/
namespace G
open PySem L2 Z
structure TiesOk (b : Nat) (n : Int) (ts : List (Int × Int)) : Prop where
  rg : ∀ p ∈ ts, 0 ≤ p.1 ∧ p.1 < p.2 ∧ p.2 < n
  nd : ts.Nodup
  conn : Conn n ts
  len : ts.length ≤ b
theorem TiesOk.up {b c : Nat} {n : Int} {ts : List (Int × Int)} (h : TiesOk b n ts) (hl : b ≤ c) : TiesOk c n ts := ⟨h.rg, h.nd, h.conn, Nat.le_trans h.len hl⟩
structure WebOk (n : Int) (ts : List (Int × Int)) : Prop where
  n1 : 1 ≤ n
  n60 : n ≤ 60
  rg : ∀ p ∈ ts, 0 ≤ p.1 ∧ p.1 < p.2 ∧ p.2 < n
  nd : ts.Nodup
  conn : Conn n ts
  len : ts.length ≤ 700
  srt : sortP ts = ts
theorem WebOk.rg4 {n : Int} {ts : List (Int × Int)} (h : WebOk n ts) : ∀ q ∈ ts, 0 ≤ q.1 ∧ q.1 < n ∧ 0 ≤ q.2 ∧ q.2 < n := fun q hq => by
  have := h.rg q hq
  omega
def moved (o : List Int) (p : Int × Int) : Int × Int := (min2 (o.getD p.1.toNat 0) (o.getD p.2.toNat 0), max2 (o.getD p.1.toNat 0) (o.getD p.2.toNat 0))
theorem perm_get {o : List Int} {n : Int} (h : o.Perm (rng 0 n)) (n0 : 0 ≤ n) {k : Int} (k0 : 0 ≤ k) (k1 : k < n) : ∃ x, o[k.toNat]? = some x ∧ 0 ≤ x ∧ x < n := by
  have hl := h.length_eq
  rw [rng_length] at hl
  have hk : k.toNat < o.length := by omega
  refine ⟨o[k.toNat], List.getElem?_eq_getElem hk, ?_⟩
  exact rng_mem.mp (h.mem_iff.mp (List.getElem_mem hk))
theorem perm_getD {o : List Int} {n : Int} (h : o.Perm (rng 0 n)) (n0 : 0 ≤ n) {k : Int} (k0 : 0 ≤ k) (k1 : k < n) : 0 ≤ o.getD k.toNat 0 ∧ o.getD k.toNat 0 < n := by
  obtain ⟨x, e, x0, x1⟩ := perm_get h n0 k0 k1
  rw [List.getD_eq_getElem?_getD, e]
  exact ⟨x0, x1⟩
theorem perm_inj {o : List Int} {n : Int} (h : o.Perm (rng 0 n)) (n0 : 0 ≤ n) {j k : Int} (j0 : 0 ≤ j) (j1 : j < n) (k0 : 0 ≤ k) (k1 : k < n) (e : o.getD j.toNat 0 = o.getD k.toNat 0) : j = k := by
  have hl := h.length_eq
  rw [rng_length] at hl
  have hnd : o.Nodup := (h.nodup_iff).mpr (rng_nodup 0 n)
  have hj : j.toNat < o.length := by omega
  have hk : k.toNat < o.length := by omega
  rw [List.getD_eq_getElem?_getD, List.getD_eq_getElem?_getD, List.getElem?_eq_getElem hj, List.getElem?_eq_getElem hk] at e
  have e' : o[j.toNat] = o[k.toNat] := e
  have hpw := List.pairwise_iff_getElem.mp hnd
  rcases Nat.lt_trichotomy j.toNat k.toNat with q | q | q
  · exact absurd e' (hpw _ _ hj hk q)
  · omega
  · exact absurd e'.symm (hpw _ _ hk hj q)
theorem perm_surj {o : List Int} {n : Int} (h : o.Perm (rng 0 n)) (n0 : 0 ≤ n) {x : Int} (x0 : 0 ≤ x) (x1 : x < n) : ∃ k, 0 ≤ k ∧ k < n ∧ o.getD k.toNat 0 = x := by
  have hx : x ∈ o := h.mem_iff.mpr (rng_mem.mpr ⟨x0, x1⟩)
  obtain ⟨i, hi⟩ := List.mem_iff_getElem?.mp hx
  have hl := h.length_eq
  rw [rng_length] at hl
  have hil := (List.getElem?_eq_some_iff.mp hi).1
  refine ⟨i, by omega, by omega, ?_⟩
  rw [List.getD_eq_getElem?_getD, Int.toNat_natCast, hi]
  rfl
theorem mm_cases (a b : Int) : (min2 a b = a ∧ max2 a b = b ∧ a ≤ b) ∨ (min2 a b = b ∧ max2 a b = a ∧ b ≤ a) := by
  unfold min2 max2
  by_cases h : b < a
  · rw [if_pos h, if_neg (by omega)]
    exact .inr ⟨rfl, rfl, by omega⟩
  · rw [if_neg h]
    by_cases h2 : b > a
    · rw [if_pos h2]
      exact .inl ⟨rfl, rfl, by omega⟩
    · rw [if_neg h2]
      have : a = b := by omega
      subst this
      exact .inl ⟨rfl, rfl, by omega⟩
theorem moved_inj {o : List Int} {n : Int} (h : o.Perm (rng 0 n)) (n0 : 0 ≤ n) {p q : Int × Int} (hp : 0 ≤ p.1 ∧ p.1 < p.2 ∧ p.2 < n) (hq : 0 ≤ q.1 ∧ q.1 < q.2 ∧ q.2 < n) (e : moved o p = moved o q) : p = q := by
  unfold moved at e
  injection e with e1 e2
  have i1 := fun e => perm_inj h n0 (j := p.1) (k := q.1) hp.1 (by omega) hq.1 (by omega) e
  have i2 := fun e => perm_inj h n0 (j := p.2) (k := q.2) (by omega) hp.2.2 (by omega) hq.2.2 e
  have i3 := fun e => perm_inj h n0 (j := p.1) (k := q.2) hp.1 (by omega) (by omega) hq.2.2 e
  have i4 := fun e => perm_inj h n0 (j := p.2) (k := q.1) (by omega) hp.2.2 hq.1 (by omega) e
  rcases mm_cases (o.getD p.1.toNat 0) (o.getD p.2.toNat 0) with ⟨a1, a2, _⟩ | ⟨a1, a2, _⟩ <;> rcases mm_cases (o.getD q.1.toNat 0) (o.getD q.2.toNat 0) with ⟨b1, b2, _⟩ | ⟨b1, b2, _⟩ <;> rw [a1, b1] at e1 <;> rw [a2, b2] at e2
  · exact Prod.ext (i1 e1) (i2 e2)
  · have := i3 e1
    have := i4 e2
    omega
  · have := i4 e1
    have := i3 e2
    omega
  · exact Prod.ext (i1 e2) (i2 e1)
theorem moved_ok {o : List Int} {n : Int} {ts : List (Int × Int)} (ho : o.Perm (rng 0 n)) (n0 : 1 ≤ n) (n1 : n ≤ 60) (h : TiesOk 700 n ts) : WebOk n (sortP (ts.map (moved o))) := by
  have hperm := sortP_perm (ts.map (moved o))
  refine ⟨n0, n1, fun p hp => ?_, ?_, ?_, ?_, ?_⟩
  · obtain ⟨q, hq, rfl⟩ := List.mem_map.mp (hperm.mem_iff.mp hp)
    have hr := h.rg q hq
    have r1 := perm_getD ho (by omega) (k := q.1) hr.1 (by omega)
    have r2 := perm_getD ho (by omega) (k := q.2) (by omega) hr.2.2
    have ne : o.getD q.1.toNat 0 ≠ o.getD q.2.toNat 0 := fun e => by
      have := perm_inj ho (by omega) hr.1 (by omega) (by omega) hr.2.2 e
      omega
    unfold moved
    dsimp only
    rcases mm_cases (o.getD q.1.toNat 0) (o.getD q.2.toNat 0) with ⟨a1, a2, _⟩ | ⟨a1, a2, _⟩ <;> rw [a1, a2] <;> omega
  · refine hperm.nodup_iff.mpr ?_
    refine List.Pairwise.map (R := fun p q => p ≠ q ∧ p ∈ ts ∧ q ∈ ts) _ (fun p q hpq e => hpq.1 (moved_inj ho (by omega) (h.rg p hpq.2.1) (h.rg q hpq.2.2) e)) ?_
    exact h.nd.imp_of_mem fun hp hq hne => ⟨hne, hp, hq⟩
  · intro S h0 hc
    obtain ⟨r, r0, r1, er⟩ := perm_surj ho (by omega) (x := 0) (by omega) (by omega)
    have key := h.conn.any (S := fun k => S (o.getD k.toNat 0)) r0 r1 (by show S (o.getD r.toNat 0); rw [er]; exact h0) fun p hp => by
      have hm : moved o p ∈ sortP (ts.map (moved o)) := hperm.mem_iff.mpr (List.mem_map.mpr ⟨p, hp, rfl⟩)
      have := hc _ hm
      unfold moved at this
      dsimp only at this
      rcases mm_cases (o.getD p.1.toNat 0) (o.getD p.2.toNat 0) with ⟨a1, a2, _⟩ | ⟨a1, a2, _⟩
      · rw [a1, a2] at this
        exact this
      · rw [a1, a2] at this
        exact this.symm
    intro k k0 k1
    obtain ⟨j, j0, j1, ej⟩ := perm_surj ho (by omega) k0 k1
    rw [← ej]
    exact key j j0 j1
  · rw [hperm.length_eq, List.length_map]
    exact h.len
  · exact (sortP_eq (List.Perm.refl _) (sortP_sorted _)).symm
/-! ### the purse -/
def PuOk (s : List Int) : Prop := ∃ a : Int, s = [a] ∧ 0 ≤ a
theorem take_ok {s : List Int} {m : Int} (h : PuOk s) (h0 : 0 < m) (h1 : m < 1073741824) : Post (law_take s m) (fun r => 0 ≤ r.1 ∧ r.1 < m ∧ PuOk r.2) noX := by
  obtain ⟨a, rfl, a0⟩ := h
  unfold law_take
  refine po_getE (x := a) rfl (po_mod h0 fun r0 r1 => po_getE (x := a) rfl (po_div h0 h1 (po_set (Int.le_refl _) (by show (0 : Int) < 1; decide) ?_)))
  exact ⟨r0, r1, a / m, rfl, Int.ediv_nonneg a0 (by omega)⟩
theorem ten30 : ((10 : Int) ^ ((30 : Int) : Int).toNat) = 1000000000000000000000000000000 := by decide +kernel
theorem ten18 : ((10 : Int) ^ ((18 : Int) : Int).toNat) = 1000000000000000000 := by decide +kernel
theorem fits400 {i : Int} (h0 : 0 ≤ i) (h1 : i < 10000000000000000000000000000000000000000) : i.natAbs < 2 ^ 400 := by
  have h : i.natAbs < 10000000000000000000000000000000000000000 := by omega
  exact Nat.lt_of_lt_of_le h (by decide +kernel)
theorem purse_ok {sc : Scr} {k : Int} (k0 : 0 ≤ k) (k1 : k < 1000) : Post (law_purse sc k) PuOk noX := by
  unfold law_purse
  rw [ten30, ten18]
  refine po_bind (Q := fun _ => True) (po_if (fun c => ?_) fun c => po_if (fun c2 => ?_) fun _ => trivial) fun g2 _ => po_if (fun c => ?_) fun c => ?_
  · exact po_get k0 (of_decide_eq_true c) fun t _ _ => trivial
  · have hl : sc.l ≠ [] := by
      intro e
      obtain ⟨l⟩ := sc
      have e' : l = [] := e
      subst e'
      rw [decide_eq_true rfl] at c2
      cases c2
    have hp : (0 : Int) < (sc.l.length : Int) := by
      have := List.length_pos_iff.mpr hl
      omega
    exact po_mod hp fun r0 r1 => po_get r0 r1 fun t _ _ => trivial
  · have c' := of_decide_eq_true c
    exact ⟨g2, rfl, by omega⟩
  · have r0 : 0 ≤ g2 % (1000000000000000000000000000000 + 57) := Int.emod_nonneg _ (by decide)
    have r1 : g2 % (1000000000000000000000000000000 + 57) < (1000000000000000000000000000000 + 57) := Int.emod_lt_of_pos _ (by decide)
    generalize g2 % (1000000000000000000000000000000 + 57) = r at r0 r1
    rw [po_sq (fits400 (by omega) (by omega)), ok_bind]
    generalize ((r + 7919 * k) + 101) * ((r + 7919 * k) + 101) = q
    have s0 : 0 ≤ q % (1000000000000000000000000000000 + 57) := Int.emod_nonneg _ (by decide)
    have s1 : q % (1000000000000000000000000000000 + 57) < (1000000000000000000000000000000 + 57) := Int.emod_lt_of_pos _ (by decide)
    generalize q % (1000000000000000000000000000000 + 57) = s at s0 s1
    rw [po_mulW (fits400 (by omega) (by omega)) (fits400 (by decide) (by decide)), ok_bind]
    exact ⟨_, rfl, Int.emod_nonneg _ (by decide)⟩
theorem order_ok {s : List Int} {n : Int} (h : PuOk s) (n0 : 0 ≤ n) (n1 : n ≤ 1000) : Post (law_order s n) (fun r => r.1.Perm (rng 0 n) ∧ PuOk r.2) noX := by
  unfold law_order
  refine po_rng (by decide) (by decide) (by omega) (by omega) ?_
  refine po_bind (po_foldP (fun pre (g : List Int × List Int) => g.1.Perm pre ∧ PuOk g.2) ⟨List.Perm.refl _, h⟩ ?_) fun g hg => po_ok hg
  rintro pre ⟨l, p⟩ x post e ⟨h1, h2⟩
  have h1' : l.Perm pre := h1
  have hx := rng_pre e
  obtain ⟨_, x0, x1⟩ := rng_split e
  have hl := h1'.length_eq
  refine po_bind (take_ok h2 (by omega) (by omega)) fun y ⟨y0, y1, hy⟩ => ?_
  have hi : insR l y.1 x = R.ok (l.take y.1.toNat ++ [x] ++ l.drop y.1.toNat) := by
    unfold insR
    rw [if_pos ⟨by omega, y0, by omega⟩]
  show Post (insR l y.1 x >>= _) _ _
  rw [hi, ok_bind]
  refine ⟨?_, hy⟩
  show (l.take y.1.toNat ++ [x] ++ l.drop y.1.toNat).Perm (pre ++ [x])
  have p1 : (l.take y.1.toNat ++ [x] ++ l.drop y.1.toNat).Perm (l.take y.1.toNat ++ l.drop y.1.toNat ++ [x]) := by
    rw [List.append_assoc, List.append_assoc]
    exact List.Perm.append_left _ List.perm_append_comm
  rw [List.take_append_drop] at p1
  exact p1.trans (h1'.append_right _)
/-! ### the pairs -/
structure PairsOk (n k : Int) (g : List (Int × Int)) : Prop where
  rg : ∀ p ∈ g, 0 ≤ p.1 ∧ p.1 < n ∧ 0 ≤ p.2 ∧ p.2 < n ∧ p.1 ≠ p.2
  dn : ∀ j, 1 ≤ j → j < k → ∃ i, 0 ≤ i ∧ i < j ∧ (i, j) ∈ g
theorem PairsOk.add {n k : Int} {g us : List (Int × Int)} (h : PairsOk n k g) (hu : ∀ p ∈ us, 0 ≤ p.1 ∧ p.1 < n ∧ 0 ≤ p.2 ∧ p.2 < n ∧ p.1 ≠ p.2) : PairsOk n k (g ++ us) :=
  ⟨fun p hp => (List.mem_append.mp hp).elim (h.rg p) (hu p), fun j j1 jk => let ⟨i, a, b, c⟩ := h.dn j j1 jk; ⟨i, a, b, List.mem_append_left _ c⟩⟩
theorem PairsOk.next {n k : Int} {g : List (Int × Int)} (h : PairsOk n k g) (hk : 1 ≤ k → ∃ i, 0 ≤ i ∧ i < k ∧ (i, k) ∈ g) : PairsOk n (k + 1) g := by
  refine ⟨h.rg, fun j j1 jk => ?_⟩
  by_cases e : j = k
  · subst e
    exact hk j1
  · exact h.dn j j1 (by omega)
theorem repL_one {α : Type} (x : α) (b : Bool) : repL [x] (b2i b) = if b = true then [x] else [] := by
  cases b <;> rfl
theorem pairs_ok {s : List Int} {n way : Int} (h : PuOk s) (n0 : 1 ≤ n) (n1 : n ≤ 60) (w0 : 0 ≤ way) : Post (law_pairs s n way) (fun r => PairsOk n n r.1 ∧ r.1.length < 5000 ∧ PuOk r.2) noX := by
  unfold law_pairs
  refine po_rng (by decide) (by decide) (by omega) (by omega) ?_
  refine po_bind (po_foldP (fun pre (g : List (Int × Int) × List Int) => PairsOk n (1 + pre.length) g.1 ∧ g.1.length ≤ 61 * pre.length ∧ PuOk g.2) ⟨⟨fun _ hp => (nomatch hp), fun j j1 jk => by
      have : j < 1 := jk
      omega⟩, Nat.le_refl _, h⟩ ?_) fun g4 ⟨g1, g2, g3⟩ => ?_
  · rintro pre ⟨g, p⟩ x post e ⟨h1, h2, h3⟩
    have h1' : PairsOk n (1 + pre.length) g := h1
    have h2' : g.length ≤ 61 * pre.length := h2
    have hx := rng_pre e
    obtain ⟨_, x1, xn⟩ := rng_split e
    refine po_bind (take_ok h3 (by omega) (by omega)) fun y ⟨y0, y1, hy⟩ => ?_
    have hm0 : 0 ≤ min2 way 3 ∧ min2 way 3 < 4 := by
      rcases mm_cases way 3 with ⟨e1, _, _⟩ | ⟨e1, _, _⟩ <;> rw [e1] <;> omega
    refine po_get hm0.1 hm0.2 fun t ht _ => ?_
    have ht' : 0 ≤ t ∧ t < x := by
      rcases List.mem_cons.mp ht with rfl | ht
      · omega
      · rcases List.mem_cons.mp ht with rfl | ht
        · omega
        · rcases List.mem_cons.mp ht with rfl | ht
          · omega
          · rcases List.mem_cons.mp ht with rfl | ht
            · omega
            · cases ht
    refine po_app (by show g.length < 100000; omega) ?_
    have q1 : PairsOk n (1 + pre.length + 1) (g ++ [(t, x)]) := by
      refine (h1'.add (us := [(t, x)]) fun p hp => ?_).next fun _ => ⟨t, ht'.1, by omega, ?_⟩
      · rw [List.mem_singleton.mp hp]
        exact ⟨ht'.1, by show t < n; omega, by show 0 ≤ x; omega, xn, by show t ≠ x; omega⟩
      · rw [← hx]
        exact List.mem_append_right _ (List.mem_singleton.mpr rfl)
    have lp : ((pre ++ [x]).length : Int) = pre.length + 1 := by rw [List.length_append]; rfl
    have lp' : (pre ++ [x]).length = pre.length + 1 := by rw [List.length_append]; rfl
    have q1' : PairsOk n (1 + ((pre ++ [x]).length : Int)) (g ++ [(t, x)]) := by rw [lp, show (1 : Int) + (pre.length + 1) = 1 + pre.length + 1 by omega]; exact q1
    refine po_if (fun _ => ?_) fun _ => ?_
    · refine po_rng (by decide) (by decide) (by omega) (by omega) ?_
      refine po_mapGE (g := fun b => (b, x)) (by rw [rng_length]; omega) (fun b _ => rfl) ?_
      have ll : ((rng 0 x).map fun b => (b, x)).length = x.toNat := by rw [List.length_map, rng_length]; omega
      refine po_extend (by rw [ll, List.length_append]; show g.length + 1 + x.toNat < 100000; omega) ⟨q1'.add fun p hp => ?_, ?_, hy⟩
      · obtain ⟨b, hb, rfl⟩ := List.mem_map.mp hp
        have := rng_mem.mp hb
        exact ⟨this.1, by show b < n; omega, by show 0 ≤ x; omega, xn, by show b ≠ x; omega⟩
      · show ((g ++ [(t, x)]) ++ _).length ≤ _
        rw [List.length_append, ll, List.length_append, lp']
        show g.length + 1 + x.toNat ≤ _
        omega
    · refine ⟨q1', ?_, hy⟩
      show (g ++ [(t, x)]).length ≤ _
      rw [List.length_append, lp']
      show g.length + 1 ≤ _
      omega
  · have lr : (rng 1 n).length = (n - 1).toNat := rng_length 1 n
    rw [lr, show (1 : Int) + (((n - 1).toNat : Nat) : Int) = n by omega] at g1
    rw [lr] at g2
    refine po_bind (Q := fun g => PairsOk n n g ∧ g.length < 3700) (po_if (fun c => ?_) fun _ => ⟨g1, by omega⟩) fun g26 ⟨k1, k2⟩ => ?_
    · have c' : (decide (way = 1) && decide ((2 : Int) < n)) = true := c
      rw [Bool.and_eq_true] at c'
      have n2 := of_decide_eq_true c'.2
      refine po_app (by omega) ⟨g1.add fun p hp => ?_, ?_⟩
      · rw [List.mem_singleton.mp hp]
        exact ⟨by show (0 : Int) ≤ 0; omega, by show (0 : Int) < n; omega, by show 0 ≤ n - 1; omega, by show n - 1 < n; omega, by show (0 : Int) ≠ n - 1; omega⟩
      · rw [List.length_append]
        show g4.1.length + 1 < _
        omega
    · refine po_bind (Q := fun (g : List (Int × Int) × List Int) => PairsOk n n g.1 ∧ g.1.length < 5000 ∧ PuOk g.2) (po_if (fun c => ?_) fun _ => ⟨k1, by show g26.length < 5000; omega, g3⟩) fun g35 hg => po_ok hg
      refine po_bind (take_ok g3 (by decide) (by decide)) fun y ⟨y0, y1, hy⟩ => ?_
      refine po_rng (by decide) (by decide) (by omega) (by omega) ?_
      refine po_bind (po_foldP (fun pre (g : List Int × List (Int × Int)) => PuOk g.1 ∧ PairsOk n n g.2 ∧ g.2.length ≤ 3700 + pre.length) ⟨hy, k1, by show g26.length ≤ 3700 + 0; omega⟩ ?_) fun g ⟨a1, a2, a3⟩ => ?_
      · rintro pre ⟨p, g⟩ x post e ⟨h1, h2, h3⟩
        have h3' : g.length ≤ 3700 + pre.length := h3
        have hx := rng_pre e
        obtain ⟨_, x1, xn⟩ := rng_split e
        refine po_bind (take_ok h1 (by omega) (by omega)) fun u ⟨u0, u1, hu⟩ => po_bind (take_ok hu (by omega) (by omega)) fun v ⟨v0, v1, hv⟩ => ?_
        have hb : 0 ≤ b2i (!decide (u.1 = v.1)) ∧ b2i (!decide (u.1 = v.1)) < 1000 := by
          cases (!decide (u.1 = v.1)) <;> decide
        refine po_rep hb.1 hb.2 (by show 1 < 100; decide) ?_
        rw [repL_one]
        have lx : (pre ++ [x]).length = pre.length + 1 := by rw [List.length_append]; rfl
        by_cases q : (!decide (u.1 = v.1)) = true
        · rw [if_pos q]
          have hne : u.1 ≠ v.1 := by
            intro z
            rw [decide_eq_true z] at q
            cases q
          refine po_extend (by show g.length + 1 < 100000; omega) ⟨hv, h2.add fun p hp => ?_, ?_⟩
          · rw [List.mem_singleton.mp hp]
            exact ⟨u0, u1, v0, v1, hne⟩
          · show (g ++ [_]).length ≤ _
            rw [List.length_append, lx]
            show g.length + 1 ≤ _
            omega
        · rw [if_neg q]
          refine po_extend (by show g.length + 0 < 100000; omega) ⟨hv, ?_, ?_⟩
          · show PairsOk n n (g ++ [])
            rw [List.append_nil]
            exact h2
          · show (g ++ []).length ≤ _
            rw [List.append_nil, lx]
            omega
      · rw [rng_length] at a3
        exact ⟨a2, by show g.2.length < 5000; omega, a1⟩
/-! ### the web -/
def norm2 (p : Int × Int) : Int × Int := (min2 p.1 p.2, max2 p.1 p.2)
theorem moved_norm (o : List Int) (p : Int × Int) : moved o (norm2 p) = moved o p := by
  unfold norm2
  rcases mm_cases p.1 p.2 with ⟨e1, e2, _⟩ | ⟨e1, e2, _⟩
  · rw [e1, e2]
  · rw [e1, e2]
    unfold moved
    show (min2 (o.getD p.2.toNat 0) (o.getD p.1.toNat 0), max2 (o.getD p.2.toNat 0) (o.getD p.1.toNat 0)) = _
    rcases mm_cases (o.getD p.1.toNat 0) (o.getD p.2.toNat 0) with ⟨a1, a2, _⟩ | ⟨a1, a2, _⟩ <;> rcases mm_cases (o.getD p.2.toNat 0) (o.getD p.1.toNat 0) with ⟨b1, b2, _⟩ | ⟨b1, b2, _⟩ <;> rw [a1, a2, b1, b2] <;> (refine Prod.ext ?_ ?_ <;> show _ = _ <;> first | rfl | omega)
theorem norm2_rg {n : Int} {p : Int × Int} (h : 0 ≤ p.1 ∧ p.1 < n ∧ 0 ≤ p.2 ∧ p.2 < n ∧ p.1 ≠ p.2) : 0 ≤ (norm2 p).1 ∧ (norm2 p).1 < (norm2 p).2 ∧ (norm2 p).2 < n := by
  unfold norm2
  rcases mm_cases p.1 p.2 with ⟨e1, e2, _⟩ | ⟨e1, e2, _⟩ <;> rw [e1, e2] <;> refine ⟨?_, ?_, ?_⟩ <;> dsimp only <;> omega
theorem few_pairs5 {ps : List (Int × Int)} {n : Int} (hn : n ≤ 26) (hd : ps.Nodup) (hr : ∀ p ∈ ps, 0 ≤ p.1 ∧ p.1 < p.2 ∧ p.2 < n) : ps.length ≤ 700 := by
  have h1 : (ps.map fun p => p.1 * 26 + p.2).Nodup := by
    refine List.pairwise_map.mpr (hd.imp_of_mem ?_)
    intro a b ha hb hne e
    have ra := hr a ha
    have rb := hr b hb
    exact hne (Prod.ext (by omega) (by omega))
  have h2 := nodup_le h1 (ys := rng 0 676) fun x hx => by
    obtain ⟨p, hp, rfl⟩ := List.mem_map.mp hx
    have := hr p hp
    exact rng_mem.mpr ⟨by omega, by omega⟩
  rw [List.length_map, rng_length] at h2
  have : ((676 : Int) - 0).toNat = 676 := by decide
  omega
end G
/-! MB: neighbours and fars, as the program reckons them -/
namespace G
open PySem L2 Z
/-- the places tied to one, in the ties' order -/
def nbs (ts : List (Int × Int)) (i : Int) : List Int := ts.flatMap fun p => (if p.1 = i then [p.2] else []) ++ (if p.2 = i then [p.1] else [])
theorem nbs_snoc (ts : List (Int × Int)) (x : Int × Int) (i : Int) : nbs (ts ++ [x]) i = nbs ts i ++ ((if x.1 = i then [x.2] else []) ++ (if x.2 = i then [x.1] else [])) := by
  unfold nbs
  rw [List.flatMap_append]
  simp
theorem nbs_mem {ts : List (Int × Int)} {i j : Int} : j ∈ nbs ts i ↔ Adj ts i j := by
  unfold nbs Adj
  rw [List.mem_flatMap]
  constructor
  · rintro ⟨p, hp, h⟩
    rcases List.mem_append.mp h with h | h
    · split at h
      · rename_i e
        rw [List.mem_singleton] at h
        rw [← e, h]
        exact .inl hp
      · cases h
    · split at h
      · rename_i e
        rw [List.mem_singleton] at h
        rw [← e, h]
        exact .inr hp
      · cases h
  · rintro (h | h)
    · exact ⟨_, h, List.mem_append_left _ (by simp)⟩
    · exact ⟨_, h, List.mem_append_right _ (by simp)⟩
theorem nbs_len (ts : List (Int × Int)) (i : Int) : (nbs ts i).length ≤ 2 * ts.length := by
  induction ts with
  | nil => exact Nat.le_refl _
  | cons p ts ih =>
    have e : nbs (p :: ts) i = ((if p.1 = i then [p.2] else []) ++ (if p.2 = i then [p.1] else [])) ++ nbs ts i := rfl
    rw [e, List.length_append, List.length_append, List.length_cons]
    have h1 : (if p.1 = i then [p.2] else []).length ≤ 1 := by split <;> simp
    have h2 : (if p.2 = i then [p.1] else []).length ≤ 1 := by split <;> simp
    omega
theorem map_rng_get {α : Type} {n : Int} {F : Int → α} {j : Int} (h0 : 0 ≤ j) (h1 : j < n) : ((rng 0 n).map F)[j.toNat]? = some (F j) := by
  rw [List.getElem?_map, rng_atE (by omega)]
  show some (F (0 + (j.toNat : Int))) = _
  rw [show (0 : Int) + (j.toNat : Int) = j by omega]
theorem map_rng_set {α : Type} {n : Int} {F : Int → α} {j : Int} {y : α} (h0 : 0 ≤ j) : ((rng 0 n).map F).set j.toNat y = (rng 0 n).map fun i => if i = j then y else F i := by
  apply List.ext_getElem?
  intro k
  rw [List.getElem?_set, List.getElem?_map, List.getElem?_map, List.length_map]
  by_cases hk : k < (n - 0).toNat
  · rw [rng_atE hk]
    by_cases e : j.toNat = k
    · rw [if_pos e, if_pos (by rw [rng_length]; omega)]
      show some y = some (if (0 : Int) + (k : Int) = j then y else F (0 + k))
      rw [if_pos (by omega)]
    · rw [if_neg e]
      show some (F (0 + k)) = some (if (0 : Int) + (k : Int) = j then y else F (0 + k))
      rw [if_neg (by omega)]
  · rw [List.getElem?_eq_none (by rw [rng_length]; omega)]
    by_cases e : j.toNat = k
    · rw [if_pos e, if_neg (by rw [rng_length]; omega)]; rfl
    · rw [if_neg e]
      rfl
theorem map_rng_congr {α : Type} {n : Int} {F G : Int → α} (h : ∀ i, 0 ≤ i → i < n → F i = G i) : (rng 0 n).map F = (rng 0 n).map G := List.map_congr_left fun i hi => h i (rng_mem.mp hi).1 (rng_mem.mp hi).2
theorem range_get {N : Nat} {j : Int} (h0 : 0 ≤ j) (h1 : j < N) : getI (List.range N) j = R.ok j.toNat := by
  refine getI_eq h0 ?_
  rw [List.getElem?_range (by omega)]
def nears (n : Int) (ts : List (Int × Int)) : List (List Int) := (rng 0 n).map fun i => sortI (nbs ts i)
theorem near_lists_ok {n : Int} {ts : List (Int × Int)} (n0 : 0 ≤ n) (n1 : n < 1000) (hl : ts.length < 40000) (hr : ∀ p ∈ ts, 0 ≤ p.1 ∧ p.1 < n ∧ 0 ≤ p.2 ∧ p.2 < n) : near_lists (n, ⟨ts⟩) = R.ok (nears n ts) := by
  refine po_iff ?_
  unfold near_lists
  refine po_rng (by decide) (by decide) (by show -(2 ^ 62) ≤ n; omega) (by show n < 2 ^ 62; omega) ?_
  have hN : (rng 0 n).length = n.toNat := by rw [rng_length]; omega
  refine po_bind (po_mapStA (fun pre acc s => acc = List.range pre.length ∧ s = List.replicate pre.length []) (by show (rng 0 n).length < 100000; omega) ⟨rfl, rfl⟩ fun pre acc s x post e ⟨h1, h2⟩ => ?_) fun l5 ⟨a1, a2⟩ => ?_
  · refine po_newS ⟨?_, ?_⟩
    · show acc ++ [s.length] = _
      rw [h1, h2, List.length_replicate, List.length_append, List.length_singleton, List.range_succ]
    · show s ++ [[]] = _
      rw [h2, List.length_append, List.length_singleton, List.replicate_succ']
  · rw [hN] at a1 a2
    refine po_bind (po_foldP (fun pre g => g = (rng 0 n).map fun i => nbs pre i) ?_ fun pre g x post e hg => ?_) fun g11 hg => ?_
    · rw [a2]
      apply List.ext_getElem?
      intro k
      rw [List.getElem?_replicate, List.getElem?_map]
      by_cases hk : k < n.toNat
      · rw [if_pos hk, rng_atE (by omega)]; rfl
      · rw [if_neg hk, List.getElem?_eq_none (by rw [rng_length]; omega)]; rfl
    · obtain ⟨x1, x2, x3, x4⟩ := hr x (by rw [show ts = pre ++ x :: post from e]; simp)
      have hpl : pre.length < 40000 := by
        have : ts.length = pre.length + (post.length + 1) := by rw [show ts = pre ++ x :: post from e]; simp
        omega
      have hl1 := nbs_len pre x.1
      have hl2 := nbs_len pre x.2
      rw [a1]
      refine po_getE (range_get x1 (by omega)) (po_getS (by rw [hg]; exact map_rng_get x1 x2) (po_app (by omega) (po_setS ?_)))
      rw [hg, map_rng_set x1]
      refine po_getE (range_get x3 (by omega)) (po_getS (map_rng_get x3 x4) (po_app ?_ (po_setS ?_)))
      · split
        · rw [List.length_append, List.length_singleton]; omega
        · omega
      · rw [map_rng_set x3]
        show _ = _
        refine map_rng_congr fun i i0 i1 => ?_
        rw [nbs_snoc]
        by_cases e1 : x.1 = i
        · by_cases e2 : x.2 = i
          · subst e1
            rw [e2]
            simp
          · subst e1
            rw [if_neg (fun q => e2 q.symm), if_pos rfl, if_pos rfl, if_neg e2, List.append_nil]
        · by_cases e2 : x.2 = i
          · subst e2
            rw [if_pos rfl, if_neg (fun q => e1 q.symm), if_neg e1, if_pos rfl, List.nil_append]
          · rw [if_neg (fun q => e2 q.symm), if_neg (fun q => e1 q.symm), if_neg e1, if_neg e2, List.append_nil, List.append_nil]
    · have hg' : g11 = (rng 0 n).map fun i => nbs ts i := hg
      rw [a1]
      refine po_bind (Q := fun l => l = nears n ts) (po_eq (mapG_ok (g := fun b => sortI (nbs ts (b : Nat))) (by rw [List.length_range]; omega) fun b hb => ?_) ?_) fun l h => h
      · have hb' := List.mem_range.mp hb
        refine po_iff (po_getS (xs := nbs ts (b : Nat)) ?_ rfl)
        rw [hg']
        have := map_rng_get (n := n) (F := fun i => nbs ts i) (j := (b : Int)) (by omega) (by omega)
        rw [Int.toNat_natCast] at this
        exact this
      · unfold nears
        apply List.ext_getElem?
        intro k
        rw [List.getElem?_map, List.getElem?_map]
        by_cases hk : k < n.toNat
        · rw [rng_atE (by omega), List.getElem?_range hk]
          show some (sortI (nbs ts (k : Nat))) = some (sortI (nbs ts (0 + (k : Nat))))
          rw [Int.zero_add]
        · rw [List.getElem?_eq_none (by rw [List.length_range]; omega), List.getElem?_eq_none (by rw [rng_length]; omega)]; rfl
theorem sortI_mem {xs : List Int} {x : Int} : x ∈ sortI xs ↔ x ∈ xs := (sortI_perm xs).mem_iff
end G
/-! MC: drawn webs: neighbours, fars -/
namespace G
open PySem L2 Z
theorem web_near {n : Int} {ts : List (Int × Int)} (h : WebOk n ts) : near_lists (n, ⟨ts⟩) = R.ok (nears n ts) := near_lists_ok (by have := h.n1; omega) (by have := h.n60; omega) (by have := h.len; omega) h.rg4
theorem enum_mem {α : Type} {xs : List α} {b : Int × α} (h : b ∈ enum xs) : 0 ≤ b.1 ∧ b.1 < (xs.length : Int) ∧ xs[b.1.toNat]? = some b.2 := by
  unfold enum at h
  obtain ⟨i, hi⟩ := List.mem_iff_getElem?.mp h
  rw [List.getElem?_zip_eq_some] at hi
  obtain ⟨h1, h2⟩ := hi
  have hl := (List.getElem?_eq_some_iff.mp h2).1
  rw [rng_atE (by omega)] at h1
  have e : b.1 = (i : Int) := by
    injection h1 with h1
    omega
  rw [e]
  exact ⟨by omega, by omega, by rw [Int.toNat_natCast]; exact h2⟩
theorem web_dist {n : Int} {ts : List (Int × Int)} {p : Int} (h : WebOk n ts) (p0 : 0 ≤ p) (p1 : p < n) : IsDist n ts p (dst n ts p) := conn_ex h.rg4 h.conn p0 p1
theorem WebOk.adj {n : Int} {ts : List (Int × Int)} (h : WebOk n ts) {a b : Int} (q : Adj ts a b) : 0 ≤ a ∧ a < n ∧ 0 ≤ b ∧ b < n ∧ a ≠ b := by
  rcases q with q | q <;> have := h.rg _ q <;> dsimp only at this <;> omega
section
variable {n : Int} {ts : List (Int × Int)} (h : WebOk n ts)
include h
theorem dst_zero {p v : Int} (p0 : 0 ≤ p) (p1 : p < n) (v0 : 0 ≤ v) (v1 : v < n) : dst n ts p v = 0 ↔ v = p := by
  have d := web_dist h p0 p1
  constructor
  · intro e
    apply Classical.byContradiction
    intro hne
    obtain ⟨w, w0, w1, _, ew⟩ := d.desc v v0 v1 hne
    have := d.nn w w0 w1
    omega
  · rintro rfl
    exact d.zero
theorem dst_nn {p v : Int} (p0 : 0 ≤ p) (p1 : p < n) (v0 : 0 ≤ v) (v1 : v < n) : 0 ≤ dst n ts p v := (web_dist h p0 p1).nn v v0 v1
end
theorem fil_ite {α : Type} (l : List α) (P : α → Bool) : l.filterMap (fun b => if P b = true then some b else none) = l.filter P := by
  induction l with
  | nil => rfl
  | cons a l ih =>
    rw [List.filterMap_cons, List.filter_cons]
    cases P a
    · exact ih
    · show a :: _ = a :: _
      rw [ih]
end G
/-! MF: fars, as the program reckons them -/
namespace G
open PySem L2 Z
/-! ### fars -/
section
variable {n : Int} {ts : List (Int × Int)} {p : Int}
structure Bfs (n : Int) (ts : List (Int × Int)) (p : Int) (at_ : Nat) (line : List Int) (F : Int → Option Int) : Prop where
  le : at_ ≤ line.length
  nd : line.Nodup
  rg : ∀ v ∈ line, 0 ≤ v ∧ v < n
  mem : ∀ v, 0 ≤ v → v < n → (v ∈ line ↔ (F v).isSome = true)
  p0 : F p = some 0
  nn : ∀ v d, F v = some d → 0 ≤ d
  par : ∀ v ∈ line, v = p ∨ ∃ w ∈ line, Adj ts w v ∧ ∃ d, F w = some d ∧ F v = some (d + 1)
  mono : line.Pairwise fun a b => (F a).getD 0 ≤ (F b).getD 0
  cap : ∀ v ∈ line, ∀ u ∈ line.drop at_, (F v).getD 0 ≤ (F u).getD 0 + 1
  done : ∀ i u, i < at_ → line[i]? = some u → ∀ w, Adj ts u w → w ∈ line ∧ (F w).getD 0 ≤ (F u).getD 0 + 1
/-- within a turn: the neighbours of u that are gone through -/
structure BfsIn (n : Int) (ts : List (Int × Int)) (p : Int) (at_ : Nat) (u : Int) (pre : List Int) (line : List Int) (F : Int → Option Int) : Prop where
  b : Bfs n ts p at_ line F
  u0 : line[at_]? = some u
  ok : ∀ w ∈ pre, w ∈ line ∧ (F w).getD 0 ≤ (F u).getD 0 + 1
theorem BfsIn.add {at_ : Nat} {u w : Int} {pre line : List Int} {F : Int → Option Int} {d : Int} (h : BfsIn n ts p at_ u pre line F) (hw : Adj ts u w) (w0 : 0 ≤ w) (w1 : w < n) (hn : F w = none) (hd : F u = some d) :
    BfsIn n ts p at_ u (pre ++ [w]) (line ++ [w]) (fun v => if v = w then some (d + 1) else F v) := by
  have b := h.b
  have hu : u ∈ line := List.mem_of_getElem? h.u0
  have hat : at_ < line.length := (List.getElem?_eq_some_iff.mp h.u0).1
  have hwl : w ∉ line := fun q => by
    have := (b.mem w w0 w1).mp q
    rw [hn] at this
    cases this
  have ne : ∀ v ∈ line, v ≠ w := fun v hv e => hwl (e ▸ hv)
  have eF : ∀ v ∈ line, (if v = w then some (d + 1) else F v) = F v := fun v hv => if_neg (ne v hv)
  have eW : (if w = w then some (d + 1) else F w) = some (d + 1) := if_pos rfl
  have hpl : p ∈ line ∨ True := .inr trivial
  have hd0 := b.nn u d hd
  have hud : u ∈ line.drop at_ := by
    rw [List.mem_iff_getElem?]
    exact ⟨0, by rw [List.getElem?_drop]; exact h.u0⟩
  refine ⟨⟨?_, ?_, ?_, ?_, ?_, ?_, ?_, ?_, ?_, ?_⟩, ?_, ?_⟩
  · rw [List.length_append]; omega
  · rw [List.nodup_append]
    refine ⟨b.nd, by simp, fun a ha c hc => ?_⟩
    rw [List.mem_singleton] at hc
    rw [hc]
    exact ne a ha
  · intro v hv
    rcases List.mem_append.mp hv with hv | hv
    · exact b.rg v hv
    · rw [List.mem_singleton] at hv
      rw [hv]; exact ⟨w0, w1⟩
  · intro v v0 v1
    by_cases e : v = w
    · subst e
      simp
    · show v ∈ line ++ [w] ↔ (if v = w then some (d + 1) else F v).isSome = true
      rw [if_neg e, ← b.mem v v0 v1]
      simp [e]
  · show (if p = w then some (d + 1) else F p) = some 0
    rw [if_neg]
    · exact b.p0
    · intro e
      rw [← e, b.p0] at hn
      cases hn
  · intro v e hv
    have hv' : (if v = w then some (d + 1) else F v) = some e := hv
    by_cases q : v = w
    · rw [if_pos q] at hv'
      cases hv'
      omega
    · rw [if_neg q] at hv'
      exact b.nn v e hv'
  · intro v hv
    rcases List.mem_append.mp hv with hv | hv
    · rcases b.par v hv with e | ⟨x, hx, ha, k, h1, h2⟩
      · exact .inl e
      · refine .inr ⟨x, List.mem_append_left _ hx, ha, k, ?_, ?_⟩
        · show (if x = w then some (d + 1) else F x) = some k
          rw [eF x hx]; exact h1
        · show (if v = w then some (d + 1) else F v) = some (k + 1)
          rw [eF v hv]; exact h2
    · rw [List.mem_singleton] at hv
      subst hv
      refine .inr ⟨u, List.mem_append_left _ hu, hw, d, ?_, eW⟩
      show (if u = v then some (d + 1) else F u) = some d
      rw [eF u hu]; exact hd
  · rw [List.pairwise_append]
    refine ⟨b.mono.imp_of_mem fun {a c} ha hc q => ?_, by simp, fun a ha c hc => ?_⟩
    · show (if a = w then some (d + 1) else F a).getD 0 ≤ (if c = w then some (d + 1) else F c).getD 0
      rw [eF a ha, eF c hc]; exact q
    · rw [List.mem_singleton] at hc
      subst hc
      show (if a = c then some (d + 1) else F a).getD 0 ≤ (if c = c then some (d + 1) else F c).getD 0
      rw [eF a ha, eW]
      have := b.cap a ha u hud
      rw [hd] at this
      exact this
  · intro v hv x hx
    rw [List.drop_append_of_le_length (by omega)] at hx
    show (if v = w then some (d + 1) else F v).getD 0 ≤ (if x = w then some (d + 1) else F x).getD 0 + 1
    have key : ∀ x, x ∈ line.drop at_ → d ≤ (F x).getD 0 := by
      intro x hx
      have hs : line.drop at_ = u :: line.drop (at_ + 1) := by
        rw [List.drop_eq_getElem_cons hat]
        have := (List.getElem?_eq_some_iff.mp h.u0).2
        rw [this]
      have hm := b.mono.sublist (List.drop_sublist at_ line)
      rw [hs] at hm hx
      rcases List.mem_cons.mp hx with rfl | hx
      · rw [hd]; exact Int.le_refl _
      · have := (List.pairwise_cons.mp hm).1 x hx
        rw [hd] at this
        exact this
    have hvd : (if v = w then some (d + 1) else F v).getD 0 ≤ d + 1 := by
      rcases List.mem_append.mp hv with hv | hv
      · rw [eF v hv]
        have := b.cap v hv u hud
        rw [hd] at this
        exact this
      · rw [List.mem_singleton] at hv
        rw [if_pos hv]; exact Int.le_refl _
    rcases List.mem_append.mp hx with hx | hx
    · rw [eF x (List.mem_of_mem_drop hx)]
      have := key x hx
      omega
    · rw [List.mem_singleton] at hx
      rw [if_pos hx]
      show _ ≤ (d + 1) + 1
      omega
  · intro i x hi hx y hy
    rw [List.getElem?_append_left (by omega)] at hx
    obtain ⟨h1, h2⟩ := b.done i x hi hx y hy
    refine ⟨List.mem_append_left _ h1, ?_⟩
    show (if y = w then some (d + 1) else F y).getD 0 ≤ (if x = w then some (d + 1) else F x).getD 0 + 1
    rw [eF y h1, eF x (List.mem_of_getElem? hx)]
    exact h2
  · rw [List.getElem?_append_left hat]; exact h.u0
  · intro v hv
    show v ∈ line ++ [w] ∧ (if v = w then some (d + 1) else F v).getD 0 ≤ (if u = w then some (d + 1) else F u).getD 0 + 1
    rw [eF u hu]
    rcases List.mem_append.mp hv with hv | hv
    · obtain ⟨h1, h2⟩ := h.ok v hv
      rw [eF v h1]
      exact ⟨List.mem_append_left _ h1, h2⟩
    · rw [List.mem_singleton] at hv
      rw [if_pos hv, hd, hv]
      exact ⟨List.mem_append_right _ (List.mem_singleton_self _), Int.le_refl _⟩
theorem BfsIn.skip {at_ : Nat} {u w : Int} {pre line : List Int} {F : Int → Option Int} (h : BfsIn n ts p at_ u pre line F) (hw : (F w).isSome = true) (w0 : 0 ≤ w) (w1 : w < n) : BfsIn n ts p at_ u (pre ++ [w]) line F := by
  refine ⟨h.b, h.u0, fun v hv => ?_⟩
  rcases List.mem_append.mp hv with hv | hv
  · exact h.ok v hv
  · rw [List.mem_singleton] at hv
    subst hv
    have hl := (h.b.mem v w0 w1).mpr hw
    refine ⟨hl, h.b.cap v hl u ?_⟩
    rw [List.mem_iff_getElem?]
    exact ⟨0, by rw [List.getElem?_drop]; exact h.u0⟩
theorem BfsIn.next {at_ : Nat} {u : Int} {nb line : List Int} {F : Int → Option Int} (h : BfsIn n ts p at_ u nb line F) (hnb : ∀ w, Adj ts u w → w ∈ nb) : Bfs n ts p (at_ + 1) line F := by
  have hat : at_ < line.length := (List.getElem?_eq_some_iff.mp h.u0).1
  refine { h.b with le := hat, cap := fun v hv x hx => h.b.cap v hv x ?_, done := fun i x hi hx w hw => ?_ }
  · exact (List.drop_sublist_drop_left line (Nat.le_succ at_)).subset hx
  · by_cases e : i = at_
    · subst e
      rw [h.u0] at hx
      cases hx
      exact h.ok w (hnb w hw)
    · exact h.b.done i x (by omega) hx w hw
theorem Bfs.isDist {line : List Int} {F : Int → Option Int} (b : Bfs n ts p line.length line F) (hc : Conn n ts) (hr : ∀ q ∈ ts, 0 ≤ q.1 ∧ q.1 < n ∧ 0 ≤ q.2 ∧ q.2 < n) (p0 : 0 ≤ p) (p1 : p < n) :
    (∀ v, 0 ≤ v → v < n → (F v).isSome = true) ∧ IsDist n ts p fun v => (F v).getD 0 := by
  have hp : p ∈ line := (b.mem p p0 p1).mpr (by rw [b.p0]; rfl)
  have cl : ∀ u w, u ∈ line → Adj ts u w → w ∈ line ∧ (F w).getD 0 ≤ (F u).getD 0 + 1 := by
    intro u w hu hw
    obtain ⟨i, hi⟩ := List.mem_iff_getElem?.mp hu
    exact b.done i u (List.getElem?_eq_some_iff.mp hi).1 hi w hw
  have all : ∀ k, 0 ≤ k → k < n → k ∈ line := hc.any (S := fun k => k ∈ line) p0 p1 hp fun q hq => ⟨fun h => (cl q.1 q.2 h (.inl hq)).1, fun h => (cl q.2 q.1 h (.inr hq)).1⟩
  refine ⟨fun v v0 v1 => (b.mem v v0 v1).mp (all v v0 v1), ⟨?_, fun v v0 v1 => ?_, fun a c h => ?_, fun v v0 v1 hne => ?_⟩⟩
  · show (F p).getD 0 = 0
    rw [b.p0]; rfl
  · show 0 ≤ (F v).getD 0
    cases e : F v with
    | none => exact Int.le_refl _
    | some d => exact b.nn v d e
  · have ra : 0 ≤ a ∧ a < n := by
      rcases h with h | h
      · exact ⟨(hr _ h).1, (hr _ h).2.1⟩
      · exact ⟨(hr _ h).2.2.1, (hr _ h).2.2.2⟩
    exact (cl a c (all a ra.1 ra.2) h).2
  · rcases b.par v (all v v0 v1) with e | ⟨w, hw, ha, d, h1, h2⟩
    · exact absurd e hne
    · refine ⟨w, (b.rg w hw).1, (b.rg w hw).2, ha, ?_⟩
      show (F w).getD 0 + 1 = (F v).getD 0
      rw [h1, h2]; rfl
end
theorem fars_by_post {n : Int} {ts : List (Int × Int)} {p : Int} (n1 : n < 900) (hr : ∀ q ∈ ts, 0 ≤ q.1 ∧ q.1 < n ∧ 0 ≤ q.2 ∧ q.2 < n) (hc : Conn n ts) (p0 : 0 ≤ p) (p1 : p < n) :
    Post (fars_by (nears n ts) p) (fun l => l = ((rng 0 n).map fun v => some (dst n ts p v)) ∧ IsDist n ts p (dst n ts p)) noX := by
  unfold fars_by
  have hN : (nears n ts).length = n.toNat := by unfold nears; rw [List.length_map, rng_length]; omega
  rw [hN]
  refine po_rep (by omega) (by omega) (by decide) ?_
  have e0 : repL ([none] : List (Option Int)) (n.toNat : Nat) = (rng 0 n).map fun _ => none := by
    unfold repL
    rw [Int.toNat_natCast]
    have h1 : (rng 0 n).length = n.toNat := by rw [rng_length]; omega
    rw [← h1]
    generalize rng 0 n = l
    induction l with
    | nil => rfl
    | cons a l ih =>
      rw [List.length_cons, List.replicate_succ, List.flatten_cons, ih]
      rfl
  rw [e0]
  refine po_set p0 (by rw [List.length_map, rng_length]; omega) ?_
  rw [map_rng_set p0]
  refine po_bind (Q := fun g => g.2.2 = ((rng 0 n).map fun v => some (dst n ts p v)) ∧ IsDist n ts p (dst n ts p)) (po_while (fun g => 0 ≤ g.1 ∧ ∃ F, g.2.2 = (rng 0 n).map F ∧ Bfs n ts p g.1.toNat g.2.1 F) (fun g => n.toNat - g.1.toNat) ?_ (n := fu 1000) ?_ ?_) fun g hg => hg
  · rintro ⟨a, line, fd⟩ ⟨a0, F, e1, b⟩
    have e1' : fd = (rng 0 n).map F := e1
    have a0' : 0 ≤ a := a0
    have b' : Bfs n ts p a.toNat line F := b
    clear e1 b a0
    subst e1'
    refine ⟨fun ht => ?_, fun hf => ?_⟩
    · have ht : a < (line.length : Int) := of_decide_eq_true ht
      refine po_get a0' ht fun u hu e2 => ?_
      obtain ⟨u0, u1⟩ := b'.rg u hu
      refine po_getE (getI_eq u0 (map_rng_get u0 u1)) ?_
      have hin : BfsIn n ts p a.toNat u [] line F := ⟨b', e2, fun _ h => nomatch h⟩
      refine po_bind (po_foldP (fun pre g => ∃ F', g.2 = (rng 0 n).map F' ∧ BfsIn n ts p a.toNat u pre g.1 F') ⟨F, rfl, hin⟩ ?_) ?_
      · rintro pre ⟨ln, fd⟩ w post ew ⟨F', e3, h3⟩
        have e3' : fd = (rng 0 n).map F' := e3
        have h3' : BfsIn n ts p a.toNat u pre ln F' := h3
        clear e3 h3
        subst e3'
        have hw : w ∈ sortI (nbs ts u) := by rw [show sortI (nbs ts u) = pre ++ w :: post from ew]; simp
        have hw := nbs_mem.mp (sortI_mem.mp hw)
        have rw' : 0 ≤ w ∧ w < n := by
          rcases hw with h | h
          · exact ⟨(hr _ h).2.2.1, (hr _ h).2.2.2⟩
          · exact ⟨(hr _ h).1, (hr _ h).2.1⟩
        obtain ⟨w0, w1⟩ := rw'
        refine po_getE (getI_eq w0 (map_rng_get w0 w1)) ?_
        refine po_if (fun c => ?_) (fun c => ?_)
        · have hn : F' w = none := by
            cases e : F' w with
            | none => rfl
            | some d => rw [e] at c; cases c
          refine po_getE (getI_eq a0' h3'.u0) (po_getE (getI_eq u0 (map_rng_get u0 u1)) ?_)
          have hus := (h3'.b.mem u u0 u1).mp (List.mem_of_getElem? h3'.u0)
          obtain ⟨d, hd⟩ := Option.isSome_iff_exists.mp hus
          have hlen : ln.length ≤ n.toNat := by
            have := nodup_le h3'.b.nd (ys := rng 0 n) fun v hv => rng_mem.mpr (h3'.b.rg v hv)
            rw [rng_length] at this
            omega
          refine po_ofO hd (po_set w0 (by rw [List.length_map, rng_length]; omega) (po_app (by show ln.length < 100000; omega) ?_))
          refine ⟨_, map_rng_set w0, ?_⟩
          exact h3'.add hw w0 w1 hn hd
        · refine ⟨F', rfl, h3'.skip ?_ w0 w1⟩
          cases e : F' w with
          | none => rw [e] at c; exact absurd rfl c
          | some d => rfl
      · rintro ⟨ln, fd⟩ ⟨F', e3, h3⟩
        have h3' : BfsIn n ts p a.toNat u (sortI (nbs ts u)) ln F' := h3
        have h4 := h3'.next fun w hw => sortI_mem.mpr (nbs_mem.mpr hw)
        have hat : a.toNat < ln.length := (List.getElem?_eq_some_iff.mp h3'.u0).1
        have hlen : ln.length ≤ n.toNat := by
          have := nodup_le h3'.b.nd (ys := rng 0 n) fun v hv => rng_mem.mpr (h3'.b.rg v hv)
          rw [rng_length] at this
          omega
        refine ⟨⟨by show 0 ≤ a + 1; omega, F', e3, ?_⟩, ?_⟩
        · show Bfs n ts p (a + 1).toNat ln F'
          rw [show (a + 1).toNat = a.toNat + 1 by omega]
          exact h4
        · show n.toNat - (a + 1).toNat < n.toNat - a.toNat
          omega
    · have hf : ¬ a < (line.length : Int) := of_decide_eq_false hf
      have hle := b'.le
      have ea : a.toNat = line.length := by omega
      rw [ea] at b'
      obtain ⟨h1, h2⟩ := b'.isDist hc hr p0 p1
      refine ⟨map_rng_congr fun v v0 v1 => ?_, dst_is h2⟩
      have h3 := dst_eq h2 v v0 v1
      obtain ⟨d, hd⟩ := Option.isSome_iff_exists.mp (h1 v v0 v1)
      have h3' : (F v).getD 0 = dst n ts p v := h3
      rw [hd] at h3' ⊢
      exact congrArg some h3'
  · refine ⟨Int.le_refl 0, _, rfl, ?_⟩
    show Bfs n ts p 0 [p] (fun i => if i = p then some 0 else none)
    refine ⟨Nat.zero_le _, by simp, fun v hv => ?_, fun v v0 v1 => ?_, if_pos rfl, fun v d hv => ?_, fun v hv => ?_, by simp, fun v hv u hu => ?_, fun i u hi => absurd hi (Nat.not_lt_zero _)⟩
    · rw [List.mem_singleton] at hv
      rw [hv]; exact ⟨p0, p1⟩
    · show v ∈ [p] ↔ (if v = p then some (0 : Int) else none).isSome = true
      rw [List.mem_singleton]
      by_cases e : v = p
      · rw [if_pos e]; simp [e]
      · rw [if_neg e]; simp [e]
    · have hv' : (if v = p then some (0 : Int) else none) = some d := hv
      split at hv'
      · cases hv'; exact Int.le_refl _
      · cases hv'
    · exact .inl (List.mem_singleton.mp hv)
    · rw [List.drop_zero] at hu
      rw [List.mem_singleton] at hv hu
      subst hv hu
      show (if u = u then some (0 : Int) else none).getD 0 ≤ (if u = u then some (0 : Int) else none).getD 0 + 1
      rw [if_pos rfl]
      decide
  · rw [fu_eq]
    show n.toNat - (0 : Int).toNat < 1000
    omega
theorem fars_by_ok {n : Int} {ts : List (Int × Int)} {p : Int} (n1 : n < 900) (hr : ∀ q ∈ ts, 0 ≤ q.1 ∧ q.1 < n ∧ 0 ≤ q.2 ∧ q.2 < n) (hc : Conn n ts) (p0 : 0 ≤ p) (p1 : p < n) :
    fars_by (nears n ts) p = R.ok ((rng 0 n).map fun v => some (dst n ts p v)) := po_iff ((fars_by_post n1 hr hc p0 p1).mono (fun _ h => h.1) fun _ h => h)
theorem web_fars {n : Int} {ts : List (Int × Int)} {p : Int} (h : WebOk n ts) (p0 : 0 ≤ p) (p1 : p < n) : fars_by (nears n ts) p = R.ok ((rng 0 n).map fun v => some (dst n ts p v)) := fars_by_ok (by have := h.n60; omega) h.rg4 h.conn p0 p1
end G
/-! MDet: determinants of rows (functions of a column's number) by the first column; what a step of elimination keeps: each k by k minor of a board is
divisible by the (k-1)th power of its bottom (so that the division of a step is exact) -/
namespace MDet
abbrev Row : Type := Nat → Int
/-- rows of mid, one by one, left out: pre and suf stay -/
def ex (f : List Row → Int) (c : Nat) : Int → List Row → List Row → List Row → Int
  | _, _, [], _ => 0
  | s, pre, r :: mid, suf => s * r c * f (pre ++ (mid ++ suf)) + ex f c (-s) (pre ++ [r]) mid suf
def det : List Row → List Nat → Int
  | rs, [] => if rs.isEmpty then 1 else 0
  | rs, c :: cs => ex (fun rs => det rs cs) c 1 [] rs []
def sg : List Row → Int
  | [] => 1
  | _ :: l => -sg l
section
variable {f : List Row → Int} {c : Nat}
theorem ex_app : ∀ {A : List Row} {s : Int} {pre B suf : List Row}, ex f c s pre (A ++ B) suf = ex f c s pre A (B ++ suf) + ex f c (s * sg A) (pre ++ A) B suf
  | [], s, pre, B, suf => by
    show ex f c s pre B suf = 0 + ex f c (s * 1) (pre ++ []) B suf
    rw [Int.mul_one, List.append_nil, Int.zero_add]
  | r :: A, s, pre, B, suf => by
    show s * r c * f (pre ++ ((A ++ B) ++ suf)) + ex f c (-s) (pre ++ [r]) (A ++ B) suf = (s * r c * f (pre ++ (A ++ (B ++ suf))) + ex f c (-s) (pre ++ [r]) A (B ++ suf)) + ex f c (s * -sg A) (pre ++ r :: A) B suf
    rw [ex_app, List.append_assoc A B suf, show s * -sg A = -s * sg A by rw [Int.mul_neg, Int.neg_mul], show pre ++ r :: A = (pre ++ [r]) ++ A by simp]
    omega
/-- what stands behind is a sum -/
theorem ex_suf {a b : Int} {s0 s1 s2 : List Row} (h : ∀ P, f (P ++ s0) = a * f (P ++ s1) + b * f (P ++ s2)) : ∀ {A : List Row} {s : Int} {pre : List Row}, ex f c s pre A s0 = a * ex f c s pre A s1 + b * ex f c s pre A s2
  | [], s, pre => by show (0 : Int) = a * 0 + b * 0; simp
  | r :: A, s, pre => by
    show s * r c * f (pre ++ (A ++ s0)) + ex f c (-s) (pre ++ [r]) A s0 = a * (s * r c * f (pre ++ (A ++ s1)) + ex f c (-s) (pre ++ [r]) A s1) + b * (s * r c * f (pre ++ (A ++ s2)) + ex f c (-s) (pre ++ [r]) A s2)
    rw [ex_suf h, ← List.append_assoc pre A s0, h, List.append_assoc pre A s1, List.append_assoc pre A s2, Int.mul_add, Int.mul_add, Int.mul_add, Int.mul_left_comm (s * r c) a, Int.mul_left_comm (s * r c) b]
    omega
/-- what stands ahead is a sum -/
theorem ex_pre {a b : Int} {p0 p1 p2 : List Row} (h : ∀ Q, f (p0 ++ Q) = a * f (p1 ++ Q) + b * f (p2 ++ Q)) : ∀ {B : List Row} {s : Int} {X suf : List Row}, ex f c s (p0 ++ X) B suf = a * ex f c s (p1 ++ X) B suf + b * ex f c s (p2 ++ X) B suf
  | [], s, X, suf => by show (0 : Int) = a * 0 + b * 0; simp
  | r :: B, s, X, suf => by
    show s * r c * f ((p0 ++ X) ++ (B ++ suf)) + ex f c (-s) ((p0 ++ X) ++ [r]) B suf = a * (s * r c * f ((p1 ++ X) ++ (B ++ suf)) + ex f c (-s) ((p1 ++ X) ++ [r]) B suf) + b * (s * r c * f ((p2 ++ X) ++ (B ++ suf)) + ex f c (-s) ((p2 ++ X) ++ [r]) B suf)
    rw [List.append_assoc p0 X [r], List.append_assoc p1 X [r], List.append_assoc p2 X [r], ex_pre h, List.append_assoc p0, h, List.append_assoc p1 X (B ++ suf), List.append_assoc p2 X (B ++ suf), Int.mul_add, Int.mul_add, Int.mul_add, Int.mul_left_comm (s * r c) a, Int.mul_left_comm (s * r c) b]
    omega
theorem ex_zero : ∀ {mid : List Row} {s : Int} {pre suf : List Row}, (∀ r ∈ mid, r c = 0) → ex f c s pre mid suf = 0
  | [], _, _, _, _ => rfl
  | r :: mid, s, pre, suf, h => by
    show s * r c * f _ + ex f c (-s) (pre ++ [r]) mid suf = 0
    rw [h r List.mem_cons_self, Int.mul_zero, Int.zero_mul, ex_zero fun x hx => h x (List.mem_cons_of_mem _ hx)]
    rfl
end
theorem empty_no {A B : List Row} {r : Row} : (A ++ r :: B).isEmpty = false := by cases A <;> rfl
theorem det_nil {A B : List Row} {r : Row} : det (A ++ r :: B) [] = 0 := by
  unfold det
  rw [empty_no]
  rfl
/-- a row that is a sum -/
theorem det_lin {a b : Int} {u v w : Row} (h : ∀ c, w c = a * u c + b * v c) : ∀ {cs : List Nat} {A B : List Row}, det (A ++ w :: B) cs = a * det (A ++ u :: B) cs + b * det (A ++ v :: B) cs
  | [], A, B => by rw [det_nil, det_nil, det_nil]; simp
  | c :: cs, A, B => by
    show ex _ c 1 [] (A ++ w :: B) [] = a * ex _ c 1 [] (A ++ u :: B) [] + b * ex _ c 1 [] (A ++ v :: B) []
    rw [ex_app, ex_app, ex_app, List.append_nil, List.append_nil, List.append_nil, List.nil_append, Int.one_mul]
    rw [ex_suf (f := fun rs => det rs cs) (a := a) (b := b) (s0 := w :: B) (s1 := u :: B) (s2 := v :: B) fun P => det_lin h]
    show _ + (sg A * w c * det (A ++ (B ++ [])) cs + ex _ c (-sg A) (A ++ [w]) B []) = _ * (_ + (sg A * u c * det (A ++ (B ++ [])) cs + ex _ c (-sg A) (A ++ [u]) B [])) + _ * (_ + (sg A * v c * det (A ++ (B ++ [])) cs + ex _ c (-sg A) (A ++ [v]) B []))
    have e := ex_pre (f := fun rs => det rs cs) (c := c) (a := a) (b := b) (p0 := A ++ [w]) (p1 := A ++ [u]) (p2 := A ++ [v]) (fun Q => by
      have := det_lin h (cs := cs) (A := A) (B := Q)
      simpa using this) (B := B) (s := -sg A) (X := []) (suf := [])
    rw [List.append_nil, List.append_nil, List.append_nil] at e
    rw [e, h c, Int.mul_add, Int.add_mul, Int.mul_add, Int.mul_add, Int.mul_add, Int.mul_add, Int.mul_left_comm (sg A) a, Int.mul_left_comm (sg A) b, Int.mul_assoc a, Int.mul_assoc b]
    omega
/-- two rows beside each other exchanged -/
theorem det_swap {u v : Row} : ∀ {cs : List Nat} {A B : List Row}, det (A ++ u :: v :: B) cs = -det (A ++ v :: u :: B) cs
  | [], A, B => by rw [det_nil, det_nil]; rfl
  | c :: cs, A, B => by
    show ex _ c 1 [] (A ++ u :: v :: B) [] = -ex _ c 1 [] (A ++ v :: u :: B) []
    rw [ex_app, ex_app, List.append_nil, List.append_nil, List.nil_append, Int.one_mul]
    rw [ex_suf (f := fun rs => det rs cs) (a := -1) (b := 0) (s0 := u :: v :: B) (s1 := v :: u :: B) (s2 := []) fun P => by rw [det_swap]; omega]
    show _ + (sg A * u c * det (A ++ ((v :: B) ++ [])) cs + (-sg A * v c * det ((A ++ [u]) ++ (B ++ [])) cs + ex _ c (- -sg A) ((A ++ [u]) ++ [v]) B [])) = -(_ + (sg A * v c * det (A ++ ((u :: B) ++ [])) cs + (-sg A * u c * det ((A ++ [v]) ++ (B ++ [])) cs + ex _ c (- -sg A) ((A ++ [v]) ++ [u]) B [])))
    have e := ex_pre (f := fun rs => det rs cs) (c := c) (a := -1) (b := 0) (p0 := (A ++ [u]) ++ [v]) (p1 := (A ++ [v]) ++ [u]) (p2 := []) (fun Q => by
      have := det_swap (u := u) (v := v) (cs := cs) (A := A) (B := Q)
      simp only [List.append_assoc, List.cons_append, List.nil_append]
      rw [this]
      omega) (B := B) (s := - -sg A) (X := []) (suf := [])
    rw [List.append_nil, List.append_nil] at e
    rw [e, show (A ++ [u]) ++ (B ++ []) = A ++ ((u :: B) ++ []) by simp, show (A ++ [v]) ++ (B ++ []) = A ++ ((v :: B) ++ []) by simp]
    simp only [Int.neg_mul]
    omega
/-- a row carried over others -/
theorem det_move {u : Row} {cs : List Nat} : ∀ {M A B : List Row}, det (A ++ u :: (M ++ B)) cs = sg M * det (A ++ (M ++ u :: B)) cs
  | [], A, B => by show _ = 1 * _; rw [Int.one_mul]; rfl
  | m :: M, A, B => by
    have h := det_move (u := u) (cs := cs) (M := M) (A := A ++ [m]) (B := B)
    have e1 : A ++ u :: ((m :: M) ++ B) = A ++ u :: m :: (M ++ B) := rfl
    have e2 : (A ++ [m]) ++ u :: (M ++ B) = A ++ m :: u :: (M ++ B) := by simp
    have e3 : (A ++ [m]) ++ (M ++ u :: B) = A ++ ((m :: M) ++ u :: B) := by simp
    rw [e1, det_swap, ← e2, h, e3]
    show -(sg M * _) = -sg M * _
    rw [Int.neg_mul]
theorem det_twin {u : Row} {cs : List Nat} {A M B : List Row} : det (A ++ u :: (M ++ u :: B)) cs = 0 := by
  rw [det_move (M := M) (B := u :: B)]
  have h := det_swap (u := u) (v := u) (cs := cs) (A := A ++ M) (B := B)
  have e : (A ++ M) ++ u :: u :: B = A ++ (M ++ u :: u :: B) := by simp
  rw [e] at h
  rw [show det (A ++ (M ++ u :: u :: B)) cs = 0 by omega, Int.mul_zero]
/-- a first column that stands in one row alone -/
theorem det_head {r : Row} {rs : List Row} {c : Nat} {cs : List Nat} (h : ∀ x ∈ rs, x c = 0) : det (r :: rs) (c :: cs) = r c * det rs cs := by
  show 1 * r c * det ([] ++ (rs ++ [])) cs + ex _ c (-1) ([] ++ [r]) rs [] = _
  rw [ex_zero h, Int.one_mul, List.append_nil, List.nil_append, Int.add_zero]
/-- all rows by a number -/
theorem det_times {k : Int} {cs : List Nat} {f g : Row → Row} : ∀ {rs A : List Row}, (∀ x ∈ rs, ∀ c, f x c = k * g x c) → det (A ++ rs.map f) cs = k ^ rs.length * det (A ++ rs.map g) cs
  | [], A, _ => by show _ = k ^ 0 * _; rw [Int.pow_zero, Int.one_mul]; rfl
  | x :: rs, A, h => by
    have e1 := det_lin (w := f x) (u := g x) (v := g x) (a := k) (b := 0) (fun c => by rw [h x List.mem_cons_self c]; omega) (cs := cs) (A := A) (B := rs.map f)
    have e3 := det_times (k := k) (cs := cs) (f := f) (g := g) (rs := rs) (A := A ++ [g x]) fun y hy => h y (List.mem_cons_of_mem _ hy)
    rw [Int.zero_mul, Int.add_zero] at e1
    show det (A ++ f x :: rs.map f) cs = k ^ (rs.length + 1) * _
    rw [e1, show A ++ g x :: rs.map f = (A ++ [g x]) ++ rs.map f by simp, e3, show (A ++ [g x]) ++ rs.map g = A ++ (g x :: rs.map g) by simp, Int.pow_succ]
    rw [Int.mul_comm (k ^ rs.length) k, Int.mul_assoc]
    rfl
/-! ### a step of elimination -/
/-- what a board's lines keep: each minor of k rows is divisible by the (k-1)th power of the bottom -/
def Minors (L : Nat → Row) (D : Int) : Prop := ∀ (is cs : List Nat), is.length = cs.length → ∀ k, is.length = k + 1 → D ^ k ∣ det (is.map L) cs
theorem pow_ne {D : Int} (h : D ≠ 0) : ∀ k : Nat, D ^ k ≠ 0
  | 0 => by rw [Int.pow_zero]; decide
  | k + 1 => by
    rw [Int.pow_succ]
    exact Int.mul_ne_zero (pow_ne h k) h
theorem sg_sq : ∀ l : List Row, sg l * sg l = 1
  | [] => rfl
  | _ :: l => by
    show -sg l * -sg l = 1
    rw [Int.neg_mul_neg]
    exact sg_sq l
theorem minors_step {L N : Nat → Row} {D : Int} {r s : Nat} (hD : D ≠ 0) (hb : L r s ≠ 0) (h : Minors L D) (hr : N r = L r) (hn : ∀ i, i ≠ r → ∀ c, D * N i c = L r s * L i c - L i s * L r c) : Minors N (L r s) := by
  intro is cs hl k hk
  have hrow : ∀ i, i ≠ r → ∃ a : Int, ∀ c, D * N i c = L r s * L i c + a * L r c := fun i hi => ⟨-L i s, fun c => by rw [hn i hi c, Int.neg_mul]; omega⟩
  by_cases c : r ∈ is
  · obtain ⟨A, B, e⟩ := List.append_of_mem c
    by_cases c2 : r ∈ A ∨ r ∈ B
    · have z : det (is.map N) cs = 0 := by
        rcases c2 with c2 | c2
        · obtain ⟨A1, A2, e2⟩ := List.append_of_mem c2
          rw [e, e2, show (A1 ++ r :: A2 ++ r :: B).map N = A1.map N ++ N r :: (A2.map N ++ N r :: B.map N) by simp]
          exact det_twin
        · obtain ⟨B1, B2, e2⟩ := List.append_of_mem c2
          rw [e, e2, show (A ++ r :: (B1 ++ r :: B2)).map N = A.map N ++ N r :: (B1.map N ++ N r :: B2.map N) by simp]
          exact det_twin
      rw [z]
      exact Int.dvd_zero _
    · have hA : ∀ i ∈ A ++ B, i ≠ r := fun i hi z => by
        rw [z] at hi
        exact c2 (List.mem_append.mp hi)
      have hlen : (A ++ B).length = k := by
        rw [e, List.length_append, List.length_cons] at hk
        rw [List.length_append]
        omega
      have front : ∀ M : Nat → Row, det (M r :: ((A ++ B).map M)) cs = sg (A.map M) * det ((A ++ r :: B).map M) cs := fun M => by
        have := det_move (u := M r) (cs := cs) (M := A.map M) (A := []) (B := B.map M)
        simpa using this
      have e1 : det (L r :: ((A ++ B).map fun i => fun c => D * N i c)) cs = D ^ k * det (N r :: ((A ++ B).map N)) cs := by
        have := det_times (k := D) (cs := cs) (f := fun x : Row => fun c => D * x c) (g := fun x => x) (rs := (A ++ B).map N) (A := [L r]) fun x _ c => rfl
        rw [List.map_map, List.length_map, hlen, List.map_id'] at this
        rw [hr]
        exact this
      have e2 : det (L r :: ((A ++ B).map fun i => fun c => D * N i c)) cs = L r s ^ k * det (L r :: ((A ++ B).map L)) cs := by
        have : ∀ (is : List Nat) (X : List Row), (∀ i ∈ is, i ≠ r) → det (L r :: (X ++ is.map fun i => fun c => D * N i c)) cs = L r s ^ is.length * det (L r :: (X ++ is.map L)) cs := by
          intro is
          induction is with
          | nil => intro X _; show _ = L r s ^ 0 * _; rw [Int.pow_zero, Int.one_mul]; rfl
          | cons i is ih =>
            intro X hi
            obtain ⟨a, ha⟩ := hrow i (hi i List.mem_cons_self)
            have q1 := det_lin (w := fun c => D * N i c) (u := L i) (v := L r) ha (cs := cs) (A := L r :: X) (B := is.map fun i => fun c => D * N i c)
            have q2 : det ((L r :: X) ++ L r :: is.map fun i => fun c => D * N i c) cs = 0 := det_twin (A := []) (M := X)
            have q3 := ih (X ++ [L i]) fun j hj => hi j (List.mem_cons_of_mem _ hj)
            rw [q2, Int.mul_zero, Int.add_zero] at q1
            show det ((L r :: X) ++ (fun c => D * N i c) :: is.map fun i => fun c => D * N i c) cs = L r s ^ (is.length + 1) * _
            rw [q1, show (L r :: X) ++ L i :: (is.map fun i => fun c => D * N i c) = L r :: ((X ++ [L i]) ++ is.map fun i => fun c => D * N i c) by simp, q3, show (X ++ [L i]) ++ is.map L = X ++ (i :: is).map L by simp, Int.pow_succ]
            rw [Int.mul_assoc (L r s ^ is.length) (L r s), Int.mul_left_comm (L r s)]
        have h2 := this (A ++ B) [] hA
        rw [hlen] at h2
        exact h2
      obtain ⟨z, hz⟩ := h (A ++ r :: B) cs (by rw [← e]; exact hl) k (by rw [← e]; exact hk)
      have key : D ^ k * det (N r :: ((A ++ B).map N)) cs = D ^ k * (L r s ^ k * (sg (A.map L) * z)) := by
        rw [← e1, e2, front L, hz, Int.mul_left_comm (D ^ k) (L r s ^ k), Int.mul_left_comm (D ^ k) (sg _)]
      have key2 := Int.eq_of_mul_eq_mul_left (pow_ne hD k) key
      rw [front N] at key2
      have key3 : det ((A ++ r :: B).map N) cs = L r s ^ k * (sg (A.map N) * (sg (A.map L) * z)) := by
        have : sg (A.map N) * (sg (A.map N) * det ((A ++ r :: B).map N) cs) = sg (A.map N) * (L r s ^ k * (sg (A.map L) * z)) := by rw [key2]
        rw [← Int.mul_assoc, sg_sq, Int.one_mul] at this
        rw [this, Int.mul_left_comm]
      rw [e, key3]
      exact Int.dvd_mul_right _ _
  · have hA : ∀ i ∈ is, i ≠ r := fun i hi z => c (z ▸ hi)
    have e1 : det (L r :: (is.map fun i => fun c => D * N i c)) (s :: cs) = L r s * (D ^ is.length * det (is.map N) cs) := by
      rw [det_head fun x hx => ?_]
      · have := det_times (k := D) (cs := cs) (f := fun x : Row => fun c => D * x c) (g := fun x => x) (rs := is.map N) (A := []) fun x _ c => rfl
        rw [List.map_map, List.length_map, List.map_id'] at this
        rw [show (is.map fun i => fun c => D * N i c) = [] ++ is.map ((fun x : Row => fun c => D * x c) ∘ N) from rfl, this]
        rfl
      · obtain ⟨i, hi, rfl⟩ := List.mem_map.mp hx
        show D * N i s = 0
        rw [hn i (hA i hi), Int.mul_comm]
        omega
    have e2 : det (L r :: (is.map fun i => fun c => D * N i c)) (s :: cs) = L r s ^ is.length * det (L r :: (is.map L)) (s :: cs) := by
      have : ∀ (is : List Nat) (X : List Row), (∀ i ∈ is, i ≠ r) → det (L r :: (X ++ is.map fun i => fun c => D * N i c)) (s :: cs) = L r s ^ is.length * det (L r :: (X ++ is.map L)) (s :: cs) := by
        intro is
        induction is with
        | nil => intro X _; show _ = L r s ^ 0 * _; rw [Int.pow_zero, Int.one_mul]; rfl
        | cons i is ih =>
          intro X hi
          obtain ⟨a, ha⟩ := hrow i (hi i List.mem_cons_self)
          have q1 := det_lin (w := fun c => D * N i c) (u := L i) (v := L r) ha (cs := s :: cs) (A := L r :: X) (B := is.map fun i => fun c => D * N i c)
          have q2 : det ((L r :: X) ++ L r :: is.map fun i => fun c => D * N i c) (s :: cs) = 0 := det_twin (A := []) (M := X)
          have q3 := ih (X ++ [L i]) fun j hj => hi j (List.mem_cons_of_mem _ hj)
          rw [q2, Int.mul_zero, Int.add_zero] at q1
          show det ((L r :: X) ++ (fun c => D * N i c) :: is.map fun i => fun c => D * N i c) (s :: cs) = L r s ^ (is.length + 1) * _
          rw [q1, show (L r :: X) ++ L i :: (is.map fun i => fun c => D * N i c) = L r :: ((X ++ [L i]) ++ is.map fun i => fun c => D * N i c) by simp, q3, show (X ++ [L i]) ++ is.map L = X ++ (i :: is).map L by simp, Int.pow_succ]
          rw [Int.mul_assoc (L r s ^ is.length) (L r s), Int.mul_left_comm (L r s)]
      exact this is [] hA
    obtain ⟨z, hz⟩ := h (r :: is) (s :: cs) (by rw [List.length_cons, List.length_cons, hl]) (k + 1) (by rw [List.length_cons, hk])
    have hz' : det (L r :: is.map L) (s :: cs) = D ^ (k + 1) * z := hz
    have key : L r s * (D ^ (k + 1) * det (is.map N) cs) = L r s * (D ^ (k + 1) * (L r s ^ k * z)) := by
      rw [← hk, ← e1, e2, hk, hz', Int.pow_succ (L r s) k, Int.mul_comm (L r s ^ k) (L r s), Int.mul_assoc, Int.mul_left_comm (L r s ^ k)]
    have k1 := Int.eq_of_mul_eq_mul_left hb key
    have k2 := Int.eq_of_mul_eq_mul_left (pow_ne hD (k + 1)) k1
    rw [k2]
    exact Int.dvd_mul_right _ _
theorem minors_one {L : Nat → Row} : Minors L 1 := fun _ _ _ k _ => by
  rw [Int.one_pow]
  exact Int.one_dvd _
/-- the division of a step is exact -/
theorem minors_two {L : Nat → Row} {D : Int} (h : Minors L D) (i r s c : Nat) : D ∣ L r s * L i c - L i s * L r c := by
  have := h [i, r] [c, s] rfl 1 rfl
  rw [Int.pow_succ, Int.pow_zero, Int.one_mul] at this
  have e : det ([i, r].map L) [c, s] = L r s * L i c - L i s * L r c := by
    show 1 * L i c * (1 * L r s * 1 + 0) + (-1 * L r c * (1 * L i s * 1 + 0) + 0) = _
    simp only [Int.one_mul, Int.mul_one, Int.add_zero, Int.neg_mul]
    rw [Int.mul_comm (L i c), Int.mul_comm (L r c) (L i s)]
    omega
  rw [← e]
  exact this
/-! ### how large the numbers are -/
/-- a step with the row r among is: a minor by its power of the bottom stays -/
theorem ratio {L N : Nat → Row} {D : Int} {r s : Nat} {cs : List Nat} (hr : N r = L r) (hn : ∀ i, i ≠ r → ∀ c, D * N i c = L r s * L i c - L i s * L r c) {A B : List Nat} (hA : ∀ i ∈ A ++ B, i ≠ r) :
    D ^ (A ++ B).length * det ((A ++ r :: B).map N) cs = L r s ^ (A ++ B).length * det ((A ++ r :: B).map L) cs := by
  have hrow : ∀ i, i ≠ r → ∃ a : Int, ∀ c, D * N i c = L r s * L i c + a * L r c := fun i hi => ⟨-L i s, fun c => by rw [hn i hi c, Int.neg_mul]; omega⟩
  have back : ∀ M : Nat → Row, det ((A ++ r :: B).map M) cs = sg (A.map M) * det (M r :: ((A ++ B).map M)) cs := fun M => by
    have := det_move (u := M r) (cs := cs) (M := A.map M) (A := []) (B := B.map M)
    have e : det (M r :: ((A ++ B).map M)) cs = sg (A.map M) * det ((A ++ r :: B).map M) cs := by simpa using this
    rw [e, ← Int.mul_assoc, sg_sq, Int.one_mul]
  have sgs : sg (A.map N) = sg (A.map L) := by
    have : ∀ l : List Nat, sg (l.map N) = sg (l.map L) := fun l => by
      induction l with
      | nil => rfl
      | cons x l ih =>
        show -sg (l.map N) = -sg (l.map L)
        rw [ih]
    exact this A
  have e1 : det (L r :: ((A ++ B).map fun i => fun c => D * N i c)) cs = D ^ (A ++ B).length * det (N r :: ((A ++ B).map N)) cs := by
    have := det_times (k := D) (cs := cs) (f := fun x : Row => fun c => D * x c) (g := fun x => x) (rs := (A ++ B).map N) (A := [L r]) fun x _ c => rfl
    rw [List.map_map, List.length_map, List.map_id'] at this
    rw [hr]
    exact this
  have e2 : ∀ (is : List Nat) (X : List Row), (∀ i ∈ is, i ≠ r) → det (L r :: (X ++ is.map fun i => fun c => D * N i c)) cs = L r s ^ is.length * det (L r :: (X ++ is.map L)) cs := by
    intro is
    induction is with
    | nil => intro X _; show _ = L r s ^ 0 * _; rw [Int.pow_zero, Int.one_mul]; rfl
    | cons i is ih =>
      intro X hi
      obtain ⟨a, ha⟩ := hrow i (hi i List.mem_cons_self)
      have q1 := det_lin (w := fun c => D * N i c) (u := L i) (v := L r) ha (cs := cs) (A := L r :: X) (B := is.map fun i => fun c => D * N i c)
      have q2 : det ((L r :: X) ++ L r :: is.map fun i => fun c => D * N i c) cs = 0 := det_twin (A := []) (M := X)
      have q3 := ih (X ++ [L i]) fun j hj => hi j (List.mem_cons_of_mem _ hj)
      rw [q2, Int.mul_zero, Int.add_zero] at q1
      show det ((L r :: X) ++ (fun c => D * N i c) :: is.map fun i => fun c => D * N i c) cs = L r s ^ (is.length + 1) * _
      rw [q1, show (L r :: X) ++ L i :: (is.map fun i => fun c => D * N i c) = L r :: ((X ++ [L i]) ++ is.map fun i => fun c => D * N i c) by simp, q3, show (X ++ [L i]) ++ is.map L = X ++ (i :: is).map L by simp, Int.pow_succ]
      rw [Int.mul_assoc (L r s ^ is.length) (L r s), Int.mul_left_comm (L r s)]
  have e3 := e2 (A ++ B) [] hA
  rw [List.nil_append, List.nil_append] at e3
  rw [back N, back L, sgs, Int.mul_left_comm, ← e1, e3, Int.mul_left_comm]
/-- a board with its bottom alone in each held column -/
theorem det_diag {L : Nat → Row} {D : Int} {h : Nat → Nat} : ∀ {is : List Nat}, is.Nodup → (∀ i ∈ is, ∀ k ∈ is, L k (h i) = if k = i then D else 0) → det (is.map L) (is.map h) = D ^ is.length
  | [], _, _ => by show (if ([] : List Row).isEmpty then (1 : Int) else 0) = D ^ 0; rw [Int.pow_zero]; rfl
  | i :: is, nd, hb => by
    obtain ⟨n1, n2⟩ := List.nodup_cons.mp nd
    show det (L i :: is.map L) (h i :: is.map h) = D ^ (is.length + 1)
    rw [det_head fun x hx => ?_, det_diag n2 fun j hj k hk => hb j (List.mem_cons_of_mem _ hj) k (List.mem_cons_of_mem _ hk), hb i List.mem_cons_self i List.mem_cons_self, if_pos rfl, Int.pow_succ, Int.mul_comm]
    obtain ⟨k, hk, rfl⟩ := List.mem_map.mp hx
    rw [hb i List.mem_cons_self k (List.mem_cons_of_mem _ hk), if_neg (show ¬ k = i from fun z => n1 (by rw [← z]; exact hk))]
def fac : Nat → Nat
  | 0 => 1
  | k + 1 => (k + 1) * fac k
theorem ex_bd {f : List Row → Int} {c : Nat} {b : Nat} : ∀ {mid : List Row} {s : Int} {pre suf : List Row}, s.natAbs = 1 → (∀ r ∈ mid, (r c).natAbs ≤ 1) → (∀ l : List Row, l.length + 1 = pre.length + mid.length + suf.length → (∀ x ∈ l, x ∈ pre ∨ x ∈ mid ∨ x ∈ suf) → (f l).natAbs ≤ b) → (ex f c s pre mid suf).natAbs ≤ mid.length * b
  | [], _, _, _, _, _, _ => by show Int.natAbs 0 ≤ _; simp
  | r :: mid, s, pre, suf, hs, hr, hf => by
    show (s * r c * f (pre ++ (mid ++ suf)) + ex f c (-s) (pre ++ [r]) mid suf).natAbs ≤ (mid.length + 1) * b
    have h1 := ex_bd (f := f) (c := c) (b := b) (mid := mid) (s := -s) (pre := pre ++ [r]) (suf := suf) (by rw [Int.natAbs_neg]; exact hs) (fun x hx => hr x (List.mem_cons_of_mem _ hx)) fun l hl hx => hf l (by rw [List.length_append, List.length_singleton] at hl; rw [List.length_cons]; omega) fun x hxl => by
      rcases hx x hxl with z | z | z
      · rcases List.mem_append.mp z with z | z
        · exact .inl z
        · exact .inr (.inl (by rw [List.mem_singleton.mp z]; exact List.mem_cons_self))
      · exact .inr (.inl (List.mem_cons_of_mem _ z))
      · exact .inr (.inr z)
    have h2 := hf (pre ++ (mid ++ suf)) (by rw [List.length_append, List.length_append, List.length_cons]; omega) fun x hx => by
      rcases List.mem_append.mp hx with z | z
      · exact .inl z
      · rcases List.mem_append.mp z with z | z
        · exact .inr (.inl (List.mem_cons_of_mem _ z))
        · exact .inr (.inr z)
    have h3 := hr r List.mem_cons_self
    have h4 : (s * r c * f (pre ++ (mid ++ suf))).natAbs ≤ b := by
      rw [Int.natAbs_mul, Int.natAbs_mul, hs, Nat.one_mul]
      have := Nat.mul_le_mul h3 h2
      omega
    have h5 := Int.natAbs_add_le (s * r c * f (pre ++ (mid ++ suf))) (ex f c (-s) (pre ++ [r]) mid suf)
    rw [Nat.add_mul, Nat.one_mul]
    omega
theorem det_bd : ∀ {cs : List Nat} {rs : List Row}, rs.length = cs.length → (∀ r ∈ rs, ∀ c, (r c).natAbs ≤ 1) → (det rs cs).natAbs ≤ fac cs.length
  | [], rs, h, _ => by
    unfold det
    split <;> simp [fac]
  | c :: cs, rs, h, hr => by
    show (ex _ c 1 [] rs []).natAbs ≤ (cs.length + 1) * fac cs.length
    rw [← show rs.length = cs.length + 1 from h]
    exact ex_bd (by decide) (fun r hrs => hr r hrs c) fun l hl hx => det_bd (by
      simp only [List.length_nil, List.length_cons] at hl h
      omega) fun x hxl => hr x (by
      rcases hx x hxl with z | z | z
      · cases z
      · exact z
      · cases z)
end MDet
/-! MSim: a simplex board by whole numbers with Bland's rule: what each turn keeps, and that no list of held columns comes twice -/
namespace MSim
local macro_rules | `(tactic| trivial) => `(tactic| ((try simp only [Int.mul_sub, Int.sub_mul, Int.mul_add, Int.add_mul, Int.neg_mul, Int.mul_neg, Int.mul_assoc, Int.mul_comm, Int.mul_left_comm, Int.mul_zero, Int.zero_mul, Int.sub_zero, Int.mul_one, Int.one_mul]) <;> omega))
open MDet (Row Minors minors_step minors_two)
def sm : Nat → (Nat → Int) → Int
  | 0, _ => 0
  | k + 1, f => sm k f + f k
theorem sm_congr {f g : Nat → Int} : ∀ {k : Nat}, (∀ i, i < k → f i = g i) → sm k f = sm k g
  | 0, _ => rfl
  | k + 1, h => by
    show sm k f + f k = sm k g + g k
    rw [sm_congr fun i hi => h i (by omega), h k (by omega)]
theorem sm_add {f g : Nat → Int} : ∀ {k : Nat}, sm k (fun i => f i + g i) = sm k f + sm k g
  | 0 => rfl
  | k + 1 => by
    show sm k _ + (f k + g k) = (sm k f + f k) + (sm k g + g k)
    rw [sm_add]
    omega
theorem sm_mul {f : Nat → Int} {a : Int} : ∀ {k : Nat}, sm k (fun i => a * f i) = a * sm k f
  | 0 => (Int.mul_zero a).symm
  | k + 1 => by
    show sm k _ + a * f k = a * (sm k f + f k)
    rw [sm_mul, Int.mul_add]
theorem sm_zero : ∀ {k : Nat} {f : Nat → Int}, (∀ i, i < k → f i = 0) → sm k f = 0
  | 0, _, _ => rfl
  | k + 1, f, h => by
    show sm k f + f k = 0
    rw [sm_zero fun i hi => h i (by omega), h k (by omega)]
    rfl
theorem sm_swap {f : Nat → Nat → Int} : ∀ {k l : Nat}, sm k (fun i => sm l (f i)) = sm l (fun j => sm k fun i => f i j)
  | 0, l => (sm_zero fun _ _ => rfl).symm
  | k + 1, l => by
    show sm k (fun i => sm l (f i)) + sm l (f k) = sm l fun j => (sm k fun i => f i j) + f k j
    rw [sm_swap, sm_add]
theorem sm_nn : ∀ {k : Nat} {f : Nat → Int}, (∀ i, i < k → 0 ≤ f i) → 0 ≤ sm k f
  | 0, _, _ => Int.le_refl 0
  | k + 1, f, h => by
    have h1 := sm_nn (k := k) (f := f) fun i hi => h i (by omega)
    have h2 := h k (by omega)
    show 0 ≤ sm k f + f k
    omega
theorem sm_pos : ∀ {k : Nat} {f : Nat → Int}, 0 < sm k f → ∃ i, i < k ∧ 0 < f i
  | 0, _, h => absurd h (by show ¬ (0 : Int) < 0; decide)
  | k + 1, f, h => by
    have h' : 0 < sm k f + f k := h
    by_cases c : 0 < f k
    · exact ⟨k, by omega, c⟩
    · obtain ⟨i, hi, h2⟩ := sm_pos (k := k) (f := f) (by omega)
      exact ⟨i, by omega, h2⟩
/-- one of the items apart -/
theorem sm_put {f : Nat → Int} {r : Nat} {x : Int} : ∀ {k : Nat}, r < k → sm k (fun i => if i = r then x else f i) = sm k f - f r + x
  | 0, h => by omega
  | k + 1, h => by
    show sm k _ + (if k = r then x else f k) = sm k f + f k - f r + x
    by_cases c : k = r
    · subst c
      rw [if_pos rfl, sm_congr (g := f) fun i hi => if_neg (by omega)]
      omega
    · rw [if_neg c, sm_put (by omega)]
      omega
structure Bst where
  D : Int
  h : Nat → Nat
  L : Nat → Row
/-- the board of rows 0 .. m-1 and the row m of what grows; columns 0 .. n-1, and n of what is held; A: the first board -/
structure Inv (m n : Nat) (A : Nat → Row) (S : Bst) : Prop where
  pos : 0 < S.D
  rg : ∀ i, i < m → S.h i < n
  bas : ∀ i, i < m → ∀ k, k ≤ m → S.L k (S.h i) = if k = i then S.D else 0
  nn : ∀ i, i < m → 0 ≤ S.L i n
  min : Minors S.L S.D
  fwd : ∀ q, q ≤ m → ∀ c, sm m (fun i => A q (S.h i) * S.L i c) = S.D * A q c - if q = m then S.L m c else 0
/-- what the first board's slack columns tell of each row -/
structure Rel (m P : Nat) (A : Nat → Row) (S : Bst) : Prop where
  row : ∀ k, k ≤ m → ∀ c, S.L k c = sm m (fun p => S.L k (P + p) * A p c) + if k = m then S.D * A m c else 0
/-- a turn -/
structure Turn (m n : Nat) (S : Bst) (r s : Nat) (T : Bst) : Prop where
  rm : r < m
  sn : s < n
  up : 0 < S.L r s
  D : T.D = S.L r s
  hr : T.h r = s
  hi : ∀ i, i ≠ r → T.h i = S.h i
  Lr : T.L r = S.L r
  Li : ∀ i, i ≠ r → ∀ c, S.D * T.L i c = S.L r s * S.L i c - S.L i s * S.L r c
  low : ∀ i, i < m → 0 < S.L i s → S.L r n * S.L i s ≤ S.L i n * S.L r s
section
variable {m n P : Nat} {A : Nat → Row} {S T : Bst} {r s : Nat}
theorem Inv.inj (v : Inv m n A S) {i k : Nat} (hi : i < m) (hk : k < m) (e : S.h i = S.h k) : i = k := by
  have h1 := v.bas i hi i (by omega)
  have h2 := v.bas k hk i (by omega)
  rw [if_pos rfl] at h1
  rw [e] at h1
  rw [h1] at h2
  have := v.pos
  by_cases c : i = k
  · exact c
  · rw [if_neg c] at h2
    omega
theorem cancel {a x y : Int} (h : 0 < a) (e : a * x = a * y) : x = y := Int.eq_of_mul_eq_mul_left (by omega) e
theorem nn_of {a x : Int} (h : 0 < a) (e : 0 ≤ a * x) : 0 ≤ x := by
  apply Classical.byContradiction
  intro z
  have : a * x < 0 := by
    have := Int.mul_neg_of_pos_of_neg h (show x < 0 by omega)
    exact this
  omega
theorem Turn.inv (t : Turn m n S r s T) (v : Inv m n A S) : Inv m n A T := by
  have hD := v.pos
  have hup := t.up
  refine ⟨by rw [t.D]; exact hup, fun i hi => ?_, fun i hi k hk => ?_, fun i hi => ?_, ?_, fun q hq c => ?_⟩
  · by_cases c : i = r
    · rw [c, t.hr]
      exact t.sn
    · rw [t.hi i c]
      exact v.rg i hi
  · by_cases ci : i = r
    · subst ci
      rw [t.hr, t.D]
      by_cases ck : k = i
      · subst ck
        rw [if_pos rfl, t.Lr]
      · rw [if_neg ck]
        refine cancel hD ?_
        rw [t.Li k ck s, Int.mul_comm]
        omega
    · rw [t.hi i ci, t.D]
      by_cases ck : k = r
      · subst ck
        rw [t.Lr, v.bas i hi k hk, if_neg (fun z => ci z.symm), if_neg (fun z => ci z.symm)]
      · refine cancel hD ?_
        rw [t.Li k ck, v.bas i hi k hk, v.bas i hi r (by have := t.rm; omega), if_neg (show ¬ r = i from fun z => ci z.symm), Int.mul_zero, Int.sub_zero]
        by_cases cki : k = i
        · rw [if_pos cki, if_pos cki, Int.mul_comm]
        · rw [if_neg cki, if_neg cki, Int.mul_zero, Int.mul_zero]
  · by_cases ci : i = r
    · rw [ci, t.Lr]
      exact v.nn r t.rm
    · refine nn_of hD ?_
      rw [t.Li i ci]
      have h1 := v.nn i hi
      have h2 := v.nn r t.rm
      by_cases c : 0 < S.L i s
      · have := t.low i hi c
        rw [Int.mul_comm (S.L r s), Int.mul_comm (S.L i s)]
        omega
      · have e1 : 0 ≤ S.L r s * S.L i n := Int.mul_nonneg (by omega) h1
        have e2 : S.L i s * S.L r n ≤ 0 := Int.mul_nonpos_of_nonpos_of_nonneg (by omega) h2
        omega
  · rw [t.D]
    exact minors_step (by omega) (by omega) v.min t.Lr fun i hi c => t.Li i hi c
  · have rm := t.rm
    refine cancel hD ?_
    have hc := v.fwd q hq c
    have hs := v.fwd q hq s
    have e1 : S.D * sm m (fun i => A q (T.h i) * T.L i c) = sm m (fun i => if i = r then S.D * (A q s * S.L r c) else S.L r s * (A q (S.h i) * S.L i c) + -S.L r c * (A q (S.h i) * S.L i s)) := by
      rw [← sm_mul]
      refine sm_congr fun i hi => ?_
      by_cases ci : i = r
      · rw [if_pos ci, ci, t.hr, t.Lr]
      · rw [if_neg ci, t.hi i ci, Int.mul_left_comm, t.Li i ci]
        trivial
    rw [e1, sm_put rm, sm_add, sm_mul, sm_mul, hc, hs, t.D]
    by_cases cq : q = m
    · rw [if_pos cq, if_pos cq, if_pos cq, Int.mul_sub S.D, t.Li m (by omega)]
      trivial
    · rw [if_neg cq, if_neg cq, if_neg cq]
      trivial
theorem Turn.rel (t : Turn m n S r s T) (v : Inv m n A S) (w : Rel m P A S) : Rel m P A T := by
  have hD := v.pos
  have rm := t.rm
  refine ⟨fun k hk c => ?_⟩
  by_cases ck : k = r
  · subst ck
    have h := w.row k hk c
    rw [if_neg (show ¬ k = m by omega)] at h ⊢
    rw [t.Lr]
    exact h
  · refine cancel hD ?_
    have h1 := w.row k hk c
    have h2 := w.row r (by omega) c
    rw [if_neg (show ¬ r = m by omega), Int.add_zero] at h2
    have e : S.D * sm m (fun p => T.L k (P + p) * A p c) = S.L r s * sm m (fun p => S.L k (P + p) * A p c) - S.L k s * sm m (fun p => S.L r (P + p) * A p c) := by
      have e2 : sm m (fun p => S.D * (T.L k (P + p) * A p c)) = sm m (fun p => S.L r s * (S.L k (P + p) * A p c) + -S.L k s * (S.L r (P + p) * A p c)) := sm_congr fun p _ => by
        rw [← Int.mul_assoc, t.Li k ck]
        trivial
      rw [← sm_mul, e2, sm_add, sm_mul, sm_mul, Int.neg_mul]
      omega
    rw [t.Li k ck c, Int.mul_add, e, ← h2, t.D]
    by_cases cm : k = m
    · rw [if_pos cm] at h1 ⊢
      have h3 : sm m (fun p => S.L k (P + p) * A p c) = S.L k c - S.D * A m c := by omega
      rw [h3]
      trivial
    · rw [if_neg cm] at h1 ⊢
      rw [Int.add_zero] at h1
      rw [← h1, Int.mul_zero, Int.add_zero]
/-- two boards of one beginning: the growing row of the one by the rows of the other -/
theorem two_rows (v : Inv m n A S) (w : Rel m P A T) (c : Nat) : S.D * T.L m c = T.D * S.L m c + sm m fun i => T.L m (S.h i) * S.L i c := by
  have ht : ∀ c, T.L m c = sm m (fun p => T.L m (P + p) * A p c) + T.D * A m c := fun c => by
    have := w.row m (Nat.le_refl _) c
    rw [if_pos rfl] at this
    exact this
  have hp : ∀ p, p < m → S.D * A p c = sm m (fun i => A p (S.h i) * S.L i c) := fun p hp => by
    have := v.fwd p (by omega) c
    rw [if_neg (by omega), Int.sub_zero] at this
    exact this.symm
  have hm : S.D * A m c = sm m (fun i => A m (S.h i) * S.L i c) + S.L m c := by
    have := v.fwd m (Nat.le_refl _) c
    rw [if_pos rfl] at this
    omega
  have e1 : S.D * sm m (fun p => T.L m (P + p) * A p c) = sm m fun p => sm m fun i => T.L m (P + p) * (A p (S.h i) * S.L i c) := by
    rw [← sm_mul]
    refine sm_congr fun p hpm => ?_
    rw [Int.mul_left_comm, hp p hpm, sm_mul]
  have e2 : sm m (fun i => T.L m (S.h i) * S.L i c) = sm m (fun i => (sm m fun p => T.L m (P + p) * (A p (S.h i) * S.L i c)) + T.D * (A m (S.h i) * S.L i c)) := sm_congr fun i _ => by
    rw [ht (S.h i), Int.add_mul, Int.mul_assoc, Int.mul_comm (sm m _), ← sm_mul]
    congr 1
    exact sm_congr fun p _ => by trivial
  rw [ht c, Int.mul_add, e1, e2, sm_add, sm_mul, Int.mul_left_comm S.D T.D, hm, sm_swap, Int.mul_add]
  omega
/-! ### Bland's rule -/
structure Bland (m n : Nat) (S : Bst) (r s : Nat) : Prop where
  neg : S.L m s < 0
  first : ∀ c, c < s → 0 ≤ S.L m c
  tie : ∀ i, i < m → 0 < S.L i s → S.L r n * S.L i s = S.L i n * S.L r s → S.h r ≤ S.h i
theorem Turn.grows (t : Turn m n S r s T) (v : Inv m n A S) (b : Bland m n S r s) : T.L m n * S.D = S.L m n * T.D + -S.L m s * S.L r n := by
  have := t.Li m (by have := t.rm; omega) n
  rw [t.D]
  rw [Int.mul_comm] at this
  rw [this]
  trivial
theorem frac {a b c x y z : Int} (ha : 0 < a) (hb : 0 < b) (hc : 0 < c) (h1 : x * b ≤ y * a) (h2 : y * c ≤ z * b) : x * c ≤ z * a := by
  have k1 := Int.mul_le_mul_of_nonneg_right h1 (Int.le_of_lt hc)
  have k2 := Int.mul_le_mul_of_nonneg_right h2 (Int.le_of_lt ha)
  have e1 : x * c * b = x * b * c := by trivial
  have e2 : y * a * c = y * c * a := by trivial
  have e3 : z * a * b = z * b * a := by trivial
  have q : x * c * b ≤ z * a * b := by omega
  exact Int.le_of_mul_le_mul_right q hb
theorem fracL {a b c x y z : Int} (ha : 0 < a) (hb : 0 < b) (hc : 0 < c) (h1 : x * b ≤ y * a) (h2 : y * c < z * b) : x * c < z * a := by
  have k1 := Int.mul_le_mul_of_nonneg_right h1 (Int.le_of_lt hc)
  have k2 := Int.mul_lt_mul_of_pos_right h2 ha
  have e1 : x * c * b = x * b * c := by trivial
  have e2 : y * a * c = y * c * a := by trivial
  have e3 : z * a * b = z * b * a := by trivial
  have q : x * c * b < z * a * b := by omega
  exact Int.lt_of_mul_lt_mul_right q (Int.le_of_lt hb)
end
/-- a run of turns -/
structure Run (m n P : Nat) (A : Nat → Row) (N : Nat) (S : Nat → Bst) (r s : Nat → Nat) : Prop where
  inv : Inv m n A (S 0)
  rel : Rel m P A (S 0)
  turn : ∀ t, t < N → Turn m n (S t) (r t) (s t) (S (t + 1))
  bland : ∀ t, t < N → Bland m n (S t) (r t) (s t)
section
variable {m n P N : Nat} {A : Nat → Row} {S : Nat → Bst} {r s : Nat → Nat}
theorem Run.invs (R : Run m n P A N S r s) : ∀ {t : Nat}, t ≤ N → Inv m n A (S t) ∧ Rel m P A (S t)
  | 0, _ => ⟨R.inv, R.rel⟩
  | t + 1, h => by
    obtain ⟨v, w⟩ := R.invs (t := t) (by omega)
    exact ⟨(R.turn t (by omega)).inv v, (R.turn t (by omega)).rel v w⟩
theorem Run.up (R : Run m n P A N S r s) {t : Nat} (h : t < N) : (S t).L m n * (S (t + 1)).D ≤ (S (t + 1)).L m n * (S t).D := by
  have v := (R.invs (t := t) (by omega)).1
  have := (R.turn t h).grows v (R.bland t h)
  have h1 := (R.bland t h).neg
  have h2 := v.nn (r t) (R.turn t h).rm
  have h3 : 0 ≤ -(S t).L m (s t) * (S t).L (r t) n := Int.mul_nonneg (by omega) h2
  omega
theorem Run.upL (R : Run m n P A N S r s) {t : Nat} (h : t < N) (hz : (S t).L (r t) n ≠ 0) : (S t).L m n * (S (t + 1)).D < (S (t + 1)).L m n * (S t).D := by
  have v := (R.invs (t := t) (by omega)).1
  have := (R.turn t h).grows v (R.bland t h)
  have h1 := (R.bland t h).neg
  have h2 := v.nn (r t) (R.turn t h).rm
  have h3 : 0 < -(S t).L m (s t) * (S t).L (r t) n := Int.mul_pos (by omega) (by omega)
  omega
theorem Run.ups (R : Run m n P A N S r s) {a : Nat} : ∀ {d : Nat}, a + d ≤ N → (S a).L m n * (S (a + d)).D ≤ (S (a + d)).L m n * (S a).D
  | 0, _ => by exact Int.le_refl _
  | d + 1, h => by
    have v0 := (R.invs (t := a) (by omega)).1.pos
    have v1 := (R.invs (t := a + d) (by omega)).1.pos
    have v2 := (R.invs (t := a + d + 1) (by omega)).1.pos
    exact frac v0 v1 v2 (R.ups (d := d) (by omega)) (R.up (t := a + d) (by omega))
def InH (m : Nat) (S : Bst) (v : Nat) : Prop := ∃ i, i < m ∧ S.h i = v
theorem Run.enter (R : Run m n P A N S r s) {a v : Nat} : ∀ {d : Nat}, a + d ≤ N → ¬ InH m (S a) v → InH m (S (a + d)) v → ∃ w, a ≤ w ∧ w < a + d ∧ s w = v
  | 0, _, h1, h2 => absurd h2 h1
  | d + 1, h, h1, h2 => by
    by_cases c : InH m (S (a + d)) v
    · obtain ⟨w, w1, w2, w3⟩ := R.enter (d := d) (by omega) h1 c
      exact ⟨w, w1, by omega, w3⟩
    · obtain ⟨i, hi, e⟩ := h2
      have t := R.turn (a + d) (by omega)
      by_cases ci : i = r (a + d)
      · refine ⟨a + d, by omega, by omega, ?_⟩
        rw [← t.hr, ← ci]
        exact e
      · exact absurd ⟨i, hi, by rw [← t.hi i ci]; exact e⟩ c
theorem Run.leave (R : Run m n P A N S r s) {a v : Nat} : ∀ {d : Nat}, a + d ≤ N → InH m (S a) v → ¬ InH m (S (a + d)) v → ∃ w, a ≤ w ∧ w < a + d ∧ (S w).h (r w) = v
  | 0, _, h1, h2 => absurd h1 h2
  | d + 1, h, h1, h2 => by
    by_cases c : InH m (S (a + d)) v
    · obtain ⟨i, hi, e⟩ := c
      have t := R.turn (a + d) (by omega)
      by_cases ci : i = r (a + d)
      · exact ⟨a + d, by omega, by omega, by rw [← ci]; exact e⟩
      · exact absurd ⟨i, hi, by show (S (a + d + 1)).h i = v; rw [t.hi i ci]; exact e⟩ h2
    · obtain ⟨w, w1, w2, w3⟩ := R.leave (d := d) (by omega) h1 c
      exact ⟨w, w1, by omega, w3⟩
/-- what a column holds is nought -/
def Zr (m n : Nat) (S : Bst) (v : Nat) : Prop := ∀ i, i < m → S.h i = v → S.L i n = 0
theorem Run.zr (R : Run m n P A N S r s) {v t : Nat} (h : t < N) (hz : (S t).L (r t) n = 0) : Zr m n (S t) v ↔ Zr m n (S (t + 1)) v := by
  have T := R.turn t h
  have vt := (R.invs (t := t) (by omega)).1
  have rm := T.rm
  constructor
  · intro z i hi e
    by_cases ci : i = r t
    · rw [ci, T.Lr]
      exact hz
    · rw [T.hi i ci] at e
      refine cancel vt.pos ?_
      rw [T.Li i ci, z i hi e, hz]
      simp
  · intro z i hi e
    by_cases ci : i = r t
    · rw [ci]
      exact hz
    · have e2 := z i hi (by rw [T.hi i ci]; exact e)
      have e3 := T.Li i ci n
      rw [e2, hz, Int.mul_zero, Int.mul_zero, Int.sub_zero] at e3
      exact cancel T.up (by rw [← e3, Int.mul_zero])
theorem Run.zrs (R : Run m n P A N S r s) {v a : Nat} : ∀ {d : Nat}, a + d ≤ N → (∀ t, a ≤ t → t < a + d → (S t).L (r t) n = 0) → (Zr m n (S a) v ↔ Zr m n (S (a + d)) v)
  | 0, _, _ => Iff.rfl
  | d + 1, h, hz => (R.zrs (d := d) (by omega) fun t h1 h2 => hz t h1 (by omega)).trans (R.zr (by omega) (hz (a + d) (by omega) (by omega)))
theorem max_ex {f : Nat → Nat} {a : Nat} : ∀ {d : Nat}, 0 < d → ∃ t, a ≤ t ∧ t < a + d ∧ ∀ u, a ≤ u → u < a + d → f u ≤ f t
  | 0, h => by omega
  | d + 1, _ => by
    by_cases c : d = 0
    · subst c
      exact ⟨a, by omega, by omega, fun u h1 h2 => by rw [show u = a by omega]; exact Nat.le_refl _⟩
    · obtain ⟨t, t1, t2, t3⟩ := max_ex (f := f) (a := a) (d := d) (by omega)
      by_cases c2 : f t ≤ f (a + d)
      · refine ⟨a + d, by omega, by omega, fun u h1 h2 => ?_⟩
        by_cases cu : u = a + d
        · rw [cu]; exact Nat.le_refl _
        · exact Nat.le_trans (t3 u h1 (by omega)) c2
      · refine ⟨t, t1, by omega, fun u h1 h2 => ?_⟩
        by_cases cu : u = a + d
        · rw [cu]; omega
        · exact t3 u h1 (by omega)
/-- no list of held columns comes twice -/
theorem Run.once (R : Run m n P A N S r s) {a d : Nat} (hd : 0 < d) (hN : a + d ≤ N) (he : ∀ i, i < m → (S a).h i = (S (a + d)).h i) : False := by
  have va := R.invs (t := a) (by omega)
  have vb := R.invs (t := a + d) (by omega)
  have inab : ∀ v, InH m (S a) v ↔ InH m (S (a + d)) v := fun v => ⟨fun ⟨i, hi, e⟩ => ⟨i, hi, by rw [← he i hi]; exact e⟩, fun ⟨i, hi, e⟩ => ⟨i, hi, by rw [he i hi]; exact e⟩⟩
  -- what is reached stays
  have same : (S a).D * (S (a + d)).L m n = (S (a + d)).D * (S a).L m n := by
    rw [two_rows va.1 vb.2 n, sm_zero fun i hi => ?_, Int.add_zero]
    rw [he i hi, vb.1.bas i hi m (Nat.le_refl _), if_neg (by omega), Int.zero_mul]
  have deg : ∀ t, a ≤ t → t < a + d → (S t).L (r t) n = 0 := fun t t1 t2 => by
    apply Classical.byContradiction
    intro z
    have h1 := R.ups (a := a) (d := t - a) (by omega)
    rw [show a + (t - a) = t by omega] at h1
    have h2 := R.upL (t := t) (by omega) z
    have h3 := R.ups (a := t + 1) (d := a + d - (t + 1)) (by omega)
    rw [show t + 1 + (a + d - (t + 1)) = a + d by omega] at h3
    have p0 := va.1.pos
    have p1 := (R.invs (t := t) (by omega)).1.pos
    have p2 := (R.invs (t := t + 1) (by omega)).1.pos
    have p3 := vb.1.pos
    have k1 := fracL p0 p1 p2 h1 h2
    have k2 : (S a).L m n * (S (a + d)).D < (S (a + d)).L m n * (S a).D := by
      have q1 := Int.mul_lt_mul_of_pos_right k1 p3
      have q2 := Int.mul_le_mul_of_nonneg_right h3 (Int.le_of_lt p0)
      have e1 : (S a).L m n * (S (a + d)).D * (S (t + 1)).D = (S a).L m n * (S (t + 1)).D * (S (a + d)).D := by trivial
      have e2 : (S (t + 1)).L m n * (S a).D * (S (a + d)).D = (S (t + 1)).L m n * (S (a + d)).D * (S a).D := by trivial
      have e3 : (S (a + d)).L m n * (S a).D * (S (t + 1)).D = (S (a + d)).L m n * (S (t + 1)).D * (S a).D := by trivial
      have q : (S a).L m n * (S (a + d)).D * (S (t + 1)).D < (S (a + d)).L m n * (S a).D * (S (t + 1)).D := by omega
      exact Int.lt_of_mul_lt_mul_right q (Int.le_of_lt p2)
    rw [Int.mul_comm ((S (a + d)).L m n), same, Int.mul_comm] at k2
    omega
  have zall : ∀ v t u, a ≤ t → t ≤ a + d → a ≤ u → u ≤ a + d → Zr m n (S t) v → Zr m n (S u) v := fun v t u t1 t2 u1 u2 hz => by
    have h1 := R.zrs (v := v) (a := a) (d := t - a) (by omega) fun w w1 w2 => deg w w1 (by omega)
    have h2 := R.zrs (v := v) (a := a) (d := u - a) (by omega) fun w w1 w2 => deg w w1 (by omega)
    rw [show a + (t - a) = t by omega] at h1
    rw [show a + (u - a) = u by omega] at h2
    exact h2.mp (h1.mpr hz)
  obtain ⟨t2, b1, b2, hmax⟩ := max_ex (f := s) (a := a) hd
  have T2 := R.turn t2 (by omega)
  have B2 := R.bland t2 (by omega)
  have v2 := R.invs (t := t2) (by omega)
  have out : ∀ t, t < N → ¬ InH m (S t) (s t) := fun t ht ⟨i, hi, e⟩ => by
    have := (R.invs (t := t) (by omega)).1.bas i hi m (Nat.le_refl _)
    rw [e, if_neg (by omega)] at this
    have := (R.bland t ht).neg
    omega
  have hin : InH m (S (t2 + 1)) (s t2) := ⟨r t2, T2.rm, T2.hr⟩
  obtain ⟨t1, c1, c2, hq⟩ : ∃ t1, a ≤ t1 ∧ t1 < a + d ∧ (S t1).h (r t1) = s t2 := by
    by_cases c : InH m (S (a + d)) (s t2)
    · have ca := (inab _).mpr c
      have hne : a ≠ t2 := fun z => out t2 (by omega) (z ▸ ca)
      obtain ⟨w, w1, w2, w3⟩ := R.leave (a := a) (d := t2 - a) (by omega) ca (by rw [show a + (t2 - a) = t2 by omega]; exact out t2 (by omega))
      exact ⟨w, w1, by omega, w3⟩
    · have hne : t2 + 1 ≠ a + d := fun z => c (z ▸ hin)
      obtain ⟨w, w1, w2, w3⟩ := R.leave (a := t2 + 1) (d := a + d - (t2 + 1)) (by omega) hin (by rw [show t2 + 1 + (a + d - (t2 + 1)) = a + d by omega]; exact c)
      exact ⟨w, by omega, by omega, w3⟩
  have T1 := R.turn t1 (by omega)
  have B1 := R.bland t1 (by omega)
  have v1 := R.invs (t := t1) (by omega)
  have hlt : s t1 < s t2 := by
    have h1 := hmax t1 c1 c2
    have h2 : s t1 ≠ s t2 := fun z => out t1 (by omega) ⟨r t1, T1.rm, by rw [hq, z]⟩
    omega
  have K := two_rows v1.1 v2.2 (s t1)
  have k1 : 0 ≤ (S t2).L m (s t1) := B2.first _ hlt
  have k2 : (S t2).D * (S t1).L m (s t1) < 0 := Int.mul_neg_of_pos_of_neg v2.1.pos B1.neg
  have k3 : 0 ≤ (S t1).D * (S t2).L m (s t1) := Int.mul_nonneg (Int.le_of_lt v1.1.pos) k1
  obtain ⟨i, hi, hpos⟩ := sm_pos (show 0 < sm m fun i => (S t2).L m ((S t1).h i) * (S t1).L i (s t1) by omega)
  have hir : i ≠ r t1 := fun z => by
    rw [z, hq] at hpos
    have := Int.mul_neg_of_neg_of_pos B2.neg T1.up
    omega
  have hnot : ¬ InH m (S t2) ((S t1).h i) := fun ⟨j, hj, e⟩ => by
    have := v2.1.bas j hj m (Nat.le_refl _)
    rw [e, if_neg (by omega)] at this
    rw [this, Int.zero_mul] at hpos
    omega
  have hyes : InH m (S t1) ((S t1).h i) := ⟨i, hi, rfl⟩
  have hle : (S t1).h i ≤ s t2 := by
    obtain ⟨w, w1, w2, w3⟩ : ∃ w, a ≤ w ∧ w < a + d ∧ s w = (S t1).h i := by
      by_cases c : t2 < t1
      · obtain ⟨w, w1, w2, w3⟩ := R.enter (a := t2) (d := t1 - t2) (by omega) hnot (by rw [show t2 + (t1 - t2) = t1 by omega]; exact hyes)
        exact ⟨w, by omega, by omega, w3⟩
      · by_cases cb : InH m (S (a + d)) ((S t1).h i)
        · obtain ⟨w, w1, w2, w3⟩ := R.enter (a := t2) (d := a + d - t2) (by omega) hnot (by rw [show t2 + (a + d - t2) = a + d by omega]; exact cb)
          exact ⟨w, by omega, by omega, w3⟩
        · have ca : ¬ InH m (S a) ((S t1).h i) := fun z => cb ((inab _).mp z)
          obtain ⟨w, w1, w2, w3⟩ := R.enter (a := a) (d := t1 - a) (by omega) ca (by rw [show a + (t1 - a) = t1 by omega]; exact hyes)
          exact ⟨w, by omega, by omega, w3⟩
    rw [← w3]
    exact hmax w w1 w2
  have hltv : (S t1).h i < s t2 := by
    have : (S t1).h i ≠ s t2 := fun z => hir (v1.1.inj hi T1.rm (by rw [z, hq]))
    omega
  have z2 : 0 ≤ (S t2).L m ((S t1).h i) := B2.first _ hltv
  have ai : 0 < (S t1).L i (s t1) := by
    apply Classical.byContradiction
    intro z
    have := Int.mul_nonpos_of_nonneg_of_nonpos z2 (show (S t1).L i (s t1) ≤ 0 by omega)
    omega
  have zi : (S t1).L i n = 0 := zall _ t2 t1 b1 (by omega) c1 (by omega) (fun j hj e => absurd ⟨j, hj, e⟩ hnot) i hi rfl
  have := B1.tie i hi ai (by rw [deg t1 c1 c2, zi, Int.zero_mul, Int.zero_mul])
  rw [hq] at this
  omega
def cd (n : Nat) (h : Nat → Nat) : Nat → Nat
  | 0 => 0
  | k + 1 => cd n h k * n + h k
theorem cd_lt {n : Nat} {h : Nat → Nat} : ∀ {k : Nat}, (∀ i, i < k → h i < n) → cd n h k < n ^ k
  | 0, _ => by show 0 < n ^ 0; simp
  | k + 1, hk => by
    have h1 := cd_lt (n := n) (h := h) (k := k) fun i hi => hk i (by omega)
    have h2 := hk k (by omega)
    show cd n h k * n + h k < n ^ (k + 1)
    rw [Nat.pow_succ]
    have := Nat.mul_le_mul_right n (show cd n h k + 1 ≤ n ^ k from h1)
    rw [Nat.add_mul, Nat.one_mul] at this
    omega
theorem cd_inj {n : Nat} {h g : Nat → Nat} : ∀ {k : Nat}, (∀ i, i < k → h i < n) → (∀ i, i < k → g i < n) → cd n h k = cd n g k → ∀ i, i < k → h i = g i
  | 0, _, _, _, i, hi => by omega
  | k + 1, hh, hg, e, i, hi => by
    have h2 := hh k (by omega)
    have g2 := hg k (by omega)
    have e' : cd n h k * n + h k = cd n g k * n + g k := e
    have m1 : (cd n h k * n + h k) % n = h k := by rw [Nat.mul_comm, Nat.mul_add_mod, Nat.mod_eq_of_lt h2]
    have m2 : (cd n g k * n + g k) % n = g k := by rw [Nat.mul_comm, Nat.mul_add_mod, Nat.mod_eq_of_lt g2]
    have ek : h k = g k := by rw [← m1, ← m2, e']
    have ec : cd n h k = cd n g k := by
      have : cd n h k * n = cd n g k * n := by omega
      exact Nat.eq_of_mul_eq_mul_right (by omega) this
    by_cases c : i = k
    · rw [c]; exact ek
    · exact cd_inj (fun j hj => hh j (by omega)) (fun j hj => hg j (by omega)) ec i (by omega)
/-- more things than holes -/
theorem holes : ∀ {K : Nat} {f : Nat → Nat}, (∀ t, t ≤ K → f t < K) → ∃ a b, a < b ∧ b ≤ K ∧ f a = f b
  | 0, f, h => by
    have := h 0 (Nat.le_refl _)
    omega
  | K + 1, f, h => by
    by_cases c : ∃ t, t ≤ K ∧ f t = f (K + 1)
    · obtain ⟨t, ht, e⟩ := c
      exact ⟨t, K + 1, by omega, Nat.le_refl _, e⟩
    · have hne : ∀ t, t ≤ K → f t ≠ f (K + 1) := fun t ht e => c ⟨t, ht, e⟩
      obtain ⟨a, b, h1, h2, h3⟩ := holes (K := K) (f := fun t => if f t = K then f (K + 1) else f t) fun t ht => by
        have q1 := h t (by omega)
        have q2 := h (K + 1) (Nat.le_refl _)
        have q3 := hne t ht
        show (if f t = K then f (K + 1) else f t) < K
        split <;> omega
      have ha := hne a (by omega)
      have hb := hne b h2
      change (if f a = K then f (K + 1) else f a) = (if f b = K then f (K + 1) else f b) at h3
      refine ⟨a, b, h1, by omega, ?_⟩
      split at h3 <;> split at h3 <;> omega
theorem Run.few (R : Run m n P A N S r s) : N < n ^ m := by
  apply Classical.byContradiction
  intro z
  obtain ⟨a, b, h1, h2, h3⟩ := holes (K := n ^ m) (f := fun t => if t ≤ N then cd n (S t).h m else 0) fun t ht => by
    have q : t ≤ N := by omega
    show (if t ≤ N then cd n (S t).h m else 0) < n ^ m
    rw [if_pos q]
    exact cd_lt (R.invs q).1.rg
  change (if a ≤ N then cd n (S a).h m else 0) = (if b ≤ N then cd n (S b).h m else 0) at h3
  rw [if_pos (by omega), if_pos (by omega)] at h3
  have e := cd_inj (R.invs (t := a) (by omega)).1.rg (R.invs (t := b) (by omega)).1.rg h3
  exact R.once (a := a) (d := b - a) (by omega) (by omega) fun i hi => by rw [show a + (b - a) = b by omega]; exact e i hi
end
/-! ### what a board tells -/
section
variable {m n P : Nat} {A : Nat → Row} {S : Bst} {r s : Nat}
/-- the first board: pairs of places' parters, one column each, a column of its own for each place, what is held -/
structure First (m P n : Nat) (A : Nat → Row) : Prop where
  nP : n = P + m
  nn : ∀ p, p < m → ∀ c, 0 ≤ A p c
  own : ∀ p, p < m → ∀ q, q < m → A p (P + q) = if p = q then 1 else 0
  held : ∀ p, p < m → A p n = 1
  some : ∀ j, j < P → ∃ p, p < m ∧ 0 < A p j
  price : ∀ j, j < P → A m j = -1
  rest : ∀ c, P ≤ c → c ≤ n → A m c = 0
theorem sm_one {k r : Nat} {f : Nat → Int} (h : ∀ i, i < k → i ≠ r → f i = 0) (hr : r < k) : sm k f = f r := by
  have := sm_put (f := f) (r := r) (x := 0) hr
  rw [sm_zero fun i hi => ?_] at this
  · omega
  · by_cases c : i = r
    · rw [if_pos c]
    · rw [if_neg c]
      exact h i hi c
/-- a column that grows is bounded -/
theorem bounded (F : First m P n A) (v : Inv m n A S) (hs : s < n) : ∃ i, i < m ∧ 0 < S.L i s := by
  apply Classical.byContradiction
  intro z
  have z' : ∀ i, i < m → S.L i s ≤ 0 := fun i hi => by
    apply Classical.byContradiction
    intro y
    exact z ⟨i, hi, by omega⟩
  have key : ∀ p, p < m → A p s = 0 := fun p hp => by
    have h := v.fwd p (by omega) s
    rw [if_neg (by omega), Int.sub_zero] at h
    have h1 : 0 ≤ sm m fun i => -(A p (S.h i) * S.L i s) := sm_nn fun i hi => by
      have := Int.mul_nonpos_of_nonneg_of_nonpos (F.nn p hp (S.h i)) (z' i hi)
      omega
    have h2 : sm m (fun i => -(A p (S.h i) * S.L i s)) = -sm m (fun i => A p (S.h i) * S.L i s) := by
      have := sm_mul (k := m) (a := -1) (f := fun i => A p (S.h i) * S.L i s)
      rw [show (-1 : Int) * sm m (fun i => A p (S.h i) * S.L i s) = -sm m (fun i => A p (S.h i) * S.L i s) by omega] at this
      rw [← this]
      exact sm_congr fun i _ => by omega
    rw [h2, h] at h1
    have h3 := F.nn p hp s
    have h4 : ¬ 0 < A p s := fun c => by
      have := Int.mul_pos v.pos c
      omega
    omega
  by_cases c : s < P
  · obtain ⟨p, hp, h⟩ := F.some s c
    have := key p hp
    omega
  · have hn := F.nP
    have h1 := F.own (s - P) (by omega) (s - P) (by omega)
    rw [if_pos rfl, show P + (s - P) = s by omega, key (s - P) (by omega)] at h1
    omega
/-- where nothing grows: the shares of each two things' parters come to the bottom -/
theorem shares_come (w : Rel m P A S) (F : First m P n A) {j : Nat} (hj : j < P) (h : 0 ≤ S.L m j) : S.D ≤ sm m fun p => S.L m (P + p) * A p j := by
  have := w.row m (Nat.le_refl _) j
  rw [if_pos rfl, F.price j hj] at this
  omega
/-- shares and what is held: the sum of all shares stands in the corner -/
theorem shares_all (w : Rel m P A S) (F : First m P n A) : S.L m n = sm m fun p => S.L m (P + p) := by
  have hn := F.nP
  have := w.row m (Nat.le_refl _) n
  rw [if_pos rfl, F.rest n (by omega) (Nat.le_refl _), Int.mul_zero, Int.add_zero] at this
  rw [this]
  exact sm_congr fun p hp => by rw [F.held p hp, Int.mul_one]
/-- what a column holds: of no row, nought -/
def val (m n : Nat) (S : Bst) (c : Nat) : Int := sm m fun i => if S.h i = c then S.L i n else 0
/-- the prices that a place parts come to no more than the bottom -/
theorem prices_fit (v : Inv m n A S) (F : First m P n A) {p : Nat} (hp : p < m) : sm P (fun j => A p j * val m n S j) ≤ S.D := by
  have hn := F.nP
  have h := v.fwd p (by omega) n
  rw [if_neg (by omega), Int.sub_zero, F.held p hp, Int.mul_one] at h
  have e : sm P (fun j => A p j * val m n S j) = sm m fun i => if S.h i < P then A p (S.h i) * S.L i n else 0 := by
    have e1 : sm P (fun j => A p j * val m n S j) = sm P fun j => sm m fun i => if S.h i = j then A p j * S.L i n else 0 := sm_congr fun j _ => by
      unfold val
      rw [← sm_mul]
      exact sm_congr fun i _ => by split <;> simp
    rw [e1, sm_swap]
    refine sm_congr fun i hi => ?_
    by_cases c : S.h i < P
    · rw [if_pos c, sm_one (r := S.h i) (fun j _ hj => if_neg fun z => hj z.symm) c, if_pos rfl]
    · rw [if_neg c]
      exact sm_zero fun j hj => if_neg (by omega)
  rw [e, ← h]
  have d : 0 ≤ sm m (fun i => A p (S.h i) * S.L i n + -(if S.h i < P then A p (S.h i) * S.L i n else 0)) := sm_nn fun i hi => by
    have h1 := Int.mul_nonneg (F.nn p hp (S.h i)) (v.nn i hi)
    split <;> omega
  rw [sm_add] at d
  have e3 := sm_mul (k := m) (a := -1) (f := fun i => if S.h i < P then A p (S.h i) * S.L i n else 0)
  have e4 : sm m (fun i => -(if S.h i < P then A p (S.h i) * S.L i n else 0)) = sm m (fun i => -1 * (if S.h i < P then A p (S.h i) * S.L i n else 0)) := sm_congr fun i _ => by omega
  rw [e4, e3] at d
  omega
/-- all prices come to as much as all shares -/
theorem prices_all (v : Inv m n A S) (F : First m P n A) : sm P (val m n S) = S.L m n := by
  have hn := F.nP
  have h := v.fwd m (Nat.le_refl _) n
  rw [if_pos rfl, F.rest n (by omega) (Nat.le_refl _), Int.mul_zero] at h
  have e : sm P (val m n S) = sm m fun i => if S.h i < P then S.L i n else 0 := by
    show sm P (fun j => sm m fun i => if S.h i = j then S.L i n else 0) = _
    rw [sm_swap]
    refine sm_congr fun i hi => ?_
    by_cases c : S.h i < P
    · rw [if_pos c, sm_one (r := S.h i) (fun j _ hj => if_neg fun z => hj z.symm) c, if_pos rfl]
    · rw [if_neg c]
      exact sm_zero fun j hj => if_neg (by omega)
  rw [e]
  have e2 : sm m (fun i => A m (S.h i) * S.L i n) = sm m fun i => -1 * (if S.h i < P then S.L i n else 0) := sm_congr fun i hi => by
    by_cases c : S.h i < P
    · rw [if_pos c, F.price _ c]
    · rw [if_neg c, F.rest _ (by omega) (by have := v.rg i hi; omega), Int.zero_mul, Int.mul_zero]
  rw [e2, sm_mul] at h
  omega
/-- a board at its beginning -/
theorem first_inv (F : First m P n A) : Inv m n A ⟨1, fun i => P + i, A⟩ ∧ Rel m P A ⟨1, fun i => P + i, A⟩ := by
  have hn := F.nP
  refine ⟨⟨by show (0 : Int) < 1; decide, fun i hi => by show P + i < n; omega, fun i hi k hk => ?_, fun i hi => by show 0 ≤ A i n; rw [F.held i hi]; decide, MDet.minors_one, fun q hq c => ?_⟩, ⟨fun k hk c => ?_⟩⟩
  · show A k (P + i) = if k = i then 1 else 0
    by_cases c : k = m
    · rw [c, F.rest _ (by omega) (by omega), if_neg (by omega)]
    · exact F.own k (by omega) i hi
  · show sm m (fun i => A q (P + i) * A i c) = 1 * A q c - if q = m then A m c else 0
    by_cases cq : q = m
    · rw [if_pos cq, cq, sm_zero fun i hi => by rw [F.rest (P + i) (by omega) (by omega), Int.zero_mul]]
      omega
    · rw [if_neg cq, sm_one (r := q) (fun i hi hiq => by rw [F.own q (by omega) i hi, if_neg (fun z => hiq z.symm), Int.zero_mul]) (by omega), F.own q (by omega) q (by omega), if_pos rfl]
      omega
  · show A k c = sm m (fun p => A k (P + p) * A p c) + if k = m then 1 * A m c else 0
    by_cases ck : k = m
    · rw [if_pos ck, ck, sm_zero fun p hp => by rw [F.rest (P + p) (by omega) (by omega), Int.zero_mul]]
      omega
    · rw [if_neg ck, sm_one (r := k) (fun p hp hpk => by rw [F.own k (by omega) p hp, if_neg (fun z => hpk z.symm), Int.zero_mul]) (by omega), F.own k (by omega) k (by omega), if_pos rfl]
      omega
end
/-! ### how large the numbers of a board are -/
open MDet (det ratio det_diag det_bd fac pow_ne)
/-- all minors of these rows: by a power of the bottom those of the first board -/
def Rat (A : Nat → Row) (S : Bst) (is : List Nat) : Prop := ∀ cs, det (is.map S.L) cs = S.D ^ (is.length - 1) * det (is.map A) cs
theorem split_at {is : List Nat} {r : Nat} (nd : is.Nodup) (hr : r ∈ is) : ∃ A B, is = A ++ r :: B ∧ ∀ i ∈ A ++ B, i ≠ r := by
  obtain ⟨A, B, e⟩ := List.append_of_mem hr
  refine ⟨A, B, e, fun i hi z => ?_⟩
  subst z
  rw [e, List.nodup_append] at nd
  rcases List.mem_append.mp hi with c | c
  · exact nd.2.2 i c i List.mem_cons_self rfl
  · exact (List.nodup_cons.mp nd.2.1).1 c
theorem Rat.step {A : Nat → Row} {S T : Bst} {m n r s : Nat} {is : List Nat} (t : Turn m n S r s T) (h : Rat A S is) (hD : S.D ≠ 0) (nd : is.Nodup) (hr : r ∈ is) : Rat A T is := by
  intro cs
  obtain ⟨X, Y, e, hne⟩ := split_at nd hr
  have hl : is.length - 1 = (X ++ Y).length := by
    rw [e, List.length_append, List.length_append, List.length_cons]
    omega
  have q := ratio (cs := cs) (s := s) t.Lr t.Li hne
  rw [← e, h cs, hl] at q
  rw [hl, t.D]
  refine Int.eq_of_mul_eq_mul_left (pow_ne hD (X ++ Y).length) ?_
  rw [q, Int.mul_left_comm]
theorem entry {A : Nat → Row} {S : Bst} {is : List Nat} {r c : Nat} (hA : ∀ i ∈ is, ∀ c, (A i c).natAbs ≤ 1) (h : Rat A S is) (hD : S.D ≠ 0) (hm : Minors S.L S.D) (nd : is.Nodup) (hr : r ∈ is) (hb : ∀ i ∈ is, i ≠ r → ∀ k ∈ is, S.L k (S.h i) = if k = i then S.D else 0) : (S.L r c).natAbs ≤ fac is.length := by
  by_cases z : S.L r c = 0
  · rw [z]
    show 0 ≤ _
    omega
  · obtain ⟨X, Y, e, hne⟩ := split_at nd hr
    have hl : is.length = (X ++ Y).length + 1 := by
      rw [e, List.length_append, List.length_append, List.length_cons]
      omega
    let N : Nat → Row := fun k => if k = r then S.L r else fun c' => (S.L r c * S.L k c' - S.L k c * S.L r c') / S.D
    have Nr : N r = S.L r := if_pos rfl
    have Ni : ∀ k, k ≠ r → ∀ c', S.D * N k c' = S.L r c * S.L k c' - S.L k c * S.L r c' := fun k hk c' => by
      have : N k = fun c' => (S.L r c * S.L k c' - S.L k c * S.L r c') / S.D := if_neg hk
      rw [this]
      exact Int.mul_ediv_cancel' (minors_two hm k r c c')
    have q := ratio (cs := is.map fun i => if i = r then c else S.h i) (s := c) Nr Ni hne
    rw [← e, h] at q
    have dg : det (is.map N) (is.map fun i => if i = r then c else S.h i) = S.L r c ^ is.length := det_diag nd fun i hi k hk => by
      show N k (if i = r then c else S.h i) = if k = i then S.L r c else 0
      by_cases ci : i = r
      · subst ci
        rw [if_pos rfl]
        by_cases ck : k = i
        · rw [if_pos ck, ck, Nr]
        · rw [if_neg ck]
          refine Int.eq_of_mul_eq_mul_left hD ?_
          rw [Ni k ck, Int.mul_zero, Int.mul_comm]
          omega
      · rw [if_neg ci]
        by_cases ck : k = r
        · subst ck
          rw [Nr, hb i hi ci k hr, if_neg (fun y => ci y.symm), if_neg (fun y => ci y.symm)]
        · refine Int.eq_of_mul_eq_mul_left hD ?_
          rw [Ni k ck, hb i hi ci k hk, hb i hi ci r hr, if_neg (show ¬ r = i from fun y => ci y.symm), Int.mul_zero, Int.sub_zero]
          by_cases cki : k = i
          · rw [if_pos cki, if_pos cki, Int.mul_comm]
          · rw [if_neg cki, if_neg cki, Int.mul_zero, Int.mul_zero]
    rw [dg, show is.length - 1 = (X ++ Y).length by omega, hl, Int.pow_succ] at q
    have k1 : S.D ^ (X ++ Y).length * (S.L r c ^ (X ++ Y).length * S.L r c) = S.D ^ (X ++ Y).length * (S.L r c ^ (X ++ Y).length * det (is.map A) (is.map fun i => if i = r then c else S.h i)) := by
      rw [q, Int.mul_left_comm]
    have k2 := Int.eq_of_mul_eq_mul_left (pow_ne hD _) k1
    have k3 := Int.eq_of_mul_eq_mul_left (pow_ne z _) k2
    rw [k3]
    have := det_bd (rs := is.map A) (cs := is.map fun i => if i = r then c else S.h i) (by rw [List.length_map, List.length_map]) fun x hx => by
      obtain ⟨i, hi, rfl⟩ := List.mem_map.mp hx
      exact hA i hi
    rw [List.length_map] at this
    exact this
/-- all of a board -/
structure Ok (m P n : Nat) (A : Nat → Row) (S : Bst) : Prop where
  inv : Inv m n A S
  rel : Rel m P A S
  ra : Rat A S (List.range m)
  rb : Rat A S (List.range (m + 1))
theorem Ok.turn {m P n : Nat} {A : Nat → Row} {S T : Bst} {r s : Nat} (o : Ok m P n A S) (t : Turn m n S r s T) : Ok m P n A T := by
  have hD : S.D ≠ 0 := by have := o.inv.pos; omega
  have rm := t.rm
  exact ⟨t.inv o.inv, t.rel o.inv o.rel, o.ra.step t hD List.nodup_range (List.mem_range.mpr rm), o.rb.step t hD List.nodup_range (List.mem_range.mpr (by omega))⟩
theorem Ok.first {m P n : Nat} {A : Nat → Row} (F : First m P n A) : Ok m P n A ⟨1, fun i => P + i, A⟩ := by
  obtain ⟨h1, h2⟩ := first_inv F
  exact ⟨h1, h2, fun cs => by rw [Int.one_pow, Int.one_mul], fun cs => by rw [Int.one_pow, Int.one_mul]⟩
theorem Ok.small {m P n : Nat} {A : Nat → Row} {S : Bst} (o : Ok m P n A S) (hA : ∀ i, i ≤ m → ∀ c, (A i c).natAbs ≤ 1) {i : Nat} (hi : i ≤ m) (c : Nat) : (S.L i c).natAbs ≤ fac (m + 1) := by
  have hD : S.D ≠ 0 := by have := o.inv.pos; omega
  by_cases cm : i = m
  · have := entry (c := c) (r := i) (fun k hk c => hA k (by have := List.mem_range.mp hk; omega) c) o.rb hD o.inv.min List.nodup_range (List.mem_range.mpr (by omega)) fun j hj hne k hk => o.inv.bas j (by have := List.mem_range.mp hj; omega) k (by have := List.mem_range.mp hk; omega)
    rw [List.length_range] at this
    exact this
  · have := entry (c := c) (r := i) (fun k hk c => hA k (by have := List.mem_range.mp hk; omega) c) o.ra hD o.inv.min List.nodup_range (List.mem_range.mpr (by omega)) fun j hj hne k hk => o.inv.bas j (List.mem_range.mp hj) k (by have := List.mem_range.mp hk; omega)
    rw [List.length_range] at this
    have h2 : fac m ≤ fac (m + 1) := by
      show fac m ≤ (m + 1) * fac m
      rw [Nat.add_mul, Nat.one_mul]
      omega
    omega
end MSim
namespace G
open PySem L2 Z
theorem po_foldXP {β α ρ : Type} {f : β → α → R (Sum ρ (Bool × β))} {s : β} {xs : List α} {X : Exn → Prop} (I : List α → β → Prop) (P : ρ → Prop) (h0 : I [] s)
    (hf : ∀ pre s x post, xs = pre ++ x :: post → I pre s → Post (f s x) (fun r => (∃ z, r = .inl z ∧ P z) ∨ ∃ s', r = .inr (true, s') ∧ I (pre ++ [x]) s') X) : Post (foldX f s xs) (fun r => (∃ z, r = .inl z ∧ P z) ∨ ∃ s', r = .inr s' ∧ I xs s') X := by
  have key : ∀ (l pre : List α) (s : β), xs = pre ++ l → I pre s → Post (foldX f s l) (fun r => (∃ z, r = .inl z ∧ P z) ∨ ∃ s', r = .inr s' ∧ I xs s') X := by
    intro l
    induction l with
    | nil =>
      intro pre s e h
      rw [List.append_nil] at e
      rw [e]
      exact .inr ⟨s, rfl, h⟩
    | cons x l ih =>
      intro pre s e h
      refine po_bind (hf pre s x l e h) fun r hr => ?_
      rcases hr with ⟨z, rfl, hz⟩ | ⟨s', rfl, hs⟩
      · exact .inl ⟨z, rfl, hz⟩
      · exact ih (pre ++ [x]) s' (by rw [e, List.append_assoc]; rfl) hs
  exact key xs [] s rfl h0
/-! ### a board, as the program holds it -/
open MSim in
/-- the lists that a board is -/
def BdL (m n : Nat) (S : Bst) : List (List Int) := (rng 0 ((m : Int) + 1)).map fun i => (rng 0 ((n : Int) + 1)).map fun c => S.L i.toNat c.toNat
open MSim in
def BdH (m : Nat) (S : Bst) : List Int := (rng 0 (m : Int)).map fun i => ((S.h i.toNat : Nat) : Int)
section
open MSim
variable {m n P : Nat} {A : Nat → MDet.Row} {S T : Bst} {r s : Nat}
theorem bdl_get {i : Nat} (hi : i ≤ m) : getI (BdL m n S) (i : Int) = R.ok ((rng 0 ((n : Int) + 1)).map fun c => S.L i c.toNat) := getI_eq (by omega) (by
  have := map_rng_get (n := (m : Int) + 1) (F := fun i : Int => (rng 0 ((n : Int) + 1)).map fun c => S.L i.toNat c.toNat) (j := (i : Int)) (by omega) (by omega)
  exact this)
theorem bdl_last : getI (BdL m n S) (-1) = R.ok ((rng 0 ((n : Int) + 1)).map fun c => S.L m c.toNat) := by
  unfold BdL
  rw [rng_snoc (i := 0) (j := (m : Int)) (by omega), List.map_append]
  exact getI_last _
theorem row_at {i c : Nat} (hc : c ≤ n) : getI ((rng 0 ((n : Int) + 1)).map fun c => S.L i c.toNat) (c : Int) = R.ok (S.L i c) := getI_eq (by omega) (by
  have := map_rng_get (n := (n : Int) + 1) (F := fun c : Int => S.L i c.toNat) (j := (c : Int)) (by omega) (by omega)
  exact this)
theorem row_end {i : Nat} : getI ((rng 0 ((n : Int) + 1)).map fun c => S.L i c.toNat) (-1) = R.ok (S.L i n) := by
  rw [rng_snoc (i := 0) (j := (n : Int)) (by omega), List.map_append]
  exact getI_last _
theorem bdh_get {i : Nat} (hi : i < m) : getI (BdH m S) (i : Int) = R.ok ((S.h i : Nat) : Int) := getI_eq (by omega) (by
  have := map_rng_get (n := (m : Int)) (F := fun i : Int => ((S.h i.toNat : Nat) : Int)) (j := (i : Int)) (by omega) (by omega)
  exact this)
theorem row_len {i : Nat} : (((rng 0 ((n : Int) + 1)).map fun c => S.L i c.toNat).length : Int) = n + 1 := by
  rw [List.length_map, rng_length]
  omega
theorem bdh_len : ((BdH m S).length : Int) = m := by
  unfold BdH
  rw [List.length_map, rng_length]
  omega
theorem bdl_len : ((BdL m n S).length : Int) = m + 1 := by
  unfold BdL
  rw [List.length_map, rng_length]
  omega
/-- a board of the size met here -/
structure Fit (m P n : Nat) (A : Nat → MDet.Row) : Prop where
  F : First m P n A
  m1 : 1 ≤ m
  m7 : m ≤ 7
  P9 : P ≤ 900
  A1 : ∀ i, i ≤ m → ∀ c, (A i c).natAbs ≤ 1
theorem Fit.bd (f : Fit m P n A) (o : Ok m P n A S) {i : Nat} (hi : i ≤ m) (c : Nat) : -50000 < S.L i c ∧ S.L i c < 50000 := by
  have h := o.small f.A1 hi c
  have h2 : MDet.fac (m + 1) ≤ 40320 := by
    have := f.m7
    have h3 : m = 0 ∨ m = 1 ∨ m = 2 ∨ m = 3 ∨ m = 4 ∨ m = 5 ∨ m = 6 ∨ m = 7 := by omega
    rcases h3 with rfl | rfl | rfl | rfl | rfl | rfl | rfl | rfl <;> decide
  omega
theorem growing_ok (f : Fit m P n A) (o : Ok m P n A S) {a b : Int} : Post (Board_growing (a, b, BdH m S, BdL m n S, ())) (fun x => (x = none ∧ ∀ c, c < n → 0 ≤ S.L m c) ∨ ∃ s : Nat, x = some (s : Int) ∧ s < n ∧ S.L m s < 0 ∧ ∀ c, c < s → 0 ≤ S.L m c) noX := by
  have hn := f.F.nP
  have p9 := f.P9
  have m7 := f.m7
  unfold Board_growing
  show Post (getI (BdL m n S) (-1) >>= _) _ _
  rw [bdl_last, ok_bind, row_len]
  refine po_rng (by decide) (by decide) (by omega) (by omega) ?_
  refine po_bind (po_foldXP (fun pre _ => ∀ c, c < pre.length → 0 ≤ S.L m c) (fun x => ∃ s : Nat, x = some (s : Int) ∧ s < n ∧ S.L m s < 0 ∧ ∀ c, c < s → 0 ≤ S.L m c) (fun c hc => by cases hc) ?_) fun x hx => ?_
  · intro pre _ k post e hpre
    have ek := rng_pre e
    obtain ⟨_, k0, k1⟩ := rng_split e
    obtain ⟨j, rfl⟩ : ∃ j : Nat, k = j := ⟨k.toNat, by omega⟩
    have hj : pre.length = j := by omega
    rw [ok_bind, row_at (by omega), ok_bind]
    refine po_if (fun c => ?_) fun c => .inr ⟨(), rfl, fun q hq => ?_⟩
    · exact .inl ⟨_, rfl, j, rfl, by omega, of_decide_eq_true c, fun q hq => hpre q (by omega)⟩
    · rw [List.length_append, List.length_singleton] at hq
      have c' : ¬ S.L m j < 0 := fun z => c (decide_eq_true z)
      by_cases z : q = j
      · rw [z]; omega
      · exact hpre q (by omega)
  · rcases hx with ⟨z, rfl, hz⟩ | ⟨_, rfl, hall⟩
    · exact .inr hz
    · refine .inl ⟨rfl, fun c hc => hall c ?_⟩
      rw [rng_length]
      omega
theorem more_ok (f : Fit m P n A) (o : Ok m P n A S) {a b : Int} {i k c : Nat} (hi : i < m) (hk : k < m) (hc : c ≤ n) : Board_bounds_more (a, b, BdH m S, BdL m n S, ()) i k c = R.ok (decide (S.L i n * S.L k c < S.L k n * S.L i c ∨ (S.L i n * S.L k c = S.L k n * S.L i c ∧ S.h i < S.h k))) := by
  have b1 := f.bd o (i := i) (by omega) n
  have b2 := f.bd o (i := k) (by omega) n
  refine po_iff ?_
  unfold Board_bounds_more
  show Post (getI (BdL m n S) (i : Int) >>= _) _ _
  rw [bdl_get (by omega), ok_bind, row_end, ok_bind]
  show Post (getI (BdL m n S) (k : Int) >>= _) _ _
  rw [bdl_get (by omega), ok_bind, row_at hc, ok_bind]
  refine po_mul (.inl ⟨by omega, by omega⟩) ?_
  rw [ok_bind, row_end, ok_bind, ok_bind, row_at hc, ok_bind]
  refine po_mul (.inl ⟨by omega, by omega⟩) ?_
  by_cases q : S.L i n * S.L k c < S.L k n * S.L i c
  · rw [decide_eq_true q, if_pos rfl, decide_eq_true (.inl q)]
    rfl
  · rw [decide_eq_false q, if_neg (by decide)]
    by_cases q2 : S.L i n * S.L k c = S.L k n * S.L i c
    · rw [decide_eq_true q2, if_pos rfl]
      show Post (((getI (BdH m S) (i : Int) >>= fun t24 => getI (BdH m S) (k : Int) >>= fun t25 => R.ok (decide (t24 < t25))) >>= fun j22 => R.ok j22) >>= fun j19 => R.ok j19) _ _
      rw [bdh_get hi, ok_bind, bdh_get hk, ok_bind, ok_bind, ok_bind]
      show decide (((S.h i : Nat) : Int) < ((S.h k : Nat) : Int)) = _
      by_cases q3 : S.h i < S.h k
      · rw [decide_eq_true (show ((S.h i : Nat) : Int) < ((S.h k : Nat) : Int) by omega), decide_eq_true (.inr ⟨q2, q3⟩)]
      · rw [decide_eq_false (show ¬ ((S.h i : Nat) : Int) < ((S.h k : Nat) : Int) by omega), decide_eq_false (fun z => z.elim q fun y => q3 y.2)]
    · rw [decide_eq_false q2, if_neg (by decide)]
      show false = _
      rw [decide_eq_false (fun z => z.elim q fun y => q2 y.1)]
/-- what is chosen of the rows below k -/
def BestOk (m n : Nat) (S : Bst) (s k : Nat) : Option Int → Prop
  | none => ∀ i, i < k → S.L i s ≤ 0
  | some x => ∃ r : Nat, x = r ∧ r < k ∧ 0 < S.L r s ∧ ∀ i, i < k → 0 < S.L i s → S.L r n * S.L i s ≤ S.L i n * S.L r s ∧ (S.L r n * S.L i s = S.L i n * S.L r s → S.h r ≤ S.h i)
theorem bounding_ok (f : Fit m P n A) (o : Ok m P n A S) {a b : Int} {s : Nat} (hs : s < n) : Post (Board_bounding (a, b, BdH m S, BdL m n S, ()) s) (fun x => ∃ r : Nat, x = some (r : Int) ∧ r < m ∧ 0 < S.L r s ∧ ∀ i, i < m → 0 < S.L i s → S.L r n * S.L i s ≤ S.L i n * S.L r s ∧ (S.L r n * S.L i s = S.L i n * S.L r s → S.h r ≤ S.h i)) noX := by
  have m7 := f.m7
  unfold Board_bounding
  show Post (rngI 0 ((BdH m S).length : Int) >>= _) _ _
  rw [bdh_len]
  refine po_rng (by decide) (by decide) (by omega) (by omega) ?_
  refine po_bind (po_foldP (fun pre g => BestOk m n S s pre.length g) (fun i hi => by cases hi) ?_) fun g hg => ?_
  · intro pre g k post e hg
    have ek := rng_pre e
    obtain ⟨_, k0, k1⟩ := rng_split e
    obtain ⟨j, rfl⟩ : ∃ j : Nat, k = j := ⟨k.toNat, by omega⟩
    have hj : pre.length = j := by omega
    have hl : (pre ++ [(j : Int)]).length = j + 1 := by rw [List.length_append, List.length_singleton]; omega
    rw [hl]
    rw [hj] at hg
    show Post (getI (BdL m n S) (j : Int) >>= _) _ _
    rw [bdl_get (by omega), ok_bind, row_at (by omega), ok_bind]
    refine po_if (fun c => ?_) fun c => ?_
    · have cj : 0 < S.L j s := of_decide_eq_true c
      cases g with
      | none =>
        show BestOk m n S s (j + 1) (some (j : Int))
        refine ⟨j, rfl, by omega, cj, fun i hi hp => ?_⟩
        by_cases z : i = j
        · rw [z]
          exact ⟨Int.le_refl _, fun _ => Nat.le_refl _⟩
        · have := hg i (by omega)
          omega
      | some x =>
        obtain ⟨r, rfl, hr, rp, hall⟩ := hg
        show Post (((Board_bounds_more (a, b, BdH m S, BdL m n S, ()) (j : Int) (r : Int) (s : Int) >>= fun y21 => R.ok y21) >>= fun j13 => if j13 = true then R.ok (some (j : Int)) else R.ok (some (r : Int)))) _ _
        rw [more_ok f o (by omega) (by omega) (by omega), ok_bind, ok_bind]
        have nj := o.inv.nn j (by omega)
        have nr := o.inv.nn r (by omega)
        refine po_if (fun c2 => ?_) fun c2 => ?_
        · have c2' := of_decide_eq_true c2
          refine ⟨j, rfl, by omega, cj, fun i hi hp => ?_⟩
          by_cases z : i = j
          · rw [z]
            exact ⟨Int.le_refl _, fun _ => Nat.le_refl _⟩
          · obtain ⟨h1, h2⟩ := hall i (by omega) hp
            have le1 : S.L j n * S.L r s ≤ S.L r n * S.L j s := by rcases c2' with y | y <;> omega
            refine ⟨frac cj rp hp le1 h1, fun he => ?_⟩
            rcases c2' with y | ⟨y1, y2⟩
            · -- strictly less: no tie
              have k1 := Int.mul_lt_mul_of_pos_right y hp
              have k2 := Int.mul_le_mul_of_nonneg_right h1 (Int.le_of_lt cj)
              have e1 : S.L j n * S.L r s * S.L i s = S.L j n * S.L i s * S.L r s := by rw [Int.mul_assoc, Int.mul_comm (S.L r s), ← Int.mul_assoc]
              have e2 : S.L r n * S.L j s * S.L i s = S.L r n * S.L i s * S.L j s := by rw [Int.mul_assoc, Int.mul_comm (S.L j s), ← Int.mul_assoc]
              have e3 : S.L i n * S.L r s * S.L j s = S.L i n * S.L j s * S.L r s := by rw [Int.mul_assoc, Int.mul_comm (S.L r s), ← Int.mul_assoc]
              rw [he] at e1
              omega
            · have k2 : S.L r n * S.L i s = S.L i n * S.L r s := by
                refine Int.eq_of_mul_eq_mul_left (a := S.L j s) (by omega) ?_
                have e1 : S.L j s * (S.L r n * S.L i s) = S.L r n * S.L j s * S.L i s := by rw [Int.mul_left_comm, ← Int.mul_assoc]
                have e2 : S.L j s * (S.L i n * S.L r s) = S.L i n * S.L j s * S.L r s := by rw [Int.mul_left_comm, ← Int.mul_assoc]
                rw [e1, e2, ← y1, ← he, Int.mul_assoc, Int.mul_comm (S.L r s), ← Int.mul_assoc]
              have := h2 k2
              omega
        · have c3 : ¬ (S.L j n * S.L r s < S.L r n * S.L j s ∨ (S.L j n * S.L r s = S.L r n * S.L j s ∧ S.h j < S.h r)) := fun z => c2 (decide_eq_true z)
          refine ⟨r, rfl, by omega, rp, fun i hi hp => ?_⟩
          by_cases z : i = j
          · subst z
            refine ⟨?_, fun he => ?_⟩
            · apply Classical.byContradiction
              intro y
              exact c3 (.inl (by omega))
            · apply Classical.byContradiction
              intro y
              exact c3 (.inr ⟨he.symm, by omega⟩)
          · exact hall i (by omega) hp
    · have cj : ¬ 0 < S.L j s := fun z => c (decide_eq_true z)
      cases g with
      | none =>
        intro i hi
        by_cases z : i = j
        · rw [z]; omega
        · exact hg i (by omega)
      | some x =>
        obtain ⟨r, rfl, hr, rp, hall⟩ := hg
        refine ⟨r, rfl, by omega, rp, fun i hi hp => ?_⟩
        by_cases z : i = j
        · rw [z] at hp
          exact absurd hp cj
        · exact hall i (by omega) hp
  · rw [rng_length, show ((m : Int) - 0).toNat = m by omega] at hg
    cases g with
    | none =>
      obtain ⟨i, hi, hp⟩ := bounded f.F o.inv hs
      have := hg i hi
      omega
    | some x =>
      obtain ⟨r, rfl, h⟩ := hg
      exact ⟨r, rfl, h⟩
end
/-! ### a turn of a board, and all turns -/
section
open MSim
variable {m n P : Nat} {A : Nat → MDet.Row} {S T : Bst} {r s : Nat}
def turnT (S : Bst) (r s : Nat) : Bst := ⟨S.L r s, fun i => if i = r then s else S.h i, fun i => if i = r then S.L r else fun c => (S.L i c * S.L r s - S.L i s * S.L r c) / S.D⟩
theorem turn_is (o : Ok m P n A S) (hr : r < m) (hs : s < n) (up : 0 < S.L r s) (low : ∀ i, i < m → 0 < S.L i s → S.L r n * S.L i s ≤ S.L i n * S.L r s) : Turn m n S r s (turnT S r s) := by
  refine ⟨hr, hs, up, rfl, if_pos rfl, fun i hi => if_neg hi, if_pos rfl, fun i hi c => ?_, low⟩
  have e : (turnT S r s).L i = fun c => (S.L i c * S.L r s - S.L i s * S.L r c) / S.D := if_neg hi
  rw [e]
  dsimp only
  rw [Int.mul_comm (S.L i c)]
  exact Int.mul_ediv_cancel' (MDet.minors_two o.inv.min i r s c)
theorem Fit.dbd (f : Fit m P n A) (o : Ok m P n A S) : 0 < S.D ∧ S.D < 50000 := by
  have m1 := f.m1
  have h := o.inv.bas 0 (by omega) 0 (by omega)
  rw [if_pos rfl] at h
  have := f.bd o (i := 0) (by omega) (S.h 0)
  have := o.inv.pos
  omega
theorem turn_in_ok (f : Fit m P n A) (o : Ok m P n A S) {b : Int} (hr : r < m) (hs : s < n) : Post (Board_turn_in (S.D, b, BdH m S, BdL m n S, ()) r s) (fun y => y.2.1 = BdH m (turnT S r s) ∧ y.2.2.1 = BdL m n (turnT S r s) ∧ y.2.2.2 = (turnT S r s).D) noX := by
  have hn := f.F.nP
  have p9 := f.P9
  have m7 := f.m7
  have hd := f.dbd o
  unfold Board_turn_in
  show Post (getI (BdL m n S) (r : Int) >>= _) _ _
  rw [bdl_get (by omega), ok_bind, row_at (by omega), ok_bind, ok_bind]
  show Post (rngI 0 ((BdL m n S).length : Int) >>= _) _ _
  rw [bdl_len]
  refine po_rng (by decide) (by decide) (by omega) (by omega) ?_
  refine po_bind (po_foldP (fun pre (g : List (List Int)) => g = (rng 0 ((m : Int) + 1)).map fun i => if i < (pre.length : Int) then (rng 0 ((n : Int) + 1)).map fun c => (turnT S r s).L i.toNat c.toNat else (rng 0 ((n : Int) + 1)).map fun c => S.L i.toNat c.toNat) ?_ ?_) fun g hg => ?_
  · show BdL m n S = _
    unfold BdL
    refine List.map_congr_left fun i hi => ?_
    have := rng_mem.mp hi
    rw [if_neg (by show ¬ i < ((0 : Nat) : Int); omega)]
  · intro pre g k post e hg
    have ek := rng_pre e
    obtain ⟨_, k0, k1⟩ := rng_split e
    obtain ⟨j, rfl⟩ : ∃ j : Nat, k = j := ⟨k.toNat, by omega⟩
    have hj : pre.length = j := by omega
    have hl : ((pre ++ [(j : Int)]).length : Int) = j + 1 := by rw [List.length_append, List.length_singleton]; omega
    rw [hl]
    rw [hj] at hg
    -- the list with the row j turned
    have nxt : ∀ row : List Int, row = ((rng 0 ((n : Int) + 1)).map fun c => (turnT S r s).L j c.toNat) → ((rng 0 ((m : Int) + 1)).map fun i => if i = (j : Int) then row else if i < ((j : Nat) : Int) then (rng 0 ((n : Int) + 1)).map fun c => (turnT S r s).L i.toNat c.toNat else (rng 0 ((n : Int) + 1)).map fun c => S.L i.toNat c.toNat) = (rng 0 ((m : Int) + 1)).map fun i => if i < (j : Int) + 1 then (rng 0 ((n : Int) + 1)).map fun c => (turnT S r s).L i.toNat c.toNat else (rng 0 ((n : Int) + 1)).map fun c => S.L i.toNat c.toNat := fun row hrow => by
      refine List.map_congr_left fun i hi => ?_
      by_cases c1 : i = (j : Int)
      · rw [if_pos c1, if_pos (by omega), hrow, c1]
        rfl
      · rw [if_neg c1]
        by_cases c2 : i < (j : Int)
        · rw [if_pos c2, if_pos (by omega)]
        · rw [if_neg c2, if_neg (by omega)]
    refine po_if (fun c => ?_) fun c => ?_
    · have cj : j ≠ r := fun z => by
        have c' : (!decide ((j : Int) = (r : Int))) = true := c
        rw [z, decide_eq_true rfl] at c'
        cases c'
      have gj : getI g (j : Int) = R.ok ((rng 0 ((n : Int) + 1)).map fun c => S.L j c.toNat) := by
        rw [hg]
        refine getI_eq (by omega) ?_
        have := map_rng_get (n := (m : Int) + 1) (F := fun i : Int => if i < ((j : Nat) : Int) then (rng 0 ((n : Int) + 1)).map fun c => (turnT S r s).L i.toNat c.toNat else (rng 0 ((n : Int) + 1)).map fun c => S.L i.toNat c.toNat) (j := (j : Int)) (by omega) (by omega)
        rw [if_neg (by omega)] at this
        exact this
      rw [gj, ok_bind, row_len]
      refine po_rng (by decide) (by decide) (by omega) (by omega) ?_
      refine po_mapGE (g := fun c : Int => (turnT S r s).L j c.toNat) (by rw [rng_length]; omega) (fun c hc => ?_) ?_
      · obtain ⟨c0, c1⟩ := rng_mem.mp hc
        obtain ⟨q, rfl⟩ : ∃ q : Nat, c = q := ⟨c.toNat, by omega⟩
        have x1 := f.bd o (i := j) (by omega) q
        have x2 := f.bd o (i := j) (by omega) s
        refine po_iff ?_
        rw [row_at (by omega), ok_bind]
        refine po_mul (.inl ⟨by omega, by omega⟩) ?_
        rw [row_at (by omega), ok_bind, row_at (by omega), ok_bind]
        refine po_mul (.inl ⟨by omega, by omega⟩) (po_div hd.1 (by omega) ?_)
        show (S.L j q * S.L r s - S.L j s * S.L r q) / S.D = (turnT S r s).L j q
        have e : (turnT S r s).L j = fun c => (S.L j c * S.L r s - S.L j s * S.L r c) / S.D := if_neg cj
        rw [e]
      · have glen : g.length = m + 1 := by
          rw [hg, List.length_map, rng_length]
          omega
        refine po_set (by omega) (by omega) ?_
        show g.set ((j : Int)).toNat _ = _
        rw [hg, map_rng_set (by omega)]
        exact nxt _ rfl
    · have cj : j = r := by
        apply Classical.byContradiction
        intro z
        refine c ?_
        show (!decide ((j : Int) = (r : Int))) = true
        rw [decide_eq_false (by omega)]
        rfl
      show g = _
      rw [hg, ← nxt ((rng 0 ((n : Int) + 1)).map fun c => S.L j c.toNat) (by
        have e : (turnT S r s).L j = S.L r := if_pos cj
        rw [e, cj])]
      refine List.map_congr_left fun i hi => ?_
      by_cases c1 : i = (j : Int)
      · rw [if_pos c1, if_neg (by omega), c1]
        rfl
      · rw [if_neg c1]
  · show Post (setI (BdH m S) (r : Int) (s : Int) >>= _) _ _
    have hl := bdh_len (m := m) (S := S)
    refine po_set (by omega) (by omega) ⟨?_, ?_, rfl⟩
    · show (BdH m S).set ((r : Int)).toNat (s : Int) = BdH m (turnT S r s)
      unfold BdH
      rw [map_rng_set (by omega)]
      refine List.map_congr_left fun i hi => ?_
      have := rng_mem.mp hi
      by_cases c1 : i = (r : Int)
      · rw [if_pos c1]
        have e : (turnT S r s).h i.toNat = s := if_pos (by omega)
        rw [e]
      · rw [if_neg c1]
        have e : (turnT S r s).h i.toNat = S.h i.toNat := if_neg (by omega)
        rw [e]
    · rw [show g = _ from hg]
      show _ = BdL m n (turnT S r s)
      unfold BdL
      refine List.map_congr_left fun i hi => ?_
      have := rng_mem.mp hi
      rw [if_pos (by rw [rng_length]; omega)]
/-- a while, by the number of its turns -/
theorem po_whileN {γ : Type} {c : γ → R Bool} {b : γ → R γ} {Q : γ → Prop} {X : Exn → Prop} (I : Nat → γ → Prop) (hs : ∀ k g, I k g → Post (c g) (fun t => (t = true → Post (b g) (fun g' => I (k + 1) g') X) ∧ (t = false → Q g)) X) : ∀ {N : Nat} {k : Nat} {g : γ}, (∀ j g, I j g → j < k + N) → I k g → Post (whileR c b N g) Q X
  | 0, k, g, hN, hi => absurd (hN k g hi) (by omega)
  | N + 1, k, g, hN, hi => by
    refine po_bind (hs k g hi) fun t ⟨h1, h2⟩ => ?_
    cases t with
    | false => exact h2 rfl
    | true => exact po_bind (h1 rfl) fun g' hg' => po_whileN I hs (N := N) (k := k + 1) (fun j g h => by have := hN j g h; omega) hg'
/-- what the choice of a column tells -/
def GrowOk (m n : Nat) (S : Bst) : Option Int → Prop := fun x => (x = none ∧ ∀ c, c < n → 0 ≤ S.L m c) ∨ ∃ s : Nat, x = some (s : Int) ∧ s < n ∧ S.L m s < 0 ∧ ∀ c, c < s → 0 ≤ S.L m c
theorem solve_ok (f : Fit m P n A) {b : Int} : Post (Board_solve (1, b, BdH m ⟨1, fun i => P + i, A⟩, BdL m n ⟨1, fun i => P + i, A⟩, ())) (fun y => ∃ S, Ok m P n A S ∧ (∀ c, c < n → 0 ≤ S.L m c) ∧ y.2.1 = BdH m S ∧ y.2.2.1 = BdL m n S ∧ y.2.2.2 = S.D) noX := by
  have hn := f.F.nP
  have p9 := f.P9
  have m7 := f.m7
  have o0 := Ok.first f.F
  unfold Board_solve
  refine po_bind (growing_ok f o0 (a := 1) (b := b)) fun y9 hy9 => ?_
  refine po_bind (Q := fun (g : Int × (Option Int) × (List Int) × (List (List Int))) => ∃ S, Ok m P n A S ∧ (∀ c, c < n → 0 ≤ S.L m c) ∧ g = (S.D, none, BdH m S, BdL m n S)) ?_ fun g hg => ?_
  · refine po_whileN (k := 0) (fun k (g : Int × (Option Int) × (List Int) × (List (List Int))) => ∃ (Z : Nat → Bst) (r s : Nat → Nat), Run m n P A k Z r s ∧ Ok m P n A (Z k) ∧ g.1 = (Z k).D ∧ GrowOk m n (Z k) g.2.1 ∧ g.2.2.1 = BdH m (Z k) ∧ g.2.2.2 = BdL m n (Z k)) ?_ ?_ ?_
    · rintro k ⟨D, x, H, L⟩ ⟨Z, r, s, hR, ho, e1, hg, e2, e3⟩
      have e1' : D = (Z k).D := e1
      have e2' : H = BdH m (Z k) := e2
      have e3' : L = BdL m n (Z k) := e3
      subst e1' e2' e3'
      refine ⟨fun c => ?_, fun c => ?_⟩
      · rcases hg with ⟨z, _⟩ | ⟨s0, z, s1, s2, s3⟩
        · have z' : x = none := z
          subst z'
          exact absurd (show (!true) = true from c) (by decide)
        have z' : x = some (s0 : Int) := z
        subst z'
        show Post (ofO (some (s0 : Int)) >>= _) _ _
        rw [ofO_some, ok_bind]
        refine po_bind (bounding_ok f ho (a := (Z k).D) (b := b) s1) fun y19 hy => ?_
        obtain ⟨r0, rfl, r1, r2, r3⟩ := hy
        rw [ofO_some, ok_bind]
        refine po_bind (turn_in_ok f ho (b := b) r1 s1) fun y26 ⟨t1, t2, t3⟩ => ?_
        have ht := turn_is ho r1 s1 r2 fun i hi hp => (r3 i hi hp).1
        have ho2 := ho.turn ht
        show Post (Board_growing (y26.2.2.2, b, y26.2.1, y26.2.2.1, ()) >>= _) _ _
        rw [t1, t2, t3]
        refine po_bind (growing_ok f ho2 (a := (turnT (Z k) r0 s0).D) (b := b)) fun y31 hy31 => ?_
        refine ⟨fun i => if i ≤ k then Z i else turnT (Z k) r0 s0, fun i => if i < k then r i else r0, fun i => if i < k then s i else s0, ⟨?_, ?_, fun t ht2 => ?_, fun t ht2 => ?_⟩, ?_, ?_, ?_, ?_, ?_⟩
        · rw [if_pos (Nat.zero_le _)]
          exact hR.inv
        · rw [if_pos (Nat.zero_le _)]
          exact hR.rel
        · by_cases ct : t < k
          · rw [if_pos (show t ≤ k by omega), if_pos ct, if_pos ct, if_pos (show t + 1 ≤ k by omega)]
            exact hR.turn t ct
          · have : t = k := by omega
            subst this
            rw [if_pos (Nat.le_refl _), if_neg ct, if_neg ct, if_neg (show ¬ t + 1 ≤ t by omega)]
            exact ht
        · by_cases ct : t < k
          · rw [if_pos (show t ≤ k by omega), if_pos ct, if_pos ct]
            exact hR.bland t ct
          · have : t = k := by omega
            subst this
            rw [if_pos (Nat.le_refl _), if_neg ct, if_neg ct]
            exact ⟨s2, s3, fun i hi hp he => (r3 i hi hp).2 he⟩
        · show Ok m P n A (if k + 1 ≤ k then Z (k + 1) else turnT (Z k) r0 s0)
          rw [if_neg (show ¬ k + 1 ≤ k by omega)]
          exact ho2
        · show (turnT (Z k) r0 s0).D = (if k + 1 ≤ k then Z (k + 1) else turnT (Z k) r0 s0).D
          rw [if_neg (show ¬ k + 1 ≤ k by omega)]
        · show GrowOk m n (if k + 1 ≤ k then Z (k + 1) else turnT (Z k) r0 s0) y31
          rw [if_neg (show ¬ k + 1 ≤ k by omega)]
          exact hy31
        · show BdH m (turnT (Z k) r0 s0) = BdH m (if k + 1 ≤ k then Z (k + 1) else turnT (Z k) r0 s0)
          rw [if_neg (show ¬ k + 1 ≤ k by omega)]
        · show BdL m n (turnT (Z k) r0 s0) = BdL m n (if k + 1 ≤ k then Z (k + 1) else turnT (Z k) r0 s0)
          rw [if_neg (show ¬ k + 1 ≤ k by omega)]
      · rcases hg with ⟨z, h2⟩ | ⟨s0, z, _⟩
        · have z' : x = none := z
          subst z'
          exact ⟨Z k, ho, h2, rfl⟩
        · have z' : x = some (s0 : Int) := z
          subst z'
          exact absurd (show (!false) = false from c) (by decide)
    · rintro j g ⟨Z, r, s, hR, _⟩
      have h1 := hR.few
      have h2 : n ^ m ≤ 1000 ^ 7 := Nat.le_trans (Nat.pow_le_pow_left (show n ≤ 1000 by omega) m) (Nat.pow_le_pow_right (by decide) m7)
      have h3 : (1000 : Nat) ^ 7 < fu 1000000000000000000000000000000 := by
        unfold fu
        decide +kernel
      omega
    · exact ⟨fun _ => ⟨1, fun i => P + i, A⟩, fun _ => 0, fun _ => 0, ⟨o0.inv, o0.rel, (fun t h => absurd h (Nat.not_lt_zero t)), (fun t h => absurd h (Nat.not_lt_zero t))⟩, o0, rfl, hy9, rfl, rfl⟩
  · obtain ⟨S, h1, h2, rfl⟩ := hg
    exact ⟨S, h1, h2, rfl, rfl, rfl⟩
end
/-! ### a board of pairs -/
section
open MSim
variable {m : Nat}
abbrev PartT : Type := Nt (Thing × Thing × List Int × Unit)
def brdA (m : Nat) (ps : List PartT) : Nat → MDet.Row := fun p c =>
  if p < m then (if c < ps.length then b2i (inB (p : Int) (ps.map fun x => x.v.2.2.1)[c]!) else if c < ps.length + m then (if p = c - ps.length then 1 else 0) else 1)
  else if c < ps.length then -1 else 0
theorem rng_more {a b : Nat} : rng 0 (((a + b : Nat)) : Int) = rng 0 (a : Int) ++ (rng 0 (b : Int)).map fun i => (a : Int) + i := by
  induction b with
  | zero =>
    show rng 0 ((a : Nat) : Int) = _ ++ ([] : List Int).map _
    rw [List.map_nil, List.append_nil]
  | succ b ih =>
    rw [show (((a + (b + 1) : Nat)) : Int) = ((a + b : Nat) : Int) + 1 by omega, rng_snoc (by omega), ih, show (((b + 1 : Nat)) : Int) = (b : Int) + 1 by omega, rng_snoc (by omega), List.map_append, ← List.append_assoc]
    show _ ++ [(((a + b : Nat)) : Int)] = _ ++ [(a : Int) + (b : Int)]
    rw [show (((a + b : Nat)) : Int) = (a : Int) + (b : Int) by omega]
theorem b2i_bd (b : Bool) : (b2i b).natAbs ≤ 1 ∧ 0 ≤ b2i b := by cases b <;> decide
theorem brd_first {ps : List PartT} (m1 : 1 ≤ m) (hp : ∀ x ∈ ps, ∃ p : Nat, p < m ∧ (p : Int) ∈ x.v.2.2.1) : First m ps.length (ps.length + m) (brdA m ps) := by
  refine ⟨rfl, fun p hpm c => ?_, fun p hpm q hq => ?_, fun p hpm => ?_, fun j hj => ?_, fun j hj => ?_, fun c h1 h2 => ?_⟩
  · unfold brdA
    rw [if_pos hpm]
    split
    · exact (b2i_bd _).2
    · split
      · split <;> decide
      · decide
  · unfold brdA
    rw [if_pos hpm, if_neg (by omega), if_pos (by omega)]
    by_cases c : p = q
    · rw [if_pos (by omega), if_pos c]
    · rw [if_neg (by omega), if_neg c]
  · unfold brdA
    rw [if_pos hpm, if_neg (by omega), if_neg (by omega)]
  · obtain ⟨p, hpm, h⟩ := hp ps[j] (List.getElem_mem hj)
    refine ⟨p, hpm, ?_⟩
    unfold brdA
    rw [if_pos hpm, if_pos hj]
    have e : (ps.map fun x => x.v.2.2.1)[j]! = ps[j].v.2.2.1 := by
      rw [getElem!_pos _ _ (by rw [List.length_map]; exact hj), List.getElem_map]
    rw [e, inB_t.mpr h]
    decide
  · unfold brdA
    rw [if_neg (by omega), if_pos hj]
  · unfold brdA
    rw [if_neg (by omega), if_neg (by omega)]
theorem brd_fit {ps : List PartT} (m1 : 1 ≤ m) (m7 : m ≤ 7) (h9 : ps.length ≤ 900) (hp : ∀ x ∈ ps, ∃ p : Nat, p < m ∧ (p : Int) ∈ x.v.2.2.1) : Fit m ps.length (ps.length + m) (brdA m ps) := by
  refine ⟨brd_first m1 hp, m1, m7, h9, fun i _ c => ?_⟩
  unfold brdA
  split
  · split
    · exact (b2i_bd _).1
    · split
      · split <;> decide
      · decide
  · split <;> decide
theorem brd_row {ps : List PartT} {p : Nat} (hpm : p < m) : (ps.map (fun b => b2i (inB (p : Int) b.v.2.2.1)) ++ (rng 0 (m : Int)).map (fun b => b2i (decide ((p : Int) = b)))) ++ [(1 : Int)] = (rng 0 (((ps.length + m : Nat) : Int) + 1)).map fun c => brdA m ps p c.toNat := by
  rw [rng_snoc (by omega), rng_more, List.map_append, List.map_append, List.map_map]
  have e1 : ps.map (fun b => b2i (inB (p : Int) b.v.2.2.1)) = (rng 0 (ps.length : Int)).map fun c => brdA m ps p c.toNat := by
    apply List.ext_getElem?
    intro i
    by_cases c : i < ps.length
    · rw [List.getElem?_map, List.getElem?_map, rng_atE (by omega), List.getElem?_eq_getElem c]
      show some _ = some (brdA m ps p ((0 : Int) + (i : Int)).toNat)
      rw [show ((0 : Int) + (i : Int)).toNat = i by omega]
      unfold brdA
      rw [if_pos hpm, if_pos c, getElem!_pos _ _ (by rw [List.length_map]; exact c), List.getElem_map]
    · rw [List.getElem?_eq_none (by rw [List.length_map]; omega), List.getElem?_eq_none (by rw [List.length_map, rng_length]; omega)]
  have e2 : (rng 0 (m : Int)).map (fun b => b2i (decide ((p : Int) = b))) = (rng 0 (m : Int)).map ((fun c : Int => brdA m ps p c.toNat) ∘ fun i => (ps.length : Int) + i) := List.map_congr_left fun b hb => by
    have := rng_mem.mp hb
    show _ = brdA m ps p ((ps.length : Int) + b).toNat
    unfold brdA
    rw [if_pos hpm, if_neg (by omega), if_pos (by omega)]
    by_cases c : (p : Int) = b
    · rw [decide_eq_true c, if_pos (by omega)]
      rfl
    · rw [decide_eq_false c, if_neg (by omega)]
      rfl
  have e3 : [((ps.length + m : Nat) : Int)].map (fun c => brdA m ps p c.toNat) = [1] := by
    show [brdA m ps p (((ps.length + m : Nat) : Int)).toNat] = [1]
    rw [show (((ps.length + m : Nat) : Int)).toNat = ps.length + m by omega]
    unfold brdA
    rw [if_pos hpm, if_neg (by omega), if_neg (by omega)]
  rw [e1, e2, e3]
theorem repL_int {α : Type} (x : α) (k : Int) : repL [x] k = List.replicate k.toNat x := by
  unfold repL
  generalize k.toNat = j
  induction j with
  | zero => rfl
  | succ j ih =>
    rw [List.replicate_succ, List.flatten_cons, ih]
    rfl
theorem brd_last {ps : List PartT} : repL [(-1 : Int)] (ps.length : Int) ++ repL [(0 : Int)] ((m : Int) + 1) = (rng 0 (((ps.length + m : Nat) : Int) + 1)).map fun c => brdA m ps m c.toNat := by
  rw [show (((ps.length + m : Nat) : Int) + 1) = ((ps.length + (m + 1) : Nat) : Int) by omega, rng_more, List.map_append, List.map_map]
  have r1 : ∀ (x : Int) (k : Nat) (f : Int → Int), (∀ i, 0 ≤ i → i < k → f i = x) → repL [x] (k : Int) = (rng 0 (k : Int)).map f := fun x k f hf => by
    rw [repL_int]
    apply List.ext_getElem?
    intro i
    by_cases c : i < k
    · rw [List.getElem?_map, rng_atE (by omega), List.getElem?_replicate, if_pos (by omega)]
      show some x = some (f ((0 : Int) + (i : Int)))
      rw [Int.zero_add, hf i (by omega) (by omega)]
    · rw [List.getElem?_eq_none (by rw [List.length_replicate]; omega), List.getElem?_eq_none (by rw [List.length_map, rng_length]; omega)]
  rw [r1 (-1) ps.length (fun c => brdA m ps m c.toNat) fun i h0 h1 => by
    unfold brdA
    rw [if_neg (by omega), if_pos (by omega)], show ((m : Int) + 1) = ((m + 1 : Nat) : Int) by omega, r1 0 (m + 1) ((fun c : Int => brdA m ps m c.toNat) ∘ fun i => (ps.length : Int) + i) fun i h0 h1 => by
    show brdA m ps m ((ps.length : Int) + i).toNat = 0
    unfold brdA
    rw [if_neg (by omega), if_neg (by omega)]]
theorem init_ok {ps : List PartT} (m1 : 1 ≤ m) (m7 : m ≤ 7) (h9 : ps.length ≤ 900) : Board_init (m : Int) ps = R.ok (1, (ps.length : Int), BdH m ⟨1, fun i => ps.length + i, brdA m ps⟩, BdL m (ps.length + m) ⟨1, fun i => ps.length + i, brdA m ps⟩, ()) := by
  refine po_iff ?_
  unfold Board_init
  refine po_rng (by decide) (by decide) (by omega) (by omega) ?_
  refine po_mapGE (g := fun b => (ps.length : Int) + b) (by rw [rng_length]; omega) (fun _ _ => rfl) ?_
  refine po_rng (by decide) (by decide) (by omega) (by omega) ?_
  refine po_bind (po_foldP (fun pre (g : List (List Int)) => g = pre.map fun i => (rng 0 (((ps.length + m : Nat) : Int) + 1)).map fun c => brdA m ps i.toNat c.toNat) rfl ?_) fun g hg => ?_
  · intro pre g k post e hg
    obtain ⟨_, k0, k1⟩ := rng_split e
    obtain ⟨p, rfl⟩ : ∃ p : Nat, k = p := ⟨k.toNat, by omega⟩
    have hpl : pre.length < 7 := by
      have := rng_pre e
      omega
    refine po_mapGE (g := fun b : PartT => b2i (inB (p : Int) b.v.2.2.1)) (by omega) (fun _ _ => rfl) ?_
    refine po_rng (by decide) (by decide) (by omega) (by omega) ?_
    refine po_mapGE (g := fun b => b2i (decide ((p : Int) = b))) (by rw [rng_length]; omega) (fun _ _ => rfl) ?_
    refine po_extend (by rw [List.length_map, List.length_map, rng_length]; omega) ?_
    refine po_extend (by rw [List.length_append, List.length_map, List.length_map, rng_length]; show _ + 1 < _; omega) ?_
    rw [brd_row (by omega)]
    refine po_app (by rw [hg, List.length_map]; omega) ?_
    show g ++ _ = _
    rw [hg, List.map_append]
    rfl
  · refine po_rep (by omega) (by omega) (by show 1 < 100; decide) ?_
    refine po_rep (by omega) (by omega) (by show 1 < 100; decide) ?_
    refine po_extend (by rw [repL_int, repL_int, List.length_replicate, List.length_replicate]; omega) ?_
    rw [brd_last]
    have hg' : g = (rng 0 (m : Int)).map fun i => (rng 0 (((ps.length + m : Nat) : Int) + 1)).map fun c => brdA m ps i.toNat c.toNat := hg
    refine po_app (by rw [hg', List.length_map, rng_length]; omega) ?_
    show ((1 : Int), (ps.length : Int), (rng 0 (m : Int)).map (fun b => (ps.length : Int) + b), g ++ [(rng 0 (((ps.length + m : Nat) : Int) + 1)).map fun c => brdA m ps m c.toNat], ()) = _
    have a1 : (rng 0 (m : Int)).map (fun b => (ps.length : Int) + b) = BdH m ⟨1, fun i => ps.length + i, brdA m ps⟩ := by
      unfold BdH
      refine List.map_congr_left fun b hb => ?_
      have := rng_mem.mp hb
      show (ps.length : Int) + b = ((ps.length + b.toNat : Nat) : Int)
      omega
    have a2 : g ++ [(rng 0 (((ps.length + m : Nat) : Int) + 1)).map fun c => brdA m ps m c.toNat] = BdL m (ps.length + m) ⟨1, fun i => ps.length + i, brdA m ps⟩ := by
      unfold BdL
      rw [rng_snoc (i := 0) (j := (m : Int)) (by omega), List.map_append, hg']
      rfl
    rw [a1, a2]
end
theorem enum_at {α : Type} {C : List α} {pre post : List (Int × α)} {b : Int × α} (h : enum C = pre ++ b :: post) : b.1 = (pre.length : Int) ∧ C[pre.length]? = some b.2 := by
  have h1 : (enum C)[pre.length]? = some b := by
    rw [h, List.getElem?_append_right (Nat.le_refl _), Nat.sub_self]
    rfl
  unfold enum at h1
  obtain ⟨h2, h3⟩ := List.getElem?_zip_eq_some.mp h1
  refine ⟨?_, h3⟩
  have hl := (List.getElem?_eq_some_iff.mp h3).1
  rw [rng_atE (by omega)] at h2
  have := Option.some.inj h2
  omega
/-! ### what is told of a board -/
section
open MSim
variable {m n P : Nat} {A : Nat → MDet.Row} {S : Bst}
theorem enum_at_bd {pre post : List (Int × Int)} {x : Int × Int} (e : enum (BdH m S) = pre ++ x :: post) : x.1 = (pre.length : Int) ∧ x.2 = ((S.h pre.length : Nat) : Int) ∧ pre.length < m := by
  have h := enum_at e
  have hl : pre.length < m := by
    have := (List.getElem?_eq_some_iff.mp h.2).1
    have h8 := bdh_len (m := m) (S := S)
    omega
  refine ⟨h.1, ?_, hl⟩
  have h2 := h.2
  unfold BdH at h2
  rw [List.getElem?_map, rng_atE (by omega)] at h2
  have := Option.some.inj h2
  rw [← this]
  show ((S.h _ : Nat) : Int) = _
  congr 2
  omega
theorem prices_now_ok (f : Fit m P n A) (o : Ok m P n A S) : Board_prices_now (S.D, (P : Int), BdH m S, BdL m n S, ()) = R.ok ((rng 0 (P : Int)).map fun j => val m n S j.toNat) := by
  have hn := f.F.nP
  have p9 := f.P9
  have m7 := f.m7
  refine po_iff ?_
  unfold Board_prices_now
  show Post (repR [(0 : Int)] (P : Int) >>= _) _ _
  refine po_rep (by omega) (by omega) (by show 1 < 100; decide) ?_
  refine po_bind (po_foldP (fun pre (g : List Int) => g = (rng 0 (P : Int)).map fun j => sm pre.length fun i => if S.h i = j.toNat then S.L i n else 0) ?_ ?_) fun g hg => ?_
  · show repL [(0 : Int)] (P : Int) = _
    rw [repL_int]
    apply List.ext_getElem?
    intro i
    by_cases c : i < P
    · rw [List.getElem?_map, rng_atE (by omega), List.getElem?_replicate, if_pos (by omega)]
      rfl
    · rw [List.getElem?_eq_none (by rw [List.length_replicate]; omega), List.getElem?_eq_none (by rw [List.length_map, rng_length]; omega)]
  · intro pre g x post e hg
    obtain ⟨hx1, hx2, hpl⟩ : x.1 = (pre.length : Int) ∧ x.2 = ((S.h pre.length : Nat) : Int) ∧ pre.length < m := enum_at_bd e
    have hl : (pre ++ [x]).length = pre.length + 1 := by rw [List.length_append, List.length_singleton]
    rw [hl, hx1, hx2]
    have step : ∀ j : Int, (sm (pre.length + 1) fun i => if S.h i = j.toNat then S.L i n else 0) = (sm pre.length fun i => if S.h i = j.toNat then S.L i n else 0) + (if S.h pre.length = j.toNat then S.L pre.length n else 0) := fun _ => rfl
    refine po_if (fun c => ?_) fun c => ?_
    · have c' : ((S.h pre.length : Nat) : Int) < (P : Int) := of_decide_eq_true c
      show Post (getI (BdL m n S) ((pre.length : Nat) : Int) >>= _) _ _
      rw [bdl_get (by omega), ok_bind, row_end, ok_bind]
      refine po_set (by omega) (by rw [hg, List.length_map, rng_length]; omega) ?_
      show g.set (((S.h pre.length : Nat) : Int)).toNat _ = _
      rw [hg, map_rng_set (by omega)]
      refine List.map_congr_left fun j hj => ?_
      have := rng_mem.mp hj
      rw [step]
      by_cases cj : j = ((S.h pre.length : Nat) : Int)
      · rw [if_pos cj, if_pos (by omega), sm_zero fun i hi => if_neg fun z => ?_]
        · omega
        · have := o.inv.inj (i := i) (k := pre.length) (by omega) hpl (by omega)
          omega
      · rw [if_neg cj, if_neg (by omega), Int.add_zero]
    · have c' : ¬ ((S.h pre.length : Nat) : Int) < (P : Int) := fun z => c (decide_eq_true z)
      show g = _
      rw [hg]
      refine List.map_congr_left fun j hj => ?_
      have := rng_mem.mp hj
      rw [step, if_neg (by omega), Int.add_zero]
  · show g = _
    rw [hg]
    have hl : (enum (BdH m S)).length = m := by
      have := bdh_len (m := m) (S := S)
      rw [enum_length]
      omega
    rw [hl]
    rfl
theorem log2_half {a b : Nat} (hb : 0 < b) (h : 2 * b ≤ a) : b.log2 < a.log2 := by
  have h1 : 2 ^ b.log2 ≤ b := Nat.log2_self_le (by omega)
  have h2 : 2 ^ (b.log2 + 1) ≤ a := by
    rw [Nat.pow_succ]
    omega
  exact (Nat.le_log2 (by omega)).mpr h2
def muG (s : Int × Int) : Nat := if s.2 = 0 then 0 else 1 + (2 * (s.1.toNat * s.2.toNat).log2 + if s.1 < s.2 then 1 else 0)
theorem common_ok {a b : Int} (ha : 0 < a) (hb : 0 ≤ b) (a9 : a < 1000000) (b9 : b < 1000000) : Post (common_part a b) (fun g => 0 < g ∧ g ∣ a ∧ g ∣ b) noX := by
  unfold common_part
  refine po_bind (Q := fun (g : Int × Int) => 0 < g.1 ∧ g.1 ∣ a ∧ g.1 ∣ b) ?_ fun g hg => hg
  refine po_while (fun s => 0 < s.1 ∧ 0 ≤ s.2 ∧ ∀ d : Int, d ∣ s.1 → d ∣ s.2 → d ∣ a ∧ d ∣ b) muG (fun s ⟨h1, h2, h3⟩ => ?_) ⟨ha, hb, fun d h1 h2 => ⟨h1, h2⟩⟩ ?_
  · refine ⟨fun c => ?_, fun c => ?_⟩
    · have c' : s.2 ≠ 0 := fun z => by
        rw [z] at c
        cases c
      show Post (modI s.1 s.2 >>= _) _ _
      rw [modI_ok (by omega), ok_bind]
      have r1 := Int.emod_nonneg s.1 c'
      have r2 := Int.emod_lt_of_pos s.1 (show 0 < s.2 by omega)
      refine ⟨⟨show 0 < s.2 by omega, r1, fun d d1 d2 => h3 d ?_ d1⟩, ?_⟩
      · have := Int.emod_add_mul_ediv s.1 s.2
        rw [← this]
        exact Int.dvd_add d2 (Int.dvd_trans d1 (Int.dvd_mul_right _ _))
      · show (if s.1 % s.2 = 0 then 0 else 1 + (2 * (s.2.toNat * (s.1 % s.2).toNat).log2 + if s.2 < s.1 % s.2 then 1 else 0)) < (if s.2 = 0 then 0 else 1 + (2 * (s.1.toNat * s.2.toNat).log2 + if s.1 < s.2 then 1 else 0))
        rw [if_neg c', if_neg (show ¬ s.2 < s.1 % s.2 by omega)]
        by_cases z : s.1 % s.2 = 0
        · rw [if_pos z]
          omega
        · rw [if_neg z]
          by_cases k : s.1 < s.2
          · rw [if_pos k, Int.emod_eq_of_lt (by omega) k, Nat.mul_comm s.2.toNat]
            omega
          · rw [if_neg k]
            have e1 := Int.emod_add_mul_ediv s.1 s.2
            have q1 : 1 ≤ s.1 / s.2 := by
              have := Int.ediv_le_ediv (show 0 < s.2 by omega) (show s.2 ≤ s.1 by omega)
              rwa [Int.ediv_self c'] at this
            have q2 : s.2 * 1 ≤ s.2 * (s.1 / s.2) := Int.mul_le_mul_of_nonneg_left q1 (by omega)
            have e2 : 2 * (s.1 % s.2).toNat ≤ s.1.toNat := by omega
            have e3 : 2 * (s.2.toNat * (s.1 % s.2).toNat) ≤ s.1.toNat * s.2.toNat := by
              rw [Nat.mul_comm s.1.toNat, Nat.mul_left_comm]
              exact Nat.mul_le_mul_left _ e2
            have := log2_half (Nat.mul_pos (show 0 < s.2.toNat by omega) (show 0 < (s.1 % s.2).toNat by omega)) e3
            omega
    · have c' : s.2 = 0 := by
        have := c
        rw [Bool.not_eq_false'] at this
        exact of_decide_eq_true this
      have := h3 s.1 (Int.dvd_refl _) (by rw [c']; exact Int.dvd_zero _)
      exact ⟨h1, this⟩
  · have h1 : (a.toNat * b.toNat) < 2 ^ 40 := by
      have := Nat.mul_le_mul (show a.toNat ≤ 1000000 by omega) (show b.toNat ≤ 1000000 by omega)
      omega
    have h2 : (a.toNat * b.toNat).log2 ≤ 40 := by
      by_cases z : a.toNat * b.toNat = 0
      · rw [z]
        decide
      · have := (Nat.log2_lt z).mpr h1
        omega
    show (if b = 0 then 0 else 1 + (2 * (a.toNat * b.toNat).log2 + if a < b then 1 else 0)) < _
    have : 1000 ≤ fu 1000 := by rw [fu_eq]; decide
    split
    · omega
    · split <;> omega
end
/-! ### the least pairs -/
abbrev DP : Type := List ((Tup Int) × PartT)
/-- no key of the dict lies strictly within this one -/
def lesserL (d : DP) (p : (Tup Int) × PartT) : List (Tup Int) := (d.map (·.1)).filter fun b => (decide ((b.l.length : Int) < (p.1.l.length : Int))) && (b.l.all fun v => inB v p.1.l)
theorem msetd_mem {d : DP} {k : Tup Int} {v : PartT} {q : (Tup Int) × PartT} (h : q ∈ msetd d k v) : q ∈ d ∨ q = (k, v) := by
  unfold msetd at h
  split at h
  · exact .inl h
  · rename_i c
    rw [mput_new (by cases e : mhas d k with | true => exact absurd e c | false => rfl)] at h
    rcases List.mem_append.mp h with h | h
    · exact .inl h
    · exact .inr (List.mem_singleton.mp h)
theorem msetd_has {d : DP} {k : Tup Int} {v : PartT} : (∃ q ∈ msetd d k v, q.1 = k) ∧ (∀ q ∈ d, q ∈ msetd d k v) ∧ (msetd d k v).length ≤ d.length + 1 := by
  unfold msetd
  split
  · rename_i c
    exact ⟨mhas_iff.mp c, fun q hq => hq, by omega⟩
  · rename_i c
    rw [mput_new (by cases e : mhas d k with | true => exact absurd e c | false => rfl)]
    exact ⟨⟨(k, v), by simp, rfl⟩, fun q hq => List.mem_append_left _ hq, by rw [List.length_append]; exact Nat.le_refl _⟩
theorem msetd_nd {d : DP} {k : Tup Int} {v : PartT} (h : d.Pairwise fun a b => a.1 ≠ b.1) : (msetd d k v).Pairwise fun a b => a.1 ≠ b.1 := by
  unfold msetd
  split
  · exact h
  · rename_i c
    rw [mput_new (by cases e : mhas d k with | true => exact absurd e c | false => rfl)]
    refine List.pairwise_append.mpr ⟨h, List.pairwise_singleton _ _, fun a ha b hb e => c ?_⟩
    rw [List.mem_singleton.mp hb] at e
    exact mhas_iff.mpr ⟨a, ha, e⟩
theorem least_ok {ps : List PartT} (hl : ps.length ≤ 900) (hp : ∀ p ∈ ps, p.v.2.2.1.length ≤ 60) : ∃ ls, least_parted ps = R.ok ls ∧ (∀ p ∈ ls, p ∈ ps) ∧ (∀ q ∈ ps, ∃ p ∈ ls, ∀ v ∈ p.v.2.2.1, v ∈ q.v.2.2.1) ∧ ls.length ≤ 900 ∧ ls.Pairwise (fun a b => a.v.2.2.1 ≠ b.v.2.2.1) := by
  refine po_ex ?_
  unfold least_parted
  refine po_bind (Q := fun d => (∀ q ∈ d, q.2 ∈ ps ∧ q.1 = Tup.mk q.2.v.2.2.1) ∧ (∀ p ∈ ps, ∃ q ∈ d, q.1 = Tup.mk p.v.2.2.1) ∧ d.length ≤ 900 ∧ d.Pairwise fun a b => a.1 ≠ b.1) (Post.mono (po_foldP (fun pre (d : DP) => (∀ q ∈ d, q.2 ∈ ps ∧ q.1 = Tup.mk q.2.v.2.2.1) ∧ (∀ p ∈ pre, ∃ q ∈ d, q.1 = Tup.mk p.v.2.2.1) ∧ d.length ≤ pre.length ∧ d.Pairwise fun a b => a.1 ≠ b.1) ⟨fun _ z => (nomatch z), fun _ z => (nomatch z), Nat.le_refl _, List.Pairwise.nil⟩ ?_) (fun r hr => ⟨hr.1, hr.2.1, by have := hr.2.2.1; omega, hr.2.2.2⟩) fun _ z => z) fun d ⟨d1, d2, d3, d4⟩ => ?_
  · intro pre d x post e ⟨h1, h2, h3, h4⟩
    have hpre : pre.length + 1 ≤ 900 := by
      have := congrArg List.length e
      rw [List.length_append, List.length_cons] at this
      omega
    have hx : x ∈ ps := by rw [e]; simp
    obtain ⟨m1, m2, m3⟩ := msetd_has (d := d) (k := Tup.mk x.v.2.2.1) (v := x)
    refine po_msetd (by omega) ⟨fun q hq => ?_, fun p hpm => ?_, ?_, msetd_nd h4⟩
    · rcases msetd_mem hq with hq | rfl
      · exact h1 q hq
      · exact ⟨hx, rfl⟩
    · rcases List.mem_append.mp hpm with hpm | hpm
      · obtain ⟨q, hq, eq⟩ := h2 p hpm
        exact ⟨q, m2 q hq, eq⟩
      · rw [List.mem_singleton.mp hpm]
        exact m1
    · show (msetd d _ x).length ≤ _
      rw [List.length_append, List.length_singleton]
      omega
  · refine po_bind (Q := fun g => g = (d.filter fun p => (lesserL d p).isEmpty).map (·.2)) (Post.mono (po_foldP (fun pre g => g = (pre.filter fun p => (lesserL d p).isEmpty).map (·.2)) rfl ?_) (fun _ z => z) fun _ z => z) fun g hg => ?_
    · intro pre g x post e hg
      have hgl : g.length ≤ 900 := by
        rw [hg, List.length_map]
        refine Nat.le_trans (List.length_filter_le _ _) ?_
        have := congrArg List.length e
        rw [List.length_append] at this
        omega
      refine po_bind (Q := fun l => l = lesserL d x) (po_eq (a := lesserL d x) ?_ rfl) fun l hl => ?_
      · rw [filG_ok (g := fun b => if ((decide ((b.l.length : Int) < (x.1.l.length : Int))) && (b.l.all fun v => inB v x.1.l)) = true then some b else none) (by rw [List.length_map]; omega) fun b hb => ?_]
        · rw [fil_ite]
          rfl
        · obtain ⟨q, hq, rfl⟩ := List.mem_map.mp hb
          have hql : q.1.l.length ≤ 60 := by
            obtain ⟨z1, z2⟩ := d1 q hq
            rw [z2]
            exact hp _ z1
          by_cases c : decide ((q.1.l.length : Int) < (x.1.l.length : Int)) = true
          · rw [if_pos c, c, mapG_ok (g := fun v => inB v x.1.l) (by omega) fun v _ => rfl, ok_bind, List.all_map]
            show (if (q.1.l.all fun v => inB v x.1.l) = true then R.ok (some q.1) else R.ok none) = R.ok (if (true && q.1.l.all fun v => inB v x.1.l) = true then some q.1 else none)
            rw [Bool.true_and]
            split <;> rfl
          · have c' : decide ((q.1.l.length : Int) < (x.1.l.length : Int)) = false := by
              cases e : decide ((q.1.l.length : Int) < (x.1.l.length : Int)) with
              | true => exact absurd e c
              | false => rfl
            rw [if_neg c, c']
            rfl
      · subst hl
        rw [List.filter_append, List.map_append, ← hg]
        refine po_if (fun c => po_app (by omega) ?_) fun c => ?_
        · have e1 : lesserL d x = [] := of_decide_eq_true c
          show g ++ [x.2] = _
          rw [List.filter_cons, if_pos (by rw [e1]; rfl)]
          rfl
        · have e1 : ¬ (lesserL d x).isEmpty = true := fun z => c (decide_eq_true (List.isEmpty_iff.mp z))
          show g = _
          rw [List.filter_cons, if_neg e1]
          simp
    · refine po_ok ⟨fun p hpm => ?_, fun q hq => ?_, ?_, ?_⟩
      · rw [hg] at hpm
        obtain ⟨z, hz, rfl⟩ := List.mem_map.mp hpm
        exact (d1 z (List.mem_filter.mp hz).1).1
      · -- a key within, as short as can be
        obtain ⟨q0, hq0, eq0⟩ := d2 q hq
        have key : ∀ (N : Nat) (z : (Tup Int) × PartT), z ∈ d → z.1.l.length ≤ N → (∀ v ∈ z.1.l, v ∈ q.v.2.2.1) → ∃ y ∈ d, (lesserL d y).isEmpty = true ∧ ∀ v ∈ y.1.l, v ∈ q.v.2.2.1 := by
          intro N
          induction N with
          | zero =>
            intro z hz hN hs
            refine ⟨z, hz, ?_, hs⟩
            rw [List.isEmpty_iff]
            refine List.filter_eq_nil_iff.mpr fun b hb => ?_
            rw [decide_eq_false (by omega)]
            simp
          | succ N ih =>
            intro z hz hN hs
            by_cases c : (lesserL d z).isEmpty = true
            · exact ⟨z, hz, c, hs⟩
            · have hne : lesserL d z ≠ [] := fun e => c (by rw [e]; rfl)
              obtain ⟨b, hb⟩ := List.exists_mem_of_ne_nil _ hne
              obtain ⟨hb1, hb2⟩ := List.mem_filter.mp hb
              obtain ⟨y, hy, rfl⟩ := List.mem_map.mp hb1
              rw [Bool.and_eq_true] at hb2
              have hlt := of_decide_eq_true hb2.1
              refine ih y hy (by omega) fun v hv => hs v ?_
              exact inB_t.mp (List.all_eq_true.mp hb2.2 v hv)
        obtain ⟨y, hy, hy1, hy2⟩ := key _ q0 hq0 (Nat.le_refl _) (by rw [eq0]; exact fun v hv => hv)
        refine ⟨y.2, ?_, fun v hv => hy2 v ?_⟩
        · rw [hg]
          exact List.mem_map.mpr ⟨y, List.mem_filter.mpr ⟨hy, hy1⟩, rfl⟩
        · rw [(d1 y hy).2]
          exact hv
      · show g.length ≤ 900
        rw [hg, List.length_map]
        exact Nat.le_trans (List.length_filter_le _ _) d3
      · rw [hg]
        refine List.pairwise_map.mpr (List.Pairwise.imp_of_mem ?_ (d4.sublist List.filter_sublist))
        intro a b ha hb hne e
        refine hne ?_
        rw [(d1 a (List.mem_filter.mp ha).1).2, (d1 b (List.mem_filter.mp hb).1).2, e]
end G
namespace G
open PySem L2 Z
theorem place_ok {n p : Int} {t : Tup (Int × Int)} (p0 : 0 ≤ p) (p1 : p < n) : place_asked (n, t) p = R.ok () := by
  unfold place_asked
  dsimp only
  rw [decide_eq_true p0, decide_eq_true p1]
  rfl
/-- how far each place is from one -/
noncomputable def farL (n : Int) (ts : List (Int × Int)) (p : Int) : List Int := (rng 0 n).map (dst n ts p)
theorem allS_map {α : Type} (l : List α) : allS (l.map some) = R.ok l := allS_iff.mpr rfl
theorem fars_ok {n p : Int} {ts : List (Int × Int)} (h : WebOk n ts) (p0 : 0 ≤ p) (p1 : p < n) : fars_from (n, ⟨ts⟩) p = R.ok (farL n ts p) := by
  unfold fars_from
  rw [place_ok p0 p1, ok_bind, web_near h, ok_bind, web_fars h p0 p1, ok_bind]
  have e : (rng 0 n).map (fun v => some (dst n ts p v)) = ((rng 0 n).map (dst n ts p)).map some := by rw [List.map_map]; rfl
  rw [e, allS_map]
  rfl
/-- how far all places are from all -/
noncomputable def tabL (n : Int) (ts : List (Int × Int)) : List (List Int) := (rng 0 n).map fun p => (rng 0 n).map (dst n ts p)
theorem tab_get {n p : Int} {ts : List (Int × Int)} (p0 : 0 ≤ p) (p1 : p < n) : getI (tabL n ts) p = R.ok ((rng 0 n).map (dst n ts p)) := getI_eq p0 (map_rng_get p0 p1)
theorem row_get {n p v : Int} {ts : List (Int × Int)} (v0 : 0 ≤ v) (v1 : v < n) : getI ((rng 0 n).map (dst n ts p)) v = R.ok (dst n ts p v) := getI_eq v0 (map_rng_get v0 v1)
theorem table_ok {n : Int} {ts : List (Int × Int)} (h : WebOk n ts) : table_of (n, ⟨ts⟩) = R.ok (tabL n ts) := by
  have hn1 := h.n1
  have hn := h.n60
  refine po_iff ?_
  unfold table_of
  refine po_rng (by decide) (by decide) (by show -(2 ^ 62) ≤ n; omega) (by show n < 2 ^ 62; omega) ?_
  refine po_mapGE (g := fun p => (rng 0 n).map (dst n ts p)) (by show (rng 0 n).length < 100000; rw [rng_length]; omega) (fun p hp => ?_) rfl
  rw [fars_ok h (rng_mem.mp hp).1 (rng_mem.mp hp).2]
  rfl
/-- how far a thing is -/
noncomputable def farT (n : Int) (ts : List (Int × Int)) (p : Int) : Thing → Int
  | .pl i => dst n ts p i
  | .ti a b => min2 (dst n ts p a) (dst n ts p b)
def ThOk (n : Int) (ts : List (Int × Int)) : Thing → Prop
  | .pl i => 0 ≤ i ∧ i < n
  | .ti a b => (a, b) ∈ ts
def allT (n : Int) (ts : List (Int × Int)) : List Thing := mkpl (rng 0 n) ++ mkti ts
def kindT (n : Int) (ts : List (Int × Int)) (k : Str) : List Thing := if decide (k = "places") = true then mkpl (rng 0 n) else if decide (k = "ties") = true then mkti ts else allT n ts
theorem pl_mem {n : Int} {t : Thing} : t ∈ mkpl (rng 0 n) ↔ ∃ i, t = .pl i ∧ 0 ≤ i ∧ i < n := by
  unfold mkpl
  rw [List.mem_map]
  constructor
  · rintro ⟨i, hi, rfl⟩
    exact ⟨i, rfl, rng_mem.mp hi⟩
  · rintro ⟨i, rfl, hi⟩
    exact ⟨i, rng_mem.mpr hi, rfl⟩
theorem ti_mem {ts : List (Int × Int)} {t : Thing} : t ∈ mkti ts ↔ ∃ a b, t = .ti a b ∧ (a, b) ∈ ts := by
  unfold mkti
  rw [List.mem_map]
  constructor
  · rintro ⟨p, hp, rfl⟩
    exact ⟨p.1, p.2, rfl, hp⟩
  · rintro ⟨a, b, rfl, h⟩
    exact ⟨(a, b), h, rfl⟩
theorem allT_mem {n : Int} {ts : List (Int × Int)} {t : Thing} : t ∈ allT n ts ↔ ThOk n ts t := by
  unfold allT
  rw [List.mem_append, pl_mem, ti_mem]
  cases t with
  | pl i =>
    constructor
    · rintro (⟨j, e, h⟩ | ⟨a, b, e, _⟩)
      · cases e; exact h
      · cases e
    · intro h
      exact .inl ⟨i, rfl, h⟩
  | ti a b =>
    constructor
    · rintro (⟨j, e, h⟩ | ⟨c, d, e, h⟩)
      · cases e
      · cases e; exact h
    · intro h
      exact .inr ⟨a, b, rfl, h⟩
theorem kindT_ok {n : Int} {ts : List (Int × Int)} {k : Str} {t : Thing} (h : t ∈ kindT n ts k) : ThOk n ts t := by
  unfold kindT at h
  split at h
  · exact allT_mem.mp (List.mem_append_left _ h)
  · split at h
    · exact allT_mem.mp (List.mem_append_right _ h)
    · exact allT_mem.mp h
theorem allT_len {n : Int} {ts : List (Int × Int)} (n0 : 0 ≤ n) : ((allT n ts).length : Int) = n + ts.length := by
  unfold allT mkpl mkti
  rw [List.length_append, List.length_map, List.length_map, rng_length]
  omega
/-- two lists, item by item -/
inductive PW2 {α β : Type} (r : α → β → Prop) : List α → List β → Prop
  | nil : PW2 r [] []
  | cons {a : α} {b : β} {as : List α} {bs : List β} : r a b → PW2 r as bs → PW2 r (a :: as) (b :: bs)
theorem PW2.length {α β : Type} {r : α → β → Prop} {as : List α} {bs : List β} (h : PW2 r as bs) : as.length = bs.length := by
  induction h with
  | nil => rfl
  | cons _ _ ih => rw [List.length_cons, List.length_cons, ih]
theorem things_ok {n : Int} {ts : List (Int × Int)} {k : Str} (h : WebOk n ts) : things_of (n, ⟨ts⟩) k = R.ok (kindT n ts k) := by
  have hn1 := h.n1
  have hn := h.n60
  have hl := h.len
  refine po_iff ?_
  unfold things_of kindT
  refine po_listRng (by decide) (by decide) (by show -(2 ^ 62) ≤ n; omega) (by show n < 2 ^ 62; omega) (by show (n - 0).toNat ≤ 100000; omega) ?_
  by_cases e1 : decide (k = "places") = true
  · rw [if_pos e1, if_pos e1]; rfl
  · rw [if_neg e1, if_neg e1]
    by_cases e2 : decide (k = "ties") = true
    · rw [if_pos e2, if_pos e2]; rfl
    · rw [if_neg e2, if_neg e2]
      refine po_extend ?_ rfl
      show (mkpl (rng 0 n)).length + (mkti ts).length < 100000
      unfold mkpl mkti
      rw [List.length_map, List.length_map, rng_length]
      omega
theorem far_by_ok {n p : Int} {ts : List (Int × Int)} {t : Thing} (h : WebOk n ts) (p0 : 0 ≤ p) (p1 : p < n) (ht : ThOk n ts t) : far_by (tabL n ts) p t = R.ok (farT n ts p t) := by
  unfold far_by
  cases t with
  | pl i =>
    show (asPl (.pl i) >>= _) = _
    rw [show asPl (.pl i) = R.ok i from rfl, ok_bind, tab_get p0 p1, ok_bind, row_get ht.1 ht.2]
    rfl
  | ti a b =>
    have hr := h.rg4 _ (show (a, b) ∈ ts from ht)
    show (asTi (.ti a b) >>= _) = _
    rw [show asTi (.ti a b) = R.ok (a, b) from rfl, ok_bind, tab_get p0 p1, ok_bind, row_get hr.1 hr.2.1, ok_bind, ok_bind, row_get hr.2.2.1 hr.2.2.2]
    rfl
theorem thing_ok {n : Int} {ts : List (Int × Int)} {t : Thing} (ht : ThOk n ts t) : thing_asked (n, ⟨ts⟩) t = R.ok () := by
  unfold thing_asked
  cases t with
  | pl i =>
    show (asPl (.pl i) >>= _) = _
    rw [show asPl (.pl i) = R.ok i from rfl, ok_bind, decide_eq_true ht.1, decide_eq_true (show i < (n, (⟨ts⟩ : Tup (Int × Int))).1 from ht.2)]
    rfl
  | ti a b =>
    show (asTi (.ti a b) >>= _) = _
    rw [show asTi (.ti a b) = R.ok (a, b) from rfl, ok_bind, inB_t.mpr (show (a, b) ∈ (n, (⟨ts⟩ : Tup (Int × Int))).2.l from ht)]
    rfl
/-- a rising list of places -/
structure LooksOk (n : Int) (ls : List Int) : Prop where
  rg : ∀ l ∈ ls, 0 ≤ l ∧ l < n
  up : ls.Pairwise (· < ·)
theorem LooksOk.len {n : Int} {ls : List Int} (h : LooksOk n ls) : ls.length ≤ n.toNat := by
  have := nodup_le (h.up.imp fun z => Int.ne_of_lt z) (ys := rng 0 n) fun v hv => rng_mem.mpr (h.rg v hv)
  rw [rng_length] at this
  omega
theorem looks_ok {n : Int} {t : Tup (Int × Int)} {ls : List Int} (h : LooksOk n ls) : looks_asked (n, t) ls = R.ok () := by
  refine po_iff ?_
  unfold looks_asked
  refine po_bind (po_fold (fun _ => True) trivial fun s x _ hx => ?_) fun _ _ => rfl
  obtain ⟨x0, x1, ex⟩ := enum_mem hx
  have hm := List.mem_of_getElem? ex
  have hr := h.rg _ hm
  refine po_bind (Q := fun j => j = false) (po_if (fun c => ?_) fun _ => ?_) fun j hj => ?_
  · rw [decide_eq_true hr.1, decide_eq_true (show x.2 < (n, t).1 from hr.2)] at c
    exact absurd c (by decide)
  · refine po_bind (Q := fun j => j = false) (po_if (fun c => ?_) fun _ => rfl) fun j hj => hj
    have c' := of_decide_eq_true c
    refine po_get (by omega) (by omega) fun y _ ey => ?_
    refine decide_eq_false ?_
    obtain ⟨i1, e1⟩ := List.getElem?_eq_some_iff.mp ey
    obtain ⟨i2, e2⟩ := List.getElem?_eq_some_iff.mp ex
    have := List.pairwise_iff_getElem.mp h.up _ _ i1 i2 (by omega)
    rw [e1, e2] at this
    omega
  · rw [hj]
    exact trivial
theorem code_ok {n : Int} {ts : List (Int × Int)} {ls : List Int} {t : Thing} (h : WebOk n ts) (hl : LooksOk n ls) (ht : ThOk n ts t) : code_of (n, ⟨ts⟩) ls t = R.ok (ls.map fun l => farT n ts l t) := by
  have := hl.len
  have hn := h.n60
  unfold code_of
  rw [looks_ok hl, ok_bind, thing_ok ht, ok_bind, table_ok h, ok_bind]
  rw [mapG_ok (g := fun l => farT n ts l t) (by omega) fun l hm => by
    rw [far_by_ok h (hl.rg l hm).1 (hl.rg l hm).2 ht]
    rfl]
  rfl
/-! things, parters, pairs (laws k35 on) -/
theorem ties_few {n : Int} {ts : List (Int × Int)} (h : WebOk n ts) : (ts.length : Int) ≤ n * n := by
  have n1 := h.n1
  have h1 : (ts.map fun p => p.1 * n + p.2).Nodup := by
    refine List.pairwise_map.mpr (h.nd.imp_of_mem ?_)
    intro a b ha hb hne e
    have ra := h.rg a ha
    have rb := h.rg b hb
    have e1 : a.1 = b.1 := by
      have q1 : (a.2 + a.1 * n) / n = a.1 := by
        rw [Int.add_mul_ediv_right _ _ (by omega), Int.ediv_eq_zero_of_lt (by omega) (by omega), Int.zero_add]
      have q2 : (b.2 + b.1 * n) / n = b.1 := by
        rw [Int.add_mul_ediv_right _ _ (by omega), Int.ediv_eq_zero_of_lt (by omega) (by omega), Int.zero_add]
      rw [← q1, ← q2, Int.add_comm a.2, Int.add_comm b.2, e]
    have e2 : a.2 = b.2 := by rw [e1] at e; omega
    exact hne (Prod.ext e1 e2)
  have h2 := nodup_le h1 (ys := rng 0 (n * n)) fun x hx => by
    obtain ⟨p, hp, rfl⟩ := List.mem_map.mp hx
    have := h.rg p hp
    have m1 : p.1 * n ≤ (n - 1) * n := Int.mul_le_mul_of_nonneg_right (by omega) (by omega)
    have m0 : 0 ≤ p.1 * n := Int.mul_nonneg (by omega) (by omega)
    rw [Int.sub_mul] at m1
    exact rng_mem.mpr ⟨by omega, by omega⟩
  have nn : 0 ≤ n * n := Int.mul_nonneg (by omega) (by omega)
  rw [List.length_map, rng_length] at h2
  omega
theorem kind_few {n : Int} {ts : List (Int × Int)} {k : Str} (h : WebOk n ts) (h12 : n ≤ 12) : (kindT n ts k).length ≤ 156 := by
  have n1 := h.n1
  have hl := ties_few h
  have hm : n * n ≤ 12 * 12 := Int.mul_le_mul h12 h12 (by omega) (by omega)
  have : (kindT n ts k).length ≤ (allT n ts).length := by
    unfold kindT allT
    rw [List.length_append]
    split
    · omega
    · split
      · omega
      · rw [List.length_append]; omega
  have := allT_len (ts := ts) (show 0 ≤ n by omega)
  omega
/-- the places that part two things -/
noncomputable def partL (n : Int) (ts : List (Int × Int)) (a b : Thing) : List Int := (rng 0 n).filter fun p => !decide (farT n ts p a = farT n ts p b)
theorem partL_len {n : Int} {ts : List (Int × Int)} {a b : Thing} : (partL n ts a b).length ≤ n.toNat := by
  have := List.length_filter_le (fun p => !decide (farT n ts p a = farT n ts p b)) (rng 0 n)
  rw [rng_length] at this
  unfold partL
  omega
theorem partL_mem {n : Int} {ts : List (Int × Int)} {a b : Thing} {p : Int} : p ∈ partL n ts a b ↔ (0 ≤ p ∧ p < n) ∧ farT n ts p a ≠ farT n ts p b := by
  unfold partL
  rw [List.mem_filter, rng_mem]
  simp
abbrev Part : Type := Nt (Thing × Thing × (List Int) × Unit)
noncomputable def mkP (n : Int) (ts : List (Int × Int)) (a b : Thing) : Part := Nt.mk (a, b, partL n ts a b, ())
/-- each two things, the one ahead of the other, with their parters -/
noncomputable def pairsT (n : Int) (ts : List (Int × Int)) (T : List Thing) (is : List Int) : List Part := is.flatMap fun i => (T.drop (i + 1).toNat).map (mkP n ts (T.getD i.toNat (.pl 0)))
theorem pairsT_len {n : Int} {ts : List (Int × Int)} {T : List Thing} (is : List Int) : (pairsT n ts T is).length ≤ is.length * T.length := by
  unfold pairsT
  induction is with
  | nil => exact Nat.zero_le _
  | cons i is ih =>
    rw [List.flatMap_cons, List.length_append, List.length_map, List.length_drop, List.length_cons, Nat.succ_mul]
    omega
theorem pairsT_mem {n : Int} {ts : List (Int × Int)} {T : List Thing} {x : Part} (h : x ∈ pairsT n ts T (rng 0 T.length)) : x.v.1 ∈ T ∧ x.v.2.1 ∈ T ∧ x.v.2.2.1 = partL n ts x.v.1 x.v.2.1 := by
  unfold pairsT at h
  obtain ⟨i, hi, hx⟩ := List.mem_flatMap.mp h
  obtain ⟨i0, i1⟩ := rng_mem.mp hi
  obtain ⟨b, hb, rfl⟩ := List.mem_map.mp hx
  refine ⟨?_, List.mem_of_mem_drop hb, rfl⟩
  show T.getD i.toNat (.pl 0) ∈ T
  rw [List.getD_eq_getElem?_getD, List.getElem?_eq_getElem (show i.toNat < T.length by omega)]
  exact List.getElem_mem _
noncomputable def partedL (n : Int) (ts : List (Int × Int)) (k : Str) : List Part := pairsT n ts (kindT n ts k) (rng 0 (kindT n ts k).length)
/-! ### the pairs of a web, by the codes of all looks -/
theorem rng_looks {n : Int} : LooksOk n (rng 0 n) := ⟨fun l hl => rng_mem.mp hl, List.pairwise_iff_getElem.mpr fun i j hi hj hij => by
  have h1 : (rng 0 n)[i]? = some (rng 0 n)[i] := List.getElem?_eq_getElem hi
  have h2 : (rng 0 n)[j]? = some (rng 0 n)[j] := List.getElem?_eq_getElem hj
  rw [rng_length] at hi hj
  rw [rng_atE (by omega)] at h1 h2
  have := Option.some.inj h1
  have := Option.some.inj h2
  omega⟩
theorem get_code {n p : Int} {ts : List (Int × Int)} {t : Thing} (p0 : 0 ≤ p) (p1 : p < n) : getI ((rng 0 n).map fun l => farT n ts l t) p = R.ok (farT n ts p t) := getI_eq p0 (by
  rw [List.getElem?_map, rng_atE (by omega)]
  show some (farT n ts _ t) = _
  congr 2
  omega)
theorem parted_pairs_ok {n : Int} {ts : List (Int × Int)} {k : Str} (h : WebOk n ts) (h12 : n ≤ 12) : parted_pairs (n, ⟨ts⟩) k = R.ok (partedL n ts k) := by
  have hkl := kind_few (k := k) h h12
  have n1 := h.n1
  refine po_iff ?_
  unfold parted_pairs
  rw [things_ok h, ok_bind]
  unfold partedL
  have hTo : ∀ t ∈ kindT n ts k, ThOk n ts t := fun t ht => kindT_ok ht
  generalize hT : kindT n ts k = T at hkl hTo ⊢
  refine po_mapGE (g := fun t => (rng 0 n).map fun l => farT n ts l t) (by omega) (fun t ht => ?_) ?_
  · refine po_iff ?_
    refine po_listRng (by decide) (by decide) (by show -(2 ^ 62) ≤ n; omega) (by show n < 2 ^ 62; omega) (by show (n - 0).toNat ≤ 100000; omega) ?_
    rw [code_ok h rng_looks (hTo t ht), ok_bind]
    rfl
  · have hc : ∀ {i : Int} {a : Thing}, 0 ≤ i → T[i.toNat]? = some a → getI (T.map fun t => (rng 0 n).map fun l => farT n ts l t) i = R.ok ((rng 0 n).map fun l => farT n ts l a) := fun {i a} i0 e => getI_eq i0 (by rw [List.getElem?_map, e]; rfl)
    refine po_bind (Q := fun g => g = pairsT n ts T ((enum T).map (·.1))) (Post.mono (po_foldP (fun pre g => g = pairsT n ts T (pre.map (·.1))) rfl ?_) (fun _ z => z) fun _ z => z) fun g hg => ?_
    · intro pre g x post e hg
      obtain ⟨x0, x1, ex⟩ := enum_mem (b := x) (xs := T) (by rw [e]; simp)
      have hpl : (pre.map (·.1)).length ≤ 156 := by
        have := congrArg List.length e
        rw [enum_length, List.length_append] at this
        rw [List.length_map]
        omega
      have hgl : g.length ≤ 24336 := by
        have h1 := pairsT_len (n := n) (ts := ts) (T := T) (pre.map (·.1))
        have h2 : (pre.map (·.1)).length * T.length ≤ 156 * 156 := Nat.mul_le_mul hpl hkl
        rw [hg]
        omega
      have hD : T.getD x.1.toNat (.pl 0) = x.2 := by
        rw [List.getD_eq_getElem?_getD, ex]
        rfl
      refine po_rng (by omega) (by omega) (by omega) (by omega) ?_
      refine po_bind (Q := fun g' => g' = g ++ (rng (x.1 + 1) T.length).map fun b => mkP n ts x.2 (T.getD b.toNat (.pl 0))) (Post.mono (po_foldP (fun pre' g' => g' = g ++ pre'.map fun b => mkP n ts x.2 (T.getD b.toNat (.pl 0))) (by rw [List.map_nil, List.append_nil]) ?_) (fun _ z => z) fun _ z => z) fun g' hg' => ?_
      · intro pre' g' b post' e' hg'
        have hb := rng_mem.mp (show b ∈ rng (x.1 + 1) (T.length : Int) by rw [e']; simp)
        have hb2 : T[b.toNat]? = some (T.getD b.toNat (.pl 0)) := by
          rw [List.getD_eq_getElem?_getD, List.getElem?_eq_getElem (show b.toNat < T.length by omega)]; rfl
        have hpl' : pre'.length ≤ 156 := by
          have := congrArg List.length e'
          rw [rng_length, List.length_append] at this
          omega
        refine po_rng (by decide) (by decide) (by show -(2 ^ 62) ≤ n; omega) (by show n < 2 ^ 62; omega) ?_
        have hf := filG_ok (xs := rng 0 n) (f := fun (b26 : Int) => (do
              let t28 ← getI (T.map fun t => (rng 0 n).map fun l => farT n ts l t) x.1
              let t30 ← getI t28 b26
              let t31 ← getI (T.map fun t => (rng 0 n).map fun l => farT n ts l t) b
              let t33 ← getI t31 b26
              if (!decide (t30 = t33)) = true then do
                R.ok (some b26)
              else
                R.ok none : R (Option Int))) (g := fun p => if (!decide (farT n ts p x.2 = farT n ts p (T.getD b.toNat (.pl 0)))) = true then some p else none) (by rw [rng_length]; omega) fun p hp => by
          have hp := rng_mem.mp hp
          rw [hc x0 ex, ok_bind, get_code hp.1 hp.2, ok_bind, hc (by omega) hb2, ok_bind, get_code hp.1 hp.2, ok_bind]
          split <;> rfl
        rw [hf, fil_ite, ok_bind]
        rw [getI_eq (by omega) hb2, ok_bind]
        refine po_app (by rw [hg', List.length_append, List.length_map]; omega) ?_
        show g' ++ [_] = _
        rw [hg', List.map_append, List.append_assoc]
        rfl
      · show g' = _
        rw [hg', List.map_append]
        unfold pairsT
        rw [List.flatMap_append, List.map_singleton, List.flatMap_singleton, hD, hg]
        congr 1
        apply List.ext_getElem?
        intro i
        rw [List.getElem?_map, List.getElem?_map, List.getElem?_drop]
        by_cases c : (x.1 + 1).toNat + i < T.length
        · rw [rng_atE (by omega), List.getElem?_eq_getElem c]
          show some (mkP n ts x.2 (T.getD (x.1 + 1 + (i : Int)).toNat (.pl 0))) = some _
          rw [List.getD_eq_getElem?_getD, show (x.1 + 1 + (i : Int)).toNat = (x.1 + 1).toNat + i by omega, List.getElem?_eq_getElem c]
          rfl
        · rw [List.getElem?_eq_none (by rw [rng_length]; omega), List.getElem?_eq_none (by omega)]
          rfl
    · show g = _
      have e : (enum T).map (·.1) = rng 0 T.length := by
        unfold enum
        exact List.map_fst_zip (by rw [rng_length]; omega)
      rw [hg, e]
/-! ### what is told of the shares -/
section
open MSim
theorem cut_inner {α : Type} (xs : List α) (k : Nat) : cutL xs (some (k : Int)) (some (-1)) = (xs.drop k).take (xs.length - 1 - k) := by
  unfold cutL
  have e : HT.sIx xs.length xs.length (some (-1)) = xs.length - 1 := by
    unfold HT.sIx
    simp only [show ((-1 : Int) < 0) = True from eq_true (by decide), if_true]
    omega
  have e0 : HT.sIx xs.length 0 (some (k : Int)) = min k xs.length := HT.sIx_nat xs.length 0 k
  rw [e, e0]
  by_cases c : k ≤ xs.length
  · rw [Nat.min_eq_left c]
  · rw [List.drop_of_length_le (by omega), List.drop_of_length_le (by omega), List.take_nil, List.take_nil]
variable {m : Nat} {ts : List (Int × Int)} {k : Str}
/-- the shares, ahead of the dividing -/
def shL (m P : Nat) (S : Bst) : List Int := (rng 0 (m : Int)).map fun p => S.L m (P + p.toNat)
/-- the prices, ahead of the dividing -/
def prL (m n P : Nat) (S : Bst) : List Int := (rng 0 (P : Int)).map fun j => val m n S j.toNat
theorem row_cut {P : Nat} {S : Bst} : cutL ((rng 0 (((P + m : Nat) : Int) + 1)).map fun c => S.L m c.toNat) (some (P : Int)) (some (-(1 : Int))) = shL m P S := by
  rw [show (-(1 : Int)) = -1 from rfl, cut_inner]
  unfold shL
  apply List.ext_getElem?
  intro i
  rw [List.length_map, rng_length, List.getElem?_take, List.getElem?_drop, List.getElem?_map, List.getElem?_map]
  by_cases c : i < m
  · rw [if_pos (by omega), rng_atE (by omega), rng_atE (by omega)]
    show some (S.L m _) = some (S.L m _)
    congr 2
    omega
  · rw [if_neg (by omega), List.getElem?_eq_none (by rw [rng_length]; omega)]
    rfl
theorem val_bd {P n : Nat} {A : Nat → MDet.Row} {S : Bst} (f : Fit m P n A) (o : Ok m P n A S) (j : Nat) : 0 ≤ val m n S j ∧ val m n S j < 50000 := by
  by_cases c : ∃ i, i < m ∧ S.h i = j
  · obtain ⟨i, hi, e⟩ := c
    have h1 : val m n S j = S.L i n := by
      unfold val
      rw [sm_one (r := i) (fun i' hi' hne => if_neg fun z => hne (o.inv.inj hi' hi (by rw [z, e]))) hi, if_pos e]
    have := o.inv.nn i hi
    have := f.bd o (i := i) (by omega) n
    omega
  · have h1 : val m n S j = 0 := sm_zero fun i hi => if_neg fun z => c ⟨i, hi, z⟩
    omega
theorem shares_raw (h : WebOk (m : Int) ts) (h7 : m ≤ 7) (h9 : (partedL (m : Int) ts k).length ≤ 900) (hs : ∀ x ∈ partedL (m : Int) ts k, ∃ p : Nat, p < m ∧ (p : Int) ∈ x.v.2.2.1) (hp : ∀ x ∈ partedL (m : Int) ts k, x.v.2.2.1.length ≤ 60) : Post (shares_of ((m : Int), ⟨ts⟩) k) (fun x => ∃ (ls : List PartT) (S : Bst) (g : Int), (∀ p ∈ ls, p ∈ partedL (m : Int) ts k) ∧ (∀ q ∈ partedL (m : Int) ts k, ∃ p ∈ ls, ∀ v ∈ p.v.2.2.1, v ∈ q.v.2.2.1) ∧ ls.Pairwise (fun a b => a.v.2.2.1 ≠ b.v.2.2.1) ∧ Fit m ls.length (ls.length + m) (brdA m ls) ∧ Ok m ls.length (ls.length + m) (brdA m ls) S ∧ (∀ c, c < ls.length + m → 0 ≤ S.L m c) ∧ 0 < g ∧ g ∣ S.D ∧ (∀ y ∈ shL m ls.length S ++ prL m (ls.length + m) ls.length S, g ∣ y) ∧ x = Nt.mk (S.D / g, (shL m ls.length S).map (fun y => y / g), (enum (prL m (ls.length + m) ls.length S)).filterMap (fun b => if 0 < b.2 then some (Nt.mk ((ls.getD b.1.toNat (mkP 0 [] (.pl 0) (.pl 0))).v.1, (ls.getD b.1.toNat (mkP 0 [] (.pl 0) (.pl 0))).v.2.1, b.2 / g, ())) else none), ())) noX := by
  have n1 := h.n1
  obtain ⟨ls, e1, l1, l2, l3, l4⟩ := least_ok h9 hp
  unfold shares_of
  have e0 : ask_shared ((m : Int), ⟨ts⟩) = R.ok () := by
    unfold ask_shared
    exact if_neg fun c => by
      have : (7 : Int) < (m : Int) := of_decide_eq_true c
      omega
  rw [e0, ok_bind, parted_pairs_ok h (by omega), ok_bind, e1, ok_bind]
  have f := brd_fit (m := m) (ps := ls) (by omega) h7 l3 fun x hx => hs x (l1 x hx)
  show Post (Board_init (m : Int) ls >>= _) _ _
  rw [init_ok (by omega) h7 l3, ok_bind]
  refine po_bind (solve_ok f (b := (ls.length : Int))) fun y ⟨S, o, hc, eh, el, eb⟩ => ?_
  rw [el, bdl_last, ok_bind, eh, eb]
  show Post (Board_prices_now (S.D, (ls.length : Int), BdH m S, BdL m (ls.length + m) S, ()) >>= _) _ _
  rw [prices_now_ok f o, ok_bind, row_cut]
  have hD := o.inv.pos
  have hDb := Fit.dbd f o
  refine po_extend ?_ ?_
  · unfold shL
    rw [List.length_map, List.length_map, rng_length, rng_length]
    omega
  · have hb : ∀ y ∈ shL m ls.length S ++ prL m (ls.length + m) ls.length S, 0 ≤ y ∧ y < 50000 := fun y hy => by
      rcases List.mem_append.mp hy with hy | hy
      · obtain ⟨p, hp', rfl⟩ := List.mem_map.mp hy
        have := rng_mem.mp hp'
        have := f.bd o (i := m) (Nat.le_refl _) (ls.length + p.toNat)
        have := hc (ls.length + p.toNat) (by omega)
        omega
      · obtain ⟨j, _, rfl⟩ := List.mem_map.mp hy
        exact val_bd f o _
    refine po_bind (po_foldP (fun pre (g : Int) => 0 < g ∧ g ∣ S.D ∧ ∀ y ∈ pre, g ∣ y) ⟨hD, Int.dvd_refl _, fun _ z => nomatch z⟩ ?_) fun g ⟨g0, gD, gy⟩ => ?_
    · intro pre g y post e ⟨g0, gD, gy⟩
      have hy := hb y (by
        show y ∈ shL m ls.length S ++ (rng 0 (ls.length : Int)).map fun j => val m (ls.length + m) S j.toNat
        rw [e]
        simp)
      have hgD := Int.le_of_dvd hD gD
      refine po_bind (common_ok g0 hy.1 (by omega) (by omega)) fun g' ⟨q0, q1, q2⟩ => ⟨q0, Int.dvd_trans q1 gD, fun z hz => ?_⟩
      rcases List.mem_append.mp hz with hz | hz
      · exact Int.dvd_trans q1 (gy z hz)
      · rw [List.mem_singleton.mp hz]
        exact q2
    · have hgD := Int.le_of_dvd hD gD
      refine po_filGE (g := fun b => if 0 < b.2 then some (Nt.mk ((ls.getD b.1.toNat (mkP 0 [] (.pl 0) (.pl 0))).v.1, (ls.getD b.1.toNat (mkP 0 [] (.pl 0) (.pl 0))).v.2.1, b.2 / g, ())) else none) (by rw [enum_length, List.length_map, rng_length]; omega) (fun b hbm => ?_) ?_
      · obtain ⟨b0, b1, _⟩ := enum_mem hbm
        rw [List.length_map, rng_length] at b1
        have hl : ls[b.1.toNat]? = some (ls.getD b.1.toNat (mkP 0 [] (.pl 0) (.pl 0))) := by
          rw [List.getD_eq_getElem?_getD, List.getElem?_eq_getElem (show b.1.toNat < ls.length by omega)]; rfl
        by_cases c : 0 < b.2
        · rw [if_pos (decide_eq_true c), if_pos c, getI_eq b0 hl, ok_bind, ok_bind, divI_ok g0 (by omega), ok_bind]
        · rw [if_neg (fun z => c (of_decide_eq_true z)), if_neg c]
      · refine po_div g0 (by omega) ?_
        refine po_mapGE (g := fun y => y / g) (by unfold shL; rw [List.length_map, rng_length]; omega) (fun y _ => by rw [divI_ok g0 (by omega)]; rfl) ?_
        exact ⟨ls, S, g, l1, l2, l4, f, o, hc, g0, gD, gy, rfl⟩
end
/-! ### weak duality -/
section
open MSim
variable {α : Type} {m : Nat}
theorem sm_le {f g : Nat → Int} : ∀ {k : Nat}, (∀ i, i < k → f i ≤ g i) → sm k f ≤ sm k g
  | 0, _ => Int.le_refl _
  | k + 1, h => by
    show sm k f + f k ≤ sm k g + g k
    have := sm_le (k := k) fun i hi => h i (by omega)
    have := h k (by omega)
    omega
theorem sm_lift {L : List α} {w : α → Int} {a : α → Nat → Int} {s : Nat → Int} : (L.map fun q => w q * sm m fun p => a q p * s p).sum = sm m fun p => s p * (L.map fun q => a q p * w q).sum := by
  induction L with
  | nil => exact (sm_zero fun p _ => Int.mul_zero _).symm
  | cons q L ih =>
    rw [List.map_cons, List.sum_cons, ih, ← sm_mul, ← sm_add]
    refine sm_congr fun p _ => ?_
    have e1 : w q * (a q p * s p) = s p * (a q p * w q) := by rw [Int.mul_left_comm (w q), Int.mul_left_comm (s p), Int.mul_comm (w q)]
    rw [List.map_cons, List.sum_cons, Int.mul_add, e1]
theorem sum_mono {L : List α} {f g : α → Int} (h : ∀ q ∈ L, f q ≤ g q) : (L.map f).sum ≤ (L.map g).sum := by
  induction L with
  | nil => exact Int.le_refl _
  | cons q L ih =>
    rw [List.map_cons, List.map_cons, List.sum_cons, List.sum_cons]
    have := h q List.mem_cons_self
    have := ih fun q hq => h q (List.mem_cons_of_mem _ hq)
    omega
theorem sum_scale {L : List α} {f : α → Int} {c : Int} : (L.map fun q => f q * c).sum = (L.map f).sum * c := by
  induction L with
  | nil => exact (Int.zero_mul _).symm
  | cons q L ih => rw [List.map_cons, List.map_cons, List.sum_cons, List.sum_cons, ih, Int.add_mul]
theorem dual_shares {L : List α} {w : α → Int} {a : α → Nat → Int} {s : Nat → Int} {B v : Int} (hw : ∀ q ∈ L, 0 ≤ w q) (hs : ∀ p, p < m → 0 ≤ s p) (hl : ∀ p, p < m → (L.map fun q => a q p * w q).sum ≤ B) (hv : ∀ q ∈ L, v ≤ sm m fun p => a q p * s p) : v * (L.map w).sum ≤ sm m s * B := by
  have h1 : (L.map fun q => w q * v).sum ≤ (L.map fun q => w q * sm m fun p => a q p * s p).sum := sum_mono fun q hq => Int.mul_le_mul_of_nonneg_left (hv q hq) (hw q hq)
  rw [sum_scale, sm_lift] at h1
  have h2 : (sm m fun p => s p * (L.map fun q => a q p * w q).sum) ≤ sm m fun p => B * s p := sm_le fun p hp => by
    rw [Int.mul_comm B]
    exact Int.mul_le_mul_of_nonneg_left (hl p hp) (hs p hp)
  rw [sm_mul] at h2
  rw [Int.mul_comm v, Int.mul_comm _ B]
  omega
theorem dual_prices {L : List α} {w : α → Int} {a : α → Nat → Int} {s : Nat → Int} {B v : Int} (hw : ∀ q ∈ L, 0 ≤ w q) (hs : ∀ p, p < m → 0 ≤ s p) (hl : ∀ p, p < m → (L.map fun q => a q p * w q).sum ≤ v) (hv : ∀ q ∈ L, B ≤ sm m fun p => a q p * s p) : (L.map w).sum * B ≤ v * sm m s := by
  have := dual_shares hw hs hl hv
  rw [Int.mul_comm _ B, Int.mul_comm v]
  exact this
end
section
open MSim
theorem sum_filter {m : Nat} {P : Int → Bool} {f : Int → Int} : (((rng 0 (m : Int)).filter P).map f).sum = sm m fun p => b2i (P (p : Int)) * f (p : Int) := by
  induction m with
  | zero => rfl
  | succ m ih =>
    have e : rng 0 (((m + 1 : Nat) : Int)) = rng 0 (m : Int) ++ [(m : Int)] := by
      have := rng_snoc (i := 0) (j := (m : Int)) (by omega)
      rw [← this]
      rfl
    rw [e, List.filter_append, List.map_append, List.sum_append, ih]
    show _ = sm m _ + _
    congr 1
    cases c : P (m : Int) with
    | true =>
      rw [List.filter_cons, if_pos c, List.filter_nil, List.map_singleton]
      show _ = b2i (P (m : Int)) * f (m : Int)
      rw [c, List.sum_singleton]
      exact (Int.one_mul _).symm
    | false =>
      rw [List.filter_cons, if_neg (by rw [c]; decide), List.filter_nil, List.map_nil]
      show _ = b2i (P (m : Int)) * f (m : Int)
      rw [c]
      exact (Int.zero_mul _).symm
end
theorem kindT_nodup {n : Int} {ts : List (Int × Int)} {k : Str} (h : WebOk n ts) : (kindT n ts k).Nodup := by
  have h1 : (mkpl (rng 0 n)).Nodup := by
    unfold mkpl
    refine List.Pairwise.map _ (fun a b (e : a ≠ b) q => e ?_) (rng_nodup 0 n)
    injection q
  have h2 : (mkti ts).Nodup := by
    unfold mkti
    refine List.Pairwise.map _ (fun a b (e : a ≠ b) q => e ?_) h.nd
    injection q with q1 q2
    exact Prod.ext q1 q2
  unfold kindT
  split
  · exact h1
  · split
    · exact h2
    · unfold allT
      rw [List.nodup_append]
      refine ⟨h1, h2, fun a ha b hb e => ?_⟩
      obtain ⟨i, rfl, _⟩ := pl_mem.mp ha
      obtain ⟨c, d, rfl, _⟩ := ti_mem.mp hb
      cases e
def onT (p : Int) : Thing → Prop
  | .pl i => i = p
  | .ti c d => c = p ∨ d = p
/-- two unlike things are parted by some place of the one -/
theorem parted {n : Int} {ts : List (Int × Int)} {a b : Thing} (h : WebOk n ts) (ha : ThOk n ts a) (hb : ThOk n ts b) (hne : a ≠ b) : ∃ p, 0 ≤ p ∧ p < n ∧ farT n ts p a ≠ farT n ts p b := by
  have z : ∀ p, 0 ≤ p → p < n → ∀ t, ThOk n ts t → (farT n ts p t = 0 ↔ onT p t) := by
    intro p p0 p1 t ht
    cases t with
    | pl i => exact dst_zero h p0 p1 ht.1 ht.2
    | ti c d =>
      have hr := h.rg4 _ (show (c, d) ∈ ts from ht)
      have e1 := dst_zero h p0 p1 hr.1 hr.2.1
      have e2 := dst_zero h p0 p1 hr.2.2.1 hr.2.2.2
      have n1 := dst_nn h p0 p1 hr.1 hr.2.1
      have n2 := dst_nn h p0 p1 hr.2.2.1 hr.2.2.2
      dsimp only at e1 e2 n1 n2
      show min2 (dst n ts p c) (dst n ts p d) = 0 ↔ (c = p ∨ d = p)
      rw [← e1, ← e2]
      rcases mm_cases (dst n ts p c) (dst n ts p d) with ⟨q, _, _⟩ | ⟨q, _, _⟩ <;> rw [q] <;> omega
  apply Classical.byContradiction
  intro hc
  have hall : ∀ p, 0 ≤ p → p < n → farT n ts p a = farT n ts p b := fun p p0 p1 => Classical.byContradiction fun q => hc ⟨p, p0, p1, q⟩
  have key : ∀ p, 0 ≤ p → p < n → (onT p a ↔ onT p b) := fun p p0 p1 => by
    rw [← z p p0 p1 a ha, ← z p p0 p1 b hb, hall p p0 p1]
  cases a with
  | pl i =>
    cases b with
    | pl j =>
      have := (key i ha.1 ha.2).mp rfl
      have this' : j = i := this
      exact hne (by rw [this'])
    | ti c d =>
      have hr := h.rg _ (show (c, d) ∈ ts from hb)
      dsimp only at hr
      have k1 := (key c (by omega) (by omega)).mpr (.inl rfl)
      have k2 := (key d (by omega) (by omega)).mpr (.inr rfl)
      unfold onT at k1 k2
      omega
  | ti c d =>
    have hr := h.rg _ (show (c, d) ∈ ts from ha)
    dsimp only at hr
    cases b with
    | pl j =>
      have k1 := (key c (by omega) (by omega)).mp (.inl rfl)
      have k2 := (key d (by omega) (by omega)).mp (.inr rfl)
      unfold onT at k1 k2
      omega
    | ti e f =>
      have hs := h.rg _ (show (e, f) ∈ ts from hb)
      dsimp only at hs
      have k1 := (key c (by omega) (by omega)).mp (.inl rfl)
      have k2 := (key d (by omega) (by omega)).mp (.inr rfl)
      unfold onT at k1 k2
      have : c = e ∧ d = f := by omega
      exact hne (by rw [this.1, this.2])
/-! ### the pairs of a web are distinct -/
theorem pairsT_apart {n : Int} {ts : List (Int × Int)} {T : List Thing} (hT : T.Nodup) {x : Part} (h : x ∈ pairsT n ts T (rng 0 T.length)) : x.v.1 ≠ x.v.2.1 := by
  unfold pairsT at h
  obtain ⟨i, hi, hx⟩ := List.mem_flatMap.mp h
  obtain ⟨i0, i1⟩ := rng_mem.mp hi
  obtain ⟨b, hb, rfl⟩ := List.mem_map.mp hx
  show T.getD i.toNat (.pl 0) ≠ b
  intro e
  obtain ⟨j, hj, ej⟩ := List.mem_iff_getElem.mp hb
  rw [List.getElem_drop] at ej
  rw [List.length_drop] at hj
  rw [List.getD_eq_getElem?_getD, List.getElem?_eq_getElem (show i.toNat < T.length by omega)] at e
  have := (List.getElem_inj (h₀ := show i.toNat < T.length by omega) (h₁ := show (i + 1).toNat + j < T.length by omega) hT).mp (by rw [ej]; exact e)
  omega
theorem pairsT_nd {n : Int} {ts : List (Int × Int)} {T : List Thing} (hT : T.Nodup) : (pairsT n ts T (rng 0 T.length)).Pairwise fun a b => ¬ (a.v.1 = b.v.1 ∧ a.v.2.1 = b.v.2.1) := by
  unfold pairsT
  refine List.pairwise_flatMap.mpr ⟨fun i hi => ?_, ?_⟩
  · refine List.pairwise_map.mpr (List.Pairwise.imp_of_mem (R := fun a b : Thing => a ≠ b) ?_ (hT.sublist (List.drop_sublist _ _)))
    intro a b _ _ hne z
    exact hne z.2
  · refine List.Pairwise.imp_of_mem (R := fun a b : Int => a < b) ?_ rng_looks.up
    intro i j hi hj hij x hx y hy z
    obtain ⟨i0, i1⟩ := rng_mem.mp hi
    obtain ⟨j0, j1⟩ := rng_mem.mp hj
    obtain ⟨b, _, rfl⟩ := List.mem_map.mp hx
    obtain ⟨c, _, rfl⟩ := List.mem_map.mp hy
    have e : T.getD i.toNat (.pl 0) = T.getD j.toNat (.pl 0) := z.1
    rw [List.getD_eq_getElem?_getD, List.getElem?_eq_getElem (show i.toNat < T.length by omega), List.getD_eq_getElem?_getD, List.getElem?_eq_getElem (show j.toNat < T.length by omega)] at e
    have := (List.getElem_inj (h₀ := show i.toNat < T.length by omega) (h₁ := show j.toNat < T.length by omega) hT).mp e
    omega
/-! ### few pairs; each with a place that parts them -/
theorem ties_21 {n : Int} {ts : List (Int × Int)} (h : WebOk n ts) (n7 : n ≤ 7) : ts.length ≤ 21 := by
  have h2 := nodup_le h.nd (ys := (List.range 7).flatMap fun a => ((List.range 7).filter fun b => decide (a < b)).map fun b : Nat => ((a : Int), (b : Int))) fun p hp => by
    obtain ⟨h0, h1, h2⟩ := h.rg p hp
    refine List.mem_flatMap.mpr ⟨p.1.toNat, List.mem_range.mpr (by omega), List.mem_map.mpr ⟨p.2.toNat, List.mem_filter.mpr ⟨List.mem_range.mpr (by omega), decide_eq_true (by omega)⟩, ?_⟩⟩
    refine Prod.ext ?_ ?_
    · show ((p.1.toNat : Nat) : Int) = p.1
      omega
    · show ((p.2.toNat : Nat) : Int) = p.2
      omega
  exact Nat.le_trans h2 (by decide)
theorem kind_28 {n : Int} {ts : List (Int × Int)} {k : Str} (h : WebOk n ts) (n7 : n ≤ 7) : (kindT n ts k).length ≤ 28 := by
  have n1 := h.n1
  have hl := ties_21 h n7
  have : (kindT n ts k).length ≤ (allT n ts).length := by
    unfold kindT allT
    rw [List.length_append]
    split
    · omega
    · split
      · omega
      · rw [List.length_append]; omega
  have := allT_len (ts := ts) (show 0 ≤ n by omega)
  omega
theorem parted_900 {n : Int} {ts : List (Int × Int)} {k : Str} (h : WebOk n ts) (n7 : n ≤ 7) : (partedL n ts k).length ≤ 900 := by
  have hk := kind_28 (k := k) h n7
  have h1 : (partedL n ts k).length ≤ (rng 0 (kindT n ts k).length).length * (kindT n ts k).length := pairsT_len _
  rw [rng_length] at h1
  have h2 : (((kindT n ts k).length : Int) - 0).toNat * (kindT n ts k).length ≤ 28 * 28 := Nat.mul_le_mul (by omega) hk
  omega
theorem parted_some {m : Nat} {ts : List (Int × Int)} {k : Str} (h : WebOk (m : Int) ts) {x : Part} (hx : x ∈ partedL (m : Int) ts k) : ∃ p : Nat, p < m ∧ (p : Int) ∈ x.v.2.2.1 := by
  obtain ⟨h1, h2, h3⟩ := pairsT_mem hx
  obtain ⟨p, p0, p1, hp⟩ := parted h (kindT_ok h1) (kindT_ok h2) (pairsT_apart (kindT_nodup h) hx)
  refine ⟨p.toNat, by omega, ?_⟩
  rw [h3, partL_mem]
  rw [show ((p.toNat : Nat) : Int) = p by omega]
  exact ⟨⟨p0, p1⟩, hp⟩
theorem parted_60 {m : Nat} {ts : List (Int × Int)} {k : Str} (m7 : m ≤ 7) {x : Part} (hx : x ∈ partedL (m : Int) ts k) : x.v.2.2.1.length ≤ 60 := by
  rw [(pairsT_mem hx).2.2]
  have := partL_len (n := (m : Int)) (ts := ts) (a := x.v.1) (b := x.v.2.1)
  omega
/-! ### the shares reach the bottom -/
section
open MSim
variable {m : Nat}
theorem shl_at {P : Nat} {S : Bst} {p : Nat} (hp : p < m) : (shL m P S).getD p 0 = S.L m (P + p) := by
  unfold shL
  rw [List.getD_eq_getElem?_getD, List.getElem?_map, rng_atE (by omega)]
  show S.L m _ = _
  congr 1
  omega
theorem shares_reach {ls : List PartT} {S : Bst} (f : Fit m ls.length (ls.length + m) (brdA m ls)) (o : Ok m ls.length (ls.length + m) (brdA m ls) S) (hc : ∀ c, c < ls.length + m → 0 ≤ S.L m c) {q : PartT} {Q : Int → Bool} (hq : q.v.2.2.1 = (rng 0 (m : Int)).filter Q) {x : PartT} (hx : x ∈ ls) (hsub : ∀ v ∈ x.v.2.2.1, v ∈ q.v.2.2.1) : S.D ≤ (q.v.2.2.1.map fun p => (shL m ls.length S).getD p.toNat 0).sum := by
  obtain ⟨j, hj, ej⟩ := List.mem_iff_getElem.mp hx
  rw [hq, sum_filter]
  refine Int.le_trans (shares_come o.rel f.F hj (hc j (by omega))) (sm_le fun p hp => ?_)
  have h0 := hc (ls.length + p) (by omega)
  rw [Int.toNat_natCast, shl_at hp]
  have e : brdA m ls p j = b2i (inB (p : Int) x.v.2.2.1) := by
    unfold brdA
    rw [if_pos hp, if_pos hj, getElem!_pos (ls.map fun x => x.v.2.2.1) j (by rw [List.length_map]; exact hj), List.getElem_map, ej]
  rw [e]
  cases c : inB (p : Int) x.v.2.2.1 with
  | false =>
    show _ * 0 ≤ _
    rw [Int.mul_zero]
    cases Q (p : Int) with
    | true =>
      show (0 : Int) ≤ 1 * _
      omega
    | false =>
      show (0 : Int) ≤ 0 * _
      omega
  | true =>
    have := hsub _ (inB_t.mp c)
    rw [hq] at this
    rw [(List.mem_filter.mp this).2]
    show _ * 1 ≤ 1 * _
    omega
end
/-! ### sums over all pairs, by the told ones -/
section
variable {α β : Type}
theorem sum_none {L : List α} {s : α → Bool} {f : α → Int} (h : ∀ q ∈ L, s q = false) : (L.map fun q => if s q = true then f q else 0).sum = 0 := by
  induction L with
  | nil => rfl
  | cons q L ih =>
    rw [List.map_cons, List.sum_cons, ih fun q hq => h q (List.mem_cons_of_mem _ hq), if_neg (by rw [h q List.mem_cons_self]; decide)]
    rfl
theorem sum_only {L : List α} {s : α → Bool} {f : α → Int} {x : α} (nd : L.Pairwise fun a b => ¬ (s a = true ∧ s b = true)) (hx : x ∈ L) (sx : s x = true) : (L.map fun q => if s q = true then f q else 0).sum = f x := by
  induction L with
  | nil => cases hx
  | cons q L ih =>
    rw [List.pairwise_cons] at nd
    rw [List.map_cons, List.sum_cons]
    rcases List.mem_cons.mp hx with rfl | hx
    · rw [if_pos sx, sum_none fun b hb => ?_]
      · omega
      · cases e : s b with
        | false => rfl
        | true => exact absurd ⟨sx, e⟩ (nd.1 b hb)
    · rw [ih nd.2 hx, if_neg fun z => nd.1 x hx ⟨z, sx⟩]
      omega
theorem sum_plus {L : List α} {f g : α → Int} : (L.map fun q => f q + g q).sum = (L.map f).sum + (L.map g).sum := by
  induction L with
  | nil => rfl
  | cons q L ih =>
    rw [List.map_cons, List.map_cons, List.map_cons, List.sum_cons, List.sum_cons, List.sum_cons, ih]
    omega
theorem sum_told {L : List α} {T : List β} {same : β → α → Bool} {c : β → Int} {a : α → Int} {pick : β → α} (nd : ∀ t ∈ T, L.Pairwise fun x y => ¬ (same t x = true ∧ same t y = true)) (hp : ∀ t ∈ T, pick t ∈ L ∧ same t (pick t) = true) : (L.map fun q => a q * ((T.filter fun t => same t q).map c).sum).sum = (T.map fun t => a (pick t) * c t).sum := by
  induction T with
  | nil =>
    rw [List.map_nil, List.sum_nil]
    have : (L.map fun q => a q * (([] : List β).map c).sum) = L.map fun q => if (fun _ : α => false) q = true then (0 : Int) else 0 := List.map_congr_left fun q _ => by
      show a q * 0 = _
      rw [Int.mul_zero]
      rfl
    exact (congrArg List.sum this).trans (sum_none fun _ _ => rfl)
  | cons t T ih =>
    rw [List.map_cons, List.sum_cons, ← ih (fun t ht => nd t (List.mem_cons_of_mem _ ht)) (fun t ht => hp t (List.mem_cons_of_mem _ ht)), ← sum_only (f := fun q => a q * c t) (nd t List.mem_cons_self) (hp t List.mem_cons_self).1 (hp t List.mem_cons_self).2, ← sum_plus]
    congr 1
    refine List.map_congr_left fun q _ => ?_
    rw [List.filter_cons]
    by_cases e : same t q = true
    · rw [if_pos e, if_pos e, List.map_cons, List.sum_cons, Int.mul_add]
    · rw [if_neg e, if_neg e]
      omega
end
/-! ### the told prices, in a sum of places -/
section
open MSim
variable {β : Type}
theorem enum_rng {P : Nat} {vf : Int → Int} : enum ((rng 0 (P : Int)).map vf) = (rng 0 (P : Int)).map fun j => (j, vf j) := by
  apply List.ext_getElem?
  intro i
  by_cases c : i < P
  · rw [enum_get (x := vf (i : Int)) (by rw [List.getElem?_map, rng_atE (by omega)]; show some (vf _) = _; congr 2; omega), List.getElem?_map, rng_atE (by omega)]
    show some ((i : Int), _) = some ((0 : Int) + (i : Int), vf ((0 : Int) + (i : Int)))
    rw [Int.zero_add]
  · rw [List.getElem?_eq_none (by rw [enum_length, List.length_map, rng_length]; omega), List.getElem?_eq_none (by rw [List.length_map, rng_length]; omega)]
theorem told_sum {P : Nat} {vf : Int → Int} {mk : Int × Int → β} {F : β → Int} : ((((rng 0 (P : Int)).map fun j => (j, vf j)).filterMap fun b => if 0 < b.2 then some (mk b) else none).map F).sum = sm P fun j => if 0 < vf (j : Int) then F (mk ((j : Int), vf (j : Int))) else 0 := by
  induction P with
  | zero => rfl
  | succ P ih =>
    have e : rng 0 (((P + 1 : Nat) : Int)) = rng 0 (P : Int) ++ [(P : Int)] := by
      have := rng_snoc (i := 0) (j := (P : Int)) (by omega)
      rw [← this]
      rfl
    rw [e, List.map_append, List.filterMap_append, List.map_append, List.sum_append, ih]
    show _ = sm P _ + _
    congr 1
    by_cases c : 0 < vf (P : Int)
    · show _ = if 0 < vf (P : Int) then F (mk ((P : Int), vf (P : Int))) else 0
      rw [if_pos c, List.map_singleton, List.filterMap_cons_some (f := fun b : Int × Int => if 0 < b.2 then some (mk b) else none) (b := mk ((P : Int), vf (P : Int))) (if_pos c), List.filterMap_nil, List.map_singleton, List.sum_singleton]
    · show _ = if 0 < vf (P : Int) then F (mk ((P : Int), vf (P : Int))) else 0
      rw [if_neg c, List.map_singleton, List.filterMap_cons_none (f := fun b : Int × Int => if 0 < b.2 then some (mk b) else none) (if_neg c)]
      rfl
end
/-! ### all divided by the common part -/
section
open MSim
theorem sum_div {α : Type} {L : List α} {f : α → Int} {g : Int} (h : ∀ q ∈ L, g ∣ f q) : (L.map fun q => f q / g).sum = (L.map f).sum / g := by
  induction L with
  | nil => exact (Int.zero_ediv g).symm
  | cons q L ih =>
    rw [List.map_cons, List.map_cons, List.sum_cons, List.sum_cons, ih fun q hq => h q (List.mem_cons_of_mem _ hq), Int.add_ediv_of_dvd_left (h q List.mem_cons_self)]
theorem sm_div {f : Nat → Int} {g : Int} : ∀ {k : Nat}, (∀ j, j < k → g ∣ f j) → sm k (fun j => f j / g) = sm k f / g
  | 0, _ => (Int.zero_ediv g).symm
  | k + 1, h => by
    show sm k (fun j => f j / g) + f k / g = (sm k f + f k) / g
    rw [sm_div fun j hj => h j (by omega), Int.add_ediv_of_dvd_right (h k (by omega))]
abbrev ToldT : Type := Nt (Thing × Thing × Int × Unit)
/-- what the told prices are, of a pair -/
def priceOf (pr : List ToldT) (q : PartT) : Int := ((pr.filter fun t => decide (t.v.1 = q.v.1 ∧ t.v.2.1 = q.v.2.1)).map fun t => t.v.2.2.1).sum
theorem mkP_eq {n : Int} {ts : List (Int × Int)} {k : Str} {x : PartT} (h : x ∈ partedL n ts k) : x = mkP n ts x.v.1 x.v.2.1 := by
  have := (pairsT_mem h).2.2
  obtain ⟨a, b, c, u⟩ := x
  show _ = Nt.mk (a, b, partL n ts a b, ())
  rw [show c = partL n ts a b from this]
end
/-! ### what the shares tell -/
section
open MSim
theorem told_over {m : Nat} {ts : List (Int × Int)} {k : Str} (h : WebOk (m : Int) ts) {ls : List PartT} {S : Bst} {g : Int} (l1 : ∀ p ∈ ls, p ∈ partedL (m : Int) ts k) (hv : ∀ j, 0 ≤ val m (ls.length + m) S j) {pr : List ToldT} (hpr : pr = (enum (prL m (ls.length + m) ls.length S)).filterMap (fun b => if 0 < b.2 then some (Nt.mk ((ls.getD b.1.toNat (mkP 0 [] (.pl 0) (.pl 0))).v.1, (ls.getD b.1.toNat (mkP 0 [] (.pl 0) (.pl 0))).v.2.1, b.2 / g, ())) else none)) (a : PartT → Int) : ((partedL (m : Int) ts k).map fun q => a q * priceOf pr q).sum = sm ls.length fun j => a (ls.getD j (mkP 0 [] (.pl 0) (.pl 0))) * (val m (ls.length + m) S j / g) := by
  have hnd : (partedL (m : Int) ts k).Pairwise fun a b => ¬ (a.v.1 = b.v.1 ∧ a.v.2.1 = b.v.2.1) := pairsT_nd (kindT_nodup h)
  have hm : ∀ t ∈ pr, ∃ x ∈ ls, t.v.1 = x.v.1 ∧ t.v.2.1 = x.v.2.1 := fun t ht => by
    rw [hpr] at ht
    obtain ⟨b, hb, e⟩ := List.mem_filterMap.mp ht
    obtain ⟨b0, b1, _⟩ := enum_mem hb
    unfold prL at b1
    rw [List.length_map, rng_length] at b1
    by_cases c : 0 < b.2
    · rw [if_pos c] at e
      have e' := Option.some.inj e
      refine ⟨ls.getD b.1.toNat (mkP 0 [] (.pl 0) (.pl 0)), ?_, ?_, ?_⟩
      · rw [List.getD_eq_getElem?_getD, List.getElem?_eq_getElem (show b.1.toNat < ls.length by omega)]
        exact List.getElem_mem _
      · rw [← e']
      · rw [← e']
    · rw [if_neg c] at e
      cases e
  have h1 := sum_told (L := partedL (m : Int) ts k) (T := pr) (same := fun t q => decide (t.v.1 = q.v.1 ∧ t.v.2.1 = q.v.2.1)) (c := fun t => t.v.2.2.1) (a := a) (pick := fun t => mkP (m : Int) ts t.v.1 t.v.2.1) (fun t _ => hnd.imp fun {x y} hne z => hne ⟨(of_decide_eq_true z.1).1.symm.trans (of_decide_eq_true z.2).1, (of_decide_eq_true z.1).2.symm.trans (of_decide_eq_true z.2).2⟩) (fun t ht => by
    obtain ⟨x, hx, e1, e2⟩ := hm t ht
    have := mkP_eq (l1 x hx)
    refine ⟨?_, decide_eq_true ⟨rfl, rfl⟩⟩
    show mkP (m : Int) ts t.v.1 t.v.2.1 ∈ _
    rw [e1, e2, ← this]
    exact l1 x hx)
  refine Eq.trans h1 ?_
  rw [hpr]
  unfold prL
  rw [enum_rng, told_sum]
  refine sm_congr fun j hj => ?_
  have hx : ls.getD j (mkP 0 [] (.pl 0) (.pl 0)) ∈ ls := by
    rw [List.getD_eq_getElem?_getD, List.getElem?_eq_getElem hj]
    exact List.getElem_mem _
  have e := mkP_eq (l1 _ hx)
  rw [Int.toNat_natCast]
  by_cases c : 0 < val m (ls.length + m) S j
  · rw [if_pos c]
    show a (mkP (m : Int) ts (ls.getD ((j : Int)).toNat _).v.1 (ls.getD ((j : Int)).toNat _).v.2.1) * _ = _
    rw [Int.toNat_natCast, ← e]
  · rw [if_neg c]
    have := hv j
    rw [show val m (ls.length + m) S j = 0 by omega, Int.zero_ediv, Int.mul_zero]
end
section
open MSim
/-- what the told shares and prices are -/
structure SharesOk (m : Nat) (L : List PartT) (B : Int) (sh : List Int) (pr : List ToldT) : Prop where
  pos : 0 < B
  small : B < 50000
  len : sh.length = m
  nn : ∀ p, p < m → 0 ≤ sh.getD p 0
  reach : ∀ q ∈ L, B ≤ (q.v.2.2.1.map fun p => sh.getD p.toNat 0).sum
  price : ∀ q, 0 ≤ priceOf pr q
  load : ∀ p, p < m → (L.map fun q => b2i (inB (p : Int) q.v.2.2.1) * priceOf pr q).sum ≤ B
  all : (L.map fun q => priceOf pr q).sum = sh.sum
  told : (pr.map fun t => t.v.2.2.1).sum = sh.sum
  none : L = [] → pr = []
  few : pr.length ≤ 900
  shs : ∀ y ∈ sh, 0 ≤ y ∧ y < 50000
  row : ∀ t ∈ pr, 0 < t.v.2.2.1 ∧ t.v.2.2.1 < 50000 ∧ ∃ q ∈ L, t.v.1 = q.v.1 ∧ t.v.2.1 = q.v.2.1
  once : pr.Pairwise fun a b => ¬ (a.v.1 = b.v.1 ∧ a.v.2.1 = b.v.2.1)
theorem shl_sum {m P : Nat} {S : Bst} : (shL m P S).sum = sm m fun p => S.L m (P + p) := by
  have h := sum_filter (m := m) (P := fun _ => true) (f := fun p => S.L m (P + p.toNat))
  rw [List.filter_eq_self.mpr fun _ _ => rfl] at h
  refine Eq.trans h (sm_congr fun p _ => ?_)
  show 1 * S.L m (P + ((p : Int)).toNat) = _
  rw [Int.one_mul, Int.toNat_natCast]
theorem shares_ok {m : Nat} {ts : List (Int × Int)} {k : Str} (h : WebOk (m : Int) ts) (m7 : m ≤ 7) : Post (shares_of ((m : Int), ⟨ts⟩) k) (fun x => ∃ B sh pr, x = Nt.mk (B, sh, pr, ()) ∧ SharesOk m (partedL (m : Int) ts k) B sh pr) noX := by
  refine Post.mono (shares_raw h m7 (parted_900 h (by omega)) (fun x hx => parted_some h hx) fun x hx => parted_60 m7 hx) (fun x hx => ?_) fun _ z => z
  obtain ⟨ls, S, g, l1, l2, l4, f, o, hc, g0, gD, gy, rfl⟩ := hx
  have hP9 := f.P9
  have hD := Fit.dbd f o
  have hgD := Int.le_of_dvd hD.1 gD
  have hgs : ∀ p, p < m → g ∣ S.L m (ls.length + p) := fun p hp => gy _ (List.mem_append_left _ (List.mem_map.mpr ⟨(p : Int), rng_mem.mpr ⟨by omega, by omega⟩, by rw [Int.toNat_natCast]⟩))
  have hgv : ∀ j, j < ls.length → g ∣ val m (ls.length + m) S j := fun j hj => gy _ (List.mem_append_right _ (List.mem_map.mpr ⟨(j : Int), rng_mem.mpr ⟨by omega, by omega⟩, by rw [Int.toNat_natCast]⟩))
  have hat : ∀ p, p < m → ((shL m ls.length S).map fun y => y / g).getD p 0 = S.L m (ls.length + p) / g := fun p hp => by
    have := shl_at (P := ls.length) (S := S) hp
    rw [List.getD_eq_getElem?_getD] at this ⊢
    rw [List.getElem?_map]
    have hl : p < (shL m ls.length S).length := by
      unfold shL
      rw [List.length_map, rng_length]
      omega
    rw [List.getElem?_eq_getElem hl] at this ⊢
    show (shL m ls.length S)[p] / g = _
    rw [← this]
    rfl
  have hsum : ((shL m ls.length S).map fun y => y / g).sum = S.L m (ls.length + m) / g := by
    have := sum_div (L := shL m ls.length S) (f := fun y => y) (g := g) fun y hy => gy y (List.mem_append_left _ hy)
    rw [List.map_id'] at this
    rw [this, shl_sum, shares_all o.rel f.F]
  have hpr := told_over h (S := S) (g := g) l1 (fun j => (val_bd f o j).1) rfl
  have hvs : sm ls.length (fun j => val m (ls.length + m) S j / g) = S.L m (ls.length + m) / g := by
    rw [sm_div hgv]
    congr 1
    exact prices_all o.inv f.F
  refine ⟨_, _, _, rfl, Int.ediv_pos_of_pos_of_dvd hD.1 (by omega) gD, ?_, ?_, fun p hp => ?_, fun q hq => ?_, fun q => ?_, fun p hp => ?_, ?_, ?_, fun hL => ?_, ?_, fun y hy => ?_, fun t ht => ?_, ?_⟩
  · exact Int.lt_of_le_of_lt (Int.ediv_le_self _ (by omega)) hD.2
  · unfold shL
    rw [List.length_map, List.length_map, rng_length]
    omega
  · rw [hat p hp]
    exact Int.ediv_nonneg (hc _ (by omega)) (by omega)
  · obtain ⟨x, hx, hsub⟩ := l2 q hq
    have hq3 := (pairsT_mem hq).2.2
    have h1 := shares_reach f o hc (q := q) (Q := _) hq3 hx hsub
    have hr : ∀ p ∈ q.v.2.2.1, 0 ≤ p ∧ p < (m : Int) := fun p hp => by
      rw [hq3] at hp
      exact (partL_mem.mp hp).1
    have e : (q.v.2.2.1.map fun p => ((shL m ls.length S).map fun y => y / g).getD p.toNat 0) = q.v.2.2.1.map fun p => (shL m ls.length S).getD p.toNat 0 / g := List.map_congr_left fun p hp => by
      have := hr p hp
      rw [hat p.toNat (by omega), shl_at (by omega)]
    rw [e, sum_div fun p hp => by
      have := hr p hp
      rw [shl_at (by omega)]
      exact hgs _ (by omega)]
    exact Int.ediv_le_ediv g0 h1
  · unfold priceOf
    have nn : ∀ l : List Int, (∀ y ∈ l, 0 ≤ y) → 0 ≤ l.sum := fun l => by
      induction l with
      | nil => intro _; exact Int.le_refl _
      | cons y l ih =>
        intro hl
        have := ih fun z hz => hl z (List.mem_cons_of_mem _ hz)
        have := hl y List.mem_cons_self
        rw [List.sum_cons]
        omega
    refine nn _ fun y hy => ?_
    obtain ⟨t, ht, rfl⟩ := List.mem_map.mp hy
    obtain ⟨b, _, e⟩ := List.mem_filterMap.mp (List.mem_filter.mp ht).1
    by_cases c : 0 < b.2
    · rw [if_pos c] at e
      rw [← Option.some.inj e]
      exact Int.ediv_nonneg (by omega) (by omega)
    · rw [if_neg c] at e
      cases e
  · rw [hpr fun q => b2i (inB (p : Int) q.v.2.2.1)]
    have e : (sm ls.length fun j => b2i (inB (p : Int) (ls.getD j (mkP 0 [] (.pl 0) (.pl 0))).v.2.2.1) * (val m (ls.length + m) S j / g)) = sm ls.length fun j => brdA m ls p j * val m (ls.length + m) S j / g := sm_congr fun j hj => by
      have e2 : brdA m ls p j = b2i (inB (p : Int) (ls.getD j (mkP 0 [] (.pl 0) (.pl 0))).v.2.2.1) := by
        unfold brdA
        rw [if_pos hp, if_pos hj, getElem!_pos (ls.map fun x => x.v.2.2.1) j (by rw [List.length_map]; exact hj), List.getElem_map, List.getD_eq_getElem?_getD, List.getElem?_eq_getElem hj]
        rfl
      rw [e2, Int.mul_ediv_assoc _ (hgv j hj)]
    rw [e, sm_div fun j hj => Int.dvd_trans (hgv j hj) (Int.dvd_mul_left _ _)]
    exact Int.ediv_le_ediv g0 (prices_fit o.inv f.F hp)
  · rw [hsum, ← hvs]
    refine Eq.trans (congrArg List.sum (List.map_congr_left fun q _ => (Int.one_mul _).symm)) (Eq.trans (hpr fun _ => 1) ?_)
    exact sm_congr fun j _ => Int.one_mul _
  · unfold prL
    rw [enum_rng, told_sum, hsum, ← hvs]
    refine sm_congr fun j _ => ?_
    rw [Int.toNat_natCast]
    by_cases c : 0 < val m (ls.length + m) S j
    · rw [if_pos c]
    · rw [if_neg c]
      have := (val_bd f o j).1
      rw [show val m (ls.length + m) S j = 0 by omega, Int.zero_ediv]
  · have : ls = [] := by
      cases ls with
      | nil => rfl
      | cons x ls =>
        have := l1 x List.mem_cons_self
        rw [hL] at this
        cases this
    subst this
    rfl
  · have := List.length_filterMap_le (fun b : Int × Int => if 0 < b.2 then some (Nt.mk ((ls.getD b.1.toNat (mkP 0 [] (.pl 0) (.pl 0))).v.1, (ls.getD b.1.toNat (mkP 0 [] (.pl 0) (.pl 0))).v.2.1, b.2 / g, ()) : ToldT) else none) (enum (prL m (ls.length + m) ls.length S))
    refine Nat.le_trans this ?_
    unfold prL
    rw [enum_length, List.length_map, rng_length]
    omega
  · obtain ⟨z, hz, rfl⟩ := List.mem_map.mp hy
    unfold shL at hz
    obtain ⟨p, hp, rfl⟩ := List.mem_map.mp hz
    have hp' := rng_mem.mp hp
    have h0 := hc (ls.length + p.toNat) (by omega)
    have h1 := f.bd o (i := m) (Nat.le_refl _) (ls.length + p.toNat)
    exact ⟨Int.ediv_nonneg h0 (by omega), Int.lt_of_le_of_lt (Int.ediv_le_self _ h0) h1.2⟩
  · obtain ⟨b, hb, e⟩ := List.mem_filterMap.mp ht
    unfold prL at hb
    rw [enum_rng] at hb
    obtain ⟨j, hj, rfl⟩ := List.mem_map.mp hb
    have hj' := rng_mem.mp hj
    by_cases c : 0 < val m (ls.length + m) S j.toNat
    · rw [if_pos (show 0 < ((j, val m (ls.length + m) S j.toNat) : Int × Int).2 from c)] at e
      have e' := Option.some.inj e
      have hv := val_bd f o j.toNat
      rw [← e']
      refine ⟨Int.ediv_pos_of_pos_of_dvd c (by omega) (hgv j.toNat (by omega)), Int.lt_of_le_of_lt (Int.ediv_le_self _ hv.1) hv.2, ls.getD j.toNat (mkP 0 [] (.pl 0) (.pl 0)), l1 _ ?_, rfl, rfl⟩
      rw [List.getD_eq_getElem?_getD, List.getElem?_eq_getElem (show j.toNat < ls.length by omega)]
      exact List.getElem_mem _
    · rw [if_neg (show ¬ 0 < ((j, val m (ls.length + m) S j.toNat) : Int × Int).2 from c)] at e
      cases e
  · rw [List.pairwise_filterMap]
    unfold prL
    rw [enum_rng, List.pairwise_map]
    refine List.Pairwise.imp_of_mem (R := fun a b : Int => a < b) ?_ rng_looks.up
    intro i j hi hj hij x hx y hy z
    have hi' := rng_mem.mp hi
    have hj' := rng_mem.mp hj
    have key : ∀ {j : Int} {x : ToldT}, (if 0 < ((j, val m (ls.length + m) S j.toNat) : Int × Int).2 then some (Nt.mk ((ls.getD ((j, val m (ls.length + m) S j.toNat) : Int × Int).1.toNat (mkP 0 [] (.pl 0) (.pl 0))).v.1, (ls.getD ((j, val m (ls.length + m) S j.toNat) : Int × Int).1.toNat (mkP 0 [] (.pl 0) (.pl 0))).v.2.1, ((j, val m (ls.length + m) S j.toNat) : Int × Int).2 / g, ()) : ToldT) else none) = some x → x.v.1 = (ls.getD j.toNat (mkP 0 [] (.pl 0) (.pl 0))).v.1 ∧ x.v.2.1 = (ls.getD j.toNat (mkP 0 [] (.pl 0) (.pl 0))).v.2.1 := fun {j x} e => by
      split at e
      · rw [← Option.some.inj e]
        exact ⟨rfl, rfl⟩
      · cases e
    have k1 := key hx
    have k2 := key hy
    have g1 : ∀ j : Int, 0 ≤ j → j < ls.length → ∃ h : j.toNat < ls.length, ls.getD j.toNat (mkP 0 [] (.pl 0) (.pl 0)) = ls[j.toNat] := fun j h0 h1 => ⟨by omega, by
      rw [List.getD_eq_getElem?_getD, List.getElem?_eq_getElem (show j.toNat < ls.length by omega)]
      rfl⟩
    obtain ⟨b1, e1⟩ := g1 i hi'.1 hi'.2
    obtain ⟨b2, e2⟩ := g1 j hj'.1 hj'.2
    rw [e1] at k1
    rw [e2] at k2
    have hne := List.pairwise_iff_getElem.mp l4 i.toNat j.toNat b1 b2 (by omega)
    refine hne ?_
    rw [(pairsT_mem (l1 _ (List.getElem_mem b1))).2.2, (pairsT_mem (l1 _ (List.getElem_mem b2))).2.2, ← k1.1, ← k1.2, z.1, z.2, k2.1, k2.2]
end
/-! ### sums of lists, by places -/
section
open MSim
theorem range_sum {f : Nat → Int} : ∀ {n : Nat}, ((List.range n).map f).sum = sm n f
  | 0 => rfl
  | n + 1 => by
    rw [List.range_succ, List.map_append, List.sum_append, range_sum, List.map_singleton, List.sum_singleton]
    rfl
theorem range_getD {α : Type} {L : List α} {d : α} : (List.range L.length).map (fun i => L.getD i d) = L := by
  apply List.ext_getElem?
  intro i
  rw [List.getElem?_map]
  by_cases c : i < L.length
  · rw [List.getElem?_range c, List.getElem?_eq_getElem c]
    show some (L.getD i d) = _
    rw [List.getD_eq_getElem?_getD, List.getElem?_eq_getElem c]
    rfl
  · rw [List.getElem?_eq_none (by rw [List.length_range]; omega), List.getElem?_eq_none (by omega)]
    rfl
theorem sm_list {α : Type} {L : List α} {d : α} {F : α → Int} : sm L.length (fun i => F (L.getD i d)) = (L.map F).sum := by
  rw [← range_sum (f := fun i => F (L.getD i d))]
  have := congrArg (fun l => (l.map F).sum) (range_getD (L := L) (d := d))
  simp only [List.map_map] at this
  exact this
theorem par_sum {m : Nat} {ts : List (Int × Int)} {a b : Thing} {f : Int → Int} : ((partL (m : Int) ts a b).map f).sum = sm m fun p => b2i (inB (p : Int) (partL (m : Int) ts a b)) * f (p : Int) := by
  refine Eq.trans (b := sm m fun p => b2i ((fun p => !decide (farT (m : Int) ts p a = farT (m : Int) ts p b)) (p : Int)) * f (p : Int)) ?_ (sm_congr fun p hp => ?_)
  · unfold partL
    exact sum_filter
  · congr 2
    cases c : inB (p : Int) (partL (m : Int) ts a b) with
    | true =>
      have := (partL_mem.mp (inB_t.mp c)).2
      show (!decide (farT (m : Int) ts (p : Int) a = farT (m : Int) ts (p : Int) b)) = true
      rw [decide_eq_false this]
      rfl
    | false =>
      by_cases e : farT (m : Int) ts (p : Int) a = farT (m : Int) ts (p : Int) b
      · show (!decide (farT (m : Int) ts (p : Int) a = farT (m : Int) ts (p : Int) b)) = false
        rw [decide_eq_true e]
        rfl
      · rw [inB_t.mpr (partL_mem.mpr ⟨⟨by omega, by omega⟩, e⟩)] at c
        cases c
theorem sm_getD {l : List Int} : sm l.length (fun i => l.getD i 0) = l.sum := by
  have := sm_list (L := l) (d := 0) (F := fun x => x)
  rw [List.map_id'] at this
  exact this
theorem reach_sm {m : Nat} {ts : List (Int × Int)} {k : Str} {B : Int} {sh : List Int} {pr : List ToldT} (so : SharesOk m (partedL (m : Int) ts k) B sh pr) {q : PartT} (hq : q ∈ partedL (m : Int) ts k) : B ≤ sm m fun p => b2i (inB (p : Int) q.v.2.2.1) * sh.getD p 0 := by
  have h1 := so.reach q hq
  rw [(pairsT_mem hq).2.2, par_sum] at h1
  rw [(pairsT_mem hq).2.2]
  refine Int.le_trans h1 (Int.le_of_eq (sm_congr fun p _ => ?_))
  rw [Int.toNat_natCast]
theorem sum_bd {l : List Int} {b : Int} (b0 : 0 ≤ b) (h : ∀ y ∈ l, 0 ≤ y ∧ y ≤ b) : 0 ≤ l.sum ∧ l.sum ≤ (l.length : Int) * b := by
  induction l with
  | nil => exact ⟨Int.le_refl _, by show (0 : Int) ≤ 0 * b; omega⟩
  | cons y l ih =>
    have h1 := h y List.mem_cons_self
    have h2 := ih fun z hz => h z (List.mem_cons_of_mem _ hz)
    rw [List.sum_cons, List.length_cons, show (((l.length + 1 : Nat) : Int)) = (l.length : Int) + 1 by omega, Int.add_mul, Int.one_mul]
    omega
end
end G
namespace G
open PySem L2 Z
theorem pairs_has {n : Int} {ts : List (Int × Int)} {T : List Thing} {i j : Nat} {X Y : Thing} (hij : i < j) (hX : T[i]? = some X) (hY : T[j]? = some Y) : mkP n ts X Y ∈ pairsT n ts T (rng 0 T.length) := by
  obtain ⟨hj, ej⟩ := List.getElem?_eq_some_iff.mp hY
  unfold pairsT
  refine List.mem_flatMap.mpr ⟨(i : Int), rng_mem.mpr ⟨by omega, by omega⟩, ?_⟩
  have e1 : T.getD ((i : Int)).toNat (.pl 0) = X := by
    rw [show ((i : Int)).toNat = i by omega, List.getD_eq_getElem?_getD, hX]
    rfl
  rw [e1]
  refine List.mem_map.mpr ⟨Y, ?_, rfl⟩
  refine List.mem_of_getElem? (i := j - (i + 1)) ?_
  rw [List.getElem?_drop, show ((i : Int) + 1).toNat + (j - (i + 1)) = j by omega]
  exact hY
/-! the same web, its places called otherwise -/
section
variable {n : Int} {ts : List (Int × Int)} {o : List Int}
def nmO (o : List Int) (k : Int) : Int := o.getD k.toNat 0
def mvT (o : List Int) : Thing → Thing
  | .pl i => .pl (nmO o i)
  | .ti a b => .ti (moved o (a, b)).1 (moved o (a, b)).2
theorem moved_two (a b : Int) : moved o (a, b) = (nmO o a, nmO o b) ∨ moved o (a, b) = (nmO o b, nmO o a) := by
  unfold moved nmO
  rcases mm_cases (o.getD a.toNat 0) (o.getD b.toNat 0) with ⟨w1, w2, _⟩ | ⟨w1, w2, _⟩
  · exact .inl (by dsimp only; rw [w1, w2])
  · exact .inr (by dsimp only; rw [w1, w2])
variable (ho : o.Perm (rng 0 n)) (h : WebOk n ts)
include ho h
theorem moved_web : WebOk n (sortP (ts.map (moved o))) := moved_ok ho h.n1 h.n60 ⟨h.rg, h.nd, h.conn, h.len⟩
theorem nm_rg {a : Int} (a0 : 0 ≤ a) (a1 : a < n) : 0 ≤ nmO o a ∧ nmO o a < n := perm_getD ho (by omega) a0 a1
theorem nm_inj {a b : Int} (a0 : 0 ≤ a) (a1 : a < n) (b0 : 0 ≤ b) (b1 : b < n) (e : nmO o a = nmO o b) : a = b := perm_inj ho (by omega) a0 a1 b0 b1 e
theorem adj_moved {a b : Int} (a0 : 0 ≤ a) (a1 : a < n) (b0 : 0 ≤ b) (b1 : b < n) : Adj (sortP (ts.map (moved o))) (nmO o a) (nmO o b) ↔ Adj ts a b := by
  have hp := sortP_perm (ts.map (moved o))
  have back : ∀ x y, 0 ≤ x → x < n → 0 ≤ y → y < n → (nmO o x, nmO o y) ∈ sortP (ts.map (moved o)) → Adj ts x y := fun x y x0 x1 y0 y1 hm => by
    obtain ⟨q, hq, e⟩ := List.mem_map.mp (hp.mem_iff.mp hm)
    have hr := h.rg4 q hq
    obtain ⟨c, d⟩ := q
    rcases moved_two (o := o) c d with w | w <;> rw [w] at e <;> injection e with e1 e2
    · have i1 := nm_inj ho h hr.1 hr.2.1 x0 x1 e1
      have i2 := nm_inj ho h hr.2.2.1 hr.2.2.2 y0 y1 e2
      dsimp only at i1 i2
      subst i1
      subst i2
      exact .inl hq
    · have i1 := nm_inj ho h hr.2.2.1 hr.2.2.2 x0 x1 e1
      have i2 := nm_inj ho h hr.1 hr.2.1 y0 y1 e2
      dsimp only at i1 i2
      subst i1
      subst i2
      exact .inr hq
  have fwd : ∀ x y, (x, y) ∈ ts → Adj (sortP (ts.map (moved o))) (nmO o x) (nmO o y) := fun x y hm => by
    have : moved o (x, y) ∈ sortP (ts.map (moved o)) := hp.mem_iff.mpr (List.mem_map_of_mem hm)
    rcases moved_two (o := o) x y with w | w <;> rw [w] at this
    · exact .inl this
    · exact .inr this
  constructor
  · intro q
    rcases q with q | q
    · exact back a b a0 a1 b0 b1 q
    · exact (back b a b0 b1 a0 a1 q).symm
  · intro q
    rcases q with q | q
    · exact fwd a b q
    · exact (fwd b a q).symm
theorem dst_moved {p v : Int} (p0 : 0 ≤ p) (p1 : p < n) (v0 : 0 ≤ v) (v1 : v < n) : dst n (sortP (ts.map (moved o))) (nmO o p) (nmO o v) = dst n ts p v := by
  have h' := moved_web ho h
  have hI : ∀ x, ∃ y, 0 ≤ x → x < n → 0 ≤ y ∧ y < n ∧ nmO o y = x := fun x => by
    by_cases c : 0 ≤ x ∧ x < n
    · obtain ⟨y, y0, y1, e⟩ := perm_surj ho (by omega) c.1 c.2
      exact ⟨y, fun _ _ => ⟨y0, y1, e⟩⟩
    · exact ⟨0, fun a b => absurd ⟨a, b⟩ c⟩
  obtain ⟨I, hI⟩ := Classical.axiomOfChoice hI
  have hIO : ∀ x, 0 ≤ x → x < n → I (nmO o x) = x := fun x x0 x1 => by
    have hr := nm_rg ho h x0 x1
    obtain ⟨y0, y1, e⟩ := hI _ hr.1 hr.2
    exact nm_inj ho h y0 y1 x0 x1 e
  have hr := nm_rg ho h p0 p1
  have hrv := nm_rg ho h v0 v1
  have d := web_dist h p0 p1
  have key : IsDist n (sortP (ts.map (moved o))) (nmO o p) (fun w => dst n ts p (I w)) := by
    refine ⟨?_, fun w w0 w1 => ?_, fun a b q => ?_, fun w w0 w1 hne => ?_⟩
    · show dst n ts p (I (nmO o p)) = 0
      rw [hIO p p0 p1]
      exact d.zero
    · obtain ⟨y0, y1, _⟩ := hI w w0 w1
      exact d.nn _ y0 y1
    · obtain ⟨a0, a1, b0, b1, _⟩ := h'.adj q
      obtain ⟨x0, x1, ex⟩ := hI a a0 a1
      obtain ⟨y0, y1, ey⟩ := hI b b0 b1
      rw [← ex, ← ey] at q
      exact d.lip _ _ ((adj_moved ho h x0 x1 y0 y1).mp q)
    · obtain ⟨y0, y1, ey⟩ := hI w w0 w1
      have hyp : I w ≠ p := fun e => hne (by rw [← ey, e])
      obtain ⟨z, z0, z1, qz, ez⟩ := d.desc (I w) y0 y1 hyp
      have hz := nm_rg ho h z0 z1
      refine ⟨nmO o z, hz.1, hz.2, ?_, ?_⟩
      · have := (adj_moved ho h z0 z1 y0 y1).mpr qz
        rwa [ey] at this
      · show dst n ts p (I (nmO o z)) + 1 = _
        rw [hIO z z0 z1]
        exact ez
  rw [← dst_eq key _ hrv.1 hrv.2]
  show dst n ts p (I (nmO o v)) = _
  rw [hIO v v0 v1]
theorem far_moved {X : Thing} {l : Int} (hX : ThOk n ts X) (l0 : 0 ≤ l) (l1 : l < n) : farT n (sortP (ts.map (moved o))) (nmO o l) (mvT o X) = farT n ts l X := by
  cases X with
  | pl i => exact dst_moved ho h l0 l1 hX.1 hX.2
  | ti a b =>
    have hab : (a, b) ∈ ts := hX
    have hr := h.rg4 _ hab
    have ea := dst_moved ho h l0 l1 (v := a) hr.1 hr.2.1
    have eb := dst_moved ho h l0 l1 (v := b) hr.2.2.1 hr.2.2.2
    show min2 (dst n _ (nmO o l) (moved o (a, b)).1) (dst n _ (nmO o l) (moved o (a, b)).2) = min2 (dst n ts l a) (dst n ts l b)
    rcases moved_two (o := o) a b with w | w <;> rw [w] <;> dsimp only <;> rw [ea, eb]
    rcases mm_cases (dst n ts l a) (dst n ts l b) with ⟨w1, _, c1⟩ | ⟨w1, _, c1⟩ <;> rcases mm_cases (dst n ts l b) (dst n ts l a) with ⟨w2, _, c2⟩ | ⟨w2, _, c2⟩ <;> rw [w1, w2] <;> omega
theorem mv_inj {X Y : Thing} (hX : ThOk n ts X) (hY : ThOk n ts Y) (e : mvT o X = mvT o Y) : X = Y := by
  cases X with
  | pl i =>
    cases Y with
    | pl j =>
      have e' : nmO o i = nmO o j := by injection e
      rw [nm_inj ho h hX.1 hX.2 hY.1 hY.2 e']
    | ti c d => cases e
  | ti a b =>
    cases Y with
    | pl j => cases e
    | ti c d =>
      have e' : moved o (a, b) = moved o (c, d) := by
        injection e with e1 e2
        exact Prod.ext e1 e2
      have := moved_inj ho (by have := h.n1; omega) (h.rg _ (show (a, b) ∈ ts from hX)) (h.rg _ (show (c, d) ∈ ts from hY)) e'
      injection this with e1 e2
      rw [e1, e2]
theorem kind_moved {k : Str} {X' : Thing} : X' ∈ kindT n (sortP (ts.map (moved o))) k ↔ ∃ X ∈ kindT n ts k, X' = mvT o X := by
  have pl : X' ∈ mkpl (rng 0 n) ↔ ∃ X ∈ mkpl (rng 0 n), X' = mvT o X := by
    rw [pl_mem]
    constructor
    · rintro ⟨i, rfl, i0, i1⟩
      obtain ⟨j, j0, j1, e⟩ := perm_surj ho (by omega) i0 i1
      exact ⟨.pl j, pl_mem.mpr ⟨j, rfl, j0, j1⟩, by rw [← e]; rfl⟩
    · rintro ⟨X, hX, rfl⟩
      obtain ⟨j, rfl, j0, j1⟩ := pl_mem.mp hX
      exact ⟨_, rfl, nm_rg ho h j0 j1⟩
  have ti : X' ∈ mkti (sortP (ts.map (moved o))) ↔ ∃ X ∈ mkti ts, X' = mvT o X := by
    rw [ti_mem]
    constructor
    · rintro ⟨a, b, rfl, hab⟩
      obtain ⟨q, hq, e⟩ := List.mem_map.mp ((sortP_perm _).mem_iff.mp hab)
      refine ⟨.ti q.1 q.2, ti_mem.mpr ⟨_, _, rfl, hq⟩, ?_⟩
      show _ = Thing.ti (moved o (q.1, q.2)).1 (moved o (q.1, q.2)).2
      rw [show (q.1, q.2) = q from rfl, e]
    · rintro ⟨X, hX, rfl⟩
      obtain ⟨a, b, rfl, hab⟩ := ti_mem.mp hX
      exact ⟨_, _, rfl, (sortP_perm _).mem_iff.mpr (List.mem_map_of_mem (f := moved o) hab)⟩
  unfold kindT
  split
  · exact pl
  · split
    · exact ti
    · unfold allT
      rw [List.mem_append, pl, ti]
      constructor
      · rintro (⟨X, hX, e⟩ | ⟨X, hX, e⟩)
        · exact ⟨X, List.mem_append_left _ hX, e⟩
        · exact ⟨X, List.mem_append_right _ hX, e⟩
      · rintro ⟨X, hX, e⟩
        rcases List.mem_append.mp hX with hX | hX
        · exact .inl ⟨X, hX, e⟩
        · exact .inr ⟨X, hX, e⟩
end
/-! ### shares by things; webs called otherwise -/
section
open MSim
def ReachT (m : Nat) (ts : List (Int × Int)) (k : Str) (s : Nat → Int) (B : Int) : Prop := ∀ X ∈ kindT (m : Int) ts k, ∀ Y ∈ kindT (m : Int) ts k, X ≠ Y → B ≤ sm m fun p => b2i (!decide (farT (m : Int) ts (p : Int) X = farT (m : Int) ts (p : Int) Y)) * s p
theorem par_at {m : Nat} {ts : List (Int × Int)} {a b : Thing} {p : Nat} (hp : p < m) : inB (p : Int) (partL (m : Int) ts a b) = !decide (farT (m : Int) ts (p : Int) a = farT (m : Int) ts (p : Int) b) := by
  by_cases e : farT (m : Int) ts (p : Int) a = farT (m : Int) ts (p : Int) b
  · rw [decide_eq_true e]
    cases c : inB (p : Int) (partL (m : Int) ts a b) with
    | false => rfl
    | true => exact absurd e (partL_mem.mp (inB_t.mp c)).2
  · rw [decide_eq_false e]
    exact inB_t.mpr (partL_mem.mpr ⟨⟨by omega, by omega⟩, e⟩)
theorem reachT_pairs {m : Nat} {ts : List (Int × Int)} {k : Str} {s : Nat → Int} {B : Int} (h : WebOk (m : Int) ts) : (∀ q ∈ partedL (m : Int) ts k, B ≤ sm m fun p => b2i (inB (p : Int) q.v.2.2.1) * s p) ↔ ReachT m ts k s B := by
  constructor
  · intro H X hX Y hY hne
    have key : ∀ {i j : Nat} {X Y : Thing}, i < j → (kindT (m : Int) ts k)[i]? = some X → (kindT (m : Int) ts k)[j]? = some Y → B ≤ sm m fun p => b2i (!decide (farT (m : Int) ts (p : Int) X = farT (m : Int) ts (p : Int) Y)) * s p := fun {i j X Y} hij hX hY => by
      refine Int.le_trans (H _ (pairs_has hij hX hY)) (Int.le_of_eq (sm_congr fun p hp => ?_))
      show b2i (inB (p : Int) (partL (m : Int) ts X Y)) * s p = _
      rw [par_at hp]
    obtain ⟨i, hi, ei⟩ := List.mem_iff_getElem.mp hX
    obtain ⟨j, hj, ej⟩ := List.mem_iff_getElem.mp hY
    have a1 : (kindT (m : Int) ts k)[i]? = some X := by rw [List.getElem?_eq_getElem hi, ei]
    have a2 : (kindT (m : Int) ts k)[j]? = some Y := by rw [List.getElem?_eq_getElem hj, ej]
    rcases Nat.lt_trichotomy i j with q | q | q
    · exact key q a1 a2
    · subst q
      exact absurd (ei.symm.trans ej) hne
    · refine Int.le_trans (key q a2 a1) (Int.le_of_eq (sm_congr fun p _ => ?_))
      congr 3
      exact decide_eq_decide.mpr ⟨fun e => e.symm, fun e => e.symm⟩
  · intro H q hq
    obtain ⟨h1, h2, h3⟩ := pairsT_mem hq
    refine Int.le_trans (H _ h1 _ h2 (pairsT_apart (kindT_nodup h) hq)) (Int.le_of_eq (sm_congr fun p hp => ?_))
    rw [h3, par_at hp]
theorem perm_sum {l r : List Int} (h : l.Perm r) : l.sum = r.sum := by
  induction h with
  | nil => rfl
  | cons x _ ih => rw [List.sum_cons, List.sum_cons, ih]
  | swap x y l =>
    rw [List.sum_cons, List.sum_cons, List.sum_cons, List.sum_cons]
    omega
  | trans _ _ a b => exact a.trans b
theorem rng_range {m : Nat} : (rng 0 (m : Int)).map Int.toNat = List.range m := by
  apply List.ext_getElem?
  intro i
  rw [List.getElem?_map]
  by_cases c : i < m
  · rw [rng_atE (by omega), List.getElem?_range c]
    show some (_ : Int).toNat = _
    congr 1
    omega
  · rw [List.getElem?_eq_none (by rw [rng_length]; omega), List.getElem?_eq_none (by rw [List.length_range]; omega)]
    rfl
section
variable {m : Nat} {ts : List (Int × Int)} {o : List Int} {k : Str} {B : Int} (ho : o.Perm (rng 0 (m : Int))) (h : WebOk (m : Int) ts)
include ho
theorem sm_moved {f : Nat → Int} : (sm m fun p => f (nmO o (p : Int)).toNat) = sm m f := by
  rw [← range_sum, ← range_sum]
  have e : (List.range m).map (fun p : Nat => f (nmO o (p : Int)).toNat) = (o.map Int.toNat).map f := by
    have hl : o.length = m := by
      have := ho.length_eq
      rw [rng_length] at this
      omega
    apply List.ext_getElem?
    intro i
    rw [List.getElem?_map, List.getElem?_map, List.getElem?_map]
    by_cases c : i < m
    · rw [List.getElem?_range c, List.getElem?_eq_getElem (show i < o.length by omega)]
      show some (f (nmO o (i : Int)).toNat) = some (f (o[i]).toNat)
      unfold nmO
      rw [Int.toNat_natCast, List.getD_eq_getElem?_getD, List.getElem?_eq_getElem (show i < o.length by omega)]
      rfl
    · rw [List.getElem?_eq_none (by rw [List.length_range]; omega), List.getElem?_eq_none (by omega)]
      rfl
  rw [e]
  refine perm_sum (List.Perm.map _ ?_)
  rw [← rng_range]
  exact ho.map _
include h
theorem sum_there {s' : Nat → Int} {X Y : Thing} (hX : X ∈ kindT (m : Int) ts k) (hY : Y ∈ kindT (m : Int) ts k) : (sm m fun p => b2i (!decide (farT (m : Int) (sortP (ts.map (moved o))) (p : Int) (mvT o X) = farT (m : Int) (sortP (ts.map (moved o))) (p : Int) (mvT o Y))) * s' p) = sm m fun p => b2i (!decide (farT (m : Int) ts (p : Int) X = farT (m : Int) ts (p : Int) Y)) * s' (nmO o (p : Int)).toNat := by
  rw [← sm_moved ho]
  refine sm_congr fun p hp => ?_
  have r := nm_rg ho h (a := (p : Int)) (by omega) (by omega)
  rw [show (((nmO o (p : Int)).toNat : Nat) : Int) = nmO o (p : Int) by omega, far_moved ho h (kindT_ok hX) (by omega) (by omega), far_moved ho h (kindT_ok hY) (by omega) (by omega)]
theorem reach_pull {s' : Nat → Int} (r : ReachT m (sortP (ts.map (moved o))) k s' B) : ReachT m ts k (fun p => s' (nmO o (p : Int)).toNat) B := fun X hX Y hY hne => by
  have := r _ ((kind_moved ho h).mpr ⟨X, hX, rfl⟩) _ ((kind_moved ho h).mpr ⟨Y, hY, rfl⟩) fun z => hne (mv_inj ho h (kindT_ok hX) (kindT_ok hY) z)
  rw [sum_there ho h hX hY] at this
  exact this
theorem reach_push {s s' : Nat → Int} (e : ∀ p, p < m → s' (nmO o (p : Int)).toNat = s p) (r : ReachT m ts k s B) : ReachT m (sortP (ts.map (moved o))) k s' B := fun X' hX' Y' hY' hne => by
  obtain ⟨X, hX, rfl⟩ := (kind_moved ho h).mp hX'
  obtain ⟨Y, hY, rfl⟩ := (kind_moved ho h).mp hY'
  rw [sum_there ho h hX hY]
  refine Int.le_trans (r X hX Y hY fun z => hne (by rw [z])) (Int.le_of_eq (sm_congr fun p hp => ?_))
  rw [e p hp]
end
/-- shares by the places' new numbers -/
def pushS (o : List Int) (s : Nat → Int) (v : Nat) : Int := s (o.idxOf (v : Int))
theorem pushS_at {m : Nat} {o : List Int} (ho : o.Perm (rng 0 (m : Int))) {s : Nat → Int} {p : Nat} (hp : p < m) : pushS o s (nmO o (p : Int)).toNat = s p := by
  have hl : o.length = m := by
    have := ho.length_eq
    rw [rng_length] at this
    omega
  have nd : o.Nodup := ho.nodup_iff.mpr (rng_nodup 0 _)
  have e : nmO o (p : Int) = o[p]'(by omega) := by
    unfold nmO
    rw [Int.toNat_natCast, List.getD_eq_getElem?_getD, List.getElem?_eq_getElem (show p < o.length by omega)]
    rfl
  have r := rng_mem.mp (ho.mem_iff.mp (List.getElem_mem (show p < o.length by omega)))
  unfold pushS
  rw [e, show (((o[p]'(by omega)).toNat : Nat) : Int) = o[p]'(by omega) by omega, List.Nodup.idxOf_getElem nd]
section
variable {m : Nat} {ts : List (Int × Int)} {k : Str} {B : Int} {sh : List Int} {pr : List ToldT} (h : WebOk (m : Int) ts) (so : SharesOk m (partedL (m : Int) ts k) B sh pr)
include h so
theorem so_reach : ReachT m ts k (fun p => sh.getD p 0) B := (reachT_pairs h).mp fun q hq => reach_sm so hq
theorem so_low {s : Nat → Int} {v : Int} (s0 : ∀ p, p < m → 0 ≤ s p) (r : ReachT m ts k s v) : v * sh.sum ≤ sm m s * B := by
  rw [← so.all]
  exact dual_shares (m := m) (L := partedL (m : Int) ts k) (w := priceOf pr) (a := fun q p => b2i (inB (p : Int) q.v.2.2.1)) (fun q _ => so.price q) s0 (fun p hp => so.load p hp) fun q hq => (reachT_pairs h).mpr r q hq
theorem so_sum : sm m (fun p => sh.getD p 0) = sh.sum := by
  have e := sm_getD (l := sh)
  rw [so.len] at e
  exact e
end
end
end G
namespace G
open PySem L2 Z
def pN (p : Nat × Nat) : Int × Int := ((p.1 : Int), (p.2 : Int))
/-- a shape: its ties, how far its places are -/
def shapeB (m : Nat) (us : List (Nat × Nat)) (d : Nat → Nat → Nat) : Bool :=
  (decide (1 ≤ m) && decide (m ≤ 60)) && (us.all (fun p => decide (p.1 < m) && (decide (p.2 < m) && !(Nat.beq p.1 p.2))) &&
  (decide ((us.map fun p => (min p.1 p.2, max p.1 p.2)).Nodup) && (decide (us.length ≤ 700) &&
  ((List.range m).all fun i => Nat.beq (d i i) 0 && (us.all (fun p => Nat.ble (d i p.2) (d i p.1 + 1) && Nat.ble (d i p.1) (d i p.2 + 1)) &&
    (List.range m).all fun v => Nat.beq v i || us.any fun p => (Nat.beq p.2 v && Nat.beq (d i p.1 + 1) (d i v)) || (Nat.beq p.1 v && Nat.beq (d i p.2 + 1) (d i v)))))))
def nrm34 (p : Int × Int) : Int × Int := (min2 p.1 p.2, max2 p.1 p.2)
/-- its web -/
def shW (us : List (Nat × Nat)) : List (Int × Int) := sortP ((us.map pN).map nrm34)
theorem nrm34_pN (p : Nat × Nat) : nrm34 (pN p) = pN (min p.1 p.2, max p.1 p.2) := by
  unfold nrm34 pN
  dsimp only
  rcases mm_cases (p.1 : Int) (p.2 : Int) with ⟨e1, e2, l⟩ | ⟨e1, e2, l⟩ <;> rw [e1, e2]
  · rw [show min p.1 p.2 = p.1 by omega, show max p.1 p.2 = p.2 by omega]
  · rw [show min p.1 p.2 = p.2 by omega, show max p.1 p.2 = p.1 by omega]
theorem shW_mem {us : List (Nat × Nat)} {p : Int × Int} : p ∈ shW us ↔ ∃ q ∈ us, p = pN (min q.1 q.2, max q.1 q.2) := by
  unfold shW
  rw [(sortP_perm _).mem_iff, List.mem_map]
  constructor
  · rintro ⟨r, hr, rfl⟩
    obtain ⟨q, hq, rfl⟩ := List.mem_map.mp hr
    exact ⟨q, hq, nrm34_pN q⟩
  · rintro ⟨q, hq, rfl⟩
    exact ⟨pN q, List.mem_map.mpr ⟨q, hq, rfl⟩, nrm34_pN q⟩
theorem shW_adj {us : List (Nat × Nat)} {a b : Int} : Adj (shW us) a b ↔ ∃ q ∈ us, (a = q.1 ∧ b = q.2) ∨ (a = q.2 ∧ b = q.1) := by
  unfold Adj
  rw [shW_mem, shW_mem]
  constructor
  · rintro (⟨q, hq, e⟩ | ⟨q, hq, e⟩) <;> (unfold pN at e; injection e with e1 e2; refine ⟨q, hq, ?_⟩; dsimp only at e1 e2; omega)
  · rintro ⟨q, hq, h⟩
    by_cases l : q.1 ≤ q.2
    · rcases h with ⟨rfl, rfl⟩ | ⟨rfl, rfl⟩
      · exact .inl ⟨q, hq, by unfold pN; rw [show min q.1 q.2 = q.1 by omega, show max q.1 q.2 = q.2 by omega]⟩
      · exact .inr ⟨q, hq, by unfold pN; rw [show min q.1 q.2 = q.1 by omega, show max q.1 q.2 = q.2 by omega]⟩
    · rcases h with ⟨rfl, rfl⟩ | ⟨rfl, rfl⟩
      · exact .inr ⟨q, hq, by unfold pN; rw [show min q.1 q.2 = q.2 by omega, show max q.1 q.2 = q.1 by omega]⟩
      · exact .inl ⟨q, hq, by unfold pN; rw [show min q.1 q.2 = q.2 by omega, show max q.1 q.2 = q.1 by omega]⟩
section
variable {m : Nat} {us : List (Nat × Nat)} {d : Nat → Nat → Nat} (h : shapeB m us d = true)
include h
theorem sh_parts : (1 ≤ m ∧ m ≤ 60) ∧ (∀ p ∈ us, p.1 < m ∧ p.2 < m ∧ p.1 ≠ p.2) ∧ (us.map fun p => (min p.1 p.2, max p.1 p.2)).Nodup ∧ us.length ≤ 700 ∧
    ∀ i, i < m → d i i = 0 ∧ (∀ p ∈ us, d i p.2 ≤ d i p.1 + 1 ∧ d i p.1 ≤ d i p.2 + 1) ∧ ∀ v, v < m → v ≠ i → ∃ p ∈ us, (p.2 = v ∧ d i p.1 + 1 = d i v) ∨ (p.1 = v ∧ d i p.2 + 1 = d i v) := by
  unfold shapeB at h
  rw [Bool.and_eq_true, Bool.and_eq_true, Bool.and_eq_true, Bool.and_eq_true, Bool.and_eq_true, decide_eq_true_eq, decide_eq_true_eq, decide_eq_true_eq, decide_eq_true_eq] at h
  obtain ⟨⟨h1, h2⟩, h3, h4, h5, h6⟩ := h
  refine ⟨⟨h1, h2⟩, fun p hp => ?_, h4, h5, fun i hi => ?_⟩
  · have := List.all_eq_true.mp h3 p hp
    rw [Bool.and_eq_true, Bool.and_eq_true, decide_eq_true_eq, decide_eq_true_eq, Bool.not_eq_true'] at this
    exact ⟨this.1, this.2.1, fun e => by rw [e, Nat.beq_refl] at this; exact absurd this.2.2 (by decide)⟩
  · have := List.all_eq_true.mp h6 i (List.mem_range.mpr hi)
    rw [Bool.and_eq_true, Bool.and_eq_true] at this
    obtain ⟨g1, g2, g3⟩ := this
    refine ⟨Nat.eq_of_beq_eq_true g1, fun p hp => ?_, fun v hv hne => ?_⟩
    · have := List.all_eq_true.mp g2 p hp
      rw [Bool.and_eq_true] at this
      exact ⟨Nat.le_of_ble_eq_true this.1, Nat.le_of_ble_eq_true this.2⟩
    · have := List.all_eq_true.mp g3 v (List.mem_range.mpr hv)
      rw [Bool.or_eq_true] at this
      rcases this with z | z
      · exact absurd (Nat.eq_of_beq_eq_true z) hne
      · obtain ⟨p, hp, z⟩ := List.any_eq_true.mp z
        rw [Bool.or_eq_true, Bool.and_eq_true, Bool.and_eq_true] at z
        exact ⟨p, hp, z.imp (fun z => ⟨Nat.eq_of_beq_eq_true z.1, Nat.eq_of_beq_eq_true z.2⟩) fun z => ⟨Nat.eq_of_beq_eq_true z.1, Nat.eq_of_beq_eq_true z.2⟩⟩
theorem sh_dist {i : Nat} (hi : i < m) : IsDist (m : Int) (shW us) (i : Int) fun v => (d i v.toNat : Int) := by
  obtain ⟨_, h3, _, _, h6⟩ := sh_parts h
  obtain ⟨g1, g2, g3⟩ := h6 i hi
  refine ⟨?_, fun _ _ _ => by omega, fun a b hab => ?_, fun v v0 v1 hne => ?_⟩
  · show ((d i (i : Int).toNat : Nat) : Int) = 0
    rw [Int.toNat_natCast, g1]; rfl
  · obtain ⟨q, hq, e⟩ := shW_adj.mp hab
    have := g2 q hq
    show ((d i b.toNat : Nat) : Int) ≤ (d i a.toNat : Nat) + 1
    rcases e with ⟨rfl, rfl⟩ | ⟨rfl, rfl⟩ <;> rw [Int.toNat_natCast, Int.toNat_natCast] <;> omega
  · obtain ⟨p, hp, z⟩ := g3 v.toNat (by omega) (by omega)
    have hp2 := h3 p hp
    rcases z with ⟨z1, z2⟩ | ⟨z1, z2⟩
    · refine ⟨p.1, by omega, by omega, shW_adj.mpr ⟨p, hp, .inl ⟨rfl, by omega⟩⟩, ?_⟩
      show ((d i (p.1 : Int).toNat : Nat) : Int) + 1 = (d i v.toNat : Nat)
      rw [Int.toNat_natCast]; omega
    · refine ⟨p.2, by omega, by omega, shW_adj.mpr ⟨p, hp, .inr ⟨rfl, by omega⟩⟩, ?_⟩
      show ((d i (p.2 : Int).toNat : Nat) : Int) + 1 = (d i v.toNat : Nat)
      rw [Int.toNat_natCast]; omega
theorem sh_conn : Conn (m : Int) (shW us) := by
  intro S h0 hc
  obtain ⟨⟨h1, _⟩, _⟩ := sh_parts h
  have D := sh_dist h (i := 0) (by omega)
  have key : ∀ (k : Nat) (v : Int), (d 0 v.toNat) = k → 0 ≤ v → v < m → S v := by
    intro k
    induction k using Nat.strongRecOn with
    | _ k ih =>
      intro v hk v0 v1
      by_cases e : v = 0
      · rw [e]; exact h0
      · obtain ⟨w, w0, w1, ha, ew⟩ := D.desc v v0 v1 e
        have ew' : ((d 0 w.toNat : Nat) : Int) + 1 = (d 0 v.toNat : Nat) := ew
        have := ih (d 0 w.toNat) (by omega) w rfl w0 w1
        rcases ha with ha | ha
        · exact (hc _ ha).mp this
        · exact (hc _ ha).mpr this
  exact fun v v0 v1 => key _ v rfl v0 v1
theorem pN_inj {p q : Nat × Nat} (e : pN p = pN q) : p = q := by
  unfold pN at e
  injection e with e1 e2
  exact Prod.ext (by omega) (by omega)
theorem sh_nd : ((us.map pN).map nrm34).Nodup := by
  obtain ⟨_, _, h4, _⟩ := sh_parts h
  have e : (us.map pN).map nrm34 = (us.map fun p => (min p.1 p.2, max p.1 p.2)).map pN := by
    rw [List.map_map, List.map_map]
    exact List.map_congr_left fun p _ => nrm34_pN p
  rw [e]
  exact List.Pairwise.map _ (fun a b (hne : a ≠ b) z => hne (pN_inj h z)) h4
theorem sh_ties : TiesOk 700 (m : Int) ((us.map pN).map nrm34) := by
  obtain ⟨_, h3, _, h5, _⟩ := sh_parts h
  refine ⟨fun p hp => ?_, sh_nd h, ?_, by rw [List.length_map, List.length_map]; exact h5⟩
  · obtain ⟨r, hr, rfl⟩ := List.mem_map.mp hp
    obtain ⟨q, hq, rfl⟩ := List.mem_map.mp hr
    rw [nrm34_pN]
    have := h3 q hq
    show (0 : Int) ≤ ((min q.1 q.2 : Nat) : Int) ∧ ((min q.1 q.2 : Nat) : Int) < ((max q.1 q.2 : Nat) : Int) ∧ ((max q.1 q.2 : Nat) : Int) < (m : Int)
    omega
  · exact (sh_conn h).mono fun p hp => (sortP_perm _).mem_iff.mp hp
theorem sh_web : WebOk (m : Int) (shW us) := by
  obtain ⟨⟨h1, h2⟩, _⟩ := sh_parts h
  have T := sh_ties h
  have P := sortP_perm ((us.map pN).map nrm34)
  refine ⟨by omega, by omega, fun p hp => T.rg p (P.mem_iff.mp hp), P.nodup_iff.mpr T.nd, sh_conn h, by unfold shW; rw [P.length_eq]; exact T.len, ?_⟩
  exact (sortP_eq (List.Perm.refl _) (sortP_sorted _)).symm
theorem sh_dst {i v : Int} (i0 : 0 ≤ i) (i1 : i < m) (v0 : 0 ≤ v) (v1 : v < m) : dst (m : Int) (shW us) i v = (d i.toNat v.toNat : Int) := by
  have D := sh_dist h (i := i.toNat) (by omega)
  rw [show ((i.toNat : Nat) : Int) = i by omega] at D
  exact (dst_eq D v v0 v1).symm
end
/-- the things of a shape, places as a pair twice the same -/
def plN (m : Nat) : List (Nat × Nat) := (List.range m).map fun i => (i, i)
def tiN (us : List (Nat × Nat)) : List (Nat × Nat) := us.map fun p => (min p.1 p.2, max p.1 p.2)
def thN (m : Nat) (us : List (Nat × Nat)) (k : Str) : List (Nat × Nat) := if k = ("places" : Str) then plN m else if k = ("ties" : Str) then tiN us else plN m ++ tiN us
def mkT (p : Nat × Nat) : Thing := if p.1 = p.2 then .pl p.1 else .ti p.1 p.2
section
variable {m : Nat} {us : List (Nat × Nat)} {d : Nat → Nat → Nat} {k : Str} (h : shapeB m us d = true)
include h
theorem th_rg {p : Nat × Nat} (hp : p ∈ thN m us k) : p.1 < m ∧ p.2 < m ∧ p.1 ≤ p.2 := by
  obtain ⟨_, h3, _⟩ := sh_parts h
  have pl : p ∈ plN m → p.1 < m ∧ p.2 < m ∧ p.1 ≤ p.2 := fun hp => by
    obtain ⟨i, hi, rfl⟩ := List.mem_map.mp hp
    have := List.mem_range.mp hi
    exact ⟨this, this, Nat.le_refl _⟩
  have ti : p ∈ tiN us → p.1 < m ∧ p.2 < m ∧ p.1 ≤ p.2 := fun hp => by
    obtain ⟨q, hq, rfl⟩ := List.mem_map.mp hp
    have := h3 q hq
    show min q.1 q.2 < m ∧ max q.1 q.2 < m ∧ min q.1 q.2 ≤ max q.1 q.2
    omega
  unfold thN at hp
  split at hp
  · exact pl hp
  · split at hp
    · exact ti hp
    · exact (List.mem_append.mp hp).elim pl ti
theorem ti_ne {p : Nat × Nat} (hp : p ∈ tiN us) : p.1 ≠ p.2 := by
  obtain ⟨_, h3, _⟩ := sh_parts h
  obtain ⟨q, hq, rfl⟩ := List.mem_map.mp hp
  have := h3 q hq
  show min q.1 q.2 ≠ max q.1 q.2
  omega
theorem th_mem {X : Thing} : X ∈ kindT (m : Int) (shW us) k ↔ ∃ p ∈ thN m us k, X = mkT p := by
  have pl : ∀ X, X ∈ mkpl (rng 0 (m : Int)) ↔ ∃ p ∈ plN m, X = mkT p := fun X => by
    rw [pl_mem]
    constructor
    · rintro ⟨i, rfl, i0, i1⟩
      refine ⟨(i.toNat, i.toNat), List.mem_map.mpr ⟨i.toNat, List.mem_range.mpr (by omega), rfl⟩, ?_⟩
      unfold mkT
      rw [if_pos rfl]
      congr 1
      show i = ((i.toNat : Nat) : Int)
      omega
    · rintro ⟨p, hp, rfl⟩
      obtain ⟨i, hi, rfl⟩ := List.mem_map.mp hp
      have := List.mem_range.mp hi
      exact ⟨(i : Int), by unfold mkT; rw [if_pos rfl], by omega, by omega⟩
  have ti : ∀ X, X ∈ mkti (shW us) ↔ ∃ p ∈ tiN us, X = mkT p := fun X => by
    rw [ti_mem]
    constructor
    · rintro ⟨a, b, rfl, hab⟩
      obtain ⟨q, hq, e⟩ := shW_mem.mp hab
      have hm : (min q.1 q.2, max q.1 q.2) ∈ tiN us := List.mem_map.mpr ⟨q, hq, rfl⟩
      refine ⟨_, hm, ?_⟩
      unfold mkT
      rw [if_neg (ti_ne h hm)]
      unfold pN at e
      injection e with e1 e2
      rw [e1, e2]
    · rintro ⟨p, hp, rfl⟩
      obtain ⟨q, hq, e⟩ := List.mem_map.mp hp
      unfold mkT
      rw [if_neg (ti_ne h hp)]
      exact ⟨_, _, rfl, shW_mem.mpr ⟨q, hq, by rw [← e]; rfl⟩⟩
  unfold kindT thN
  by_cases h1 : k = ("places" : Str)
  · rw [if_pos (decide_eq_true h1), if_pos h1]; exact pl X
  · rw [if_neg (by rw [decide_eq_true_eq]; exact h1), if_neg h1]
    by_cases h2 : k = ("ties" : Str)
    · rw [if_pos (decide_eq_true h2), if_pos h2]; exact ti X
    · rw [if_neg (by rw [decide_eq_true_eq]; exact h2), if_neg h2]
      unfold allT
      rw [List.mem_append, pl, ti]
      constructor
      · rintro (⟨p, hp, e⟩ | ⟨p, hp, e⟩)
        · exact ⟨p, List.mem_append_left _ hp, e⟩
        · exact ⟨p, List.mem_append_right _ hp, e⟩
      · rintro ⟨p, hp, e⟩
        rcases List.mem_append.mp hp with hp | hp
        · exact .inl ⟨p, hp, e⟩
        · exact .inr ⟨p, hp, e⟩
theorem th_inj {p q : Nat × Nat} (e : mkT p = mkT q) : p = q := by
  unfold mkT at e
  split at e
  · split at e
    · injection e with e1
      exact Prod.ext (by omega) (by omega)
    · cases e
  · split at e
    · cases e
    · injection e with e1 e2
      exact Prod.ext (by omega) (by omega)
theorem th_far {p : Nat × Nat} (hp : p ∈ thN m us k) {l : Int} (l0 : 0 ≤ l) (l1 : l < m) : farT (m : Int) (shW us) l (mkT p) = (min (d l.toNat p.1) (d l.toNat p.2) : Nat) := by
  have hr := th_rg h hp
  unfold mkT
  by_cases q : p.1 = p.2
  · rw [if_pos q]
    show dst (m : Int) (shW us) l (p.1 : Int) = _
    rw [sh_dst h l0 l1 (by omega) (by omega), Int.toNat_natCast, q, Nat.min_self]
  · rw [if_neg q]
    show min2 (dst (m : Int) (shW us) l (p.1 : Int)) (dst (m : Int) (shW us) l (p.2 : Int)) = _
    rw [sh_dst h l0 l1 (by omega) (by omega), sh_dst h l0 l1 (by omega) (by omega), Int.toNat_natCast, Int.toNat_natCast]
    rcases mm_cases (d l.toNat p.1 : Int) (d l.toNat p.2 : Int) with ⟨e1, _, _⟩ | ⟨e1, _, _⟩ <;> rw [e1] <;> omega
end
/-! ### known webs: shares and prices, by looking -/
section
open MSim
def nsm : Nat → (Nat → Nat) → Nat
  | 0, _ => 0
  | k + 1, f => nsm k f + f k
theorem nsm_cast {f : Nat → Nat} : ∀ k, ((nsm k f : Nat) : Int) = sm k fun i => (f i : Int)
  | 0 => rfl
  | k + 1 => by
    show ((nsm k f + f k : Nat) : Int) = sm k (fun i => (f i : Int)) + (f k : Int)
    rw [← nsm_cast k]
    omega
def parN (d : Nat → Nat → Nat) (x y : Nat × Nat) (p : Nat) : Bool := !Nat.beq (min (d p x.1) (d p x.2)) (min (d p y.1) (d p y.2))
def cntP (d : Nat → Nat → Nat) : List ((Nat × Nat) × (Nat × Nat)) → Nat → Nat
  | [], _ => 0
  | q :: l, p => cntP d l p + if parN d q.1 q.2 p = true then 1 else 0
def memN (x : Nat × Nat) (l : List (Nat × Nat)) : Bool := l.any fun y => Nat.beq x.1 y.1 && Nat.beq x.2 y.2
theorem memN_t {x : Nat × Nat} {l : List (Nat × Nat)} (h : memN x l = true) : x ∈ l := by
  obtain ⟨y, hy, e⟩ := List.any_eq_true.mp h
  rw [Bool.and_eq_true] at e
  have : x = y := Prod.ext (Nat.eq_of_beq_eq_true e.1) (Nat.eq_of_beq_eq_true e.2)
  rw [this]
  exact hy
def eqN (x y : Nat × Nat) : Bool := Nat.beq x.1 y.1 && Nat.beq x.2 y.2
theorem eqN_t {x y : Nat × Nat} : eqN x y = true ↔ x = y := by
  unfold eqN
  rw [Bool.and_eq_true]
  exact ⟨fun e => Prod.ext (Nat.eq_of_beq_eq_true e.1) (Nat.eq_of_beq_eq_true e.2), fun e => by rw [e]; exact ⟨Nat.beq_refl _, Nat.beq_refl _⟩⟩
/-- shares s reach Bl and come to A; pairs in Q, of price one each, load no place by more than dB; A by Bl is as their number by dB -/
def lpB (m : Nat) (us : List (Nat × Nat)) (d : Nat → Nat → Nat) (k : Str) (s : Nat → Nat) (A Bl dB : Nat) (Q : List ((Nat × Nat) × (Nat × Nat))) : Bool :=
  (((thN m us k).all fun x => (thN m us k).all fun y => eqN x y || Nat.ble Bl (nsm m fun p => if parN d x y p = true then s p else 0)) && (Nat.beq (nsm m s) A && Nat.ble 1 Bl)) &&
  ((Q.all fun q => memN q.1 (thN m us k) && (memN q.2 (thN m us k) && !eqN q.1 q.2)) && (((List.range m).all fun p => Nat.ble (cntP d Q p) dB) && (Nat.beq (Q.length * Bl) (A * dB) && Nat.ble 1 dB)))
variable {m : Nat} {us : List (Nat × Nat)} {d : Nat → Nat → Nat} (h : shapeB m us d = true) {k : Str}
include h
theorem th_apart {x y : Nat × Nat} (hx : x ∈ thN m us k) (hy : y ∈ thN m us k) {p : Nat} (hp : p < m) : (!decide (farT (m : Int) (shW us) (p : Int) (mkT x) = farT (m : Int) (shW us) (p : Int) (mkT y))) = parN d x y p := by
  rw [th_far h hx (by omega) (by omega), th_far h hy (by omega) (by omega), Int.toNat_natCast]
  unfold parN
  by_cases e : min (d p x.1) (d p x.2) = min (d p y.1) (d p y.2)
  · rw [e, decide_eq_true rfl, Nat.beq_refl]
  · rw [decide_eq_false (show ¬ (((min (d p x.1) (d p x.2) : Nat) : Int) = ((min (d p y.1) (d p y.2) : Nat) : Int)) from fun z => e (Int.ofNat.inj z))]
    cases c : Nat.beq (min (d p x.1) (d p x.2)) (min (d p y.1) (d p y.2)) with
    | false => rfl
    | true => exact absurd (Nat.eq_of_beq_eq_true c) e
theorem shape_lp {s : Nat → Nat} {A Bl dB : Nat} {Q : List ((Nat × Nat) × (Nat × Nat))} (lp : lpB m us d k s A Bl dB Q = true) {o : List Int} (ho : o.Perm (rng 0 (m : Int))) {B : Int} {sh : List Int} {pr : List ToldT} (so : SharesOk m (partedL (m : Int) (sortP ((shW us).map (moved o))) k) B sh pr) : sh.sum * (Bl : Int) = (A : Int) * B := by
  have hw := sh_web h
  have hm := moved_web ho hw
  unfold lpB at lp
  rw [Bool.and_eq_true, Bool.and_eq_true, Bool.and_eq_true, Bool.and_eq_true, Bool.and_eq_true, Bool.and_eq_true] at lp
  obtain ⟨⟨p1, p2, p3⟩, p4, p5, p6, p7⟩ := lp
  have p2' := Nat.eq_of_beq_eq_true p2
  have p3' := Nat.le_of_ble_eq_true p3
  have p6' := Nat.eq_of_beq_eq_true p6
  have p7' := Nat.le_of_ble_eq_true p7
  have q6 : ((Q.length : Nat) : Int) * (Bl : Int) = (A : Int) * (dB : Int) := by
    have := congrArg (fun z : Nat => (z : Int)) p6'
    rw [Int.natCast_mul, Int.natCast_mul] at this
    exact this
  apply Int.le_antisymm
  · have r : ReachT m (shW us) k (fun p => (s p : Int)) (Bl : Int) := fun X hX Y hY hne => by
      obtain ⟨x, hx, rfl⟩ := (th_mem h).mp hX
      obtain ⟨y, hy, rfl⟩ := (th_mem h).mp hY
      have := List.all_eq_true.mp (List.all_eq_true.mp p1 x hx) y hy
      rw [Bool.or_eq_true] at this
      rcases this with z | z
      · exact absurd (by rw [eqN_t.mp z]) hne
      · have z' := Int.ofNat_le.mpr (Nat.le_of_ble_eq_true z)
        rw [nsm_cast] at z'
        refine Int.le_trans z' (Int.le_of_eq (sm_congr fun p hp => ?_))
        rw [th_apart h hx hy hp]
        cases parN d x y p with
        | true => exact (Int.one_mul _).symm
        | false => exact (Int.zero_mul _).symm
    have r' := reach_push (s' := pushS o fun p => (s p : Int)) ho hw (fun p hp => pushS_at ho hp) r
    have lo := so_low hm so (fun p _ => by unfold pushS; exact Int.natCast_nonneg _) r'
    have e1 : sm m (pushS o fun p => (s p : Int)) = (A : Int) := by
      rw [← sm_moved ho]
      refine Eq.trans (sm_congr fun p hp => pushS_at ho hp) ?_
      rw [← nsm_cast, p2']
    rw [e1, Int.mul_comm (Bl : Int)] at lo
    exact lo
  · have r := reach_pull ho hw (so_reach hm so)
    have q := dual_prices (m := m) (L := Q) (w := fun _ => 1) (a := fun q p => b2i (parN d q.1 q.2 p)) (s := fun p => sh.getD (nmO o (p : Int)).toNat 0) (B := B) (v := (dB : Int)) (fun _ _ => by decide) (fun p hp => by
      have := nm_rg ho hw (a := (p : Int)) (by omega) (by omega)
      exact so.nn _ (by omega)) (fun p hp => by
      have z := Int.ofNat_le.mpr (Nat.le_of_ble_eq_true (List.all_eq_true.mp p5 p (List.mem_range.mpr hp)))
      refine Int.le_trans (Int.le_of_eq ?_) z
      clear p4 p5 p6 p6' q6 z
      induction Q with
      | nil => rfl
      | cons q Q ih =>
        rw [List.map_cons, List.sum_cons, ih]
        show b2i (parN d q.1 q.2 p) * 1 + ((cntP d Q p : Nat) : Int) = ((cntP d Q p + if parN d q.1 q.2 p = true then 1 else 0 : Nat) : Int)
        cases parN d q.1 q.2 p with
        | true =>
          show (1 : Int) * 1 + _ = ((cntP d Q p + 1 : Nat) : Int)
          omega
        | false =>
          show (0 : Int) * 1 + _ = ((cntP d Q p + 0 : Nat) : Int)
          omega) (fun q hq => by
      have z := List.all_eq_true.mp p4 q hq
      rw [Bool.and_eq_true, Bool.and_eq_true, Bool.not_eq_true'] at z
      obtain ⟨z1, z2, z3⟩ := z
      have hx := memN_t z1
      have hy := memN_t z2
      refine Int.le_trans (r _ ((th_mem h).mpr ⟨_, hx, rfl⟩) _ ((th_mem h).mpr ⟨_, hy, rfl⟩) fun e => ?_) (Int.le_of_eq (sm_congr fun p hp => ?_))
      · rw [eqN_t.mpr (th_inj h e)] at z3
        cases z3
      · show b2i _ * _ = _
        rw [th_apart h hx hy hp])
    have e1 : (sm m fun p => sh.getD (nmO o (p : Int)).toNat 0) = sh.sum := by
      rw [sm_moved ho (f := fun p => sh.getD p 0)]
      exact so_sum hm so
    have e2 : (Q.map fun _ => (1 : Int)).sum = (Q.length : Int) := by
      clear p4 p5 p6 p6' q6 q
      induction Q with
      | nil => rfl
      | cons q Q ih =>
        rw [List.map_cons, List.sum_cons, ih, List.length_cons]
        omega
    rw [e1, e2] at q
    -- Q.length * B ≤ dB * sh.sum
    have q2 : (Bl : Int) * ((Q.length : Int) * B) ≤ (Bl : Int) * ((dB : Int) * sh.sum) := Int.mul_le_mul_of_nonneg_left q (by omega)
    rw [← Int.mul_assoc, Int.mul_comm (Bl : Int) (Q.length : Int), q6] at q2
    have e3 : (A : Int) * (dB : Int) * B = (dB : Int) * ((A : Int) * B) := by rw [Int.mul_comm (A : Int), Int.mul_assoc]
    have e4 : (Bl : Int) * ((dB : Int) * sh.sum) = (dB : Int) * (sh.sum * (Bl : Int)) := by rw [Int.mul_left_comm, Int.mul_comm (Bl : Int)]
    rw [e3, e4] at q2
    exact Int.le_of_mul_le_mul_left q2 (by omega)
end
end G
namespace G
open PySem L2 Z
/-! ### the known shapes -/
def wayB (m w a b : Nat) : Bool := if Nat.beq w 0 = true then Nat.beq (a + 1) b else if Nat.beq w 1 = true then Nat.beq (a + 1) b || (Nat.ble 3 m && (Nat.beq a 0 && Nat.beq (b + 1) m)) else if Nat.beq w 2 = true then Nat.beq a 0 else true
def wayU (m w : Nat) : List (Nat × Nat) := (List.range m).flatMap fun b => ((List.range b).filter fun a => wayB m w a b).map fun a => (a, b)
def ringD (m i j : Nat) : Nat := min ((i + m - j) % m) ((j + m - i) % m)
def wayD (m w i j : Nat) : Nat := if Nat.beq w 0 = true then (if Nat.ble i j = true then j - i else i - j) else if Nat.beq w 1 = true then ringD m i j else if Nat.beq i j = true then 0 else if Nat.beq w 2 = true && !(Nat.beq i 0 || Nat.beq j 0) then 2 else 1
def wayS (m w p : Nat) : Nat := if Nat.beq m 1 = true then 0 else if Nat.beq m 2 = true || (Nat.beq w 0 || false) then (if Nat.beq p 0 = true then 1 else 0) else if Nat.beq w 2 = true then (if Nat.beq m 3 = true then (if Nat.beq p 1 = true then 1 else 0) else if Nat.beq p 0 = true then 0 else 1) else 1
def wayA (m w : Nat) : Nat := if Nat.beq m 1 = true then 0 else if Nat.beq m 2 = true || (Nat.beq w 0 || (Nat.beq w 2 && Nat.beq m 3)) then 1 else if Nat.beq w 1 = true then m else if Nat.beq w 2 = true then m - 1 else m
def wayL (m w : Nat) : Nat := if Nat.beq m 1 = true then 1 else if Nat.beq m 2 = true || (Nat.beq w 0 || (Nat.beq w 2 && Nat.beq m 3)) then 1 else if Nat.beq w 1 = true then m - 2 + m % 2 else 2
/-- each two things, the one ahead of the other -/
def prsN : List (Nat × Nat) → List ((Nat × Nat) × (Nat × Nat))
  | [] => []
  | x :: l => (l.map fun y => (x, y)) ++ prsN l
def numN (m : Nat) (d : Nat → Nat → Nat) (q : (Nat × Nat) × (Nat × Nat)) : Nat := nsm m fun p => if parN d q.1 q.2 p = true then 1 else 0
/-- those that are parted least -/
def fewQ (m : Nat) (us : List (Nat × Nat)) (d : Nat → Nat → Nat) (k : Str) : List ((Nat × Nat) × (Nat × Nat)) := (prsN (thN m us k)).filter fun q => (prsN (thN m us k)).all fun r => Nat.ble (numN m d q) (numN m d r)
def maxQ (m : Nat) (d : Nat → Nat → Nat) (Q : List ((Nat × Nat) × (Nat × Nat))) : Nat := (List.range m).foldl (fun c p => max c (cntP d Q p)) 1
theorem wayC : (List.range 7).all (fun i => (List.range 4).all fun w => shapeB (i + 1) (wayU (i + 1) w) (wayD (i + 1) w) && lpB (i + 1) (wayU (i + 1) w) (wayD (i + 1) w) "places" (wayS (i + 1) w) (wayA (i + 1) w) (wayL (i + 1) w) (maxQ (i + 1) (wayD (i + 1) w) (fewQ (i + 1) (wayU (i + 1) w) (wayD (i + 1) w) "places")) (fewQ (i + 1) (wayU (i + 1) w) (wayD (i + 1) w) "places")) = true := by decide +kernel
theorem wayR : (List.range 5).all (fun i => lpB (i + 3) (wayU (i + 3) 1) (wayD (i + 3) 1) "ties" (wayS (i + 3) 1) (wayA (i + 3) 1) (wayL (i + 3) 1) (maxQ (i + 3) (wayD (i + 3) 1) (fewQ (i + 3) (wayU (i + 3) 1) (wayD (i + 3) 1) "ties")) (fewQ (i + 3) (wayU (i + 3) 1) (wayD (i + 3) 1) "ties")) = true := by decide +kernel
def ratB (m w : Nat) : Bool := match law_ratio (m : Int) (w : Int) with
  | .ok r => decide (r.1 = (wayA m w : Int)) && decide (r.2 = (wayL m w : Int))
  | _ => false
theorem ratC : (List.range 7).all (fun i => (List.range 4).all fun w => ratB (i + 1) w) = true := by decide +kernel
theorem ratio_ok {m w : Nat} (m1 : 1 ≤ m) (m7 : m ≤ 7) (hw : w < 4) : law_ratio (m : Int) (w : Int) = R.ok ((wayA m w : Int), (wayL m w : Int)) := by
  have h := List.all_eq_true.mp (List.all_eq_true.mp ratC (m - 1) (List.mem_range.mpr (by omega))) w (List.mem_range.mpr hw)
  rw [show m - 1 + 1 = m by omega] at h
  unfold ratB at h
  split at h
  · next r e =>
    rw [Bool.and_eq_true, decide_eq_true_eq, decide_eq_true_eq] at h
    rw [e, ← h.1, ← h.2]
  · cases h
theorem way_at {m w : Nat} (m1 : 1 ≤ m) (m7 : m ≤ 7) (hw : w < 4) : shapeB m (wayU m w) (wayD m w) = true ∧ lpB m (wayU m w) (wayD m w) "places" (wayS m w) (wayA m w) (wayL m w) (maxQ m (wayD m w) (fewQ m (wayU m w) (wayD m w) "places")) (fewQ m (wayU m w) (wayD m w) "places") = true := by
  have h := List.all_eq_true.mp (List.all_eq_true.mp wayC (m - 1) (List.mem_range.mpr (by omega))) w (List.mem_range.mpr hw)
  rw [show m - 1 + 1 = m by omega, Bool.and_eq_true] at h
  exact h
theorem ring_at {m : Nat} (m1 : 3 ≤ m) (m7 : m ≤ 7) : lpB m (wayU m 1) (wayD m 1) "ties" (wayS m 1) (wayA m 1) (wayL m 1) (maxQ m (wayD m 1) (fewQ m (wayU m 1) (wayD m 1) "ties")) (fewQ m (wayU m 1) (wayD m 1) "ties") = true := by
  have h := List.all_eq_true.mp wayR (m - 3) (List.mem_range.mpr (by omega))
  rw [show m - 3 + 3 = m by omega] at h
  exact h
/-- the ties of a known shape -/
def WayP (n way : Int) (q : Int × Int) : Prop := 0 ≤ q.1 ∧ q.1 < q.2 ∧ q.2 < n ∧ ((way = 0 ∧ q.1 = q.2 - 1) ∨ (way = 1 ∧ (q.1 = q.2 - 1 ∨ (2 < n ∧ q.1 = 0 ∧ q.2 = n - 1))) ∨ (way = 2 ∧ q.1 = 0) ∨ way = 3)
theorem wayB_t {m w a b : Nat} (hw : w < 4) : wayB m w a b = true ↔ ((w = 0 ∧ a + 1 = b) ∨ (w = 1 ∧ (a + 1 = b ∨ (3 ≤ m ∧ a = 0 ∧ b + 1 = m))) ∨ (w = 2 ∧ a = 0) ∨ w = 3) := by
  have hb : ∀ x y : Nat, Nat.beq x y = true ↔ x = y := fun x y => ⟨Nat.eq_of_beq_eq_true, fun e => by rw [e]; exact Nat.beq_refl _⟩
  have hl : ∀ x y : Nat, Nat.ble x y = true ↔ x ≤ y := fun x y => ⟨Nat.le_of_ble_eq_true, fun e => Nat.ble_eq_true_of_le e⟩
  have h4 : w = 0 ∨ w = 1 ∨ w = 2 ∨ w = 3 := by omega
  unfold wayB
  rcases h4 with rfl | rfl | rfl | rfl
  · rw [if_pos (by decide), hb]
    omega
  · rw [if_neg (by decide), if_pos (by decide), Bool.or_eq_true, Bool.and_eq_true, Bool.and_eq_true, hb, hb, hb, hl]
    omega
  · rw [if_neg (by decide), if_neg (by decide), if_pos (by decide), hb]
    omega
  · rw [if_neg (by decide), if_neg (by decide), if_neg (by decide)]
    exact ⟨fun _ => .inr (.inr (.inr rfl)), fun _ => rfl⟩
theorem way_mem {m w : Nat} (hw : w < 4) {q : Int × Int} : q ∈ shW (wayU m w) ↔ WayP (m : Int) (w : Int) q := by
  rw [shW_mem]
  unfold WayP
  constructor
  · rintro ⟨u, hu, rfl⟩
    obtain ⟨b, hb, hu⟩ := List.mem_flatMap.mp hu
    obtain ⟨a, ha, rfl⟩ := List.mem_map.mp hu
    obtain ⟨h1, h2⟩ := List.mem_filter.mp ha
    have hb' := List.mem_range.mp hb
    have ha' := List.mem_range.mp h1
    have h2' := (wayB_t hw).mp h2
    dsimp only
    rw [show min a b = a by omega, show max a b = b by omega]
    show 0 ≤ (a : Int) ∧ (a : Int) < (b : Int) ∧ (b : Int) < (m : Int) ∧ (((w : Int) = 0 ∧ (a : Int) = (b : Int) - 1) ∨ ((w : Int) = 1 ∧ ((a : Int) = (b : Int) - 1 ∨ (2 < (m : Int) ∧ (a : Int) = 0 ∧ (b : Int) = (m : Int) - 1))) ∨ ((w : Int) = 2 ∧ (a : Int) = 0) ∨ (w : Int) = 3)
    omega
  · obtain ⟨x, y⟩ := q
    rintro ⟨h0, h1, h2, h3⟩
    have h0' : 0 ≤ x := h0
    have h1' : x < y := h1
    have h2' : y < (m : Int) := h2
    have h3' : ((w : Int) = 0 ∧ x = y - 1) ∨ ((w : Int) = 1 ∧ (x = y - 1 ∨ (2 < (m : Int) ∧ x = 0 ∧ y = (m : Int) - 1))) ∨ ((w : Int) = 2 ∧ x = 0) ∨ (w : Int) = 3 := h3
    refine ⟨(x.toNat, y.toNat), List.mem_flatMap.mpr ⟨y.toNat, List.mem_range.mpr (by omega), List.mem_map.mpr ⟨x.toNat, List.mem_filter.mpr ⟨List.mem_range.mpr (by omega), (wayB_t hw).mpr (by omega)⟩, rfl⟩⟩, ?_⟩
    dsimp only
    rw [show min x.toNat y.toNat = x.toNat by omega, show max x.toNat y.toNat = y.toNat by omega]
    exact Prod.ext (by show x = ((x.toNat : Nat) : Int); omega) (by show y = ((y.toNat : Nat) : Int); omega)
theorem pairs_set {s : List Int} {n way : Int} (h : PuOk s) (n0 : 1 ≤ n) (n1 : n ≤ 7) (w0 : 0 ≤ way) (w1 : way < 4) : Post (law_pairs s n way) (fun r => ∀ q, q ∈ r.1 ↔ WayP n way q) noX := by
  unfold law_pairs
  refine po_rng (by decide) (by decide) (by omega) (by omega) ?_
  refine po_bind (po_foldP (fun pre (g : List (Int × Int) × List Int) => (g.1.length ≤ 8 * pre.length ∧ ∀ q, q ∈ g.1 ↔ (0 ≤ q.1 ∧ q.1 < q.2 ∧ q.2 < 1 + pre.length ∧ ((way = 0 ∧ q.1 = q.2 - 1) ∨ (way = 1 ∧ q.1 = q.2 - 1) ∨ (way = 2 ∧ q.1 = 0) ∨ way = 3))) ∧ PuOk g.2) ⟨⟨Nat.le_refl _, fun q => ⟨fun z => (nomatch z), fun z => (by have : q.2 < 1 + ((0 : Nat) : Int) := z.2.2.1; omega)⟩⟩, h⟩ ?_) fun g4 ⟨⟨g1, g2⟩, g3⟩ => ?_
  · rintro pre ⟨g, p⟩ x post e ⟨⟨h1, h2⟩, h3⟩
    have h1' : g.length ≤ 8 * pre.length := h1
    have h2' : ∀ q, q ∈ g ↔ (0 ≤ q.1 ∧ q.1 < q.2 ∧ q.2 < 1 + (pre.length : Int) ∧ ((way = 0 ∧ q.1 = q.2 - 1) ∨ (way = 1 ∧ q.1 = q.2 - 1) ∨ (way = 2 ∧ q.1 = 0) ∨ way = 3)) := h2
    have hx := rng_pre e
    obtain ⟨_, x1, xn⟩ := rng_split e
    have hlen : ((pre ++ [x]).length : Int) = x := by
      rw [List.length_append, List.length_singleton]
      omega
    refine po_bind (take_ok h3 (by omega) (by omega)) fun y ⟨y0, y1, hy⟩ => ?_
    have hw4 : way = 0 ∨ way = 1 ∨ way = 2 ∨ way = 3 := by omega
    rcases hw4 with rfl | rfl | rfl | rfl
    · have hg : getI ([(x - (1 : Int)), (x - (1 : Int)), (0 : Int), y.1] : List Int) (min2 0 3) = R.ok (x - 1) := rfl
      rw [hg, ok_bind]
      refine po_app (by omega) (po_if (fun c => absurd (of_decide_eq_true c) (by decide)) fun _ => ⟨⟨?_, fun q => ?_⟩, hy⟩)
      · show (g ++ [_]).length ≤ _
        rw [List.length_append, List.length_append, List.length_singleton, List.length_singleton]
        omega
      · show q ∈ g ++ [(x - 1, x)] ↔ _
        rw [List.mem_append, h2', List.mem_singleton, Prod.ext_iff, hlen]
        dsimp only
        omega
    · have hg : getI ([(x - (1 : Int)), (x - (1 : Int)), (0 : Int), y.1] : List Int) (min2 1 3) = R.ok (x - 1) := rfl
      rw [hg, ok_bind]
      refine po_app (by omega) (po_if (fun c => absurd (of_decide_eq_true c) (by decide)) fun _ => ⟨⟨?_, fun q => ?_⟩, hy⟩)
      · show (g ++ [_]).length ≤ _
        rw [List.length_append, List.length_append, List.length_singleton, List.length_singleton]
        omega
      · show q ∈ g ++ [(x - 1, x)] ↔ _
        rw [List.mem_append, h2', List.mem_singleton, Prod.ext_iff, hlen]
        dsimp only
        omega
    · have hg : getI ([(x - (1 : Int)), (x - (1 : Int)), (0 : Int), y.1] : List Int) (min2 2 3) = R.ok 0 := rfl
      rw [hg, ok_bind]
      refine po_app (by omega) (po_if (fun c => absurd (of_decide_eq_true c) (by decide)) fun _ => ⟨⟨?_, fun q => ?_⟩, hy⟩)
      · show (g ++ [_]).length ≤ _
        rw [List.length_append, List.length_append, List.length_singleton, List.length_singleton]
        omega
      · show q ∈ g ++ [(0, x)] ↔ _
        rw [List.mem_append, h2', List.mem_singleton, Prod.ext_iff, hlen]
        dsimp only
        omega
    · have hg : getI ([(x - (1 : Int)), (x - (1 : Int)), (0 : Int), y.1] : List Int) (min2 3 3) = R.ok y.1 := rfl
      rw [hg, ok_bind]
      refine po_app (by omega) (po_if (fun _ => ?_) fun c => absurd (show decide ((3 : Int) = 3) = true by decide) c)
      refine po_rng (by decide) (by decide) (by omega) (by omega) (po_mapGE (g := fun b : Int => (b, x)) (by rw [rng_length]; omega) (fun _ _ => rfl) ?_)
      have hl2 : ((rng 0 x).map fun b : Int => (b, x)).length = x.toNat := by
        rw [List.length_map, rng_length]
        omega
      refine po_extend (by rw [List.length_append, List.length_singleton, hl2]; omega) ⟨⟨?_, fun q => ?_⟩, hy⟩
      · show (g ++ [_] ++ _).length ≤ _
        rw [List.length_append, List.length_append, List.length_append, List.length_singleton, List.length_singleton, hl2]
        omega
      · show q ∈ g ++ [(y.1, x)] ++ (rng 0 x).map (fun b : Int => (b, x)) ↔ _
        rw [List.mem_append, List.mem_append, h2', List.mem_singleton, Prod.ext_iff, hlen]
        have hm : q ∈ (rng 0 x).map (fun b : Int => (b, x)) ↔ (0 ≤ q.1 ∧ q.1 < x ∧ q.2 = x) := by
          rw [List.mem_map]
          constructor
          · rintro ⟨b, hb, rfl⟩
            have := rng_mem.mp hb
            exact ⟨this.1, this.2, rfl⟩
          · rintro ⟨a, b, c⟩
            exact ⟨q.1, rng_mem.mpr ⟨a, b⟩, Prod.ext rfl c.symm⟩
        rw [hm]
        dsimp only
        omega
  · have hl : (1 : Int) + ((rng 1 n).length : Int) = n := by
      rw [rng_length]
      omega
    rw [hl] at g2
    have g1' : g4.1.length ≤ 8 * 7 := by
      rw [rng_length] at g1
      omega
    refine po_bind (Q := fun g => ∀ q, q ∈ g ↔ WayP n way q) (po_if (fun c => ?_) fun c => ?_) fun g26 k1 => ?_
    · have c' : (decide (way = 1) && decide ((2 : Int) < n)) = true := c
      rw [Bool.and_eq_true, decide_eq_true_eq, decide_eq_true_eq] at c'
      refine po_app (by omega) fun q => ?_
      show q ∈ g4.1 ++ [((0 : Int), n - 1)] ↔ _
      rw [List.mem_append, g2, List.mem_singleton, Prod.ext_iff]
      unfold WayP
      dsimp only
      omega
    · have c' : ¬ (way = 1 ∧ 2 < n) := fun z => c (by rw [Bool.and_eq_true, decide_eq_true_eq, decide_eq_true_eq]; exact z)
      intro q
      show q ∈ g4.1 ↔ _
      rw [g2]
      unfold WayP
      omega
    · refine po_bind (Q := fun (g : List (Int × Int) × List Int) => g.1 = g26) (po_if (fun c => ?_) fun _ => rfl) fun g35 hg q => by
        show q ∈ g35.1 ↔ _
        rw [hg]
        exact k1 q
      have := of_decide_eq_true c
      omega
end G
namespace G
open PySem L2 Z
section
open MSim
theorem po_and {α : Type} {x : R α} {P Q : α → Prop} {X : Exn → Prop} (a : Post x P X) (b : Post x Q X) : Post x (fun r => P r ∧ Q r) X := by
  cases x with
  | ok v => exact ⟨a, b⟩
  | exc e => exact a
  | bad => exact a
theorem sort_moved {o : List Int} {us vs : List (Int × Int)} (hp : vs.Perm us) : sortP (vs.map (moved o)) = sortP (us.map (moved o)) := sortP_eq ((sortP_perm _).trans (hp.map (moved o))) (sortP_sorted _)
theorem norm2_up {p : Int × Int} (h : p.1 < p.2) : norm2 p = p := by
  unfold norm2
  rcases mm_cases p.1 p.2 with ⟨e1, e2, _⟩ | ⟨_, _, z⟩
  · rw [e1, e2]
  · omega
theorem shape_ok {s : List Int} (h : PuOk s) : Post (law_shape s) (fun r => ∃ (m w : Nat) (o : List Int), 1 ≤ m ∧ m ≤ 7 ∧ w < 4 ∧ o.Perm (rng 0 (m : Int)) ∧ r.1 = (((m : Int), ⟨sortP ((shW (wayU m w)).map (moved o))⟩), (w : Int))) noX := by
  unfold law_shape
  refine po_bind (take_ok h (by decide) (by decide)) fun y2 ⟨a0, a1, h2⟩ => po_bind (take_ok h2 (by decide) (by decide)) fun y3 ⟨b0, b1, h3⟩ => ?_
  generalize hn : 1 + y3.1 = n
  generalize y2.1 = way at a0 a1
  have n1 : 1 ≤ n := by omega
  have n2 : n ≤ 26 := by omega
  have n7 : n ≤ 7 := by omega
  refine po_bind (order_ok h3 (by omega) (by omega)) fun y4 ⟨ho, h4⟩ => ?_
  refine po_bind (po_and (pairs_ok h4 n1 (by omega) a0) (pairs_set h4 n1 n7 a0 a1)) fun y11 ⟨⟨p1, p2, h11⟩, pw⟩ => ?_
  refine po_bind (po_foldP (fun pre (g : List (Int × Int)) => ∃ us : List (Int × Int), g = us.map (moved y4.1) ∧ us.Nodup ∧ (∀ q ∈ us, 0 ≤ q.1 ∧ q.1 < q.2 ∧ q.2 < n) ∧ (∀ p ∈ pre, norm2 p ∈ us) ∧ ∀ q ∈ us, ∃ p ∈ pre, q = norm2 p) ⟨[], rfl, List.nodup_nil, fun _ z => (nomatch z), fun _ z => (nomatch z), fun _ z => (nomatch z)⟩ ?_) ?_
  · rintro pre g x post e ⟨us, rfl, hd, hr, hm, hb⟩
    have hx := p1.rg x (by rw [e]; simp)
    obtain ⟨u, eu, _⟩ := perm_get ho (by omega) (k := x.1) hx.1 hx.2.1
    obtain ⟨v, ev, _⟩ := perm_get ho (by omega) (k := x.2) hx.2.2.1 hx.2.2.2.1
    rw [getI_eq hx.1 eu, ok_bind, getI_eq hx.2.2.1 ev, ok_bind]
    have em : (min2 u v, max2 u v) = moved y4.1 x := by
      unfold moved
      rw [List.getD_eq_getElem?_getD, List.getD_eq_getElem?_getD, eu, ev]
      rfl
    rw [em]
    have hn2 := norm2_rg ⟨hx.1, hx.2.1, hx.2.2.1, hx.2.2.2.1, hx.2.2.2.2⟩
    have hlen := few_pairs5 n2 hd hr
    refine po_if (fun c => ?_) fun c => ?_
    · have hnin : moved y4.1 x ∉ us.map (moved y4.1) := by
        intro z
        have : inB (moved y4.1 x) (us.map (moved y4.1)) = true := inB_t.mpr z
        rw [this] at c
        cases c
      refine po_app (by rw [List.length_map]; omega) ⟨us ++ [norm2 x], ?_, ?_, ?_, ?_, ?_⟩
      · rw [List.map_append, List.map_singleton, moved_norm]
      · rw [List.nodup_append]
        refine ⟨hd, by simp, fun a ha b hb e2 => ?_⟩
        rw [List.mem_singleton.mp hb] at e2
        exact hnin (List.mem_map.mpr ⟨a, ha, by rw [e2, moved_norm]⟩)
      · intro q hq
        rcases List.mem_append.mp hq with hq | hq
        · exact hr q hq
        · rw [List.mem_singleton.mp hq]
          exact hn2
      · intro p hp
        rcases List.mem_append.mp hp with hp | hp
        · exact List.mem_append_left _ (hm p hp)
        · rw [List.mem_singleton.mp hp]
          exact List.mem_append_right _ (List.mem_singleton.mpr rfl)
      · intro q hq
        rcases List.mem_append.mp hq with hq | hq
        · obtain ⟨p, hp, ep⟩ := hb q hq
          exact ⟨p, List.mem_append_left _ hp, ep⟩
        · exact ⟨x, by simp, List.mem_singleton.mp hq⟩
    · have hin : moved y4.1 x ∈ us.map (moved y4.1) := by
        by_cases z : moved y4.1 x ∈ us.map (moved y4.1)
        · exact z
        · have : inB (moved y4.1 x) (us.map (moved y4.1)) = false := by
            cases q : inB (moved y4.1 x) (us.map (moved y4.1)) with
            | false => rfl
            | true => exact absurd (inB_t.mp q) z
          rw [this] at c
          exact absurd rfl c
      obtain ⟨q, hq, eq⟩ := List.mem_map.mp hin
      have e2 : q = norm2 x := moved_inj ho (by omega) (hr q hq) hn2 (by rw [eq, moved_norm])
      refine ⟨us, rfl, hd, hr, fun p hp => ?_, fun q hq => ?_⟩
      · rcases List.mem_append.mp hp with hp | hp
        · exact hm p hp
        · rw [List.mem_singleton.mp hp, ← e2]
          exact hq
      · obtain ⟨p, hp, ep⟩ := hb q hq
        exact ⟨p, List.mem_append_left _ hp, ep⟩
  · rintro g ⟨us, rfl, hd, hr, hm, hb⟩
    have en : ((n.toNat : Nat) : Int) = n := by omega
    have ew : ((way.toNat : Nat) : Int) = way := by omega
    have hs := (way_at (m := n.toNat) (w := way.toNat) (by omega) (by omega) (by omega)).1
    refine ⟨n.toNat, way.toNat, y4.1, by omega, by omega, by omega, by rw [en]; exact ho, ?_⟩
    rw [en, ew]
    show ((n, (⟨sortP (us.map (moved y4.1))⟩ : Tup (Int × Int))), way) = _
    rw [sort_moved (show (shW (wayU n.toNat way.toNat)).Perm us from ?_)]
    rw [List.perm_ext_iff_of_nodup (sh_web hs).nd hd]
    intro p
    rw [way_mem (by omega), en, ew]
    constructor
    · intro hp
      have := hm p ((pw p).mpr hp)
      rw [norm2_up hp.2.1] at this
      exact this
    · intro hp
      obtain ⟨q, hq, rfl⟩ := hb p hp
      have hq' := (pw q).mp hq
      rw [norm2_up hq'.2.1]
      exact hq'
theorem sh_bd {m : Nat} {L : List PartT} {B : Int} {sh : List Int} {pr : List ToldT} (so : SharesOk m L B sh pr) (m7 : m ≤ 7) : 0 ≤ sh.sum ∧ sh.sum ≤ 7 * 50000 := by
  have := sum_bd (l := sh) (b := 50000) (by omega) fun y hy => by
    have := so.shs y hy
    omega
  have hl := so.len
  have : ((sh.length : Nat) : Int) * 50000 ≤ 7 * 50000 := Int.mul_le_mul_of_nonneg_right (by omega) (by omega)
  omega
theorem way_bd {m w : Nat} (m1 : 1 ≤ m) (m7 : m ≤ 7) : wayA m w ≤ 7 ∧ wayL m w ≤ 7 := by
  unfold wayA wayL
  constructor
  · repeat' split
    all_goals omega
  · repeat' split
    all_goals omega
theorem law_true (ns : List Int) (h : ns.length ≤ 63) : law ⟨ns⟩ = R.ok true := by
  refine po_iff ?_
  unfold law
  refine po_bind (purse_ok (by decide) (by decide)) fun y2 h2 => po_bind (shape_ok h2) fun y4 ⟨m, w, o, m1, m7, hw, ho, e4⟩ => ?_
  rw [e4]
  have hs := way_at m1 m7 hw
  have hweb := moved_web ho (sh_web hs.1)
  have hbd := way_bd (w := w) m1 m7
  show Post (law_ratio (m : Int) (w : Int) >>= _) _ _
  rw [ratio_ok m1 m7 hw, ok_bind]
  show Post (shares_of ((m : Int), ⟨sortP ((shW (wayU m w)).map (moved o))⟩) "places" >>= _) _ _
  refine po_bind (shares_ok hweb m7) fun y11 ⟨B, sh, pr, e11, so⟩ => ?_
  subst e11
  have hsum := sh_bd so m7
  have hB := so.pos
  have hB2 := so.small
  refine po_mul (.inl ⟨by show _ < sh.sum; omega, by show sh.sum < _; omega⟩) (po_mul (.inr ⟨by show _ < B; omega, by show B < _; omega⟩) ?_)
  refine po_if (fun c => ?_) fun _ => ?_
  · have e := shape_lp hs.1 hs.2 ho so
    have c' : (!decide (sh.sum * (wayL m w : Int) = (wayA m w : Int) * B)) = true := c
    rw [decide_eq_true e] at c'
    cases c'
  · refine po_if (fun c => ?_) fun _ => rfl
    have c' : (decide ((w : Int) = 1) && decide ((2 : Int) < (m : Int))) = true := c
    rw [Bool.and_eq_true, decide_eq_true_eq, decide_eq_true_eq] at c'
    obtain rfl : w = 1 := by omega
    show Post (shares_of ((m : Int), ⟨sortP ((shW (wayU m 1)).map (moved o))⟩) "ties" >>= _) _ _
    refine po_bind (shares_ok hweb m7) fun y23 ⟨B, sh, pr, e23, so⟩ => ?_
    subst e23
    have hsum := sh_bd so m7
    have hB := so.pos
    have hB2 := so.small
    refine po_mul (.inl ⟨by show _ < sh.sum; omega, by show sh.sum < _; omega⟩) (po_mul (.inr ⟨by show _ < B; omega, by show B < _; omega⟩) ?_)
    exact decide_eq_true (shape_lp hs.1 (ring_at (by omega) m7) ho so)
end
end G
namespace HD
open PySem (PyData Obj Params Str)
@[reducible] noncomputable def en (P : PySem.Params) (k : PySem.Str) (t : Nat) (v : PySem.Value) : PySem.DictEntry := .mk (PyData.keyHash P k) (.str k t) v
@[reducible] noncomputable def ob (c : PySem.Value) (d : PySem.Data) : PySem.Obj := .mk c none d (Array.mk [])
@[reducible] noncomputable def fO (c : PySem.Value) (n : PySem.Str) (s : PySem.Stmt) (pm cd : PySem.Value) : PySem.Obj := .mk c none (.func (PySem.W.fnOf n n (L2.defArgs s) (L2.defBody s) (L2.defScope s) .none .none .none pm none cd .none)) (Array.mk [])
@[reducible] noncomputable def cO (n : PySem.Str) (s : PySem.Stmt) : PySem.Obj := .mk .none none (.func (.mk n n (L2.defArgs s) (.stmts (L2.defBody s)) (L2.defScope s) 0 [] .none .none .none .none none .none .none 0)) (Array.mk [])
@[reducible] noncomputable def i (x : Int) : PySem.Value := .int x 0
@[reducible] noncomputable def n (o : PySem.Obj) (x y : PySem.W.BT) : PySem.W.BT := .node o x y
@[reducible] noncomputable def l (o : PySem.Obj) : PySem.W.BT := .node o .nil .nil
noncomputable def a0 : Str := ⟨⟨[95,95,110,97,109,101,95,95]⟩⟩
noncomputable def a1 : Str := ⟨⟨[72,97,105,108,69,114,114,111,114]⟩⟩
noncomputable def a2 : Str := ⟨⟨[86,97,108,117,101,69,114,114,111,114]⟩⟩
noncomputable def a3 : Str := ⟨⟨[78,111,80,108,97,99,101]⟩⟩
noncomputable def a4 : Str := ⟨⟨[78,111,84,104,105,110,103]⟩⟩
noncomputable def a5 : Str := ⟨⟨[78,111,76,111,111,107,115]⟩⟩
noncomputable def a6 : Str := ⟨⟨[84,111,111,77,97,110,121]⟩⟩
noncomputable def a7 : Str := ⟨⟨[110,101,97,114,95,108,105,115,116,115]⟩⟩
noncomputable def a8 : Str := ⟨⟨[102,97,114,115,95,98,121]⟩⟩
noncomputable def a9 : Str := ⟨⟨[112,108,97,99,101,95,97,115,107,101,100]⟩⟩
noncomputable def a10 : Str := ⟨⟨[102,97,114,115,95,102,114,111,109]⟩⟩
noncomputable def a11 : Str := ⟨⟨[116,97,98,108,101,95,111,102]⟩⟩
noncomputable def a12 : Str := ⟨⟨[116,104,105,110,103,115,95,111,102]⟩⟩
noncomputable def a13 : Str := ⟨⟨[108,111,111,107,115,95,97,115,107,101,100]⟩⟩
noncomputable def a14 : Str := ⟨⟨[116,104,105,110,103,95,97,115,107,101,100]⟩⟩
noncomputable def a15 : Str := ⟨⟨[102,97,114,95,98,121]⟩⟩
noncomputable def a16 : Str := ⟨⟨[99,111,100,101,95,111,102]⟩⟩
noncomputable def a17 : Str := ⟨⟨[77,79,83,84,95,83,72,65,82,69,68]⟩⟩
noncomputable def a18 : Str := ⟨⟨[97,115,107,95,115,104,97,114,101,100]⟩⟩
noncomputable def a19 : Str := ⟨⟨[112,97,114,116,101,100,95,112,97,105,114,115]⟩⟩
noncomputable def a20 : Str := ⟨⟨[108,101,97,115,116,95,112,97,114,116,101,100]⟩⟩
noncomputable def a21 : Str := ⟨⟨[99,111,109,109,111,110,95,112,97,114,116]⟩⟩
noncomputable def a22 : Str := ⟨⟨[66,111,97,114,100]⟩⟩
noncomputable def a23 : Str := ⟨⟨[115,104,97,114,101,115,95,111,102]⟩⟩
noncomputable def a24 : Str := ⟨⟨[95,108,97,119,95,112,117,114,115,101]⟩⟩
noncomputable def a25 : Str := ⟨⟨[95,108,97,119,95,116,97,107,101]⟩⟩
noncomputable def a26 : Str := ⟨⟨[95,108,97,119,95,111,114,100,101,114]⟩⟩
noncomputable def a27 : Str := ⟨⟨[95,108,97,119,95,112,97,105,114,115]⟩⟩
noncomputable def a28 : Str := ⟨⟨[95,108,97,119,95,119,101,98]⟩⟩
noncomputable def a29 : Str := ⟨⟨[95,108,97,119,95,115,104,97,112,101]⟩⟩
noncomputable def a30 : Str := ⟨⟨[95,108,97,119,95,114,97,116,105,111]⟩⟩
noncomputable def a31 : Str := ⟨⟨[108,97,119]⟩⟩
noncomputable def env : PySem.Env := ⟨(.mk .module [(a0, .local),(a1, .local),(a2, .globalImplicit),(a3, .local),(a4, .local),(a5, .local),(a6, .local),(a7, .local),(a8, .local),(a9, .local),(a10, .local),(a11, .local),(a12, .local),(a13, .local),(a14, .local),(a15, .local),(a16, .local),(a17, .local),(a18, .local),(a19, .local),(a20, .local),(a21, .local),(a22, .local),(a23, .local),(a24, .local),(a25, .local),(a26, .local),(a27, .local),(a28, .local),(a29, .local),(a30, .local),(a31, .local)] .false .false []), PySem.mainNs, PySem.mainNs, [], PySem.Str.empty, none, (.ref 13), (some 14), 0⟩
noncomputable abbrev q0 (P : Params) : Obj := PySem.W.boot_o_0 P
noncomputable abbrev q1 (P : Params) : Obj := PySem.W.boot_o_1 P
noncomputable abbrev q2 (P : Params) : Obj := PySem.W.boot_o_2 P
noncomputable abbrev q3 (P : Params) : Obj := PySem.W.boot_o_3 P
noncomputable abbrev q4 (P : Params) : Obj := PySem.W.boot_o_4 P
noncomputable abbrev q5 (P : Params) : Obj := PySem.W.boot_o_5 P
noncomputable abbrev q6 (P : Params) : Obj := PySem.W.boot_o_6 P
noncomputable abbrev q7 (P : Params) : Obj := PySem.W.boot_o_7 P
noncomputable abbrev q8 (P : Params) : Obj := PySem.W.boot_o_8 P
noncomputable abbrev q9 (P : Params) : Obj := PySem.W.boot_o_9 P
noncomputable abbrev q10 (P : Params) : Obj := PySem.W.boot_o_10 P
noncomputable abbrev b0 : String := PySem.W.SL.s2766695959194262286x5
noncomputable def o0 : Obj := (ob (.type b0) (.seq ⟨[]⟩ 0))
noncomputable def o1 : Obj := (ob .none (.fields ⟨[]⟩))
noncomputable abbrev b1 : String := PySem.W.SL.s5856160107412720595x4
noncomputable def a32 : Str := ⟨⟨[60,109,111,100,117,108,101,62]⟩⟩
noncomputable def a33 : Str := ⟨⟨[47,99,108,97,105,109,47,99,117,116,46,112,121]⟩⟩
noncomputable def o2 : Obj := (ob (.type b1) (.fields ⟨[(.str a32 182),(.str a32 183),(.str a33 184),(i 1),(i 0),(i 0),(i 0),(i 0),(.ref 11),(.bool .false),(i 181),(.ref 12),.none,.none,.none,.none,(i 185),(i 1),(.str a33 186)]⟩))
noncomputable abbrev b2 : String := PySem.W.SL.s658472552662922059x5
noncomputable def a34 : Str := ⟨⟨[95,95,109,97,105,110,95,95]⟩⟩
noncomputable def o3 : Obj := (.mk (.type b2) none .plain ⟨[(some (.ref 13)),(some (.ref 3)),(some (.ref 3)),none,(some (.str a34 164)),none,(some (.ref 0))]⟩)
noncomputable def hA (P : PySem.Params) : PySem.Heap := ⟨⟨[(q0 P), (q1 P), (q2 P), (q3 P), (q4 P), (q5 P), (q6 P), (q7 P), (q8 P), (q9 P), (q10 P), o0, o1, o2, o3]⟩, (.mk [] [] [] 0 [] [] .false ⟨[]⟩ [] 0 .false .false .false 0 [2000,10,10] .false 0 .true [] [] 0 .false)⟩
noncomputable def tB (P : PySem.Params) : PySem.W.BT := (n (q0 P) (n (q1 P) (n (q3 P) (l (q7 P)) (l o0)) (n (q5 P) (l (q9 P)) (l o2))) (n (q2 P) (n (q4 P) (l (q8 P)) (l o1)) (n (q6 P) (l (q10 P)) (l o3))))
noncomputable abbrev code : PySem.Code := .body (PySem.W.behindTheImports PySem.Challenge.pw_farhail_k49_whole_shares_of_known_webs) env
noncomputable abbrev B : List PySem.Frame := [PySem.W.topFrame (.mk 0 0 0 0)]
theorem pre0 (w : PySem.World) : (fun os : PySem.OsState => PySem.W.Fast.tw15667345088766844465 PySem.W.Fast.tw14364793385576792824 PySem.Challenge.pw_farhail_k49_whole_shares_of_known_webs w 11 (some (.ref 6)) 12 (PySem.Shared.mk (PySem.W.boot_heap w.params) (Array.mk ([] : List PySem.GenState)) PySem.W.boot_drawn PySem.W.boot_toks os) (PySem.W.topStub PySem.Challenge.pw_farhail_k49_whole_shares_of_known_webs)) = fun os => some ((PySem.Shared.mk (hA w.params) (Array.mk ([] : List PySem.GenState)) (.mk 0 0 0 0) 187 os), PySem.Thread.mk (PySem.W.Fast.tw11892475500146522536 PySem.W.Fast.tw14364793385576792824 code) code (.mk 0 0 0 0) B) := by kernel_rfl
theorem pre (w : PySem.World) (os : PySem.OsState) : PySem.W.topGo PySem.treeTable PySem.Challenge.pw_farhail_k49_whole_shares_of_known_webs w 11 (some (.ref 6)) 12 (PySem.Shared.mk (PySem.W.boot_heap w.params) (Array.mk ([] : List PySem.GenState)) PySem.W.boot_drawn PySem.W.boot_toks os) (PySem.W.topStub PySem.Challenge.pw_farhail_k49_whole_shares_of_known_webs) = some ((PySem.Shared.mk (hA w.params) (Array.mk ([] : List PySem.GenState)) (.mk 0 0 0 0) 187 os), PySem.Thread.mk (PySem.denote PySem.treeTable code) code (.mk 0 0 0 0) B) := by rw [PySem.W.Fast.te15667345088766844465, PySem.W.Fast.te14364793385576792824, PySem.W.Fast.te11892475500146522536]; exact congrFun (pre0 w) os
theorem block0 (w : PySem.World) : (fun os : PySem.OsState => PySem.W.Fast.tw14374325043358763698 PySem.W.Fast.tw14364793385576792824 PySem.Challenge.pw_farhail_k49_whole_shares_of_known_webs w 11 (some (.ref 6)) 1 1 (PySem.Shared.mk (hA w.params) (Array.mk ([] : List PySem.GenState)) (.mk 0 0 0 0) 187 os) (PySem.W.blockOf (PySem.W.behindTheImports PySem.Challenge.pw_farhail_k49_whole_shares_of_known_webs) env code (.mk 0 0 0 0) B)) = fun os => some (PySem.Flow.next, (PySem.W.SharedT.mk (tB w.params) 15 (.mk [] [] [] 0 [] [] .false ⟨[]⟩ [] 0 .false .false .false 0 [2000,10,10] .false 0 .true [] [] 0 .false) (Array.mk ([] : List PySem.GenState)) (.mk 0 0 0 0) 187 os).abs, code, (.mk 0 0 0 0)) := by kernel_rfl
theorem block (w : PySem.World) (os : PySem.OsState) : PySem.W.segRun PySem.treeTable PySem.Challenge.pw_farhail_k49_whole_shares_of_known_webs w 11 (some (.ref 6)) 1 1 (PySem.Shared.mk (hA w.params) (Array.mk ([] : List PySem.GenState)) (.mk 0 0 0 0) 187 os) (PySem.W.blockOf (PySem.W.behindTheImports PySem.Challenge.pw_farhail_k49_whole_shares_of_known_webs) env code (.mk 0 0 0 0) B) = some (PySem.Flow.next, (PySem.W.SharedT.mk (tB w.params) 15 (.mk [] [] [] 0 [] [] .false ⟨[]⟩ [] 0 .false .false .false 0 [2000,10,10] .false 0 .true [] [] 0 .false) (Array.mk ([] : List PySem.GenState)) (.mk 0 0 0 0) 187 os).abs, code, (.mk 0 0 0 0)) := by rw [PySem.W.Fast.te14374325043358763698, PySem.W.Fast.te14364793385576792824]; exact congrFun (block0 w) os
noncomputable def a35 : Str := ⟨⟨[102,97,114,104,97,105,108,46,101,114,114,111,114,115]⟩⟩
noncomputable def a36 : Str := ⟨⟨[102,97,114,104,97,105,108,46,119,101,98,115]⟩⟩
noncomputable def a37 : Str := ⟨⟨[102,97,114,104,97,105,108,46,99,111,100,101,115]⟩⟩
noncomputable def a38 : Str := ⟨⟨[102,97,114,104,97,105,108,46,115,104,97,114,101,115]⟩⟩
noncomputable def a39 : Str := ⟨⟨[95,95,105,110,105,116,95,95]⟩⟩
noncomputable def a40 : Str := ⟨⟨[103,114,111,119,105,110,103]⟩⟩
noncomputable def a41 : Str := ⟨⟨[98,111,117,110,100,115,95,109,111,114,101]⟩⟩
noncomputable def a42 : Str := ⟨⟨[98,111,117,110,100,105,110,103]⟩⟩
noncomputable def a43 : Str := ⟨⟨[116,117,114,110,95,105,110]⟩⟩
noncomputable def a44 : Str := ⟨⟨[115,111,108,118,101]⟩⟩
noncomputable def a45 : Str := ⟨⟨[112,114,105,99,101,115,95,110,111,119]⟩⟩
noncomputable def a46 : Str := ⟨⟨[98,111,116,116,111,109]⟩⟩
noncomputable def a47 : Str := ⟨⟨[104,101,108,100]⟩⟩
noncomputable def a48 : Str := ⟨⟨[108,105,110,101,115]⟩⟩
noncomputable def a49 : Str := ⟨⟨[112,114,105,99,101,100]⟩⟩
noncomputable def a50 : Str := ⟨⟨[108,97,119,95,102,97,114,104,97,105,108,95,107,52,57,95,119,104,111,108,101,95,115,104,97,114,101,115,95,111,102,95,107,110,111,119,110,95,119,101,98,115]⟩⟩
noncomputable def sts0 : List PySem.Stmt := [(.Assign [(.Name a0 (.mk 1 0 1 8))] (.Constant (.str a35) 0 (.mk 1 11 1 27)) (.mk 1 0 1 27)), (.ClassDef a1 [(.Name a2 (.mk 2 16 2 26))] [] [(.Pass (.mk 3 4 3 8))] [] [] (.mk .class [] .false .false []) none a1 [] (.mk 2 0 3 8)), (.ClassDef a3 [(.Name a1 (.mk 4 14 4 23))] [] [(.Pass (.mk 5 4 5 8))] [] [] (.mk .class [] .false .false []) none a3 [] (.mk 4 0 5 8)), (.ClassDef a4 [(.Name a1 (.mk 6 14 6 23))] [] [(.Pass (.mk 7 4 7 8))] [] [] (.mk .class [] .false .false []) none a4 [] (.mk 6 0 7 8)), (.ClassDef a5 [(.Name a1 (.mk 8 14 8 23))] [] [(.Pass (.mk 9 4 9 8))] [] [] (.mk .class [] .false .false []) none a5 [] (.mk 8 0 9 8)), (.ClassDef a6 [(.Name a1 (.mk 10 14 10 23))] [] [(.Pass (.mk 11 4 11 8))] [] [] (.mk .class [] .false .false []) none a6 [] (.mk 10 0 11 8)), (.Assign [(.Name a0 (.mk 12 0 12 8))] (.Constant (.str a36) 0 (.mk 12 11 12 25)) (.mk 12 0 12 25)), (.FunctionDef a7 (L2.defArgs (G.top 7)) (L2.defBody (G.top 7)) [] none [] (L2.defScope (G.top 7)) none a7 (.mk 13 0 18 41)), (.FunctionDef a8 (L2.defArgs (G.top 8)) (L2.defBody (G.top 8)) [] none [] (L2.defScope (G.top 8)) none a8 (.mk 19 0 30 16)), (.FunctionDef a9 (L2.defArgs (G.top 9)) (L2.defBody (G.top 9)) [] none [] (L2.defScope (G.top 9)) none a9 (.mk 31 0 33 33)), (.FunctionDef a10 (L2.defArgs (G.top 10)) (L2.defBody (G.top 10)) [] none [] (L2.defScope (G.top 10)) none a10 (.mk 34 0 36 42)), (.Assign [(.Name a0 (.mk 37 0 37 8))] (.Constant (.str a37) 0 (.mk 37 11 37 26)) (.mk 37 0 37 26)), (.FunctionDef a11 (L2.defArgs (G.top 12)) (L2.defBody (G.top 12)) [] none [] (L2.defScope (G.top 12)) none a11 (.mk 38 0 39 61)), (.FunctionDef a12 (L2.defArgs (G.top 13)) (L2.defBody (G.top 13)) [] none [] (L2.defScope (G.top 13)) none a12 (.mk 40 0 46 32)), (.FunctionDef a13 (L2.defArgs (G.top 14)) (L2.defBody (G.top 14)) [] none [] (L2.defScope (G.top 14)) none a13 (.mk 47 0 50 53)), (.FunctionDef a14 (L2.defArgs (G.top 15)) (L2.defBody (G.top 15)) [] none [] (L2.defScope (G.top 15)) none a14 (.mk 51 0 56 42)), (.FunctionDef a15 (L2.defArgs (G.top 16)) (L2.defBody (G.top 16)) [] none [] (L2.defScope (G.top 16)) none a15 (.mk 57 0 60 60)), (.FunctionDef a16 (L2.defArgs (G.top 17)) (L2.defBody (G.top 17)) [] none [] (L2.defScope (G.top 17)) none a16 (.mk 61 0 65 57)), (.Assign [(.Name a0 (.mk 66 0 66 8))] (.Constant (.str a38) 0 (.mk 66 11 66 27)) (.mk 66 0 66 27)), (.Assign [(.Name a17 (.mk 67 0 67 11))] (.Constant (.int 7) 0 (.mk 67 14 67 15)) (.mk 67 0 67 15)), (.FunctionDef a18 (L2.defArgs (G.top 20)) (L2.defBody (G.top 20)) [] none [] (L2.defScope (G.top 20)) none a18 (.mk 68 0 70 47)), (.FunctionDef a19 (L2.defArgs (G.top 21)) (L2.defBody (G.top 21)) [] none [] (L2.defScope (G.top 21)) none a19 (.mk 71 0 79 16)), (.FunctionDef a20 (L2.defArgs (G.top 22)) (L2.defBody (G.top 22)) [] none [] (L2.defScope (G.top 22)) none a20 (.mk 80 0 89 16)), (.FunctionDef a21 (L2.defArgs (G.top 23)) (L2.defBody (G.top 23)) [] none [] (L2.defScope (G.top 23)) none a21 (.mk 90 0 93 14)), (.ClassDef a22 [] [] [(.FunctionDef a39 (L2.defArgs (L2.inClass (G.top 24) 0)) (L2.defBody (L2.inClass (G.top 24) 0)) [] none [] (L2.defScope (L2.inClass (G.top 24) 0)) none a39 (.mk 96 4 104 63)), (.FunctionDef a40 (L2.defArgs (L2.inClass (G.top 24) 1)) (L2.defBody (L2.inClass (G.top 24) 1)) [] none [] (L2.defScope (L2.inClass (G.top 24) 1)) none a40 (.mk 106 4 110 19)), (.FunctionDef a41 (L2.defArgs (L2.inClass (G.top 24) 2)) (L2.defBody (L2.inClass (G.top 24) 2)) [] none [] (L2.defScope (L2.inClass (G.top 24) 2)) none a41 (.mk 112 4 115 80)), (.FunctionDef a42 (L2.defArgs (L2.inClass (G.top 24) 3)) (L2.defBody (L2.inClass (G.top 24) 3)) [] none [] (L2.defScope (L2.inClass (G.top 24) 3)) none a42 (.mk 117 4 123 19)), (.FunctionDef a43 (L2.defArgs (L2.inClass (G.top 24) 4)) (L2.defBody (L2.inClass (G.top 24) 4)) [] none [] (L2.defScope (L2.inClass (G.top 24) 4)) none a43 (.mk 125 4 133 30)), (.FunctionDef a44 (L2.defArgs (L2.inClass (G.top 24) 5)) (L2.defBody (L2.inClass (G.top 24) 5)) [] none [] (L2.defScope (L2.inClass (G.top 24) 5)) none a44 (.mk 135 4 139 35)), (.FunctionDef a45 (L2.defArgs (L2.inClass (G.top 24) 6)) (L2.defBody (L2.inClass (G.top 24) 6)) [] none [] (L2.defScope (L2.inClass (G.top 24) 6)) none a45 (.mk 141 4 146 20))] [] [] (.mk .class [(a39, .local),(a40, .local),(a41, .local),(a42, .local),(a43, .local),(a44, .local),(a45, .local)] .false .false []) none a22 [a46,a47,a48,a49] (.mk 94 0 146 20)), (.FunctionDef a23 (L2.defArgs (G.top 25)) (L2.defBody (G.top 25)) [] none [] (L2.defScope (G.top 25)) none a23 (.mk 147 0 158 72)), (.Assign [(.Name a0 (.mk 159 0 159 8))] (.Constant (.str a50) 0 (.mk 159 11 159 55)) (.mk 159 0 159 55)), (.FunctionDef a24 (L2.defArgs (G.top 27)) (L2.defBody (G.top 27)) [] none [] (L2.defScope (G.top 27)) none a24 (.mk 160 0 169 96)), (.FunctionDef a25 (L2.defArgs (G.top 28)) (L2.defBody (G.top 28)) [] none [] (L2.defScope (G.top 28)) none a25 (.mk 170 0 173 21)), (.FunctionDef a26 (L2.defArgs (G.top 29)) (L2.defBody (G.top 29)) [] none [] (L2.defScope (G.top 29)) none a26 (.mk 174 0 178 21)), (.FunctionDef a27 (L2.defArgs (G.top 30)) (L2.defBody (G.top 30)) [] none [] (L2.defScope (G.top 30)) none a27 (.mk 179 0 193 21)), (.FunctionDef a28 (L2.defArgs (G.top 31)) (L2.defBody (G.top 31)) [] none [] (L2.defScope (G.top 31)) none a28 (.mk 194 0 204 49)), (.FunctionDef a29 (L2.defArgs (G.top 32)) (L2.defBody (G.top 32)) [] none [] (L2.defScope (G.top 32)) none a29 (.mk 205 0 214 61)), (.FunctionDef a30 (L2.defArgs (G.top 33)) (L2.defBody (G.top 33)) [] none [] (L2.defScope (G.top 33)) none a30 (.mk 215 0 224 25)), (.FunctionDef a31 (L2.defArgs (G.top 34)) (L2.defBody (G.top 34)) [] none [] (L2.defScope (G.top 34)) none a31 (.mk 225 0 235 15))]
noncomputable abbrev b3 : String := PySem.W.SL.s14018661285674007319x4
noncomputable def c0 (P : PySem.Params) (t : List PySem.DictEntry) : List PySem.DictEntry := (en P a25 498 (.ref 241))::(en P a26 508 (.ref 248))::(en P a27 514 (.ref 253))::(en P a28 531 (.ref 260))::(en P a29 545 (.ref 267))::(en P a30 553 (.ref 274))::(en P a31 568 (.ref 281))::t
noncomputable def c1 (P : PySem.Params) (t : List PySem.DictEntry) : List PySem.DictEntry := (en P a17 360 (.int 7 359))::(en P a18 367 (.ref 146))::(en P a19 373 (.ref 151))::(en P a20 379 (.ref 156))::(en P a21 387 (.ref 163))::(en P a22 471 (.ref 218))::(en P a23 477 (.ref 227))::(en P a24 489 (.ref 234))::t
noncomputable def c2 (P : PySem.Params) (t : List PySem.DictEntry) : List PySem.DictEntry := (en P a9 298 (.ref 94))::(en P a10 306 (.ref 101))::(en P a11 314 (.ref 106))::(en P a12 323 (.ref 113))::(en P a13 333 (.ref 120))::(en P a14 341 (.ref 127))::(en P a15 350 (.ref 134))::(en P a16 356 (.ref 139))::t
noncomputable def a51 : Str := ⟨⟨[95,95,99,97,99,104,101,100,95,95]⟩⟩
noncomputable def c3 (P : PySem.Params) (t : List PySem.DictEntry) : List PySem.DictEntry := (en P a51 174 .none)::(en P a1 206 (.ref 24))::(en P a3 222 (.ref 37))::(en P a4 238 (.ref 49))::(en P a5 254 (.ref 61))::(en P a6 270 (.ref 73))::(en P a7 278 (.ref 80))::(en P a8 290 (.ref 87))::t
noncomputable def a52 : Str := ⟨⟨[95,95,100,111,99,95,95]⟩⟩
noncomputable def a53 : Str := ⟨⟨[95,95,112,97,99,107,97,103,101,95,95]⟩⟩
noncomputable def a54 : Str := ⟨⟨[95,95,108,111,97,100,101,114,95,95]⟩⟩
noncomputable abbrev b4 : String := PySem.W.SL.s7097527257260152453x26
noncomputable def a55 : Str := ⟨⟨[95,95,115,112,101,99,95,95]⟩⟩
noncomputable def a56 : Str := ⟨⟨[95,95,97,110,110,111,116,97,116,105,111,110,115,95,95]⟩⟩
noncomputable def a57 : Str := ⟨⟨[95,95,98,117,105,108,116,105,110,115,95,95]⟩⟩
noncomputable def a58 : Str := ⟨⟨[95,95,102,105,108,101,95,95]⟩⟩
noncomputable def c4 (P : PySem.Params) (t : List PySem.DictEntry) : List PySem.DictEntry := (en P a0 165 (.str a50 478))::(en P a52 166 .none)::(en P a53 167 .none)::(en P a54 168 (.builtin b4))::(en P a55 169 .none)::(en P a56 170 (.ref 6))::(en P a57 171 (.ref 4))::(en P a58 173 (.str a33 172))::t
noncomputable def o4 (P : Params) : Obj := (ob (.type b3) (.dict ⟨(c4 P (c3 P (c2 P (c1 P (c0 P [])))))⟩ 39))
noncomputable def c5 (t : List PySem.Value) : List PySem.Value := (.ref 266)::(i 215)::(i 0)::(.ref 273)::(i 225)::(i 0)::(.ref 280)::t
noncomputable def c6 (t : List PySem.Value) : List PySem.Value := (i 179)::(i 0)::(.ref 252)::(i 194)::(i 0)::(.ref 259)::(i 205)::(i 0)::t
noncomputable def c7 (t : List PySem.Value) : List PySem.Value := (i 0)::(.ref 233)::(i 170)::(i 0)::(.ref 240)::(i 174)::(i 0)::(.ref 247)::t
noncomputable def c8 (t : List PySem.Value) : List PySem.Value := (.ref 162)::(i 94)::(i 0)::(.ref 169)::(i 147)::(i 0)::(.ref 226)::(i 160)::t
noncomputable def c9 (t : List PySem.Value) : List PySem.Value := (i 71)::(i 0)::(.ref 150)::(i 80)::(i 0)::(.ref 155)::(i 90)::(i 0)::t
noncomputable def c10 (t : List PySem.Value) : List PySem.Value := (i 0)::(.ref 133)::(i 61)::(i 0)::(.ref 138)::(i 68)::(i 0)::(.ref 145)::t
noncomputable def c11 (t : List PySem.Value) : List PySem.Value := (.ref 112)::(i 47)::(i 0)::(.ref 119)::(i 51)::(i 0)::(.ref 126)::(i 57)::t
noncomputable def c12 (t : List PySem.Value) : List PySem.Value := (i 34)::(i 0)::(.ref 100)::(i 38)::(i 0)::(.ref 105)::(i 40)::(i 0)::t
noncomputable def c13 (t : List PySem.Value) : List PySem.Value := (i 0)::(.ref 79)::(i 19)::(i 0)::(.ref 86)::(i 31)::(i 0)::(.ref 93)::t
noncomputable def c14 (t : List PySem.Value) : List PySem.Value := (.ref 45)::(i 8)::(i 0)::(.ref 57)::(i 10)::(i 0)::(.ref 69)::(i 13)::t
noncomputable def c15 (t : List PySem.Value) : List PySem.Value := (i 2)::(i 0)::(.ref 20)::(i 4)::(i 0)::(.ref 33)::(i 6)::(i 0)::t
noncomputable def o5 : Obj := (ob .none (.fields ⟨(c15 (c14 (c13 (c12 (c11 (c10 (c9 (c8 (c7 (c6 (c5 [])))))))))))⟩))
noncomputable abbrev b5 : String := PySem.W.SL.s6070975301684473832x10
noncomputable def o6 : Obj := (ob (.type b0) (.seq ⟨[(.type b5)]⟩ 0))
noncomputable abbrev b6 : String := PySem.W.SL.s11030030927630378310x26
noncomputable abbrev b7 : String := PySem.W.SL.s10062305145149207511x16
noncomputable abbrev b8 : String := PySem.W.SL.s17162191345867700912x4
noncomputable def o7 : Obj := (ob (.type b6) (.fields ⟨[(.builtin b7),(.type b8)]⟩))
noncomputable def a59 : Str := ⟨⟨[95,95,109,111,100,117,108,101,95,95]⟩⟩
noncomputable def a60 : Str := ⟨⟨[95,95,113,117,97,108,110,97,109,101,95,95]⟩⟩
noncomputable def a61 : Str := ⟨⟨[95,95,102,105,114,115,116,108,105,110,101,110,111,95,95]⟩⟩
noncomputable def a62 : Str := ⟨⟨[95,95,115,116,97,116,105,99,95,97,116,116,114,105,98,117,116,101,115,95,95]⟩⟩
noncomputable def o8 (P : Params) : Obj := (ob (.type b3) (.dict ⟨[(en P a59 196 (.str a35 187)),(en P a60 198 (.str a1 197)),(en P a61 200 (.int 2 199)),(en P a62 201 (.ref 22))]⟩ 4))
noncomputable def o9 : Obj := (ob (.type b0) (.seq ⟨[]⟩ 0))
noncomputable def o10 : Obj := (ob .none (.fields ⟨[]⟩))
noncomputable def o11 : Obj := (ob (.type b1) (.fields ⟨[(.str a1 191),(.str a1 192),(.str a33 193),(i 2),(i 0),(i 0),(i 0),(i 0),(.ref 18),(.bool .false),(i 181),(.ref 19),.none,.none,.none,.none,(i 194),(i 2),(.str a33 195)]⟩))
noncomputable def o12 : Obj := (.mk (.type b2) none .plain ⟨[(some (.ref 20)),(some (.ref 3)),(some (.ref 17)),none,(some (.str a35 187)),none,(some (.ref 0))]⟩)
noncomputable def o13 : Obj := (ob (.type b0) (.seq ⟨[]⟩ 0))
noncomputable def a63 : Str := ⟨⟨[95,95,119,101,97,107,114,101,102,95,95]⟩⟩
noncomputable def o14 (P : Params) : Obj := (ob (.type b3) (.dict ⟨[(en P a59 196 (.str a35 187)),(en P a61 200 (.int 2 199)),(en P a62 201 (.ref 22)),(en P a63 203 (.ref 25)),(en P a52 204 .none)]⟩ 3))
noncomputable abbrev b9 : String := PySem.W.SL.s5946037652744460706x9
noncomputable abbrev b10 : String := PySem.W.SL.s4278001404047624695x13
noncomputable abbrev b11 : String := PySem.W.SL.s2742458400755230247x6
noncomputable abbrev b12 : String := PySem.W.SL.s4209523147560561109x18
noncomputable def o15 : Obj := (.mk (.type b8) none (.cls (.mk a1 [(.type b5)] [(.ref 24),(.type b5),(.type b9),(.type b10),(.type b11)] 23 a1 .true [] [(.ref 37),(.ref 49),(.ref 61),(.ref 73)] .false none .false)) ⟨[(some (.ref 15)),none,(some (.str a1 189)),(some (.str a1 197)),(some (.builtin b12)),(some (.bool .true))]⟩)
noncomputable abbrev b13 : String := PySem.W.SL.s14755015743595814543x17
noncomputable abbrev b14 : String := PySem.W.SL.s10220274742760427390x26
noncomputable def o16 : Obj := (ob (.type b13) (.fields ⟨[(.str a63 202),(.ref 24),(.builtin b14),.none]⟩))
noncomputable abbrev b15 : String := PySem.W.SL.s4290257624100764138x5
noncomputable def o17 : Obj := (ob (.type b15) (.fields ⟨[(.ref 24),(.ref 24),(.ref 24)]⟩))
noncomputable abbrev b16 : String := PySem.W.SL.s4860613602091757760x24
noncomputable def o18 : Obj := (ob (.type b6) (.fields ⟨[(.builtin b16),(.ref 24)]⟩))
noncomputable def o19 : Obj := (ob (.type b0) (.seq ⟨[(.ref 24)]⟩ 0))
noncomputable def o20 : Obj := (ob (.type b6) (.fields ⟨[(.builtin b7),(.type b8)]⟩))
noncomputable def o21 (P : Params) : Obj := (ob (.type b3) (.dict ⟨[(en P a59 214 (.str a35 187)),(en P a60 216 (.str a3 215)),(en P a61 218 (.int 4 217)),(en P a62 219 (.ref 35))]⟩ 4))
noncomputable def o22 : Obj := (ob (.type b0) (.seq ⟨[]⟩ 0))
noncomputable def o23 : Obj := (ob .none (.fields ⟨[]⟩))
noncomputable def o24 : Obj := (ob (.type b1) (.fields ⟨[(.str a3 209),(.str a3 210),(.str a33 211),(i 4),(i 0),(i 0),(i 0),(i 0),(.ref 31),(.bool .false),(i 181),(.ref 32),.none,.none,.none,.none,(i 212),(i 4),(.str a33 213)]⟩))
noncomputable def o25 : Obj := (.mk (.type b2) none .plain ⟨[(some (.ref 33)),(some (.ref 3)),(some (.ref 30)),none,(some (.str a35 187)),none,(some (.ref 0))]⟩)
noncomputable def o26 : Obj := (ob (.type b0) (.seq ⟨[]⟩ 0))
noncomputable def o27 (P : Params) : Obj := (ob (.type b3) (.dict ⟨[(en P a59 214 (.str a35 187)),(en P a61 218 (.int 4 217)),(en P a62 219 (.ref 35)),(en P a52 220 .none)]⟩ 2))
noncomputable def o28 : Obj := (.mk (.type b8) none (.cls (.mk a3 [(.ref 24)] [(.ref 37),(.ref 24),(.type b5),(.type b9),(.type b10),(.type b11)] 36 a3 .true [] [] .false none .false)) ⟨[(some (.ref 28)),none,(some (.str a3 207)),(some (.str a3 215)),(some (.builtin b12)),(some (.bool .true))]⟩)
noncomputable def o29 : Obj := (ob (.type b15) (.fields ⟨[(.ref 37),(.ref 37),(.ref 37)]⟩))
noncomputable def o30 : Obj := (ob (.type b6) (.fields ⟨[(.builtin b16),(.ref 37)]⟩))
noncomputable def o31 : Obj := (ob (.type b0) (.seq ⟨[(.ref 24)]⟩ 0))
noncomputable def o32 : Obj := (ob (.type b6) (.fields ⟨[(.builtin b7),(.type b8)]⟩))
noncomputable def o33 (P : Params) : Obj := (ob (.type b3) (.dict ⟨[(en P a59 230 (.str a35 187)),(en P a60 232 (.str a4 231)),(en P a61 234 (.int 6 233)),(en P a62 235 (.ref 47))]⟩ 4))
noncomputable def o34 : Obj := (ob (.type b0) (.seq ⟨[]⟩ 0))
noncomputable def o35 : Obj := (ob .none (.fields ⟨[]⟩))
noncomputable def o36 : Obj := (ob (.type b1) (.fields ⟨[(.str a4 225),(.str a4 226),(.str a33 227),(i 6),(i 0),(i 0),(i 0),(i 0),(.ref 43),(.bool .false),(i 181),(.ref 44),.none,.none,.none,.none,(i 228),(i 6),(.str a33 229)]⟩))
noncomputable def o37 : Obj := (.mk (.type b2) none .plain ⟨[(some (.ref 45)),(some (.ref 3)),(some (.ref 42)),none,(some (.str a35 187)),none,(some (.ref 0))]⟩)
noncomputable def o38 : Obj := (ob (.type b0) (.seq ⟨[]⟩ 0))
noncomputable def o39 (P : Params) : Obj := (ob (.type b3) (.dict ⟨[(en P a59 230 (.str a35 187)),(en P a61 234 (.int 6 233)),(en P a62 235 (.ref 47)),(en P a52 236 .none)]⟩ 2))
noncomputable def o40 : Obj := (.mk (.type b8) none (.cls (.mk a4 [(.ref 24)] [(.ref 49),(.ref 24),(.type b5),(.type b9),(.type b10),(.type b11)] 48 a4 .true [] [] .false none .false)) ⟨[(some (.ref 40)),none,(some (.str a4 223)),(some (.str a4 231)),(some (.builtin b12)),(some (.bool .true))]⟩)
noncomputable def o41 : Obj := (ob (.type b15) (.fields ⟨[(.ref 49),(.ref 49),(.ref 49)]⟩))
noncomputable def o42 : Obj := (ob (.type b6) (.fields ⟨[(.builtin b16),(.ref 49)]⟩))
noncomputable def o43 : Obj := (ob (.type b0) (.seq ⟨[(.ref 24)]⟩ 0))
noncomputable def o44 : Obj := (ob (.type b6) (.fields ⟨[(.builtin b7),(.type b8)]⟩))
noncomputable def o45 (P : Params) : Obj := (ob (.type b3) (.dict ⟨[(en P a59 246 (.str a35 187)),(en P a60 248 (.str a5 247)),(en P a61 250 (.int 8 249)),(en P a62 251 (.ref 59))]⟩ 4))
noncomputable def o46 : Obj := (ob (.type b0) (.seq ⟨[]⟩ 0))
noncomputable def o47 : Obj := (ob .none (.fields ⟨[]⟩))
noncomputable def o48 : Obj := (ob (.type b1) (.fields ⟨[(.str a5 241),(.str a5 242),(.str a33 243),(i 8),(i 0),(i 0),(i 0),(i 0),(.ref 55),(.bool .false),(i 181),(.ref 56),.none,.none,.none,.none,(i 244),(i 8),(.str a33 245)]⟩))
noncomputable def o49 : Obj := (.mk (.type b2) none .plain ⟨[(some (.ref 57)),(some (.ref 3)),(some (.ref 54)),none,(some (.str a35 187)),none,(some (.ref 0))]⟩)
noncomputable def o50 : Obj := (ob (.type b0) (.seq ⟨[]⟩ 0))
noncomputable def o51 (P : Params) : Obj := (ob (.type b3) (.dict ⟨[(en P a59 246 (.str a35 187)),(en P a61 250 (.int 8 249)),(en P a62 251 (.ref 59)),(en P a52 252 .none)]⟩ 2))
noncomputable def o52 : Obj := (.mk (.type b8) none (.cls (.mk a5 [(.ref 24)] [(.ref 61),(.ref 24),(.type b5),(.type b9),(.type b10),(.type b11)] 60 a5 .true [] [] .false none .false)) ⟨[(some (.ref 52)),none,(some (.str a5 239)),(some (.str a5 247)),(some (.builtin b12)),(some (.bool .true))]⟩)
noncomputable def o53 : Obj := (ob (.type b15) (.fields ⟨[(.ref 61),(.ref 61),(.ref 61)]⟩))
noncomputable def o54 : Obj := (ob (.type b6) (.fields ⟨[(.builtin b16),(.ref 61)]⟩))
noncomputable def o55 : Obj := (ob (.type b0) (.seq ⟨[(.ref 24)]⟩ 0))
noncomputable def o56 : Obj := (ob (.type b6) (.fields ⟨[(.builtin b7),(.type b8)]⟩))
noncomputable def o57 (P : Params) : Obj := (ob (.type b3) (.dict ⟨[(en P a59 262 (.str a35 187)),(en P a60 264 (.str a6 263)),(en P a61 266 (.int 10 265)),(en P a62 267 (.ref 71))]⟩ 4))
noncomputable def o58 : Obj := (ob (.type b0) (.seq ⟨[]⟩ 0))
noncomputable def o59 : Obj := (ob .none (.fields ⟨[]⟩))
noncomputable def o60 : Obj := (ob (.type b1) (.fields ⟨[(.str a6 257),(.str a6 258),(.str a33 259),(i 10),(i 0),(i 0),(i 0),(i 0),(.ref 67),(.bool .false),(i 181),(.ref 68),.none,.none,.none,.none,(i 260),(i 10),(.str a33 261)]⟩))
noncomputable def o61 : Obj := (.mk (.type b2) none .plain ⟨[(some (.ref 69)),(some (.ref 3)),(some (.ref 66)),none,(some (.str a35 187)),none,(some (.ref 0))]⟩)
noncomputable def o62 : Obj := (ob (.type b0) (.seq ⟨[]⟩ 0))
noncomputable def o63 (P : Params) : Obj := (ob (.type b3) (.dict ⟨[(en P a59 262 (.str a35 187)),(en P a61 266 (.int 10 265)),(en P a62 267 (.ref 71)),(en P a52 268 .none)]⟩ 2))
noncomputable def o64 : Obj := (.mk (.type b8) none (.cls (.mk a6 [(.ref 24)] [(.ref 73),(.ref 24),(.type b5),(.type b9),(.type b10),(.type b11)] 72 a6 .true [] [] .false none .false)) ⟨[(some (.ref 64)),none,(some (.str a6 255)),(some (.str a6 263)),(some (.builtin b12)),(some (.bool .true))]⟩)
noncomputable def o65 : Obj := (ob (.type b15) (.fields ⟨[(.ref 73),(.ref 73),(.ref 73)]⟩))
noncomputable def o66 : Obj := (ob (.type b6) (.fields ⟨[(.builtin b16),(.ref 73)]⟩))
noncomputable def o67 : Obj := (ob (.type b0) (.seq ⟨[]⟩ 0))
noncomputable def o68 : Obj := (ob .none (.fields ⟨[]⟩))
noncomputable def o69 : Obj := (cO a7 (G.top 7))
noncomputable def o70 : Obj := (ob (.type b1) (.fields ⟨[(.str a7 273),(.str a7 274),(.str a33 275),(i 13),(i 1),(i 0),(i 0),(i 3),(.ref 76),(.bool .true),(i 181),(.ref 77),.none,.none,.none,(.ref 78),(i 276),(i 13),(.str a33 277)]⟩))
noncomputable abbrev b17 : String := PySem.W.SL.s7174869446012820540x8
noncomputable def o71 : Obj := (fO (.type b17) a7 (G.top 7) (.str a36 271) (.ref 79))
noncomputable def o72 : Obj := (ob (.type b0) (.seq ⟨[]⟩ 0))
noncomputable def o73 : Obj := (ob .none (.fields ⟨[]⟩))
noncomputable def a64 : Str := ⟨⟨[110,101,97,114]⟩⟩
noncomputable def a65 : Str := ⟨⟨[112,108,97,99,101]⟩⟩
noncomputable def a66 : Str := ⟨⟨[102,111,117,110,100]⟩⟩
noncomputable def a67 : Str := ⟨⟨[108,105,110,101]⟩⟩
noncomputable def a68 : Str := ⟨⟨[97,116]⟩⟩
noncomputable def a69 : Str := ⟨⟨[111,116,104,101,114]⟩⟩
noncomputable def o74 : Obj := (ob (.type b0) (.seq ⟨[(.str a64 282),(.str a65 283),(.str a66 284),(.str a67 285),(.str a68 286),(.str a69 287)]⟩ 0))
noncomputable def o75 : Obj := (ob (.type b0) (.seq ⟨[]⟩ 0))
noncomputable def o76 : Obj := (cO a8 (G.top 8))
noncomputable def o77 : Obj := (ob (.type b1) (.fields ⟨[(.str a8 279),(.str a8 280),(.str a33 281),(i 19),(i 2),(i 0),(i 0),(i 3),(.ref 81),(.bool .true),(i 181),(.ref 82),.none,(.ref 83),(.ref 84),(.ref 85),(i 288),(i 19),(.str a33 289)]⟩))
noncomputable def o78 : Obj := (fO (.type b17) a8 (G.top 8) (.str a36 271) (.ref 86))
noncomputable def o79 : Obj := (ob (.type b0) (.seq ⟨[]⟩ 0))
noncomputable def o80 : Obj := (ob .none (.fields ⟨[]⟩))
noncomputable def a70 : Str := ⟨⟨[119,101,98]⟩⟩
noncomputable def o81 : Obj := (ob (.type b0) (.seq ⟨[(.str a70 294),(.str a65 295)]⟩ 0))
noncomputable def o82 : Obj := (ob (.type b0) (.seq ⟨[]⟩ 0))
noncomputable def o83 : Obj := (cO a9 (G.top 9))
noncomputable def o84 : Obj := (ob (.type b1) (.fields ⟨[(.str a9 291),(.str a9 292),(.str a33 293),(i 31),(i 2),(i 0),(i 0),(i 3),(.ref 88),(.bool .true),(i 181),(.ref 89),.none,(.ref 90),(.ref 91),(.ref 92),(i 296),(i 31),(.str a33 297)]⟩))
noncomputable def o85 : Obj := (fO (.type b17) a9 (G.top 9) (.str a36 271) (.ref 93))
noncomputable def o86 : Obj := (ob (.type b0) (.seq ⟨[]⟩ 0))
noncomputable def o87 : Obj := (ob .none (.fields ⟨[]⟩))
noncomputable def o88 : Obj := (ob (.type b0) (.seq ⟨[(.str a70 302),(.str a65 303)]⟩ 0))
noncomputable def o89 : Obj := (ob (.type b0) (.seq ⟨[]⟩ 0))
noncomputable def o90 : Obj := (cO a10 (G.top 10))
noncomputable def o91 : Obj := (ob (.type b1) (.fields ⟨[(.str a10 299),(.str a10 300),(.str a33 301),(i 34),(i 2),(i 0),(i 0),(i 3),(.ref 95),(.bool .true),(i 181),(.ref 96),.none,(.ref 97),(.ref 98),(.ref 99),(i 304),(i 34),(.str a33 305)]⟩))
noncomputable def o92 : Obj := (fO (.type b17) a10 (G.top 10) (.str a36 271) (.ref 100))
noncomputable def o93 : Obj := (ob (.type b0) (.seq ⟨[]⟩ 0))
noncomputable def o94 : Obj := (ob .none (.fields ⟨[]⟩))
noncomputable def o95 : Obj := (cO a11 (G.top 12))
noncomputable def o96 : Obj := (ob (.type b1) (.fields ⟨[(.str a11 309),(.str a11 310),(.str a33 311),(i 38),(i 1),(i 0),(i 0),(i 3),(.ref 102),(.bool .true),(i 181),(.ref 103),.none,.none,.none,(.ref 104),(i 312),(i 38),(.str a33 313)]⟩))
noncomputable def o97 : Obj := (fO (.type b17) a11 (G.top 12) (.str a37 307) (.ref 105))
noncomputable def o98 : Obj := (ob (.type b0) (.seq ⟨[]⟩ 0))
noncomputable def o99 : Obj := (ob .none (.fields ⟨[]⟩))
noncomputable def a71 : Str := ⟨⟨[107,105,110,100]⟩⟩
noncomputable def a72 : Str := ⟨⟨[112,108,97,99,101,115]⟩⟩
noncomputable def o100 : Obj := (ob (.type b0) (.seq ⟨[(.str a70 318),(.str a71 319),(.str a72 320)]⟩ 0))
noncomputable def o101 : Obj := (ob (.type b0) (.seq ⟨[]⟩ 0))
noncomputable def o102 : Obj := (cO a12 (G.top 13))
noncomputable def o103 : Obj := (ob (.type b1) (.fields ⟨[(.str a12 315),(.str a12 316),(.str a33 317),(i 40),(i 2),(i 0),(i 0),(i 3),(.ref 107),(.bool .true),(i 181),(.ref 108),.none,(.ref 109),(.ref 110),(.ref 111),(i 321),(i 40),(.str a33 322)]⟩))
noncomputable def o104 : Obj := (fO (.type b17) a12 (G.top 13) (.str a37 307) (.ref 112))
noncomputable def o105 : Obj := (ob (.type b0) (.seq ⟨[]⟩ 0))
noncomputable def o106 : Obj := (ob .none (.fields ⟨[]⟩))
noncomputable def a73 : Str := ⟨⟨[108,111,111,107,115]⟩⟩
noncomputable def a74 : Str := ⟨⟨[108,111,111,107]⟩⟩
noncomputable def o107 : Obj := (ob (.type b0) (.seq ⟨[(.str a70 327),(.str a73 328),(.str a68 329),(.str a74 330)]⟩ 0))
noncomputable def o108 : Obj := (ob (.type b0) (.seq ⟨[]⟩ 0))
noncomputable def o109 : Obj := (cO a13 (G.top 14))
noncomputable def o110 : Obj := (ob (.type b1) (.fields ⟨[(.str a13 324),(.str a13 325),(.str a33 326),(i 47),(i 2),(i 0),(i 0),(i 3),(.ref 114),(.bool .true),(i 181),(.ref 115),.none,(.ref 116),(.ref 117),(.ref 118),(i 331),(i 47),(.str a33 332)]⟩))
noncomputable def o111 : Obj := (fO (.type b17) a13 (G.top 14) (.str a37 307) (.ref 119))
noncomputable def o112 : Obj := (ob (.type b0) (.seq ⟨[]⟩ 0))
noncomputable def o113 : Obj := (ob .none (.fields ⟨[]⟩))
noncomputable def a75 : Str := ⟨⟨[116,104,105,110,103]⟩⟩
noncomputable def o114 : Obj := (ob (.type b0) (.seq ⟨[(.str a70 337),(.str a75 338)]⟩ 0))
noncomputable def o115 : Obj := (ob (.type b0) (.seq ⟨[]⟩ 0))
noncomputable def o116 : Obj := (cO a14 (G.top 15))
noncomputable def o117 : Obj := (ob (.type b1) (.fields ⟨[(.str a14 334),(.str a14 335),(.str a33 336),(i 51),(i 2),(i 0),(i 0),(i 3),(.ref 121),(.bool .true),(i 181),(.ref 122),.none,(.ref 123),(.ref 124),(.ref 125),(i 339),(i 51),(.str a33 340)]⟩))
noncomputable def o118 : Obj := (fO (.type b17) a14 (G.top 15) (.str a37 307) (.ref 126))
noncomputable def o119 : Obj := (ob (.type b0) (.seq ⟨[]⟩ 0))
noncomputable def o120 : Obj := (ob .none (.fields ⟨[]⟩))
noncomputable def a76 : Str := ⟨⟨[116,97,98,108,101]⟩⟩
noncomputable def o121 : Obj := (ob (.type b0) (.seq ⟨[(.str a76 345),(.str a74 346),(.str a75 347)]⟩ 0))
noncomputable def o122 : Obj := (ob (.type b0) (.seq ⟨[]⟩ 0))
noncomputable def o123 : Obj := (cO a15 (G.top 16))
noncomputable def o124 : Obj := (ob (.type b1) (.fields ⟨[(.str a15 342),(.str a15 343),(.str a33 344),(i 57),(i 3),(i 0),(i 0),(i 3),(.ref 128),(.bool .true),(i 181),(.ref 129),.none,(.ref 130),(.ref 131),(.ref 132),(i 348),(i 57),(.str a33 349)]⟩))
noncomputable def o125 : Obj := (fO (.type b17) a15 (G.top 16) (.str a37 307) (.ref 133))
noncomputable def o126 : Obj := (ob (.type b0) (.seq ⟨[]⟩ 0))
noncomputable def o127 : Obj := (ob .none (.fields ⟨[]⟩))
noncomputable def o128 : Obj := (cO a16 (G.top 17))
noncomputable def o129 : Obj := (ob (.type b1) (.fields ⟨[(.str a16 351),(.str a16 352),(.str a33 353),(i 61),(i 3),(i 0),(i 0),(i 3),(.ref 135),(.bool .true),(i 181),(.ref 136),.none,.none,.none,(.ref 137),(i 354),(i 61),(.str a33 355)]⟩))
noncomputable def o130 : Obj := (fO (.type b17) a16 (G.top 17) (.str a37 307) (.ref 138))
noncomputable def o131 : Obj := (ob (.type b0) (.seq ⟨[]⟩ 0))
noncomputable def o132 : Obj := (ob .none (.fields ⟨[]⟩))
noncomputable def o133 : Obj := (ob (.type b0) (.seq ⟨[(.str a70 364)]⟩ 0))
noncomputable def o134 : Obj := (ob (.type b0) (.seq ⟨[]⟩ 0))
noncomputable def o135 : Obj := (cO a18 (G.top 20))
noncomputable def o136 : Obj := (ob (.type b1) (.fields ⟨[(.str a18 361),(.str a18 362),(.str a33 363),(i 68),(i 1),(i 0),(i 0),(i 3),(.ref 140),(.bool .true),(i 181),(.ref 141),.none,(.ref 142),(.ref 143),(.ref 144),(i 365),(i 68),(.str a33 366)]⟩))
noncomputable def o137 : Obj := (fO (.type b17) a18 (G.top 20) (.str a38 357) (.ref 145))
noncomputable def o138 : Obj := (ob (.type b0) (.seq ⟨[]⟩ 0))
noncomputable def o139 : Obj := (ob .none (.fields ⟨[]⟩))
noncomputable def o140 : Obj := (cO a19 (G.top 21))
noncomputable def o141 : Obj := (ob (.type b1) (.fields ⟨[(.str a19 368),(.str a19 369),(.str a33 370),(i 71),(i 2),(i 0),(i 0),(i 3),(.ref 147),(.bool .true),(i 181),(.ref 148),.none,.none,.none,(.ref 149),(i 371),(i 71),(.str a33 372)]⟩))
noncomputable def o142 : Obj := (fO (.type b17) a19 (G.top 21) (.str a38 357) (.ref 150))
noncomputable def o143 : Obj := (ob (.type b0) (.seq ⟨[]⟩ 0))
noncomputable def o144 : Obj := (ob .none (.fields ⟨[]⟩))
noncomputable def o145 : Obj := (cO a20 (G.top 22))
noncomputable def o146 : Obj := (ob (.type b1) (.fields ⟨[(.str a20 374),(.str a20 375),(.str a33 376),(i 80),(i 1),(i 0),(i 0),(i 3),(.ref 152),(.bool .true),(i 181),(.ref 153),.none,.none,.none,(.ref 154),(i 377),(i 80),(.str a33 378)]⟩))
noncomputable def o147 : Obj := (fO (.type b17) a20 (G.top 22) (.str a38 357) (.ref 155))
noncomputable def o148 : Obj := (ob (.type b0) (.seq ⟨[]⟩ 0))
noncomputable def o149 : Obj := (ob .none (.fields ⟨[]⟩))
noncomputable def a77 : Str := ⟨⟨[111,110,101]⟩⟩
noncomputable def o150 : Obj := (ob (.type b0) (.seq ⟨[(.str a77 383),(.str a69 384)]⟩ 0))
noncomputable def o151 : Obj := (ob (.type b0) (.seq ⟨[]⟩ 0))
noncomputable def o152 : Obj := (cO a21 (G.top 23))
noncomputable def o153 : Obj := (ob (.type b1) (.fields ⟨[(.str a21 380),(.str a21 381),(.str a33 382),(i 90),(i 2),(i 0),(i 0),(i 3),(.ref 157),(.bool .true),(i 181),(.ref 158),.none,(.ref 159),(.ref 160),(.ref 161),(i 385),(i 90),(.str a33 386)]⟩))
noncomputable def o154 : Obj := (fO (.type b17) a21 (G.top 23) (.str a38 357) (.ref 162))
noncomputable def o155 : Obj := (ob (.type b0) (.seq ⟨[]⟩ 0))
noncomputable def o156 : Obj := (ob (.type b6) (.fields ⟨[(.builtin b7),(.type b8)]⟩))
noncomputable def o157 (P : Params) : Obj := (ob (.type b3) (.dict ⟨[(en P a59 395 (.str a38 357)),(en P a60 397 (.str a22 396)),(en P a61 399 (.int 94 398)),(en P a39 405 (.ref 175)),(en P a40 413 (.ref 182)),(en P a41 425 (.ref 189)),(en P a42 435 (.ref 196)),(en P a43 441 (.ref 201)),(en P a44 449 (.ref 208)),(en P a45 459 (.ref 215)),(en P a62 464 (.ref 216))]⟩ 11))
noncomputable def o158 : Obj := (ob (.type b0) (.seq ⟨[]⟩ 0))
noncomputable def c16 (t : List PySem.Value) : List PySem.Value := (i 4)::(.ref 207)::(i 141)::(i 4)::(.ref 214)::t
noncomputable def c17 (t : List PySem.Value) : List PySem.Value := (.ref 188)::(i 117)::(i 4)::(.ref 195)::(i 125)::(i 4)::(.ref 200)::(i 135)::t
noncomputable def c18 (t : List PySem.Value) : List PySem.Value := (i 96)::(i 4)::(.ref 174)::(i 106)::(i 4)::(.ref 181)::(i 112)::(i 4)::t
noncomputable def o159 : Obj := (ob .none (.fields ⟨(c18 (c17 (c16 [])))⟩))
noncomputable def o160 : Obj := (ob (.type b1) (.fields ⟨[(.str a22 390),(.str a22 391),(.str a33 392),(i 94),(i 0),(i 0),(i 0),(i 0),(.ref 167),(.bool .false),(i 181),(.ref 168),.none,.none,.none,.none,(i 393),(i 94),(.str a33 394)]⟩))
noncomputable def o161 : Obj := (.mk (.type b2) none .plain ⟨[(some (.ref 169)),(some (.ref 3)),(some (.ref 166)),none,(some (.str a38 357)),none,(some (.ref 0))]⟩)
noncomputable def o162 : Obj := (ob (.type b0) (.seq ⟨[]⟩ 0))
noncomputable def o163 : Obj := (ob .none (.fields ⟨[]⟩))
noncomputable def a78 : Str := ⟨⟨[66,111,97,114,100,46,95,95,105,110,105,116,95,95]⟩⟩
noncomputable def o164 : Obj := (.mk .none none (.func (.mk a39 a78 (L2.defArgs (L2.inClass (G.top 24) 0)) (.stmts (L2.defBody (L2.inClass (G.top 24) 0))) (L2.defScope (L2.inClass (G.top 24) 0)) 0 [] .none .none .none .none none .none .none 0)) ⟨[]⟩)
noncomputable def o165 : Obj := (ob (.type b1) (.fields ⟨[(.str a39 400),(.str a78 401),(.str a33 402),(i 96),(i 3),(i 0),(i 0),(i 3),(.ref 171),(.bool .true),(i 181),(.ref 172),.none,.none,.none,(.ref 173),(i 403),(i 96),(.str a33 404)]⟩))
noncomputable def o166 : Obj := (.mk (.type b17) none (.func (PySem.W.fnOf a39 a78 (L2.defArgs (L2.inClass (G.top 24) 0)) (L2.defBody (L2.inClass (G.top 24) 0)) (L2.defScope (L2.inClass (G.top 24) 0)) .none .none .none (.str a38 357) none (.ref 174) .none)) ⟨[]⟩)
noncomputable def o167 : Obj := (ob (.type b0) (.seq ⟨[]⟩ 0))
noncomputable def o168 : Obj := (ob .none (.fields ⟨[]⟩))
noncomputable def a79 : Str := ⟨⟨[115,101,108,102]⟩⟩
noncomputable def o169 : Obj := (ob (.type b0) (.seq ⟨[(.str a79 409),(.str a68 410)]⟩ 0))
noncomputable def o170 : Obj := (ob (.type b0) (.seq ⟨[]⟩ 0))
noncomputable def a80 : Str := ⟨⟨[66,111,97,114,100,46,103,114,111,119,105,110,103]⟩⟩
noncomputable def o171 : Obj := (.mk .none none (.func (.mk a40 a80 (L2.defArgs (L2.inClass (G.top 24) 1)) (.stmts (L2.defBody (L2.inClass (G.top 24) 1))) (L2.defScope (L2.inClass (G.top 24) 1)) 0 [] .none .none .none .none none .none .none 0)) ⟨[]⟩)
noncomputable def o172 : Obj := (ob (.type b1) (.fields ⟨[(.str a40 406),(.str a80 407),(.str a33 408),(i 106),(i 1),(i 0),(i 0),(i 3),(.ref 176),(.bool .true),(i 181),(.ref 177),.none,(.ref 178),(.ref 179),(.ref 180),(i 411),(i 106),(.str a33 412)]⟩))
noncomputable def o173 : Obj := (.mk (.type b17) none (.func (PySem.W.fnOf a40 a80 (L2.defArgs (L2.inClass (G.top 24) 1)) (L2.defBody (L2.inClass (G.top 24) 1)) (L2.defScope (L2.inClass (G.top 24) 1)) .none .none .none (.str a38 357) none (.ref 181) .none)) ⟨[]⟩)
noncomputable def o174 : Obj := (ob (.type b0) (.seq ⟨[]⟩ 0))
noncomputable def o175 : Obj := (ob .none (.fields ⟨[]⟩))
noncomputable def a81 : Str := ⟨⟨[98,101,115,116]⟩⟩
noncomputable def a82 : Str := ⟨⟨[99,111,108,117,109,110]⟩⟩
noncomputable def o176 : Obj := (ob (.type b0) (.seq ⟨[(.str a79 417),(.str a68 418),(.str a81 419),(.str a82 420),(.str a77 421),(.str a69 422)]⟩ 0))
noncomputable def o177 : Obj := (ob (.type b0) (.seq ⟨[]⟩ 0))
noncomputable def a83 : Str := ⟨⟨[66,111,97,114,100,46,98,111,117,110,100,115,95,109,111,114,101]⟩⟩
noncomputable def o178 : Obj := (.mk .none none (.func (.mk a41 a83 (L2.defArgs (L2.inClass (G.top 24) 2)) (.stmts (L2.defBody (L2.inClass (G.top 24) 2))) (L2.defScope (L2.inClass (G.top 24) 2)) 0 [] .none .none .none .none none .none .none 0)) ⟨[]⟩)
noncomputable def o179 : Obj := (ob (.type b1) (.fields ⟨[(.str a41 414),(.str a83 415),(.str a33 416),(i 112),(i 4),(i 0),(i 0),(i 3),(.ref 183),(.bool .true),(i 181),(.ref 184),.none,(.ref 185),(.ref 186),(.ref 187),(i 423),(i 112),(.str a33 424)]⟩))
noncomputable def o180 : Obj := (.mk (.type b17) none (.func (PySem.W.fnOf a41 a83 (L2.defArgs (L2.inClass (G.top 24) 2)) (L2.defBody (L2.inClass (G.top 24) 2)) (L2.defScope (L2.inClass (G.top 24) 2)) .none .none .none (.str a38 357) none (.ref 188) .none)) ⟨[]⟩)
noncomputable def o181 : Obj := (ob (.type b0) (.seq ⟨[]⟩ 0))
noncomputable def o182 : Obj := (ob .none (.fields ⟨[]⟩))
noncomputable def o183 : Obj := (ob (.type b0) (.seq ⟨[(.str a79 429),(.str a82 430),(.str a81 431),(.str a68 432)]⟩ 0))
noncomputable def o184 : Obj := (ob (.type b0) (.seq ⟨[]⟩ 0))
noncomputable def a84 : Str := ⟨⟨[66,111,97,114,100,46,98,111,117,110,100,105,110,103]⟩⟩
noncomputable def o185 : Obj := (.mk .none none (.func (.mk a42 a84 (L2.defArgs (L2.inClass (G.top 24) 3)) (.stmts (L2.defBody (L2.inClass (G.top 24) 3))) (L2.defScope (L2.inClass (G.top 24) 3)) 0 [] .none .none .none .none none .none .none 0)) ⟨[]⟩)
noncomputable def o186 : Obj := (ob (.type b1) (.fields ⟨[(.str a42 426),(.str a84 427),(.str a33 428),(i 117),(i 2),(i 0),(i 0),(i 3),(.ref 190),(.bool .true),(i 181),(.ref 191),.none,(.ref 192),(.ref 193),(.ref 194),(i 433),(i 117),(.str a33 434)]⟩))
noncomputable def o187 : Obj := (.mk (.type b17) none (.func (PySem.W.fnOf a42 a84 (L2.defArgs (L2.inClass (G.top 24) 3)) (L2.defBody (L2.inClass (G.top 24) 3)) (L2.defScope (L2.inClass (G.top 24) 3)) .none .none .none (.str a38 357) none (.ref 195) .none)) ⟨[]⟩)
noncomputable def o188 : Obj := (ob (.type b0) (.seq ⟨[]⟩ 0))
noncomputable def o189 : Obj := (ob .none (.fields ⟨[]⟩))
noncomputable def a85 : Str := ⟨⟨[66,111,97,114,100,46,116,117,114,110,95,105,110]⟩⟩
noncomputable def o190 : Obj := (.mk .none none (.func (.mk a43 a85 (L2.defArgs (L2.inClass (G.top 24) 4)) (.stmts (L2.defBody (L2.inClass (G.top 24) 4))) (L2.defScope (L2.inClass (G.top 24) 4)) 0 [] .none .none .none .none none .none .none 0)) ⟨[]⟩)
noncomputable def o191 : Obj := (ob (.type b1) (.fields ⟨[(.str a43 436),(.str a85 437),(.str a33 438),(i 125),(i 3),(i 0),(i 0),(i 3),(.ref 197),(.bool .true),(i 181),(.ref 198),.none,.none,.none,(.ref 199),(i 439),(i 125),(.str a33 440)]⟩))
noncomputable def o192 : Obj := (.mk (.type b17) none (.func (PySem.W.fnOf a43 a85 (L2.defArgs (L2.inClass (G.top 24) 4)) (L2.defBody (L2.inClass (G.top 24) 4)) (L2.defScope (L2.inClass (G.top 24) 4)) .none .none .none (.str a38 357) none (.ref 200) .none)) ⟨[]⟩)
noncomputable def o193 : Obj := (ob (.type b0) (.seq ⟨[]⟩ 0))
noncomputable def o194 : Obj := (ob .none (.fields ⟨[]⟩))
noncomputable def o195 : Obj := (ob (.type b0) (.seq ⟨[(.str a79 445),(.str a82 446)]⟩ 0))
noncomputable def o196 : Obj := (ob (.type b0) (.seq ⟨[]⟩ 0))
noncomputable def a86 : Str := ⟨⟨[66,111,97,114,100,46,115,111,108,118,101]⟩⟩
noncomputable def o197 : Obj := (.mk .none none (.func (.mk a44 a86 (L2.defArgs (L2.inClass (G.top 24) 5)) (.stmts (L2.defBody (L2.inClass (G.top 24) 5))) (L2.defScope (L2.inClass (G.top 24) 5)) 0 [] .none .none .none .none none .none .none 0)) ⟨[]⟩)
noncomputable def o198 : Obj := (ob (.type b1) (.fields ⟨[(.str a44 442),(.str a86 443),(.str a33 444),(i 135),(i 1),(i 0),(i 0),(i 3),(.ref 202),(.bool .true),(i 181),(.ref 203),.none,(.ref 204),(.ref 205),(.ref 206),(i 447),(i 135),(.str a33 448)]⟩))
noncomputable def o199 : Obj := (.mk (.type b17) none (.func (PySem.W.fnOf a44 a86 (L2.defArgs (L2.inClass (G.top 24) 5)) (L2.defBody (L2.inClass (G.top 24) 5)) (L2.defScope (L2.inClass (G.top 24) 5)) .none .none .none (.str a38 357) none (.ref 207) .none)) ⟨[]⟩)
noncomputable def o200 : Obj := (ob (.type b0) (.seq ⟨[]⟩ 0))
noncomputable def o201 : Obj := (ob .none (.fields ⟨[]⟩))
noncomputable def o202 : Obj := (ob (.type b0) (.seq ⟨[(.str a79 453),(.str a66 454),(.str a68 455),(.str a82 456)]⟩ 0))
noncomputable def o203 : Obj := (ob (.type b0) (.seq ⟨[]⟩ 0))
noncomputable def a87 : Str := ⟨⟨[66,111,97,114,100,46,112,114,105,99,101,115,95,110,111,119]⟩⟩
noncomputable def o204 : Obj := (.mk .none none (.func (.mk a45 a87 (L2.defArgs (L2.inClass (G.top 24) 6)) (.stmts (L2.defBody (L2.inClass (G.top 24) 6))) (L2.defScope (L2.inClass (G.top 24) 6)) 0 [] .none .none .none .none none .none .none 0)) ⟨[]⟩)
noncomputable def o205 : Obj := (ob (.type b1) (.fields ⟨[(.str a45 450),(.str a87 451),(.str a33 452),(i 141),(i 1),(i 0),(i 0),(i 3),(.ref 209),(.bool .true),(i 181),(.ref 210),.none,(.ref 211),(.ref 212),(.ref 213),(i 457),(i 141),(.str a33 458)]⟩))
noncomputable def o206 : Obj := (.mk (.type b17) none (.func (PySem.W.fnOf a45 a87 (L2.defArgs (L2.inClass (G.top 24) 6)) (L2.defBody (L2.inClass (G.top 24) 6)) (L2.defScope (L2.inClass (G.top 24) 6)) .none .none .none (.str a38 357) none (.ref 214) .none)) ⟨[]⟩)
noncomputable def o207 : Obj := (ob (.type b0) (.seq ⟨[(.str a46 460),(.str a47 461),(.str a48 462),(.str a49 463)]⟩ 0))
noncomputable def a88 : Str := ⟨⟨[95,95,100,105,99,116,95,95]⟩⟩
noncomputable def o208 (P : Params) : Obj := (ob (.type b3) (.dict ⟨[(en P a59 395 (.str a38 357)),(en P a61 399 (.int 94 398)),(en P a39 405 (.ref 175)),(en P a40 413 (.ref 182)),(en P a41 425 (.ref 189)),(en P a42 435 (.ref 196)),(en P a43 441 (.ref 201)),(en P a44 449 (.ref 208)),(en P a45 459 (.ref 215)),(en P a62 464 (.ref 216)),(en P a88 466 (.ref 219)),(en P a63 468 (.ref 220)),(en P a52 469 .none)]⟩ 4))
noncomputable abbrev b18 : String := PySem.W.SL.s11443829558043349243x14
noncomputable def o209 : Obj := (.mk (.type b8) none (.cls (.mk a22 [(.type b11)] [(.ref 218),(.type b11)] 217 a22 .true [] [] .false none .false)) ⟨[none,none,(some (.str a22 388)),(some (.str a22 396)),(some (.builtin b18)),(some (.bool .true))]⟩)
noncomputable abbrev b19 : String := PySem.W.SL.s6511155373996960695x17
noncomputable abbrev b20 : String := PySem.W.SL.s12411053484034534018x21
noncomputable def o210 : Obj := (ob (.type b13) (.fields ⟨[(.str a88 465),(.ref 218),(.builtin b19),(.builtin b20)]⟩))
noncomputable def o211 : Obj := (ob (.type b13) (.fields ⟨[(.str a63 467),(.ref 218),(.builtin b14),.none]⟩))
noncomputable def o212 : Obj := (ob (.type b15) (.fields ⟨[(.ref 218),(.ref 218),(.ref 218)]⟩))
noncomputable def o213 : Obj := (ob (.type b6) (.fields ⟨[(.builtin b16),(.ref 218)]⟩))
noncomputable def o214 : Obj := (ob (.type b0) (.seq ⟨[]⟩ 0))
noncomputable def o215 : Obj := (ob .none (.fields ⟨[]⟩))
noncomputable def o216 : Obj := (cO a23 (G.top 25))
noncomputable def o217 : Obj := (ob (.type b1) (.fields ⟨[(.str a23 472),(.str a23 473),(.str a33 474),(i 147),(i 2),(i 0),(i 0),(i 3),(.ref 223),(.bool .true),(i 181),(.ref 224),.none,.none,.none,(.ref 225),(i 475),(i 147),(.str a33 476)]⟩))
noncomputable def o218 : Obj := (fO (.type b17) a23 (G.top 25) (.str a38 357) (.ref 226))
noncomputable def o219 : Obj := (ob (.type b0) (.seq ⟨[]⟩ 0))
noncomputable def o220 : Obj := (ob .none (.fields ⟨[]⟩))
noncomputable def a89 : Str := ⟨⟨[95,108,97,119,95,115,99,114,105,112,116]⟩⟩
noncomputable def a90 : Str := ⟨⟨[95,108,97,119,95,107]⟩⟩
noncomputable def a91 : Str := ⟨⟨[95,108,97,119,95,99,101,108,108]⟩⟩
noncomputable def a92 : Str := ⟨⟨[95,108,97,119,95,110,117,109,98,101,114]⟩⟩
noncomputable def o221 : Obj := (ob (.type b0) (.seq ⟨[(.str a89 483),(.str a90 484),(.str a91 485),(.str a92 486)]⟩ 0))
noncomputable def o222 : Obj := (ob (.type b0) (.seq ⟨[]⟩ 0))
noncomputable def o223 : Obj := (cO a24 (G.top 27))
noncomputable def o224 : Obj := (ob (.type b1) (.fields ⟨[(.str a24 480),(.str a24 481),(.str a33 482),(i 160),(i 2),(i 0),(i 0),(i 3),(.ref 228),(.bool .true),(i 181),(.ref 229),.none,(.ref 230),(.ref 231),(.ref 232),(i 487),(i 160),(.str a33 488)]⟩))
noncomputable def o225 : Obj := (fO (.type b17) a24 (G.top 27) (.str a50 478) (.ref 233))
noncomputable def o226 : Obj := (ob (.type b0) (.seq ⟨[]⟩ 0))
noncomputable def o227 : Obj := (ob .none (.fields ⟨[]⟩))
noncomputable def a93 : Str := ⟨⟨[95,108,97,119,95,112,117,114,115,101,95,104,101,114,101]⟩⟩
noncomputable def a94 : Str := ⟨⟨[95,108,97,119,95,109,97,110,121]⟩⟩
noncomputable def a95 : Str := ⟨⟨[95,108,97,119,95,102,111,117,110,100]⟩⟩
noncomputable def o228 : Obj := (ob (.type b0) (.seq ⟨[(.str a93 493),(.str a94 494),(.str a95 495)]⟩ 0))
noncomputable def o229 : Obj := (ob (.type b0) (.seq ⟨[]⟩ 0))
noncomputable def o230 : Obj := (cO a25 (G.top 28))
noncomputable def o231 : Obj := (ob (.type b1) (.fields ⟨[(.str a25 490),(.str a25 491),(.str a33 492),(i 170),(i 2),(i 0),(i 0),(i 3),(.ref 235),(.bool .true),(i 181),(.ref 236),.none,(.ref 237),(.ref 238),(.ref 239),(i 496),(i 170),(.str a33 497)]⟩))
noncomputable def o232 : Obj := (fO (.type b17) a25 (G.top 28) (.str a50 478) (.ref 240))
noncomputable def o233 : Obj := (ob (.type b0) (.seq ⟨[]⟩ 0))
noncomputable def o234 : Obj := (ob .none (.fields ⟨[]⟩))
noncomputable def o235 : Obj := (ob (.type b0) (.seq ⟨[(.str a93 502),(.str a94 503),(.str a95 504),(.str a90 505)]⟩ 0))
noncomputable def o236 : Obj := (ob (.type b0) (.seq ⟨[]⟩ 0))
noncomputable def o237 : Obj := (cO a26 (G.top 29))
noncomputable def o238 : Obj := (ob (.type b1) (.fields ⟨[(.str a26 499),(.str a26 500),(.str a33 501),(i 174),(i 2),(i 0),(i 0),(i 3),(.ref 242),(.bool .true),(i 181),(.ref 243),.none,(.ref 244),(.ref 245),(.ref 246),(i 506),(i 174),(.str a33 507)]⟩))
noncomputable def o239 : Obj := (fO (.type b17) a26 (G.top 29) (.str a50 478) (.ref 247))
noncomputable def o240 : Obj := (ob (.type b0) (.seq ⟨[]⟩ 0))
noncomputable def o241 : Obj := (ob .none (.fields ⟨[]⟩))
noncomputable def o242 : Obj := (cO a27 (G.top 30))
noncomputable def o243 : Obj := (ob (.type b1) (.fields ⟨[(.str a27 509),(.str a27 510),(.str a33 511),(i 179),(i 3),(i 0),(i 0),(i 3),(.ref 249),(.bool .true),(i 181),(.ref 250),.none,.none,.none,(.ref 251),(i 512),(i 179),(.str a33 513)]⟩))
noncomputable def o244 : Obj := (fO (.type b17) a27 (G.top 30) (.str a50 478) (.ref 252))
noncomputable def o245 : Obj := (ob (.type b0) (.seq ⟨[]⟩ 0))
noncomputable def o246 : Obj := (ob .none (.fields ⟨[]⟩))
noncomputable def a96 : Str := ⟨⟨[95,108,97,119,95,108,101,97,115,116]⟩⟩
noncomputable def a97 : Str := ⟨⟨[95,108,97,119,95,109,111,115,116]⟩⟩
noncomputable def a98 : Str := ⟨⟨[95,108,97,119,95,115,111,109,101]⟩⟩
noncomputable def a99 : Str := ⟨⟨[95,108,97,119,95,112,108,97,99,101,115]⟩⟩
noncomputable def a100 : Str := ⟨⟨[95,108,97,119,95,111,110,101]⟩⟩
noncomputable def a101 : Str := ⟨⟨[95,108,97,119,95,111,116,104,101,114]⟩⟩
noncomputable def a102 : Str := ⟨⟨[95,108,97,119,95,101,110,100,115]⟩⟩
noncomputable def a103 : Str := ⟨⟨[95,108,97,119,95,116,105,101]⟩⟩
noncomputable def o247 : Obj := (ob (.type b0) (.seq ⟨[(.str a93 518),(.str a96 519),(.str a97 520),(.str a94 521),(.str a95 522),(.str a98 523),(.str a99 524),(.str a100 525),(.str a101 526),(.str a102 527),(.str a103 528)]⟩ 0))
noncomputable def o248 : Obj := (ob (.type b0) (.seq ⟨[]⟩ 0))
noncomputable def o249 : Obj := (cO a28 (G.top 31))
noncomputable def o250 : Obj := (ob (.type b1) (.fields ⟨[(.str a28 515),(.str a28 516),(.str a33 517),(i 194),(i 3),(i 0),(i 0),(i 3),(.ref 254),(.bool .true),(i 181),(.ref 255),.none,(.ref 256),(.ref 257),(.ref 258),(i 529),(i 194),(.str a33 530)]⟩))
noncomputable def o251 : Obj := (fO (.type b17) a28 (G.top 31) (.str a50 478) (.ref 259))
noncomputable def o252 : Obj := (ob (.type b0) (.seq ⟨[]⟩ 0))
noncomputable def o253 : Obj := (ob .none (.fields ⟨[]⟩))
noncomputable def a104 : Str := ⟨⟨[95,108,97,119,95,119,97,121]⟩⟩
noncomputable def o254 : Obj := (ob (.type b0) (.seq ⟨[(.str a93 535),(.str a104 536),(.str a94 537),(.str a99 538),(.str a95 539),(.str a100 540),(.str a101 541),(.str a102 542)]⟩ 0))
noncomputable def o255 : Obj := (ob (.type b0) (.seq ⟨[]⟩ 0))
noncomputable def o256 : Obj := (cO a29 (G.top 32))
noncomputable def o257 : Obj := (ob (.type b1) (.fields ⟨[(.str a29 532),(.str a29 533),(.str a33 534),(i 205),(i 1),(i 0),(i 0),(i 3),(.ref 261),(.bool .true),(i 181),(.ref 262),.none,(.ref 263),(.ref 264),(.ref 265),(i 543),(i 205),(.str a33 544)]⟩))
noncomputable def o258 : Obj := (fO (.type b17) a29 (G.top 32) (.str a50 478) (.ref 266))
noncomputable def o259 : Obj := (ob (.type b0) (.seq ⟨[]⟩ 0))
noncomputable def o260 : Obj := (ob .none (.fields ⟨[]⟩))
noncomputable def o261 : Obj := (ob (.type b0) (.seq ⟨[(.str a94 549),(.str a104 550)]⟩ 0))
noncomputable def o262 : Obj := (ob (.type b0) (.seq ⟨[]⟩ 0))
noncomputable def o263 : Obj := (cO a30 (G.top 33))
noncomputable def o264 : Obj := (ob (.type b1) (.fields ⟨[(.str a30 546),(.str a30 547),(.str a33 548),(i 215),(i 2),(i 0),(i 0),(i 3),(.ref 268),(.bool .true),(i 181),(.ref 269),.none,(.ref 270),(.ref 271),(.ref 272),(i 551),(i 215),(.str a33 552)]⟩))
noncomputable def o265 : Obj := (fO (.type b17) a30 (G.top 33) (.str a50 478) (.ref 273))
noncomputable def o266 : Obj := (ob (.type b0) (.seq ⟨[]⟩ 0))
noncomputable def o267 : Obj := (ob .none (.fields ⟨[]⟩))
noncomputable def a105 : Str := ⟨⟨[95,108,97,119,95,119,101,98,95,104,101,114,101]⟩⟩
noncomputable def a106 : Str := ⟨⟨[95,108,97,119,95,97,98,111,118,101]⟩⟩
noncomputable def a107 : Str := ⟨⟨[95,108,97,119,95,98,101,108,111,119]⟩⟩
noncomputable def a108 : Str := ⟨⟨[95,108,97,119,95,98,111,116,116,111,109]⟩⟩
noncomputable def a109 : Str := ⟨⟨[95,108,97,119,95,115,104,97,114,101,115]⟩⟩
noncomputable def a110 : Str := ⟨⟨[95,108,97,119,95,112,114,105,99,101,115]⟩⟩
noncomputable def o268 : Obj := (ob (.type b0) (.seq ⟨[(.str a89 557),(.str a105 558),(.str a104 559),(.str a94 560),(.str a106 561),(.str a107 562),(.str a108 563),(.str a109 564),(.str a110 565)]⟩ 0))
noncomputable def o269 : Obj := (ob (.type b0) (.seq ⟨[]⟩ 0))
noncomputable def o270 : Obj := (cO a31 (G.top 34))
noncomputable def o271 : Obj := (ob (.type b1) (.fields ⟨[(.str a31 554),(.str a31 555),(.str a33 556),(i 225),(i 1),(i 0),(i 0),(i 3),(.ref 275),(.bool .true),(i 181),(.ref 276),.none,(.ref 277),(.ref 278),(.ref 279),(i 566),(i 225),(.str a33 567)]⟩))
noncomputable def o272 : Obj := (fO (.type b17) a31 (G.top 34) (.str a50 478) (.ref 280))
noncomputable def t0 (P : PySem.Params) : PySem.W.BT := (n (q0 P) (n (q1 P) (n (o4 P) (n (q7 P) (n o6 (n o22 (n o54 (n o118 (l o246) .nil) (l o182)) (n o86 (l o150) (l o214))) (n o38 (n o70 (n o134 (l o262) .nil) (l o198)) (n o102 (l o166) (l o230)))) (n (o14 P) (n o30 (n o62 (n o126 (l o254) .nil) (l o190)) (n o94 (l o158) (l o222))) (n o46 (n o78 (n o142 (l o270) .nil) (l o206)) (n o110 (l o174) (l o238))))) (n o0 (n o10 (n o26 (n o58 (n o122 (l o250) .nil) (l o186)) (n o90 (l o154) (l o218))) (n o42 (n o74 (n o138 (l o266) .nil) (l o202)) (n o106 (l o170) (l o234)))) (n o18 (n o34 (n o66 (n o130 (l o258) .nil) (l o194)) (n o98 (l o162) (l o226))) (n o50 (n o82 (l o146) (l o210)) (n o114 (l o178) (l o242)))))) (n (q5 P) (n (q9 P) (n (o8 P) (n o24 (n o56 (n o120 (l o248) .nil) (l o184)) (n o88 (l o152) (l o216))) (n o40 (n o72 (n o136 (l o264) .nil) (l o200)) (n o104 (l o168) (l o232)))) (n o16 (n o32 (n o64 (n o128 (l o256) .nil) (l o192)) (n o96 (l o160) (l o224))) (n o48 (n o80 (n o144 (l o272) .nil) (l (o208 P))) (n o112 (l o176) (l o240))))) (n o2 (n o12 (n o28 (n o60 (n o124 (l o252) .nil) (l o188)) (n o92 (l o156) (l o220))) (n o44 (n o76 (n o140 (l o268) .nil) (l o204)) (n o108 (l o172) (l o236)))) (n o20 (n o36 (n o68 (n o132 (l o260) .nil) (l o196)) (n o100 (l o164) (l o228))) (n o52 (n o84 (l o148) (l o212)) (n o116 (l o180) (l o244))))))) (n (q2 P) (n (q4 P) (n (q8 P) (n o7 (n o23 (n o55 (n o119 (l o247) .nil) (l o183)) (n o87 (l o151) (l o215))) (n (o39 P) (n o71 (n o135 (l o263) .nil) (l o199)) (n o103 (l o167) (l o231)))) (n o15 (n o31 (n (o63 P) (n o127 (l o255) .nil) (l o191)) (n o95 (l o159) (l o223))) (n o47 (n o79 (n o143 (l o271) .nil) (l o207)) (n o111 (l o175) (l o239))))) (n o5 (n o11 (n (o27 P) (n o59 (n o123 (l o251) .nil) (l o187)) (n o91 (l o155) (l o219))) (n o43 (n o75 (n o139 (l o267) .nil) (l o203)) (n o107 (l o171) (l o235)))) (n o19 (n o35 (n o67 (n o131 (l o259) .nil) (l o195)) (n o99 (l o163) (l o227))) (n (o51 P) (n o83 (l o147) (l o211)) (n o115 (l o179) (l o243)))))) (n (q6 P) (n (q10 P) (n o9 (n o25 (n (o57 P) (n o121 (l o249) .nil) (l o185)) (n o89 (l o153) (l o217))) (n o41 (n o73 (n o137 (l o265) .nil) (l o201)) (n o105 (l o169) (l o233)))) (n o17 (n (o33 P) (n o65 (n o129 (l o257) .nil) (l o193)) (n o97 (l o161) (l o225))) (n o49 (n o81 (l o145) (l o209)) (n o113 (l o177) (l o241))))) (n o3 (n o13 (n o29 (n o61 (n o125 (l o253) .nil) (l o189)) (n o93 (l (o157 P)) (l o221))) (n (o45 P) (n o77 (n o141 (l o269) .nil) (l o205)) (n o109 (l o173) (l o237)))) (n (o21 P) (n o37 (n o69 (n o133 (l o261) .nil) (l o197)) (n o101 (l o165) (l o229))) (n o53 (n o85 (l o149) (l o213)) (n o117 (l o181) (l o245))))))))
theorem pz0 : ∀ w : PySem.World, (fun os : PySem.OsState => PySem.W.Fast.tw10110043849684766642 PySem.W.Fast.tw14364793385576792824 PySem.Challenge.pw_farhail_k49_whole_shares_of_known_webs w 11 (some (.ref 6)) 1 2206 (PySem.W.SharedT.mk (tB w.params) 15 (.mk [] [] [] 0 [] [] .false ⟨[]⟩ [] 0 .false .false .false 0 [2000,10,10] .false 0 .true [] [] 0 .false) (Array.mk ([] : List PySem.GenState)) (.mk 0 0 0 0) 187 os) (PySem.W.piecesOf sts0 env code (.mk 0 0 0 0) B)) = fun os => some (PySem.Flow.next, (PySem.W.SharedT.mk (t0 w.params) 282 (.mk [] [] [] 0 [] [] .false ⟨[]⟩ [] 0 .false .false .false 0 [2000,10,10] .false 0 .true [] [] 0 .false) (Array.mk ([] : List PySem.GenState)) (.mk 0 0 0 0) 569 os), code, (.mk 225 0 235 15)) := fun w => by kernel_rfl
theorem p0 (w : PySem.World) (os : PySem.OsState) : PySem.W.segRun PySem.treeTable PySem.Challenge.pw_farhail_k49_whole_shares_of_known_webs w 11 (some (.ref 6)) 1 2206 (PySem.W.SharedT.mk (tB w.params) 15 (.mk [] [] [] 0 [] [] .false ⟨[]⟩ [] 0 .false .false .false 0 [2000,10,10] .false 0 .true [] [] 0 .false) (Array.mk ([] : List PySem.GenState)) (.mk 0 0 0 0) 187 os).abs (PySem.W.piecesOf sts0 env code (.mk 0 0 0 0) B) = some (PySem.Flow.next, (PySem.W.SharedT.mk (t0 w.params) 282 (.mk [] [] [] 0 [] [] .false ⟨[]⟩ [] 0 .false .false .false 0 [2000,10,10] .false 0 .true [] [] 0 .false) (Array.mk ([] : List PySem.GenState)) (.mk 0 0 0 0) 569 os).abs, code, (.mk 225 0 235 15)) := PySem.W.segRun_of (by rw [PySem.W.Fast.te10110043849684766642, PySem.W.Fast.te14364793385576792824]; exact congrFun (pz0 w) os)
noncomputable def hF (P : PySem.Params) : PySem.Heap := ⟨⟨[(q0 P), (q1 P), (q2 P), (o4 P), (q4 P), (q5 P), (q6 P), (q7 P), (q8 P), (q9 P), (q10 P), o0, o5, o2, o3, o6, o7, (o8 P), o9, o10, o11, o12, o13, (o14 P), o15, o16, o17, o18, o19, o20, (o21 P), o22, o23, o24, o25, o26, (o27 P), o28, o29, o30, o31, o32, (o33 P), o34, o35, o36, o37, o38, (o39 P), o40, o41, o42, o43, o44, (o45 P), o46, o47, o48, o49, o50, (o51 P), o52, o53, o54, o55, o56, (o57 P), o58, o59, o60, o61, o62, (o63 P), o64, o65, o66, o67, o68, o69, o70, o71, o72, o73, o74, o75, o76, o77, o78, o79, o80, o81, o82, o83, o84, o85, o86, o87, o88, o89, o90, o91, o92, o93, o94, o95, o96, o97, o98, o99, o100, o101, o102, o103, o104, o105, o106, o107, o108, o109, o110, o111, o112, o113, o114, o115, o116, o117, o118, o119, o120, o121, o122, o123, o124, o125, o126, o127, o128, o129, o130, o131, o132, o133, o134, o135, o136, o137, o138, o139, o140, o141, o142, o143, o144, o145, o146, o147, o148, o149, o150, o151, o152, o153, o154, o155, o156, (o157 P), o158, o159, o160, o161, o162, o163, o164, o165, o166, o167, o168, o169, o170, o171, o172, o173, o174, o175, o176, o177, o178, o179, o180, o181, o182, o183, o184, o185, o186, o187, o188, o189, o190, o191, o192, o193, o194, o195, o196, o197, o198, o199, o200, o201, o202, o203, o204, o205, o206, o207, (o208 P), o209, o210, o211, o212, o213, o214, o215, o216, o217, o218, o219, o220, o221, o222, o223, o224, o225, o226, o227, o228, o229, o230, o231, o232, o233, o234, o235, o236, o237, o238, o239, o240, o241, o242, o243, o244, o245, o246, o247, o248, o249, o250, o251, o252, o253, o254, o255, o256, o257, o258, o259, o260, o261, o262, o263, o264, o265, o266, o267, o268, o269, o270, o271, o272]⟩, (.mk [] [] [] 0 [] [] .false ⟨[]⟩ [] 0 .false .false .false 0 [2000,10,10] .false 0 .true [] [] 0 .false)⟩
theorem fin0 (w : PySem.World) : (fun os : PySem.OsState => PySem.W.Fast.tw14082659384304107361 PySem.W.Fast.tw14364793385576792824 PySem.Challenge.pw_farhail_k49_whole_shares_of_known_webs w 11 (some (.ref 6)) 2 (PySem.W.SharedT.mk (t0 w.params) 282 (.mk [] [] [] 0 [] [] .false ⟨[]⟩ [] 0 .false .false .false 0 [2000,10,10] .false 0 .true [] [] 0 .false) (Array.mk ([] : List PySem.GenState)) (.mk 0 0 0 0) 569 os).abs (PySem.Thread.mk (PySem.W.doneF PySem.Flow.next) code (.mk 225 0 235 15) B)) = fun os => some (PySem.Shared.mk (hF w.params) (Array.mk ([] : List PySem.GenState)) (.mk 0 0 0 0) 569 os) := by kernel_rfl
theorem fin (w : PySem.World) (os : PySem.OsState) : PySem.W.topRun PySem.treeTable PySem.Challenge.pw_farhail_k49_whole_shares_of_known_webs w 11 (some (.ref 6)) 2 (PySem.W.SharedT.mk (t0 w.params) 282 (.mk [] [] [] 0 [] [] .false ⟨[]⟩ [] 0 .false .false .false 0 [2000,10,10] .false 0 .true [] [] 0 .false) (Array.mk ([] : List PySem.GenState)) (.mk 0 0 0 0) 569 os).abs (PySem.W.restOf [] env code (.mk 225 0 235 15) B) = some (PySem.Shared.mk (hF w.params) (Array.mk ([] : List PySem.GenState)) (.mk 0 0 0 0) 569 os) := by rw [show PySem.W.restOf [] env code (.mk 225 0 235 15) B = (PySem.Thread.mk (PySem.W.doneF PySem.Flow.next) code (.mk 225 0 235 15) B) by kernel_rfl, PySem.W.Fast.te14082659384304107361, PySem.W.Fast.te14364793385576792824]; exact congrFun (fin0 w) os
theorem parts : PySem.W.behindTheImports PySem.Challenge.pw_farhail_k49_whole_shares_of_known_webs = (sts0 ++ []) := by kernel_rfl
noncomputable abbrev SF (w : PySem.World) (os : PySem.OsState) : PySem.Shared := (PySem.Shared.mk (hF w.params) (Array.mk ([] : List PySem.GenState)) (.mk 0 0 0 0) 569 os)
theorem with_parts {tb : String → Option PySem.Builtin} {p : PySem.Program} {w : PySem.World} {n₀ : Nat} {a : Option PySem.Value} {N : Nat} {s : PySem.Shared} {r : Option PySem.Shared} {b b' : List PySem.Stmt} {e : PySem.Env} {c : PySem.Code} {q : PySem.Pos} {F : List PySem.Frame} (h : b = b') (k : PySem.W.topRun tb p w n₀ a N s (PySem.W.restOf b' e c q F) = r) : PySem.W.topRun tb p w n₀ a N s (PySem.W.restOf b e c q F) = r := by rw [h]; exact k
theorem run (w : PySem.World) (os : PySem.OsState) : PySem.W.topRun PySem.treeTable PySem.Challenge.pw_farhail_k49_whole_shares_of_known_webs w 11 (some (.ref 6)) (12 + (1 + (2206 + 2))) (PySem.Shared.mk (PySem.W.boot_heap w.params) (Array.mk ([] : List PySem.GenState)) PySem.W.boot_drawn PySem.W.boot_toks os) (PySem.W.topStub PySem.Challenge.pw_farhail_k49_whole_shares_of_known_webs) = some (PySem.Shared.mk (hF w.params) (Array.mk ([] : List PySem.GenState)) (.mk 0 0 0 0) 569 os) := PySem.W.go_top (pre w os) (PySem.W.piece_block (block w os) (with_parts parts (PySem.W.piece_app (p0 w os) (fin w os))))
theorem opens : ∀ w : PySem.World, (PySem.W.fencedOpening PySem.treeTable PySem.Challenge.pw_farhail_k49_whole_shares_of_known_webs w 4536).map (fun s => (s.heap, s.gens, s.drawn, s.toks)) = some (PySem.W.boot_heap w.params, Array.mk [], PySem.W.boot_drawn, PySem.W.boot_toks) := PySem.W.boot_open (by kernel_rfl) (by kernel_rfl) (fun s => by kernel_rfl)
theorem size : ∀ w : PySem.World, ((PySem.W.boot_heap w.params).isNs PySem.mainGlobals && (Array.mk [] : Array PySem.GenState).size == 0, (PySem.W.boot_heap w.params).objs.size, (PySem.W.boot_heap w.params).nsMap PySem.mainGlobals "__annotations__") = (true, 11, (some (.ref 6))) := fun w => by kernel_rfl
noncomputable def K : PySem.Params → PySem.W.Frag := fun P => (nat_lit 2, (ob .none (.dict ⟨[]⟩ 0))) :: (nat_lit 3, (ob (.type "dict") (.dict ⟨[(.mk (PyData.keyHash P "__name__") (.str "__name__" 165) (.str "law_farhail_k49_whole_shares_of_known_webs" 478)),(.mk (PyData.keyHash P "__doc__") (.str "__doc__" 166) .none),(.mk (PyData.keyHash P "__package__") (.str "__package__" 167) .none),(.mk (PyData.keyHash P "__loader__") (.str "__loader__" 168) (.builtin "__main__.__loader__#opaque")),(.mk (PyData.keyHash P "__spec__") (.str "__spec__" 169) .none),(.mk (PyData.keyHash P "__annotations__") (.str "__annotations__" 170) (.ref 6)),(.mk (PyData.keyHash P "__builtins__") (.str "__builtins__" 171) (.ref 4)),(.mk (PyData.keyHash P "__file__") (.str "__file__" 173) (.str "/claim/cut.py" 172)),(.mk (PyData.keyHash P "__cached__") (.str "__cached__" 174) .none),(.mk (PyData.keyHash P "HailError") (.str "HailError" 206) (.ref 24)),(.mk (PyData.keyHash P "NoPlace") (.str "NoPlace" 222) (.ref 37)),(.mk (PyData.keyHash P "NoThing") (.str "NoThing" 238) (.ref 49)),(.mk (PyData.keyHash P "NoLooks") (.str "NoLooks" 254) (.ref 61)),(.mk (PyData.keyHash P "TooMany") (.str "TooMany" 270) (.ref 73)),(.mk (PyData.keyHash P "near_lists") (.str "near_lists" 278) (.ref 80)),(.mk (PyData.keyHash P "fars_by") (.str "fars_by" 290) (.ref 87)),(.mk (PyData.keyHash P "place_asked") (.str "place_asked" 298) (.ref 94)),(.mk (PyData.keyHash P "fars_from") (.str "fars_from" 306) (.ref 101)),(.mk (PyData.keyHash P "table_of") (.str "table_of" 314) (.ref 106)),(.mk (PyData.keyHash P "things_of") (.str "things_of" 323) (.ref 113)),(.mk (PyData.keyHash P "looks_asked") (.str "looks_asked" 333) (.ref 120)),(.mk (PyData.keyHash P "thing_asked") (.str "thing_asked" 341) (.ref 127)),(.mk (PyData.keyHash P "far_by") (.str "far_by" 350) (.ref 134)),(.mk (PyData.keyHash P "code_of") (.str "code_of" 356) (.ref 139)),(.mk (PyData.keyHash P "MOST_SHARED") (.str "MOST_SHARED" 360) (.int 7 359)),(.mk (PyData.keyHash P "ask_shared") (.str "ask_shared" 367) (.ref 146)),(.mk (PyData.keyHash P "parted_pairs") (.str "parted_pairs" 373) (.ref 151)),(.mk (PyData.keyHash P "least_parted") (.str "least_parted" 379) (.ref 156)),(.mk (PyData.keyHash P "common_part") (.str "common_part" 387) (.ref 163)),(.mk (PyData.keyHash P "Board") (.str "Board" 471) (.ref 218)),(.mk (PyData.keyHash P "shares_of") (.str "shares_of" 477) (.ref 227)),(.mk (PyData.keyHash P "_law_purse") (.str "_law_purse" 489) (.ref 234)),(.mk (PyData.keyHash P "_law_take") (.str "_law_take" 498) (.ref 241)),(.mk (PyData.keyHash P "_law_order") (.str "_law_order" 508) (.ref 248)),(.mk (PyData.keyHash P "_law_pairs") (.str "_law_pairs" 514) (.ref 253)),(.mk (PyData.keyHash P "_law_web") (.str "_law_web" 531) (.ref 260)),(.mk (PyData.keyHash P "_law_shape") (.str "_law_shape" 545) (.ref 267)),(.mk (PyData.keyHash P "_law_ratio") (.str "_law_ratio" 553) (.ref 274)),(.mk (PyData.keyHash P "law") (.str "law" 568) (.ref 281))]⟩ 39))) :: (nat_lit 15, (ob (.type "tuple") (.seq ⟨[(.type "ValueError")]⟩ 0))) :: (nat_lit 22, (ob (.type "tuple") (.seq ⟨[]⟩ 0))) :: (nat_lit 23, (ob (.type "dict") (.dict ⟨[(.mk (PyData.keyHash P "__module__") (.str "__module__" 196) (.str "farhail.errors" 187)),(.mk (PyData.keyHash P "__firstlineno__") (.str "__firstlineno__" 200) (.int 2 199)),(.mk (PyData.keyHash P "__static_attributes__") (.str "__static_attributes__" 201) (.ref 22)),(.mk (PyData.keyHash P "__weakref__") (.str "__weakref__" 203) (.ref 25)),(.mk (PyData.keyHash P "__doc__") (.str "__doc__" 204) .none)]⟩ 3))) :: (nat_lit 24, (.mk (.type "type") none (.cls (.mk "HailError" [(.type "ValueError")] [(.ref 24),(.type "ValueError"),(.type "Exception"),(.type "BaseException"),(.type "object")] 23 "HailError" .true [] [(.ref 37),(.ref 49),(.ref 61),(.ref 73)] .false none .false)) ⟨[(some (.ref 15)),none,(some (.str "HailError" 189)),(some (.str "HailError" 197)),(some (.builtin "ValueError.__new__")),(some (.bool .true))]⟩)) :: (nat_lit 25, (ob (.type "getset_descriptor") (.fields ⟨[(.str "__weakref__" 202),(.ref 24),(.builtin "ExceptionGroup.__weakref__"),.none]⟩))) :: (nat_lit 28, (ob (.type "tuple") (.seq ⟨[(.ref 24)]⟩ 0))) :: (nat_lit 35, (ob (.type "tuple") (.seq ⟨[]⟩ 0))) :: (nat_lit 36, (ob (.type "dict") (.dict ⟨[(.mk (PyData.keyHash P "__module__") (.str "__module__" 214) (.str "farhail.errors" 187)),(.mk (PyData.keyHash P "__firstlineno__") (.str "__firstlineno__" 218) (.int 4 217)),(.mk (PyData.keyHash P "__static_attributes__") (.str "__static_attributes__" 219) (.ref 35)),(.mk (PyData.keyHash P "__doc__") (.str "__doc__" 220) .none)]⟩ 2))) :: (nat_lit 37, (.mk (.type "type") none (.cls (.mk "NoPlace" [(.ref 24)] [(.ref 37),(.ref 24),(.type "ValueError"),(.type "Exception"),(.type "BaseException"),(.type "object")] 36 "NoPlace" .true [] [] .false none .false)) ⟨[(some (.ref 28)),none,(some (.str "NoPlace" 207)),(some (.str "NoPlace" 215)),(some (.builtin "ValueError.__new__")),(some (.bool .true))]⟩)) :: (nat_lit 40, (ob (.type "tuple") (.seq ⟨[(.ref 24)]⟩ 0))) :: (nat_lit 47, (ob (.type "tuple") (.seq ⟨[]⟩ 0))) :: (nat_lit 48, (ob (.type "dict") (.dict ⟨[(.mk (PyData.keyHash P "__module__") (.str "__module__" 230) (.str "farhail.errors" 187)),(.mk (PyData.keyHash P "__firstlineno__") (.str "__firstlineno__" 234) (.int 6 233)),(.mk (PyData.keyHash P "__static_attributes__") (.str "__static_attributes__" 235) (.ref 47)),(.mk (PyData.keyHash P "__doc__") (.str "__doc__" 236) .none)]⟩ 2))) :: (nat_lit 49, (.mk (.type "type") none (.cls (.mk "NoThing" [(.ref 24)] [(.ref 49),(.ref 24),(.type "ValueError"),(.type "Exception"),(.type "BaseException"),(.type "object")] 48 "NoThing" .true [] [] .false none .false)) ⟨[(some (.ref 40)),none,(some (.str "NoThing" 223)),(some (.str "NoThing" 231)),(some (.builtin "ValueError.__new__")),(some (.bool .true))]⟩)) :: (nat_lit 52, (ob (.type "tuple") (.seq ⟨[(.ref 24)]⟩ 0))) :: (nat_lit 59, (ob (.type "tuple") (.seq ⟨[]⟩ 0))) :: (nat_lit 60, (ob (.type "dict") (.dict ⟨[(.mk (PyData.keyHash P "__module__") (.str "__module__" 246) (.str "farhail.errors" 187)),(.mk (PyData.keyHash P "__firstlineno__") (.str "__firstlineno__" 250) (.int 8 249)),(.mk (PyData.keyHash P "__static_attributes__") (.str "__static_attributes__" 251) (.ref 59)),(.mk (PyData.keyHash P "__doc__") (.str "__doc__" 252) .none)]⟩ 2))) :: (nat_lit 61, (.mk (.type "type") none (.cls (.mk "NoLooks" [(.ref 24)] [(.ref 61),(.ref 24),(.type "ValueError"),(.type "Exception"),(.type "BaseException"),(.type "object")] 60 "NoLooks" .true [] [] .false none .false)) ⟨[(some (.ref 52)),none,(some (.str "NoLooks" 239)),(some (.str "NoLooks" 247)),(some (.builtin "ValueError.__new__")),(some (.bool .true))]⟩)) :: (nat_lit 64, (ob (.type "tuple") (.seq ⟨[(.ref 24)]⟩ 0))) :: (nat_lit 71, (ob (.type "tuple") (.seq ⟨[]⟩ 0))) :: (nat_lit 72, (ob (.type "dict") (.dict ⟨[(.mk (PyData.keyHash P "__module__") (.str "__module__" 262) (.str "farhail.errors" 187)),(.mk (PyData.keyHash P "__firstlineno__") (.str "__firstlineno__" 266) (.int 10 265)),(.mk (PyData.keyHash P "__static_attributes__") (.str "__static_attributes__" 267) (.ref 71)),(.mk (PyData.keyHash P "__doc__") (.str "__doc__" 268) .none)]⟩ 2))) :: (nat_lit 73, (.mk (.type "type") none (.cls (.mk "TooMany" [(.ref 24)] [(.ref 73),(.ref 24),(.type "ValueError"),(.type "Exception"),(.type "BaseException"),(.type "object")] 72 "TooMany" .true [] [] .false none .false)) ⟨[(some (.ref 64)),none,(some (.str "TooMany" 255)),(some (.str "TooMany" 263)),(some (.builtin "ValueError.__new__")),(some (.bool .true))]⟩)) :: (nat_lit 76, (ob (.type "tuple") (.seq ⟨[]⟩ 0))) :: (nat_lit 79, (ob (.type "code") (.fields ⟨[(.str "near_lists" 273),(.str "near_lists" 274),(.str "/claim/cut.py" 275),(.int 13 0),(.int 1 0),(.int 0 0),(.int 0 0),(.int 3 0),(.ref 76),(.bool .true),(.int 181 0),(.ref 77),.none,.none,.none,(.ref 78),(.int 276 0),(.int 13 0),(.str "/claim/cut.py" 277)]⟩))) :: (nat_lit 80, (fO (.type "function") "near_lists" (G.top 7) (.str "farhail.webs" 271) (.ref 79))) :: (nat_lit 81, (ob (.type "tuple") (.seq ⟨[]⟩ 0))) :: (nat_lit 83, (ob (.type "tuple") (.seq ⟨[(.str "near" 282),(.str "place" 283),(.str "found" 284),(.str "line" 285),(.str "at" 286),(.str "other" 287)]⟩ 0))) :: (nat_lit 84, (ob (.type "tuple") (.seq ⟨[]⟩ 0))) :: (nat_lit 86, (ob (.type "code") (.fields ⟨[(.str "fars_by" 279),(.str "fars_by" 280),(.str "/claim/cut.py" 281),(.int 19 0),(.int 2 0),(.int 0 0),(.int 0 0),(.int 3 0),(.ref 81),(.bool .true),(.int 181 0),(.ref 82),.none,(.ref 83),(.ref 84),(.ref 85),(.int 288 0),(.int 19 0),(.str "/claim/cut.py" 289)]⟩))) :: (nat_lit 87, (fO (.type "function") "fars_by" (G.top 8) (.str "farhail.webs" 271) (.ref 86))) :: (nat_lit 88, (ob (.type "tuple") (.seq ⟨[]⟩ 0))) :: (nat_lit 90, (ob (.type "tuple") (.seq ⟨[(.str "web" 294),(.str "place" 295)]⟩ 0))) :: (nat_lit 91, (ob (.type "tuple") (.seq ⟨[]⟩ 0))) :: (nat_lit 93, (ob (.type "code") (.fields ⟨[(.str "place_asked" 291),(.str "place_asked" 292),(.str "/claim/cut.py" 293),(.int 31 0),(.int 2 0),(.int 0 0),(.int 0 0),(.int 3 0),(.ref 88),(.bool .true),(.int 181 0),(.ref 89),.none,(.ref 90),(.ref 91),(.ref 92),(.int 296 0),(.int 31 0),(.str "/claim/cut.py" 297)]⟩))) :: (nat_lit 94, (fO (.type "function") "place_asked" (G.top 9) (.str "farhail.webs" 271) (.ref 93))) :: (nat_lit 95, (ob (.type "tuple") (.seq ⟨[]⟩ 0))) :: (nat_lit 97, (ob (.type "tuple") (.seq ⟨[(.str "web" 302),(.str "place" 303)]⟩ 0))) :: (nat_lit 98, (ob (.type "tuple") (.seq ⟨[]⟩ 0))) :: (nat_lit 100, (ob (.type "code") (.fields ⟨[(.str "fars_from" 299),(.str "fars_from" 300),(.str "/claim/cut.py" 301),(.int 34 0),(.int 2 0),(.int 0 0),(.int 0 0),(.int 3 0),(.ref 95),(.bool .true),(.int 181 0),(.ref 96),.none,(.ref 97),(.ref 98),(.ref 99),(.int 304 0),(.int 34 0),(.str "/claim/cut.py" 305)]⟩))) :: (nat_lit 101, (fO (.type "function") "fars_from" (G.top 10) (.str "farhail.webs" 271) (.ref 100))) :: (nat_lit 102, (ob (.type "tuple") (.seq ⟨[]⟩ 0))) :: (nat_lit 105, (ob (.type "code") (.fields ⟨[(.str "table_of" 309),(.str "table_of" 310),(.str "/claim/cut.py" 311),(.int 38 0),(.int 1 0),(.int 0 0),(.int 0 0),(.int 3 0),(.ref 102),(.bool .true),(.int 181 0),(.ref 103),.none,.none,.none,(.ref 104),(.int 312 0),(.int 38 0),(.str "/claim/cut.py" 313)]⟩))) :: (nat_lit 106, (fO (.type "function") "table_of" (G.top 12) (.str "farhail.codes" 307) (.ref 105))) :: (nat_lit 107, (ob (.type "tuple") (.seq ⟨[]⟩ 0))) :: (nat_lit 109, (ob (.type "tuple") (.seq ⟨[(.str "web" 318),(.str "kind" 319),(.str "places" 320)]⟩ 0))) :: (nat_lit 110, (ob (.type "tuple") (.seq ⟨[]⟩ 0))) :: (nat_lit 112, (ob (.type "code") (.fields ⟨[(.str "things_of" 315),(.str "things_of" 316),(.str "/claim/cut.py" 317),(.int 40 0),(.int 2 0),(.int 0 0),(.int 0 0),(.int 3 0),(.ref 107),(.bool .true),(.int 181 0),(.ref 108),.none,(.ref 109),(.ref 110),(.ref 111),(.int 321 0),(.int 40 0),(.str "/claim/cut.py" 322)]⟩))) :: (nat_lit 113, (fO (.type "function") "things_of" (G.top 13) (.str "farhail.codes" 307) (.ref 112))) :: (nat_lit 114, (ob (.type "tuple") (.seq ⟨[]⟩ 0))) :: (nat_lit 116, (ob (.type "tuple") (.seq ⟨[(.str "web" 327),(.str "looks" 328),(.str "at" 329),(.str "look" 330)]⟩ 0))) :: (nat_lit 117, (ob (.type "tuple") (.seq ⟨[]⟩ 0))) :: (nat_lit 119, (ob (.type "code") (.fields ⟨[(.str "looks_asked" 324),(.str "looks_asked" 325),(.str "/claim/cut.py" 326),(.int 47 0),(.int 2 0),(.int 0 0),(.int 0 0),(.int 3 0),(.ref 114),(.bool .true),(.int 181 0),(.ref 115),.none,(.ref 116),(.ref 117),(.ref 118),(.int 331 0),(.int 47 0),(.str "/claim/cut.py" 332)]⟩))) :: (nat_lit 120, (fO (.type "function") "looks_asked" (G.top 14) (.str "farhail.codes" 307) (.ref 119))) :: (nat_lit 121, (ob (.type "tuple") (.seq ⟨[]⟩ 0))) :: (nat_lit 123, (ob (.type "tuple") (.seq ⟨[(.str "web" 337),(.str "thing" 338)]⟩ 0))) :: (nat_lit 124, (ob (.type "tuple") (.seq ⟨[]⟩ 0))) :: (nat_lit 126, (ob (.type "code") (.fields ⟨[(.str "thing_asked" 334),(.str "thing_asked" 335),(.str "/claim/cut.py" 336),(.int 51 0),(.int 2 0),(.int 0 0),(.int 0 0),(.int 3 0),(.ref 121),(.bool .true),(.int 181 0),(.ref 122),.none,(.ref 123),(.ref 124),(.ref 125),(.int 339 0),(.int 51 0),(.str "/claim/cut.py" 340)]⟩))) :: (nat_lit 127, (fO (.type "function") "thing_asked" (G.top 15) (.str "farhail.codes" 307) (.ref 126))) :: (nat_lit 128, (ob (.type "tuple") (.seq ⟨[]⟩ 0))) :: (nat_lit 130, (ob (.type "tuple") (.seq ⟨[(.str "table" 345),(.str "look" 346),(.str "thing" 347)]⟩ 0))) :: (nat_lit 131, (ob (.type "tuple") (.seq ⟨[]⟩ 0))) :: (nat_lit 133, (ob (.type "code") (.fields ⟨[(.str "far_by" 342),(.str "far_by" 343),(.str "/claim/cut.py" 344),(.int 57 0),(.int 3 0),(.int 0 0),(.int 0 0),(.int 3 0),(.ref 128),(.bool .true),(.int 181 0),(.ref 129),.none,(.ref 130),(.ref 131),(.ref 132),(.int 348 0),(.int 57 0),(.str "/claim/cut.py" 349)]⟩))) :: (nat_lit 134, (fO (.type "function") "far_by" (G.top 16) (.str "farhail.codes" 307) (.ref 133))) :: (nat_lit 135, (ob (.type "tuple") (.seq ⟨[]⟩ 0))) :: (nat_lit 138, (ob (.type "code") (.fields ⟨[(.str "code_of" 351),(.str "code_of" 352),(.str "/claim/cut.py" 353),(.int 61 0),(.int 3 0),(.int 0 0),(.int 0 0),(.int 3 0),(.ref 135),(.bool .true),(.int 181 0),(.ref 136),.none,.none,.none,(.ref 137),(.int 354 0),(.int 61 0),(.str "/claim/cut.py" 355)]⟩))) :: (nat_lit 139, (fO (.type "function") "code_of" (G.top 17) (.str "farhail.codes" 307) (.ref 138))) :: (nat_lit 140, (ob (.type "tuple") (.seq ⟨[]⟩ 0))) :: (nat_lit 142, (ob (.type "tuple") (.seq ⟨[(.str "web" 364)]⟩ 0))) :: (nat_lit 143, (ob (.type "tuple") (.seq ⟨[]⟩ 0))) :: (nat_lit 145, (ob (.type "code") (.fields ⟨[(.str "ask_shared" 361),(.str "ask_shared" 362),(.str "/claim/cut.py" 363),(.int 68 0),(.int 1 0),(.int 0 0),(.int 0 0),(.int 3 0),(.ref 140),(.bool .true),(.int 181 0),(.ref 141),.none,(.ref 142),(.ref 143),(.ref 144),(.int 365 0),(.int 68 0),(.str "/claim/cut.py" 366)]⟩))) :: (nat_lit 146, (fO (.type "function") "ask_shared" (G.top 20) (.str "farhail.shares" 357) (.ref 145))) :: (nat_lit 147, (ob (.type "tuple") (.seq ⟨[]⟩ 0))) :: (nat_lit 150, (ob (.type "code") (.fields ⟨[(.str "parted_pairs" 368),(.str "parted_pairs" 369),(.str "/claim/cut.py" 370),(.int 71 0),(.int 2 0),(.int 0 0),(.int 0 0),(.int 3 0),(.ref 147),(.bool .true),(.int 181 0),(.ref 148),.none,.none,.none,(.ref 149),(.int 371 0),(.int 71 0),(.str "/claim/cut.py" 372)]⟩))) :: (nat_lit 151, (fO (.type "function") "parted_pairs" (G.top 21) (.str "farhail.shares" 357) (.ref 150))) :: (nat_lit 152, (ob (.type "tuple") (.seq ⟨[]⟩ 0))) :: (nat_lit 155, (ob (.type "code") (.fields ⟨[(.str "least_parted" 374),(.str "least_parted" 375),(.str "/claim/cut.py" 376),(.int 80 0),(.int 1 0),(.int 0 0),(.int 0 0),(.int 3 0),(.ref 152),(.bool .true),(.int 181 0),(.ref 153),.none,.none,.none,(.ref 154),(.int 377 0),(.int 80 0),(.str "/claim/cut.py" 378)]⟩))) :: (nat_lit 156, (fO (.type "function") "least_parted" (G.top 22) (.str "farhail.shares" 357) (.ref 155))) :: (nat_lit 157, (ob (.type "tuple") (.seq ⟨[]⟩ 0))) :: (nat_lit 159, (ob (.type "tuple") (.seq ⟨[(.str "one" 383),(.str "other" 384)]⟩ 0))) :: (nat_lit 160, (ob (.type "tuple") (.seq ⟨[]⟩ 0))) :: (nat_lit 162, (ob (.type "code") (.fields ⟨[(.str "common_part" 380),(.str "common_part" 381),(.str "/claim/cut.py" 382),(.int 90 0),(.int 2 0),(.int 0 0),(.int 0 0),(.int 3 0),(.ref 157),(.bool .true),(.int 181 0),(.ref 158),.none,(.ref 159),(.ref 160),(.ref 161),(.int 385 0),(.int 90 0),(.str "/claim/cut.py" 386)]⟩))) :: (nat_lit 163, (fO (.type "function") "common_part" (G.top 23) (.str "farhail.shares" 357) (.ref 162))) :: (nat_lit 171, (ob (.type "tuple") (.seq ⟨[]⟩ 0))) :: (nat_lit 174, (ob (.type "code") (.fields ⟨[(.str "__init__" 400),(.str "Board.__init__" 401),(.str "/claim/cut.py" 402),(.int 96 0),(.int 3 0),(.int 0 0),(.int 0 0),(.int 3 0),(.ref 171),(.bool .true),(.int 181 0),(.ref 172),.none,.none,.none,(.ref 173),(.int 403 0),(.int 96 0),(.str "/claim/cut.py" 404)]⟩))) :: (nat_lit 175, (.mk (.type "function") none (.func (PySem.W.fnOf "__init__" "Board.__init__" (L2.defArgs (L2.inClass (G.top 24) 0)) (L2.defBody (L2.inClass (G.top 24) 0)) (L2.defScope (L2.inClass (G.top 24) 0)) .none .none .none (.str "farhail.shares" 357) none (.ref 174) .none)) ⟨[]⟩)) :: (nat_lit 176, (ob (.type "tuple") (.seq ⟨[]⟩ 0))) :: (nat_lit 178, (ob (.type "tuple") (.seq ⟨[(.str "self" 409),(.str "at" 410)]⟩ 0))) :: (nat_lit 179, (ob (.type "tuple") (.seq ⟨[]⟩ 0))) :: (nat_lit 181, (ob (.type "code") (.fields ⟨[(.str "growing" 406),(.str "Board.growing" 407),(.str "/claim/cut.py" 408),(.int 106 0),(.int 1 0),(.int 0 0),(.int 0 0),(.int 3 0),(.ref 176),(.bool .true),(.int 181 0),(.ref 177),.none,(.ref 178),(.ref 179),(.ref 180),(.int 411 0),(.int 106 0),(.str "/claim/cut.py" 412)]⟩))) :: (nat_lit 182, (.mk (.type "function") none (.func (PySem.W.fnOf "growing" "Board.growing" (L2.defArgs (L2.inClass (G.top 24) 1)) (L2.defBody (L2.inClass (G.top 24) 1)) (L2.defScope (L2.inClass (G.top 24) 1)) .none .none .none (.str "farhail.shares" 357) none (.ref 181) .none)) ⟨[]⟩)) :: (nat_lit 183, (ob (.type "tuple") (.seq ⟨[]⟩ 0))) :: (nat_lit 185, (ob (.type "tuple") (.seq ⟨[(.str "self" 417),(.str "at" 418),(.str "best" 419),(.str "column" 420),(.str "one" 421),(.str "other" 422)]⟩ 0))) :: (nat_lit 186, (ob (.type "tuple") (.seq ⟨[]⟩ 0))) :: (nat_lit 188, (ob (.type "code") (.fields ⟨[(.str "bounds_more" 414),(.str "Board.bounds_more" 415),(.str "/claim/cut.py" 416),(.int 112 0),(.int 4 0),(.int 0 0),(.int 0 0),(.int 3 0),(.ref 183),(.bool .true),(.int 181 0),(.ref 184),.none,(.ref 185),(.ref 186),(.ref 187),(.int 423 0),(.int 112 0),(.str "/claim/cut.py" 424)]⟩))) :: (nat_lit 189, (.mk (.type "function") none (.func (PySem.W.fnOf "bounds_more" "Board.bounds_more" (L2.defArgs (L2.inClass (G.top 24) 2)) (L2.defBody (L2.inClass (G.top 24) 2)) (L2.defScope (L2.inClass (G.top 24) 2)) .none .none .none (.str "farhail.shares" 357) none (.ref 188) .none)) ⟨[]⟩)) :: (nat_lit 190, (ob (.type "tuple") (.seq ⟨[]⟩ 0))) :: (nat_lit 192, (ob (.type "tuple") (.seq ⟨[(.str "self" 429),(.str "column" 430),(.str "best" 431),(.str "at" 432)]⟩ 0))) :: (nat_lit 193, (ob (.type "tuple") (.seq ⟨[]⟩ 0))) :: (nat_lit 195, (ob (.type "code") (.fields ⟨[(.str "bounding" 426),(.str "Board.bounding" 427),(.str "/claim/cut.py" 428),(.int 117 0),(.int 2 0),(.int 0 0),(.int 0 0),(.int 3 0),(.ref 190),(.bool .true),(.int 181 0),(.ref 191),.none,(.ref 192),(.ref 193),(.ref 194),(.int 433 0),(.int 117 0),(.str "/claim/cut.py" 434)]⟩))) :: (nat_lit 196, (.mk (.type "function") none (.func (PySem.W.fnOf "bounding" "Board.bounding" (L2.defArgs (L2.inClass (G.top 24) 3)) (L2.defBody (L2.inClass (G.top 24) 3)) (L2.defScope (L2.inClass (G.top 24) 3)) .none .none .none (.str "farhail.shares" 357) none (.ref 195) .none)) ⟨[]⟩)) :: (nat_lit 197, (ob (.type "tuple") (.seq ⟨[]⟩ 0))) :: (nat_lit 200, (ob (.type "code") (.fields ⟨[(.str "turn_in" 436),(.str "Board.turn_in" 437),(.str "/claim/cut.py" 438),(.int 125 0),(.int 3 0),(.int 0 0),(.int 0 0),(.int 3 0),(.ref 197),(.bool .true),(.int 181 0),(.ref 198),.none,.none,.none,(.ref 199),(.int 439 0),(.int 125 0),(.str "/claim/cut.py" 440)]⟩))) :: (nat_lit 201, (.mk (.type "function") none (.func (PySem.W.fnOf "turn_in" "Board.turn_in" (L2.defArgs (L2.inClass (G.top 24) 4)) (L2.defBody (L2.inClass (G.top 24) 4)) (L2.defScope (L2.inClass (G.top 24) 4)) .none .none .none (.str "farhail.shares" 357) none (.ref 200) .none)) ⟨[]⟩)) :: (nat_lit 202, (ob (.type "tuple") (.seq ⟨[]⟩ 0))) :: (nat_lit 204, (ob (.type "tuple") (.seq ⟨[(.str "self" 445),(.str "column" 446)]⟩ 0))) :: (nat_lit 205, (ob (.type "tuple") (.seq ⟨[]⟩ 0))) :: (nat_lit 207, (ob (.type "code") (.fields ⟨[(.str "solve" 442),(.str "Board.solve" 443),(.str "/claim/cut.py" 444),(.int 135 0),(.int 1 0),(.int 0 0),(.int 0 0),(.int 3 0),(.ref 202),(.bool .true),(.int 181 0),(.ref 203),.none,(.ref 204),(.ref 205),(.ref 206),(.int 447 0),(.int 135 0),(.str "/claim/cut.py" 448)]⟩))) :: (nat_lit 208, (.mk (.type "function") none (.func (PySem.W.fnOf "solve" "Board.solve" (L2.defArgs (L2.inClass (G.top 24) 5)) (L2.defBody (L2.inClass (G.top 24) 5)) (L2.defScope (L2.inClass (G.top 24) 5)) .none .none .none (.str "farhail.shares" 357) none (.ref 207) .none)) ⟨[]⟩)) :: (nat_lit 209, (ob (.type "tuple") (.seq ⟨[]⟩ 0))) :: (nat_lit 211, (ob (.type "tuple") (.seq ⟨[(.str "self" 453),(.str "found" 454),(.str "at" 455),(.str "column" 456)]⟩ 0))) :: (nat_lit 212, (ob (.type "tuple") (.seq ⟨[]⟩ 0))) :: (nat_lit 214, (ob (.type "code") (.fields ⟨[(.str "prices_now" 450),(.str "Board.prices_now" 451),(.str "/claim/cut.py" 452),(.int 141 0),(.int 1 0),(.int 0 0),(.int 0 0),(.int 3 0),(.ref 209),(.bool .true),(.int 181 0),(.ref 210),.none,(.ref 211),(.ref 212),(.ref 213),(.int 457 0),(.int 141 0),(.str "/claim/cut.py" 458)]⟩))) :: (nat_lit 215, (.mk (.type "function") none (.func (PySem.W.fnOf "prices_now" "Board.prices_now" (L2.defArgs (L2.inClass (G.top 24) 6)) (L2.defBody (L2.inClass (G.top 24) 6)) (L2.defScope (L2.inClass (G.top 24) 6)) .none .none .none (.str "farhail.shares" 357) none (.ref 214) .none)) ⟨[]⟩)) :: (nat_lit 216, (ob (.type "tuple") (.seq ⟨[(.str "bottom" 460),(.str "held" 461),(.str "lines" 462),(.str "priced" 463)]⟩ 0))) :: (nat_lit 217, (ob (.type "dict") (.dict ⟨[(.mk (PyData.keyHash P "__module__") (.str "__module__" 395) (.str "farhail.shares" 357)),(.mk (PyData.keyHash P "__firstlineno__") (.str "__firstlineno__" 399) (.int 94 398)),(.mk (PyData.keyHash P "__init__") (.str "__init__" 405) (.ref 175)),(.mk (PyData.keyHash P "growing") (.str "growing" 413) (.ref 182)),(.mk (PyData.keyHash P "bounds_more") (.str "bounds_more" 425) (.ref 189)),(.mk (PyData.keyHash P "bounding") (.str "bounding" 435) (.ref 196)),(.mk (PyData.keyHash P "turn_in") (.str "turn_in" 441) (.ref 201)),(.mk (PyData.keyHash P "solve") (.str "solve" 449) (.ref 208)),(.mk (PyData.keyHash P "prices_now") (.str "prices_now" 459) (.ref 215)),(.mk (PyData.keyHash P "__static_attributes__") (.str "__static_attributes__" 464) (.ref 216)),(.mk (PyData.keyHash P "__dict__") (.str "__dict__" 466) (.ref 219)),(.mk (PyData.keyHash P "__weakref__") (.str "__weakref__" 468) (.ref 220)),(.mk (PyData.keyHash P "__doc__") (.str "__doc__" 469) .none)]⟩ 4))) :: (nat_lit 218, (.mk (.type "type") none (.cls (.mk "Board" [(.type "object")] [(.ref 218),(.type "object")] 217 "Board" .true [] [] .false none .false)) ⟨[none,none,(some (.str "Board" 388)),(some (.str "Board" 396)),(some (.builtin "object.__new__")),(some (.bool .true))]⟩)) :: (nat_lit 219, (ob (.type "getset_descriptor") (.fields ⟨[(.str "__dict__" 465),(.ref 218),(.builtin "function.__dict__"),(.builtin "function.__dict__#set")]⟩))) :: (nat_lit 220, (ob (.type "getset_descriptor") (.fields ⟨[(.str "__weakref__" 467),(.ref 218),(.builtin "ExceptionGroup.__weakref__"),.none]⟩))) :: (nat_lit 223, (ob (.type "tuple") (.seq ⟨[]⟩ 0))) :: (nat_lit 226, (ob (.type "code") (.fields ⟨[(.str "shares_of" 472),(.str "shares_of" 473),(.str "/claim/cut.py" 474),(.int 147 0),(.int 2 0),(.int 0 0),(.int 0 0),(.int 3 0),(.ref 223),(.bool .true),(.int 181 0),(.ref 224),.none,.none,.none,(.ref 225),(.int 475 0),(.int 147 0),(.str "/claim/cut.py" 476)]⟩))) :: (nat_lit 227, (fO (.type "function") "shares_of" (G.top 25) (.str "farhail.shares" 357) (.ref 226))) :: (nat_lit 228, (ob (.type "tuple") (.seq ⟨[]⟩ 0))) :: (nat_lit 230, (ob (.type "tuple") (.seq ⟨[(.str "_law_script" 483),(.str "_law_k" 484),(.str "_law_cell" 485),(.str "_law_number" 486)]⟩ 0))) :: (nat_lit 231, (ob (.type "tuple") (.seq ⟨[]⟩ 0))) :: (nat_lit 233, (ob (.type "code") (.fields ⟨[(.str "_law_purse" 480),(.str "_law_purse" 481),(.str "/claim/cut.py" 482),(.int 160 0),(.int 2 0),(.int 0 0),(.int 0 0),(.int 3 0),(.ref 228),(.bool .true),(.int 181 0),(.ref 229),.none,(.ref 230),(.ref 231),(.ref 232),(.int 487 0),(.int 160 0),(.str "/claim/cut.py" 488)]⟩))) :: (nat_lit 234, (fO (.type "function") "_law_purse" (G.top 27) (.str "law_farhail_k49_whole_shares_of_known_webs" 478) (.ref 233))) :: (nat_lit 235, (ob (.type "tuple") (.seq ⟨[]⟩ 0))) :: (nat_lit 237, (ob (.type "tuple") (.seq ⟨[(.str "_law_purse_here" 493),(.str "_law_many" 494),(.str "_law_found" 495)]⟩ 0))) :: (nat_lit 238, (ob (.type "tuple") (.seq ⟨[]⟩ 0))) :: (nat_lit 240, (ob (.type "code") (.fields ⟨[(.str "_law_take" 490),(.str "_law_take" 491),(.str "/claim/cut.py" 492),(.int 170 0),(.int 2 0),(.int 0 0),(.int 0 0),(.int 3 0),(.ref 235),(.bool .true),(.int 181 0),(.ref 236),.none,(.ref 237),(.ref 238),(.ref 239),(.int 496 0),(.int 170 0),(.str "/claim/cut.py" 497)]⟩))) :: (nat_lit 241, (fO (.type "function") "_law_take" (G.top 28) (.str "law_farhail_k49_whole_shares_of_known_webs" 478) (.ref 240))) :: (nat_lit 242, (ob (.type "tuple") (.seq ⟨[]⟩ 0))) :: (nat_lit 244, (ob (.type "tuple") (.seq ⟨[(.str "_law_purse_here" 502),(.str "_law_many" 503),(.str "_law_found" 504),(.str "_law_k" 505)]⟩ 0))) :: (nat_lit 245, (ob (.type "tuple") (.seq ⟨[]⟩ 0))) :: (nat_lit 247, (ob (.type "code") (.fields ⟨[(.str "_law_order" 499),(.str "_law_order" 500),(.str "/claim/cut.py" 501),(.int 174 0),(.int 2 0),(.int 0 0),(.int 0 0),(.int 3 0),(.ref 242),(.bool .true),(.int 181 0),(.ref 243),.none,(.ref 244),(.ref 245),(.ref 246),(.int 506 0),(.int 174 0),(.str "/claim/cut.py" 507)]⟩))) :: (nat_lit 248, (fO (.type "function") "_law_order" (G.top 29) (.str "law_farhail_k49_whole_shares_of_known_webs" 478) (.ref 247))) :: (nat_lit 249, (ob (.type "tuple") (.seq ⟨[]⟩ 0))) :: (nat_lit 252, (ob (.type "code") (.fields ⟨[(.str "_law_pairs" 509),(.str "_law_pairs" 510),(.str "/claim/cut.py" 511),(.int 179 0),(.int 3 0),(.int 0 0),(.int 0 0),(.int 3 0),(.ref 249),(.bool .true),(.int 181 0),(.ref 250),.none,.none,.none,(.ref 251),(.int 512 0),(.int 179 0),(.str "/claim/cut.py" 513)]⟩))) :: (nat_lit 253, (fO (.type "function") "_law_pairs" (G.top 30) (.str "law_farhail_k49_whole_shares_of_known_webs" 478) (.ref 252))) :: (nat_lit 261, (ob (.type "tuple") (.seq ⟨[]⟩ 0))) :: (nat_lit 263, (ob (.type "tuple") (.seq ⟨[(.str "_law_purse_here" 535),(.str "_law_way" 536),(.str "_law_many" 537),(.str "_law_places" 538),(.str "_law_found" 539),(.str "_law_one" 540),(.str "_law_other" 541),(.str "_law_ends" 542)]⟩ 0))) :: (nat_lit 264, (ob (.type "tuple") (.seq ⟨[]⟩ 0))) :: (nat_lit 266, (ob (.type "code") (.fields ⟨[(.str "_law_shape" 532),(.str "_law_shape" 533),(.str "/claim/cut.py" 534),(.int 205 0),(.int 1 0),(.int 0 0),(.int 0 0),(.int 3 0),(.ref 261),(.bool .true),(.int 181 0),(.ref 262),.none,(.ref 263),(.ref 264),(.ref 265),(.int 543 0),(.int 205 0),(.str "/claim/cut.py" 544)]⟩))) :: (nat_lit 267, (fO (.type "function") "_law_shape" (G.top 32) (.str "law_farhail_k49_whole_shares_of_known_webs" 478) (.ref 266))) :: (nat_lit 268, (ob (.type "tuple") (.seq ⟨[]⟩ 0))) :: (nat_lit 270, (ob (.type "tuple") (.seq ⟨[(.str "_law_many" 549),(.str "_law_way" 550)]⟩ 0))) :: (nat_lit 271, (ob (.type "tuple") (.seq ⟨[]⟩ 0))) :: (nat_lit 273, (ob (.type "code") (.fields ⟨[(.str "_law_ratio" 546),(.str "_law_ratio" 547),(.str "/claim/cut.py" 548),(.int 215 0),(.int 2 0),(.int 0 0),(.int 0 0),(.int 3 0),(.ref 268),(.bool .true),(.int 181 0),(.ref 269),.none,(.ref 270),(.ref 271),(.ref 272),(.int 551 0),(.int 215 0),(.str "/claim/cut.py" 552)]⟩))) :: (nat_lit 274, (fO (.type "function") "_law_ratio" (G.top 33) (.str "law_farhail_k49_whole_shares_of_known_webs" 478) (.ref 273))) :: (nat_lit 275, (ob (.type "tuple") (.seq ⟨[]⟩ 0))) :: (nat_lit 277, (ob (.type "tuple") (.seq ⟨[(.str "_law_script" 557),(.str "_law_web_here" 558),(.str "_law_way" 559),(.str "_law_many" 560),(.str "_law_above" 561),(.str "_law_below" 562),(.str "_law_bottom" 563),(.str "_law_shares" 564),(.str "_law_prices" 565)]⟩ 0))) :: (nat_lit 278, (ob (.type "tuple") (.seq ⟨[]⟩ 0))) :: (nat_lit 280, (ob (.type "code") (.fields ⟨[(.str "law" 554),(.str "law" 555),(.str "/claim/cut.py" 556),(.int 225 0),(.int 1 0),(.int 0 0),(.int 0 0),(.int 3 0),(.ref 275),(.bool .true),(.int 181 0),(.ref 276),.none,(.ref 277),(.ref 278),(.ref 279),(.int 566 0),(.int 225 0),(.str "/claim/cut.py" 567)]⟩))) :: (nat_lit 281, (fO (.type "function") "law" (G.top 34) (.str "law_farhail_k49_whole_shares_of_known_webs" 478) (.ref 280))) :: []
noncomputable abbrev as : List PySem.Addr := nat_lit 2 :: nat_lit 3 :: nat_lit 15 :: nat_lit 22 :: nat_lit 23 :: nat_lit 24 :: nat_lit 25 :: nat_lit 28 :: nat_lit 35 :: nat_lit 36 :: nat_lit 37 :: nat_lit 40 :: nat_lit 47 :: nat_lit 48 :: nat_lit 49 :: nat_lit 52 :: nat_lit 59 :: nat_lit 60 :: nat_lit 61 :: nat_lit 64 :: nat_lit 71 :: nat_lit 72 :: nat_lit 73 :: nat_lit 76 :: nat_lit 79 :: nat_lit 80 :: nat_lit 81 :: nat_lit 83 :: nat_lit 84 :: nat_lit 86 :: nat_lit 87 :: nat_lit 88 :: nat_lit 90 :: nat_lit 91 :: nat_lit 93 :: nat_lit 94 :: nat_lit 95 :: nat_lit 97 :: nat_lit 98 :: nat_lit 100 :: nat_lit 101 :: nat_lit 102 :: nat_lit 105 :: nat_lit 106 :: nat_lit 107 :: nat_lit 109 :: nat_lit 110 :: nat_lit 112 :: nat_lit 113 :: nat_lit 114 :: nat_lit 116 :: nat_lit 117 :: nat_lit 119 :: nat_lit 120 :: nat_lit 121 :: nat_lit 123 :: nat_lit 124 :: nat_lit 126 :: nat_lit 127 :: nat_lit 128 :: nat_lit 130 :: nat_lit 131 :: nat_lit 133 :: nat_lit 134 :: nat_lit 135 :: nat_lit 138 :: nat_lit 139 :: nat_lit 140 :: nat_lit 142 :: nat_lit 143 :: nat_lit 145 :: nat_lit 146 :: nat_lit 147 :: nat_lit 150 :: nat_lit 151 :: nat_lit 152 :: nat_lit 155 :: nat_lit 156 :: nat_lit 157 :: nat_lit 159 :: nat_lit 160 :: nat_lit 162 :: nat_lit 163 :: nat_lit 171 :: nat_lit 174 :: nat_lit 175 :: nat_lit 176 :: nat_lit 178 :: nat_lit 179 :: nat_lit 181 :: nat_lit 182 :: nat_lit 183 :: nat_lit 185 :: nat_lit 186 :: nat_lit 188 :: nat_lit 189 :: nat_lit 190 :: nat_lit 192 :: nat_lit 193 :: nat_lit 195 :: nat_lit 196 :: nat_lit 197 :: nat_lit 200 :: nat_lit 201 :: nat_lit 202 :: nat_lit 204 :: nat_lit 205 :: nat_lit 207 :: nat_lit 208 :: nat_lit 209 :: nat_lit 211 :: nat_lit 212 :: nat_lit 214 :: nat_lit 215 :: nat_lit 216 :: nat_lit 217 :: nat_lit 218 :: nat_lit 219 :: nat_lit 220 :: nat_lit 223 :: nat_lit 226 :: nat_lit 227 :: nat_lit 228 :: nat_lit 230 :: nat_lit 231 :: nat_lit 233 :: nat_lit 234 :: nat_lit 235 :: nat_lit 237 :: nat_lit 238 :: nat_lit 240 :: nat_lit 241 :: nat_lit 242 :: nat_lit 244 :: nat_lit 245 :: nat_lit 247 :: nat_lit 248 :: nat_lit 249 :: nat_lit 252 :: nat_lit 253 :: nat_lit 261 :: nat_lit 263 :: nat_lit 264 :: nat_lit 266 :: nat_lit 267 :: nat_lit 268 :: nat_lit 270 :: nat_lit 271 :: nat_lit 273 :: nat_lit 274 :: nat_lit 275 :: nat_lit 277 :: nat_lit 278 :: nat_lit 280 :: nat_lit 281 :: []
noncomputable def view : PySem.Program := { PySem.Challenge.pw_farhail_k49_whole_shares_of_known_webs with main := { PySem.Challenge.pw_farhail_k49_whole_shares_of_known_webs.main with body := [G.top 34] } }
noncomputable def loose : List PySem.Str := [a1, a3, a4, a5, a6, a7, a8, a9, a10, a11, a12, a13, a14, a15, a16, a17, a18, a19, a20, a21, a22, a23, a24, a25, a26, a27, a28, a29, a30]
noncomputable def the : PySem.DefRec := ⟨"law", L2.defArgs (G.top 34), L2.defBody (G.top 34), L2.defScope (G.top 34), (.mk 225 0 235 15)⟩
noncomputable abbrev N : Nat := 4536
theorem as_eq : ∀ P, as = (K P).map (·.1) := fun P => by kernel_rfl
noncomputable abbrev hook : PySem.W.Hook := PySem.W.kHook K as as_eq
noncomputable abbrev Xt : PySem.Shared → Bool := fun s => PySem.W.xlAt view [] s && PySem.W.recOk PySem.Challenge.rw_farhail_k49_whole_shares_of_known_webs.row.toRowW.records s
noncomputable abbrev mods := PySem.importedModules PySem.Challenge.pw_farhail_k49_whole_shares_of_known_webs.main.body
theorem look1 (w : PySem.World) : (fun os : PySem.OsState => PySem.W.staticsOk mods (PySem.W.boot_heap w.params) (hF w.params) && PySem.W.namesBound PySem.Challenge.pw_farhail_k49_whole_shares_of_known_webs (hF w.params) && PySem.W.gensDone (SF w os) && PySem.W.laidKept (PySem.W.boot_heap w.params) (hF w.params)) = fun _ => true := by kernel_rfl
theorem look3 (w : PySem.World) : (fun os => hook.obs (SF w os)) = fun _ => hook.val w := by kernel_rfl
theorem look2 (w : PySem.World) : (fun os => PySem.W.openSeen view loose mods Xt true (SF w os)) = fun _ => PySem.W.openGood view loose := by kernel_rfl
theorem left : PySem.W.LeftO PySem.Challenge.rw_farhail_k49_whole_shares_of_known_webs.row.toRowW.prog view loose Xt hook.obs hook.val N :=
  PySem.W.LeftO.of_pieces opens size run (by decide +kernel) fun w => funext fun os => Prod.ext (congrFun (look1 w) os) (Prod.ext (congrFun (look2 w) os) (congrFun (look3 w) os))
open PySem PySem.W PyProof.Rows in
set_option maxHeartbeats 0 in
theorem whole (hc : WalkO view loose (XL view []) (PySem.W.kHook K as as_eq).says PySem.Challenge.rw_farhail_k49_whole_shares_of_known_webs.row.toRowW the [] (fun f vs => PySem.call f vs)) : PySem.Challenge.rw_farhail_k49_whole_shares_of_known_webs.Holds := by
  w_on; o_law
  refine PySem.W.holds_open (r := PySem.Challenge.rw_farhail_k49_whole_shares_of_known_webs.row) (q := view) (loose := loose) (Xt := Xt) (XP := PySem.W.XL view []) (Yf := hook.obs) (Ya := hook.val) (YP := hook.says) (d := the) (kwd := []) (N := N) left hook.of hook.keeps (fun s e => xl_of s (Bool.and_eq_true_iff.mp e).1) XL.keeps (by kernel_rfl) (by kernel_rfl) (by kernel_rfl) (fun s e => recFacts_of (Bool.and_eq_true_iff.mp e).2) (by rfl) (by first | assumption | decide +kernel) (by decide +kernel) ⟨rfl, rfl, rfl, rfl, rfl, by decide +kernel⟩ ?hw hc
  case hw => w_witness2
end HD
namespace G
open PySem L2 Z
open Rep (rep)
theorem us1 : ∀ {us : List Value}, us.length = 1 → ∃ a0, us = [a0]
  | [a0], _ => ⟨a0, rfl⟩
theorem us2 : ∀ {us : List Value}, us.length = 2 → ∃ a0 a1, us = [a0, a1]
  | [a0, a1], _ => ⟨a0, a1, rfl⟩
theorem us3 : ∀ {us : List Value}, us.length = 3 → ∃ a0 a1 a2, us = [a0, a1, a2]
  | [a0, a1, a2], _ => ⟨a0, a1, a2, rfl⟩
theorem us4 : ∀ {us : List Value}, us.length = 4 → ∃ a0 a1 a2 a3, us = [a0, a1, a2, a3]
  | [a0, a1, a2, a3], _ => ⟨a0, a1, a2, a3, rfl⟩
theorem dn_mk {K : Fg} {h : Heap} {mg : Str → Option Value} (X : K.In h) (G : h.Ns mainGlobals mg) {x y : Str} {st : Stmt} {ps : List Str} {f : Addr} {od an : Option Addr} {sl : Array (Option Value)} {oc kV dc pm cd ct : Value}
    (a : PySem.W.nsIn K mainGlobals x = some (some (.ref f))) (l : K.lookup f = some ⟨oc, od, .func (PySem.W.fnOf y y (defArgs st) (defBody st) (defScope st) .none kV dc pm an cd ct), sl⟩) (c : PySem.W.codeIn K cd y = true) (k : PySem.W.keepIn K (.ref f) = true)
    (b : ∀ (kV doc pm : Value) (an : Option Addr) (cdv ct : Value) (us : List Value), us.length = ps.length → bindArgs (PySem.W.fnOf y y (defArgs st) (defBody st) (defScope st) .none kV doc pm an cdv ct) ⟨us, []⟩ = pure (ps.zip us)) :
    Dn K mg x y st ps f (PySem.W.fnOf y y (defArgs st) (defBody st) (defScope st) .none kV dc pm an cd ct) := ⟨fun_mk l c k, PySem.W.mg_of X G a, (fun_mk l c k).binds b⟩
theorem all_mk {l : PySem.W.OpenLaw} {w : World} {K : PySem.W.Frag} {h : Heap} {mg : Str → Option Value} {fa : Addr} (X : K.In h) (G : h.Ns mainGlobals mg) (hfa : mg "law" = some (.ref fa))
    {f7 : Addr} {od7 an7 : Option Addr} {sl7 : Array (Option Value)} {oc7 kV7 dc7 pm7 cd7 ct7 : Value}
    {f8 : Addr} {od8 an8 : Option Addr} {sl8 : Array (Option Value)} {oc8 kV8 dc8 pm8 cd8 ct8 : Value}
    {f9 : Addr} {od9 an9 : Option Addr} {sl9 : Array (Option Value)} {oc9 kV9 dc9 pm9 cd9 ct9 : Value}
    {f10 : Addr} {od10 an10 : Option Addr} {sl10 : Array (Option Value)} {oc10 kV10 dc10 pm10 cd10 ct10 : Value}
    {f12 : Addr} {od12 an12 : Option Addr} {sl12 : Array (Option Value)} {oc12 kV12 dc12 pm12 cd12 ct12 : Value}
    {f13 : Addr} {od13 an13 : Option Addr} {sl13 : Array (Option Value)} {oc13 kV13 dc13 pm13 cd13 ct13 : Value}
    {f14 : Addr} {od14 an14 : Option Addr} {sl14 : Array (Option Value)} {oc14 kV14 dc14 pm14 cd14 ct14 : Value}
    {f15 : Addr} {od15 an15 : Option Addr} {sl15 : Array (Option Value)} {oc15 kV15 dc15 pm15 cd15 ct15 : Value}
    {f16 : Addr} {od16 an16 : Option Addr} {sl16 : Array (Option Value)} {oc16 kV16 dc16 pm16 cd16 ct16 : Value}
    {f17 : Addr} {od17 an17 : Option Addr} {sl17 : Array (Option Value)} {oc17 kV17 dc17 pm17 cd17 ct17 : Value}
    {f20 : Addr} {od20 an20 : Option Addr} {sl20 : Array (Option Value)} {oc20 kV20 dc20 pm20 cd20 ct20 : Value}
    {f21 : Addr} {od21 an21 : Option Addr} {sl21 : Array (Option Value)} {oc21 kV21 dc21 pm21 cd21 ct21 : Value}
    {f22 : Addr} {od22 an22 : Option Addr} {sl22 : Array (Option Value)} {oc22 kV22 dc22 pm22 cd22 ct22 : Value}
    {f23 : Addr} {od23 an23 : Option Addr} {sl23 : Array (Option Value)} {oc23 kV23 dc23 pm23 cd23 ct23 : Value}
    {f25 : Addr} {od25 an25 : Option Addr} {sl25 : Array (Option Value)} {oc25 kV25 dc25 pm25 cd25 ct25 : Value}
    {f27 : Addr} {od27 an27 : Option Addr} {sl27 : Array (Option Value)} {oc27 kV27 dc27 pm27 cd27 ct27 : Value}
    {f28 : Addr} {od28 an28 : Option Addr} {sl28 : Array (Option Value)} {oc28 kV28 dc28 pm28 cd28 ct28 : Value}
    {f29 : Addr} {od29 an29 : Option Addr} {sl29 : Array (Option Value)} {oc29 kV29 dc29 pm29 cd29 ct29 : Value}
    {f30 : Addr} {od30 an30 : Option Addr} {sl30 : Array (Option Value)} {oc30 kV30 dc30 pm30 cd30 ct30 : Value}
    {f32 : Addr} {od32 an32 : Option Addr} {sl32 : Array (Option Value)} {oc32 kV32 dc32 pm32 cd32 ct32 : Value}
    {f33 : Addr} {od33 an33 : Option Addr} {sl33 : Array (Option Value)} {oc33 kV33 dc33 pm33 cd33 ct33 : Value}
    {f34 : Addr} {od34 an34 : Option Addr} {sl34 : Array (Option Value)} {oc34 kV34 dc34 pm34 cd34 ct34 : Value}
    {f25000 : Addr} {od25000 an25000 : Option Addr} {sl25000 : Array (Option Value)} {oc25000 kV25000 dc25000 pm25000 cd25000 ct25000 : Value}
    {f25001 : Addr} {od25001 an25001 : Option Addr} {sl25001 : Array (Option Value)} {oc25001 kV25001 dc25001 pm25001 cd25001 ct25001 : Value}
    {f25002 : Addr} {od25002 an25002 : Option Addr} {sl25002 : Array (Option Value)} {oc25002 kV25002 dc25002 pm25002 cd25002 ct25002 : Value}
    {f25003 : Addr} {od25003 an25003 : Option Addr} {sl25003 : Array (Option Value)} {oc25003 kV25003 dc25003 pm25003 cd25003 ct25003 : Value}
    {f25004 : Addr} {od25004 an25004 : Option Addr} {sl25004 : Array (Option Value)} {oc25004 kV25004 dc25004 pm25004 cd25004 ct25004 : Value}
    {f25005 : Addr} {od25005 an25005 : Option Addr} {sl25005 : Array (Option Value)} {oc25005 kV25005 dc25005 pm25005 cd25005 ct25005 : Value}
    {f25006 : Addr} {od25006 an25006 : Option Addr} {sl25006 : Array (Option Value)} {oc25006 kV25006 dc25006 pm25006 cd25006 ct25006 : Value}
    {g24 : Addr}
    {tk_MOST_SHARED : Tok}
    (a7 : PySem.W.nsIn K mainGlobals "near_lists" = some (some (.ref f7))) (l7 : K.lookup f7 = some ⟨oc7, od7, .func (PySem.W.fnOf "near_lists" "near_lists" (defArgs s_near_lists) (defBody s_near_lists) (defScope s_near_lists) .none kV7 dc7 pm7 an7 cd7 ct7), sl7⟩) (c7 : PySem.W.codeIn K cd7 "near_lists" = true) (k7 : PySem.W.keepIn K (.ref f7) = true)
    (a8 : PySem.W.nsIn K mainGlobals "fars_by" = some (some (.ref f8))) (l8 : K.lookup f8 = some ⟨oc8, od8, .func (PySem.W.fnOf "fars_by" "fars_by" (defArgs s_fars_by) (defBody s_fars_by) (defScope s_fars_by) .none kV8 dc8 pm8 an8 cd8 ct8), sl8⟩) (c8 : PySem.W.codeIn K cd8 "fars_by" = true) (k8 : PySem.W.keepIn K (.ref f8) = true)
    (a9 : PySem.W.nsIn K mainGlobals "place_asked" = some (some (.ref f9))) (l9 : K.lookup f9 = some ⟨oc9, od9, .func (PySem.W.fnOf "place_asked" "place_asked" (defArgs s_place_asked) (defBody s_place_asked) (defScope s_place_asked) .none kV9 dc9 pm9 an9 cd9 ct9), sl9⟩) (c9 : PySem.W.codeIn K cd9 "place_asked" = true) (k9 : PySem.W.keepIn K (.ref f9) = true)
    (a10 : PySem.W.nsIn K mainGlobals "fars_from" = some (some (.ref f10))) (l10 : K.lookup f10 = some ⟨oc10, od10, .func (PySem.W.fnOf "fars_from" "fars_from" (defArgs s_fars_from) (defBody s_fars_from) (defScope s_fars_from) .none kV10 dc10 pm10 an10 cd10 ct10), sl10⟩) (c10 : PySem.W.codeIn K cd10 "fars_from" = true) (k10 : PySem.W.keepIn K (.ref f10) = true)
    (a12 : PySem.W.nsIn K mainGlobals "table_of" = some (some (.ref f12))) (l12 : K.lookup f12 = some ⟨oc12, od12, .func (PySem.W.fnOf "table_of" "table_of" (defArgs s_table_of) (defBody s_table_of) (defScope s_table_of) .none kV12 dc12 pm12 an12 cd12 ct12), sl12⟩) (c12 : PySem.W.codeIn K cd12 "table_of" = true) (k12 : PySem.W.keepIn K (.ref f12) = true)
    (a13 : PySem.W.nsIn K mainGlobals "things_of" = some (some (.ref f13))) (l13 : K.lookup f13 = some ⟨oc13, od13, .func (PySem.W.fnOf "things_of" "things_of" (defArgs s_things_of) (defBody s_things_of) (defScope s_things_of) .none kV13 dc13 pm13 an13 cd13 ct13), sl13⟩) (c13 : PySem.W.codeIn K cd13 "things_of" = true) (k13 : PySem.W.keepIn K (.ref f13) = true)
    (a14 : PySem.W.nsIn K mainGlobals "looks_asked" = some (some (.ref f14))) (l14 : K.lookup f14 = some ⟨oc14, od14, .func (PySem.W.fnOf "looks_asked" "looks_asked" (defArgs s_looks_asked) (defBody s_looks_asked) (defScope s_looks_asked) .none kV14 dc14 pm14 an14 cd14 ct14), sl14⟩) (c14 : PySem.W.codeIn K cd14 "looks_asked" = true) (k14 : PySem.W.keepIn K (.ref f14) = true)
    (a15 : PySem.W.nsIn K mainGlobals "thing_asked" = some (some (.ref f15))) (l15 : K.lookup f15 = some ⟨oc15, od15, .func (PySem.W.fnOf "thing_asked" "thing_asked" (defArgs s_thing_asked) (defBody s_thing_asked) (defScope s_thing_asked) .none kV15 dc15 pm15 an15 cd15 ct15), sl15⟩) (c15 : PySem.W.codeIn K cd15 "thing_asked" = true) (k15 : PySem.W.keepIn K (.ref f15) = true)
    (a16 : PySem.W.nsIn K mainGlobals "far_by" = some (some (.ref f16))) (l16 : K.lookup f16 = some ⟨oc16, od16, .func (PySem.W.fnOf "far_by" "far_by" (defArgs s_far_by) (defBody s_far_by) (defScope s_far_by) .none kV16 dc16 pm16 an16 cd16 ct16), sl16⟩) (c16 : PySem.W.codeIn K cd16 "far_by" = true) (k16 : PySem.W.keepIn K (.ref f16) = true)
    (a17 : PySem.W.nsIn K mainGlobals "code_of" = some (some (.ref f17))) (l17 : K.lookup f17 = some ⟨oc17, od17, .func (PySem.W.fnOf "code_of" "code_of" (defArgs s_code_of) (defBody s_code_of) (defScope s_code_of) .none kV17 dc17 pm17 an17 cd17 ct17), sl17⟩) (c17 : PySem.W.codeIn K cd17 "code_of" = true) (k17 : PySem.W.keepIn K (.ref f17) = true)
    (a20 : PySem.W.nsIn K mainGlobals "ask_shared" = some (some (.ref f20))) (l20 : K.lookup f20 = some ⟨oc20, od20, .func (PySem.W.fnOf "ask_shared" "ask_shared" (defArgs s_ask_shared) (defBody s_ask_shared) (defScope s_ask_shared) .none kV20 dc20 pm20 an20 cd20 ct20), sl20⟩) (c20 : PySem.W.codeIn K cd20 "ask_shared" = true) (k20 : PySem.W.keepIn K (.ref f20) = true)
    (a21 : PySem.W.nsIn K mainGlobals "parted_pairs" = some (some (.ref f21))) (l21 : K.lookup f21 = some ⟨oc21, od21, .func (PySem.W.fnOf "parted_pairs" "parted_pairs" (defArgs s_parted_pairs) (defBody s_parted_pairs) (defScope s_parted_pairs) .none kV21 dc21 pm21 an21 cd21 ct21), sl21⟩) (c21 : PySem.W.codeIn K cd21 "parted_pairs" = true) (k21 : PySem.W.keepIn K (.ref f21) = true)
    (a22 : PySem.W.nsIn K mainGlobals "least_parted" = some (some (.ref f22))) (l22 : K.lookup f22 = some ⟨oc22, od22, .func (PySem.W.fnOf "least_parted" "least_parted" (defArgs s_least_parted) (defBody s_least_parted) (defScope s_least_parted) .none kV22 dc22 pm22 an22 cd22 ct22), sl22⟩) (c22 : PySem.W.codeIn K cd22 "least_parted" = true) (k22 : PySem.W.keepIn K (.ref f22) = true)
    (a23 : PySem.W.nsIn K mainGlobals "common_part" = some (some (.ref f23))) (l23 : K.lookup f23 = some ⟨oc23, od23, .func (PySem.W.fnOf "common_part" "common_part" (defArgs s_common_part) (defBody s_common_part) (defScope s_common_part) .none kV23 dc23 pm23 an23 cd23 ct23), sl23⟩) (c23 : PySem.W.codeIn K cd23 "common_part" = true) (k23 : PySem.W.keepIn K (.ref f23) = true)
    (a25 : PySem.W.nsIn K mainGlobals "shares_of" = some (some (.ref f25))) (l25 : K.lookup f25 = some ⟨oc25, od25, .func (PySem.W.fnOf "shares_of" "shares_of" (defArgs s_shares_of) (defBody s_shares_of) (defScope s_shares_of) .none kV25 dc25 pm25 an25 cd25 ct25), sl25⟩) (c25 : PySem.W.codeIn K cd25 "shares_of" = true) (k25 : PySem.W.keepIn K (.ref f25) = true)
    (a27 : PySem.W.nsIn K mainGlobals "_law_purse" = some (some (.ref f27))) (l27 : K.lookup f27 = some ⟨oc27, od27, .func (PySem.W.fnOf "_law_purse" "_law_purse" (defArgs s_law_purse) (defBody s_law_purse) (defScope s_law_purse) .none kV27 dc27 pm27 an27 cd27 ct27), sl27⟩) (c27 : PySem.W.codeIn K cd27 "_law_purse" = true) (k27 : PySem.W.keepIn K (.ref f27) = true)
    (a28 : PySem.W.nsIn K mainGlobals "_law_take" = some (some (.ref f28))) (l28 : K.lookup f28 = some ⟨oc28, od28, .func (PySem.W.fnOf "_law_take" "_law_take" (defArgs s_law_take) (defBody s_law_take) (defScope s_law_take) .none kV28 dc28 pm28 an28 cd28 ct28), sl28⟩) (c28 : PySem.W.codeIn K cd28 "_law_take" = true) (k28 : PySem.W.keepIn K (.ref f28) = true)
    (a29 : PySem.W.nsIn K mainGlobals "_law_order" = some (some (.ref f29))) (l29 : K.lookup f29 = some ⟨oc29, od29, .func (PySem.W.fnOf "_law_order" "_law_order" (defArgs s_law_order) (defBody s_law_order) (defScope s_law_order) .none kV29 dc29 pm29 an29 cd29 ct29), sl29⟩) (c29 : PySem.W.codeIn K cd29 "_law_order" = true) (k29 : PySem.W.keepIn K (.ref f29) = true)
    (a30 : PySem.W.nsIn K mainGlobals "_law_pairs" = some (some (.ref f30))) (l30 : K.lookup f30 = some ⟨oc30, od30, .func (PySem.W.fnOf "_law_pairs" "_law_pairs" (defArgs s_law_pairs) (defBody s_law_pairs) (defScope s_law_pairs) .none kV30 dc30 pm30 an30 cd30 ct30), sl30⟩) (c30 : PySem.W.codeIn K cd30 "_law_pairs" = true) (k30 : PySem.W.keepIn K (.ref f30) = true)
    (a32 : PySem.W.nsIn K mainGlobals "_law_shape" = some (some (.ref f32))) (l32 : K.lookup f32 = some ⟨oc32, od32, .func (PySem.W.fnOf "_law_shape" "_law_shape" (defArgs s_law_shape) (defBody s_law_shape) (defScope s_law_shape) .none kV32 dc32 pm32 an32 cd32 ct32), sl32⟩) (c32 : PySem.W.codeIn K cd32 "_law_shape" = true) (k32 : PySem.W.keepIn K (.ref f32) = true)
    (a33 : PySem.W.nsIn K mainGlobals "_law_ratio" = some (some (.ref f33))) (l33 : K.lookup f33 = some ⟨oc33, od33, .func (PySem.W.fnOf "_law_ratio" "_law_ratio" (defArgs s_law_ratio) (defBody s_law_ratio) (defScope s_law_ratio) .none kV33 dc33 pm33 an33 cd33 ct33), sl33⟩) (c33 : PySem.W.codeIn K cd33 "_law_ratio" = true) (k33 : PySem.W.keepIn K (.ref f33) = true)
    (a34 : PySem.W.nsIn K mainGlobals "law" = some (some (.ref f34))) (l34 : K.lookup f34 = some ⟨oc34, od34, .func (PySem.W.fnOf "law" "law" (defArgs s_law) (defBody s_law) (defScope s_law) .none kV34 dc34 pm34 an34 cd34 ct34), sl34⟩) (c34 : PySem.W.codeIn K cd34 "law" = true) (k34 : PySem.W.keepIn K (.ref f34) = true)
    (a25000 : PySem.W.findIn K (.ref g24) "__init__" = some (some (.ref f25000))) (i25000 : PySem.W.isFn K (.ref f25000) = true) (l25000 : K.lookup f25000 = some ⟨oc25000, od25000, .func (PySem.W.fnOf "__init__" "Board.__init__" (defArgs s_Board_init) (defBody s_Board_init) (defScope s_Board_init) .none kV25000 dc25000 pm25000 an25000 cd25000 ct25000), sl25000⟩) (c25000 : PySem.W.codeIn K cd25000 "Board.__init__" = true) (k25000 : PySem.W.keepIn K (.ref f25000) = true)
    (a25001 : PySem.W.findIn K (.ref g24) "growing" = some (some (.ref f25001))) (i25001 : PySem.W.isFn K (.ref f25001) = true) (l25001 : K.lookup f25001 = some ⟨oc25001, od25001, .func (PySem.W.fnOf "growing" "Board.growing" (defArgs s_Board_growing) (defBody s_Board_growing) (defScope s_Board_growing) .none kV25001 dc25001 pm25001 an25001 cd25001 ct25001), sl25001⟩) (c25001 : PySem.W.codeIn K cd25001 "Board.growing" = true) (k25001 : PySem.W.keepIn K (.ref f25001) = true)
    (a25002 : PySem.W.findIn K (.ref g24) "bounds_more" = some (some (.ref f25002))) (i25002 : PySem.W.isFn K (.ref f25002) = true) (l25002 : K.lookup f25002 = some ⟨oc25002, od25002, .func (PySem.W.fnOf "bounds_more" "Board.bounds_more" (defArgs s_Board_bounds_more) (defBody s_Board_bounds_more) (defScope s_Board_bounds_more) .none kV25002 dc25002 pm25002 an25002 cd25002 ct25002), sl25002⟩) (c25002 : PySem.W.codeIn K cd25002 "Board.bounds_more" = true) (k25002 : PySem.W.keepIn K (.ref f25002) = true)
    (a25003 : PySem.W.findIn K (.ref g24) "bounding" = some (some (.ref f25003))) (i25003 : PySem.W.isFn K (.ref f25003) = true) (l25003 : K.lookup f25003 = some ⟨oc25003, od25003, .func (PySem.W.fnOf "bounding" "Board.bounding" (defArgs s_Board_bounding) (defBody s_Board_bounding) (defScope s_Board_bounding) .none kV25003 dc25003 pm25003 an25003 cd25003 ct25003), sl25003⟩) (c25003 : PySem.W.codeIn K cd25003 "Board.bounding" = true) (k25003 : PySem.W.keepIn K (.ref f25003) = true)
    (a25004 : PySem.W.findIn K (.ref g24) "turn_in" = some (some (.ref f25004))) (i25004 : PySem.W.isFn K (.ref f25004) = true) (l25004 : K.lookup f25004 = some ⟨oc25004, od25004, .func (PySem.W.fnOf "turn_in" "Board.turn_in" (defArgs s_Board_turn_in) (defBody s_Board_turn_in) (defScope s_Board_turn_in) .none kV25004 dc25004 pm25004 an25004 cd25004 ct25004), sl25004⟩) (c25004 : PySem.W.codeIn K cd25004 "Board.turn_in" = true) (k25004 : PySem.W.keepIn K (.ref f25004) = true)
    (a25005 : PySem.W.findIn K (.ref g24) "solve" = some (some (.ref f25005))) (i25005 : PySem.W.isFn K (.ref f25005) = true) (l25005 : K.lookup f25005 = some ⟨oc25005, od25005, .func (PySem.W.fnOf "solve" "Board.solve" (defArgs s_Board_solve) (defBody s_Board_solve) (defScope s_Board_solve) .none kV25005 dc25005 pm25005 an25005 cd25005 ct25005), sl25005⟩) (c25005 : PySem.W.codeIn K cd25005 "Board.solve" = true) (k25005 : PySem.W.keepIn K (.ref f25005) = true)
    (a25006 : PySem.W.findIn K (.ref g24) "prices_now" = some (some (.ref f25006))) (i25006 : PySem.W.isFn K (.ref f25006) = true) (l25006 : K.lookup f25006 = some ⟨oc25006, od25006, .func (PySem.W.fnOf "prices_now" "Board.prices_now" (defArgs s_Board_prices_now) (defBody s_Board_prices_now) (defScope s_Board_prices_now) .none kV25006 dc25006 pm25006 an25006 cd25006 ct25006), sl25006⟩) (c25006 : PySem.W.codeIn K cd25006 "Board.prices_now" = true) (k25006 : PySem.W.keepIn K (.ref f25006) = true)
    (ns_Board : PySem.W.nsIn K mainGlobals "Board" = some (some (.ref g24)))
    (op_Board : PySem.W.plainGet K g24 Str.empty = true)
    (oh_Board : PySem.W.hasDictIn K g24 = true)
    (oo_Board : PySem.W.plainOver K g24 = true)
    (os_Board : PySem.W.findIn K (.ref g24) "__setattr__" = some (some (.builtin "object.__setattr__")))
    (om_Board : PySem.W.makesIn K g24 = true)
    (ok_Board : PySem.W.keepIn K (.ref g24) = true)
    (of_Board_bottom : PySem.W.findIn K (.ref g24) "bottom" = some none)
    (of_Board_priced : PySem.W.findIn K (.ref g24) "priced" = some none)
    (of_Board_held : PySem.W.findIn K (.ref g24) "held" = some none)
    (of_Board_lines : PySem.W.findIn K (.ref g24) "lines" = some none)
    (kc_MOST_SHARED : PySem.W.nsIn K mainGlobals "MOST_SHARED" = some (some (.int 7 tk_MOST_SHARED)))
    (z_all : PySem.W.nsIn K mainGlobals "all" = some none)
    (z_enumerate : PySem.W.nsIn K mainGlobals "enumerate" = some none)
    (z_int : PySem.W.nsIn K mainGlobals "int" = some none)
    (z_isinstance : PySem.W.nsIn K mainGlobals "isinstance" = some none)
    (z_len : PySem.W.nsIn K mainGlobals "len" = some none)
    (z_list : PySem.W.nsIn K mainGlobals "list" = some none)
    (z_max : PySem.W.nsIn K mainGlobals "max" = some none)
    (z_min : PySem.W.nsIn K mainGlobals "min" = some none)
    (z_range : PySem.W.nsIn K mainGlobals "range" = some none)
    (z_sorted : PySem.W.nsIn K mainGlobals "sorted" = some none)
    (z_sum : PySem.W.nsIn K mainGlobals "sum" = some none)
    (z_tuple : PySem.W.nsIn K mainGlobals "tuple" = some none) :
    ∃ fd : FuncData, (∀ (s : Shared) (v : Value), BindsTo s fd ⟨[v], []⟩ [("_law_script", v)]) ∧ ∀ base : Heap, K.In base → base.Ns mainGlobals mg → FnOk l.prog w K mg base CX0 7 fa fd ["_law_script"] (sp_law K) := by
  have e := hfa.symm.trans (PySem.W.mg_of X G a34)
  cases e
  let A : Nat → Addr := fun i => match i with | 7 => f7 | 8 => f8 | 9 => f9 | 10 => f10 | 12 => f12 | 13 => f13 | 14 => f14 | 15 => f15 | 16 => f16 | 17 => f17 | 20 => f20 | 21 => f21 | 22 => f22 | 23 => f23 | 25 => f25 | 27 => f27 | 28 => f28 | 29 => f29 | 30 => f30 | 32 => f32 | 33 => f33 | 34 => fa | 25000 => f25000 | 25001 => f25001 | 25002 => f25002 | 25003 => f25003 | 25004 => f25004 | 25005 => f25005 | 25006 => f25006 | 24 => g24 | _ => fa
  let FD : Nat → FuncData := fun i => match i with | 7 => (PySem.W.fnOf "near_lists" "near_lists" (defArgs s_near_lists) (defBody s_near_lists) (defScope s_near_lists) .none kV7 dc7 pm7 an7 cd7 ct7) | 8 => (PySem.W.fnOf "fars_by" "fars_by" (defArgs s_fars_by) (defBody s_fars_by) (defScope s_fars_by) .none kV8 dc8 pm8 an8 cd8 ct8) | 9 => (PySem.W.fnOf "place_asked" "place_asked" (defArgs s_place_asked) (defBody s_place_asked) (defScope s_place_asked) .none kV9 dc9 pm9 an9 cd9 ct9) | 10 => (PySem.W.fnOf "fars_from" "fars_from" (defArgs s_fars_from) (defBody s_fars_from) (defScope s_fars_from) .none kV10 dc10 pm10 an10 cd10 ct10) | 12 => (PySem.W.fnOf "table_of" "table_of" (defArgs s_table_of) (defBody s_table_of) (defScope s_table_of) .none kV12 dc12 pm12 an12 cd12 ct12) | 13 => (PySem.W.fnOf "things_of" "things_of" (defArgs s_things_of) (defBody s_things_of) (defScope s_things_of) .none kV13 dc13 pm13 an13 cd13 ct13) | 14 => (PySem.W.fnOf "looks_asked" "looks_asked" (defArgs s_looks_asked) (defBody s_looks_asked) (defScope s_looks_asked) .none kV14 dc14 pm14 an14 cd14 ct14) | 15 => (PySem.W.fnOf "thing_asked" "thing_asked" (defArgs s_thing_asked) (defBody s_thing_asked) (defScope s_thing_asked) .none kV15 dc15 pm15 an15 cd15 ct15) | 16 => (PySem.W.fnOf "far_by" "far_by" (defArgs s_far_by) (defBody s_far_by) (defScope s_far_by) .none kV16 dc16 pm16 an16 cd16 ct16) | 17 => (PySem.W.fnOf "code_of" "code_of" (defArgs s_code_of) (defBody s_code_of) (defScope s_code_of) .none kV17 dc17 pm17 an17 cd17 ct17) | 20 => (PySem.W.fnOf "ask_shared" "ask_shared" (defArgs s_ask_shared) (defBody s_ask_shared) (defScope s_ask_shared) .none kV20 dc20 pm20 an20 cd20 ct20) | 21 => (PySem.W.fnOf "parted_pairs" "parted_pairs" (defArgs s_parted_pairs) (defBody s_parted_pairs) (defScope s_parted_pairs) .none kV21 dc21 pm21 an21 cd21 ct21) | 22 => (PySem.W.fnOf "least_parted" "least_parted" (defArgs s_least_parted) (defBody s_least_parted) (defScope s_least_parted) .none kV22 dc22 pm22 an22 cd22 ct22) | 23 => (PySem.W.fnOf "common_part" "common_part" (defArgs s_common_part) (defBody s_common_part) (defScope s_common_part) .none kV23 dc23 pm23 an23 cd23 ct23) | 25 => (PySem.W.fnOf "shares_of" "shares_of" (defArgs s_shares_of) (defBody s_shares_of) (defScope s_shares_of) .none kV25 dc25 pm25 an25 cd25 ct25) | 27 => (PySem.W.fnOf "_law_purse" "_law_purse" (defArgs s_law_purse) (defBody s_law_purse) (defScope s_law_purse) .none kV27 dc27 pm27 an27 cd27 ct27) | 28 => (PySem.W.fnOf "_law_take" "_law_take" (defArgs s_law_take) (defBody s_law_take) (defScope s_law_take) .none kV28 dc28 pm28 an28 cd28 ct28) | 29 => (PySem.W.fnOf "_law_order" "_law_order" (defArgs s_law_order) (defBody s_law_order) (defScope s_law_order) .none kV29 dc29 pm29 an29 cd29 ct29) | 30 => (PySem.W.fnOf "_law_pairs" "_law_pairs" (defArgs s_law_pairs) (defBody s_law_pairs) (defScope s_law_pairs) .none kV30 dc30 pm30 an30 cd30 ct30) | 32 => (PySem.W.fnOf "_law_shape" "_law_shape" (defArgs s_law_shape) (defBody s_law_shape) (defScope s_law_shape) .none kV32 dc32 pm32 an32 cd32 ct32) | 33 => (PySem.W.fnOf "_law_ratio" "_law_ratio" (defArgs s_law_ratio) (defBody s_law_ratio) (defScope s_law_ratio) .none kV33 dc33 pm33 an33 cd33 ct33) | 34 => (PySem.W.fnOf "law" "law" (defArgs s_law) (defBody s_law) (defScope s_law) .none kV34 dc34 pm34 an34 cd34 ct34) | 25000 => (PySem.W.fnOf "__init__" "Board.__init__" (defArgs s_Board_init) (defBody s_Board_init) (defScope s_Board_init) .none kV25000 dc25000 pm25000 an25000 cd25000 ct25000) | 25001 => (PySem.W.fnOf "growing" "Board.growing" (defArgs s_Board_growing) (defBody s_Board_growing) (defScope s_Board_growing) .none kV25001 dc25001 pm25001 an25001 cd25001 ct25001) | 25002 => (PySem.W.fnOf "bounds_more" "Board.bounds_more" (defArgs s_Board_bounds_more) (defBody s_Board_bounds_more) (defScope s_Board_bounds_more) .none kV25002 dc25002 pm25002 an25002 cd25002 ct25002) | 25003 => (PySem.W.fnOf "bounding" "Board.bounding" (defArgs s_Board_bounding) (defBody s_Board_bounding) (defScope s_Board_bounding) .none kV25003 dc25003 pm25003 an25003 cd25003 ct25003) | 25004 => (PySem.W.fnOf "turn_in" "Board.turn_in" (defArgs s_Board_turn_in) (defBody s_Board_turn_in) (defScope s_Board_turn_in) .none kV25004 dc25004 pm25004 an25004 cd25004 ct25004) | 25005 => (PySem.W.fnOf "solve" "Board.solve" (defArgs s_Board_solve) (defBody s_Board_solve) (defScope s_Board_solve) .none kV25005 dc25005 pm25005 an25005 cd25005 ct25005) | 25006 => (PySem.W.fnOf "prices_now" "Board.prices_now" (defArgs s_Board_prices_now) (defBody s_Board_prices_now) (defScope s_Board_prices_now) .none kV25006 dc25006 pm25006 an25006 cd25006 ct25006) | _ => (PySem.W.fnOf "law" "law" (defArgs s_law) (defBody s_law) (defScope s_law) .none kV34 dc34 pm34 an34 cd34 ct34)
  have T : Tx K mg A FD := {
    d7 := dn_mk (st := s_near_lists) (ps := ["web"]) X G a7 l7 c7 k7 fun _ _ _ _ _ _ us hl => by (obtain ⟨_, rfl⟩ := us1 hl; rfl)
    d8 := dn_mk (st := s_fars_by) (ps := ["near", "place"]) X G a8 l8 c8 k8 fun _ _ _ _ _ _ us hl => by (obtain ⟨_, _, rfl⟩ := us2 hl; rfl)
    d9 := dn_mk (st := s_place_asked) (ps := ["web", "place"]) X G a9 l9 c9 k9 fun _ _ _ _ _ _ us hl => by (obtain ⟨_, _, rfl⟩ := us2 hl; rfl)
    d10 := dn_mk (st := s_fars_from) (ps := ["web", "place"]) X G a10 l10 c10 k10 fun _ _ _ _ _ _ us hl => by (obtain ⟨_, _, rfl⟩ := us2 hl; rfl)
    d12 := dn_mk (st := s_table_of) (ps := ["web"]) X G a12 l12 c12 k12 fun _ _ _ _ _ _ us hl => by (obtain ⟨_, rfl⟩ := us1 hl; rfl)
    d13 := dn_mk (st := s_things_of) (ps := ["web", "kind"]) X G a13 l13 c13 k13 fun _ _ _ _ _ _ us hl => by (obtain ⟨_, _, rfl⟩ := us2 hl; rfl)
    d14 := dn_mk (st := s_looks_asked) (ps := ["web", "looks"]) X G a14 l14 c14 k14 fun _ _ _ _ _ _ us hl => by (obtain ⟨_, _, rfl⟩ := us2 hl; rfl)
    d15 := dn_mk (st := s_thing_asked) (ps := ["web", "thing"]) X G a15 l15 c15 k15 fun _ _ _ _ _ _ us hl => by (obtain ⟨_, _, rfl⟩ := us2 hl; rfl)
    d16 := dn_mk (st := s_far_by) (ps := ["table", "look", "thing"]) X G a16 l16 c16 k16 fun _ _ _ _ _ _ us hl => by (obtain ⟨_, _, _, rfl⟩ := us3 hl; rfl)
    d17 := dn_mk (st := s_code_of) (ps := ["web", "looks", "thing"]) X G a17 l17 c17 k17 fun _ _ _ _ _ _ us hl => by (obtain ⟨_, _, _, rfl⟩ := us3 hl; rfl)
    d20 := dn_mk (st := s_ask_shared) (ps := ["web"]) X G a20 l20 c20 k20 fun _ _ _ _ _ _ us hl => by (obtain ⟨_, rfl⟩ := us1 hl; rfl)
    d21 := dn_mk (st := s_parted_pairs) (ps := ["web", "kind"]) X G a21 l21 c21 k21 fun _ _ _ _ _ _ us hl => by (obtain ⟨_, _, rfl⟩ := us2 hl; rfl)
    d22 := dn_mk (st := s_least_parted) (ps := ["pairs"]) X G a22 l22 c22 k22 fun _ _ _ _ _ _ us hl => by (obtain ⟨_, rfl⟩ := us1 hl; rfl)
    d23 := dn_mk (st := s_common_part) (ps := ["one", "other"]) X G a23 l23 c23 k23 fun _ _ _ _ _ _ us hl => by (obtain ⟨_, _, rfl⟩ := us2 hl; rfl)
    d25 := dn_mk (st := s_shares_of) (ps := ["web", "kind"]) X G a25 l25 c25 k25 fun _ _ _ _ _ _ us hl => by (obtain ⟨_, _, rfl⟩ := us2 hl; rfl)
    d27 := dn_mk (st := s_law_purse) (ps := ["_law_script", "_law_k"]) X G a27 l27 c27 k27 fun _ _ _ _ _ _ us hl => by (obtain ⟨_, _, rfl⟩ := us2 hl; rfl)
    d28 := dn_mk (st := s_law_take) (ps := ["_law_purse_here", "_law_many"]) X G a28 l28 c28 k28 fun _ _ _ _ _ _ us hl => by (obtain ⟨_, _, rfl⟩ := us2 hl; rfl)
    d29 := dn_mk (st := s_law_order) (ps := ["_law_purse_here", "_law_many"]) X G a29 l29 c29 k29 fun _ _ _ _ _ _ us hl => by (obtain ⟨_, _, rfl⟩ := us2 hl; rfl)
    d30 := dn_mk (st := s_law_pairs) (ps := ["_law_purse_here", "_law_many", "_law_way"]) X G a30 l30 c30 k30 fun _ _ _ _ _ _ us hl => by (obtain ⟨_, _, _, rfl⟩ := us3 hl; rfl)
    d32 := dn_mk (st := s_law_shape) (ps := ["_law_purse_here"]) X G a32 l32 c32 k32 fun _ _ _ _ _ _ us hl => by (obtain ⟨_, rfl⟩ := us1 hl; rfl)
    d33 := dn_mk (st := s_law_ratio) (ps := ["_law_many", "_law_way"]) X G a33 l33 c33 k33 fun _ _ _ _ _ _ us hl => by (obtain ⟨_, _, rfl⟩ := us2 hl; rfl)
    d34 := dn_mk (st := s_law) (ps := ["_law_script"]) X G a34 l34 c34 k34 fun _ _ _ _ _ _ us hl => by (obtain ⟨_, rfl⟩ := us1 hl; rfl)
    d25000 := ⟨fun_mk (st := s_Board_init) l25000 c25000 k25000, ⟨a25000, i25000, k25000⟩, (fun_mk (st := s_Board_init) l25000 c25000 k25000).binds (ps := ["self", "many", "pairs"]) fun _ _ _ _ _ _ us hl => by (obtain ⟨_, _, _, rfl⟩ := us3 hl; rfl)⟩
    d25001 := ⟨fun_mk (st := s_Board_growing) l25001 c25001 k25001, ⟨a25001, i25001, k25001⟩, (fun_mk (st := s_Board_growing) l25001 c25001 k25001).binds (ps := ["self"]) fun _ _ _ _ _ _ us hl => by (obtain ⟨_, rfl⟩ := us1 hl; rfl)⟩
    d25002 := ⟨fun_mk (st := s_Board_bounds_more) l25002 c25002 k25002, ⟨a25002, i25002, k25002⟩, (fun_mk (st := s_Board_bounds_more) l25002 c25002 k25002).binds (ps := ["self", "at", "best", "column"]) fun _ _ _ _ _ _ us hl => by (obtain ⟨_, _, _, _, rfl⟩ := us4 hl; rfl)⟩
    d25003 := ⟨fun_mk (st := s_Board_bounding) l25003 c25003 k25003, ⟨a25003, i25003, k25003⟩, (fun_mk (st := s_Board_bounding) l25003 c25003 k25003).binds (ps := ["self", "column"]) fun _ _ _ _ _ _ us hl => by (obtain ⟨_, _, rfl⟩ := us2 hl; rfl)⟩
    d25004 := ⟨fun_mk (st := s_Board_turn_in) l25004 c25004 k25004, ⟨a25004, i25004, k25004⟩, (fun_mk (st := s_Board_turn_in) l25004 c25004 k25004).binds (ps := ["self", "at", "column"]) fun _ _ _ _ _ _ us hl => by (obtain ⟨_, _, _, rfl⟩ := us3 hl; rfl)⟩
    d25005 := ⟨fun_mk (st := s_Board_solve) l25005 c25005 k25005, ⟨a25005, i25005, k25005⟩, (fun_mk (st := s_Board_solve) l25005 c25005 k25005).binds (ps := ["self"]) fun _ _ _ _ _ _ us hl => by (obtain ⟨_, rfl⟩ := us1 hl; rfl)⟩
    d25006 := ⟨fun_mk (st := s_Board_prices_now) l25006 c25006 k25006, ⟨a25006, i25006, k25006⟩, (fun_mk (st := s_Board_prices_now) l25006 c25006 k25006).binds (ps := ["self"]) fun _ _ _ _ _ _ us hl => by (obtain ⟨_, rfl⟩ := us1 hl; rfl)⟩
    n_all := PySem.W.mg_none_of X G z_all
    n_enumerate := PySem.W.mg_none_of X G z_enumerate
    n_int := PySem.W.mg_none_of X G z_int
    n_isinstance := PySem.W.mg_none_of X G z_isinstance
    n_len := PySem.W.mg_none_of X G z_len
    n_list := PySem.W.mg_none_of X G z_list
    n_max := PySem.W.mg_none_of X G z_max
    n_min := PySem.W.mg_none_of X G z_min
    n_range := PySem.W.mg_none_of X G z_range
    n_sorted := PySem.W.mg_none_of X G z_sorted
    n_sum := PySem.W.mg_none_of X G z_sum
    n_tuple := PySem.W.mg_none_of X G z_tuple
    c_MOST_SHARED := ⟨_, PySem.W.mg_of X G kc_MOST_SHARED⟩
    cl_Board := ⟨op_Board, oh_Board, oo_Board, os_Board⟩
    nm_Board := ns_Board
    mg_Board := PySem.W.mg_of X G ns_Board
    mk_Board := ⟨om_Board, a25000, i25000, ok_Board⟩
    na_Board_bottom := of_Board_bottom
    na_Board_priced := of_Board_priced
    na_Board_held := of_Board_held
    na_Board_lines := of_Board_lines }
  exact ⟨(PySem.W.fnOf "law" "law" (defArgs s_law) (defBody s_law) (defScope s_law) .none kV34 dc34 pm34 an34 cd34 ct34), fun s v => .of_eq rfl, fun base _ _ => ok_law (A := A) (FD := FD) T⟩
theorem walk {l : PySem.W.OpenLaw} {q : Program} {loose : List Str} {XP : (Str → Option Value) → Heap → Prop} {YP : World → Heap → Prop} {d : DefRec} {K : Params → PySem.W.Frag} (hn : l.most = some 63) (hdf : d.params.defaults = [])
    (hY : ∀ (w : World) (h : Heap), YP w h → (K w.params).In h)
    (F : ∀ (w : World) (mg : Str → Option Value) (fa : Addr) (h : Heap), (K w.params).In h → h.Ns mainGlobals mg → mg d.name = some (.ref fa) →
      ∃ fd : FuncData, (∀ (s : Shared) (u : Value), BindsTo s fd ⟨[u], []⟩ [("_law_script", u)]) ∧ ∀ base : Heap, (K w.params).In base → base.Ns mainGlobals mg → FnOk l.prog w (K w.params) mg base CX0 7 fa fd ["_law_script"] (sp_law (K w.params))) :
    PySem.W.WalkO q loose XP YP l.row.toRowW d [] (fun f vs => PySem.call f vs) :=
  L2.walk_of (n := 63) (k := 7) (x := "_law_script") (CX := fun _ => CX0) (sp := fun w => sp_law (K w.params)) hn (by decide) hdf ⟨rfl, by decide, by decide⟩ hY F
    (fun _ H a ns hl _ hS => ⟨H, [], .ref a, ⟨ns⟩, rfl, ⟨Same.refl _, (fun _ z => nomatch z), List.Pairwise.nil, (fun _ z => nomatch z)⟩, ⟨a, rfl, hS⟩, by rw [law_true ns hl]; exact fun v F2 H2 w s r => r⟩) fun _ _ _ _ _ z => z
end G
open PySem PySem.W PyProof.Rows
set_option maxRecDepth 100000 in
set_option maxHeartbeats 0 in
theorem PySem.Challenge.cw_farhail_k49_whole_shares_of_known_webs_holds : PySem.Challenge.rw_farhail_k49_whole_shares_of_known_webs.Holds := by
  refine HD.whole ?_
  k_fill
  refine G.walk (l := PySem.Challenge.rw_farhail_k49_whole_shares_of_known_webs) rfl rfl (fun w h Y => PySem.W.kIn_of Y) ?F
  case F =>
    intro w mg fa h KX Gn hmg
    refine' G.all_mk KX Gn hmg ?a7 ?l7 ?c7 ?k7 ?a8 ?l8 ?c8 ?k8 ?a9 ?l9 ?c9 ?k9 ?a10 ?l10 ?c10 ?k10 ?a12 ?l12 ?c12 ?k12 ?a13 ?l13 ?c13 ?k13 ?a14 ?l14 ?c14 ?k14 ?a15 ?l15 ?c15 ?k15 ?a16 ?l16 ?c16 ?k16 ?a17 ?l17 ?c17 ?k17 ?a20 ?l20 ?c20 ?k20 ?a21 ?l21 ?c21 ?k21 ?a22 ?l22 ?c22 ?k22 ?a23 ?l23 ?c23 ?k23 ?a25 ?l25 ?c25 ?k25 ?a27 ?l27 ?c27 ?k27 ?a28 ?l28 ?c28 ?k28 ?a29 ?l29 ?c29 ?k29 ?a30 ?l30 ?c30 ?k30 ?a32 ?l32 ?c32 ?k32 ?a33 ?l33 ?c33 ?k33 ?a34 ?l34 ?c34 ?k34 ?a25000 ?i25000 ?l25000 ?c25000 ?k25000 ?a25001 ?i25001 ?l25001 ?c25001 ?k25001 ?a25002 ?i25002 ?l25002 ?c25002 ?k25002 ?a25003 ?i25003 ?l25003 ?c25003 ?k25003 ?a25004 ?i25004 ?l25004 ?c25004 ?k25004 ?a25005 ?i25005 ?l25005 ?c25005 ?k25005 ?a25006 ?i25006 ?l25006 ?c25006 ?k25006 ?ns_Board ?op_Board ?oh_Board ?oo_Board ?os_Board ?om_Board ?ok_Board ?of_Board_bottom ?of_Board_priced ?of_Board_held ?of_Board_lines ?kc_MOST_SHARED ?z_all ?z_enumerate ?z_int ?z_isinstance ?z_len ?z_list ?z_max ?z_min ?z_range ?z_sorted ?z_sum ?z_tuple
    (case a7 => k_is); (case l7 => k_is); (case c7 => k_is); (case k7 => k_is)
    (case a8 => k_is); (case l8 => k_is); (case c8 => k_is); (case k8 => k_is)
    (case a9 => k_is); (case l9 => k_is); (case c9 => k_is); (case k9 => k_is)
    (case a10 => k_is); (case l10 => k_is); (case c10 => k_is); (case k10 => k_is)
    (case a12 => k_is); (case l12 => k_is); (case c12 => k_is); (case k12 => k_is)
    (case a13 => k_is); (case l13 => k_is); (case c13 => k_is); (case k13 => k_is)
    (case a14 => k_is); (case l14 => k_is); (case c14 => k_is); (case k14 => k_is)
    (case a15 => k_is); (case l15 => k_is); (case c15 => k_is); (case k15 => k_is)
    (case a16 => k_is); (case l16 => k_is); (case c16 => k_is); (case k16 => k_is)
    (case a17 => k_is); (case l17 => k_is); (case c17 => k_is); (case k17 => k_is)
    (case a20 => k_is); (case l20 => k_is); (case c20 => k_is); (case k20 => k_is)
    (case a21 => k_is); (case l21 => k_is); (case c21 => k_is); (case k21 => k_is)
    (case a22 => k_is); (case l22 => k_is); (case c22 => k_is); (case k22 => k_is)
    (case a23 => k_is); (case l23 => k_is); (case c23 => k_is); (case k23 => k_is)
    (case a25 => k_is); (case l25 => k_is); (case c25 => k_is); (case k25 => k_is)
    (case a27 => k_is); (case l27 => k_is); (case c27 => k_is); (case k27 => k_is)
    (case a28 => k_is); (case l28 => k_is); (case c28 => k_is); (case k28 => k_is)
    (case a29 => k_is); (case l29 => k_is); (case c29 => k_is); (case k29 => k_is)
    (case a30 => k_is); (case l30 => k_is); (case c30 => k_is); (case k30 => k_is)
    (case a32 => k_is); (case l32 => k_is); (case c32 => k_is); (case k32 => k_is)
    (case a33 => k_is); (case l33 => k_is); (case c33 => k_is); (case k33 => k_is)
    (case a34 => k_is); (case l34 => k_is); (case c34 => k_is); (case k34 => k_is)
    (case ns_Board => k_is)
    (case a25000 => k_is); (case i25000 => k_is); (case l25000 => k_is); (case c25000 => k_is); (case k25000 => k_is)
    (case a25001 => k_is); (case i25001 => k_is); (case l25001 => k_is); (case c25001 => k_is); (case k25001 => k_is)
    (case a25002 => k_is); (case i25002 => k_is); (case l25002 => k_is); (case c25002 => k_is); (case k25002 => k_is)
    (case a25003 => k_is); (case i25003 => k_is); (case l25003 => k_is); (case c25003 => k_is); (case k25003 => k_is)
    (case a25004 => k_is); (case i25004 => k_is); (case l25004 => k_is); (case c25004 => k_is); (case k25004 => k_is)
    (case a25005 => k_is); (case i25005 => k_is); (case l25005 => k_is); (case c25005 => k_is); (case k25005 => k_is)
    (case a25006 => k_is); (case i25006 => k_is); (case l25006 => k_is); (case c25006 => k_is); (case k25006 => k_is)
    (case op_Board => k_is)
    (case oh_Board => k_is)
    (case oo_Board => k_is)
    (case os_Board => k_is)
    (case om_Board => k_is)
    (case ok_Board => k_is)
    (case of_Board_bottom => k_is)
    (case of_Board_priced => k_is)
    (case of_Board_held => k_is)
    (case of_Board_lines => k_is)
    (case kc_MOST_SHARED => k_is)
    (case z_all => k_is)
    (case z_enumerate => k_is)
    (case z_int => k_is)
    (case z_isinstance => k_is)
    (case z_len => k_is)
    (case z_list => k_is)
    (case z_max => k_is)
    (case z_min => k_is)
    (case z_range => k_is)
    (case z_sorted => k_is)
    (case z_sum => k_is)
    (case z_tuple => k_is)
#print axioms PySem.Challenge.cw_farhail_k49_whole_shares_of_known_webs_holds
