import PyProof.Rows.All
import Wide.All
import OpenK.AllK
import Wide.FinOn
import HandS.ForMost
import HandS.Wide
import HandS.Walk
import HandS.Deep
import HandS.SortInts
import HandS.Flow
import HandS.IsInst
import PyProof.P3In
import HandS.TupSets
import HandS.Dict
import HandS.Conv
import HandS.SortRule
import KE.KIsAll
import HandS.Base
import HandS.Call
import HandS.Exc
import HandS.ExcOwn
import HandS.ExcIs
import HandS.ExcValue
import HandS.TryOnly
import HandS.WordsExc
import HandS.TupAny
import HandS.DictTup
import KE.KDictWalk
import KE.KExcIs
import HandS.List
import HandS.ExcInit
import HandS.ExcField
import HandS.ClsMeth
import HandS.Iter
import KE.IntBitsLaws
import PyProof.AutoSeq1
import HandS.SetFor
import PyProof.DictMoreH
import HandS.SetKeys
import HandS.TupLen
import HandS.Strs
import HandS.More
import PySem.Challenge.RW_farhail_k35_fewest_told
set_option Elab.async false
set_option linter.all false
set_option maxRecDepth 100000
set_option maxHeartbeats 4000000
/-! Z0: results with refusals, data as it stands in a heap, the heap in a frozen part and cells of one's own -/
namespace Z
open PySem L2
abbrev Fg := PySem.W.Frag
/-! ### results -/
structure Exn where
  cls : Str
  arg : Int
  deriving DecidableEq
inductive R (α : Type) where
  | ok (a : α)
  | exc (e : Exn)
  | bad
def R.bind {α β : Type} (m : R α) (f : α → R β) : R β :=
  match m with
  | .ok a => f a
  | .exc e => .exc e
  | .bad => .bad
instance : Monad R where
  pure := R.ok
  bind := R.bind
section
variable {α β γ : Type}
theorem ok_bind (a : α) (f : α → R β) : (R.ok a >>= f) = f a := rfl
theorem bind_bind (m : R α) (f : α → R β) (g : β → R γ) : ((m >>= f) >>= g) = (m >>= fun a => f a >>= g) := by
  cases m <;> rfl
theorem bind_ok_iff {m : R α} {f : α → R β} {b : β} : (m >>= f) = R.ok b ↔ ∃ a, m = R.ok a ∧ f a = R.ok b := by
  cases m with
  | ok a => exact ⟨fun h => ⟨a, rfl, h⟩, fun ⟨_, h1, h2⟩ => by cases h1; exact h2⟩
  | exc e => exact ⟨fun h => (nomatch (show R.exc e = R.ok b from h)), fun ⟨_, h1, _⟩ => nomatch h1⟩
  | bad => exact ⟨fun h => (nomatch (show R.bad = R.ok b from h)), fun ⟨_, h1, _⟩ => nomatch h1⟩
def grd (b : Bool) : R Unit := if b = true then .ok () else .bad
theorem grd_t {b : Bool} (h : b = true) : grd b = R.ok () := by rw [h]; rfl
def ofO (o : Option α) : R α :=
  match o with
  | some a => .ok a
  | none => .bad
/-- the item at an index of any sign -/
def getI (xs : List α) (i : Int) : R α := ofO (atI xs i)
/-- the list with another item at an index -/
def setI (xs : List α) (i : Int) (x : α) : R (List α) :=
  match ixN xs.length i with
  | some j => .ok (xs.set j x)
  | none => .bad
/-- a list of at most a thousand items grows by one -/
def app (xs : List α) (x : α) : R (List α) := if xs.length < 100000 then .ok (xs ++ [x]) else .bad
def extend (xs ys : List α) : R (List α) := if xs.length + ys.length < 100000 then .ok (xs ++ ys) else .bad
@[irreducible] def modI (i j : Int) : R Int := if 0 < j then .ok (i % j) else .bad
@[irreducible] def divI (i j : Int) : R Int := if 0 < j ∧ j.natAbs.log2 < 9000 then .ok (i / j) else .bad
/-- the ints from i on below j -/
def rng (i j : Int) : List Int := (List.range (j - i).toNat).map fun (k : Nat) => i + (k : Int)
@[irreducible] def rngI (i j : Int) : R (List Int) := if -(2 ^ 62) ≤ i ∧ i < 2 ^ 62 ∧ -(2 ^ 62) ≤ j ∧ j < 2 ^ 62 then .ok (rng i j) else .bad
/-- items for items -/
def mapR (f : α → R β) : List α → R (List β)
  | [] => .ok []
  | x :: xs => do
    let y ← f x
    let ys ← mapR f xs
    pure (y :: ys)
/-- a fold whose turn may leave -/
def foldR (f : β → α → R β) : β → List α → R β
  | s, [] => .ok s
  | s, x :: xs => f s x >>= fun s' => foldR f s' xs
/-- a fold whose turn may end the whole with a value (inl), or the loop alone (inr inl) -/
def foldX {ρ : Type} (f : β → α → R (Sum ρ (Bool × β))) : β → List α → R (Sum ρ β)
  | s, [] => .ok (.inr s)
  | s, x :: xs => f s x >>= fun r =>
    match r with
    | .inl z => .ok (.inl z)
    | .inr (true, s') => foldX f s' xs
    | .inr (false, s') => .ok (.inr s')
/-- what holds of a result -/
def Post (m : R α) (P : α → Prop) (E : Exn → Prop) : Prop :=
  match m with
  | .ok a => P a
  | .exc e => E e
  | .bad => False
variable {P P' : α → Prop} {Q : β → Prop} {E E' : Exn → Prop}
theorem Post.mono {m : R α} (h : Post m P E) (hP : ∀ a, P a → P' a) (hE : ∀ e, E e → E' e) : Post m P' E' := by
  cases m with
  | ok a => exact hP a h
  | exc e => exact hE e h
  | bad => exact h
theorem post_bind {m : R α} {f : α → R β} (h : Post (m >>= f) Q E) : Post m (fun a => Post (f a) Q E) E := by
  cases m <;> exact h
theorem post_ok {a : α} (h : Post (R.ok a) P E) : P a := h
theorem pb_assoc {m : R α} {f : α → R β} {g : β → R γ} {Q : γ → Prop} (h : Post ((m >>= f) >>= g) Q E) : Post (m >>= fun a => f a >>= g) Q E := by
  rw [bind_bind] at h
  exact h
theorem pb_grd {b : Bool} {f : Unit → R β} (h : Post (grd b >>= f) Q E) : b = true ∧ Post (f ()) Q E := by
  cases b with
  | true => exact ⟨rfl, h⟩
  | false => exact (show False from h).elim
theorem pb_ofO {o : Option α} {f : α → R β} (h : Post (ofO o >>= f) Q E) : ∃ a, o = some a ∧ Post (f a) Q E := by
  cases o with
  | some a => exact ⟨a, rfl, h⟩
  | none => exact (show False from h).elim
theorem pb_get {xs : List α} {i : Int} {f : α → R β} (h : Post (getI xs i >>= f) Q E) : ∃ a, atI xs i = some a ∧ Post (f a) Q E := pb_ofO h
theorem pb_set {xs : List α} {i : Int} {x : α} {f : List α → R β} (h : Post (setI xs i x >>= f) Q E) : ∃ j, ixN xs.length i = some j ∧ Post (f (xs.set j x)) Q E := by
  unfold setI at h
  cases e : ixN xs.length i with
  | some j => rw [e] at h; exact ⟨j, rfl, h⟩
  | none => rw [e] at h; exact (show False from h).elim
theorem pb_if {c : Prop} [Decidable c] {a : α} {f : α → R β} (h : Post ((if c then R.ok a else R.bad) >>= f) Q E) : c ∧ Post (f a) Q E := by
  by_cases hc : c
  · rw [if_pos hc] at h
    exact ⟨hc, h⟩
  · rw [if_neg hc] at h
    exact (show False from h).elim
theorem line5 : 100000 ≤ sizeLine := by decide
theorem pb_app {xs : List α} {x : α} {f : List α → R β} (h : Post (app xs x >>= f) Q E) : xs.length < sizeLine ∧ Post (f (xs ++ [x])) Q E :=
  let ⟨a, b⟩ := pb_if h
  ⟨Nat.lt_of_lt_of_le a line5, b⟩
theorem pb_extend {xs ys : List α} {f : List α → R β} (h : Post (extend xs ys >>= f) Q E) : xs.length + ys.length ≤ sizeLine ∧ Post (f (xs ++ ys)) Q E :=
  let ⟨a, b⟩ := pb_if h
  ⟨Nat.le_of_lt (Nat.lt_of_lt_of_le a line5), b⟩
theorem pb_mod {i j : Int} {f : Int → R β} (h : Post (modI i j >>= f) Q E) : 0 < j ∧ Post (f (i % j)) Q E := by
  unfold modI at h
  exact pb_if h
theorem pb_div {i j : Int} {f : Int → R β} (h : Post (divI i j >>= f) Q E) : CDivW i j ∧ Post (f (i / j)) Q E := by
  unfold divI at h
  exact let ⟨a, b⟩ := pb_if (c := 0 < j ∧ j.natAbs.log2 < 9000) h
  ⟨a, b⟩
theorem pb_rng {i j : Int} {f : List Int → R β} (h : Post (rngI i j >>= f) Q E) : (-(2 ^ 62) ≤ i ∧ i < 2 ^ 62 ∧ -(2 ^ 62) ≤ j ∧ j < 2 ^ 62) ∧ Post (f (rng i j)) Q E := by
  unfold rngI at h
  exact pb_if h
theorem post_ite {c : Bool} {m n : R α} {A B : Prop} (h : Post (if c = true then m else n) P E) (ht : c = true → Post m P E → A) (hf : c = false → Post n P E → B) : if c = true then A else B := by
  cases c with
  | true => exact ht rfl h
  | false => exact hf rfl h
theorem pb_foldR {f : γ → α → R γ} {s : γ} {x : α} {xs : List α} {g : γ → R β} (h : Post (foldR f s (x :: xs) >>= g) Q E) : Post (f s x >>= fun s' => foldR f s' xs >>= g) Q E := by
  have h' : Post ((f s x >>= fun s' => foldR f s' xs) >>= g) Q E := h
  rw [bind_bind] at h'
  exact h'
end
/-! ### lists of values and what they stand for -/
inductive A2 {α : Type} (r : V → α → Prop) : List V → List α → Prop
  | nil : A2 r [] []
  | cons {v : V} {x : α} {vs : List V} {xs : List α} : r v x → A2 r vs xs → A2 r (v :: vs) (x :: xs)
section
variable {α : Type} {r r' : V → α → Prop} {vs us : List V} {xs ys : List α} {v : V} {x : α}
theorem A2.length : ∀ {vs : List V} {xs : List α}, A2 r vs xs → vs.length = xs.length
  | _, _, .nil => rfl
  | _, _, .cons _ t => by rw [List.length_cons, List.length_cons, A2.length t]
theorem A2.imp (f : ∀ v x, r v x → r' v x) : ∀ {vs : List V} {xs : List α}, A2 r vs xs → A2 r' vs xs
  | _, _, .nil => .nil
  | _, _, .cons h t => .cons (f _ _ h) (A2.imp f t)
theorem A2.append : ∀ {vs us : List V} {xs ys : List α}, A2 r vs xs → A2 r us ys → A2 r (vs ++ us) (xs ++ ys)
  | _, _, _, _, .nil, h => h
  | _, _, _, _, .cons a t, h => .cons a (A2.append t h)
theorem A2.snoc (h : A2 r vs xs) (a : r v x) : A2 r (vs ++ [v]) (xs ++ [x]) := h.append (.cons a .nil)
theorem A2.get : ∀ {vs : List V} {xs : List α} {i : Nat} {x : α}, A2 r vs xs → xs[i]? = some x → ∃ v, vs[i]? = some v ∧ r v x
  | _, _, _, _, .nil, e => by simp at e
  | _, _, 0, _, .cons a _, e => by simp at e; subst e; exact ⟨_, rfl, a⟩
  | _, _, i + 1, x, .cons _ t, e => by
    obtain ⟨v, h1, h2⟩ := A2.get (i := i) (x := x) t (by simpa using e)
    exact ⟨v, by simpa using h1, h2⟩
theorem A2.getV : ∀ {vs : List V} {xs : List α} {i : Nat} {v : V}, A2 r vs xs → vs[i]? = some v → ∃ x, xs[i]? = some x ∧ r v x
  | _, _, _, _, .nil, e => by simp at e
  | _, _, 0, _, .cons a _, e => by simp at e; subst e; exact ⟨_, rfl, a⟩
  | _, _, i + 1, x, .cons _ t, e => by
    obtain ⟨v, h1, h2⟩ := A2.getV (i := i) (v := x) t (by simpa using e)
    exact ⟨v, by simpa using h1, h2⟩
theorem A2.at {i : Int} (h : A2 r vs xs) (e : atI xs i = some x) : ∃ v, atI vs i = some v ∧ r v x := by
  unfold atI at e ⊢
  rw [h.length]
  cases q : ixN xs.length i with
  | none => rw [q] at e; cases e
  | some j =>
    rw [q] at e
    exact h.get e
theorem A2.set (a : r v x) : ∀ {vs : List V} {xs : List α} (i : Nat), A2 r vs xs → A2 r (vs.set i v) (xs.set i x)
  | _, _, _, .nil => .nil
  | _, _, 0, .cons _ t => .cons a t
  | _, _, i + 1, .cons q t => .cons q (A2.set a i t)
theorem A2.take : ∀ {vs : List V} {xs : List α} (n : Nat), A2 r vs xs → A2 r (vs.take n) (xs.take n)
  | _, _, 0, _ => .nil
  | _, _, _ + 1, .nil => .nil
  | _, _, n + 1, .cons a t => .cons a (A2.take n t)
theorem A2.drop : ∀ {vs : List V} {xs : List α} (n : Nat), A2 r vs xs → A2 r (vs.drop n) (xs.drop n)
  | _, _, 0, h => h
  | _, _, _ + 1, .nil => .nil
  | _, _, n + 1, .cons _ t => A2.drop n t
end
/-! ### data in a heap -/
class Rep (α : Type) where
  rep : Fg → Hp → V → α → Prop
  mono : ∀ {K : Fg} {H H' : Hp} {v : V} {x : α}, Same H H' → rep K H v x → rep K H' v x
open Rep (rep)
section
variable {α β : Type} [Rep α] [Rep β] {K : Fg} {H H' : Hp} {v : V}
theorem A2.mono {vs : List V} {xs : List α} (s : Same H H') (h : A2 (rep K H) vs xs) : A2 (rep K H') vs xs := h.imp fun _ _ => Rep.mono s
instance : Rep Int := ⟨fun _ _ v x => v = .int x, fun _ h => h⟩
instance : Rep Bool := ⟨fun _ _ v x => v = .bl x, fun _ h => h⟩
instance : Rep Unit := ⟨fun _ _ v _ => v = .non, fun _ h => h⟩
instance : Rep Str := ⟨fun _ _ v x => v = .str x, fun _ h => h⟩
instance repOpt : Rep (Option α) := ⟨fun K H v x => match x with
  | none => v = .non
  | some y => rep K H v y, fun {_ _ _ _ x} s h => by
    cases x with
    | none => exact h
    | some y => exact Rep.mono (α := α) s h⟩
instance repPair : Rep (α × β) := ⟨fun K H v x => ∃ a u w, v = .ref a ∧ H a = some (.tup [u, w]) ∧ rep K H u x.1 ∧ rep K H w x.2,
  fun s ⟨a, u, w, e, q, h1, h2⟩ => ⟨a, u, w, e, s _ _ q, Rep.mono s h1, Rep.mono s h2⟩⟩
instance repList : Rep (List α) := ⟨fun K H v xs => ∃ a vs, v = .ref a ∧ H a = some (.lst vs) ∧ A2 (rep K H) vs xs,
  fun s ⟨a, vs, e, q, h⟩ => ⟨a, vs, e, s _ _ q, h.mono s⟩⟩
/-- the script -/
structure Scr where
  l : List Int
  deriving DecidableEq
instance repScr : Rep Scr := ⟨fun K H v xs => ∃ a, v = .ref a ∧ SqL K H a (xs.l.map V.int), fun s ⟨a, e, q⟩ => ⟨a, e, s.seq q⟩⟩
/-- a tuple of any number of like things -/
structure Tup (α : Type) where
  l : List α
  deriving DecidableEq
instance repTup : Rep (Tup α) := ⟨fun K H v xs => ∃ a vs, v = .ref a ∧ H a = some (.tup vs) ∧ A2 (rep K H) vs xs.l,
  fun s ⟨a, vs, e, q, h⟩ => ⟨a, vs, e, s _ _ q, h.mono s⟩⟩
/-- a place, or a pair -/
inductive Thing where
  | pl (i : Int)
  | ti (a b : Int)
  deriving DecidableEq
instance repThing : Rep Thing := ⟨fun K H v x => match x with
  | .pl i => v = .int i
  | .ti a b => rep K H v (a, b), fun {_ _ _ _ x} s h => by
    cases x with
    | pl i => exact h
    | ti a b => exact Rep.mono (α := Int × Int) s h⟩
theorem A2.ints {vs : List V} {xs : List Int} (h : A2 (rep K H) vs xs) : vs = xs.map V.int := by
  induction h with
  | nil => rfl
  | cons a _ ih =>
    have a' : _ = V.int _ := a
    rw [a', ih]
    rfl
theorem A2.of_ints {xs : List Int} : A2 (rep K H) (xs.map V.int) xs := by
  induction xs with
  | nil => exact .nil
  | cons x xs ih => exact .cons rfl ih
theorem A2.bools {vs : List V} {xs : List Bool} (h : A2 (rep K H) vs xs) : vs = xs.map V.bl := by
  induction h with
  | nil => rfl
  | cons a _ ih =>
    have a' : _ = V.bl _ := a
    rw [a', ih]
    rfl
end
/-! ### the heap: F, frozen, is read alone; the cells os are one's own, not in F -/
structure W (F H : Hp) (os : List (Addr × HO)) : Prop where
  same : Same F H
  own : ∀ p ∈ os, H p.1 = some p.2 ∧ F p.1 = none
  nd : os.Pairwise fun p q => p.1 ≠ q.1
  nt : ∀ p ∈ os, ∀ vs, p.2 ≠ .tup vs
theorem same_new {H : Hp} {p : Addr} {o : HO} (h : H p = none) : Same H (upd H p o) := fun a u e => by
  rw [upd_ne (ne_of_none e h)]
  exact e
section
variable {F H : Hp} {os pre post : List (Addr × HO)} {a p : Addr} {o o' : HO}
theorem W.free (w : W F H os) (n : H p = none) : F p = none := w.same.free n
theorem W.get (w : W F H (pre ++ (a, o) :: post)) : H a = some o := (w.own (a, o) (List.mem_append_right _ List.mem_cons_self)).1
theorem W.no (w : W F H (pre ++ (a, o) :: post)) : F a = none := (w.own (a, o) (List.mem_append_right _ List.mem_cons_self)).2
theorem W.ne (w : W F H os) (n : H p = none) : ∀ q ∈ os, q.1 ≠ p := fun q hq e => by
  have h := (w.own q hq).1
  rw [e, n] at h
  cases h
/-- a new thing, never to be written -/
theorem W.frz (w : W F H os) (n : H p = none) : W (upd F p o) (upd H p o) os where
  same := fun b u e => by
    by_cases hb : b = p
    · subst hb
      rw [upd_same] at e ⊢
      exact e
    · rw [upd_ne hb] at e ⊢
      exact w.same b u e
  own := fun q hq => by
    have hne := w.ne n q hq
    rw [upd_ne hne, upd_ne hne]
    exact w.own q hq
  nd := w.nd
  nt := w.nt
theorem W.frzS (w : W F H os) (n : H p = none) : Same F (upd F p o) := same_new (w.free n)
/-- a new cell of one's own -/
theorem W.new (w : W F H os) (n : H p = none) (ho : ∀ vs, o ≠ .tup vs := by exact fun _ h => nomatch h) : W F (upd H p o) ((p, o) :: os) where
  same := w.same.trans (same_new n)
  own := fun q hq => by
    rcases List.mem_cons.mp hq with rfl | hq
    · exact ⟨upd_same, w.free n⟩
    · rw [upd_ne (w.ne n q hq)]
      exact w.own q hq
  nd := List.pairwise_cons.mpr ⟨fun q hq => fun e => w.ne n q hq e.symm, w.nd⟩
  nt := fun q hq => by
    rcases List.mem_cons.mp hq with rfl | hq
    · exact ho
    · exact w.nt q hq
/-- a cell of one's own is written -/
theorem W.set (w : W F H (pre ++ (a, o) :: post)) (ho : ∀ vs, o' ≠ .tup vs := by exact fun _ h => nomatch h) : W F (upd H a o') (pre ++ (a, o') :: post) where
  same := fun b u e => by
    have hn := w.no
    rw [upd_ne (ne_of_none e hn)]
    exact w.same b u e
  own := fun q hq => by
    have nd := w.nd
    rw [List.pairwise_append] at nd
    obtain ⟨_, n2, n3⟩ := nd
    rw [List.pairwise_cons] at n2
    rcases List.mem_append.mp hq with hq | hq
    · have hne : q.1 ≠ a := n3 q hq (a, o) List.mem_cons_self
      rw [upd_ne hne]
      exact w.own q (List.mem_append_left _ hq)
    · rcases List.mem_cons.mp hq with rfl | hq
      · exact ⟨upd_same, w.no⟩
      · have hne : q.1 ≠ a := fun e => n2.1 q hq e.symm
        rw [upd_ne hne]
        exact w.own q (List.mem_append_right _ (List.mem_cons_of_mem _ hq))
  nd := by
    have nd := w.nd
    rw [List.pairwise_append] at nd ⊢
    obtain ⟨n1, n2, n3⟩ := nd
    rw [List.pairwise_cons] at n2 ⊢
    refine ⟨n1, ⟨n2.1, n2.2⟩, fun x hx y hy => ?_⟩
    rcases List.mem_cons.mp hy with rfl | hy
    · exact n3 x hx (a, o) List.mem_cons_self
    · exact n3 x hx y (List.mem_cons_of_mem _ hy)
  nt := fun q hq => by
    rcases List.mem_append.mp hq with hq | hq
    · exact w.nt q (List.mem_append_left _ hq)
    · rcases List.mem_cons.mp hq with rfl | hq
      · exact ho
      · exact w.nt q (List.mem_append_right _ (List.mem_cons_of_mem _ hq))
/-- a cell is forgotten -/
theorem W.drop (w : W F H (pre ++ (a, o) :: post)) : W F H (pre ++ post) where
  same := w.same
  own := fun q hq => w.own q (by
    rcases List.mem_append.mp hq with h | h
    · exact List.mem_append_left _ h
    · exact List.mem_append_right _ (List.mem_cons_of_mem _ h))
  nd := by
    have nd := w.nd
    rw [List.pairwise_append] at nd ⊢
    obtain ⟨n1, n2, n3⟩ := nd
    rw [List.pairwise_cons] at n2
    exact ⟨n1, n2.2, fun x hx y hy => n3 x hx y (List.mem_cons_of_mem _ hy)⟩
  nt := fun q hq => w.nt q (by
    rcases List.mem_append.mp hq with h | h
    · exact List.mem_append_left _ h
    · exact List.mem_append_right _ (List.mem_cons_of_mem _ h))
/-- a cell of one's own is never written again -/
theorem W.freeze (w : W F H (pre ++ (a, o) :: post)) : W (upd F a o) H (pre ++ post) where
  same := fun b u e => by
    by_cases hb : b = a
    · subst hb
      rw [upd_same] at e
      rw [← e]
      exact w.get
    · rw [upd_ne hb] at e
      exact w.same b u e
  own := fun q hq => by
    have nd := w.nd
    rw [List.pairwise_append] at nd
    obtain ⟨n1, n2, n3⟩ := nd
    rw [List.pairwise_cons] at n2
    have hne : q.1 ≠ a := by
      rcases List.mem_append.mp hq with h | h
      · exact n3 q h (a, o) List.mem_cons_self
      · exact fun e => n2.1 q h e.symm
    have h := w.drop.own q hq
    rw [upd_ne hne]
    exact h
  nd := w.drop.nd
  nt := w.drop.nt
theorem W.freezeS (w : W F H (pre ++ (a, o) :: post)) : Same F (upd F a o) := same_new w.no
/-- a cell is told first -/
theorem W.front (w : W F H (pre ++ (a, o) :: post)) : W F H ((a, o) :: (pre ++ post)) where
  same := w.same
  own := fun x hx => w.own x (by
    rcases List.mem_cons.mp hx with rfl | h
    · exact List.mem_append_right _ List.mem_cons_self
    · rcases List.mem_append.mp h with h | h
      · exact List.mem_append_left _ h
      · exact List.mem_append_right _ (List.mem_cons_of_mem _ h))
  nd := by
    have nd := w.nd
    have nd' := w.drop.nd
    rw [List.pairwise_append] at nd
    obtain ⟨n1, n2, n3⟩ := nd
    rw [List.pairwise_cons] at n2
    refine List.pairwise_cons.mpr ⟨fun x hx => ?_, nd'⟩
    rcases List.mem_append.mp hx with h | h
    · exact fun e => n3 x h (a, o) List.mem_cons_self e.symm
    · exact n2.1 x h
  nt := fun x hx => w.nt x (by
    rcases List.mem_cons.mp hx with rfl | h
    · exact List.mem_append_right _ List.mem_cons_self
    · rcases List.mem_append.mp h with h | h
      · exact List.mem_append_left _ h
      · exact List.mem_append_right _ (List.mem_cons_of_mem _ h))
end
/-! ### what a call hands back -/
section
variable {α β : Type} [Rep α] [Rep β]
/-- a value of the frozen part -/
def Ret (K : Fg) (F : Hp) (os : List (Addr × HO)) (Q : VK) (y : α) : Prop := ∀ v F' H', W F' H' os → Same F F' → rep K F' v y → Q v H'
/-- a new list, the caller's own -/
def RetL (K : Fg) (F : Hp) (os : List (Addr × HO)) (Q : VK) (ys : List α) : Prop := ∀ p vs F' H', W F' H' ((p, .lst vs) :: os) → Same F F' → A2 (rep K F') vs ys → Q (.ref p) H'
/-- a value, and what the list at a holds now -/
def RetM (K : Fg) (F : Hp) (a : Addr) (os : List (Addr × HO)) (Q : VK) (y : α × List β) : Prop :=
  ∀ v vs F' H', W F' H' ((a, .lst vs) :: os) → Same F F' → rep K F' v y.1 → A2 (rep K F') vs y.2 → Q v H'
/-- a new list, the caller's own, and what the list at a holds now -/
def RetLM (K : Fg) (F : Hp) (a : Addr) (os : List (Addr × HO)) (Q : VK) (y : List α × List β) : Prop :=
  ∀ p us vs F' H', W F' H' ((p, .lst us) :: (a, .lst vs) :: os) → Same F F' → A2 (rep K F') us y.1 → A2 (rep K F') vs y.2 → Q (.ref p) H'
def noX : Exn → Prop := fun _ => False
end
end Z
/-! Z1: loops, comprehensions and joins against their mirrors; calls by typed data -/
namespace Z
open PySem L2
open Rep (rep)
/-! ### ways that join -/
section
variable {γ δ : Type} {m : R γ} {k : γ → R δ} {P : δ → Prop} {X : Exn → Prop}
theorem joinS {t u : TS} {D : Ends} {σ : St} {H : Hp} (hm : Post (m >>= k) P X) (J : γ → St → Hp → Prop)
    (h : ∀ (N : St → Hp → Prop) (P' : γ → Prop), (∀ g, P' g → ∀ σ' H', J g σ' H' → N σ' H') → Post m P' X → t { D with nx := N } σ H)
    (h2 : ∀ g σ' H', J g σ' H' → Post (k g) P X → u D σ' H') : tSeq t u D σ H :=
  h _ _ (fun g p σ' H' j => h2 g σ' H' j p) (post_bind hm)
theorem joinT {t : TT} {σ : St} {H : Hp} {Q : Bool → Hp → Prop} (hm : Post (m >>= k) P X) (J : γ → Bool → Hp → Prop)
    (h : ∀ (Q' : Bool → Hp → Prop) (P' : γ → Prop), (∀ g, P' g → ∀ c H', J g c H' → Q' c H') → Post m P' X → t σ H Q')
    (h2 : ∀ g c H', J g c H' → Post (k g) P X → Q c H') : t σ H Q :=
  h _ _ (fun g p c H' j => h2 g c H' j p) (post_bind hm)
theorem joinE {t : TE} {σ : St} {H : Hp} {Q : VK} (hm : Post (m >>= k) P X) (J : γ → V → Hp → Prop)
    (h : ∀ (Q' : VK) (P' : γ → Prop), (∀ g, P' g → ∀ c H', J g c H' → Q' c H') → Post m P' X → t σ H Q')
    (h2 : ∀ g c H', J g c H' → Post (k g) P X → Q c H') : t σ H Q :=
  h _ _ (fun g p c H' j => h2 g c H' j p) (post_bind hm)
/-- a test of a value that is told -/
theorem cutT {t : TT} {σ : St} {H : Hp} {Q : Bool → Hp → Prop} (J : Bool → Hp → Prop) (h : ∀ Q' : Bool → Hp → Prop, (∀ c H', J c H' → Q' c H') → t σ H Q') (h2 : ∀ c H', J c H' → Q c H') : t σ H Q := h _ h2
theorem cutE {t : TE} {σ : St} {H : Hp} {Q : VK} (J : V → Hp → Prop) (h : ∀ Q' : VK, (∀ c H', J c H' → Q' c H') → t σ H Q') (h2 : ∀ c H', J c H' → Q c H') : t σ H Q := h _ h2
theorem ifB {c : Bool} {A B : Prop} (h1 : c = true → A) (h2 : c = false → B) : if c = true then A else B := by
  cases c with
  | true => exact h1 rfl
  | false => exact h2 rfl
end
/-! ### what is walked, typed -/
structure TW (J : It) {β : Type} (items : List β) (G : Hp → Prop) (Y : β → Hp → V → Hp → Prop) : Prop where
  walk : Walk J items.length G (fun i H x H' => ∃ b, items[i]? = some b ∧ Y b H x H')
section
variable {K : Fg} {F : Hp} {a : Addr} {α β : Type} [Rep α] [Rep β] {vs us : List V} {xs : List α} {ys : List β}
theorem tw_list (h : A2 (rep K F) vs xs) : TW (Itl K a) xs (fun H => SqL K H a vs) (fun b H x H' => H' = H ∧ rep K F x b) := ⟨by
  rw [← h.length]
  exact walk_list.mono (fun _ g => g) fun i H x H' _ _ y => by
    obtain ⟨y1, y2⟩ := y
    obtain ⟨b, h1, h2⟩ := h.getV y2
    exact ⟨b, h1, y1, h2⟩⟩
theorem tw_tup (h : A2 (rep K F) vs xs) : TW (Itt K a) xs (fun H => SqT K H a vs) (fun b H x H' => H' = H ∧ rep K F x b) := ⟨by
  rw [← h.length]
  exact walk_tup.mono (fun _ g => g) fun i H x H' _ _ y => by
    obtain ⟨y1, y2⟩ := y
    obtain ⟨b, h1, h2⟩ := h.getV y2
    exact ⟨b, h1, y1, h2⟩⟩
theorem rng_length (i j : Int) : (rng i j).length = (j - i).toNat := by
  unfold rng
  rw [List.length_map, List.length_range]
theorem rng_get {i j : Int} {n : Nat} (h : n < (j - i).toNat) : (rng i j)[n]? = some (i + (n : Int)) := by
  unfold rng
  rw [List.getElem?_map, List.getElem?_range h]
  rfl
theorem tw_rng {i j : Int} : TW (Itr i (j - i).toNat) (rng i j) (fun _ => True) (fun b H x H' => H' = H ∧ x = .int b) := ⟨by
  rw [rng_length]
  exact walk_range.mono (fun _ g => g) fun n H x H' hn _ y => ⟨_, rng_get hn, y.1, y.2⟩⟩
theorem tw_rng0 {j : Int} : TW (Itr 0 j.toNat) (rng 0 j) (fun _ => True) (fun b H x H' => H' = H ∧ x = .int b) := by
  have h := tw_rng (i := 0) (j := j)
  rw [Int.sub_zero] at h
  exact h
/-- pairs of a place and the item there -/
def enum (xs : List α) : List (Int × α) := (rng 0 xs.length).zip xs
theorem enum_length (xs : List α) : (enum xs).length = xs.length := by
  unfold enum
  rw [List.length_zip, rng_length]
  omega
theorem enum_get {xs : List α} {i : Nat} {x : α} (h : xs[i]? = some x) : (enum xs)[i]? = some ((i : Int), x) := by
  have hl := (List.getElem?_eq_some_iff.mp h).1
  unfold enum
  rw [List.getElem?_zip_eq_some]
  refine ⟨?_, h⟩
  rw [rng_get (by omega)]
  simp
theorem tw_enum (h : A2 (rep K F) vs xs) : TW (Ite K a) (enum xs) (fun H => SqL K H a vs) (fun b H v H' => ∃ T x, v = .ref T ∧ H T = none ∧ H' = upd H T (.tup [.int b.1, x]) ∧ rep K F x b.2) := ⟨by
  rw [enum_length, ← h.length]
  exact walk_enum.mono (fun _ g => g) fun i H x H' _ _ y => by
    obtain ⟨T, u, w, e1, e2, e3, e4, e5⟩ := y
    obtain ⟨b, h1, h2⟩ := h.getV e5
    cases e4
    exact ⟨((i : Int), b), enum_get h1, T, w, e1, e2, e3, h2⟩⟩
end
/-! ### for -/
section
variable {J : It} {β γ δ ρ : Type} {items : List β} {G : Hp → Prop} {Y : β → Hp → V → Hp → Prop} {g : TG} {tb : TS} {D : Ends} {σ : St} {H : Hp} {P : δ → Prop} {X : Exn → Prop}
theorem drop_cons {l : List β} {i : Nat} {b : β} (h : l[i]? = some b) : l.drop i = b :: l.drop (i + 1) := by
  obtain ⟨hl, e⟩ := List.getElem?_eq_some_iff.mp h
  rw [List.drop_eq_getElem_cons hl, e]
theorem forS (tw : TW J items G Y) {body : γ → β → R γ} {s0 : γ} {k : γ → R δ} (hm : Post (foldR body s0 items >>= k) P X) (I : γ → St → Hp → Prop) (h0 : I s0 σ H) (hG : ∀ c σ H, I c σ H → G H)
    (hs : ∀ (b : β) (c : γ) (x : V) (σ : St) (H H' : Hp) (N : St → Hp → Prop) (P' : γ → Prop), I c σ H → Y b H x H' → (∀ c', P' c' → ∀ σ' H', I c' σ' H' → N σ' H') → Post (body c b) P' X → g x σ H' fun σ2 H2 => tb { D with nx := N, ct := N, bk := D.nx } σ2 H2)
    (hd : ∀ c σ H, I c σ H → Post (k c) P X → D.nx σ H) :
    ∃ W : Nat → Nat → St → Hp → Prop, (∃ m, W 0 m σ H) ∧ ∀ i m σ H, W i m σ H →
      (J.stop i H ∧ D.nx σ H) ∨ (J.go i H ∧ ∃ N : St → Hp → Prop, (∀ σ' H', N σ' H' → ∃ m', m' < m ∧ W (i + 1) m' σ' H') ∧ ∀ x H', J.yld i H x H' → g x σ H' fun σ2 H2 => tb { D with nx := N, ct := N, bk := D.nx } σ2 H2) := by
  refine for_it tw.walk (fun i σ H => ∃ c, I c σ H ∧ Post (foldR body c (items.drop i) >>= k) P X) ⟨s0, h0, hm⟩ (fun i σ H _ ⟨c, h, _⟩ => hG c σ H h) ?_ ?_
  · rintro i x σ H H' hi ⟨c, h, hm⟩ ⟨b, hb, y⟩
    rw [drop_cons hb] at hm
    exact hs b c x σ H H' _ _ h y (fun c' p' σ' H' h' => ⟨c', h', p'⟩) (post_bind (pb_foldR hm))
  · rintro σ H ⟨c, h, hm⟩
    rw [List.drop_length] at hm
    exact hd c σ H h hm
/-- a for that may end the whole, or itself -/
theorem forX (tw : TW J items G Y) {body : γ → β → R (Sum ρ (Bool × γ))} {s0 : γ} {k : Sum ρ γ → R δ} (hm : Post (foldX body s0 items >>= k) P X) (I : γ → St → Hp → Prop) (h0 : I s0 σ H) (hG : ∀ c σ H, I c σ H → G H)
    (hs : ∀ (b : β) (c : γ) (x : V) (σ : St) (H H' : Hp) (N B : St → Hp → Prop) (P' : Sum ρ (Bool × γ) → Prop), I c σ H → Y b H x H' → (∀ c', P' (.inr (true, c')) → ∀ σ' H', I c' σ' H' → N σ' H') → (∀ c', P' (.inr (false, c')) → ∀ σ' H', I c' σ' H' → B σ' H') →
      (∀ z, P' (.inl z) → Post (k (.inl z)) P X) → Post (body c b) P' X → g x σ H' fun σ2 H2 => tb { D with nx := N, ct := N, bk := B } σ2 H2)
    (hd : ∀ c σ H, I c σ H → Post (k (.inr c)) P X → D.nx σ H) :
    ∃ W : Nat → Nat → St → Hp → Prop, (∃ m, W 0 m σ H) ∧ ∀ i m σ H, W i m σ H →
      (J.stop i H ∧ D.nx σ H) ∨ (J.go i H ∧ ∃ N : St → Hp → Prop, (∀ σ' H', N σ' H' → ∃ m', m' < m ∧ W (i + 1) m' σ' H') ∧ ∀ x H', J.yld i H x H' → g x σ H' fun σ2 H2 => tb { D with nx := N, ct := N, bk := D.nx } σ2 H2) := by
  refine for_it tw.walk (fun i σ H => ∃ c, I c σ H ∧ Post (foldX body c (items.drop i) >>= k) P X) ⟨s0, h0, hm⟩ (fun i σ H _ ⟨c, h, _⟩ => hG c σ H h) ?_ ?_
  · rintro i x σ H H' hi ⟨c, h, hm⟩ ⟨b, hb, y⟩
    rw [drop_cons hb] at hm
    have hm' : Post ((body c b >>= fun r => match r with
      | .inl z => (R.ok (.inl z) : R (Sum ρ γ))
      | .inr (true, s') => foldX body s' (items.drop (i + 1))
      | .inr (false, s') => R.ok (.inr s')) >>= k) P X := hm
    rw [bind_bind] at hm'
    exact hs b c x σ H H' _ _ _ h y (fun c' p' σ' H' h' => ⟨c', h', p'⟩) (fun c' p' σ' H' h' => hd c' σ' H' h' p') (fun z p' => p') (post_bind hm')
  · rintro σ H ⟨c, h, hm⟩
    rw [List.drop_length] at hm
    exact hd c σ H h hm
end
/-! ### comprehensions -/
/-- items for items, of a list that is not too long -/
def mapG {α β : Type} (f : α → R β) (xs : List α) : R (List β) := grd (decide (xs.length < 100000)) >>= fun _ => mapR f xs
/-- items for some items -/
def filR {α β : Type} (f : α → R (Option β)) : List α → R (List β)
  | [] => .ok []
  | x :: xs => f x >>= fun o => filR f xs >>= fun ys => match o with
    | some y => .ok (y :: ys)
    | none => .ok ys
def filG {α β : Type} (f : α → R (Option β)) (xs : List α) : R (List β) := grd (decide (xs.length < 100000)) >>= fun _ => filR f xs
/-- items for items, by a state that turns -/
def mapSt {α β γ : Type} (f : γ → α → R (β × γ)) : γ → List α → R (List β × γ)
  | s, [] => .ok ([], s)
  | s, x :: xs => f s x >>= fun p => mapSt f p.2 xs >>= fun q => .ok (p.1 :: q.1, q.2)
def mapStG {α β γ : Type} (f : γ → α → R (β × γ)) (s : γ) (xs : List α) : R (List β × γ) := grd (decide (xs.length < 100000)) >>= fun _ => mapSt f s xs
/-- items for some items, by a state that turns -/
def filSt {α β γ : Type} (f : γ → α → R (Option β × γ)) : γ → List α → R (List β × γ)
  | s, [] => .ok ([], s)
  | s, x :: xs => f s x >>= fun p => filSt f p.2 xs >>= fun q => match p.1 with
    | some y => .ok (y :: q.1, q.2)
    | none => .ok q
def filStG {α β γ : Type} (f : γ → α → R (Option β × γ)) (s : γ) (xs : List α) : R (List β × γ) := grd (decide (xs.length < 100000)) >>= fun _ => filSt f s xs
section
variable {J : It} {β γ δ ε : Type} {items : List β} {G : Hp → Prop} {Y : β → Hp → V → Hp → Prop} {g : TG} {tt : TT} {te : TE} {P : ε → Prop} {X : Exn → Prop} {K : Fg} {vs : List Nat} {σ : St} {F H1 : Hp} {os : List (Addr × HO)} {D : Addr} {Qd : Hp → Prop}
/-- what is asked of a comprehension's list D behind its walk J: by the readings' own words -/
abbrev LcAsk (J : It) (g : TG) (tt : TT) (te : TE) (vs : List Nat) (σ : St) (H1 : Hp) (D : Addr) (Qd : Hp → Prop) : Prop :=
  ∃ W : Nat → Nat → Hp → Prop, (∃ m, W 0 m (upd H1 D (.lst []))) ∧ ∀ i m H, W i m H →
      (J.stop i H ∧ Qd H) ∨ (J.go i H ∧ ∃ Nx : Hp → Prop, (∀ H', Nx H' → ∃ m', m' < m ∧ W (i + 1) m' H') ∧ ∀ x H', J.yld i H x H' → g x (wipe σ vs) H' fun σ2 H2 => wipe σ2 vs = wipe σ vs ∧ tt σ2 H2 fun b H3 =>
        if b = true then te σ2 H3 fun y H4 => ∃ acc, H4 D = some (.lst acc) ∧ acc.length < sizeLine ∧ Nx (upd H4 D (.lst (acc ++ [y]))) else Nx H3)
/-- the state and the items told of a comprehension: os by the state -/
theorem lcFil [Rep δ] (tw : TW J items G Y) {f : γ → β → R (Option δ × γ)} {s0 : γ} {k : List δ × γ → R ε} (hm : Post (filStG f s0 items >>= k) P X) (O : γ → Hp → List (Addr × HO) → Prop) (w : W F H1 os) (o0 : O s0 F os) (nD : H1 D = none)
    (hG : ∀ c F' H' os' acc, Same F F' → W F' H' ((D, .lst acc) :: os') → O c F' os' → G H')
    (hs : ∀ (b : β) (c : γ) (x : V) (F' H' H'' : Hp) (os' : List (Addr × HO)) (acc : List V) (N : V → Hp → Prop) (N0 : Hp → Prop) (P' : Option δ × γ → Prop), Same F F' → W F' H' ((D, .lst acc) :: os') → O c F' os' → Y b H' x H'' →
      (∀ d c', P' (some d, c') → ∀ y F'' H'' os'', W F'' H'' ((D, .lst acc) :: os'') → Same F' F'' → O c' F'' os'' → rep K F'' y d → N y H'') →
      (∀ c', P' (none, c') → ∀ F'' H'' os'', W F'' H'' ((D, .lst acc) :: os'') → Same F' F'' → O c' F'' os'' → N0 H'') → Post (f c b) P' X →
      g x (wipe σ vs) H'' fun σ2 H2 => wipe σ2 vs = wipe σ vs ∧ tt σ2 H2 fun b H3 => if b = true then te σ2 H3 N else N0 H3)
    (hd : ∀ c us F' H' os' ys, Same F F' → W F' H' ((D, .lst us) :: os') → O c F' os' → A2 (rep K F') us ys → Post (k (ys, c)) P X → Qd H') : LcAsk J g tt te vs σ H1 D Qd := by
  obtain ⟨hlen, hm⟩ := pb_grd (pb_assoc hm)
  have hlen : items.length < sizeLine := Nat.lt_of_lt_of_le (of_decide_eq_true hlen) line5
  refine lc_it tw.walk (fun i H => ∃ c F' os' us ys, i ≤ items.length ∧ Same F F' ∧ W F' H ((D, .lst us) :: os') ∧ O c F' os' ∧ A2 (rep K F') us ys ∧ ys.length ≤ i ∧ Post (filSt f c (items.drop i) >>= fun q => k (ys ++ q.1, q.2)) P X) ?_ ?_ ?_ ?_
  · exact ⟨s0, F, os, [], [], Nat.zero_le _, Same.refl _, w.new nD, o0, .nil, Nat.le_refl _, hm⟩
  · rintro i H _ ⟨c, F', os', us, ys, _, s, w', o, _⟩
    exact hG c F' H os' us s w' o
  · rintro i x H H' hi ⟨c, F', os', us, ys, _, s, w', o, h, hl, hm⟩ ⟨b, hb, y⟩
    rw [drop_cons hb] at hm
    have hm' : Post ((f c b >>= fun p => filSt f p.2 (items.drop (i + 1)) >>= fun q => match p.1 with
      | some y => (R.ok (y :: q.1, q.2) : R (List δ × γ))
      | none => R.ok q) >>= fun q => k (ys ++ q.1, q.2)) P X := hm
    rw [bind_bind] at hm'
    have hm2 := post_bind hm'
    have hul : us.length = ys.length := h.length
    refine hs b c x F' H H' os' us (fun y H4 => ∃ acc, H4 D = some (.lst acc) ∧ acc.length < sizeLine ∧ _) _ _ s w' o y ?_ ?_ hm2
    · intro d c' p2 y F'' H'' os'' w2 s2 o2 r2
      refine ⟨us, w2.get (pre := []), by omega, c', F'', os'', us ++ [y], ys ++ [d], hi, s.trans s2, w2.set (pre := []), o2, (h.mono s2).snoc r2, by rw [List.length_append, List.length_singleton]; omega, ?_⟩
      have p3 : Post ((filSt f c' (items.drop (i + 1)) >>= fun q => (R.ok (d :: q.1, q.2) : R (List δ × γ))) >>= fun q => k (ys ++ q.1, q.2)) P X := p2
      rw [bind_bind] at p3
      have e : (fun q : List δ × γ => (R.ok (d :: q.1, q.2) : R (List δ × γ)) >>= fun q => k (ys ++ q.1, q.2)) = fun q => k (ys ++ [d] ++ q.1, q.2) := by
        funext q
        show k (ys ++ (d :: q.1), q.2) = k (ys ++ [d] ++ q.1, q.2)
        rw [List.append_assoc]
        rfl
      rw [e] at p3
      exact p3
    · intro c' p2 F'' H'' os'' w2 s2 o2
      refine ⟨c', F'', os'', us, ys, hi, s.trans s2, w2, o2, h.mono s2, by omega, ?_⟩
      have p3 : Post ((filSt f c' (items.drop (i + 1)) >>= fun q => (R.ok q : R (List δ × γ))) >>= fun q => k (ys ++ q.1, q.2)) P X := p2
      rw [bind_bind] at p3
      exact p3
  · rintro H ⟨c, F', os', us, ys, _, s, w', o, h, _, hm⟩
    rw [List.drop_length] at hm
    have hm' : Post (k (ys ++ [], c)) P X := hm
    rw [List.append_nil] at hm'
    exact hd c us F' H os' ys s w' o h hm'
/-- without a test -/
theorem lcMap [Rep δ] (tw : TW J items G Y) {f : γ → β → R (δ × γ)} {s0 : γ} {k : List δ × γ → R ε} (hm : Post (mapStG f s0 items >>= k) P X) (O : γ → Hp → List (Addr × HO) → Prop) (w : W F H1 os) (o0 : O s0 F os) (nD : H1 D = none)
    (hG : ∀ c F' H' os' acc, Same F F' → W F' H' ((D, .lst acc) :: os') → O c F' os' → G H')
    (hs : ∀ (b : β) (c : γ) (x : V) (F' H' H'' : Hp) (os' : List (Addr × HO)) (acc : List V) (N : V → Hp → Prop) (P' : δ × γ → Prop), Same F F' → W F' H' ((D, .lst acc) :: os') → O c F' os' → Y b H' x H'' →
      (∀ d c', P' (d, c') → ∀ y F'' H'' os'', W F'' H'' ((D, .lst acc) :: os'') → Same F' F'' → O c' F'' os'' → rep K F'' y d → N y H'') → Post (f c b) P' X →
      g x (wipe σ vs) H'' fun σ2 H2 => wipe σ2 vs = wipe σ vs ∧ te σ2 H2 N)
    (hd : ∀ c us F' H' os' ys, Same F F' → W F' H' ((D, .lst us) :: os') → O c F' os' → A2 (rep K F') us ys → Post (k (ys, c)) P X → Qd H') : LcAsk J g tYes te vs σ H1 D Qd := by
  have e : ∀ (s : γ) (l : List β), filSt (fun c b => f c b >>= fun p => R.ok (some p.1, p.2)) s l = mapSt f s l := by
    intro s l
    induction l generalizing s with
    | nil => rfl
    | cons b l ih =>
      show ((f s b >>= fun p => R.ok (some p.1, p.2)) >>= fun p => filSt (fun c b => f c b >>= fun p => R.ok (some p.1, p.2)) p.2 l >>= fun q => match p.1 with
        | some y => (R.ok (y :: q.1, q.2) : R (List δ × γ))
        | none => R.ok q) = (f s b >>= fun p => mapSt f p.2 l >>= fun q => .ok (p.1 :: q.1, q.2))
      rw [bind_bind]
      refine congrArg (f s b >>= ·) ?_
      funext p
      show (filSt (fun c b => f c b >>= fun p => R.ok (some p.1, p.2)) p.2 l >>= fun q => (R.ok (p.1 :: q.1, q.2) : R (List δ × γ))) = _
      rw [ih]
  have hm' : Post (filStG (fun c b => f c b >>= fun p => R.ok (some p.1, p.2)) s0 items >>= k) P X := by
    unfold filStG
    simp only [e]
    exact hm
  refine lcFil tw hm' O w o0 nD hG (fun b c x F' H' H'' os' acc N N0 P' s w' o y hN hN0 hp => ?_) hd
  exact hs b c x F' H' H'' os' acc N _ s w' o y (fun d c' p2 y F'' H'' os'' w2 s2 o2 r2 => hN d c' p2 y F'' H'' os'' w2 s2 o2 r2) (post_bind hp)
/-- without a state -/
theorem lcM [Rep δ] (tw : TW J items G Y) {f : β → R δ} {k : List δ → R ε} (hm : Post (mapG f items >>= k) P X) (w : W F H1 os) (nD : H1 D = none)
    (hG : ∀ F' H' acc, Same F F' → W F' H' ((D, .lst acc) :: os) → G H')
    (hs : ∀ (b : β) (x : V) (F' H' H'' : Hp) (acc : List V) (N : V → Hp → Prop) (P' : δ → Prop), Same F F' → W F' H' ((D, .lst acc) :: os) → Y b H' x H'' →
      (∀ d, P' d → ∀ y F'' H'', W F'' H'' ((D, .lst acc) :: os) → Same F' F'' → rep K F'' y d → N y H'') → Post (f b) P' X →
      g x (wipe σ vs) H'' fun σ2 H2 => wipe σ2 vs = wipe σ vs ∧ te σ2 H2 N)
    (hd : ∀ us F' H' ys, Same F F' → W F' H' ((D, .lst us) :: os) → A2 (rep K F') us ys → Post (k ys) P X → Qd H') : LcAsk J g tYes te vs σ H1 D Qd := by
  have e : ∀ (l : List β), (mapSt (fun (_ : Unit) b => f b >>= fun d => R.ok (d, ())) () l >>= fun q => R.ok q.1) = mapR f l := by
    intro l
    induction l with
    | nil => rfl
    | cons b l ih =>
      show (((f b >>= fun d => R.ok (d, ())) >>= fun p => mapSt (fun (_ : Unit) b => f b >>= fun d => R.ok (d, ())) p.2 l >>= fun q => (R.ok (p.1 :: q.1, q.2) : R (List δ × Unit))) >>= fun q => R.ok q.1) = (f b >>= fun y => mapR f l >>= fun ys => R.ok (y :: ys))
      rw [bind_bind, bind_bind]
      refine congrArg (f b >>= ·) ?_
      funext d
      show ((mapSt (fun (_ : Unit) b => f b >>= fun d => R.ok (d, ())) () l >>= fun q => (R.ok (d :: q.1, q.2) : R (List δ × Unit))) >>= fun q => R.ok q.1) = _
      rw [bind_bind, ← ih, bind_bind]
      rfl
  have hm' : Post (mapStG (fun (_ : Unit) b => f b >>= fun d => R.ok (d, ())) () items >>= fun q => k q.1) P X := by
    have e2 : (mapStG (fun (_ : Unit) b => f b >>= fun d => R.ok (d, ())) () items >>= fun q => R.ok q.1) = mapG f items := by
      unfold mapStG mapG
      rw [bind_bind]
      simp only [e]
    have h2 : Post ((mapStG (fun (_ : Unit) b => f b >>= fun d => R.ok (d, ())) () items >>= fun q => R.ok q.1) >>= k) P X := by
      rw [e2]
      exact hm
    rw [bind_bind] at h2
    exact h2
  refine lcMap tw hm' (fun _ _ os' => os = os') w rfl nD (fun c F' H' os' acc s w' o => by subst o; exact hG F' H' acc s w') (fun b c x F' H' H'' os' acc N P' s w' o y hN hp => ?_) (fun c us F' H' os' ys s w' o h hm => by subst o; exact hd us F' H' ys s w' h hm)
  subst o
  exact hs b x F' H' H'' acc N _ s w' y (fun d p2 y F'' H'' w2 s2 r2 => hN d () p2 y F'' H'' _ w2 s2 rfl r2) (post_bind hp)
/-- .. with a test -/
theorem lcF [Rep δ] (tw : TW J items G Y) {f : β → R (Option δ)} {k : List δ → R ε} (hm : Post (filG f items >>= k) P X) (w : W F H1 os) (nD : H1 D = none)
    (hG : ∀ F' H' acc, Same F F' → W F' H' ((D, .lst acc) :: os) → G H')
    (hs : ∀ (b : β) (x : V) (F' H' H'' : Hp) (acc : List V) (N : V → Hp → Prop) (N0 : Hp → Prop) (P' : Option δ → Prop), Same F F' → W F' H' ((D, .lst acc) :: os) → Y b H' x H'' →
      (∀ d, P' (some d) → ∀ y F'' H'', W F'' H'' ((D, .lst acc) :: os) → Same F' F'' → rep K F'' y d → N y H'') →
      (P' none → ∀ F'' H'', W F'' H'' ((D, .lst acc) :: os) → Same F' F'' → N0 H'') → Post (f b) P' X →
      g x (wipe σ vs) H'' fun σ2 H2 => wipe σ2 vs = wipe σ vs ∧ tt σ2 H2 fun b H3 => if b = true then te σ2 H3 N else N0 H3)
    (hd : ∀ us F' H' ys, Same F F' → W F' H' ((D, .lst us) :: os) → A2 (rep K F') us ys → Post (k ys) P X → Qd H') : LcAsk J g tt te vs σ H1 D Qd := by
  have e : ∀ (l : List β), (filSt (fun (_ : Unit) b => f b >>= fun d => R.ok (d, ())) () l >>= fun q => R.ok q.1) = filR f l := by
    intro l
    induction l with
    | nil => rfl
    | cons b l ih =>
      show (((f b >>= fun d => R.ok (d, ())) >>= fun p => filSt (fun (_ : Unit) b => f b >>= fun d => R.ok (d, ())) p.2 l >>= fun q => match p.1 with
        | some y => (R.ok (y :: q.1, q.2) : R (List δ × Unit))
        | none => R.ok q) >>= fun q => R.ok q.1) = (f b >>= fun o => filR f l >>= fun ys => match o with
        | some y => .ok (y :: ys)
        | none => .ok ys)
      rw [bind_bind, bind_bind]
      refine congrArg (f b >>= ·) ?_
      funext d
      show ((filSt (fun (_ : Unit) b => f b >>= fun d => R.ok (d, ())) () l >>= fun q => match d with
        | some y => (R.ok (y :: q.1, q.2) : R (List δ × Unit))
        | none => R.ok q) >>= fun q => R.ok q.1) = _
      rw [bind_bind, ← ih, bind_bind]
      cases d <;> rfl
  have hm' : Post (filStG (fun (_ : Unit) b => f b >>= fun d => R.ok (d, ())) () items >>= fun q => k q.1) P X := by
    have e2 : (filStG (fun (_ : Unit) b => f b >>= fun d => R.ok (d, ())) () items >>= fun q => R.ok q.1) = filG f items := by
      unfold filStG filG
      rw [bind_bind]
      simp only [e]
    have h2 : Post ((filStG (fun (_ : Unit) b => f b >>= fun d => R.ok (d, ())) () items >>= fun q => R.ok q.1) >>= k) P X := by
      rw [e2]
      exact hm
    rw [bind_bind] at h2
    exact h2
  refine lcFil tw hm' (fun _ _ os' => os = os') w rfl nD (fun c F' H' os' acc s w' o => by subst o; exact hG F' H' acc s w') (fun b c x F' H' H'' os' acc N N0 P' s w' o y hN hN0 hp => ?_) (fun c us F' H' os' ys s w' o h hm => by subst o; exact hd us F' H' ys s w' h hm)
  subst o
  exact hs b x F' H' H'' acc N N0 _ s w' y (fun d p2 y F'' H'' w2 s2 r2 => hN d () p2 y F'' H'' _ w2 s2 rfl r2) (fun p2 F'' H'' w2 s2 => hN0 () p2 F'' H'' _ w2 s2 rfl) (post_bind hp)
end
end Z
namespace Z
open PySem L2
open Rep (rep)
/-! ### short words for a walk -/
section
variable {F F1 F2 H H1 : Hp} {os os' pre post : List (Addr × HO)} {a p : Addr} {o o' : HO} {K : Fg}
theorem W.frzE (w : W F H os) (n : H p = none) : ∃ F', Same F F' ∧ W F' (upd H p o) os ∧ F' p = some o := ⟨_, w.frzS n, w.frz n, upd_same⟩
theorem W.freezeE (w : W F H (pre ++ (a, o) :: post)) : ∃ F', Same F F' ∧ W F' H (pre ++ post) ∧ F' a = some o := ⟨_, w.freezeS, w.freeze, upd_same⟩
theorem rep_own {α : Type} [Rep α] {vs : List V} {xs : List α} (w : W F H (pre ++ (a, .lst vs) :: post)) (h : A2 (rep K F) vs xs) : rep K H (.ref a) xs := ⟨a, vs, rfl, w.get, h.mono w.same⟩
theorem rep_lst {α : Type} [Rep α] {vs : List V} {xs : List α} (q : F a = some (.lst vs)) (h : A2 (rep K F) vs xs) : rep K F (.ref a) xs := ⟨a, vs, rfl, q, h⟩
theorem rep_tup {α : Type} [Rep α] {vs : List V} {xs : List α} (q : F a = some (.tup vs)) (h : A2 (rep K F) vs xs) : rep K F (.ref a) (Tup.mk xs) := ⟨a, vs, rfl, q, h⟩
theorem rep_pair {α β : Type} [Rep α] [Rep β] {u v : V} {x : α} {y : β} (q : F a = some (.tup [u, v])) (h1 : rep K F u x) (h2 : rep K F v y) : rep K F (.ref a) (x, y) := ⟨a, u, v, rfl, q, h1, h2⟩
theorem ints_q {vs : List V} {xs : List Int} (q : SqL K H a vs) (h : A2 (rep K F) vs xs) : SqL K H a (xs.map V.int) := h.ints ▸ q
theorem Room.units65 {k : Nat} {A : Around} (r : Room k A) : A.units + 65 < cLine := by
  have := r.un
  omega
theorem sl_cut {α : Type} {r : V → α → Prop} {vs : List V} {xs : List α} (h : A2 r vs xs) (lo hi : Option Int) : A2 r (cutV vs lo hi) (((xs.drop (HT.sIx xs.length 0 lo)).take (HT.sIx xs.length xs.length hi - HT.sIx xs.length 0 lo))) := by
  unfold cutV
  rw [h.length]
  exact (h.drop _).take _
/-- xs[lo:hi] -/
def cutL {α : Type} (xs : List α) (lo hi : Option Int) : List α := (xs.drop (HT.sIx xs.length 0 lo)).take (HT.sIx xs.length xs.length hi - HT.sIx xs.length 0 lo)
end
end Z
namespace Z
open PySem L2
open Rep (rep)
/-- a while by its fuel -/
def whileR {γ : Type} (c : γ → R Bool) (b : γ → R γ) : Nat → γ → R γ
  | 0, _ => .bad
  | n + 1, s => c s >>= fun t => if t = true then b s >>= fun s' => whileR c b n s' else .ok s
section
variable {γ δ : Type} {P : δ → Prop} {X : Exn → Prop} {tc : TT} {tb : TS} {D : Ends} {σ : St} {H : Hp}
theorem whileS {c : γ → R Bool} {b : γ → R γ} {n : Nat} {s0 : γ} {k : γ → R δ} (hm : Post (whileR c b n s0 >>= k) P X) (I : γ → St → Hp → Prop) (h0 : I s0 σ H)
    (hc : ∀ (g : γ) (σ : St) (H : Hp) (Q' : Bool → Hp → Prop) (P' : Bool → Prop), I g σ H → (∀ t, P' t → ∀ H', I g σ H' → Q' t H') → Post (c g) P' X → tc σ H Q')
    (hs : ∀ (g : γ) (σ : St) (H : Hp) (N : St → Hp → Prop) (P' : γ → Prop), I g σ H → (∀ g', P' g' → ∀ σ' H', I g' σ' H' → N σ' H') → Post (b g) P' X → tb { D with nx := N, ct := N, bk := D.nx } σ H)
    (hd : ∀ g σ H, I g σ H → Post (k g) P X → D.nx σ H) : tWhile tc tb D σ H := by
  refine ⟨fun m σ H => ∃ g, I g σ H ∧ Post (whileR c b m g >>= k) P X, ⟨n, s0, h0, hm⟩, ?_⟩
  rintro m σ H ⟨g, h, hm⟩
  cases m with
  | zero => exact (show False from hm).elim
  | succ m =>
    have hm' : Post ((c g >>= fun t => if t = true then b g >>= fun s' => whileR c b m s' else .ok g) >>= k) P X := hm
    rw [bind_bind] at hm'
    refine hc g σ H _ _ h (fun t p H' h' => ?_) (post_bind hm')
    cases t with
    | false => exact iteF (hd g σ H' h' p)
    | true =>
      refine iteT ?_
      have p' : Post ((b g >>= fun s' => whileR c b m s') >>= k) P X := p
      rw [bind_bind] at p'
      exact ⟨fun σ' H' => ∃ g', I g' σ' H' ∧ Post (whileR c b m g' >>= k) P X, fun σ' H' ⟨g', h1, h2⟩ => ⟨m, Nat.lt_succ_self m, g', h1, h2⟩, hs g σ H' _ _ h' (fun g' p2 σ' H' h2 => ⟨g', h2, p2⟩) (post_bind p')⟩
end
section
variable {α β : Type} {Q : β → Prop} {E : Exn → Prop}
theorem pn_set {xs : List α} {i : Int} {x : α} {f : List α → R β} (h : Post (setI xs i x >>= f) Q E) : ∃ j ys, ixN xs.length i = some j ∧ ys = xs.set j x ∧ Post (f ys) Q E :=
  let ⟨j, a, b⟩ := pb_set h
  ⟨j, _, a, rfl, b⟩
theorem pn_app {xs : List α} {x : α} {f : List α → R β} (h : Post (app xs x >>= f) Q E) : ∃ ys, xs.length < sizeLine ∧ ys = xs ++ [x] ∧ Post (f ys) Q E :=
  let ⟨a, b⟩ := pb_app h
  ⟨_, a, rfl, b⟩
theorem pn_extend {xs ys : List α} {f : List α → R β} (h : Post (extend xs ys >>= f) Q E) : ∃ zs, xs.length + ys.length ≤ sizeLine ∧ zs = xs ++ ys ∧ Post (f zs) Q E :=
  let ⟨a, b⟩ := pb_extend h
  ⟨_, a, rfl, b⟩
theorem A2.lt {r : V → α → Prop} {vs : List V} {xs : List α} {n : Nat} (h : A2 r vs xs) (z : xs.length < n) : vs.length < n := by rw [h.length]; exact z
theorem A2.ix {r : V → α → Prop} {vs : List V} {xs : List α} {i : Int} {j : Nat} (h : A2 r vs xs) (z : ixN xs.length i = some j) : ixN vs.length i = some j := by rw [h.length]; exact z
theorem A2.le2 {γ : Type} {r : V → α → Prop} {r' : V → γ → Prop} {vs us : List V} {xs : List α} {ys : List γ} {n : Nat} (h : A2 r vs xs) (h' : A2 r' us ys) (z : xs.length + ys.length ≤ n) : vs.length + us.length ≤ n := by rw [h.length, h'.length]; exact z
end
section
variable {K : Fg} {F : Hp}
theorem rep_i {i : Int} : rep K F (.int i) i := rfl
theorem rep_b {i : Bool} : rep K F (.bl i) i := rfl
theorem rep_s {i : Str} : rep K F (.str i) i := rfl
theorem rep_n : rep K F .non () := rfl
end
end Z
namespace Z
open PySem L2
section
variable {X : Cx} {D : Ends} {σ : L2.St} {H : Hp}
def tC1 (v : V) : TE := fun _ H Q => True ∧ Q v H
theorem pe_int1 {i j pos} : PE X (.Constant (.int i) j pos) (tC1 (.int i)) := ⟨fun pins s σ H Q I h => pe_int.run pins s σ H Q I h.2⟩
theorem pe_non1 {j pos} : PE X (.Constant .none j pos) (tC1 .non) := ⟨fun pins s σ H Q I h => pe_non.run pins s σ H Q I h.2⟩
theorem stepN {i : Nat} {v : V} {Q : L2.St → Hp → Prop} (h : Q (σ.set i (some v)) H) : gName i v σ H Q := h
theorem stepX (h : D.nx σ H) : tNext D σ H := h
theorem stepSeq {t u : TS} (h : t { D with nx := u D } σ H) : tSeq t u D σ H := h
theorem stepIf {c : TT} {a b : TS} (h : c σ H fun t H1 => if t = true then a D σ H1 else b D σ H1) : tIfS c a b D σ H := h
end
end Z
namespace Z
open PySem L2
open Rep (rep)
section
variable {α : Type} [Rep α] {K : Fg} {F : Hp} {v : V} {x : α}
theorem rep_none : rep K F .non (none : Option α) := rfl
theorem rep_some (h : rep K F v x) : rep K F v (some x) := h
end
end Z
/-! Z2: rules by typed data -/
namespace Z
open PySem L2 PySem.Spec PyProof.Rows
open Rep (rep)
/-! ### data that is compared -/
class Dat (α : Type) extends Rep α where
  toD : α → PyData
  dmax : Nat
  dp : ∀ {K : Fg} {H : Hp} {v : V} {x : α}, rep K H v x → Dp K H v (toD x)
  lay : ∀ x : α, (toD x).canLay0 = true
  dep : ∀ x : α, (toD x).depth ≤ dmax
  eqv : ∀ x y : α, PyData.eqv (toD x) (toD y) = true ↔ x = y
section
variable {α β : Type} {K : Fg} {H : Hp}
instance : Dat Int where
  toD := .int
  dmax := 0
  dp := fun h => by
    have h' : _ = V.int _ := h
    subst h'
    exact .int _
  lay := fun x => by simp only [PyData.canLay0]
  dep := fun x => by simp only [PyData.depth, Nat.le_refl]
  eqv := fun x y => by simp [PyData.eqv]
instance : Dat Bool where
  toD := .bool
  dmax := 0
  dp := fun h => by
    have h' : _ = V.bl _ := h
    subst h'
    exact .bl _
  lay := fun x => by simp only [PyData.canLay0]
  dep := fun x => by simp only [PyData.depth, Nat.le_refl]
  eqv := fun x y => by simp [PyData.eqv]
instance datOptInt : Dat (Option Int) where
  toD := fun x => match x with
    | none => .none
    | some i => .int i
  dmax := 0
  dp := fun {K H v x} h => by
    cases x with
    | none =>
      have h' : v = V.non := h
      subst h'
      exact .non
    | some i =>
      have h' : v = V.int i := h
      subst h'
      exact .int _
  lay := fun x => by cases x <;> simp only [PyData.canLay0]
  dep := fun x => by cases x <;> simp only [PyData.depth, Nat.le_refl]
  eqv := fun x y => by cases x <;> cases y <;> simp [PyData.eqv]
instance datPair [Dat α] [Dat β] : Dat (α × β) where
  toD := fun x => .tuple [Dat.toD x.1, Dat.toD x.2]
  dmax := max (Dat.dmax α) (Dat.dmax β) + 1
  dp := fun {K H v x} h => by
    obtain ⟨a, u, w, rfl, q, h1, h2⟩ := h
    exact .tup (SqT.of q) (.cons (Dat.dp h1) (.cons (Dat.dp h2) .nil))
  lay := fun x => by simp only [PyData.canLay0, PyData.canLayAll0, Dat.lay, Bool.and_true]
  dep := fun x => by
    have h1 := Dat.dep x.1
    have h2 := Dat.dep x.2
    simp only [PyData.depth, PyData.depthAll]
    omega
  eqv := fun x y => by
    obtain ⟨x1, x2⟩ := x
    obtain ⟨y1, y2⟩ := y
    simp only [PyData.eqv, PyData.eqvAll, Bool.and_true, Bool.and_eq_true, Dat.eqv, Prod.mk.injEq]
theorem dp_all [Dat α] : ∀ {vs : List V} {xs : List α}, A2 (rep K H) vs xs → DpAll K H vs (xs.map Dat.toD)
  | _, _, .nil => .nil
  | _, _, .cons h t => .cons (Dat.dp h) (dp_all t)
theorem lay_all [Dat α] : ∀ xs : List α, PyData.canLayAll0 (xs.map Dat.toD) = true
  | [] => by simp only [List.map_nil, PyData.canLayAll0]
  | x :: xs => by simp only [List.map_cons, PyData.canLayAll0, Dat.lay, lay_all xs, Bool.and_true]
theorem dep_all [Dat α] : ∀ xs : List α, PyData.depthAll (xs.map Dat.toD) ≤ Dat.dmax α
  | [] => by simp only [List.map_nil, PyData.depthAll, Nat.zero_le]
  | x :: xs => by
    have h1 := dep_all xs
    have h2 := Dat.dep x
    simp only [List.map_cons, PyData.depthAll]
    omega
theorem eqv_all [Dat α] : ∀ xs ys : List α, PyData.eqvAll (xs.map Dat.toD) (ys.map Dat.toD) = true ↔ xs = ys
  | [], [] => by simp [PyData.eqvAll]
  | x :: xs, [] => by simp [PyData.eqvAll]
  | [], y :: ys => by simp [PyData.eqvAll]
  | x :: xs, y :: ys => by simp only [List.map_cons, PyData.eqvAll, Bool.and_eq_true, Dat.eqv, eqv_all xs ys, List.cons.injEq]
instance datList [Dat α] : Dat (List α) where
  toD := fun xs => .list (xs.map Dat.toD)
  dmax := Dat.dmax α + 1
  dp := fun {K H v x} h => by
    obtain ⟨a, vs, rfl, q, h⟩ := h
    exact .lst (SqL.of q) (dp_all h)
  lay := fun x => by
    simp only [PyData.canLay0]
    exact lay_all x
  dep := fun x => by
    have h := dep_all x
    simp only [PyData.depth]
    omega
  eqv := fun x y => by
    simp only [PyData.eqv]
    exact eqv_all x y
instance datTup [Dat α] : Dat (Tup α) where
  toD := fun xs => .tuple (xs.l.map Dat.toD)
  dmax := Dat.dmax α + 1
  dp := fun {K H v x} h => by
    obtain ⟨a, vs, rfl, q, h⟩ := h
    exact .tup (SqT.of q) (dp_all h)
  lay := fun x => by
    simp only [PyData.canLay0]
    exact lay_all x.l
  dep := fun x => by
    have h := dep_all x.l
    simp only [PyData.depth]
    omega
  eqv := fun x y => by
    obtain ⟨x⟩ := x
    obtain ⟨y⟩ := y
    simp only [PyData.eqv, Tup.mk.injEq]
    exact eqv_all x y
instance datThing : Dat Thing where
  toD := fun x => match x with
    | .pl i => .int i
    | .ti a b => .tuple [.int a, .int b]
  dmax := 1
  dp := fun {K H v x} h => by
    cases x with
    | pl i =>
      have h' : v = V.int i := h
      subst h'
      exact .int _
    | ti a b =>
      obtain ⟨p, u, w, rfl, q, h1, h2⟩ := (show rep K H v (a, b) from h)
      have h1' : u = V.int a := h1
      have h2' : w = V.int b := h2
      subst h1' h2'
      exact .tup (SqT.of q) (.cons (.int _) (.cons (.int _) .nil))
  lay := fun x => by cases x <;> simp [PyData.canLay0, PyData.canLayAll0]
  dep := fun x => by cases x <;> simp [PyData.depth, PyData.depthAll]
  eqv := fun x y => by cases x <;> cases y <;> simp [PyData.eqv, PyData.eqvAll]
instance datScr : Dat Scr where
  toD := fun xs => .list (xs.l.map PyData.int)
  dmax := 1
  dp := fun {K H v x} h => by
    obtain ⟨a, rfl, q⟩ := h
    have e : ∀ l : List Int, DpAll K H (l.map V.int) (l.map PyData.int) := fun l => by
      induction l with
      | nil => exact .nil
      | cons x l ih => exact .cons (.int _) ih
    exact .lst q (e x.l)
  lay := fun x => by
    simp only [PyData.canLay0]
    exact lay_all (α := Int) x.l
  dep := fun x => by
    have h := dep_all (α := Int) x.l
    have h' : PyData.depthAll (x.l.map PyData.int) ≤ 0 := h
    simp only [PyData.depth]
    omega
  eqv := fun x y => by
    obtain ⟨x⟩ := x
    obtain ⟨y⟩ := y
    simp only [PyData.eqv, Scr.mk.injEq]
    exact eqv_all (α := Int) x y
theorem shapedD [Dat α] (hd : Dat.dmax α ≤ 60) (x : α) : SeqAt.shaped (Dat.toD x) = true := by
  have h := Dat.dep x
  show ((Dat.toD x).canLay0 && decide ((Dat.toD x).depth ≤ 64)) = true
  rw [Bool.and_eq_true]
  exact ⟨Dat.lay x, decide_eq_true (by omega)⟩
theorem eqvD [Dat α] [DecidableEq α] (x y : α) : PyData.eqv (Dat.toD x) (Dat.toD y) = decide (x = y) := by
  by_cases h : x = y
  · rw [decide_eq_true h]
    exact (Dat.eqv x y).mpr h
  · rw [decide_eq_false h]
    exact Bool.eq_false_iff.mpr fun e => h ((Dat.eqv x y).mp e)
theorem anyD [Dat α] [DecidableEq α] (x : α) : ∀ ys : List α, ((ys.map Dat.toD).any fun z => PyData.eqv z (Dat.toD x)) = decide (x ∈ ys)
  | [] => by simp
  | y :: ys => by
    rw [List.map_cons, List.any_cons, anyD x ys, eqvD]
    by_cases h : y = x
    · subst h; simp
    · have h' : ¬ x = y := fun e => h e.symm
      simp [h, h']
end
section
variable {X : Cx} {α β : Type} {K : Fg}
/-- ==, != of data -/
theorem op_eqDt (hK : X.K = K) (α : Type) [Dat α] [DecidableEq α] (hd : Dat.dmax α ≤ 60) (hu : X.A.units + 64 < cLine) : OpR X (compareOp .Eq) (fun x y H Q => ∃ a b : α, rep K H x a ∧ rep K H y b ∧ Q (.bl (decide (a = b))) H) := by
  subst hK
  intro pins s σ H x y v u Q I rx ry ⟨a, b, h1, h2, q⟩
  exact op_eqD hu pins s σ H x y v u Q I rx ry ⟨Dat.toD a, Dat.toD b, Dat.dp h1, Dat.dp h2, shapedD hd a, shapedD hd b, by rw [eqvD]; exact q⟩
theorem op_neDt (hK : X.K = K) (α : Type) [Dat α] [DecidableEq α] (hd : Dat.dmax α ≤ 60) (hu : X.A.units + 64 < cLine) : OpR X (compareOp .NotEq) (fun x y H Q => ∃ a b : α, rep K H x a ∧ rep K H y b ∧ Q (.bl (!decide (a = b))) H) := by
  subst hK
  intro pins s σ H x y v u Q I rx ry ⟨a, b, h1, h2, q⟩
  exact op_neD hu pins s σ H x y v u Q I rx ry ⟨Dat.toD a, Dat.toD b, Dat.dp h1, Dat.dp h2, shapedD hd a, shapedD hd b, by rw [eqvD]; exact q⟩
/-- in, not in a list, a tuple of data -/
theorem op_inL (hK : X.K = K) (α : Type) [Dat α] [DecidableEq α] (hd : Dat.dmax α ≤ 50) (hu : X.A.units + 65 < cLine) : OpR X (compareOp .In) (fun x y H Q => ∃ (a : α) (b : List α), rep K H x a ∧ rep K H y b ∧ Q (.bl (decide (a ∈ b))) H) := by
  subst hK
  intro pins s σ H x y v u Q I rx ry ⟨a, b, h1, h2, q⟩
  exact op_inD hu pins s σ H x y v u Q I rx ry ⟨Dat.toD a, b.map Dat.toD, Dat.dp h1, Dat.dp h2, shapedD (by omega) a, shapedD (α := List α) (by show Dat.dmax α + 1 ≤ 60; omega) b, by rw [anyD]; exact q⟩
theorem op_notInL (hK : X.K = K) (α : Type) [Dat α] [DecidableEq α] (hd : Dat.dmax α ≤ 50) (hu : X.A.units + 65 < cLine) : OpR X (compareOp .NotIn) (fun x y H Q => ∃ (a : α) (b : List α), rep K H x a ∧ rep K H y b ∧ Q (.bl (!decide (a ∈ b))) H) := by
  subst hK
  intro pins s σ H x y v u Q I rx ry ⟨a, b, h1, h2, q⟩
  exact op_notInD hu pins s σ H x y v u Q I rx ry ⟨Dat.toD a, b.map Dat.toD, Dat.dp h1, Dat.dp h2, shapedD (by omega) a, shapedD (α := List α) (by show Dat.dmax α + 1 ≤ 60; omega) b, by rw [anyD]; exact q⟩
theorem op_inT (hK : X.K = K) (α : Type) [Dat α] [DecidableEq α] (hd : Dat.dmax α ≤ 50) (hu : X.A.units + 65 < cLine) : OpR X (compareOp .In) (fun x y H Q => ∃ (a : α) (b : Tup α), rep K H x a ∧ rep K H y b ∧ Q (.bl (decide (a ∈ b.l))) H) := by
  subst hK
  intro pins s σ H x y v u Q I rx ry ⟨a, b, h1, h2, q⟩
  have sd := shapedD (by omega : Dat.dmax α ≤ 60) a
  have se : SeqAt.shaped (.tuple (b.l.map Dat.toD)) = true := shapedD (α := Tup α) (by show Dat.dmax α + 1 ≤ 60; omega) b
  obtain ⟨as, r1⟩ := Dp.reads I (Dat.toD a) x v (Dat.dp h1) rx
  obtain ⟨bs, r2⟩ := Dp.reads I (.tuple (b.l.map Dat.toD)) y u (Dat.dp h2) ry
  refine SeqAt.in_tuple_reads r2 r1 (SeqAt.canLay_of_shaped se) (SeqAt.canLay_of_shaped sd) (room_in_shaped sd hu) ?_
  rw [anyD]
  exact ⟨.bl _, H, I, rfl, q⟩
/-- == of texts -/
theorem decS (x y : Str) : decide (V.str x = V.str y) = decide (x = y) := by
  by_cases h : x = y
  · subst h; simp
  · rw [decide_eq_false h, decide_eq_false (fun e => h (V.str.inj e))]
theorem op_eqS : OpR X (compareOp .Eq) (fun x y H Q => ∃ a b : Str, x = .str a ∧ y = .str b ∧ Q (.bl (decide (a = b))) H) := by
  intro pins s σ H x y v u Q I rx ry ⟨a, b, h1, h2, q⟩
  subst h1 h2
  exact op_eq pins s σ H _ _ v u Q I rx ry ⟨rfl, by rw [decS]; exact q⟩
theorem op_neS : OpR X (compareOp .NotEq) (fun x y H Q => ∃ a b : Str, x = .str a ∧ y = .str b ∧ Q (.bl (!decide (a = b))) H) := by
  intro pins s σ H x y v u Q I rx ry ⟨a, b, h1, h2, q⟩
  subst h1 h2
  exact op_ne pins s σ H _ _ v u Q I rx ry ⟨rfl, by rw [decS]; exact q⟩
/-- == of truths -/
theorem decB (x y : Bool) : decide (V.bl x = V.bl y) = decide (x = y) := by
  cases x <;> cases y <;> rfl
theorem op_eqB : OpR X (compareOp .Eq) (fun x y H Q => ∃ a b : Bool, x = .bl a ∧ y = .bl b ∧ Q (.bl (decide (a = b))) H) := by
  intro pins s σ H x y v u Q I rx ry ⟨a, b, h1, h2, q⟩
  subst h1 h2
  exact op_eq pins s σ H _ _ v u Q I rx ry ⟨rfl, by rw [decB]; exact q⟩
/-! ### built-ins -/
theorem call_lenN (hK : X.K = K) : CallR X (.builtin "len") (fun xs H Q => ∃ (p : Addr) (ys : List V) (n : Nat), xs = [.ref p] ∧ (SqL K H p ys ∨ SqT K H p ys) ∧ ys.length = n ∧ Q (.int (n : Int)) H) := by
  subst hK
  intro pins s σ H xs us Q I r ⟨p, ys, n, e, h, hn, q⟩
  subst hn
  exact call_len_seq pins s σ H xs us Q I r ⟨p, ys, e, h, q⟩
def max2 (i j : Int) : Int := if j > i then j else i
def min2 (i j : Int) : Int := if j < i then j else i
def minL (xs : List Int) : R Int := ofO xs.min?
theorem pb_min {δ : Type} {xs : List Int} {f : Int → R δ} {P : δ → Prop} {E : Exn → Prop} (h : Post (minL xs >>= f) P E) : ∃ m, xs.min? = some m ∧ Post (f m) P E := pb_ofO h
theorem cr_minI (hK : X.K = K) (hc : X.calm = true) : CallR X (.builtin "min") (fun vs H Q => ∃ (a : Addr) (ns : List Int) (m : Int), vs = [V.ref a] ∧ SqL K H a (ns.map V.int) ∧ ns.min? = some m ∧ Q (.int m) H) := by
  subst hK
  intro pins s σ H xs us Q I r ⟨a, ns, m, e, h, hm, q⟩
  obtain ⟨h1, h2⟩ := List.min?_eq_some_iff.mp hm
  refine cr_min hc pins s σ H xs us Q I r ⟨a, ns, e, h, ?_, fun k h3 h4 => ?_⟩
  · exact List.length_pos_of_mem h1
  · have e1 : k = m := Int.le_antisymm (h4 m h1) (h2 k h3)
    subst e1
    exact q
/-- the ints in order -/
def sortI (xs : List Int) : List Int := xs.mergeSort fun a b => decide (a ≤ b)
theorem sortI_perm (xs : List Int) : (sortI xs).Perm xs := List.mergeSort_perm xs _
theorem sortI_sorted (xs : List Int) : (sortI xs).Pairwise (· ≤ ·) := by
  have h := List.pairwise_mergeSort (le := fun a b : Int => decide (a ≤ b)) (fun a b c h1 h2 => by simp only [decide_eq_true_eq] at *; omega) (fun a b => by simp only [Bool.or_eq_true, decide_eq_true_eq]; omega) xs
  exact h.imp fun h => by simpa using h
theorem sort_uniq {xs ys : List Int} (h : xs.Perm ys) (hx : xs.Pairwise (· ≤ ·)) (hy : ys.Pairwise (· ≤ ·)) : xs = ys := by
  induction xs generalizing ys with
  | nil => exact (List.nil_perm.mp h).symm
  | cons x xs ih =>
    cases ys with
    | nil => exact absurd h.symm (by simp)
    | cons y ys =>
      rw [List.pairwise_cons] at hx hy
      have e : x = y := by
        have h1 : x ∈ y :: ys := h.mem_iff.mp List.mem_cons_self
        have h2 : y ∈ x :: xs := h.mem_iff.mpr List.mem_cons_self
        rcases List.mem_cons.mp h1 with h1 | h1
        · exact h1
        · rcases List.mem_cons.mp h2 with h2 | h2
          · exact h2.symm
          · have := hx.1 y h2
            have := hy.1 x h1
            omega
      subst e
      rw [ih (List.perm_cons x |>.mp h) hx.2 hy.2]
theorem sortI_eq {xs ys : List Int} (h : ys.Perm xs) (hy : ys.Pairwise (· ≤ ·)) : ys = sortI xs := sort_uniq (h.trans (sortI_perm xs).symm) hy (sortI_sorted xs)
theorem cr_sortI (hK : X.K = K) : CallR X (.builtin "sorted") (fun vs H Q => ∃ (a : Addr) (ns : List Int), vs = [V.ref a] ∧ SqL K H a (ns.map V.int) ∧ ∀ p, H p = none → Q (.ref p) (upd H p (.lst ((sortI ns).map V.int)))) := by
  subst hK
  intro pins s σ H xs us Q I r ⟨a, ns, e, h, q⟩
  refine cr_sortedI pins s σ H xs us Q I r ⟨a, ns, e, h, fun ns' p h1 h2 hp => ?_⟩
  rw [sortI_eq h1 h2]
  exact q p hp
theorem ix_listK (hK : X.K = K) : IxR X (rIxL K) := hK ▸ ix_list
theorem ix_tupK (hK : X.K = K) : IxR X (rIxT K) := hK ▸ ix_tup
theorem sl_listK (hK : X.K = K) : SlR X (rSlL K) := hK ▸ sl_list
theorem cr_sumK (hK : X.K = K) (hc : X.calm = true) : CallR X (.builtin "sum") (rSum K) := hK ▸ cr_sum hc
theorem call_list_ofK (hK : X.K = K) : CallR X (.type "list") (fun xs H Q => ∃ p ys, xs = [.ref p] ∧ (SqL K H p ys ∨ SqT K H p ys) ∧ ∀ l, H l = none → Q (.ref l) (upd H l (.lst ys))) := hK ▸ call_list_of
theorem call_tuple_ofK (hK : X.K = K) : CallR X (.type "tuple") (fun xs H Q => ∃ p ys, xs = [.ref p] ∧ ((SqL K H p ys ∧ ∀ l, H l = none → Q (.ref l) (upd H l (.tup ys))) ∨ (SqT K H p ys ∧ Q (.ref p) H))) := hK ▸ call_tuple_of
theorem pi_listK {tg l : Expr} {tl : TE} (hK : X.K = K) (hl : PE X l tl) : PI X tg l (iList K tl) := hK ▸ pi_list hl
theorem pi_tupK {tg l : Expr} {tl : TE} (hK : X.K = K) (hl : PE X l tl) : PI X tg l (iTup K tl) := hK ▸ pi_tup hl
theorem pi_k {tg l : Expr} {wi : Fg → TI} (hK : X.K = K) (h : PI X tg l (wi X.K)) : PI X tg l (wi K) := hK ▸ h
theorem pe_k {e : Expr} {t : Fg → TE} (hK : X.K = K) (h : PE X e (t X.K)) : PE X e (t K) := hK ▸ h
theorem pg_k {tg : Expr} {t : Fg → TG} (hK : X.K = K) (h : PG X tg (t X.K)) : PG X tg (t K) := hK ▸ h
end
end Z
/-! Z3: sets of tuples by their number, isinstance -/
namespace Z
open PySem L2 PySem.Spec PyProof.Rows
open Rep (rep)
section
variable {α : Type} [DecidableEq α]
theorem nodup_le : ∀ {xs ys : List α}, xs.Nodup → (∀ y ∈ xs, y ∈ ys) → xs.length ≤ ys.length
  | [], _, _, _ => Nat.zero_le _
  | x :: xs, ys, h, hs => by
    obtain ⟨h1, h2⟩ := List.nodup_cons.mp h
    have hx : x ∈ ys := hs x List.mem_cons_self
    have := nodup_le (xs := xs) (ys := ys.erase x) h2 fun y hy => (List.mem_erase_of_ne (show y ≠ x from fun e => by subst e; exact h1 hy)).mpr (hs y (List.mem_cons_of_mem _ hy))
    rw [List.length_erase_of_mem hx] at this
    have := List.length_pos_of_mem hx
    rw [List.length_cons]
    omega
theorem nodup_len {xs ys : List α} (h1 : xs.Nodup) (h2 : ys.Nodup) (h : ∀ y, y ∈ xs ↔ y ∈ ys) : xs.length = ys.length := by
  refine Nat.le_antisymm ?_ ?_
  · exact nodup_le h1 fun y hy => (h y).mp hy
  · exact nodup_le h2 fun y hy => (h y).mpr hy
end
section
variable {X : Cx} {K : Fg} {P : Program} {w : World} {F H : Hp}
/-- isinstance of a plain value and a built-in class -/
theorem call_isB (hK : X.K = K) : CallR X (.builtin "isinstance") (fun xs H Q => ∃ (x : V) (a b : String) (r : Bool), xs = [x, .ty b] ∧ TyOf K H x (.type a) ∧ kitB a b = some r ∧ Q (.bl r) H) := by
  subst hK
  intro pins s σ H xs us Q I r ⟨x, a, b, c, e, h1, h2, q⟩
  exact call_isi pins s σ H xs us Q I r ⟨x, .ty b, .type a, .type b, c, e, .ty b, .base h1, kit_ty h2, q⟩
end
end Z
namespace Z
open PySem L2 PySem.Spec PyProof.Rows
open Rep (rep)
section
variable {X : Cx} {K : Fg} {F H : Hp}
theorem bools_q {a : Addr} {vs : List V} {xs : List Bool} (q : SqL K H a vs) (h : A2 (rep K F) vs xs) : SqL K H a (xs.map V.bl) := h.bools ▸ q
theorem cr_allK (hK : X.K = K) (hc : X.calm = true) : CallR X (.builtin "all") (rAll K) := hK ▸ cr_all hc
end
end Z
namespace Z
open PySem L2 PySem.Spec PyProof.Rows
open Rep (rep)
section
variable {X : Cx} {K : Fg} {F H : Hp}
theorem A2.two {α : Type} {r : V → α → Prop} {vs : List V} {x y : α} (h : A2 r vs [x, y]) : ∃ u w, vs = [u, w] ∧ r u x ∧ r w y := by
  cases h with
  | cons a t =>
    cases t with
    | cons b t =>
      cases t
      exact ⟨_, _, rfl, a, b⟩
/-- xs * k -/
def repL {α : Type} (xs : List α) (k : Int) : List α := (List.replicate k.toNat xs).flatten
@[irreducible] def repR {α : Type} (xs : List α) (k : Int) : R (List α) := if -(2 ^ 62) ≤ k ∧ k < 2 ^ 62 ∧ xs.length * k.toNat < 100000 then .ok (repL xs k) else .bad
theorem pb_rep {α δ : Type} {xs : List α} {k : Int} {f : List α → R δ} {P : δ → Prop} {E : Exn → Prop} (h : Post (repR xs k >>= f) P E) : ∃ ys, (-(2 ^ 63) ≤ k ∧ k < 2 ^ 63 ∧ xs.length * k.toNat ≤ sizeLine) ∧ ys = repL xs k ∧ Post (f ys) P E := by
  unfold repR at h
  obtain ⟨⟨a, b, c⟩, d⟩ := pb_if h
  exact ⟨_, ⟨by omega, by omega, Nat.le_of_lt (Nat.lt_of_lt_of_le c line5)⟩, rfl, d⟩
theorem A2.flat {α : Type} {r : V → α → Prop} {vs : List V} {xs : List α} (h : A2 r vs xs) (n : Nat) : A2 r (List.replicate n vs).flatten (List.replicate n xs).flatten := by
  induction n with
  | zero => exact .nil
  | succ n ih =>
    rw [List.replicate_succ, List.replicate_succ, List.flatten_cons, List.flatten_cons]
    exact h.append ih
/-! ### None -/
class NonN (α : Type) extends Rep α where
  no : ∀ {K : Fg} {H : Hp} {v : V} {x : α}, rep K H v x → v ≠ .non
instance : NonN Int := ⟨fun h e => by have h' : _ = V.int _ := h; rw [h'] at e; cases e⟩
instance : NonN Bool := ⟨fun h e => by have h' : _ = V.bl _ := h; rw [h'] at e; cases e⟩
instance {α β : Type} [Rep α] [Rep β] : NonN (α × β) := ⟨fun {K H v x} h q => by
  obtain ⟨a, u, w, e, _⟩ := h
  rw [e] at q
  cases q⟩
instance {α : Type} [Rep α] : NonN (List α) := ⟨fun {K H v x} h q => by
  obtain ⟨a, u, e, _⟩ := h
  rw [e] at q
  cases q⟩
instance {α : Type} [Rep α] : NonN (Tup α) := ⟨fun {K H v x} h q => by
  obtain ⟨a, u, e, _⟩ := h
  rw [e] at q
  cases q⟩
theorem isN_eq {α : Type} [NonN α] {v : V} {o : Option α} (h : rep K F v o) : decide (v = .non) = o.isNone := by
  cases o with
  | none =>
    have h' : v = V.non := h
    rw [h']
    rfl
  | some x => exact decide_eq_false (NonN.no (α := α) h)
theorem op_isN2 : OpR X (compareOp .Is) (fun x y H Q => y = V.non ∧ ∃ b, decide (x = .non) = b ∧ Q (.bl b) H) := by
  intro pins s σ H x y v u Q I rx ry ⟨e, b, hb, q⟩
  exact op_isN pins s σ H x y v u Q I rx ry ⟨e, by rw [hb]; exact q⟩
theorem op_notN2 : OpR X (compareOp .IsNot) (fun x y H Q => y = V.non ∧ ∃ b, decide (x = .non) = b ∧ Q (.bl (!b)) H) := by
  intro pins s σ H x y v u Q I rx ry ⟨e, b, hb, q⟩
  exact op_notN pins s σ H x y v u Q I rx ry ⟨e, by rw [hb]; exact q⟩
instance datOptBool : Dat (Option Bool) where
  toD := fun x => match x with
    | none => .none
    | some i => .bool i
  dmax := 0
  dp := fun {K H v x} h => by
    cases x with
    | none =>
      have h' : v = V.non := h
      subst h'
      exact .non
    | some i =>
      have h' : v = V.bl i := h
      subst h'
      exact .bl _
  lay := fun x => by cases x <;> simp only [PyData.canLay0]
  dep := fun x => by cases x <;> simp only [PyData.depth, Nat.le_refl]
  eqv := fun x y => by cases x <;> cases y <;> simp [PyData.eqv]
end
end Z
/-! Z4: statements never reached, tuples into the frozen part, pairs sorted, dicts of scalars, list(range), pop -/
namespace Z
open PySem L2
open Rep (rep)
section
variable {X : Cx}
theorem ps_absurd {st : Stmt} : PS X st (fun _ _ _ => False) := ⟨fun _ _ _ _ _ _ h => h.elim⟩
theorem stepNot {t : TT} {σ : L2.St} {H : Hp} {Q : Bool → Hp → Prop} (h : t σ H fun c H1 => Q (!c) H1) : tNot t σ H Q := h
/-- every tuple there is may be read -/
def tupF (F H : Hp) : Hp := fun b => match F b with
  | some u => some u
  | none => match H b with
    | some (.tup vs) => some (.tup vs)
    | _ => none
theorem tupF_some {F H : Hp} {b : Addr} {u : HO} (e : F b = some u) : tupF F H b = some u := by
  unfold tupF
  rw [e]
theorem tupF_none {F H : Hp} {b : Addr} {u : HO} (e : F b = none) (h : tupF F H b = some u) : H b = some u ∧ ∃ vs, u = .tup vs := by
  unfold tupF at h
  rw [e] at h
  dsimp only at h
  split at h
  · rename_i vs e'
    cases h
    exact ⟨e', _, rfl⟩
  · cases h
theorem tupF_tup {F H : Hp} {b : Addr} {vs : List V} (e : F b = none) (h : H b = some (.tup vs)) : tupF F H b = some (.tup vs) := by
  unfold tupF
  rw [e, h]
theorem W.tups {F H : Hp} {os : List (Addr × HO)} (w : W F H os) : ∃ F', Same F F' ∧ W F' H os ∧ ∀ b vs, H b = some (.tup vs) → F' b = some (.tup vs) := by
  refine ⟨tupF F H, fun b u e => tupF_some e, ⟨fun b u e => ?_, fun p hp => ?_, w.nd, w.nt⟩, fun b vs e => ?_⟩
  · cases q : F b with
    | some u' =>
      rw [tupF_some q] at e
      cases e
      exact w.same b _ q
    | none => exact (tupF_none q e).1
  · obtain ⟨h1, h2⟩ := w.own p hp
    refine ⟨h1, ?_⟩
    cases q : tupF F H p.1 with
    | none => rfl
    | some u =>
      obtain ⟨k, vs, rfl⟩ := tupF_none h2 q
      rw [h1] at k
      exact absurd (Option.some.inj k) (w.nt p hp vs)
  · cases q : F b with
    | some u' =>
      have := w.same b _ q
      rw [e] at this
      cases this
      exact tupF_some q
    | none => exact tupF_tup q e
/-! ### sorted, of pairs -/
def leP (p q : Int × Int) : Bool := decide (p.1 < q.1 ∨ (p.1 = q.1 ∧ p.2 ≤ q.2))
def sortP (xs : List (Int × Int)) : List (Int × Int) := xs.mergeSort leP
theorem sortP_perm (xs : List (Int × Int)) : (sortP xs).Perm xs := List.mergeSort_perm xs _
theorem sortP_sorted (xs : List (Int × Int)) : (sortP xs).Pairwise fun p q => leP p q = true := by
  refine List.pairwise_mergeSort (le := leP) (fun a b c h1 h2 => ?_) (fun a b => ?_) xs
  · unfold leP at *
    simp only [decide_eq_true_eq] at *
    omega
  · unfold leP
    simp only [Bool.or_eq_true, decide_eq_true_eq]
    omega
theorem sortP_uniq {xs ys : List (Int × Int)} (h : xs.Perm ys) (hx : xs.Pairwise fun p q => leP p q = true) (hy : ys.Pairwise fun p q => leP p q = true) : xs = ys := by
  induction xs generalizing ys with
  | nil => exact (List.nil_perm.mp h).symm
  | cons x xs ih =>
    cases ys with
    | nil => exact absurd h.length_eq (by simp)
    | cons y ys =>
      rw [List.pairwise_cons] at hx hy
      have e : x = y := by
        have h1 : y ∈ x :: xs := h.mem_iff.mpr List.mem_cons_self
        have h2 : x ∈ y :: ys := h.mem_iff.mp List.mem_cons_self
        rcases List.mem_cons.mp h1 with e | h1
        · exact e.symm
        · rcases List.mem_cons.mp h2 with e | h2
          · exact e
          · have a := hx.1 y h1
            have b := hy.1 x h2
            unfold leP at a b
            simp only [decide_eq_true_eq] at a b
            exact Prod.ext (by omega) (by omega)
      subst e
      rw [ih h.cons_inv hx.2 hy.2]
theorem sortP_eq {xs ys : List (Int × Int)} (h : ys.Perm xs) (hy : ys.Pairwise fun p q => leP p q = true) : ys = sortP xs := sortP_uniq (h.trans (sortP_perm xs).symm) hy (sortP_sorted xs)
/-- which pair stands at a reference -/
def keyP (H : Hp) (v : V) : Int × Int := match v with
  | .ref t => match H t with
    | some (.tup [.int i, .int j]) => (i, j)
    | _ => (0, 0)
  | _ => (0, 0)
theorem keyP_of {K : Fg} {F H : Hp} {v : V} {x : Int × Int} (s : Same F H) (r : rep K F v x) : ∃ t, v = .ref t ∧ F t = some (.tup [.int x.1, .int x.2]) ∧ keyP H v = x := by
  obtain ⟨t, u, z, rfl, q, r1, r2⟩ := r
  obtain rfl : u = V.int x.1 := r1
  obtain rfl : z = V.int x.2 := r2
  refine ⟨t, rfl, q, ?_⟩
  have h := s _ _ q
  unfold keyP
  dsimp only
  rw [h]
theorem keyP_all {K : Fg} {F H : Hp} {vs : List V} {xs : List (Int × Int)} (s : Same F H) (h : A2 (rep K F) vs xs) : xs = vs.map (keyP H) ∧ ∀ v ∈ vs, ∃ t, v = .ref t ∧ F t = some (.tup [.int (keyP H v).1, .int (keyP H v).2]) := by
  induction h with
  | nil => exact ⟨rfl, fun _ z => nomatch z⟩
  | cons a b ih =>
    obtain ⟨t, e, q, k⟩ := keyP_of s a
    refine ⟨by rw [List.map_cons, k, ← ih.1], fun v hv => ?_⟩
    rcases List.mem_cons.mp hv with rfl | hv
    · exact ⟨t, e, by rw [k]; exact q⟩
    · exact ih.2 v hv
theorem rep_keys {K : Fg} {F H : Hp} : ∀ {ys : List V}, (∀ v ∈ ys, ∃ t, v = V.ref t ∧ F t = some (.tup [.int (keyP H v).1, .int (keyP H v).2])) → A2 (rep K F) ys (ys.map (keyP H))
  | [], _ => .nil
  | v :: ys, h => by
    obtain ⟨t, e, q⟩ := h v List.mem_cons_self
    refine .cons ?_ (rep_keys fun y hy => h y (List.mem_cons_of_mem _ hy))
    subst e
    exact ⟨t, _, _, rfl, q, rfl, rfl⟩
theorem cr_sortP {K : Fg} (hK : X.K = K) : CallR X (.builtin "sorted") (fun vs H Q => ∃ (a : Addr) (us : List V) (F : Hp) (xs : List (Int × Int)), vs = [V.ref a] ∧ SqL K H a us ∧ Same F H ∧ A2 (rep K F) us xs ∧
    ∀ p ys, H p = none → A2 (rep K F) ys (sortP xs) → Q (.ref p) (upd H p (.lst ys))) := by
  subst hK
  intro pins s σ H vs us Q I r h
  obtain ⟨a, us', F, xs, rfl, hs, sF, hA, q⟩ := h
  obtain ⟨e1, e2⟩ := keyP_all sF hA
  refine cr_sortedPO pins s σ H _ us Q I r ⟨a, us', keyP H, rfl, hs, fun x hx => ?_, fun ys p h1 h2 hp => q p ys hp ?_⟩
  · obtain ⟨t, e, k⟩ := e2 x hx
    exact ⟨t, e, sF _ _ k⟩
  · have e : ys.map (keyP H) = sortP xs := by
      refine sortP_eq ?_ ?_
      · rw [e1]
        exact h2.perm.map _
      · rw [List.pairwise_map]
        refine h1.imp fun {x y} h => ?_
        have h := SrtO.lexB_no.mp h
        unfold leP
        rw [decide_eq_true_eq]
        omega
    rw [← e]
    exact rep_keys fun v hv => e2 v (h2.perm.mem_iff.mp hv)
end
/-! ### dicts of scalars -/
section
variable {κ β γ δ : Type} [DecidableEq κ]
def mput (m : List (κ × β)) (k : κ) (v : β) : List (κ × β) := if (m.any fun p => decide (p.1 = k)) = true then m.map (fun p => if p.1 = k then (p.1, v) else p) else m ++ [(k, v)]
def mhas (m : List (κ × β)) (k : κ) : Bool := m.any fun p => decide (p.1 = k)
def mget (m : List (κ × β)) (k : κ) : Option β := (m.find? fun p => decide (p.1 = k)).map (·.2)
/-- as the dict stands -/
def encM (e : κ → γ) (ev : β → V) (m : List (κ × β)) : List (γ × V) := m.map fun p => (e p.1, ev p.2)
variable [DecidableEq γ] {e : κ → γ} {ev : β → V}
end
abbrev kI : Int → Key := .inl
/-! ### list(range(n)) -/
@[irreducible] def listRng (i j : Int) : R (List Int) := if -(2 ^ 62) ≤ i ∧ i < 2 ^ 62 ∧ -(2 ^ 62) ≤ j ∧ j < 2 ^ 62 ∧ (j - i).toNat ≤ 100000 then .ok (rng i j) else .bad
theorem rgV_eq (i j : Int) : rgV i j = (rng i j).map V.int := by
  unfold rgV rng
  rw [List.map_map]
  rfl
theorem pb_lrng {δ : Type} {i j : Int} {f : List Int → R δ} {P : δ → Prop} {E : Exn → Prop} (h : Post (listRng i j >>= f) P E) : ∃ l, RgOk i j ∧ l = rng i j ∧ Post (f l) P E := by
  unfold listRng at h
  by_cases hl : -(2 ^ 62) ≤ i ∧ i < 2 ^ 62 ∧ -(2 ^ 62) ≤ j ∧ j < 2 ^ 62 ∧ (j - i).toNat ≤ 100000
  · rw [if_pos hl] at h
    obtain ⟨a, b, c, d, e⟩ := hl
    exact ⟨_, ⟨a, b, c, d, by omega⟩, rfl, h⟩
  · rw [if_neg hl] at h
    exact (show False from h).elim
/-! ### a list of perhaps nothing, where nothing is nothing -/
def allS {α : Type} : List (Option α) → R (List α)
  | [] => .ok []
  | none :: _ => .bad
  | some x :: xs => allS xs >>= fun ys => .ok (x :: ys)
theorem allS_iff {α : Type} : ∀ {xs : List (Option α)} {ys : List α}, allS xs = R.ok ys ↔ xs = ys.map some
  | [], ys => by
    constructor
    · intro h; cases h; rfl
    · intro h
      cases ys with
      | nil => rfl
      | cons => cases h
  | none :: xs, ys => by
    constructor
    · intro h; cases h
    · intro h
      cases ys <;> cases h
  | some x :: xs, ys => by
    constructor
    · intro h
      obtain ⟨zs, e, h⟩ := bind_ok_iff.mp h
      cases h
      rw [allS_iff.mp e]
      rfl
    · intro h
      cases ys with
      | nil => cases h
      | cons y ys =>
        rw [List.map_cons] at h
        injection h with h1 h2
        cases h1
        show (allS xs >>= fun ys => R.ok (x :: ys)) = _
        rw [allS_iff.mpr h2]
        rfl
theorem pb_allS {α δ : Type} {xs : List (Option α)} {f : List α → R δ} {P : δ → Prop} {E : Exn → Prop} (h : Post (allS xs >>= f) P E) : ∃ ys, xs = ys.map some ∧ Post (f ys) P E := by
  cases e : allS xs with
  | ok ys =>
    rw [e] at h
    exact ⟨ys, allS_iff.mp e, h⟩
  | exc x =>
    rw [e] at h
    exfalso
    clear h
    induction xs with
    | nil => cases e
    | cons x xs ih =>
      cases x with
      | none => cases e
      | some x =>
        have e' : (allS xs >>= fun ys => R.ok (x :: ys)) = R.exc _ := e
        cases e2 : allS xs with
        | ok y => rw [e2] at e'; cases e'
        | exc y => rw [e2] at e'; cases e'; exact ih e2
        | bad => rw [e2] at e'; cases e'
  | bad =>
    rw [e] at h
    exact (show False from h).elim
theorem A2.unsome {α : Type} [Rep α] {K : Fg} {F : Hp} : ∀ {vs : List V} {ys : List α}, A2 (rep K F) vs (ys.map some) → A2 (rep K F) vs ys
  | [], [], _ => .nil
  | _ :: _, [], h => nomatch h
  | [], _ :: _, h => nomatch h
  | _ :: _, _ :: _, .cons a b => .cons a (A2.unsome b)
/-! ### pop -/
/-! ### in, of a dict of scalars -/
theorem Room.units1 {k : Nat} {A : Around} (r : Room k A) : A.units + 1 < cLine := by
  have := r.un
  omega
end Z
/-! ZX: an exception caught by its class, held behind the suite as a thing of its own -/
namespace L2
open PySem PySem.Spec PyProof.Rows
/-- a caught exception of the class cls at a -/
def ExH (cls : Value) (a : Addr) : HO := .ext fun h => ∃ (oe : Obj), h.get? a = some oe ∧ Zc cls none oe ∧ ∃ vs, oe.data = .fields vs
section
variable {X : Cx} {pins : List (Addr × Obj)} {σ : St} {H : Hp} {s : Shared}
variable {x n : Str} {c : Value} {i : Nat} {body suite : List Stmt} {b₀ : Stmt} {np pos pos' : Pos} {tb : WX → TS} {ts : Addr → Value → TS} {Wout : WX}
/-- isinstance(e, c) of a handled exception, in its suite -/
def rIsEX (K : PySem.W.Frag) (cls : Value) (d : Option Addr) (a : Addr) : List V → Hp → VK → Prop := fun xs H Q => ∃ D, cls = .ref D ∧ d = none ∧ ExcC K D ∧ ∃ (c : V) (cv : Value) (b : Bool), xs = [.ref a, c] ∧ (∀ u, RelV c u → u = cv) ∧ PySem.W.kitOne K (.ref D) cv = some b ∧ Q (.bl b) H
theorem call_isEX {K : PySem.W.Frag} {a : Addr} {cls : Value} {d : Option Addr} {oe : Obj} {pn : List (Addr × Obj)} (hK : X.K = K) (hz : Zc cls d oe) (hf : ∃ vs, oe.data = .fields vs) : CallR (X.suite a ((a, oe) :: pn)) (.builtin "isinstance") (rIsEX K cls d a) := by
  subst hK
  intro pins s σ H xs us Q I r ⟨D, e1, e2, C, h⟩
  subst e1 e2
  exact call_isE C hz hf pins s σ H xs us Q I r h
end
end L2
namespace Z
open PySem L2
open Rep (rep)
/-- the class that a name of the text names -/
def Nm (K : Fg) (x : Str) (C : Addr) : Prop := PySem.W.nsIn K mainGlobals x = some (some (.ref C))
theorem Nm.uniq {K : Fg} {x : Str} {C D : Addr} (a : Nm K x C) (b : Nm K x D) : C = D := by
  have h := a.symm.trans b
  injection h with h
  injection h with h
  injection h
instance repExn : Rep Exn := ⟨fun K F v e => ∃ a C, v = .ref a ∧ Nm K e.cls C ∧ F a = some (ExH (.ref C) a), fun s ⟨a, C, h, n, q⟩ => ⟨a, C, h, n, s _ _ q⟩⟩
/-- what a call that lets an error out leaves -/
def RetX (K : Fg) (F : Hp) (os : List (Addr × HO)) (E : XK) : Exn → Prop := fun e => ∀ C F' H', Nm K e.cls C → W F' H' os → Same F F' → E (.ref C) none H'
/-- .. with a suite -/
def tryWith {α : Type} (names : List Str) (b : R α) (h : Exn → R α) : R α := match b with
  | .ok x => .ok x
  | .exc e => if e.cls ∈ names then h e else .bad
  | .bad => .bad
theorem post_tryWith {α : Type} {names : List Str} {b : R α} {h : Exn → R α} {P : α → Prop} {X : Exn → Prop} (q : Post (tryWith names b h) P X) : Post b P (fun e => e.cls ∈ names ∧ Post (h e) P X) := by
  cases b with
  | ok a => exact q
  | exc e =>
    have q' : Post (if e.cls ∈ names then h e else R.bad) P X := q
    by_cases c : e.cls ∈ names
    · rw [if_pos c] at q'
      exact ⟨c, q'⟩
    · rw [if_neg c] at q'
      exact (show False from q').elim
  | bad => exact q
/-- isinstance of a caught error: tn, the names under the classes asked -/
def isC (names tn : List Str) (e : Exn) : R Bool := if e.cls ∈ names then .ok (decide (e.cls ∈ tn)) else .bad
theorem pb_isC {δ : Type} {names tn : List Str} {e : Exn} {f : Bool → R δ} {P : δ → Prop} {X : Exn → Prop} (h : Post (isC names tn e >>= f) P X) : e.cls ∈ names ∧ Post (f (decide (e.cls ∈ tn))) P X := by
  unfold isC at h
  by_cases c : e.cls ∈ names
  · rw [if_pos c] at h
    exact ⟨c, h⟩
  · rw [if_neg c] at h
    exact (show False from h).elim
def raiseR {α : Type} (x : Str) : R α := .exc ⟨x, 0⟩
/-- a call that lets no error out -/
def nx {α : Type} (m : R α) : R α := match m with
  | .ok a => .ok a
  | .exc _ => .bad
  | .bad => .bad
theorem post_nx {α δ : Type} {m : R α} {k : α → R δ} {P : δ → Prop} {X : Exn → Prop} (h : Post (nx m >>= k) P X) : Post m (fun a => Post (k a) P X) noX := by
  cases m with
  | ok a => exact h
  | exc e => exact (show False from h).elim
  | bad => exact (show False from h).elim
theorem kit_ref {K : Fg} {x y : Addr} {b : Bool} (h1 : PySem.W.isClsIn K y = true) (h2 : PySem.W.typeIn K (.ref y) = some (.type "type")) (h3 : PySem.W.subIn K (.ref x) (.ref y) = some b) (h4 : b = true ∨ (Value.ref x == Value.ref y) = false) : PySem.W.kitOne K (.ref x) (.ref y) = some b := by
  have e : PySem.W.kitCls K (.ref x) (.ref y) = some b := by
    have h1' : (PySem.W.clsIn K y).isSome = true := h1
    have e2 : ((PySem.W.clsIn K y).isSome && PySem.W.typeIn K (.ref y) == some (.type "type")) = true := by rw [h1', h2] <;> rfl
    show (if ((PySem.W.clsIn K y).isSome && PySem.W.typeIn K (.ref y) == some (.type "type")) = true then PySem.W.subIn K (.ref x) (.ref y) else none) = some b
    rw [if_pos e2]
    exact h3
  unfold PySem.W.kitOne
  rcases h4 with rfl | h4
  · rw [e]
    split <;> rfl
  · rw [h4, if_neg (by decide)]
    exact e
theorem kit_ty {K : Fg} {x : Addr} {T : String} {b : Bool} (h1 : PySem.W.kitMeta T = true) (h3 : PySem.W.subIn K (.ref x) (.type T) = some b) : PySem.W.kitOne K (.ref x) (.type T) = some b := by
  have e : PySem.W.kitCls K (.ref x) (.type T) = some b := by
    show (if PySem.W.kitMeta T = true then PySem.W.subIn K (.ref x) (.type T) else none) = some b
    rw [if_pos h1]
    exact h3
  unfold PySem.W.kitOne
  have h4 : (Value.ref x == Value.type T) = false := rfl
  rw [h4, if_neg (by decide)]
  exact e
/-- what is known of an own error class -/
structure XC (K : Fg) (mg : Str → Option Value) (x : Str) (C : Addr) : Prop where
  ns : Nm K x C
  gm : mg x = some (.ref C)
  xc : PySem.W.excIn K C [.type "ValueError", .type "Exception", .type "BaseException", .type "object"] "ValueError.__new__" = true
  kp : PySem.W.keepIn K (.ref C) = true
  b : PySem.W.subIn K (.ref C) (.type "BaseException") = some true
  t : PySem.W.typeIn K (.ref C) = some (.type "type")
  ex : ExcC K C
end Z
/-! Z5: regions: lists of one's own by their number in a store -/
namespace Z
open PySem L2
open Rep (rep)
/-! ### two lists, item by item -/
inductive F2 {α β : Type} (r : α → β → Prop) : List α → List β → Prop
  | nil : F2 r [] []
  | cons {a : α} {b : β} {as : List α} {bs : List β} : r a b → F2 r as bs → F2 r (a :: as) (b :: bs)
section
variable {α β : Type} {r r' : α → β → Prop} {as : List α} {bs : List β}
theorem F2.length : ∀ {as : List α} {bs : List β}, F2 r as bs → as.length = bs.length
  | _, _, .nil => rfl
  | _, _, .cons _ t => by rw [List.length_cons, List.length_cons, F2.length t]
theorem F2.imp (f : ∀ a b, r a b → r' a b) : ∀ {as : List α} {bs : List β}, F2 r as bs → F2 r' as bs
  | _, _, .nil => .nil
  | _, _, .cons h t => .cons (f _ _ h) (F2.imp f t)
theorem F2.get : ∀ {as : List α} {bs : List β} {i : Nat} {b : β}, F2 r as bs → bs[i]? = some b → ∃ a, as[i]? = some a ∧ r a b
  | _, _, _, _, .nil, e => by simp at e
  | _, _, 0, _, .cons h _, e => by simp at e; subst e; exact ⟨_, rfl, h⟩
  | _, _, i + 1, b, .cons _ t, e => by
    obtain ⟨v, h1, h2⟩ := F2.get (i := i) (b := b) t (by simpa using e)
    exact ⟨v, by simpa using h1, h2⟩
theorem F2.set {a : α} {b : β} (h : r a b) : ∀ {as : List α} {bs : List β} (i : Nat), F2 r as bs → F2 r (as.set i a) (bs.set i b)
  | _, _, _, .nil => .nil
  | _, _, 0, .cons _ t => .cons h t
  | _, _, i + 1, .cons q t => .cons q (F2.set h i t)
theorem F2.append : ∀ {as as' : List α} {bs bs' : List β}, F2 r as bs → F2 r as' bs' → F2 r (as ++ as') (bs ++ bs')
  | _, _, _, _, .nil, h => h
  | _, _, _, _, .cons a t, h => .cons a (F2.append t h)
theorem F2.snoc {a : α} {b : β} (h : F2 r as bs) (q : r a b) : F2 r (as ++ [a]) (bs ++ [b]) := h.append (.cons q .nil)
end
/-! ### a store's lists: cells -/
def nz : List Addr → List (List V) → List (Addr × HO)
  | a :: as, vs :: vss => (a, .lst vs) :: nz as vss
  | _, _ => []
theorem nz_split : ∀ {as : List Addr} {vss : List (List V)} {j : Nat} {a : Addr} {vs : List V}, as[j]? = some a → vss[j]? = some vs →
    ∃ x y, nz as vss = x ++ (a, .lst vs) :: y ∧ ∀ us, nz as (vss.set j us) = x ++ (a, .lst us) :: y
  | [], _, j, _, _, h, _ => by simp at h
  | _ :: _, [], j, _, _, _, h => by simp at h
  | b :: as, ws :: vss, 0, a, vs, h1, h2 => by
    simp at h1 h2
    subst h1 h2
    exact ⟨[], nz as vss, rfl, fun _ => rfl⟩
  | b :: as, ws :: vss, j + 1, a, vs, h1, h2 => by
    obtain ⟨x, y, e1, e2⟩ := nz_split (as := as) (vss := vss) (j := j) (a := a) (vs := vs) (by simpa using h1) (by simpa using h2)
    exact ⟨(b, .lst ws) :: x, y, by show (b, HO.lst ws) :: nz as vss = _; rw [e1]; rfl, fun us => by show (b, HO.lst ws) :: nz as (vss.set j us) = _; rw [e2]; rfl⟩
theorem nz_snoc : ∀ {as : List Addr} {vss : List (List V)} {a : Addr} {vs : List V}, as.length = vss.length → nz (as ++ [a]) (vss ++ [vs]) = nz as vss ++ [(a, .lst vs)]
  | [], [], _, _, _ => rfl
  | [], _ :: _, _, _, h => by simp at h
  | _ :: _, [], _, _, h => by simp at h
  | b :: as, ws :: vss, a, vs, h => by
    show (b, HO.lst ws) :: nz (as ++ [a]) (vss ++ [vs]) = (b, HO.lst ws) :: (nz as vss ++ [(a, .lst vs)])
    rw [nz_snoc (by simpa using h)]
section
variable {F H : Hp} {os os' pre post : List (Addr × HO)} {a p : Addr} {o : HO} {as : List Addr} {vss : List (List V)} {j : Nat} {vs : List V}
theorem W.perm (h : os.Perm os') (w : W F H os) : W F H os' where
  same := w.same
  own := fun q hq => w.own q (h.mem_iff.mpr hq)
  nd := h.pairwise_iff (fun e q => e q.symm) |>.mp w.nd
  nt := fun q hq => w.nt q (h.mem_iff.mpr hq)
/-- the j-th list of a store -/
theorem W.nget (w : W F H (pre ++ (nz as vss ++ post))) (h1 : as[j]? = some a) (h2 : vss[j]? = some vs) : H a = some (.lst vs) := by
  obtain ⟨x, y, e, _⟩ := nz_split h1 h2
  rw [e] at w
  exact (w.own (a, .lst vs) (by simp)).1
theorem W.nset (w : W F H (pre ++ (nz as vss ++ post))) (us : List V) (h1 : as[j]? = some a) (h2 : vss[j]? = some vs) : W F (upd H a (.lst us)) (pre ++ (nz as (vss.set j us) ++ post)) := by
  obtain ⟨x, y, e, e2⟩ := nz_split h1 h2
  rw [e] at w
  rw [e2]
  have w' : W F H ((pre ++ x) ++ (a, .lst vs) :: (y ++ post)) := by
    have e3 : pre ++ (x ++ (a, HO.lst vs) :: y ++ post) = (pre ++ x) ++ (a, HO.lst vs) :: (y ++ post) := by simp
    rw [← e3]
    exact w
  have w2 := w'.set (o' := .lst us)
  have e3 : pre ++ (x ++ (a, HO.lst us) :: y ++ post) = (pre ++ x) ++ (a, HO.lst us) :: (y ++ post) := by simp
  rw [e3]
  exact w2
/-- a cell goes into a store -/
theorem W.nadd (w : W F H ((p, .lst vs) :: (pre ++ (nz as vss ++ post)))) (hl : as.length = vss.length) : W F H (pre ++ (nz (as ++ [p]) (vss ++ [vs]) ++ post)) := by
  rw [nz_snoc hl]
  refine w.perm ?_
  have e : pre ++ (nz as vss ++ [(p, HO.lst vs)] ++ post) = (pre ++ nz as vss) ++ (p, HO.lst vs) :: post := by simp
  have e2 : (p, HO.lst vs) :: (pre ++ (nz as vss ++ post)) = (p, HO.lst vs) :: ((pre ++ nz as vss) ++ post) := by simp
  rw [e, e2]
  exact List.perm_middle.symm
theorem W.dropL (w : W F H (pre ++ (os ++ post))) : W F H (pre ++ post) where
  same := w.same
  own := fun q hq => w.own q (by
    rcases List.mem_append.mp hq with h | h
    · exact List.mem_append_left _ h
    · exact List.mem_append_right _ (List.mem_append_right _ h))
  nd := by
    have nd := w.nd
    rw [List.pairwise_append] at nd ⊢
    obtain ⟨n1, n2, n3⟩ := nd
    rw [List.pairwise_append] at n2
    exact ⟨n1, n2.2.1, fun x hx y hy => n3 x hx y (List.mem_append_right _ hy)⟩
  nt := fun q hq => w.nt q (by
    rcases List.mem_append.mp hq with h | h
    · exact List.mem_append_left _ h
    · exact List.mem_append_right _ (List.mem_append_right _ h))
end
/-! ### what stands in a store -/
section
variable {α β δ : Type} [Rep α] [Rep β] {K : Fg} {F F' H : Hp} {as as' : List Addr} {vss : List (List V)} {st : List (List α)}
structure Sto (K : Fg) (F : Hp) (as : List Addr) (vss : List (List V)) (st : List (List α)) : Prop where
  len : as.length = vss.length
  all : F2 (A2 (rep K F)) vss st
theorem Sto.nil : Sto K F [] [] ([] : List (List α)) := ⟨rfl, .nil⟩
theorem Sto.mono (s : Same F F') (h : Sto K F as vss st) : Sto K F' as vss st := ⟨h.len, h.all.imp fun _ _ q => q.mono s⟩
theorem Sto.len2 (h : Sto K F as vss st) : as.length = st.length := h.len.trans h.all.length
theorem Sto.get {j : Nat} {xs : List α} (h : Sto K F as vss st) (e : st[j]? = some xs) : ∃ a vs, as[j]? = some a ∧ vss[j]? = some vs ∧ A2 (rep K F) vs xs := by
  obtain ⟨vs, h1, h2⟩ := h.all.get e
  have hj := (List.getElem?_eq_some_iff.mp e).1
  rw [← h.len2] at hj
  exact ⟨as[j], vs, List.getElem?_eq_getElem hj, h1, h2⟩
theorem Sto.set {j : Nat} {vs : List V} {xs : List α} (h : Sto K F as vss st) (q : A2 (rep K F) vs xs) : Sto K F as (vss.set j vs) (st.set j xs) := ⟨by rw [List.length_set]; exact h.len, h.all.set q j⟩
theorem Sto.snoc {p : Addr} {vs : List V} {xs : List α} (h : Sto K F as vss st) (q : A2 (rep K F) vs xs) : Sto K F (as ++ [p]) (vss ++ [vs]) (st ++ [xs]) := ⟨by simp [h.len], h.all.snoc q⟩
/-- a number in a store -/
abbrev Ix := Nat
def RX (as : List Addr) (v : V) (j : Ix) : Prop := ∃ a, v = .ref a ∧ as[j]? = some a
theorem RX.mono (h : as <+: as') {v : V} {j : Ix} (q : RX as v j) : RX as' v j := by
  obtain ⟨a, e, q⟩ := q
  obtain ⟨t, rfl⟩ := h
  refine ⟨a, e, ?_⟩
  rw [List.getElem?_append_left (List.getElem?_eq_some_iff.mp q).1]
  exact q
theorem RX.new (h : as.length = n) {p : Addr} : RX (as ++ [p]) (.ref p) n := ⟨p, rfl, by rw [List.getElem?_append_right (by omega), ← h]; simp⟩
theorem IQ.mono (h : as <+: as') {a : Addr} {j : Nat} (q : as[j]? = some a) : as'[j]? = some a := by
  obtain ⟨t, rfl⟩ := h
  rw [List.getElem?_append_left (List.getElem?_eq_some_iff.mp q).1]
  exact q
theorem IQ.new {n : Nat} (h : as.length = n) {p : Addr} : (as ++ [p])[n]? = some p := by
  rw [List.getElem?_append_right (by omega), ← h]
  simp
theorem pfx_trans {as2 : List Addr} (h : as <+: as') (h' : as' <+: as2) : as <+: as2 := h.trans h'
theorem Sto.getq {j : Nat} {xs : List α} {a : Addr} (h : Sto K F as vss st) (e : st[j]? = some xs) (q : as[j]? = some a) : ∃ vs, vss[j]? = some vs ∧ A2 (rep K F) vs xs := h.all.get e
theorem pfx_refl : as <+: as := List.prefix_refl _
theorem pfx_snoc {p : Addr} : as <+: as ++ [p] := List.prefix_append _ _
/-- the list of a number -/
def getS (st : List (List α)) (j : Ix) : R (List α) := ofO st[j]?
theorem pb_getS {st : List (List α)} {j : Ix} {f : List α → R δ} {P : δ → Prop} {E : Exn → Prop} (h : Post (getS st j >>= f) P E) : ∃ xs, st[j]? = some xs ∧ Post (f xs) P E := pb_ofO h
/-- .. another list in its place -/
def setS (st : List (List α)) (j : Ix) (ys : List α) : R (List (List α)) := .ok (st.set j ys)
theorem pn_setS {st : List (List α)} {j : Ix} {ys : List α} {f : List (List α) → R δ} {P : δ → Prop} {E : Exn → Prop} (h : Post (setS st j ys >>= f) P E) : ∃ st', st' = st.set j ys ∧ Post (f st') P E := ⟨_, rfl, h⟩
/-- .. a new one -/
def newS (st : List (List α)) (ys : List α) : R (Ix × List (List α)) := .ok (st.length, st ++ [ys])
theorem pn_newS {st : List (List α)} {ys : List α} {f : Ix × List (List α) → R δ} {P : δ → Prop} {E : Exn → Prop} (h : Post (newS st ys >>= f) P E) : ∃ j st', j = st.length ∧ st' = st ++ [ys] ∧ Post (f (j, st')) P E := ⟨_, _, rfl, rfl, h⟩
end
section
variable {K : Fg} {F : Hp} {a : Addr} {β : Type} {vs : List V} {xs : List β} {r : V → β → Prop}
theorem tw_listR (h : A2 r vs xs) : TW (Itl K a) xs (fun H => SqL K H a vs) (fun b H x H' => H' = H ∧ r x b) := ⟨by
  rw [← h.length]
  exact walk_list.mono (fun _ g => g) fun i H x H' _ _ y => by
    obtain ⟨y1, y2⟩ := y
    obtain ⟨b, h1, h2⟩ := h.getV y2
    exact ⟨b, h1, y1, h2⟩⟩
end
/-! ### comprehensions, what is made told by the state -/
section
variable {J : It} {β γ δ ε : Type} {items : List β} {G : Hp → Prop} {Y : β → Hp → V → Hp → Prop} {g : TG} {tt : TT} {te : TE} {P : ε → Prop} {X : Exn → Prop} {K : Fg} {vs : List Nat} {σ : St} {F H1 : Hp} {os : List (Addr × HO)} {D : Addr} {Qd : Hp → Prop}
theorem lcG (tw : TW J items G Y) {f : γ → β → R (Option δ × γ)} {s0 : γ} {k : List δ × γ → R ε} (hm : Post (filStG f s0 items >>= k) P X) (O : γ → Hp → List (Addr × HO) → List V → List δ → Prop) (w : W F H1 os) (o0 : O s0 F os [] []) (nD : H1 D = none)
    (hl : ∀ c F' os' us ys, O c F' os' us ys → us.length = ys.length)
    (hG : ∀ c F' H' os' acc ys, Same F F' → W F' H' ((D, .lst acc) :: os') → O c F' os' acc ys → G H')
    (hs : ∀ (b : β) (c : γ) (x : V) (F' H' H'' : Hp) (os' : List (Addr × HO)) (acc : List V) (ys : List δ) (N : V → Hp → Prop) (N0 : Hp → Prop) (P' : Option δ × γ → Prop), Same F F' → W F' H' ((D, .lst acc) :: os') → O c F' os' acc ys → Y b H' x H'' →
      (∀ d c', P' (some d, c') → ∀ y F'' H'' os'', W F'' H'' ((D, .lst acc) :: os'') → Same F' F'' → O c' F'' os'' (acc ++ [y]) (ys ++ [d]) → N y H'') →
      (∀ c', P' (none, c') → ∀ F'' H'' os'', W F'' H'' ((D, .lst acc) :: os'') → Same F' F'' → O c' F'' os'' acc ys → N0 H'') → Post (f c b) P' X →
      g x (wipe σ vs) H'' fun σ2 H2 => wipe σ2 vs = wipe σ vs ∧ tt σ2 H2 fun b H3 => if b = true then te σ2 H3 N else N0 H3)
    (hd : ∀ c us F' H' os' ys, Same F F' → W F' H' ((D, .lst us) :: os') → O c F' os' us ys → Post (k (ys, c)) P X → Qd H') : LcAsk J g tt te vs σ H1 D Qd := by
  obtain ⟨hlen, hm⟩ := pb_grd (pb_assoc hm)
  have hlen : items.length < sizeLine := Nat.lt_of_lt_of_le (of_decide_eq_true hlen) line5
  refine lc_it tw.walk (fun i H => ∃ c F' os' us ys, i ≤ items.length ∧ Same F F' ∧ W F' H ((D, .lst us) :: os') ∧ O c F' os' us ys ∧ ys.length ≤ i ∧ Post (filSt f c (items.drop i) >>= fun q => k (ys ++ q.1, q.2)) P X) ?_ ?_ ?_ ?_
  · exact ⟨s0, F, os, [], [], Nat.zero_le _, Same.refl _, w.new nD, o0, Nat.le_refl _, hm⟩
  · rintro i H _ ⟨c, F', os', us, ys, _, s, w', o, _⟩
    exact hG c F' H os' us ys s w' o
  · rintro i x H H' hi ⟨c, F', os', us, ys, _, s, w', o, hl2, hm⟩ ⟨b, hb, y⟩
    rw [drop_cons hb] at hm
    have hm' : Post ((f c b >>= fun p => filSt f p.2 (items.drop (i + 1)) >>= fun q => match p.1 with
      | some y => (R.ok (y :: q.1, q.2) : R (List δ × γ))
      | none => R.ok q) >>= fun q => k (ys ++ q.1, q.2)) P X := hm
    rw [bind_bind] at hm'
    have hm2 := post_bind hm'
    have hul : us.length = ys.length := hl _ _ _ _ _ o
    refine hs b c x F' H H' os' us ys (fun y H4 => ∃ acc, H4 D = some (.lst acc) ∧ acc.length < sizeLine ∧ _) _ _ s w' o y ?_ ?_ hm2
    · intro d c' p2 y F'' H'' os'' w2 s2 o2
      refine ⟨us, w2.get (pre := []), by omega, c', F'', os'', us ++ [y], ys ++ [d], hi, s.trans s2, w2.set (pre := []), o2, by rw [List.length_append, List.length_singleton]; omega, ?_⟩
      have p3 : Post ((filSt f c' (items.drop (i + 1)) >>= fun q => (R.ok (d :: q.1, q.2) : R (List δ × γ))) >>= fun q => k (ys ++ q.1, q.2)) P X := p2
      rw [bind_bind] at p3
      have e : (fun q : List δ × γ => (R.ok (d :: q.1, q.2) : R (List δ × γ)) >>= fun q => k (ys ++ q.1, q.2)) = fun q => k (ys ++ [d] ++ q.1, q.2) := by
        funext q
        show k (ys ++ (d :: q.1), q.2) = k (ys ++ [d] ++ q.1, q.2)
        rw [List.append_assoc]
        rfl
      rw [e] at p3
      exact p3
    · intro c' p2 F'' H'' os'' w2 s2 o2
      refine ⟨c', F'', os'', us, ys, hi, s.trans s2, w2, o2, by omega, ?_⟩
      have p3 : Post ((filSt f c' (items.drop (i + 1)) >>= fun q => (R.ok q : R (List δ × γ))) >>= fun q => k (ys ++ q.1, q.2)) P X := p2
      rw [bind_bind] at p3
      exact p3
  · rintro H ⟨c, F', os', us, ys, _, s, w', o, _, hm⟩
    rw [List.drop_length] at hm
    have hm' : Post (k (ys ++ [], c)) P X := hm
    rw [List.append_nil] at hm'
    exact hd c us F' H os' ys s w' o hm'
theorem lcGM (tw : TW J items G Y) {f : γ → β → R (δ × γ)} {s0 : γ} {k : List δ × γ → R ε} (hm : Post (mapStG f s0 items >>= k) P X) (O : γ → Hp → List (Addr × HO) → List V → List δ → Prop) (w : W F H1 os) (o0 : O s0 F os [] []) (nD : H1 D = none)
    (hl : ∀ c F' os' us ys, O c F' os' us ys → us.length = ys.length)
    (hG : ∀ c F' H' os' acc ys, Same F F' → W F' H' ((D, .lst acc) :: os') → O c F' os' acc ys → G H')
    (hs : ∀ (b : β) (c : γ) (x : V) (F' H' H'' : Hp) (os' : List (Addr × HO)) (acc : List V) (ys : List δ) (N : V → Hp → Prop) (P' : δ × γ → Prop), Same F F' → W F' H' ((D, .lst acc) :: os') → O c F' os' acc ys → Y b H' x H'' →
      (∀ d c', P' (d, c') → ∀ y F'' H'' os'', W F'' H'' ((D, .lst acc) :: os'') → Same F' F'' → O c' F'' os'' (acc ++ [y]) (ys ++ [d]) → N y H'') → Post (f c b) P' X →
      g x (wipe σ vs) H'' fun σ2 H2 => wipe σ2 vs = wipe σ vs ∧ te σ2 H2 N)
    (hd : ∀ c us F' H' os' ys, Same F F' → W F' H' ((D, .lst us) :: os') → O c F' os' us ys → Post (k (ys, c)) P X → Qd H') : LcAsk J g tYes te vs σ H1 D Qd := by
  have e : ∀ (s : γ) (l : List β), filSt (fun c b => f c b >>= fun p => R.ok (some p.1, p.2)) s l = mapSt f s l := by
    intro s l
    induction l generalizing s with
    | nil => rfl
    | cons b l ih =>
      show ((f s b >>= fun p => R.ok (some p.1, p.2)) >>= fun p => filSt (fun c b => f c b >>= fun p => R.ok (some p.1, p.2)) p.2 l >>= fun q => match p.1 with
        | some y => (R.ok (y :: q.1, q.2) : R (List δ × γ))
        | none => R.ok q) = (f s b >>= fun p => mapSt f p.2 l >>= fun q => .ok (p.1 :: q.1, q.2))
      rw [bind_bind]
      refine congrArg (f s b >>= ·) ?_
      funext p
      show (filSt (fun c b => f c b >>= fun p => R.ok (some p.1, p.2)) p.2 l >>= fun q => (R.ok (p.1 :: q.1, q.2) : R (List δ × γ))) = _
      rw [ih]
  have hm' : Post (filStG (fun c b => f c b >>= fun p => R.ok (some p.1, p.2)) s0 items >>= k) P X := by
    unfold filStG
    simp only [e]
    exact hm
  refine lcG tw hm' O w o0 nD hl hG (fun b c x F' H' H'' os' acc ys N N0 P' s w' o y hN hN0 hp => ?_) hd
  exact hs b c x F' H' H'' os' acc ys N _ s w' o y (fun d c' p2 y F'' H'' os'' w2 s2 o2 => hN d c' p2 y F'' H'' os'' w2 s2 o2) (post_bind hp)
end
end Z
/-! Z6: constants of the module, things, dicts as written and asked -/
namespace Z
open PySem L2
open Rep (rep)
section
variable {X : Cx}
theorem pe_globI {x : Str} {n : Int} {pos : Pos} (hg : Gl X x) (h : ∃ t, X.mg x = some (.int n t)) (hd : (x == ("__debug__" : Str)) = false := by decide) : PE X (.Name x pos) (tC (.int n)) := by
  obtain ⟨t, e⟩ := h
  exact pe_glob hg e ⟨_, rfl⟩ hd
theorem call_intB : CallR X (.type "int") (fun xs H Q => ∃ k, xs = [.bl k] ∧ Q (.int (if k = true then 1 else 0)) H) := by
  intro pins s σ H xs us Q I r ⟨k, e, q⟩
  exact call_int1 pins s σ H xs us Q I r (.inr ⟨k, e, q⟩)
end
/-- a while's fuel, not to be reckoned with -/
@[irreducible] def fu (n : Nat) : Nat := n
theorem fu_eq (n : Nat) : fu n = n := by
  unfold fu
  rfl
/-- x in l -/
abbrev inB {α : Type} [DecidableEq α] (x : α) (l : List α) : Bool := decide (x ∈ l)
theorem inB_t {α : Type} [DecidableEq α] {x : α} {l : List α} : inB x l = true ↔ x ∈ l := decide_eq_true_iff
theorem inB_f {α : Type} [DecidableEq α] {x : α} {l : List α} : inB x l = false ↔ x ∉ l := decide_eq_false_iff_not
def b2i (b : Bool) : Int := if b = true then 1 else 0
/-! ### things -/
def Thing.isPl : Thing → Bool
  | .pl _ => true
  | .ti _ _ => false
def asPl : Thing → R Int
  | .pl i => .ok i
  | .ti _ _ => .bad
def asTi : Thing → R (Int × Int)
  | .pl _ => .bad
  | .ti a b => .ok (a, b)
def mkpl (xs : List Int) : List Thing := xs.map Thing.pl
def mkti (xs : List (Int × Int)) : List Thing := xs.map fun p => Thing.ti p.1 p.2
section
variable {δ : Type} {P : δ → Prop} {E : Exn → Prop} {K : Fg} {F H : Hp}
theorem pb_asPl {t : Thing} {f : Int → R δ} (h : Post (asPl t >>= f) P E) : ∃ i, t = .pl i ∧ Post (f i) P E := by
  cases t with
  | pl i => exact ⟨i, rfl, h⟩
  | ti a b => exact (show False from h).elim
theorem pb_asTi {t : Thing} {f : Int × Int → R δ} (h : Post (asTi t >>= f) P E) : ∃ q : Int × Int, t = .ti q.1 q.2 ∧ Post (f q) P E := by
  cases t with
  | pl i => exact (show False from h).elim
  | ti a b => exact ⟨(a, b), rfl, h⟩
theorem A2.pl : ∀ {vs : List V} {xs : List Int}, A2 (rep K F) vs xs → A2 (rep K F) vs (mkpl xs)
  | _, _, .nil => .nil
  | _, _, .cons h t => .cons h (A2.pl t)
theorem A2.ti : ∀ {vs : List V} {xs : List (Int × Int)}, A2 (rep K F) vs xs → A2 (rep K F) vs (mkti xs)
  | _, _, .nil => .nil
  | _, _, .cons h t => .cons h (A2.ti t)
theorem th_ty (s : Same F H) {v : V} {t : Thing} (r : rep K F v t) : ∃ a, TyOf K H v (.type a) ∧ (a = "int" ∧ t.isPl = true ∨ a = "tuple" ∧ t.isPl = false) := by
  cases t with
  | pl i =>
    have r' : v = V.int i := r
    subst r'
    exact ⟨_, .int i, .inl ⟨rfl, rfl⟩⟩
  | ti a b =>
    obtain ⟨c, u, w, rfl, q, _⟩ := (show rep K F v (a, b) from r)
    exact ⟨_, .tup (s _ _ q), .inr ⟨rfl, rfl⟩⟩
theorem th_int (s : Same F H) {v : V} {t : Thing} (r : rep K F v t) : ∃ a, TyOf K H v (.type a) ∧ kitB a "int" = some t.isPl := by
  obtain ⟨a, h, z⟩ := th_ty s r
  rcases z with ⟨rfl, e⟩ | ⟨rfl, e⟩
  · exact ⟨_, h, by rw [e]; decide +kernel⟩
  · exact ⟨_, h, by rw [e]; decide +kernel⟩
end
/-! ### dicts of scalars: as written, asked -/
section
variable {β δ : Type} {ev : β → V} {H : Hp} {a b : Addr} {P : δ → Prop} {E : Exn → Prop}
theorem isD_t {kvs : List (List Key × V)} (e : H a = some (.dT kvs)) : IsD H a := .inr ⟨kvs, .inl e⟩
end
/-! ### tuples cut and joined -/
end Z
/-! Z7: dicts of tuple keys whose values are lists of a store; their values walked -/
namespace L2
open PySem PySem.Spec PyProof.Rows
end L2
namespace Z
open PySem L2
open Rep (rep)
/-! ### dicts by what their values stand for -/
section
variable {κ β γ : Type} [DecidableEq κ] [DecidableEq γ] {e : κ → γ} {r r' : V → β → Prop}
inductive AD (e : κ → γ) (r : V → β → Prop) : List (γ × V) → List (κ × β) → Prop
  | nil : AD e r [] []
  | cons {k : κ} {v : V} {x : β} {kvs : List (γ × V)} {m : List (κ × β)} : r v x → AD e r kvs m → AD e r ((e k, v) :: kvs) ((k, x) :: m)
theorem AD.length : ∀ {kvs : List (γ × V)} {m : List (κ × β)}, AD e r kvs m → kvs.length = m.length
  | _, _, .nil => rfl
  | _, _, .cons _ t => by rw [List.length_cons, List.length_cons, AD.length t]
theorem AD.imp (f : ∀ v x, r v x → r' v x) : ∀ {kvs : List (γ × V)} {m : List (κ × β)}, AD e r kvs m → AD e r' kvs m
  | _, _, .nil => .nil
  | _, _, .cons h t => .cons (f _ _ h) (AD.imp f t)
theorem AD.no (he : ∀ a b, e a = e b → a = b) {k : κ} : ∀ {kvs : List (γ × V)} {m : List (κ × β)}, AD e r kvs m → (valV kvs (e k)).isSome = mhas m k
  | _, _, .nil => rfl
  | _, _, .cons (k := j) (v := v) (x := x) (kvs := kvs) (m := m) h t => by
    show _ = (decide (j = k) || mhas m k)
    by_cases q : j = k
    · rw [valV_pos (congrArg e q), decide_eq_true q]; rfl
    · rw [valV_neg (fun z => q (he _ _ z)), decide_eq_false q, AD.no he t]; rfl
theorem AD.get (he : ∀ a b, e a = e b → a = b) {k : κ} {y : β} : ∀ {kvs : List (γ × V)} {m : List (κ × β)}, AD e r kvs m → mget m k = some y → ∃ v, valV kvs (e k) = some v ∧ r v y
  | _, _, .nil, h => by cases h
  | _, _, .cons (k := j) (v := v) (x := x) (kvs := kvs) (m := m) h t, g => by
    unfold mget at g
    by_cases q : j = k
    · rw [List.find?_cons_of_pos (by simpa using q)] at g
      cases g
      exact ⟨v, valV_pos (congrArg e q), h⟩
    · rw [List.find?_cons_of_neg (by simpa using q)] at g
      obtain ⟨u, h1, h2⟩ := AD.get he (k := k) t g
      exact ⟨u, by rw [valV_neg (fun z => q (he _ _ z))]; exact h1, h2⟩
theorem AD.snoc {k : κ} {v : V} {x : β} (h : r v x) : ∀ {kvs : List (γ × V)} {m : List (κ × β)}, AD e r kvs m → AD e r (kvs ++ [(e k, v)]) (m ++ [(k, x)])
  | _, _, .nil => .cons h .nil
  | _, _, .cons a t => .cons a (AD.snoc h t)
theorem AD.upd (he : ∀ a b, e a = e b → a = b) {k : κ} {v : V} {x : β} (h : r v x) : ∀ {kvs : List (γ × V)} {m : List (κ × β)}, AD e r kvs m → AD e r (kvs.map fun p => if p.1 = e k then (p.1, v) else p) (m.map fun p => if p.1 = k then (p.1, x) else p)
  | _, _, .nil => .nil
  | _, _, .cons (k := j) (v := u) (x := y) (kvs := kvs) (m := m) a t => by
    rw [List.map_cons, List.map_cons]
    by_cases q : j = k
    · subst q
      rw [if_pos rfl, if_pos rfl]
      exact .cons h (AD.upd he h t)
    · rw [if_neg q, if_neg (fun z => q (he _ _ z))]
      exact .cons a (AD.upd he h t)
theorem AD.any (he : ∀ a b, e a = e b → a = b) {k : κ} : ∀ {kvs : List (γ × V)} {m : List (κ × β)}, AD e r kvs m → (kvs.any fun p => decide (p.1 = e k)) = m.any fun p => decide (p.1 = k)
  | _, _, .nil => rfl
  | _, _, .cons (k := j) (kvs := kvs) (m := m) a t => by
    rw [List.any_cons, List.any_cons, AD.any he t]
    congr 1
    by_cases q : j = k
    · rw [q]; simp
    · rw [decide_eq_false q, decide_eq_false (fun z => q (he _ _ z))]
theorem AD.put (he : ∀ a b, e a = e b → a = b) {k : κ} {v : V} {x : β} {kvs : List (γ × V)} {m : List (κ × β)} (t : AD e r kvs m) (h : r v x) : AD e r (putK kvs (e k) v) (mput m k x) := by
  unfold putK mput
  rw [t.any he]
  by_cases q : (m.any fun p => decide (p.1 = k)) = true
  · rw [if_pos q, if_pos q]
    exact t.upd he h
  · rw [if_neg q, if_neg q]
    exact t.snoc h
end
/-- a tuple of ints as a key -/
def kT (t : Tup Int) : List Key := t.l.map Sum.inl
theorem kT_inj : ∀ a b, kT a = kT b → a = b := fun a b h => by
  have g : ∀ xs ys : List Int, (xs.map Sum.inl : List Key) = ys.map Sum.inl → xs = ys := by
    intro xs
    induction xs with
    | nil => intro ys e; cases ys <;> first | rfl | cases e
    | cons x xs ih =>
      intro ys e
      cases ys with
      | nil => cases e
      | cons y ys =>
        rw [List.map_cons, List.map_cons] at e
        injection e with e1 e2
        rw [Sum.inl.inj e1, ih ys e2]
  have : a.l = b.l := g _ _ h
  cases a
  cases b
  simp at this
  rw [this]
section
variable {K : Fg} {F H : Hp} {a b : Addr} {kvs : List (List Key × V)} {vs : List V} {t : Tup Int} {β : Type} {r : V → β → Prop} {m : List (Tup Int × β)}
theorem key_tup (s : Same F H) (q : F b = some (.tup vs)) (h : A2 (rep K F) vs t.l) : H b = some (.tup ((kT t).map kV)) := by
  have e : vs = (kT t).map kV := by
    rw [h.ints]
    unfold kT
    rw [List.map_map]
    rfl
  rw [← e]
  exact s _ _ q
end
end Z
/-! ZI: own exception classes with one field, an int: made, raised, caught, read -/
namespace L2
open PySem PySem.Spec PyProof.Rows ClX
end L2
namespace L2
open PySem PySem.Spec PyProof.Rows
section
variable {X : Cx}
/-- isinstance(e, c) of the exception that the suite holds, its dict none or a told one; c one class, or a tuple of classes -/
def rIsEY (K : PySem.W.Frag) (cls : Value) (d : Option Addr) (a : Addr) : List V → Hp → VK → Prop := fun xs H Q => ∃ D, cls = .ref D ∧ (d = none ∨ ∃ dd fs, d = some dd ∧ H dd = some (.xd fs)) ∧ ExcC K D ∧ ∃ (c : V) (b : Bool), xs = [.ref a, c] ∧
  ((∃ cv, (∀ u, RelV c u → u = cv) ∧ PySem.W.kitOne K (.ref D) cv = some b) ∨ (∃ p vs its, c = .ref p ∧ H p = some (.tup vs) ∧ (∀ us, Vals vs us → us = its) ∧ PySem.W.kitAny K (.ref D) its = some b)) ∧ Q (.bl b) H
theorem call_isEY {K : PySem.W.Frag} {a : Addr} {cls : Value} {d : Option Addr} {oe : Obj} {pn : List (Addr × Obj)} (hK : X.K = K) (hz : Zc cls d oe) (hf : ∃ vs, oe.data = .fields vs) : CallR (X.suite a ((a, oe) :: pn)) (.builtin "isinstance") (rIsEY K cls d a) := by
  subst hK
  intro pins s σ H xs us Q I r ⟨D, ecls, hd, C, c, b, exs, hc, q⟩
  subst exs
  subst ecls
  cases r with
  | cons rx rr =>
    cases rr with
    | cons rt rr =>
      cases rr
      cases rx
      obtain ⟨hget, _⟩ := I.pin (a, oe) (List.mem_append.mpr (.inl List.mem_cons_self))
      obtain ⟨vs, hv⟩ := hf
      obtain ⟨cdD, hcD, _⟩ := PySem.W.any_some C.hd
      have J : ∃ od, PySem.W.InstAt s.heap a oe D od := by
        obtain ⟨oc, od, oda, osl⟩ := oe
        obtain ⟨h1, h2⟩ := hz
        dsimp only at h1 h2 hv
        subst h1 h2 hv
        rcases hd with rfl | ⟨dd, fs, rfl, hx⟩
        · exact ⟨none, hget, rfl, rfl, trivial⟩
        · have hx' : ObjOk X.prog X.w H s.heap dd (.xd fs) := I.hok dd _ hx
          obtain ⟨mA, hns, _⟩ := hx'
          obtain ⟨od, ho, _⟩ := lookIn_ns hns
          exact ⟨some od, hget, rfl, rfl, ho⟩
      obtain ⟨od, J⟩ := J
      have Z := PySem.W.kitx_exc (x := a) (ox := oe) (od := od) (C := D) (K := X.K) (by rw [hcD]; rfl) C.hg C.hk C.hs C.ha C.hn C.ht C.hm
      have fin : ∀ tk, EP (X.suite a ((a, oe) :: pn)) pins σ Q (.bool b) { s with toks := tk } := fun tk => ⟨.bl b, H, I.kept (t' := tk) fun _ _ z => z, rfl, q⟩
      rcases hc with ⟨cv, hcv, e⟩ | ⟨p, ws, its, rfl, hp, hu, e⟩
      · have ec := hcv _ rt
        subst ec
        exact PySem.W.kia_one Z I.kIn J e (fun z => nomatch z) fin
      · cases rt
        obtain ⟨_, its', r', ob, ho, hob1, n, hob2⟩ := I.hok p _ hp
        have := hu _ r'
        subst this
        obtain ⟨oc, obd, oda, osl⟩ := ob
        dsimp only at hob1 hob2
        subst hob1 hob2
        exact PySem.W.kia_tup Z I.kIn J ho e (fun z => nomatch z) fin
end
end L2
namespace Z
open PySem L2
open Rep (rep)
/-- an error's dict, by the fields of the classes -/
def XD (fld : Str → Option Str) (F : Hp) (e : Exn) (d : Option Addr) : Prop :=
  match fld e.cls with
  | none => d = none
  | some f => ∃ a, d = some a ∧ F a = some (.xd [(f, .int e.arg)])
section
variable {fld : Str → Option Str} {F F' H H' : Hp} {e : Exn} {d : Option Addr} {K : Fg}
theorem XD.mono (s : Same F F') (h : XD fld F e d) : XD fld F' e d := by
  unfold XD at h ⊢
  cases q : fld e.cls with
  | none => rw [q] at h; exact h
  | some f =>
    rw [q] at h
    obtain ⟨a, e1, e2⟩ := h
    exact ⟨a, e1, s _ _ e2⟩
theorem XD.dict (h : XD fld F e d) (s : Same F H) : d = none ∨ ∃ dd fs, d = some dd ∧ H dd = some (.xd fs) := by
  unfold XD at h
  cases q : fld e.cls with
  | none => rw [q] at h; exact .inl h
  | some f =>
    rw [q] at h
    obtain ⟨a, e1, e2⟩ := h
    exact .inr ⟨a, _, e1, s _ _ e2⟩
theorem XD.at {f : Str} (h : XD fld F e d) (q : fld e.cls = some f) : ∃ dd, d = some dd ∧ F dd = some (.xd [(f, .int e.arg)]) := by
  unfold XD at h
  rw [q] at h
  exact h
theorem XD.no (q : fld e.cls = none) : XD fld F e none := by
  unfold XD
  rw [q]
end
end Z
/-! ZE: tuples item by item (Nt), objects of an own class (Oj), trees of tuples (Tr) -/
namespace Z
open PySem L2 PySem.Spec PyProof.Rows
open Rep (rep)
class RepL (α : Type) where
  repTs : Fg → Hp → List V → α → Prop
  mono : ∀ {K : Fg} {H H' : Hp} {vs : List V} {x : α}, Same H H' → repTs K H vs x → repTs K H' vs x
open RepL (repTs)
instance repLU : RepL Unit := ⟨fun _ _ vs _ => vs = [], fun _ h => h⟩
instance repLP {α β : Type} [Rep α] [RepL β] : RepL (α × β) := ⟨fun K H vs x => ∃ v us, vs = v :: us ∧ rep K H v x.1 ∧ repTs K H us x.2, fun s ⟨v, us, e, h1, h2⟩ => ⟨v, us, e, Rep.mono s h1, RepL.mono s h2⟩⟩
/-- a tuple, item by item -/
structure Nt (α : Type) where
  v : α
  deriving DecidableEq
instance decNtL {α : Type} [DecidableEq α] : DecidableEq (List (Nt α)) := inferInstance
instance repNt {α : Type} [RepL α] : Rep (Nt α) := ⟨fun K H v x => ∃ a vs, v = .ref a ∧ H a = some (.tup vs) ∧ repTs K H vs x.v, fun s ⟨a, vs, e, q, h⟩ => ⟨a, vs, e, s _ _ q, RepL.mono s h⟩⟩
section
variable {α β γ δ : Type} [Rep α] [Rep β] [Rep γ] [Rep δ] {K : Fg} {H H' : Hp} {v u1 u2 u3 u4 : V} {a : Addr}
theorem nt3 {x : Nt (α × β × γ × Unit)} (h : rep K H v x) : ∃ a u1 u2 u3, v = .ref a ∧ H a = some (.tup [u1, u2, u3]) ∧ rep K H u1 x.v.1 ∧ rep K H u2 x.v.2.1 ∧ rep K H u3 x.v.2.2.1 := by
  obtain ⟨a, vs, e, q, u1, _, rfl, h1, u2, _, rfl, h2, u3, _, rfl, h3, rfl⟩ := h
  exact ⟨a, u1, u2, u3, e, q, h1, h2, h3⟩
theorem rep_nt3 {x1 : α} {x2 : β} {x3 : γ} (q : H a = some (.tup [u1, u2, u3])) (h1 : rep K H u1 x1) (h2 : rep K H u2 x2) (h3 : rep K H u3 x3) : rep K H (.ref a) (⟨(x1, x2, x3, ())⟩ : Nt (α × β × γ × Unit)) := ⟨a, _, rfl, q, u1, _, rfl, h1, u2, _, rfl, h2, u3, _, rfl, h3, rfl⟩
end
/-! ### as data -/
class DatL (α : Type) extends RepL α where
  toDs : α → List PyData
  dmaxL : Nat
  dpL : ∀ {K : Fg} {H : Hp} {vs : List V} {x : α}, repTs K H vs x → DpAll K H vs (toDs x)
  layL : ∀ x : α, PyData.canLayAll0 (toDs x) = true
  depL : ∀ x : α, PyData.depthAll (toDs x) ≤ dmaxL
  eqvL : ∀ x y : α, PyData.eqvAll (toDs x) (toDs y) = true ↔ x = y
instance datLU : DatL Unit where
  toDs := fun _ => []
  dmaxL := 0
  dpL := fun h => by
    have h' : _ = [] := h
    subst h'
    exact .nil
  layL := fun _ => by simp only [PyData.canLayAll0]
  depL := fun _ => by simp only [PyData.depthAll, Nat.le_refl]
  eqvL := fun _ _ => by simp [PyData.eqvAll]
instance datLP {α β : Type} [Dat α] [DatL β] : DatL (α × β) where
  toDs := fun x => Dat.toD x.1 :: DatL.toDs x.2
  dmaxL := max (Dat.dmax α) (DatL.dmaxL β)
  dpL := fun {K H vs x} h => by
    obtain ⟨v, us, rfl, h1, h2⟩ := h
    exact .cons (Dat.dp h1) (DatL.dpL h2)
  layL := fun x => by simp only [PyData.canLayAll0, Dat.lay, DatL.layL, Bool.and_true]
  depL := fun x => by
    have h1 := Dat.dep x.1
    have h2 := DatL.depL x.2
    simp only [PyData.depthAll]
    omega
  eqvL := fun x y => by
    obtain ⟨x1, x2⟩ := x
    obtain ⟨y1, y2⟩ := y
    simp only [PyData.eqvAll, Bool.and_eq_true, Dat.eqv, DatL.eqvL, Prod.mk.injEq]
instance datNt {α : Type} [DatL α] : Dat (Nt α) where
  toD := fun x => .tuple (DatL.toDs x.v)
  dmax := DatL.dmaxL α + 1
  dp := fun {K H v x} h => by
    obtain ⟨a, vs, rfl, q, h⟩ := h
    exact .tup (SqT.of q) (DatL.dpL h)
  lay := fun x => by
    simp only [PyData.canLay0]
    exact DatL.layL x.v
  dep := fun x => by
    have h := DatL.depL x.v
    simp only [PyData.depth]
    omega
  eqv := fun x y => by
    obtain ⟨x⟩ := x
    obtain ⟨y⟩ := y
    simp only [PyData.eqv, Nt.mk.injEq]
    exact DatL.eqvL x y
/-! ### objects of an own class -/
def mkfs (fs : List Str) (us : List V) : List (Str × V) := (fs.zip us).foldl (fun l p => putF p.1 p.2 l) []
structure Oj (nm : Str) (fs : List Str) (α : Type) where
  v : α
instance repOj {nm : Str} {fs : List Str} {α : Type} [RepL α] : Rep (Oj nm fs α) := ⟨fun K H v x => ∃ a C dx us, v = .ref a ∧ Nm K nm C ∧ H a = some (.ins C dx (mkfs fs us)) ∧ repTs K H us x.v, fun s ⟨a, C, dx, us, e, n, q, h⟩ => ⟨a, C, dx, us, e, n, s _ _ q, RepL.mono s h⟩⟩
/-! ### trees: (a thing, a thing, a tuple of trees) -/
inductive Tr where
  | n (a b : Thing) (ts : List Tr)
def Tr.a : Tr → Thing
  | .n a _ _ => a
def Tr.b : Tr → Thing
  | .n _ b _ => b
def Tr.ts : Tr → List Tr
  | .n _ _ ts => ts
mutual
def trRep (K : Fg) (H : Hp) : Tr → V → Prop
  | .n a b ts, v => ∃ p u w q vs, v = .ref p ∧ H p = some (.tup [u, w, .ref q]) ∧ rep K H u a ∧ rep K H w b ∧ H q = some (.tup vs) ∧ trsRep K H ts vs
def trsRep (K : Fg) (H : Hp) : List Tr → List V → Prop
  | [], vs => vs = []
  | t :: ts, vs => ∃ v us, vs = v :: us ∧ trRep K H t v ∧ trsRep K H ts us
end
mutual
theorem trRep_mono {K : Fg} {H H' : Hp} (s : Same H H') : ∀ (t : Tr) (v : V), trRep K H t v → trRep K H' t v
  | .n a b ts, v, h => by
    rw [trRep] at h ⊢
    obtain ⟨p, u, w, q, vs, e, h1, h2, h3, h4, h5⟩ := h
    exact ⟨p, u, w, q, vs, e, s _ _ h1, Rep.mono s h2, Rep.mono s h3, s _ _ h4, trsRep_mono s ts vs h5⟩
theorem trsRep_mono {K : Fg} {H H' : Hp} (s : Same H H') : ∀ (ts : List Tr) (vs : List V), trsRep K H ts vs → trsRep K H' ts vs
  | [], vs, h => by
    rw [trsRep] at h ⊢
    exact h
  | t :: ts, vs, h => by
    rw [trsRep] at h ⊢
    obtain ⟨v, us, e, h1, h2⟩ := h
    exact ⟨v, us, e, trRep_mono s t v h1, trsRep_mono s ts us h2⟩
end
instance repTr : Rep Tr := ⟨fun K H v t => trRep K H t v, fun {_ _ _ v t} s h => trRep_mono s t v h⟩
abbrev TrN := Nt (Thing × Thing × Tup Tr × Unit)
def Tr.nt (t : Tr) : TrN := ⟨(t.a, t.b, ⟨t.ts⟩, ())⟩
def Tr.of (x : TrN) : Tr := .n x.v.1 x.v.2.1 x.v.2.2.1.l
/-! ### a tuple and the empty one -/
/-! ### great powers and products -/
@[irreducible] def sqR (i : Int) : R Int := if i.natAbs < 2 ^ 400 then .ok (i ^ (2 : Int).toNat) else .bad
@[irreducible] def mulW (i j : Int) : R Int := if i.natAbs < 2 ^ 400 ∧ j.natAbs < 2 ^ 400 then .ok (i * j) else .bad
theorem pb_sq {β : Type} {Q : β → Prop} {E : Exn → Prop} {i : Int} {f : Int → R β} (h : Post (sqR i >>= f) Q E) : i.natAbs < 2 ^ 400 ∧ Post (f (i ^ (2 : Int).toNat)) Q E := by
  unfold sqR at h
  exact pb_if h
theorem pb_mulW {β : Type} {Q : β → Prop} {E : Exn → Prop} {i j : Int} {f : Int → R β} (h : Post (mulW i j >>= f) Q E) : (i.natAbs < 2 ^ 400 ∧ j.natAbs < 2 ^ 400) ∧ Post (f (i * j)) Q E := by
  unfold mulW at h
  exact pb_if h
theorem po_sq {i : Int} (h : i.natAbs < 2 ^ 400) : sqR i = R.ok (i * i) := by
  unfold sqR
  rw [if_pos h]
  have e : i ^ (2 : Int).toNat = i * i := by
    show i ^ 2 = i * i
    rw [Int.pow_succ, Int.pow_succ, Int.pow_zero, Int.one_mul]
  rw [e]
theorem po_mulW {i j : Int} (h : i.natAbs < 2 ^ 400) (h2 : j.natAbs < 2 ^ 400) : mulW i j = R.ok (i * j) := by
  unfold mulW
  rw [if_pos ⟨h, h2⟩]
section
variable {X : Cx}
theorem op_sq : OpR X (binaryOp .Pow) (rI (fun i j => j = 2 ∧ i.natAbs < 2 ^ 400) fun i j => .int (i ^ j.toNat)) := opI fun i j _ _ _ _ _ hc q => by
  obtain ⟨rfl, h⟩ := hc
  refine PyProof.Rows.pow_int (by decide) ?_ q
  have := intBits_le_iff.mpr h
  omega
theorem op_mulW4 : OpR X (binaryOp .Mult) (rI (fun i j => i.natAbs < 2 ^ 400 ∧ j.natAbs < 2 ^ 400) fun i j => .int (i * j)) := opI fun _ _ _ _ _ _ _ hc q =>
  mul_int q (IntMulOk.of_le (intBits_le_iff.mpr hc.1) (intBits_le_iff.mpr hc.2) (by decide))
end
/-! ### min, max of a tuple of two ints -/
section
variable {prog : Program} {w : World} {A : Around} {E : Value → Shared → Prop} {s : Shared} {l : Addr} {xs : Array (Int × Tok)} {Q : Value → Shared → Prop}
theorem iter_intTup (hl : s.heap.IsTuple l (intItems xs))
    (h : ∀ s₂ : Shared, s₂ = { s with heap := s.heap.push { cls := .type "tuple_iterator", data := .fields #[.ref l, .int 0 0] } } →
      (s₂.heap.IsTupleIter s.heap.objs.size l 0 ∧ s₂.heap.IsTuple l (intItems xs)) → (∀ b ∈ [s.heap.objs.size, l], b < s₂.heap.objs.size) → l ≠ s.heap.objs.size → Q (.ref s.heap.objs.size) s₂) :
    wpAny (model prog w) A (pyIter (.ref l)) Q E s := by
  have hlt : l < s.heap.objs.size := by obtain ⟨_, e, _⟩ := hl; exact Heap.lt_size e
  refine wpAny_pyIter_tuple hl (h _ rfl ⟨⟨_, Heap.get?_push_size _ rfl, rfl, rfl⟩, hl.push _⟩ (fun b hb => ?_) (Nat.ne_of_lt hlt))
  show b < (s.heap.push _).objs.size
  rw [Heap.size_push]
  rcases List.mem_cons.mp hb with rfl | hb
  · exact Nat.lt_succ_self _
  · rcases List.mem_cons.mp hb with rfl | hb
    · exact Nat.lt_succ_of_lt hlt
    · cases hb
theorem old_keptT {h' : Heap} (hk : ∀ b o, b ∉ [s.heap.objs.size] → (s.heap.push { cls := .type "tuple_iterator", data := .fields #[.ref l, .int 0 0] }).get? b = some o → h'.get? b = some o) :
    ∀ b o, s.heap.get? b = some o → h'.get? b = some o := fun b o e => by
  refine hk b o (fun hm => ?_) (Heap.get?_push_of_some _ e)
  rcases List.mem_cons.mp hm with e1 | hm
  · exact absurd (e1 ▸ Heap.lt_size e) (Nat.lt_irrefl _)
  · cases hm
theorem max_intTup (hh : A.handled = none) (hl : s.heap.IsTuple l (intItems xs)) (hne : 0 < xs.size)
    (h : ∀ v h' tk, (intItems xs)[argBest (fun i j => decide (numAt xs i > numAt xs j)) (xs.size - 1)]? = some v → (∀ b o, s.heap.get? b = some o → h'.get? b = some o) → Q v { s with heap := h', toks := tk }) :
    wpAny (model prog w) A (call (.builtin "max") [.ref l]) Q E s := by
  refine call_max_walk (iter_intTup hl fun s₂ e st hfp hlI => ?_)
  subst e
  refine ⟨_, _, _, _, _, _, _, rfl, Walks.tuple (A := A.in1) hh _ l hlI (intItems xs), st, hfp, by simpa [intItems] using hne, CmpOf.ints_gt (numAt xs) (fun _ _ => intItems_at), fun v h' tk hP hk => ?_⟩
  exact h v h' tk (by simpa [intItems] using hP) (old_keptT hk)
theorem min_intTup (hh : A.handled = none) (hl : s.heap.IsTuple l (intItems xs)) (hne : 0 < xs.size)
    (h : ∀ v h' tk, (intItems xs)[argBest (fun i j => decide (numAt xs i < numAt xs j)) (xs.size - 1)]? = some v → (∀ b o, s.heap.get? b = some o → h'.get? b = some o) → Q v { s with heap := h', toks := tk }) :
    wpAny (model prog w) A (call (.builtin "min") [.ref l]) Q E s := by
  refine call_min_walk (iter_intTup hl fun s₂ e st hfp hlI => ?_)
  subst e
  refine ⟨_, _, _, _, _, _, _, rfl, Walks.tuple (A := A.in1) hh _ l hlI (intItems xs), st, hfp, by simpa [intItems] using hne, CmpOf.ints_lt (numAt xs) (fun _ _ => intItems_at), fun v h' tk hP hk => ?_⟩
  exact h v h' tk (by simpa [intItems] using hP) (old_keptT hk)
end
section
variable {X : Cx} {K : Fg}
theorem cr_maxT2 (hK : X.K = K) (hc : X.calm = true) : CallR X (.builtin "max") (fun vs H Q => ∃ (a : Addr) (i j : Int), vs = [V.ref a] ∧ SqT K H a [.int i, .int j] ∧ ∃ k, max2 i j = k ∧ Q (.int k) H) := by
  subst hK
  intro pins s σ H vs us Q I r ⟨a, i, j, e, h, k, ek, q⟩
  subst e ek
  obtain ⟨its, rv, hT, _⟩ := I.tuple h
  obtain ⟨t, u, rfl⟩ := Vals.int2 rv
  rw [Vals.ref1 r]
  refine max_intTup (xs := #[(i, t), (j, u)]) (I.ok.hd hc) (by rw [show intItems #[(i, t), (j, u)] = #[Value.int i t, Value.int j u] by simp [intItems]]; exact hT) (show 0 < 2 from by decide) fun v h' tk hv hk => ?_
  have hv' : v = Value.int (max2 i j) (if j > i then u else t) := by
    unfold max2
    by_cases z : j > i
    · have e : argBest (fun x y => decide (numAt #[(i, t), (j, u)] x > numAt #[(i, t), (j, u)] y)) 1 = 1 := by simp [argBest, numAt, z]
      rw [show (#[(i, t), (j, u)] : Array (Int × Tok)).size - 1 = 1 from rfl, e] at hv
      simpa [intItems, z] using hv.symm
    · have e : argBest (fun x y => decide (numAt #[(i, t), (j, u)] x > numAt #[(i, t), (j, u)] y)) 1 = 0 := by simp [argBest, numAt, z]
      rw [show (#[(i, t), (j, u)] : Array (Int × Tok)).size - 1 = 1 from rfl, e] at hv
      simpa [intItems, z] using hv.symm
  rw [hv']
  exact ⟨.int _, H, I.kept hk, ⟨_, rfl⟩, q⟩
theorem cr_minT2 (hK : X.K = K) (hc : X.calm = true) : CallR X (.builtin "min") (fun vs H Q => ∃ (a : Addr) (i j : Int), vs = [V.ref a] ∧ SqT K H a [.int i, .int j] ∧ ∃ k, min2 i j = k ∧ Q (.int k) H) := by
  subst hK
  intro pins s σ H vs us Q I r ⟨a, i, j, e, h, k, ek, q⟩
  subst e ek
  obtain ⟨its, rv, hT, _⟩ := I.tuple h
  obtain ⟨t, u, rfl⟩ := Vals.int2 rv
  rw [Vals.ref1 r]
  refine min_intTup (xs := #[(i, t), (j, u)]) (I.ok.hd hc) (by rw [show intItems #[(i, t), (j, u)] = #[Value.int i t, Value.int j u] by simp [intItems]]; exact hT) (show 0 < 2 from by decide) fun v h' tk hv hk => ?_
  have hv' : v = Value.int (min2 i j) (if j < i then u else t) := by
    unfold min2
    by_cases z : j < i
    · have e : argBest (fun x y => decide (numAt #[(i, t), (j, u)] x < numAt #[(i, t), (j, u)] y)) 1 = 1 := by simp [argBest, numAt, z]
      rw [show (#[(i, t), (j, u)] : Array (Int × Tok)).size - 1 = 1 from rfl, e] at hv
      simpa [intItems, z] using hv.symm
    · have e : argBest (fun x y => decide (numAt #[(i, t), (j, u)] x < numAt #[(i, t), (j, u)] y)) 1 = 0 := by simp [argBest, numAt, z]
      rw [show (#[(i, t), (j, u)] : Array (Int × Tok)).size - 1 = 1 from rfl, e] at hv
      simpa [intItems, z] using hv.symm
  rw [hv']
  exact ⟨.int _, H, I.kept hk, ⟨_, rfl⟩, q⟩
end
/-! ### a list grows by a tuple's items -/
theorem meets_extend_tup (l : Addr) (items : Array Value) (n : Nat) (b : Addr) (items2 : Array Value) (n2 : Nat) (o2 : Obj) (hc2 : o2.cls = .type "tuple") (hd2 : o2.data = .seq items2 n2) (hs0 : ¬(!items.isEmpty && Builtin.List.listTooLong (items.size + items2.size)) = true) (hs1 : items.size ≤ sizeLine) (hs2 : items.size + items2.size ≤ sizeLine + 1) :
    Meets (Builtin.«list.extend» ⟨[.ref l, .ref b], []⟩) (fun _ R s => s.heap.get? l = some { cls := .type "list", dict := none, data := .seq items n, slots := #[] } ∧ s.heap.get? b = some o2 ∧ R (.ok (.ret Value.none)) { s with heap := s.heap.update l (Obj.mapSeq fun x => x ++ items2), toks := s.toks }) :=
  .of_wp fun prog w A R s h => by
    obtain ⟨c2, d2, da2, sl2⟩ := o2
    dsimp only at hc2 hd2
    subst hc2 hd2
    obtain ⟨hp, g, d, tk, os⟩ := s; obtain ⟨hl, hb, h⟩ := h; have f1 := AutoSeq1.idx_int; have f2 := AutoSeq1.sub_tuple_tuple; have f3 := AutoSeq1.sub_list_list; have f4 := AutoSeq1.sub_tuple_list; have f5 := AutoSeq1.sub_list_tuple;
    have hz' : (items ++ items2).size ≤ sizeLine + 1 := by rw [Array.size_append]; exact hs2
    wp_walk using (wpAny_updateSeq hl rfl (hz := hs1) (_hz' := hz')), AutoSeq1.wpAny_loadPart' hl, AutoSeq1.wpAny_loadPart' hb; exact ⟨_, rfl, h⟩
theorem mt_extendT {X : Cx} {K : Fg} (hK : X.K = K) : MtM X "list.extend" (fun x vs H Q => ∃ l b xs zs, x = .ref l ∧ vs = [.ref b] ∧ H l = some (.lst xs) ∧ SqT K H b zs ∧ xs.length + zs.length ≤ sizeLine ∧ Q .non (upd H l (.lst (xs ++ zs)))) := by
  subst hK
  intro pins s σ H x vs v us Q I rx rv h
  obtain ⟨l, b, xs, zs, rfl, rfl, hH, hB, hz, q⟩ := h
  cases rx
  obtain ⟨u, rfl, ru⟩ := rv.one
  cases ru
  obtain ⟨z, its, n, r, hl, e⟩ := I.lstM hH
  obtain ⟨its2, r2, ⟨o2, e2, hc2, n2, hd2⟩, hl2⟩ := I.tuple hB
  have hl3 : zs.length = its2.length := r2.length
  have hsz : its.toArray.size + its2.toArray.size ≤ sizeLine := by rw [List.size_toArray, List.size_toArray]; omega
  have hlong : ¬ (!its.toArray.isEmpty && Builtin.List.listTooLong (its.toArray.size + its2.toArray.size)) = true := by
    rw [notLongL hsz, Bool.and_false]
    exact Bool.false_ne_true
  refine call_meets F.slot_list_extend ⟨_, e, rfl⟩ F.entry_list_extend (F.args_list_extend_2 _ _)
    (meets_extend_tup l its.toArray n b its2.toArray n2 o2 hc2 hd2 hlong (by rw [List.size_toArray]; omega) (by omega)) ⟨e, e2, ?_⟩
  refine ⟨.non, _, I.lset (its' := its ++ its2) hH e (by simp) (r.append r2) ?_, rfl, q⟩
  rw [List.length_append]
  omega
end Z
/-! ZH: trees that may be nothing (To), what a search for fewest looks tells (Fw) -/
namespace Z
open PySem L2 PySem.Spec PyProof.Rows
open Rep (rep)
inductive To where
  | no
  | n (a b : Thing) (ts : List To)
mutual
def toRep (K : Fg) (H : Hp) : To → V → Prop
  | .no, v => v = .non
  | .n a b ts, v => ∃ p u w q vs, v = .ref p ∧ H p = some (.tup [u, w, .ref q]) ∧ rep K H u a ∧ rep K H w b ∧ H q = some (.tup vs) ∧ tosRep K H ts vs
def tosRep (K : Fg) (H : Hp) : List To → List V → Prop
  | [], vs => vs = []
  | t :: ts, vs => ∃ v us, vs = v :: us ∧ toRep K H t v ∧ tosRep K H ts us
end
mutual
theorem toRep_mono {K : Fg} {H H' : Hp} (s : Same H H') : ∀ (t : To) (v : V), toRep K H t v → toRep K H' t v
  | .no, v, h => by
    rw [toRep] at h ⊢
    exact h
  | .n a b ts, v, h => by
    rw [toRep] at h ⊢
    obtain ⟨p, u, w, q, vs, e, h1, h2, h3, h4, h5⟩ := h
    exact ⟨p, u, w, q, vs, e, s _ _ h1, Rep.mono s h2, Rep.mono s h3, s _ _ h4, tosRep_mono s ts vs h5⟩
theorem tosRep_mono {K : Fg} {H H' : Hp} (s : Same H H') : ∀ (ts : List To) (vs : List V), tosRep K H ts vs → tosRep K H' ts vs
  | [], vs, h => by
    rw [tosRep] at h ⊢
    exact h
  | t :: ts, vs, h => by
    rw [tosRep] at h ⊢
    obtain ⟨v, us, e, h1, h2⟩ := h
    exact ⟨v, us, e, toRep_mono s t v h1, tosRep_mono s ts us h2⟩
end
instance repTo : Rep To := ⟨fun K H v t => toRep K H t v, fun {_ _ _ v t} s h => toRep_mono s t v h⟩
theorem tos_a2 {K : Fg} {H : Hp} : ∀ (ts : List To) (vs : List V), tosRep K H ts vs ↔ A2 (rep K H) vs ts
  | [], vs => by
    rw [tosRep]
    exact ⟨fun e => by rw [e]; exact .nil, fun h => by cases h; rfl⟩
  | t :: ts, vs => by
    rw [tosRep]
    constructor
    · rintro ⟨v, us, rfl, h1, h2⟩
      exact .cons h1 ((tos_a2 ts us).mp h2)
    · intro h
      cases h with
      | cons h1 h2 => exact ⟨_, _, rfl, h1, (tos_a2 ts _).mpr h2⟩
theorem rep_toN {K : Fg} {H : Hp} {p q : Addr} {u w : V} {vs : List V} {a b : Thing} {ts : List To} (h1 : H p = some (.tup [u, w, .ref q])) (h2 : rep K H u a) (h3 : rep K H w b) (h4 : H q = some (.tup vs)) (h5 : A2 (rep K H) vs ts) : rep K H (.ref p) (To.n a b ts) := by
  show toRep K H (.n a b ts) _
  rw [toRep]
  exact ⟨p, u, w, q, vs, rfl, h1, h2, h3, h4, (tos_a2 ts vs).mpr h5⟩
theorem rep_toZ {K : Fg} {H : Hp} : rep K H .non To.no := by
  show toRep K H .no _
  rw [toRep]
/-- a tree all of whose parts are trees -/
def toTr : To → Option Tr
  | .no => none
  | .n a b ts => (toTrs ts).map (.n a b)
where toTrs : List To → Option (List Tr)
  | [] => some []
  | t :: ts => match toTr t, toTrs ts with
    | some x, some xs => some (x :: xs)
    | _, _ => none
/-- what may be a tree: nothing, or such a one -/
def asTr : To → R (Option Tr)
  | .no => .ok none
  | t => match toTr t with
    | some x => .ok (some x)
    | none => .bad
mutual
theorem toTr_rep {K : Fg} {H : Hp} : ∀ (t : To) (x : Tr) (v : V), toTr t = some x → toRep K H t v → trRep K H x v
  | .no, x, v, e, h => by rw [toTr] at e; cases e
  | .n a b ts, x, v, e, h => by
    rw [toTr] at e
    cases e2 : toTr.toTrs ts with
    | none => rw [e2] at e; cases e
    | some xs =>
      rw [e2] at e
      cases e
      rw [toRep] at h
      obtain ⟨p, u, w, q, vs, e, h1, h2, h3, h4, h5⟩ := h
      rw [trRep]
      exact ⟨p, u, w, q, vs, e, h1, h2, h3, h4, toTrs_rep ts xs vs e2 h5⟩
theorem toTrs_rep {K : Fg} {H : Hp} : ∀ (ts : List To) (xs : List Tr) (vs : List V), toTr.toTrs ts = some xs → tosRep K H ts vs → trsRep K H xs vs
  | [], xs, vs, e, h => by
    rw [toTr.toTrs] at e
    cases e
    rw [tosRep] at h
    rw [trsRep]
    exact h
  | t :: ts, xs, vs, e, h => by
    rw [toTr.toTrs] at e
    cases e1 : toTr t with
    | none => rw [e1] at e; cases e
    | some y =>
      cases e2 : toTr.toTrs ts with
      | none => rw [e1, e2] at e; cases e
      | some ys =>
        rw [e1, e2] at e
        cases e
        rw [tosRep] at h
        obtain ⟨v, us, e, h1, h2⟩ := h
        rw [trsRep]
        exact ⟨v, us, e, toTr_rep t y v e1 h1, toTrs_rep ts ys us e2 h2⟩
end
theorem pb_asTr {K : Fg} {H : Hp} {v : V} {t : To} {δ : Type} {f : Option Tr → R δ} {P : δ → Prop} {E : Exn → Prop} (r : rep K H v t) (h : Post (asTr t >>= f) P E) : ∃ x : Option Tr, asTr t = R.ok x ∧ rep K H v x ∧ Post (f x) P E := by
  cases t with
  | no =>
    have r' : toRep K H .no v := r
    rw [toRep] at r'
    exact ⟨none, rfl, by rw [r']; exact rep_none, h⟩
  | n a b ts =>
    have e : asTr (.n a b ts) = match toTr (.n a b ts) with
      | some x => .ok (some x)
      | none => .bad := rfl
    rw [e] at h ⊢
    cases e2 : toTr (.n a b ts) with
    | none =>
      rw [e2] at h
      exact (show False from h).elim
    | some x =>
      rw [e2] at h
      exact ⟨some x, rfl, rep_some (toTr_rep _ x v e2 r), h⟩
/-! ### what fewest_looks tells -/
inductive Fw where
  | never (a b : Thing)
  | looks (l : List Int) (t : Option Tr)
def Fw.w : Fw → Str
  | .never _ _ => ("never" : Str)
  | .looks _ _ => ("looks" : Str)
instance repFw : Rep Fw := ⟨fun K H v x => ∃ p u w, v = .ref p ∧ H p = some (.tup [.str x.w, u, w]) ∧ match x with
  | .never a b => rep K H u a ∧ rep K H w b
  | .looks l t => rep K H u l ∧ rep K H w t, fun {_ _ _ v x} s ⟨p, u, w, e, q, h⟩ => ⟨p, u, w, e, s _ _ q, by
    cases x with
    | never a b => exact ⟨Rep.mono s h.1, Rep.mono s h.2⟩
    | looks l t => exact ⟨Rep.mono s h.1, Rep.mono s h.2⟩⟩⟩
def asLk : Fw → R (List Int × Option Tr)
  | .looks l t => .ok (l, t)
  | .never _ _ => .bad
section
variable {K : Fg} {H : Hp} {v : V} {x : Fw} {δ : Type} {P : δ → Prop} {E : Exn → Prop}
theorem fw_open (h : rep K H v x) : ∃ p u w, v = .ref p ∧ H p = some (.tup [.str x.w, u, w]) := by
  obtain ⟨p, u, w, e, q, _⟩ := h
  exact ⟨p, u, w, e, q⟩
theorem rep_nv {p : Addr} {u w : V} {a b : Thing} (q : H p = some (.tup [.str "never", u, w])) (h1 : rep K H u a) (h2 : rep K H w b) : rep K H (.ref p) (Fw.never a b) := ⟨p, u, w, rfl, q, h1, h2⟩
theorem rep_lk {p : Addr} {u w : V} {l : List Int} {t : Option Tr} (q : H p = some (.tup [.str "looks", u, w])) (h1 : rep K H u l) (h2 : rep K H w t) : rep K H (.ref p) (Fw.looks l t) := ⟨p, u, w, rfl, q, h1, h2⟩
theorem pb_lk {f : List Int × Option Tr → R δ} {p : Addr} {u w : V} (q : H p = some (.tup [.str x.w, u, w])) (r : rep K H (.ref p) x) (h : Post (asLk x >>= f) P E) : ∃ t, asLk x = R.ok t ∧ x.w = ("looks" : Str) ∧ rep K H u t.1 ∧ rep K H w t.2 ∧ Post (f t) P E := by
  obtain ⟨p', u', w', e, q', h2⟩ := r
  cases e
  rw [q] at q'
  cases q'
  cases x with
  | never a b => exact (show False from h).elim
  | looks l t => exact ⟨(l, t), rfl, rfl, h2.1, h2.2, h⟩
end
/-- the word looks -/
inductive Lk where
  | mk
  deriving DecidableEq
instance repLk : Rep Lk := ⟨fun _ _ v _ => v = .str "looks", fun _ h => h⟩
instance datLk : Dat Lk where
  toD := fun _ => .str "looks"
  dmax := 0
  dp := fun {K H v x} h => by
    have h' : v = V.str "looks" := h
    rw [h']
    exact .str _
  lay := fun _ => by decide +kernel
  dep := fun _ => Nat.le_refl _
  eqv := fun x y => by cases x; cases y; exact ⟨fun _ => rfl, fun _ => by decide +kernel⟩
instance {α : Type} [RepL α] : NonN (Nt α) := ⟨fun {K H v x} h q => by
  obtain ⟨a, vs, e, _⟩ := h
  rw [e] at q
  cases q⟩
instance : NonN Tr := ⟨fun {K H v x} h q => by
  cases x with
  | n a b ts =>
    have h' : trRep K H (.n a b ts) v := h
    rw [trRep] at h'
    obtain ⟨p, u, w, z, vs, e, _⟩ := h'
    rw [e] at q
    cases q⟩
/-! ### nothing -/
instance datUnit : Dat Unit where
  toD := fun _ => .none
  dmax := 0
  dp := fun {K H v x} h => by
    have h' : v = V.non := h
    rw [h']
    exact .non
  lay := fun _ => rfl
  dep := fun _ => Nat.le_refl _
  eqv := fun _ _ => ⟨fun _ => rfl, fun _ => rfl⟩
end Z
/-! ZW: a region that was lent to a call as frozen comes back -/
namespace Z
open PySem L2
section
variable {F F1 H : Hp} {os : List (Addr × HO)}
/-- cells that stand frozen are one's own again -/
theorem W.unfreezes : ∀ {cs : List (Addr × HO)}, W F1 H os → Same F F1 → (∀ p ∈ cs, F p.1 = none ∧ F1 p.1 = some p.2 ∧ ∀ vs, p.2 ≠ .tup vs) → cs.Pairwise (fun p q => p.1 ≠ q.1) → ∃ F', Same F F' ∧ W F' H (cs ++ os) ∧ ∀ b, (∀ p ∈ cs, b ≠ p.1) → F' b = F1 b
  | [], w, s, _, _ => ⟨F1, s, w, fun _ _ => rfl⟩
  | (a, o) :: cs, w, s, hc, hd => by
    obtain ⟨F2, s2, w2, k2⟩ := W.unfreezes (cs := cs) w s (fun p hp => hc p (List.mem_cons_of_mem _ hp)) (List.pairwise_cons.mp hd).2
    obtain ⟨n, k, nt⟩ := hc (a, o) List.mem_cons_self
    have ka : F2 a = some o := (k2 a fun p hp => (List.pairwise_cons.mp hd).1 p hp).trans k
    refine ⟨fun b => if b = a then none else F2 b, fun b u e => ?_, ⟨fun b u e => ?_, fun q hq => ?_, ?_, fun q hq => ?_⟩, fun b hb => ?_⟩
    · have hb : b ≠ a := ne_of_none e n
      show (if b = a then none else F2 b) = some u
      rw [if_neg hb]
      exact s2 b u e
    · by_cases hb : b = a
      · have e' : (if b = a then none else F2 b) = some u := e
        rw [if_pos hb] at e'
        cases e'
      · have e' : (if b = a then none else F2 b) = some u := e
        rw [if_neg hb] at e'
        exact w2.same b u e'
    · rcases List.mem_cons.mp hq with rfl | hq
      · exact ⟨w2.same _ _ ka, if_pos rfl⟩
      · have h := w2.own q hq
        refine ⟨h.1, ?_⟩
        by_cases hb : q.1 = a
        · exact if_pos hb
        · show (if q.1 = a then none else F2 q.1) = none
          rw [if_neg hb]
          exact h.2
    · refine List.pairwise_cons.mpr ⟨fun q hq e => ?_, w2.nd⟩
      have h := (w2.own q hq).2
      have e' : a = q.1 := e
      rw [← e', ka] at h
      cases h
    · rcases List.mem_cons.mp hq with rfl | hq
      · exact nt
      · exact w2.nt q hq
    · have hb1 : b ≠ a := hb (a, o) List.mem_cons_self
      show (if b = a then none else F2 b) = F1 b
      rw [if_neg hb1]
      exact k2 b fun p hp => hb p (List.mem_cons_of_mem _ hp)
end
/-! ### list.remove, ints -/
open Rep (rep)
end Z
/-! YZ: what fewest_looks tells, compared -/
namespace Z
open PySem PySem.Spec PyProof.Rows L2
open Rep (rep)
mutual
def trDt : Tr → PyData
  | .n a b ts => .tuple [Dat.toD a, Dat.toD b, .tuple (trDs ts)]
def trDs : List Tr → List PyData
  | [] => []
  | t :: ts => trDt t :: trDs ts
end
mutual
theorem trDt_dp {K : Fg} {H : Hp} : ∀ (t : Tr) (v : V), trRep K H t v → Dp K H v (trDt t)
  | .n a b ts, v, h => by
    rw [trRep] at h
    obtain ⟨p, u, w, q, vs, rfl, h1, h2, h3, h4, h5⟩ := h
    rw [trDt]
    exact .tup (SqT.of h1) (.cons (Dat.dp h2) (.cons (Dat.dp h3) (.cons (.tup (SqT.of h4) (trDs_dp ts vs h5)) .nil)))
theorem trDs_dp {K : Fg} {H : Hp} : ∀ (ts : List Tr) (vs : List V), trsRep K H ts vs → DpAll K H vs (trDs ts)
  | [], vs, h => by
    rw [trsRep] at h
    subst h
    rw [trDs]
    exact .nil
  | t :: ts, vs, h => by
    rw [trsRep] at h
    obtain ⟨v, us, rfl, h1, h2⟩ := h
    rw [trDs]
    exact .cons (trDt_dp t v h1) (trDs_dp ts us h2)
end
mutual
theorem trDt_lay : ∀ t : Tr, (trDt t).canLay0 = true
  | .n a b ts => by
    have h := trDs_lay ts
    rw [trDt]
    simp only [PyData.canLay0, PyData.canLayAll0, Dat.lay, h, Bool.and_true]
theorem trDs_lay : ∀ ts : List Tr, PyData.canLayAll0 (trDs ts) = true
  | [] => by rw [trDs]; simp only [PyData.canLayAll0]
  | t :: ts => by
    rw [trDs]
    simp only [PyData.canLayAll0, trDt_lay t, trDs_lay ts, Bool.and_true]
end
mutual
theorem trDt_eqv : ∀ a b : Tr, PyData.eqv (trDt a) (trDt b) = true ↔ a = b
  | .n a b ts, .n c d us => by
    have h := trDs_eqv ts us
    rw [trDt, trDt]
    simp only [PyData.eqv, PyData.eqvAll, Bool.and_true, Bool.and_eq_true, Dat.eqv, h, Tr.n.injEq]
theorem trDs_eqv : ∀ a b : List Tr, PyData.eqvAll (trDs a) (trDs b) = true ↔ a = b
  | [], [] => by rw [trDs]; simp [PyData.eqvAll]
  | [], t :: ts => by rw [trDs, trDs]; simp [PyData.eqvAll]
  | t :: ts, [] => by rw [trDs, trDs]; simp [PyData.eqvAll]
  | t :: ts, u :: us => by
    rw [trDs, trDs]
    simp only [PyData.eqvAll, Bool.and_eq_true, trDt_eqv t u, trDs_eqv ts us, List.cons.injEq]
end
def otDt : Option Tr → PyData
  | none => .none
  | some t => trDt t
theorem otDt_dp {K : Fg} {H : Hp} {o : Option Tr} {v : V} (h : rep K H v o) : Dp K H v (otDt o) := by
  cases o with
  | none =>
    have h' : v = V.non := h
    rw [h']
    exact .non
  | some t => exact trDt_dp t v h
theorem otDt_lay (o : Option Tr) : (otDt o).canLay0 = true := by
  cases o with
  | none => rfl
  | some t => exact trDt_lay t
theorem otDt_eqv (a b : Option Tr) : PyData.eqv (otDt a) (otDt b) = true ↔ a = b := by
  cases a with
  | none =>
    cases b with
    | none => exact ⟨fun _ => rfl, fun _ => rfl⟩
    | some t =>
      cases t with
      | n a b ts =>
        show PyData.eqv .none (trDt _) = true ↔ _
        rw [trDt]
        simp [PyData.eqv]
  | some t =>
    cases b with
    | none =>
      cases t with
      | n a b ts =>
        show PyData.eqv (trDt _) .none = true ↔ _
        rw [trDt]
        simp [PyData.eqv]
    | some u =>
      show PyData.eqv (trDt t) (trDt u) = true ↔ _
      rw [trDt_eqv, Option.some.injEq]
def fwDt : Fw → PyData
  | .never a b => .tuple [.str ("never" : Str), Dat.toD a, Dat.toD b]
  | .looks l t => .tuple [.str ("looks" : Str), Dat.toD l, otDt t]
theorem fwDt_dp {K : Fg} {H : Hp} {x : Fw} {v : V} (h : rep K H v x) : Dp K H v (fwDt x) := by
  obtain ⟨p, u, w, e, q, h2⟩ := h
  rw [e]
  cases x with
  | never a b => exact .tup (SqT.of q) (.cons (.str _) (.cons (Dat.dp h2.1) (.cons (Dat.dp h2.2) .nil)))
  | looks l t => exact .tup (SqT.of q) (.cons (.str _) (.cons (Dat.dp h2.1) (.cons (otDt_dp h2.2) .nil)))
theorem fwDt_lay (x : Fw) : (fwDt x).canLay0 = true := by
  cases x with
  | never a b =>
    unfold fwDt
    simp only [PyData.canLay0, PyData.canLayAll0, Dat.lay, Bool.and_true]
    decide +kernel
  | looks l t =>
    unfold fwDt
    simp only [PyData.canLay0, PyData.canLayAll0, Dat.lay, otDt_lay, Bool.and_true]
    decide +kernel
theorem fwDt_eqv (a b : Fw) : PyData.eqv (fwDt a) (fwDt b) = true ↔ a = b := by
  cases a with
  | never a1 a2 =>
    cases b with
    | never c d =>
      unfold fwDt
      simp only [PyData.eqv, PyData.eqvAll, Bool.and_true, Bool.and_eq_true, Dat.eqv, Fw.never.injEq]
      simp
    | looks l t =>
      unfold fwDt
      simp only [PyData.eqv, PyData.eqvAll, Bool.and_eq_true, reduceCtorEq, iff_false, not_and]
      intro h
      exact absurd h (by decide +kernel)
  | looks l t =>
    cases b with
    | never c d =>
      unfold fwDt
      simp only [PyData.eqv, PyData.eqvAll, Bool.and_eq_true, reduceCtorEq, iff_false, not_and]
      intro h
      exact absurd h (by decide +kernel)
    | looks m u =>
      unfold fwDt
      simp only [PyData.eqv, PyData.eqvAll, Bool.and_true, Bool.and_eq_true, Dat.eqv, otDt_eqv, Fw.looks.injEq]
      simp
/-- what is told, its tree not too deep to be compared -/
structure FwS where
  p : Fw
  h : (fwDt p).depth ≤ 48
instance repFwS : Rep FwS := ⟨fun K H v x => rep K H v x.p, fun s h => Rep.mono s h⟩
instance datFwS : Dat FwS where
  toD := fun x => fwDt x.p
  dmax := 48
  dp := fun {K H v x} h => fwDt_dp h
  lay := fun x => fwDt_lay x.p
  dep := fun x => x.h
  eqv := fun x y => by
    rw [fwDt_eqv]
    constructor
    · intro e
      cases x
      cases y
      cases e
      rfl
    · intro e
      rw [e]
instance decFwS : DecidableEq FwS := fun a b => decidable_of_iff (PyData.eqv (fwDt a.p) (fwDt b.p) = true) (Dat.eqv a b)
def fwS (x : Fw) : R FwS := if h : (fwDt x).depth ≤ 48 then .ok ⟨x, h⟩ else .bad
theorem pb_fwS {δ : Type} {x : Fw} {f : FwS → R δ} {P : δ → Prop} {E : Exn → Prop} (h : Post (fwS x >>= f) P E) : ∃ y : FwS, y.p = x ∧ Post (f y) P E := by
  unfold fwS at h
  by_cases c : (fwDt x).depth ≤ 48
  · rw [dif_pos c] at h
    exact ⟨⟨x, c⟩, rfl, h⟩
  · rw [dif_neg c] at h
    exact (show False from h).elim
theorem rep_fwS {K : Fg} {F : Hp} {v : V} {x : Fw} {y : FwS} (e : y.p = x) (h : rep K F v x) : rep K F v y := by
  show rep K F v y.p
  rw [e]
  exact h
/-! ### shifts -/
instance decCPow (i j : Int) : Decidable (CPow i j) := by unfold CPow; infer_instance
def shlR (i j : Int) : R Int := if CPow i j then .ok (i * 2 ^ j.toNat) else .bad
theorem pb_shl {δ : Type} {i j : Int} {f : Int → R δ} {P : δ → Prop} {E : Exn → Prop} (h : Post (shlR i j >>= f) P E) : CPow i j ∧ Post (f (i * 2 ^ j.toNat)) P E := by
  unfold shlR at h
  by_cases c : CPow i j
  · rw [if_pos c] at h
    exact ⟨c, h⟩
  · rw [if_neg c] at h
    exact (show False from h).elim
/-! ### a field that holds nothing, or a list that was not there at B -/
def FrO (B : Hp) (α : Type) : Type := Option α
instance repFrO {B : Hp} {α : Type} [Rep α] : Rep (FrO B α) := ⟨fun K F v x => Same B F ∧ rep K F v (show Option α from x) ∧ ∀ p, v = .ref p → B p = none, fun s h => ⟨h.1.trans s, Rep.mono s h.2.1, h.2.2⟩⟩
theorem same_no {B F : Hp} {a : Addr} (s : Same B F) (h : F a = none) : B a = none := by
  cases e : B a with
  | none => rfl
  | some u =>
    rw [s _ _ e] at h
    cases h
/-! ### told looks, the list one's own -/
mutual
theorem trRep_tup {K : Fg} {F F' : Hp} (k : ∀ b vs, F b = some (.tup vs) → F' b = some (.tup vs)) : ∀ (t : Tr) (v : V), trRep K F t v → trRep K F' t v
  | .n a b ts, v, h => by
    have th : ∀ {u : V} {x : Thing}, rep K F u x → rep K F' u x := fun {u x} r => by
      cases x with
      | pl i => exact r
      | ti i j =>
        obtain ⟨p, y, z, e, q, h1, h2⟩ := (show rep K F u ((i, j) : Int × Int) from r)
        exact (show rep K F' u ((i, j) : Int × Int) from ⟨p, y, z, e, k _ _ q, h1, h2⟩)
    rw [trRep] at h ⊢
    obtain ⟨p, u, w, q, vs, e, h1, h2, h3, h4, h5⟩ := h
    exact ⟨p, u, w, q, vs, e, k _ _ h1, th h2, th h3, k _ _ h4, trsRep_tup k ts vs h5⟩
theorem trsRep_tup {K : Fg} {F F' : Hp} (k : ∀ b vs, F b = some (.tup vs) → F' b = some (.tup vs)) : ∀ (ts : List Tr) (vs : List V), trsRep K F ts vs → trsRep K F' ts vs
  | [], vs, h => by
    rw [trsRep] at h ⊢
    exact h
  | t :: ts, vs, h => by
    rw [trsRep] at h ⊢
    obtain ⟨v, us, e, h1, h2⟩ := h
    exact ⟨v, us, e, trRep_tup k t v h1, trsRep_tup k ts us h2⟩
end
theorem otRep_tup {K : Fg} {F F' : Hp} {o : Option Tr} {v : V} (k : ∀ b vs, F b = some (.tup vs) → F' b = some (.tup vs)) (h : rep K F v o) : rep K F' v o := by
  cases o with
  | none => exact h
  | some t => exact trRep_tup k t v h
/-- a list that stood frozen for a while is one's own again -/
theorem W.unlend1 {F0 Fn H : Hp} {os : List (Addr × HO)} {a : Addr} {us : List V} (w : W Fn H os) (s : Same F0 Fn) (na : F0 a = none) (qa : Fn a = some (.lst us)) : ∃ F', Same F0 F' ∧ W F' H ((a, .lst us) :: os) ∧ ∀ b, b ≠ a → F' b = Fn b := by
  obtain ⟨F', s', w', k'⟩ := W.unfreezes (cs := [(a, .lst us)]) w s (fun p hp => by
    rw [List.mem_singleton.mp hp]
    exact ⟨na, qa, fun _ z => (nomatch z)⟩) (by simp)
  exact ⟨F', s', w', fun b hb => k' b fun p hp => by
    rw [List.mem_singleton.mp hp]
    exact hb⟩
def RetFwO (K : Fg) (F : Hp) (os : List (Addr × HO)) (Q : VK) : Fw → Prop
  | .never a b => ∀ (v : V) (F' H' : Hp), W F' H' os → Same F F' → rep K F' v (Fw.never a b) → Q v H'
  | .looks l o => ∀ (t p : Addr) (z : V) (us : List V) (F' H' : Hp), W F' H' ((p, .lst us) :: os) → Same F F' → F' t = some (.tup [.str ("looks" : Str), .ref p, z]) → A2 (rep K F') us l → rep K F' z o → Q (.ref t) H'
theorem retFw_frz {K : Fg} {F : Hp} {os : List (Addr × HO)} {Q : VK} {y : Fw} (h : Ret K F os Q y) : RetFwO K F os Q y := by
  cases y with
  | never a b =>
    intro v F' H' w s r
    exact h _ _ _ w s r
  | looks l o =>
    intro t p z us F' H' w s q g r
    obtain ⟨F2, s2, w2, q2⟩ := W.freezeE (pre := []) w
    exact h _ _ _ w2 (s.trans s2) (rep_lk (s2 _ _ q) ⟨p, us, rfl, q2, A2.imp (fun _ _ r => Rep.mono s2 r) g⟩ (Rep.mono s2 r))
/-- the list was frozen, and is not of the time of the call -/
theorem fw_free {K : Fg} {F0 F H : Hp} {os : List (Addr × HO)} {Q : VK} {l : List Int} {o : Option Tr} {t a : Addr} {z : V} {us : List V} (h : RetFwO K F0 os Q (Fw.looks l o)) (w : W F H os) (s : Same F0 F) (na : F0 a = none) (qa : F a = some (.lst us)) (g : A2 (rep K F) us l) (qt : F t = some (.tup [.str ("looks" : Str), .ref a, z])) (r : rep K F z o) : Q (.ref t) H := by
  obtain ⟨F', s', w', k'⟩ := W.unlend1 w s na qa
  have kt : ∀ b vs, F b = some (.tup vs) → F' b = some (.tup vs) := fun b vs e => by
    rw [k' b fun z => by rw [z, qa] at e; cases e]
    exact e
  exact h t a z us F' H w' s' (kt _ _ qt) (A2.imp (fun _ _ r => r) g) (otRep_tup kt r)
end Z
/-! ZF: dicts of tuple keys: setdefault, what is walked of them (keys, pairs), values of any kind -/
namespace L2
open PySem PySem.Spec PyProof.Rows
section
variable {X : Cx} {pins : List (Addr × Obj)} {σ : St} {H : Hp} {s : Shared} {a b : Addr} {A : Around} {E : Value → Shared → Prop}
/-- setdefault, the key a tuple -/
theorem dT_setd {kvs : List (List Key × V)} {k : List Key} {y : V} {r : Value} {Q : Value → Shared → Prop} (room : A.units + 1 < cLine) (I : Inv X pins σ H s) (at_ : H a = some (.dT kvs)) (key : H b = some (.tup (k.map kV))) (val : RelV y r) (few : kvs.length < sizeLine)
    (there : ∀ x, valV kvs k = some x → ∀ (u : Value) (s' : Shared), Inv X pins σ H s' → RelV x u → Q u s') (made : valV kvs k = none → ∀ (u : Value) (s' : Shared), Inv X pins σ (upd H a (.dT (putK kvs k y))) s' → RelV y u → Q u s') :
    wpAny (model X.prog X.w) A (call (.builtin "dict.setdefault") [.ref a, .ref b, r]) Q E s := by
  obtain ⟨z, hs, rows, rel, dd⟩ := dt_of I.hok at_
  have rowsFew : rows.length ≤ sizeLine := by
    have := Paired.length rel
    omega
  have newFew : (putK kvs k y).length ≤ sizeLine := by
    have := length_putK kvs k y
    omega
  have q := rel.val k
  refine call_setdefault_heap (hsz := rowsFew) (tupleKind_room_in1 room) (key_of I.hok key) hs dd (fun p hp => ?_) fun hn h2 dd2 same => ?_
  · rw [hp] at q
    cases e : valV kvs k with
    | some x =>
      rw [e] at q
      exact there x e _ _ (I.tok _) q
    | none =>
      rw [e] at q
      exact (show False from q).elim
  · rw [hn] at q
    cases e : valV kvs k with
    | some x =>
      rw [e] at q
      exact (show False from q).elim
    | none =>
      obtain ⟨ob, es, ep, g1, g2, g3, g4, _, g5⟩ := dd2
      have kept : KT (upd H a (.dT (putK kvs k y))) (putK kvs k y) (storedH rows k b r) := (rel.put k key val).keeps fun c ys ec => by
        rw [upd_ne (ne_of ec at_ (fun z => nomatch z))]
        exact ec
      exact made e _ _ (d_write (ob := .dT (putK kvs k y)) I (by rw [at_]; exact True.intro) same ⟨ob, g1⟩ ⟨newFew, hs, _, kept, ob, es, ep, g1, g2, g3, g4, g5⟩) val
end
/-- what setdefault leaves -/
def setdK (kvs : List (List Key × V)) (k : List Key) (v : V) : List (List Key × V) := if (valV kvs k).isSome = true then kvs else putK kvs k v
/-- o.setdefault(k, x), the answer dropped -/
def tDSetdU (to tk tx : TE) : TE := fun σ H Q => to σ H fun o H1 => ∃ a, o = .ref a ∧ IsD H1 a ∧ tk σ H1 fun y H2 => tx σ H2 fun z H3 => ∃ (kvs : List (List Key × V)) (k : List Key) (b : Addr), H3 a = some (.dT kvs) ∧ y = .ref b ∧ H3 b = some (.tup (k.map kV)) ∧ kvs.length < sizeLine ∧
  ∀ x, Q x (upd H3 a (.dT (setdK kvs k z)))
theorem upd_id {H : Hp} {a : Addr} {o : HO} (h : H a = some o) : upd H a o = H := by
  funext b
  by_cases e : b = a
  · rw [e, upd_same, h]
  · rw [upd_ne e]
section
variable {X : Cx} {o e f : Expr} {to tk tx : TE} {apos cpos : Pos}
theorem pe_dsetdU (room : X.A.units + 1 < cLine) (ho : PE X o to) (he : PE X e tk) (hf : PE X f tx) (m : M2 X o "setdefault" apos e f cpos) : PE X (.Call (.Attribute o "setdefault" apos) [e, f] [] cpos) (tDSetdU to tk tx) := ⟨fun pins s σ H Q I h => by
  refine wpAny_Call_method m.base m.few m.line PySem.F.plainAttrs_dict F.slot_dict_setdefault F.type_dict_setdefault (thn (ho.run pins s σ H _ I h) fun u1 s1 hu1 => ?_)
  obtain ⟨v1, H1, I1, r1, a, rfl, d, q1⟩ := hu1
  obtain rfl : u1 = Value.ref a := r1
  refine ⟨(isD_at I1 d).1, (isD_at I1 d).2.1, ?_⟩
  rw [m.trees]
  refine Calls.callWith_builtin rfl (Calls.evalArgs_plain (Calls.spliced_cons (thn (he.run pins s1 σ H1 _ I1 q1) fun u2 s2 hu2 => ?_)))
  obtain ⟨v2, H2, I2, r2, q2⟩ := hu2
  refine Calls.spliced_cons (thn (hf.run pins s2 σ H2 _ I2 q2) fun u3 s3 hu3 => Calls.spliced_nil ?_)
  obtain ⟨v3, H3, I3, r3, kvs, k, b, at_, rfl, key, few, q3⟩ := hu3
  obtain rfl : u2 = Value.ref b := r2
  refine dT_setd room I3 at_ key r3 few (fun x hx w4 s4 I4 r4 => ⟨x, H3, I4, r4, ?_⟩) fun hx w4 s4 I4 r4 => ⟨v3, _, I4, r4, ?_⟩
  · have z := q3 x
    unfold setdK at z
    rw [hx, if_pos (show (some x).isSome = true from rfl), upd_id at_] at z
    exact z
  · have z := q3 v3
    unfold setdK at z
    rw [hx, if_neg (by simp)] at z
    exact z⟩
end
/-! ### the pairs of a locked dict -/
/-- each a new tuple: the key's own tuple, the value -/
def ItiT (d : Addr) (o : Obj) (kvs : List (List Key × V)) : It :=
  ⟨fun i H => H d = some (.frz o (.dT kvs)) ∧ i < kvs.length, fun i H x H' => ∃ T q k v, kvs[i]? = some (k, v) ∧ H q = some (.tup (k.map kV)) ∧ x = .ref T ∧ H T = none ∧ H' = upd H T (.tup [.ref q, v]), fun i H => H d = some (.frz o (.dT kvs)) ∧ kvs.length ≤ i⟩
section
variable {X : Cx} {pins : List (Addr × Obj)} {σ : St} {H : Hp} {s : Shared} {d : Addr} {o : Obj}
theorem Inv.frzTP {kvs : List (List Key × V)} (I : Inv X pins σ H s) (h : H d = some (.frz o (.dT kvs))) :
    (d == sysModules) = false ∧ s.heap.get? d = some o ∧ o.ExactDict ∧ ∃ (es : Array DictEntry) (ep : Nat), o.data = .dict es ep ∧ es.size = kvs.length ∧
      ∀ (i : Nat) (k : List Key) (v : V), kvs[i]? = some (k, v) → ∃ (en : DictEntry) (q : Addr), es[i]? = some en ∧ en.key = .ref q ∧ H q = some (.tup (k.map kV)) ∧ RelV v en.val := by
  obtain ⟨look, few, big, rows, pr, o2, es, ep, look2, exact_, dat, ents, _⟩ := I.hok d _ h
  obtain rfl : o2 = o := by
    rw [look] at look2
    exact (Option.some.inj look2).symm
  refine ⟨big, look, exact_, es, ep, dat, ?_, fun i k v e => ?_⟩
  · have := size_of_entries ents
    have := Paired.length pr
    omega
  · obtain ⟨row, hrow, _, e2, e3⟩ := paired_get pr e
    have q := entry_at ents i
    rw [hrow] at q
    exact ⟨_, row.2.1, q, rfl, e2, e3⟩
end
section
variable {P : Program} {w : World} {K : PySem.W.Frag} {d : Addr} {o : Obj} {es : Array DictEntry} {ep : Nat} {elts : List Expr} {kk : Nat} {tpos : Pos}
theorem turn_itemsT {kvs : List (List Key × V)} (it : Addr) (dat : o.data = .dict es ep) :
    Turn P w K (.Tuple elts kk tpos) (ItiT d o kvs) [it] it (fun i h => ∃ ok ov, IsItemIter h it d i kvs.length ep ok ov) where
  mem := List.mem_singleton.mpr rfl
  obj := fun i h st b hb => by
    obtain rfl := List.mem_singleton.mp hb
    obtain ⟨ok, ov, e⟩ := st
    exact ⟨_, e, fun v z => nomatch z⟩
  keep := fun i h h' st keep => by
    obtain ⟨ok, ov, e⟩ := st
    exact ⟨ok, ov, keep it (List.mem_singleton.mpr rfl) _ e⟩
  item := by
    intro X hP hw hK hc i pins s σ H E I free st hg
    subst hP hw hK
    obtain ⟨at_, few⟩ := hg
    obtain ⟨big, look, exact_, es2, ep2, dat2, size, ents⟩ := I.frzTP at_
    obtain ⟨rfl, rfl⟩ := dict_ep dat dat2
    obtain ⟨⟨k, v⟩, hkv⟩ : ∃ p, kvs[i]? = some p := ⟨kvs[i], List.getElem?_eq_getElem few⟩
    obtain ⟨en, q, hen, ekey, hq, rv⟩ := ents i k v hkv
    have hil : i < es2.size := by omega
    have een : es2[i] = en := by
      rw [Array.getElem?_eq_getElem hil] at hen
      exact Option.some.inj hen
    obtain ⟨ok, ov, he⟩ := st
    rw [← size] at he
    have under : it < s.heap.objs.size := Heap.lt_size he
    refine wpAny_pyNext_items_item_raw he ⟨o, look, exact_, dat2⟩ hil fun h2 ho hT hz hk => ?_
    refine ⟨_, rfl, wpAny_letOwnedTupleGo_items (s := { s with heap := h2 }) ho fun h3 he3 sb => ?_⟩
    rw [een] at hT
    have hT3 : h3.get? s.heap.objs.size = some { cls := .type "tuple", data := .seq #[en.key, en.val] } := (sb.2 _ (Nat.ne_of_gt under)).trans hT
    have new : ObjOk X.prog X.w (upd H s.heap.objs.size (.tup [.ref q, v])) h3 s.heap.objs.size (.tup [.ref q, v]) :=
      ⟨by show 2 ≤ sizeLine; decide, [en.key, en.val], .cons ekey (.cons rv .nil), ⟨_, hT3, rfl, _, rfl⟩⟩
    have I1 : Inv X pins σ (upd H s.heap.objs.size (.tup [.ref q, v])) { s with heap := h3 } :=
      I.turnedNew (t' := s.toks) (ch := [it]) (fun c ob hb e => (sb.2 c (fun z => hb (List.mem_singleton.mpr z))).trans (hk c ob (fun z => hb (List.mem_singleton.mpr z)) e)) free (Nat.le_refl _) new
    refine ⟨.ref s.heap.objs.size, _, I1, rfl, ⟨_, q, k, v, hkv, hq, rfl, I.hok.fresh (Nat.le_refl _), rfl⟩, ⟨es2[i].key, es2[i].val, ?_⟩, fun c hc => ?_⟩
    · rw [← size]
      exact he3
    · obtain rfl := List.mem_singleton.mp hc
      rw [upd_ne (Nat.ne_of_lt under)]
      exact (free c (List.mem_singleton.mpr rfl)).1
  done := by
    intro X hP hw hK hc i pins s σ H E I free st hg
    subst hP hw hK
    obtain ⟨at_, few⟩ := hg
    obtain ⟨f0, f1, f2, f3, f4, f5⟩ := free it (List.mem_singleton.mpr rfl)
    obtain ⟨big, look, exact_, es2, ep2, dat2, size, ents⟩ := I.frzTP at_
    obtain ⟨rfl, rfl⟩ := dict_ep dat dat2
    obtain ⟨ok, ov, he⟩ := st
    rw [← size] at he
    exact wpAny_pyNext_items_end_raw (I.ok.hd hc) he ⟨o, look, exact_, dat2⟩ (by omega) fun h2 eb => ⟨rfl, I.turned (t' := s.toks) (fun c ob hb e => eb c ob hb e) f0 f1 f3 f4 f5⟩
  self := fun A i s Q E st h => by
    obtain ⟨_, _, e⟩ := st
    exact PySem.W.kcp_self e h
end
/-- d.items(), d of tuple keys, locked from there on; locked already -/
def iItemsT (td : TE) : TI := fun σ H R => td σ H fun x H1 => ∃ d kvs, x = .ref d ∧ H1 d = some (.dT kvs) ∧ ∀ od, R (ItiT d od kvs) (upd H1 d (.frz od (.dT kvs)))
section
variable {X : Cx} {tg e : Expr} {td : TE} {apos cpos : Pos}
theorem pi_itemsT {elts : List Expr} {kk : Nat} {tpos : Pos} (he : PE X e td) (hbase : attributeBase e "items" X.env (eval e X.env) = eval e X.env := by rfl) (hline : (apos.endLine == cpos.line) = true := by rfl) :
    PI X (.Tuple elts kk tpos) (.Call (.Attribute e "items" apos) [] [] cpos) (iItemsT td) := ⟨fun pins s σ H R I h => by
  refine wpAny_Call_method (T := "dict") (id := "dict.items") hbase rfl hline F.plainAttrs_dict F.slot_dict_items F.type_dict_items (thn (he.run pins s σ H _ I h) fun u s1 hu => ?_)
  obtain ⟨x, H0, I0, rx, d, kvs, rfl, at0, q0⟩ := hu
  obtain rfl : u = Value.ref d := rx
  obtain ⟨od, I1⟩ := I0.lock at0 (by exact True.intro)
  have q := q0 od
  have at1 : upd H0 d (.frz od (.dT kvs)) d = some (.frz od (.dT kvs)) := upd_same
  obtain ⟨big, look, exact_, es, ep, dat, size, ents⟩ := I1.frzTP at1
  have raw : s1.heap.DictRaw d es ep := ⟨od, look, exact_, dat⟩
  refine ⟨raw.typeIs, fun c hc => ?_, ?_⟩
  · cases hc
    exact ⟨od, look, exact_.2.1⟩
  have I2 : Inv X pins σ (upd H0 d (.frz od (.dT kvs))) { s1 with heap := s1.heap.push { cls := .type "dict_items", data := .fields #[.ref d] } } := I1.kept (t' := s1.toks) fun c ob z => Heap.get?_push_of_some _ z
  have fin : wpAny (model X.prog X.w) X.A (pyIter (.ref s1.heap.objs.size)) (PIE X pins σ (.Tuple elts kk tpos) R) X.xe { s1 with heap := s1.heap.push { cls := .type "dict_items", data := .fields #[.ref d] } } := by
    refine wpAny_pyIter_items_raw (d := d) (es := es) (ep := ep) ⟨_, Heap.get?_push_size _ rfl, rfl, rfl⟩ (raw.at fun c z => Heap.get?_push_of_some _ z) (pi_one (tk := s1.toks) I2 _ (turn_itemsT _ dat) ⟨.none, .none, ?_⟩ q)
    rw [← size]
    exact Heap.get?_push_size _ rfl
  show wpAny _ _ (callWith cpos (.builtin "dict.items") [.ref d] [] []) _ X.xe s1
  exact method_meetsIn F.slot_dict_items F.entry_dict_items rfl (PySem.evalArgs_none ⟨rfl, raw.typeIs, F.args_dict_items_1 _, _, meets_dict_items_raw d big, ⟨es, ep, raw⟩, fin⟩)⟩
end
end L2
namespace Z
open PySem L2
open Rep (rep)
section
variable {K : Fg} {d : Addr} {o : Obj} {β : Type} {r : V → β → Prop} {kvs : List (List Key × V)} {m : List (Tup Int × β)}
theorem AD.both {κ γ : Type} {e : κ → γ} : ∀ {kvs : List (γ × V)} {m : List (κ × β)}, AD e r kvs m → ∀ {i : Nat} {k : γ} {v : V}, kvs[i]? = some (k, v) → ∃ p, m[i]? = some p ∧ k = e p.1 ∧ r v p.2
  | _, _, .nil, i, k, v, h => by simp at h
  | _, _, .cons (k := j) (v := u) (x := x) a t, 0, k, v, h => by
    simp at h
    obtain ⟨rfl, rfl⟩ := h
    exact ⟨(j, x), rfl, rfl, a⟩
  | _, _, .cons a t, i + 1, k, v, h => by
    obtain ⟨p, h1, h2⟩ := AD.both t (i := i) (k := k) (v := v) (by simpa using h)
    exact ⟨p, by simpa using h1, h2⟩
theorem kT_ints (t : Tup Int) : (kT t).map kV = t.l.map V.int := by
  unfold kT
  rw [List.map_map]
  rfl
/-- the pairs: a new tuple of the key's own tuple and the value -/
theorem tw_itemsT (h : AD kT r kvs m) : TW (ItiT d o kvs) m (fun H => H d = some (.frz o (.dT kvs))) (fun b H x H' => ∃ T q v, x = .ref T ∧ H T = none ∧ H q = some (.tup (b.1.l.map V.int)) ∧ H' = upd H T (.tup [.ref q, v]) ∧ r v b.2) := ⟨by
  rw [← h.length]
  refine ⟨fun _ _ hi q => ⟨q, hi⟩, fun _ q => ⟨q, Nat.le_refl _⟩, fun i H x H' _ _ y => ?_⟩
  obtain ⟨T, q, k, v, hk, hq, e1, e2, e3⟩ := y
  obtain ⟨p, h1, h2, h3⟩ := h.both hk
  rw [h2, kT_ints] at hq
  exact ⟨p, h1, T, q, v, e1, e2, hq, e3, h3⟩⟩
theorem tw_keysT (h : AD kT r kvs m) : TW (Itkt d o kvs) (m.map (·.1)) (fun H => H d = some (.frz o (.dT kvs))) (fun b H x H' => H' = H ∧ ∃ q, x = .ref q ∧ H q = some (.tup (b.l.map V.int))) := ⟨by
  rw [List.length_map, ← h.length]
  refine ⟨fun _ _ hi q => ⟨q, hi⟩, fun _ q => ⟨q, Nat.le_refl _⟩, fun i H x H' _ _ y => ?_⟩
  obtain ⟨e, k, v, q, hk, e1, hq⟩ := y
  obtain ⟨p, h1, h2, h3⟩ := h.both hk
  rw [h2, kT_ints] at hq
  exact ⟨p.1, by rw [List.getElem?_map, h1]; rfl, e, q, e1, hq⟩⟩
end
section
variable {κ β : Type} [DecidableEq κ]
def msetd (m : List (κ × β)) (k : κ) (v : β) : List (κ × β) := if mhas m k = true then m else mput m k v
def msetdR (m : List (κ × β)) (k : κ) (v : β) : R (List (κ × β)) := if m.length < 100000 then .ok (msetd m k v) else .bad
theorem pn_msetd {δ : Type} {m : List (κ × β)} {k : κ} {v : β} {f : List (κ × β) → R δ} {P : δ → Prop} {E : Exn → Prop} (h : Post (msetdR m k v >>= f) P E) : ∃ m', m.length < sizeLine ∧ m' = msetd m k v ∧ Post (f m') P E := by
  unfold msetdR at h
  by_cases hl : m.length < 100000
  · rw [if_pos hl] at h
    exact ⟨_, by rw [sizeLine_eq]; omega, rfl, h⟩
  · rw [if_neg hl] at h
    exact (show False from h).elim
theorem po_msetd {δ : Type} {m : List (κ × β)} {k : κ} {v : β} {f : List (κ × β) → R δ} {S : δ → Prop} {X : Exn → Prop} (h : m.length < 100000) (hk : Post (f (msetd m k v)) S X) : Post (msetdR m k v >>= f) S X := by
  unfold msetdR
  rw [if_pos h]
  exact hk
end
theorem AD.setd {β : Type} {r : V → β → Prop} {kvs : List (List Key × V)} {m : List (Tup Int × β)} {k : Tup Int} {v : V} {x : β} (h : AD kT r kvs m) (hv : r v x) : AD kT r (setdK kvs (kT k) v) (msetd m k x) := by
  unfold setdK msetd
  rw [h.no kT_inj]
  split
  · exact h
  · exact h.put kT_inj hv
theorem W.reho {F H : Hp} {pre post : List (Addr × HO)} {a : Addr} {o o' : HO} (w : W F H (pre ++ (a, o) :: post)) (e : o = o') : W F H (pre ++ (a, o') :: post) := e ▸ w
end Z
/-! ZC: texts as data; what is an int or a text -/
namespace Z
open PySem L2 PySem.Spec PyProof.Rows
open Rep (rep)
instance : NonN Exn := ⟨fun {K H v x} h q => by
  obtain ⟨a, C, e, _⟩ := h
  rw [e] at q
  cases q⟩
structure Txt where
  t : Str
  ok : PyData.strOk t = true
  deriving DecidableEq
inductive IoS where
  | i (n : Int)
  | s (t : Txt)
  deriving DecidableEq
instance repIoS : Rep IoS := ⟨fun K H v x => match x with
  | .i n => v = .int n
  | .s t => v = .str t.t, fun {_ _ _ _ x} s h => by
    cases x with
    | i n => exact h
    | s t => exact h⟩
instance datIoS : Dat IoS where
  toD := fun x => match x with
    | .i n => .int n
    | .s t => .str t.t
  dmax := 0
  dp := fun {K H v x} h => by
    cases x with
    | i n =>
      have h' : v = V.int n := h
      subst h'
      exact .int _
    | s t =>
      have h' : v = V.str t.t := h
      subst h'
      exact .str _
  lay := fun x => by
    cases x with
    | i n => simp only [PyData.canLay0]
    | s t =>
      simp only [PyData.canLay0]
      exact t.ok
  dep := fun x => by cases x <;> simp only [PyData.depth, Nat.le_refl]
  eqv := fun x y => by
    cases x with
    | i n => cases y <;> simp [PyData.eqv]
    | s t =>
      cases y with
      | i n => simp [PyData.eqv]
      | s u =>
        obtain ⟨t, ht⟩ := t
        obtain ⟨u, hu⟩ := u
        simp [PyData.eqv]
end Z
/-! YH: anything: what is in a list that is only counted; d.get(k, x) of a dict with tuples of ints for keys and any frozen values -/
namespace Z
open PySem L2 PySem.Spec PyProof.Rows
open Rep (rep)
inductive An where
  | a
  deriving DecidableEq
instance repAn : Rep An := ⟨fun _ _ _ _ => True, fun _ _ => trivial⟩
section
variable {κ β γ : Type} [DecidableEq κ] [DecidableEq γ] {e : κ → γ} {r : V → β → Prop}
theorem AD.getD (he : ∀ a b, e a = e b → a = b) {k : κ} {v : V} {x : β} (h : r v x) : ∀ {kvs : List (γ × V)} {m : List (κ × β)}, AD e r kvs m → ∃ u, (valV kvs (e k)).getD v = u ∧ r u ((mget m k).getD x)
  | _, _, .nil => ⟨v, rfl, h⟩
  | _, _, .cons (k := j) (v := w) (x := y) (kvs := kvs) (m := m) a t => by
    unfold mget
    by_cases q : j = k
    · rw [List.find?_cons_of_pos (by simpa using q), valV_pos (congrArg e q)]
      exact ⟨w, rfl, a⟩
    · rw [List.find?_cons_of_neg (by simpa using q), valV_neg (fun z => q (he _ _ z))]
      exact AD.getD he h t
end
end Z
/-! YI: dicts of tuple keys that stay from some statement on (locked, FzT); len of them; tuples turned about; what a hunt tells (Hs) -/
namespace L2
open PySem PySem.Spec PyProof.Rows
end L2
namespace Z
open PySem L2 PySem.Spec PyProof.Rows
open Rep (rep)
/-- a dict of tuple keys that stays -/
structure FzT (α : Type) where
  m : List (Tup Int × α)
instance repFT {α : Type} [Rep α] : Rep (FzT α) := ⟨fun K F v x => ∃ (a : Addr) (o : Obj) (kvs : List (List L2.Key × V)), v = .ref a ∧ F a = some (.frz o (.dT kvs)) ∧ AD kT (rep K F) kvs x.m, fun s ⟨a, o, kvs, e, q, h⟩ => ⟨a, o, kvs, e, s _ _ q, AD.imp (fun _ _ => Rep.mono s) h⟩⟩
/-- what hunt_or_shelter tells -/
abbrev HRow : Type := Nt (Tup Int × Tup Int × Int × Unit)
inductive Hs where
  | hunt (l : List HRow)
  | shelter (l : List (Tup Int))
  deriving DecidableEq
def Hs.w : Hs → Str
  | .hunt _ => "hunt"
  | .shelter _ => "shelter"
structure Hb where
  h : Hs
instance repHb : Rep Hb := ⟨fun K F v x => match x.h with | .hunt l => rep K F v l | .shelter l => rep K F v l, fun {K H H' v x} s h => by
  obtain ⟨x⟩ := x
  cases x with
  | hunt l => exact Rep.mono (α := List HRow) s h
  | shelter l => exact Rep.mono (α := List (Tup Int)) s h⟩
instance repHs : Rep Hs := ⟨fun K F v x => ∃ a u, v = .ref a ∧ F a = some (.tup [.str x.w, u]) ∧ rep K F u (Hb.mk x), fun s ⟨a, u, e, q, h⟩ => ⟨a, u, e, s _ _ q, Rep.mono s h⟩⟩
end Z
/-! YL: what is told by a tuple whose list is the caller's own; a walk that parts into two from a statement on -/
namespace L2
open PySem PySem.Spec PyProof.Rows
/-- either of two wishes for the same statements -/
theorem pss_or {X : Cx} {body : List Stmt} {t1 t2 : TS} (h1 : PSs X body t1) (h2 : PSs X body t2) : PSs X body (fun D σ H => t1 D σ H ∨ t2 D σ H) :=
  ⟨fun pins s σ H D I h => h.elim (h1.run pins s σ H D I) (h2.run pins s σ H D I)⟩
end L2
namespace Z
open PySem PySem.Spec PyProof.Rows L2
open Rep (rep)
instance datHs : Dat Hs where
  toD := fun x => match x with
    | .hunt l => .tuple [.str ("hunt" : Str), Dat.toD l]
    | .shelter l => .tuple [.str ("shelter" : Str), Dat.toD l]
  dmax := max (Dat.dmax (List HRow)) (Dat.dmax (List (Tup Int))) + 1
  dp := fun {K H v x} h => by
    cases x with
    | hunt l =>
      obtain ⟨a, u, rfl, q, r⟩ := h
      exact .tup (SqT.of q) (.cons (.str _) (.cons (Dat.dp (show rep K H u l from r)) .nil))
    | shelter l =>
      obtain ⟨a, u, rfl, q, r⟩ := h
      exact .tup (SqT.of q) (.cons (.str _) (.cons (Dat.dp (show rep K H u l from r)) .nil))
  lay := fun x => by
    cases x with
    | hunt l =>
      simp only [PyData.canLay0, PyData.canLayAll0, Dat.lay, Bool.and_true]
      decide +kernel
    | shelter l =>
      simp only [PyData.canLay0, PyData.canLayAll0, Dat.lay, Bool.and_true]
      decide +kernel
  dep := fun x => by
    cases x with
    | hunt l =>
      have := Dat.dep l
      simp only [PyData.depth, PyData.depthAll]
      omega
    | shelter l =>
      have := Dat.dep l
      simp only [PyData.depth, PyData.depthAll]
      omega
  eqv := fun x y => by
    cases x with
    | hunt l =>
      cases y with
      | hunt l' => simp only [PyData.eqv, PyData.eqvAll, Bool.and_true, Bool.and_eq_true, Dat.eqv, Hs.hunt.injEq]; simp
      | shelter l' =>
        simp only [PyData.eqv, PyData.eqvAll, Bool.and_true, Bool.and_eq_true]
        simp only [reduceCtorEq, iff_false, not_and]
        intro h
        exact absurd h (by decide +kernel)
    | shelter l =>
      cases y with
      | shelter l' => simp only [PyData.eqv, PyData.eqvAll, Bool.and_true, Bool.and_eq_true, Dat.eqv, Hs.shelter.injEq]; simp
      | hunt l' =>
        simp only [PyData.eqv, PyData.eqvAll, Bool.and_true, Bool.and_eq_true]
        simp only [reduceCtorEq, iff_false, not_and]
        intro h
        exact absurd h (by decide +kernel)
end Z
/-! Z8: set(list of ints), sorted of it; list.count of data; list.insert -/
namespace L2
open PySem PySem.Spec PyProof.Rows
end L2
namespace Z
open PySem L2
open Rep (rep)
/-- xs.insert(i, y), i not below nought -/
def insR {α : Type} (xs : List α) (i : Int) (y : α) : R (List α) := if xs.length < 100000 ∧ 0 ≤ i ∧ i < 9223372036854775808 then .ok (xs.take i.toNat ++ [y] ++ xs.drop i.toNat) else .bad
theorem pn_ins {α δ : Type} {xs : List α} {i : Int} {y : α} {f : List α → R δ} {P : δ → Prop} {E : Exn → Prop} (h : Post (insR xs i y >>= f) P E) : ∃ l, (xs.length < 100000 ∧ 0 ≤ i ∧ i < 9223372036854775808) ∧ l = xs.take i.toNat ++ [y] ++ xs.drop i.toNat ∧ Post (f l) P E := by
  unfold insR at h
  by_cases q : xs.length < 100000 ∧ 0 ≤ i ∧ i < 9223372036854775808
  · rw [if_pos q] at h
    exact ⟨_, q, rfl, h⟩
  · rw [if_neg q] at h
    exact (show False from h).elim
theorem A2.ins {α : Type} {r : V → α → Prop} {v : V} {y : α} (n : Nat) {vs : List V} {xs : List α} (h : A2 r vs xs) (g : r v y) : A2 r (vs.take n ++ [v] ++ vs.drop n) (xs.take n ++ [y] ++ xs.drop n) := A2.append (A2.append (A2.take n h) (.cons g .nil)) (A2.drop n h)
theorem line_ins {α : Type} {r : V → α → Prop} {vs : List V} {xs : List α} (h : A2 r vs xs) (g : xs.length < 100000) : vs.length < sizeLine := by
  rw [h.length]
  exact Nat.lt_of_lt_of_le g line5
end Z
namespace Z
open PySem L2
open Rep (rep)
/-- a dict that stays as it is -/
structure FzD (κ β : Type) where
  m : List (κ × β)
  deriving DecidableEq
instance repFD : Rep (FzD Int Int) := ⟨fun K H v d => ∃ a, v = .ref a ∧ H a = some (.dK (encM kI V.int d.m)), fun s ⟨a, e, q⟩ => ⟨a, e, s _ _ q⟩⟩
end Z
namespace Z
open PySem L2
open Rep (rep)
end Z
namespace Z
open PySem L2
open Rep (rep)
section
variable {X : Cx} {K : Fg} {F H : Hp}
theorem A2.some {α : Type} [Rep α] {vs : List V} {xs : List α} (h : A2 (rep K F) vs xs) : A2 (rep K F) vs (xs.map Option.some) := by
  induction h with
  | nil => exact .nil
  | cons a _ ih => exact .cons (rep_some a) ih
end
end Z
/-! ZM: lemmas about mirrors -/
namespace Z
open PySem L2
section
variable {α β γ : Type}
theorem mapR_ok {f : α → R β} {g : α → β} : ∀ {xs : List α}, (∀ x ∈ xs, f x = R.ok (g x)) → mapR f xs = R.ok (xs.map g)
  | [], _ => rfl
  | x :: xs, h => by
    show (f x >>= fun y => mapR f xs >>= fun ys => R.ok (y :: ys)) = _
    rw [h x List.mem_cons_self, mapR_ok fun y hy => h y (List.mem_cons_of_mem _ hy)]
    rfl
theorem mapG_ok {f : α → R β} {g : α → β} {xs : List α} (hl : xs.length < 100000) (h : ∀ x ∈ xs, f x = R.ok (g x)) : mapG f xs = R.ok (xs.map g) := by
  unfold mapG
  rw [grd_t (decide_eq_true hl)]
  exact mapR_ok h
theorem filR_ok {f : α → R (Option β)} {g : α → Option β} : ∀ {xs : List α}, (∀ x ∈ xs, f x = R.ok (g x)) → filR f xs = R.ok (xs.filterMap g)
  | [], _ => rfl
  | x :: xs, h => by
    show (f x >>= fun o => filR f xs >>= fun ys => match o with
      | some y => R.ok (y :: ys)
      | none => R.ok ys) = _
    rw [h x List.mem_cons_self, filR_ok fun y hy => h y (List.mem_cons_of_mem _ hy)]
    show (match g x with
      | some y => R.ok (y :: xs.filterMap g)
      | none => R.ok (xs.filterMap g)) = R.ok ((x :: xs).filterMap g)
    rw [List.filterMap_cons]
    cases g x <;> rfl
theorem filG_ok {f : α → R (Option β)} {g : α → Option β} {xs : List α} (hl : xs.length < 100000) (h : ∀ x ∈ xs, f x = R.ok (g x)) : filG f xs = R.ok (xs.filterMap g) := by
  unfold filG
  rw [grd_t (decide_eq_true hl)]
  exact filR_ok h
theorem getI_nat {xs : List α} {i : Int} (h0 : 0 ≤ i) (h1 : i < xs.length) : ∃ x, getI xs i = R.ok x ∧ x ∈ xs ∧ xs[i.toNat]? = some x := by
  have hj : i.toNat < xs.length := by omega
  refine ⟨xs[i.toNat], ?_, List.getElem_mem hj, List.getElem?_eq_getElem hj⟩
  unfold getI
  have e : atI xs i = some xs[i.toNat] := by
    have := atI_nat (xs := xs) (j := i.toNat) (v := xs[i.toNat]) (List.getElem?_eq_getElem hj)
    rw [Int.toNat_of_nonneg h0] at this
    exact this
  rw [e]
  rfl
theorem getI_eq {xs : List α} {i : Int} {x : α} (h0 : 0 ≤ i) (h : xs[i.toNat]? = some x) : getI xs i = R.ok x := by
  have h1 := (List.getElem?_eq_some_iff.mp h).1
  obtain ⟨y, e, _, e2⟩ := getI_nat (xs := xs) (i := i) h0 (by omega)
  rw [h] at e2
  cases e2
  exact e
theorem setI_nat {xs : List α} {i : Int} {x : α} (h0 : 0 ≤ i) (h1 : i < xs.length) : setI xs i x = R.ok (xs.set i.toNat x) := by
  have e : ixN xs.length i = some i.toNat := by
    unfold ixN
    rw [if_pos h0, if_pos h1]
  unfold setI
  rw [e]
theorem app_ok {xs : List α} {x : α} (h : xs.length < 100000) : app xs x = R.ok (xs ++ [x]) := by
  unfold app
  rw [if_pos h]
theorem extend_ok {xs ys : List α} (h : xs.length + ys.length < 100000) : extend xs ys = R.ok (xs ++ ys) := by
  unfold extend
  rw [if_pos h]
theorem modI_ok {i j : Int} (h : 0 < j) : modI i j = R.ok (i % j) := by
  unfold modI
  rw [if_pos h]
theorem divI_okW {i j : Int} (h : 0 < j) (h2 : j.natAbs.log2 < 9000) : divI i j = R.ok (i / j) := by
  unfold divI
  rw [if_pos ⟨h, h2⟩]
theorem divI_ok {i j : Int} (h : 0 < j) (h2 : j < 1073741824) : divI i j = R.ok (i / j) := by
  refine divI_okW h (Nat.lt_of_lt_of_le ((Nat.log2_lt (by omega)).mpr (show j.natAbs < 2 ^ 30 by omega)) (by decide))
theorem rngI_ok {i j : Int} (h1 : -(2 ^ 62) ≤ i) (h2 : i < 2 ^ 62) (h3 : -(2 ^ 62) ≤ j) (h4 : j < 2 ^ 62) : rngI i j = R.ok (rng i j) := by
  unfold rngI
  rw [if_pos ⟨h1, h2, h3, h4⟩]
theorem rng_mem {i j k : Int} : k ∈ rng i j ↔ i ≤ k ∧ k < j := by
  unfold rng
  rw [List.mem_map]
  constructor
  · rintro ⟨n, hn, rfl⟩
    have := List.mem_range.mp hn
    omega
  · intro h
    exact ⟨(k - i).toNat, List.mem_range.mpr (by omega), by omega⟩
/-! ### what holds of a result, step by step -/
section
variable {P Q : α → Prop} {S : β → Prop} {X : Exn → Prop}
theorem po_bind {m : R α} {k : α → R β} (h : Post m Q X) (hk : ∀ a, Q a → Post (k a) S X) : Post (m >>= k) S X := by
  cases m with
  | ok a => exact hk a h
  | exc e => exact h
  | bad => exact h
theorem po_ok {a : α} (h : P a) : Post (R.ok a) P X := h
theorem po_eq {m : R α} {a : α} (h : m = R.ok a) (hp : P a) : Post m P X := by
  rw [h]
  exact hp
theorem po_if {c : Prop} [Decidable c] {m n : R α} (h1 : c → Post m P X) (h2 : ¬ c → Post n P X) : Post (if c then m else n) P X := by
  by_cases h : c
  · rw [if_pos h]
    exact h1 h
  · rw [if_neg h]
    exact h2 h
theorem po_ex {m : R α} (h : Post m P noX) : ∃ a, m = R.ok a ∧ P a := by
  cases m with
  | ok a => exact ⟨a, rfl, h⟩
  | exc e => exact (show False from h).elim
  | bad => exact (show False from h).elim
theorem po_iff {m : R α} {a : α} (h : Post m (· = a) noX) : m = R.ok a := by
  obtain ⟨b, e, rfl⟩ := po_ex h
  exact e
theorem po_get {xs : List α} {i : Int} {k : α → R β} (h0 : 0 ≤ i) (h1 : i < xs.length) (hk : ∀ x, x ∈ xs → xs[i.toNat]? = some x → Post (k x) S X) : Post (getI xs i >>= k) S X := by
  obtain ⟨x, e, h2, h3⟩ := getI_nat h0 h1
  rw [e]
  exact hk x h2 h3
theorem po_getE {xs : List α} {i : Int} {x : α} {k : α → R β} (h : getI xs i = R.ok x) (hk : Post (k x) S X) : Post (getI xs i >>= k) S X := by
  rw [h]
  exact hk
theorem po_set {xs : List α} {i : Int} {x : α} {k : List α → R β} (h0 : 0 ≤ i) (h1 : i < xs.length) (hk : Post (k (xs.set i.toNat x)) S X) : Post (setI xs i x >>= k) S X := by
  rw [setI_nat h0 h1]
  exact hk
theorem po_app {xs : List α} {x : α} {k : List α → R β} (h : xs.length < 100000) (hk : Post (k (xs ++ [x])) S X) : Post (app xs x >>= k) S X := by
  rw [app_ok h]
  exact hk
theorem po_extend {xs ys : List α} {k : List α → R β} (h : xs.length + ys.length < 100000) (hk : Post (k (xs ++ ys)) S X) : Post (extend xs ys >>= k) S X := by
  rw [extend_ok h]
  exact hk
theorem po_mod {i j : Int} {k : Int → R β} (h : 0 < j) (hk : 0 ≤ i % j → i % j < j → Post (k (i % j)) S X) : Post (modI i j >>= k) S X := by
  rw [modI_ok h]
  exact hk (Int.emod_nonneg _ (by omega)) (Int.emod_lt_of_pos _ h)
theorem po_div {i j : Int} {k : Int → R β} (h : 0 < j) (h2 : j < 1073741824) (hk : Post (k (i / j)) S X) : Post (divI i j >>= k) S X := by
  rw [divI_ok h h2]
  exact hk
theorem po_rng {i j : Int} {k : List Int → R β} (h1 : -(2 ^ 62) ≤ i) (h2 : i < 2 ^ 62) (h3 : -(2 ^ 62) ≤ j) (h4 : j < 2 ^ 62) (hk : Post (k (rng i j)) S X) : Post (rngI i j >>= k) S X := by
  rw [rngI_ok h1 h2 h3 h4]
  exact hk
end
end
/-! ### dicts -/
section
variable {κ β : Type} [DecidableEq κ]
theorem mhas_iff {m : List (κ × β)} {k : κ} : mhas m k = true ↔ ∃ p ∈ m, p.1 = k := by
  unfold mhas
  rw [List.any_eq_true]
  constructor
  · rintro ⟨p, h, e⟩
    exact ⟨p, h, of_decide_eq_true e⟩
  · rintro ⟨p, h, e⟩
    exact ⟨p, h, decide_eq_true e⟩
theorem mput_new {m : List (κ × β)} {k : κ} {v : β} (h : mhas m k = false) : mput m k v = m ++ [(k, v)] := by
  unfold mput
  have h' : (m.any fun p => decide (p.1 = k)) = false := h
  rw [h', if_neg (by decide)]
end
end Z
/-! ZG: webs: joined, how far; no program in sight -/
namespace Z
open PySem L2
/-! ### more steps -/
section
variable {α β γ δ : Type} {P Q : α → Prop} {S : β → Prop} {X : Exn → Prop}
/-- a fold, by what is gone through -/
theorem po_foldP {f : β → α → R β} {s : β} {xs : List α} (I : List α → β → Prop) (h0 : I [] s) (hf : ∀ pre s x post, xs = pre ++ x :: post → I pre s → Post (f s x) (I (pre ++ [x])) X) : Post (foldR f s xs) (I xs) X := by
  have key : ∀ (l pre : List α) (s : β), xs = pre ++ l → I pre s → Post (foldR f s l) (I xs) X := by
    intro l
    induction l with
    | nil =>
      intro pre s e h
      rw [List.append_nil] at e
      rw [e]
      exact h
    | cons x l ih =>
      intro pre s e h
      show Post (f s x >>= fun s' => foldR f s' l) _ X
      exact po_bind (hf pre s x l e h) fun s' h' => ih (pre ++ [x]) s' (by rw [e, List.append_assoc]; rfl) h'
  exact key xs [] s rfl h0
/-- items for items with a state, by what is made -/
theorem po_mapStA {f : γ → α → R (β × γ)} {s : γ} {xs : List α} (I : List α → List β → γ → Prop) (hl : xs.length < 100000) (h0 : I [] [] s)
    (hf : ∀ pre acc s x post, xs = pre ++ x :: post → I pre acc s → Post (f s x) (fun r => I (pre ++ [x]) (acc ++ [r.1]) r.2) X) : Post (mapStG f s xs) (fun r => I xs r.1 r.2) X := by
  unfold mapStG
  rw [grd_t (decide_eq_true hl), ok_bind]
  have key : ∀ (l pre : List α) (acc : List β) (s : γ), xs = pre ++ l → I pre acc s → Post (mapSt f s l) (fun r => I xs (acc ++ r.1) r.2) X := by
    intro l
    induction l with
    | nil =>
      intro pre acc s e h
      rw [List.append_nil] at e
      show I xs (acc ++ []) s
      rw [List.append_nil, e]
      exact h
    | cons x l ih =>
      intro pre acc s e h
      refine po_bind (hf pre acc s x l e h) fun r hr => po_bind (ih (pre ++ [x]) (acc ++ [r.1]) r.2 (by rw [e, List.append_assoc]; rfl) hr) fun q hq => ?_
      show I xs (acc ++ (r.1 :: q.1)) q.2
      rw [List.append_assoc] at hq
      exact hq
  exact key xs [] [] s rfl h0
theorem po_mapGE {f : α → R β} {g : α → β} {xs : List α} {k : List β → R γ} {T : γ → Prop} (hl : xs.length < 100000) (h : ∀ x ∈ xs, f x = R.ok (g x)) (hk : Post (k (xs.map g)) T X) : Post (mapG f xs >>= k) T X := by
  rw [mapG_ok hl h]
  exact hk
theorem po_filGE {f : α → R (Option β)} {g : α → Option β} {xs : List α} {k : List β → R γ} {T : γ → Prop} (hl : xs.length < 100000) (h : ∀ x ∈ xs, f x = R.ok (g x)) (hk : Post (k (xs.filterMap g)) T X) : Post (filG f xs >>= k) T X := by
  rw [filG_ok hl h]
  exact hk
/-- a while: an invariant, a measure -/
theorem po_while {c : γ → R Bool} {b : γ → R γ} {T : γ → Prop} (I : γ → Prop) (μ : γ → Nat)
    (hs : ∀ s, I s → Post (c s) (fun t => (t = true → Post (b s) (fun s' => I s' ∧ μ s' < μ s) X) ∧ (t = false → T s)) X) : ∀ {n : Nat} {s : γ}, I s → μ s < n → Post (whileR c b n s) T X
  | 0, s, _, h => absurd h (Nat.not_lt_zero _)
  | n + 1, s, hi, h => by
    refine po_bind (hs s hi) fun t ⟨h1, h2⟩ => ?_
    cases t with
    | false => exact h2 rfl
    | true => exact po_bind (h1 rfl) fun s' ⟨a, d⟩ => po_while I μ hs a (by omega)
theorem po_getS {st : List (List α)} {j : Nat} {xs : List α} {k : List α → R γ} {T : γ → Prop} (h : st[j]? = some xs) (hk : Post (k xs) T X) : Post (getS st j >>= k) T X := by
  unfold getS
  rw [h]
  exact hk
theorem po_setS {st : List (List α)} {j : Nat} {xs : List α} {k : List (List α) → R γ} {T : γ → Prop} (hk : Post (k (st.set j xs)) T X) : Post (setS st j xs >>= k) T X := hk
theorem po_newS {st : List (List α)} {xs : List α} {k : Nat × List (List α) → R γ} {T : γ → Prop} (hk : Post (k (st.length, st ++ [xs])) T X) : Post (newS st xs >>= k) T X := hk
theorem po_listRng {i j : Int} {k : List Int → R γ} {T : γ → Prop} (h1 : -(2 ^ 62) ≤ i) (h2 : i < 2 ^ 62) (h3 : -(2 ^ 62) ≤ j) (h4 : j < 2 ^ 62) (h5 : (j - i).toNat ≤ 100000) (hk : Post (k (rng i j)) T X) : Post (listRng i j >>= k) T X := by
  unfold listRng
  rw [if_pos ⟨h1, h2, h3, h4, h5⟩]
  exact hk
theorem po_rep {xs : List α} {i : Int} {k : List α → R γ} {T : γ → Prop} (h1 : 0 ≤ i) (h2 : i < 1000) (h3 : xs.length < 100) (hk : Post (k (repL xs i)) T X) : Post (repR xs i >>= k) T X := by
  unfold repR
  have h4 : xs.length * i.toNat ≤ 100 * 1000 := Nat.mul_le_mul (by omega) (by omega)
  have h5 : xs.length * i.toNat < 100000 := by
    have h6 : xs.length * i.toNat ≤ 99 * 999 := Nat.mul_le_mul (by omega) (by omega)
    omega
  rw [if_pos ⟨by omega, by omega, h5⟩]
  exact hk
theorem po_ofO {o : Option α} {x : α} {k : α → R γ} {T : γ → Prop} (h : o = some x) (hk : Post (k x) T X) : Post (ofO o >>= k) T X := by
  rw [h]
  exact hk
end
theorem rng_atE {i j : Int} {k : Nat} (h : k < (j - i).toNat) : (rng i j)[k]? = some (i + k) := rng_get h
theorem rng_nodup (i j : Int) : (rng i j).Nodup := by
  unfold rng
  refine List.Pairwise.map _ (fun a b h => ?_) List.nodup_range
  intro e
  exact h (by omega)
theorem rng_pre {i j x : Int} {pre post : List Int} (h : rng i j = pre ++ x :: post) : x = i + pre.length := by
  have h1 : (rng i j)[pre.length]? = some x := by rw [h]; simp
  have hl : pre.length < (rng i j).length := by rw [h]; simp
  rw [rng_length] at hl
  rw [rng_atE hl] at h1
  cases h1
  rfl
theorem rng_split {i j x : Int} {pre post : List Int} (h : rng i j = pre ++ x :: post) : pre = rng i x ∧ i ≤ x ∧ x < j := by
  have e := rng_pre h
  have hl : (rng i j).length = pre.length + (post.length + 1) := by rw [h]; simp
  rw [rng_length] at hl
  refine ⟨?_, by omega, by omega⟩
  apply List.ext_getElem?
  intro k
  by_cases hk : k < pre.length
  · have h1 : (rng i j)[k]? = pre[k]? := by rw [h, List.getElem?_append_left hk]
    rw [← h1, rng_atE (by omega), rng_atE (by omega)]
  · rw [List.getElem?_eq_none (by omega), List.getElem?_eq_none (by rw [rng_length]; omega)]
theorem rng_snoc {i j : Int} (h : i ≤ j) : rng i (j + 1) = rng i j ++ [j] := by
  apply List.ext_getElem?
  intro k
  by_cases hk : k < (j - i).toNat
  · rw [List.getElem?_append_left (by rw [rng_length]; exact hk), rng_atE hk, rng_atE (by omega)]
  · by_cases hk2 : k = (j - i).toNat
    · rw [List.getElem?_append_right (by rw [rng_length]; omega), rng_atE (by omega), rng_length, hk2]
      simp
      omega
    · rw [List.getElem?_eq_none (by rw [rng_length]; omega), List.getElem?_eq_none (by rw [List.length_append, rng_length]; simp; omega)]
/-! ### joined -/
def Adj (ts : List (Int × Int)) (a b : Int) : Prop := (a, b) ∈ ts ∨ (b, a) ∈ ts
theorem Adj.symm {ts : List (Int × Int)} {a b : Int} (h : Adj ts a b) : Adj ts b a := h.elim .inr .inl
/-- what holds of a place and goes along all ties holds of all places -/
def Conn (n : Int) (ts : List (Int × Int)) : Prop := ∀ S : Int → Prop, S 0 → (∀ p ∈ ts, S p.1 ↔ S p.2) → ∀ k, 0 ≤ k → k < n → S k
theorem Conn.any {n : Int} {ts : List (Int × Int)} (h : Conn n ts) {S : Int → Prop} {r : Int} (r0 : 0 ≤ r) (r1 : r < n) (hr : S r) (hc : ∀ p ∈ ts, S p.1 ↔ S p.2) : ∀ k, 0 ≤ k → k < n → S k := by
  by_cases h0 : S 0
  · exact h S h0 hc
  · exact absurd hr (h (fun k => ¬ S k) h0 (fun p hp => not_congr (hc p hp)) r r0 r1)
theorem Conn.mono {n : Int} {ts us : List (Int × Int)} (h : Conn n ts) (hs : ∀ p ∈ ts, p ∈ us) : Conn n us := fun S h0 hc => h S h0 fun p hp => hc p (hs p hp)
theorem conn_tree {n : Int} {ts : List (Int × Int)} (h : ∀ k, 1 ≤ k → k < n → ∃ j, 0 ≤ j ∧ j < k ∧ Adj ts j k) : Conn n ts := by
  intro S h0 hc
  have key : ∀ (m : Nat) (k : Int), k.toNat ≤ m → 0 ≤ k → k < n → S k := by
    intro m
    induction m with
    | zero =>
      intro k hk k0 _
      rw [show k = 0 by omega]
      exact h0
    | succ m ih =>
      intro k hk k0 k1
      by_cases hz : k = 0
      · rw [hz]; exact h0
      · obtain ⟨j, j0, jk, hj⟩ := h k (by omega) k1
        have hj' := ih j (by omega) j0 (by omega)
        rcases hj with hj | hj
        · exact (hc _ hj).mp hj'
        · exact (hc _ hj).mpr hj'
  exact fun k k0 k1 => key k.toNat k (Nat.le_refl _) k0 k1
/-! ### how far -/
structure IsDist (n : Int) (ts : List (Int × Int)) (p : Int) (f : Int → Int) : Prop where
  zero : f p = 0
  nn : ∀ v, 0 ≤ v → v < n → 0 ≤ f v
  lip : ∀ a b, Adj ts a b → f b ≤ f a + 1
  desc : ∀ v, 0 ≤ v → v < n → v ≠ p → ∃ w, 0 ≤ w ∧ w < n ∧ Adj ts w v ∧ f w + 1 = f v
theorem IsDist.le {n : Int} {ts : List (Int × Int)} {p : Int} {f g : Int → Int} (hf : IsDist n ts p f) (hg : IsDist n ts p g) : ∀ v, 0 ≤ v → v < n → f v ≤ g v := by
  have key : ∀ (m : Nat) (v : Int), (g v).toNat ≤ m → 0 ≤ v → v < n → f v ≤ g v := by
    intro m
    induction m with
    | zero =>
      intro v hm v0 v1
      by_cases hv : v = p
      · rw [hv, hf.zero, hg.zero]; exact Int.le_refl _
      · obtain ⟨w, w0, w1, _, e⟩ := hg.desc v v0 v1 hv
        have := hg.nn w w0 w1
        omega
    | succ m ih =>
      intro v hm v0 v1
      by_cases hv : v = p
      · rw [hv, hf.zero, hg.zero]; exact Int.le_refl _
      · obtain ⟨w, w0, w1, ha, e⟩ := hg.desc v v0 v1 hv
        have h1 := hg.nn w w0 w1
        have h2 := ih w (by omega) w0 w1
        have h3 := hf.lip w v ha
        omega
  exact fun v v0 v1 => key _ v (Nat.le_refl _) v0 v1
theorem IsDist.uniq {n : Int} {ts : List (Int × Int)} {p : Int} {f g : Int → Int} (hf : IsDist n ts p f) (hg : IsDist n ts p g) (v : Int) (v0 : 0 ≤ v) (v1 : v < n) : f v = g v :=
  Int.le_antisymm (hf.le hg v v0 v1) (hg.le hf v v0 v1)
theorem IsDist.level {n : Int} {ts : List (Int × Int)} {p : Int} {f : Int → Int} (hf : IsDist n ts p f) : ∀ (m : Nat) (v : Int), 0 ≤ v → v < n → (f v).toNat = m → ∀ k : Nat, k ≤ m → ∃ w, 0 ≤ w ∧ w < n ∧ f w = k := by
  intro m
  induction m with
  | zero =>
    intro v v0 v1 e k hk
    have := hf.nn v v0 v1
    exact ⟨v, v0, v1, by omega⟩
  | succ m ih =>
    intro v v0 v1 e k hk
    have hv := hf.nn v v0 v1
    by_cases hk2 : k = m + 1
    · exact ⟨v, v0, v1, by omega⟩
    · have hne : v ≠ p := by
        intro e2
        rw [e2, hf.zero] at e
        simp at e
      obtain ⟨w, w0, w1, _, e2⟩ := hf.desc v v0 v1 hne
      exact ih w w0 w1 (by omega) k (by omega)
/-- no place is as far as there are places -/
theorem IsDist.lt {n : Int} {ts : List (Int × Int)} {p : Int} {f : Int → Int} (hf : IsDist n ts p f) (v : Int) (v0 : 0 ≤ v) (v1 : v < n) : f v < n := by
  have hv := hf.nn v v0 v1
  have hl := hf.level _ v v0 v1 rfl
  have key : ∀ m : Nat, m ≤ (f v).toNat + 1 → ∃ ws : List Int, ws.length = m ∧ ws.Nodup ∧ (∀ w ∈ ws, w ∈ rng 0 n ∧ f w < m) := by
    intro m
    induction m with
    | zero => exact fun _ => ⟨[], rfl, List.nodup_nil, fun _ h => nomatch h⟩
    | succ m ih =>
      intro hm
      obtain ⟨ws, h1, h2, h3⟩ := ih (by omega)
      obtain ⟨w, w0, w1, e⟩ := hl m (by omega)
      refine ⟨w :: ws, by rw [List.length_cons, h1], List.nodup_cons.mpr ⟨fun h => ?_, h2⟩, fun u hu => ?_⟩
      · have := (h3 w h).2
        omega
      · rcases List.mem_cons.mp hu with rfl | hu
        · exact ⟨rng_mem.mpr ⟨w0, w1⟩, by omega⟩
        · have := h3 u hu
          exact ⟨this.1, by omega⟩
  obtain ⟨ws, h1, h2, h3⟩ := key _ (Nat.le_refl _)
  have := nodup_le h2 fun w hw => (h3 w hw).1
  rw [h1, rng_length] at this
  omega
/-- how far places are from one, in a web that hangs together -/
noncomputable def dst (n : Int) (ts : List (Int × Int)) (p : Int) : Int → Int := by
  classical
  exact if h : ∃ f, IsDist n ts p f then Classical.choose h else fun _ => 0
theorem dst_is {n : Int} {ts : List (Int × Int)} {p : Int} {f : Int → Int} (h : IsDist n ts p f) : IsDist n ts p (dst n ts p) := by
  have e : ∃ f, IsDist n ts p f := ⟨f, h⟩
  unfold dst
  rw [dif_pos e]
  exact Classical.choose_spec e
theorem dst_eq {n : Int} {ts : List (Int × Int)} {p : Int} {f : Int → Int} (h : IsDist n ts p f) (v : Int) (v0 : 0 ≤ v) (v1 : v < n) : f v = dst n ts p v := h.uniq (dst_is h) v v0 v1
/-! ### there is a distance -/
inductive Rch (ts : List (Int × Int)) (p : Int) : Nat → Int → Prop
  | here : Rch ts p 0 p
  | step {k : Nat} {a b : Int} : Rch ts p k a → Adj ts a b → Rch ts p (k + 1) b
theorem least {P : Nat → Prop} (h : ∃ k, P k) : ∃ k, P k ∧ ∀ j, j < k → ¬ P j := by
  obtain ⟨k, hk⟩ := h
  induction k using Nat.strongRecOn with
  | _ k ih =>
    by_cases q : ∃ j, j < k ∧ P j
    · obtain ⟨j, h1, h2⟩ := q
      exact ih j h1 h2
    · exact ⟨k, hk, fun j hj hp => q ⟨j, hj, hp⟩⟩
theorem conn_ex {n : Int} {ts : List (Int × Int)} {p : Int} (hr : ∀ q ∈ ts, 0 ≤ q.1 ∧ q.1 < n ∧ 0 ≤ q.2 ∧ q.2 < n) (hc : Conn n ts) (p0 : 0 ≤ p) (p1 : p < n) : IsDist n ts p (dst n ts p) := by
  classical
  have all : ∀ v, 0 ≤ v → v < n → ∃ k, Rch ts p k v := hc.any (S := fun v => ∃ k, Rch ts p k v) p0 p1 ⟨0, .here⟩ fun q hq => ⟨fun ⟨k, h⟩ => ⟨k + 1, h.step (.inl hq)⟩, fun ⟨k, h⟩ => ⟨k + 1, h.step (.inr hq)⟩⟩
  have adj : ∀ a b, Adj ts a b → (0 ≤ a ∧ a < n) ∧ (0 ≤ b ∧ b < n) := fun a b h => by
    rcases h with h | h
    · have := hr _ h
      exact ⟨⟨this.1, this.2.1⟩, ⟨this.2.2.1, this.2.2.2⟩⟩
    · have := hr _ h
      exact ⟨⟨this.2.2.1, this.2.2.2⟩, ⟨this.1, this.2.1⟩⟩
  have key : ∀ v, ∃ d : Int, 0 ≤ d ∧ (0 ≤ v → v < n → ∃ k : Nat, d = k ∧ Rch ts p k v ∧ ∀ j, j < k → ¬ Rch ts p j v) := fun v => by
    by_cases hv : 0 ≤ v ∧ v < n
    · obtain ⟨k, h1, h2⟩ := least (all v hv.1 hv.2)
      exact ⟨k, by omega, fun _ _ => ⟨k, rfl, h1, h2⟩⟩
    · exact ⟨0, Int.le_refl 0, fun a b => absurd ⟨a, b⟩ hv⟩
  have hf : ∃ f : Int → Int, ∀ v, 0 ≤ f v ∧ (0 ≤ v → v < n → ∃ k : Nat, f v = k ∧ Rch ts p k v ∧ ∀ j, j < k → ¬ Rch ts p j v) := ⟨fun v => Classical.choose (key v), fun v => Classical.choose_spec (key v)⟩
  obtain ⟨f, hf⟩ := hf
  have lip : ∀ a b, Adj ts a b → f b ≤ f a + 1 := fun a b h => by
    obtain ⟨⟨a0, a1⟩, ⟨b0, b1⟩⟩ := adj a b h
    obtain ⟨k, e1, h1, _⟩ := (hf a).2 a0 a1
    obtain ⟨j, e2, _, h2⟩ := (hf b).2 b0 b1
    have : ¬ k + 1 < j := fun q => h2 (k + 1) q (h1.step h)
    omega
  refine dst_is (f := f) ⟨?_, fun v _ _ => (hf v).1, lip, fun v v0 v1 hne => ?_⟩
  · obtain ⟨k, e, _, h2⟩ := (hf p).2 p0 p1
    have : ¬ 0 < k := fun q => h2 0 q .here
    omega
  · obtain ⟨k, e, h1, h2⟩ := (hf v).2 v0 v1
    cases h1 with
    | here => exact absurd rfl hne
    | step h3 h4 =>
      rename_i j w
      obtain ⟨⟨w0, w1⟩, _⟩ := adj _ _ h4
      refine ⟨w, w0, w1, h4, ?_⟩
      obtain ⟨i, e2, _, h5⟩ := (hf w).2 w0 w1
      have h6 : ¬ j < i := fun q => h5 j q h3
      have := lip w v h4
      omega
end Z
/-! ZN: dicts as lists of pairs -/
namespace Z
open PySem L2
end Z
namespace G
open PySem L2 Z
open Rep (rep)
open RepL (repTs)
def top (i : Nat) : Stmt := PySem.Challenge.pw_farhail_k35_fewest_told.main.body.getD i (.Pass ⟨0, 0, 0, 0⟩)
abbrev s_near_lists : Stmt := top 7
abbrev s_fars_by : Stmt := top 8
abbrev s_place_asked : Stmt := top 9
abbrev s_fars_from : Stmt := top 10
abbrev s_things_of : Stmt := top 12
abbrev s_fars_of : Stmt := top 15
abbrev s_far_in : Stmt := top 16
abbrev s_parters_in : Stmt := top 17
abbrev s_pairs_of : Stmt := top 18
abbrev s_leanest_pairs : Stmt := top 19
abbrev s_too_seldom : Stmt := top 20
abbrev s_fewest_looks : Stmt := top 22
abbrev s_law_purse : Stmt := top 24
abbrev s_law_take : Stmt := top 25
abbrev s_law_order : Stmt := top 26
abbrev s_law_pairs : Stmt := top 27
abbrev s_law_web : Stmt := top 28
abbrev s_law_table : Stmt := top 29
abbrev s_law_things : Stmt := top 30
abbrev s_law_far : Stmt := top 31
abbrev s_law_parters : Stmt := top 32
abbrev s_law_parted : Stmt := top 33
abbrev s_law_fewest : Stmt := top 34
abbrev s_law_right : Stmt := top 35
abbrev s_law_refused : Stmt := top 36
abbrev s_law : Stmt := top 37
abbrev s_Search_init : Stmt := inClass (top 21) 0
abbrev s_Search_tree_of : Stmt := inClass (top 21) 1
abbrev SearchF : Type := (List (Nt (Thing × Thing × (List Int) × Unit))) × Int × Int × (Option (List Int)) × Unit
abbrev SearchFB (B : Hp) : Type := (List (Nt (Thing × Thing × (List Int) × Unit))) × Int × Int × (FrO B (List Int)) × Unit
theorem fl_Search_pairs (u0 u1 u2 u3 : V) : (mkfs [("pairs" : Str), ("strength" : Str), ("many" : Str), ("looks" : Str)] [u0, u1, u2, u3]).lookup ("pairs" : Str) = some u0 := by kernel_rfl
theorem fr_Search_pairs {K : Fg} {F : Hp} {us : List V} {B : Hp} {x : SearchFB B} (h : repTs K F us x) : ∃ u, (mkfs [("pairs" : Str), ("strength" : Str), ("many" : Str), ("looks" : Str)] us).lookup ("pairs" : Str) = some u ∧ rep K F u x.1 := by
  obtain ⟨u0, _, rfl, h0, u1, _, rfl, h1, u2, _, rfl, h2, u3, _, rfl, h3, rfl⟩ := h
  exact ⟨u0, fl_Search_pairs u0 u1 u2 u3, h0⟩
theorem fl_Search_strength (u0 u1 u2 u3 : V) : (mkfs [("pairs" : Str), ("strength" : Str), ("many" : Str), ("looks" : Str)] [u0, u1, u2, u3]).lookup ("strength" : Str) = some u1 := by kernel_rfl
theorem fr_Search_strength {K : Fg} {F : Hp} {us : List V} {B : Hp} {x : SearchFB B} (h : repTs K F us x) : ∃ u, (mkfs [("pairs" : Str), ("strength" : Str), ("many" : Str), ("looks" : Str)] us).lookup ("strength" : Str) = some u ∧ rep K F u x.2.1 := by
  obtain ⟨u0, _, rfl, h0, u1, _, rfl, h1, u2, _, rfl, h2, u3, _, rfl, h3, rfl⟩ := h
  exact ⟨u1, fl_Search_strength u0 u1 u2 u3, h1⟩
theorem fl_Search_many (u0 u1 u2 u3 : V) : (mkfs [("pairs" : Str), ("strength" : Str), ("many" : Str), ("looks" : Str)] [u0, u1, u2, u3]).lookup ("many" : Str) = some u2 := by kernel_rfl
theorem fr_Search_many {K : Fg} {F : Hp} {us : List V} {B : Hp} {x : SearchFB B} (h : repTs K F us x) : ∃ u, (mkfs [("pairs" : Str), ("strength" : Str), ("many" : Str), ("looks" : Str)] us).lookup ("many" : Str) = some u ∧ rep K F u x.2.2.1 := by
  obtain ⟨u0, _, rfl, h0, u1, _, rfl, h1, u2, _, rfl, h2, u3, _, rfl, h3, rfl⟩ := h
  exact ⟨u2, fl_Search_many u0 u1 u2 u3, h2⟩
theorem fl_Search_looks (u0 u1 u2 u3 : V) : (mkfs [("pairs" : Str), ("strength" : Str), ("many" : Str), ("looks" : Str)] [u0, u1, u2, u3]).lookup ("looks" : Str) = some u3 := by kernel_rfl
theorem fr_Search_looks {K : Fg} {F : Hp} {us : List V} {B : Hp} {x : SearchFB B} (h : repTs K F us x) : ∃ u, (mkfs [("pairs" : Str), ("strength" : Str), ("many" : Str), ("looks" : Str)] us).lookup ("looks" : Str) = some u ∧ rep K F u x.2.2.2.1 := by
  obtain ⟨u0, _, rfl, h0, u1, _, rfl, h1, u2, _, rfl, h2, u3, _, rfl, h3, rfl⟩ := h
  exact ⟨u3, fl_Search_looks u0 u1 u2 u3, h3⟩
theorem fs_Search {K : Fg} {F : Hp} {us : List V} {B : Hp} {x : SearchFB B} (h : repTs K F us x) : Same B F := by
  obtain ⟨u0, _, rfl, h0, u1, _, rfl, h1, u2, _, rfl, h2, u3, _, rfl, h3, rfl⟩ := h
  exact h3.1
theorem fz_Search {K : Fg} {F : Hp} {us : List V} {B : Hp} {x : SearchFB B} (h : repTs K F us x) : (mkfs [("pairs" : Str), ("strength" : Str), ("many" : Str), ("looks" : Str)] us).length < 1000 := by
  obtain ⟨u0, _, rfl, h0, u1, _, rfl, h1, u2, _, rfl, h2, u3, _, rfl, h3, rfl⟩ := h
  show 4 < 1000
  decide
theorem fp_Search_looks (v u0 u1 u2 u3 : V) : putF ("looks" : Str) v (mkfs [("pairs" : Str), ("strength" : Str), ("many" : Str), ("looks" : Str)] [u0, u1, u2, u3]) = mkfs [("pairs" : Str), ("strength" : Str), ("many" : Str), ("looks" : Str)] [u0, u1, u2, v] := by kernel_rfl
theorem fw_Search_looks {K : Fg} {F : Hp} {us : List V} {B : Hp} {x : SearchFB B} {v : V} {y : (FrO B (List Int))} (h : repTs K F us x) (hv : rep K F v y) : ∃ us', putF ("looks" : Str) v (mkfs [("pairs" : Str), ("strength" : Str), ("many" : Str), ("looks" : Str)] us) = mkfs [("pairs" : Str), ("strength" : Str), ("many" : Str), ("looks" : Str)] us' ∧ repTs K F us' ((x.1, x.2.1, x.2.2.1, y, ()) : (SearchFB B)) := by
  obtain ⟨u0, _, rfl, h0, u1, _, rfl, h1, u2, _, rfl, h2, u3, _, rfl, h3, rfl⟩ := h
  exact ⟨_, fp_Search_looks v u0 u1 u2 u3, ⟨_, _, rfl, h0, _, _, rfl, h1, _, _, rfl, h2, _, _, rfl, hv, rfl⟩⟩
theorem fm0_Search_tree_of (u0 u1 u2 u3 : V) : (mkfs [("pairs" : Str), ("strength" : Str), ("many" : Str), ("looks" : Str)] [u0, u1, u2, u3]).lookup ("tree_of" : Str) = none := by kernel_rfl
theorem fm_Search_tree_of {K : Fg} {F : Hp} {us : List V} {B : Hp} {x : SearchFB B} (h : repTs K F us x) : (mkfs [("pairs" : Str), ("strength" : Str), ("many" : Str), ("looks" : Str)] us).lookup ("tree_of" : Str) = none := by
  obtain ⟨u0, _, rfl, h0, u1, _, rfl, h1, u2, _, rfl, h2, u3, _, rfl, h3, rfl⟩ := h
  exact fm0_Search_tree_of u0 u1 u2 u3
abbrev names : List Str := ["TooMany"]
/-! ### the mirrors -/
/-! near_lists -/
def near_lists (x_web : (Int × (Tup (Int × Int)))) : R (List (List Int)) := do
  let l4 ← rngI 0 x_web.1
  let l5 ← mapStG (fun (g5 : (List (List Int))) (b5 : Int) => do
      let r9 ← newS g5 ([] : (List Int))
      R.ok (r9.1, r9.2)) ([] : List (List Int)) l4
  let g11 ← foldR (fun (g11 : (List (List Int))) (b11 : (Int × Int)) => do
      let t14 ← getI l5.1 b11.1
      let x16 ← getS g11 t14
      let l17 ← app x16 b11.2
      let r17 ← setS g11 t14 l17
      let t18 ← getI l5.1 b11.2
      let x20 ← getS r17 t18
      let l21 ← app x20 b11.1
      let r21 ← setS r17 t18 l21
      R.ok r21) l5.2 x_web.2.l
  let l22 ← mapG (fun (b22 : Ix) => do
      let x26 ← getS g11 b22
      R.ok (sortI x26)) l5.1
  R.ok l22
/-! fars_by -/
def fars_by (x_near : (List (List Int))) (x_place : Int) : R (List (Option Int)) := do
  let l4 ← repR ([none] : (List (Option Int))) (x_near.length : Int)
  let l7 ← setI l4 x_place (some (0 : Int))
  let g11 ← whileR (fun (g11 : Int × (List Int) × (List (Option Int))) => do
      R.ok (decide (g11.1 < (g11.2.1.length : Int)))) (fun (g11 : Int × (List Int) × (List (Option Int))) => do
      let t13 ← getI g11.2.1 g11.1
      let t14 ← getI x_near t13
      let g12 ← foldR (fun (g12 : (List Int) × (List (Option Int))) (b12 : Int) => do
          let t17 ← getI g12.2 b12
          if t17.isNone = true then do
            let t20 ← getI g12.1 g11.1
            let t21 ← getI g12.2 t20
            let t23 ← ofO t21
            let l24 ← setI g12.2 b12 (some (t23 + (1 : Int)))
            let l26 ← app g12.1 b12
            R.ok (l26, l24)
          else do
            R.ok (g12.1, g12.2)) (g11.2.1, g11.2.2) t14
      R.ok ((g11.1 + (1 : Int)), g12.1, g12.2)) (fu 1000) ((0 : Int), ([x_place] : (List Int)), l7)
  R.ok g11.2.2
/-! place_asked -/
def place_asked (x_web : (Int × (Tup (Int × Int)))) (x_place : Int) : R Unit := do
  if (!((decide ((0 : Int) ≤ x_place)) && (decide (x_place < x_web.1)))) = true then do
    R.bad
  else do
    R.ok ()
/-! fars_from -/
def fars_from (x_web : (Int × (Tup (Int × Int)))) (x_place : Int) : R (List Int) := do
  let y3 ← place_asked x_web x_place
  let y4 ← near_lists x_web
  let y6 ← fars_by y4 x_place
  let l8 ← allS y6
  R.ok l8
/-! things_of -/
def things_of (x_web : (Int × (Tup (Int × Int)))) (x_kind : Str) : R (List Thing) := do
  let l3 ← listRng 0 x_web.1
  if (decide (x_kind = ("places" : Str))) = true then do
    R.ok (mkpl l3)
  else do
    if (decide (x_kind = ("ties" : Str))) = true then do
      R.ok (mkti x_web.2.l)
    else do
      let l16 ← extend (mkpl l3) (mkti x_web.2.l)
      R.ok l16
/-! fars_of -/
def fars_of (x_web : (Int × (Tup (Int × Int)))) : R (List (List Int)) := do
  let l3 ← rngI 0 x_web.1
  let l4 ← mapG (fun (b4 : Int) => do
      let y6 ← fars_from x_web b4
      R.ok y6) l3
  R.ok l4
/-! far_in -/
def far_in (x_fars : (List Int)) (x_thing : Thing) : R Int := do
  if x_thing.isPl = true then do
    let t5 ← asPl x_thing
    let t6 ← getI x_fars t5
    R.ok t6
  else do
    let t7 ← asTi x_thing
    let t9 ← getI x_fars t7.1
    let t10 ← getI x_fars t7.2
    R.ok (min2 t9 t10)
/-! parters_in -/
def parters_in (x_table : (List (List Int))) (x_one : Thing) (x_other : Thing) : R (List Int) := do
  let l4 ← filG (fun (b4 : (Int × (List Int))) => do
      let y8 ← far_in b4.2 x_one
      let y9 ← far_in b4.2 x_other
      if (!decide (y8 = y9)) = true then do
        R.ok (some b4.1)
      else
        R.ok none) (enum x_table)
  R.ok l4
/-! pairs_of -/
def pairs_of (x_web : (Int × (Tup (Int × Int)))) (x_kind : Str) : R (List (Nt (Thing × Thing × (List Int) × Unit))) := do
  let y3 ← things_of x_web x_kind
  let y6 ← fars_of x_web
  let g10 ← foldR (fun (g10 : (List (Nt (Thing × Thing × (List Int) × Unit)))) (b10 : (Int × Thing)) => do
      let g13 ← foldR (fun (g13 : (List (Nt (Thing × Thing × (List Int) × Unit)))) (b13 : Thing) => do
          let y19 ← parters_in y6 b10.2 b13
          let l23 ← app g13 (Nt.mk (b10.2, b13, y19, ()) : (Nt (Thing × Thing × (List Int) × Unit)))
          R.ok l23) g10 (cutL y3 (some (b10.1 + (1 : Int))) none)
      R.ok g13) ([] : (List (Nt (Thing × Thing × (List Int) × Unit)))) (enum y3)
  R.ok g10
/-! leanest_pairs -/
def leanest_pairs (x_pairs : (List (Nt (Thing × Thing × (List Int) × Unit)))) : R (List (Nt (Thing × Thing × (List Int) × Unit))) := do
  let g3 ← foldR (fun (g3 : (List ((Tup Int) × (Nt (Thing × Thing × (List Int) × Unit))))) (b3 : (Nt (Thing × Thing × (List Int) × Unit))) => do
      let l11 ← msetdR g3 (Tup.mk b3.v.2.2.1) b3
      R.ok l11) ([] : (List ((Tup Int) × (Nt (Thing × Thing × (List Int) × Unit))))) x_pairs
  let g15 ← foldR (fun (g15 : (List (Nt (Thing × Thing × (List Int) × Unit)))) (b15 : ((Tup Int) × (Nt (Thing × Thing × (List Int) × Unit)))) => do
      let l25 ← filG (fun (b25 : (Tup Int)) => do
          let j29 ← (do
            if (decide ((b25.l.length : Int) < (b15.1.l.length : Int))) = true then do
              let l31 ← mapG (fun (b31 : Int) => do
                  R.ok (inB b31 b15.1.l)) b25.l
              R.ok (l31.all id)
            else do
              R.ok false : R (Bool))
          if j29 = true then do
            R.ok (some b25)
          else
            R.ok none) (g3.map (·.1))
      if (decide (l25 = ([] : (List (Tup Int))))) = true then do
        let l45 ← app g15 b15.2
        R.ok l45
      else do
        R.ok g15) ([] : (List (Nt (Thing × Thing × (List Int) × Unit)))) g3
  R.ok g15
/-! too_seldom -/
def too_seldom (x_pairs : (List (Nt (Thing × Thing × (List Int) × Unit)))) (x_strength : Int) (x_within : (List Int)) : R (Option (Nt (Thing × Thing × (List Int) × Unit))) := do
  let g4 ← foldR (fun (g4 : (Option (Nt (Thing × Thing × (List Int) × Unit)))) (b4 : (Nt (Thing × Thing × (List Int) × Unit))) => do
      let l11 ← filG (fun (b11 : Int) => do
          if (inB b11 x_within) = true then do
            R.ok (some b11)
          else
            R.ok none) b4.v.2.2.1
      if (decide ((l11.length : Int) < x_strength)) = true then do
        let j18 ← (do
          if g4.isNone = true then do
            R.ok true
          else do
            let t21 ← ofO g4
            R.ok (decide ((b4.v.2.2.1.length : Int) < (t21.v.2.2.1.length : Int))) : R (Bool))
        if j18 = true then do
          R.ok (some (Nt.mk (b4.v.1, b4.v.2.1, b4.v.2.2.1, ()) : (Nt (Thing × Thing × (List Int) × Unit))))
        else do
          R.ok g4
      else do
        R.ok g4) none x_pairs
  R.ok g4
/-! Search.__init__ -/
def Search_init (x_pairs : (List (Nt (Thing × Thing × (List Int) × Unit)))) (x_strength : Int) (x_many : Int) : R SearchF := do
  R.ok (x_pairs, x_strength, x_many, none, ())
/-! Search.tree_of -/
def Search_tree_of_b (rc : SearchF → (List Int) → (List Int) → R (To × SearchF)) (x_self : SearchF) (x_within : (List Int)) (x_without : (List Int)) : R (To × SearchF) := do
  let y8 ← too_seldom x_self.1 x_self.2.1 x_within
  if y8.isNone = true then do
    R.ok (To.no, ((x_self.1, x_self.2.1, x_self.2.2.1, (some (sortI x_within)), ()) : SearchF))
  else do
    let t16 ← ofO y8
    let g26 ← (do
      if (decide ((x_within.length : Int) < x_self.2.2.1)) = true then do
        let g29 ← foldR (fun (g29 : (List Int) × (List To) × SearchF) (b29 : Int) => do
            if ((!inB b29 x_within) && ((!inB b29 x_without) && g29.2.2.2.2.2.1.isNone)) = true then do
              let l43 ← extend x_within ([b29] : (List Int))
              let y48 ← rc g29.2.2 l43 g29.1
              let l50 ← app g29.2.1 y48.1
              let l55 ← extend g29.1 ([b29] : (List Int))
              R.ok (l55, l50, y48.2)
            else do
              R.ok (g29.1, g29.2.1, g29.2.2)) (x_without, ([] : (List To)), x_self) t16.v.2.2.1
        R.ok (g29.2.1, g29.2.2)
      else do
        R.ok (([] : (List To)), x_self) : R ((List To) × SearchF))
    R.ok ((To.n t16.v.1 t16.v.2.1 g26.1), g26.2)
def Search_tree_of : Nat → SearchF → (List Int) → (List Int) → R (To × SearchF)
  | 0, _, _, _ => R.bad
  | d + 1, x_self, x_within, x_without => Search_tree_of_b (Search_tree_of d) x_self x_within x_without
/-! fewest_looks -/
def fewest_looks (x_web : (Int × (Tup (Int × Int)))) (x_kind : Str) (x_strength : Int) : R Fw := do
  if (decide ((8 : Int) < x_web.1)) = true then do
    R.bad
  else do
    let y4 ← pairs_of x_web x_kind
    let r6 ← foldX (fun (g6 : Unit) (b6 : (Nt (Thing × Thing × (List Int) × Unit))) => do
        if (decide ((b6.v.2.2.1.length : Int) < x_strength)) = true then do
          R.ok (.inl (Fw.never b6.v.1 b6.v.2.1))
        else do
          R.ok (.inr (true, ()))) () y4
    match r6 with
    | .inl z => R.ok z
    | .inr g6 => do
      let y15 ← leanest_pairs y4
      let l18 ← rngI 0 (x_web.1 + (1 : Int))
      let r17 ← foldX (fun (g17 : (Option Tr)) (b17 : Int) => do
          let y20 ← Search_init y15 x_strength b17
          let y32 ← Search_tree_of 20 y20 ([] : (List Int)) ([] : (List Int))
          if (!y32.2.2.2.2.1.isNone) = true then do
            let t39 ← ofO y32.2.2.2.2.1
            R.ok (.inl (Fw.looks t39 g17))
          else do
            let t44 ← asTr y32.1
            R.ok (.inr (true, t44))) none l18
      match r17 with
      | .inl z => R.ok z
      | .inr g17 => do
        let l48 ← listRng 0 x_web.1
        R.ok (Fw.looks l48 g17)
/-! fewest_looks -/
def fewest_looksX (x_web : (Int × (Tup (Int × Int)))) (x_kind : Str) (x_strength : Int) : R Fw := do
  if (decide ((8 : Int) < x_web.1)) = true then do
    raiseR "TooMany"
  else do
    let y4 ← nx (pairs_of x_web x_kind)
    let r6 ← foldX (fun (g6 : Unit) (b6 : (Nt (Thing × Thing × (List Int) × Unit))) => do
        if (decide ((b6.v.2.2.1.length : Int) < x_strength)) = true then do
          R.ok (.inl (Fw.never b6.v.1 b6.v.2.1))
        else do
          R.ok (.inr (true, ()))) () y4
    match r6 with
    | .inl z => R.ok z
    | .inr g6 => do
      let y15 ← nx (leanest_pairs y4)
      let l18 ← rngI 0 (x_web.1 + (1 : Int))
      let r17 ← foldX (fun (g17 : (Option Tr)) (b17 : Int) => do
          let y20 ← nx (Search_init y15 x_strength b17)
          let y32 ← nx (Search_tree_of 20 y20 ([] : (List Int)) ([] : (List Int)))
          if (!y32.2.2.2.2.1.isNone) = true then do
            let t39 ← ofO y32.2.2.2.2.1
            R.ok (.inl (Fw.looks t39 g17))
          else do
            let t44 ← asTr y32.1
            R.ok (.inr (true, t44))) none l18
      match r17 with
      | .inl z => R.ok z
      | .inr g17 => do
        let l48 ← listRng 0 x_web.1
        R.ok (Fw.looks l48 g17)
/-! fewest_looks -/
def fewest_looksO (x_web : (Int × (Tup (Int × Int)))) (x_kind : Str) (x_strength : Int) : R Fw := do
  if (decide ((8 : Int) < x_web.1)) = true then do
    R.bad
  else do
    let y4 ← pairs_of x_web x_kind
    let r6 ← foldX (fun (g6 : Unit) (b6 : (Nt (Thing × Thing × (List Int) × Unit))) => do
        if (decide ((b6.v.2.2.1.length : Int) < x_strength)) = true then do
          R.ok (.inl (Fw.never b6.v.1 b6.v.2.1))
        else do
          R.ok (.inr (true, ()))) () y4
    match r6 with
    | .inl z => R.ok z
    | .inr g6 => do
      let y15 ← leanest_pairs y4
      let l18 ← rngI 0 (x_web.1 + (1 : Int))
      let r17 ← foldX (fun (g17 : (Option Tr)) (b17 : Int) => do
          let y20 ← Search_init y15 x_strength b17
          let y32 ← Search_tree_of 20 y20 ([] : (List Int)) ([] : (List Int))
          if (!y32.2.2.2.2.1.isNone) = true then do
            let t39 ← ofO y32.2.2.2.2.1
            R.ok (.inl (Fw.looks t39 g17))
          else do
            let t44 ← asTr y32.1
            R.ok (.inr (true, t44))) none l18
      match r17 with
      | .inl z => R.ok z
      | .inr g17 => do
        let l48 ← listRng 0 x_web.1
        R.ok (Fw.looks l48 g17)
/-! _law_purse -/
def law_purse (x__law_script : Scr) (x__law_k : Int) : R (List Int) := do
  let g2 ← (do
    if (decide (x__law_k < (x__law_script.l.length : Int))) = true then do
      let t4 ← getI x__law_script.l x__law_k
      R.ok t4
    else do
      if (!decide (x__law_script = (⟨([] : (List Int))⟩ : Scr))) = true then do
        let t9 ← modI x__law_k (x__law_script.l.length : Int)
        let t10 ← getI x__law_script.l t9
        R.ok ((t10 % (1000003 : Int)) + ((104729 : Int) * x__law_k))
      else do
        R.ok (0 : Int) : R (Int))
  if (decide (((10 : Int) ^ ((18 : Int) : Int).toNat) ≤ g2)) = true then do
    R.ok ([g2] : (List Int))
  else do
    let t20 ← sqR (((g2 % (((10 : Int) ^ ((30 : Int) : Int).toNat) + (57 : Int))) + ((7919 : Int) * x__law_k)) + (101 : Int))
    let t24 ← mulW (((t20 % (((10 : Int) ^ ((30 : Int) : Int).toNat) + (57 : Int))) + ((977 : Int) * x__law_k)) + (5 : Int)) (618033988749894848204586834365 : Int)
    R.ok ([(t24 % (((10 : Int) ^ ((30 : Int) : Int).toNat) + (57 : Int)))] : (List Int))
/-! _law_take -/
def law_take (x__law_purse_here : (List Int)) (x__law_many : Int) : R (Int × (List Int)) := do
  let t2 ← getI x__law_purse_here (0 : Int)
  let t3 ← modI t2 x__law_many
  let t4 ← getI x__law_purse_here (0 : Int)
  let t5 ← divI t4 x__law_many
  let l6 ← setI x__law_purse_here (0 : Int) t5
  R.ok (t3, l6)
/-! _law_order -/
def law_order (x__law_purse_here : (List Int)) (x__law_many : Int) : R ((List Int) × (List Int)) := do
  let l5 ← rngI 0 x__law_many
  let g4 ← foldR (fun (g4 : (List Int) × (List Int)) (b4 : Int) => do
      let y7 ← law_take g4.2 (b4 + (1 : Int))
      let l8 ← insR g4.1 y7.1 b4
      R.ok (l8, y7.2)) (([] : (List Int)), x__law_purse_here) l5
  R.ok (g4.1, g4.2)
/-! _law_pairs -/
def law_pairs (x__law_purse_here : (List Int)) (x__law_many : Int) (x__law_way : Int) : R ((List (Int × Int)) × (List Int)) := do
  let l5 ← rngI (1 : Int) x__law_many
  let g4 ← foldR (fun (g4 : (List (Int × Int)) × (List Int)) (b4 : Int) => do
      let y7 ← law_take g4.2 b4
      let t10 ← getI ([(b4 - (1 : Int)), (b4 - (1 : Int)), (0 : Int), y7.1] : (List Int)) (min2 x__law_way (3 : Int))
      let l12 ← app g4.1 (t10, b4)
      if (decide (x__law_way = (3 : Int))) = true then do
        let l16 ← rngI 0 b4
        let l17 ← mapG (fun (b17 : Int) => do
            R.ok (b17, b4)) l16
        let l21 ← extend l12 l17
        R.ok (l21, y7.2)
      else do
        R.ok (l12, y7.2)) (([] : (List (Int × Int))), x__law_purse_here) l5
  let g26 ← (do
    if ((decide (x__law_way = (1 : Int))) && (decide ((2 : Int) < x__law_many))) = true then do
      let l33 ← app g4.1 ((0 : Int), (x__law_many - (1 : Int)))
      R.ok l33
    else do
      R.ok g4.1 : R ((List (Int × Int))))
  let g35 ← (do
    if (decide ((4 : Int) < x__law_way)) = true then do
      let y39 ← law_take g4.2 (7 : Int)
      let l40 ← rngI 0 y39.1
      let g37 ← foldR (fun (g37 : (List Int) × (List (Int × Int))) (b37 : Int) => do
          let y41 ← law_take g37.1 x__law_many
          let y42 ← law_take y41.2 x__law_many
          let l46 ← repR ([(y41.1, y42.1)] : (List (Int × Int))) (b2i (!decide (y41.1 = y42.1)))
          let l48 ← extend g37.2 l46
          R.ok (y42.2, l48)) (y39.2, g26) l40
      R.ok (g37.2, g37.1)
    else do
      R.ok (g26, g4.2) : R ((List (Int × Int)) × (List Int)))
  R.ok (g35.1, g35.2)
/-! _law_web -/
def law_web (x__law_purse_here : (List Int)) (x__law_least : Int) (x__law_most : Int) : R ((Int × (Tup (Int × Int))) × (List Int)) := do
  let y2 ← law_take x__law_purse_here ((x__law_most + (1 : Int)) - x__law_least)
  let y6 ← law_take y2.2 (9 : Int)
  let y7 ← law_pairs y6.2 (x__law_least + y2.1) y6.1
  let y10 ← law_order y7.2 (x__law_least + y2.1)
  let g13 ← foldR (fun (g13 : (List (Int × Int))) (b13 : (Int × Int)) => do
      let t16 ← getI y10.1 b13.1
      let t17 ← getI y10.1 b13.2
      if (!inB ((min2 t16 t17), (max2 t16 t17)) g13) = true then do
        let l21 ← app g13 ((min2 t16 t17), (max2 t16 t17))
        R.ok l21
      else do
        R.ok g13) ([] : (List (Int × Int))) y7.1
  R.ok (((x__law_least + y2.1), (Tup.mk (sortP g13))), y10.2)
/-! _law_table -/
def law_table (x__law_web_here : (Int × (Tup (Int × Int)))) : R (List (List Int)) := do
  let l6 ← rngI 0 x__law_web_here.1
  let g5 ← foldR (fun (g5 : (List (List Int))) (b5 : Int) => do
      let l9 ← repR ([(-(1 : Int))] : (List Int)) x__law_web_here.1
      let l12 ← setI l9 b5 (0 : Int)
      let l15 ← rngI 0 x__law_web_here.1
      let g14 ← foldR (fun (g14 : (List Int)) (b14 : Int) => do
          let g16 ← foldR (fun (g16 : (List Int)) (b16 : (Int × Int)) => do
              let g19 ← (do
                let j20 ← (do
                  let t21 ← getI g16 b16.1
                  if (decide (t21 = b14)) = true then do
                    let t23 ← getI g16 b16.2
                    R.ok (decide (t23 < (0 : Int)))
                  else do
                    R.ok false : R (Bool))
                if j20 = true then do
                  let l27 ← setI g16 b16.2 (b14 + (1 : Int))
                  R.ok l27
                else do
                  R.ok g16 : R ((List Int)))
              let j29 ← (do
                let t30 ← getI g19 b16.2
                if (decide (t30 = b14)) = true then do
                  let t32 ← getI g19 b16.1
                  R.ok (decide (t32 < (0 : Int)))
                else do
                  R.ok false : R (Bool))
              if j29 = true then do
                let l36 ← setI g19 b16.1 (b14 + (1 : Int))
                R.ok l36
              else do
                R.ok g19) g14 x__law_web_here.2.l
          R.ok g16) l12 l15
      let l39 ← app g5 g14
      R.ok l39) ([] : (List (List Int))) l6
  R.ok g5
/-! _law_things -/
def law_things (x__law_web_here : (Int × (Tup (Int × Int)))) (x__law_kind : Str) : R (List Thing) := do
  let l3 ← listRng 0 x__law_web_here.1
  let l5 ← repR l3 (b2i (!decide (x__law_kind = ("ties" : Str))))
  let g9 ← (do
    if (!decide (x__law_kind = ("places" : Str))) = true then do
      let l12 ← extend (mkpl l5) (mkti x__law_web_here.2.l)
      R.ok l12
    else do
      R.ok (mkpl l5) : R ((List Thing)))
  R.ok g9
/-! _law_far -/
def law_far (x__law_fars : (List (List Int))) (x__law_look : Int) (x__law_thing : Thing) : R Int := do
  if x__law_thing.isPl = true then do
    let t5 ← asPl x__law_thing
    let t6 ← getI x__law_fars x__law_look
    let t8 ← getI t6 t5
    R.ok t8
  else do
    let t9 ← asTi x__law_thing
    let l12 ← mapG (fun (b12 : Int) => do
        let t15 ← getI x__law_fars x__law_look
        let t17 ← getI t15 b12
        R.ok t17) ([t9.1, t9.2] : List Int)
    let t19 ← minL l12
    R.ok t19
/-! _law_parters -/
def law_parters (x__law_fars : (List (List Int))) (x__law_one : Thing) (x__law_other : Thing) : R (List Int) := do
  let l4 ← rngI 0 (x__law_fars.length : Int)
  let l5 ← filG (fun (b5 : Int) => do
      let y7 ← law_far x__law_fars b5 x__law_one
      let y8 ← law_far x__law_fars b5 x__law_other
      if (!decide (y7 = y8)) = true then do
        R.ok (some b5)
      else
        R.ok none) l4
  R.ok l5
/-! _law_parted -/
def law_parted (x__law_web_here : (Int × (Tup (Int × Int)))) (x__law_kind : Str) : R (List (Nt (Thing × Thing × (List Int) × Unit))) := do
  let y3 ← law_table x__law_web_here
  let y5 ← law_things x__law_web_here x__law_kind
  let l11 ← rngI 0 (y5.length : Int)
  let g10 ← foldR (fun (g10 : (List (Nt (Thing × Thing × (List Int) × Unit)))) (b10 : Int) => do
      let g12 ← foldR (fun (g12 : (List (Nt (Thing × Thing × (List Int) × Unit)))) (b12 : Thing) => do
          let t18 ← getI y5 b10
          let t20 ← getI y5 b10
          let y22 ← law_parters y3 t20 b12
          let l26 ← app g12 (Nt.mk (t18, b12, y22, ()) : (Nt (Thing × Thing × (List Int) × Unit)))
          R.ok l26) g10 (cutL y5 (some (b10 + (1 : Int))) none)
      R.ok g12) ([] : (List (Nt (Thing × Thing × (List Int) × Unit)))) l11
  R.ok g10
/-! _law_fewest -/
def law_fewest (x__law_web_here : (Int × (Tup (Int × Int)))) (x__law_pairs_here : (List (Nt (Thing × Thing × (List Int) × Unit)))) (x__law_strength : Int) : R (Option Int) := do
  let l8 ← rngI 0 x__law_web_here.1
  let g7 ← foldR (fun (g7 : (List Int)) (b7 : Int) => do
      let l10 ← mapG (fun (b10 : Int) => do
          R.ok (b10 + (1 : Int))) g7
      let l14 ← extend g7 l10
      R.ok l14) ([(0 : Int)] : (List Int)) l8
  let g21 ← foldR (fun (g21 : (List Int)) (b21 : (Nt (Thing × Thing × (List Int) × Unit))) => do
      let l27 ← mapG (fun (b27 : Int) => do
          let t30 ← shlR (1 : Int) b27
          R.ok t30) b21.v.2.2.1
      if (!inB (l27.sum) g21) = true then do
        let l34 ← app g21 (l27.sum)
        R.ok l34
      else do
        R.ok g21) ([] : (List Int)) x__law_pairs_here
  let l38 ← rngI 0 (g7.length : Int)
  let g37 ← foldR (fun (g37 : (Option Int)) (b37 : Int) => do
      let j40 ← (do
        if g37.isNone = true then do
          R.ok true
        else do
          let t43 ← getI g7 b37
          let t44 ← ofO g37
          R.ok (decide (t43 < t44)) : R (Bool))
      if j40 = true then do
        let l47 ← mapG (fun (b47 : Int) => do
            let t51 ← getI g7 (Builtin.bitAnd b47 b37)
            R.ok (decide (x__law_strength ≤ t51))) g21
        if (l47.all id) = true then do
          let t55 ← getI g7 b37
          R.ok (some t55)
        else do
          R.ok g37
      else do
        R.ok g37) none l38
  R.ok g37
/-! _law_right -/
def law_right (x__law_web_here : (Int × (Tup (Int × Int)))) (x__law_pairs_here : (List (Nt (Thing × Thing × (List Int) × Unit)))) (x__law_strength : Int) (x__law_found : Fw) : R Bool := do
  let y5 ← law_fewest x__law_web_here x__law_pairs_here x__law_strength
  if ((!true) || (!decide ((3 : Int) = (3 : Int)))) = true then do
    R.ok false
  else do
    if y5.isNone = true then do
      let r13 ← foldX (fun (g13 : Unit) (b13 : (Nt (Thing × Thing × (List Int) × Unit))) => do
          let t20 ← fwS x__law_found
          let t21 ← fwS (Fw.never b13.v.1 b13.v.2.1)
          if (decide (t20 = t21)) = true then do
            R.ok (.inl (decide ((b13.v.2.2.1.length : Int) < x__law_strength)))
          else do
            R.ok (.inr (true, ()))) () x__law_pairs_here
      match r13 with
      | .inl z => R.ok z
      | .inr g13 => do
        R.ok false
    else do
      let t23 ← asLk x__law_found
      if ((!decide (x__law_found.w = ("looks" : Str))) || ((!true) || (!decide ((some (t23.1.length : Int)) = y5)))) = true then do
        R.ok false
      else do
        let l33 ← rngI 0 x__law_web_here.1
        let l34 ← filG (fun (b34 : Int) => do
            if (inB b34 t23.1) = true then do
              R.ok (some b34)
            else
              R.ok none) l33
        if (!decide (t23.1 = l34)) = true then do
          R.ok false
        else do
          let l40 ← mapG (fun (b40 : Int) => do
              R.ok (true && (!false))) t23.1
          if (!(l40.all id)) = true then do
            R.ok false
          else do
            let r50 ← foldX (fun (g50 : Unit) (b50 : (Nt (Thing × Thing × (List Int) × Unit))) => do
                let l56 ← filG (fun (b56 : Int) => do
                    if (inB b56 t23.1) = true then do
                      R.ok (some b56)
                    else
                      R.ok none) b50.v.2.2.1
                if (decide ((l56.length : Int) < x__law_strength)) = true then do
                  R.ok (.inl false)
                else do
                  R.ok (.inr (true, ()))) () x__law_pairs_here
            match r50 with
            | .inl z => R.ok z
            | .inr g50 => do
              R.ok (decide (t23.2.isNone = (decide (x__law_pairs_here = ([] : (List (Nt (Thing × Thing × (List Int) × Unit))))))))
/-! _law_refused -/
def law_refused (x__law_web_here : (Int × (Tup (Int × Int)))) (x__law_kind : Str) (x__law_strength : Int) : R Bool := do
  let g5 ← tryWith names (do
    let y6 ← fewest_looksX x__law_web_here x__law_kind x__law_strength
    R.ok ([] : (List Bool))) (fun (e : Exn) => (do
      let j7 ← (do
        let b8 ← isC names [("TooMany" : Str)] e
        if b8 = true then do
          let b10 ← isC names [("TooMany" : Str)] e
          R.ok b10
        else do
          R.ok false : R (Bool))
      let l13 ← app ([] : (List Bool)) j7
      let b15 ← isC names [] e
      let l17 ← app l13 (!b15)
      R.ok l17 : R ((List Bool))))
  R.ok (decide (g5 = ([true, true] : (List Bool))))
/-! law -/
def law (x__law_script : Scr) : R Bool := do
  let y2 ← law_purse x__law_script (0 : Int)
  let y7 ← law_take y2 (3 : Int)
  let t8 ← getI ([("places" : Str), ("ties" : Str), ("all" : Str)] : (List Str)) y7.1
  let y13 ← law_take y7.2 (3 : Int)
  let t14 ← getI ([(1 : Int), (3 : Int), (9 : Int)] : (List Int)) y13.1
  let y15 ← law_take y13.2 t14
  let g18 ← (do
    let y19 ← law_take y15.2 (8 : Int)
    if (decide (y19.1 = (1 : Int))) = true then do
      R.ok ((8 : Int), (8 : Int), y19.2)
    else do
      R.ok ((1 : Int), (7 : Int), y19.2) : R (Int × Int × (List Int)))
  let y22 ← law_purse x__law_script (1 : Int)
  let y24 ← law_web y22 g18.1 g18.2.1
  let y28 ← law_parted y24.1 t8
  let y30 ← fewest_looksO y24.1 t8 ((1 : Int) + y15.1)
  match y30 with
  | .never l30 o30 => do
    let y33 ← law_right y24.1 y28 ((1 : Int) + y15.1) (Fw.never l30 o30)
    if (!y33) = true then do
      R.ok false
    else do
      if (decide (("never" : Str) = ("looks" : Str))) = true then do
        R.bad
      else do
        let y37 ← fewest_looksO y24.1 t8 ((1 : Int) + y15.1)
        let t39 ← fwS y37
        let t40 ← fwS (Fw.never l30 o30)
        if (!decide (t39 = t40)) = true then do
          R.ok false
        else do
          let y43 ← law_purse x__law_script (2 : Int)
          let y45 ← law_web y43 (9 : Int) (12 : Int)
          let y48 ← law_refused y45.1 t8 ((1 : Int) + y15.1)
          R.ok y48
  | .looks l30 o30 => do
    let y57 ← law_right y24.1 y28 ((1 : Int) + y15.1) (Fw.looks l30 o30)
    if (!y57) = true then do
      R.ok false
    else do
      if (decide (("looks" : Str) = ("looks" : Str))) = true then do
        let l65 ← app l30 (60 : Int)
        let y69 ← fewest_looksO y24.1 t8 ((1 : Int) + y15.1)
        let t71 ← fwS y69
        let t72 ← fwS (Fw.looks l30 o30)
        if (!decide (t71 = t72)) = true then do
          R.ok false
        else do
          let y75 ← law_purse x__law_script (2 : Int)
          let y77 ← law_web y75 (9 : Int) (12 : Int)
          let y80 ← law_refused y77.1 t8 ((1 : Int) + y15.1)
          R.ok y80
      else do
        R.bad
/-! ### what the top has written -/
structure Dn (K : Fg) (mg : Str → Option Value) (x y : Str) (st : Stmt) (ps : List Str) (f : Addr) (fd : FuncData) : Prop where
  fn : Fun K y y st f fd
  mg : mg x = some (.ref f)
  b : Binds K fd ps []
structure Dm (K : Fg) (C : Addr) (x y : Str) (st : Stmt) (ps : List Str) (f : Addr) (fd : FuncData) : Prop where
  fn : Fun K x y st f fd
  mt : Meth K C x f
  b : Binds K fd ps []
structure Tx (K : Fg) (mg : Str → Option Value) (A : Nat → Addr) (FD : Nat → FuncData) : Prop where
  d7 : Dn K mg "near_lists" "near_lists" s_near_lists ["web"] (A 7) (FD 7)
  d8 : Dn K mg "fars_by" "fars_by" s_fars_by ["near", "place"] (A 8) (FD 8)
  d9 : Dn K mg "place_asked" "place_asked" s_place_asked ["web", "place"] (A 9) (FD 9)
  d10 : Dn K mg "fars_from" "fars_from" s_fars_from ["web", "place"] (A 10) (FD 10)
  d12 : Dn K mg "things_of" "things_of" s_things_of ["web", "kind"] (A 12) (FD 12)
  d15 : Dn K mg "fars_of" "fars_of" s_fars_of ["web"] (A 15) (FD 15)
  d16 : Dn K mg "far_in" "far_in" s_far_in ["fars", "thing"] (A 16) (FD 16)
  d17 : Dn K mg "parters_in" "parters_in" s_parters_in ["table", "one", "other"] (A 17) (FD 17)
  d18 : Dn K mg "pairs_of" "pairs_of" s_pairs_of ["web", "kind"] (A 18) (FD 18)
  d19 : Dn K mg "leanest_pairs" "leanest_pairs" s_leanest_pairs ["pairs"] (A 19) (FD 19)
  d20 : Dn K mg "too_seldom" "too_seldom" s_too_seldom ["pairs", "strength", "within"] (A 20) (FD 20)
  d22 : Dn K mg "fewest_looks" "fewest_looks" s_fewest_looks ["web", "kind", "strength"] (A 22) (FD 22)
  d24 : Dn K mg "_law_purse" "_law_purse" s_law_purse ["_law_script", "_law_k"] (A 24) (FD 24)
  d25 : Dn K mg "_law_take" "_law_take" s_law_take ["_law_purse_here", "_law_many"] (A 25) (FD 25)
  d26 : Dn K mg "_law_order" "_law_order" s_law_order ["_law_purse_here", "_law_many"] (A 26) (FD 26)
  d27 : Dn K mg "_law_pairs" "_law_pairs" s_law_pairs ["_law_purse_here", "_law_many", "_law_way"] (A 27) (FD 27)
  d28 : Dn K mg "_law_web" "_law_web" s_law_web ["_law_purse_here", "_law_least", "_law_most"] (A 28) (FD 28)
  d29 : Dn K mg "_law_table" "_law_table" s_law_table ["_law_web_here"] (A 29) (FD 29)
  d30 : Dn K mg "_law_things" "_law_things" s_law_things ["_law_web_here", "_law_kind"] (A 30) (FD 30)
  d31 : Dn K mg "_law_far" "_law_far" s_law_far ["_law_fars", "_law_look", "_law_thing"] (A 31) (FD 31)
  d32 : Dn K mg "_law_parters" "_law_parters" s_law_parters ["_law_fars", "_law_one", "_law_other"] (A 32) (FD 32)
  d33 : Dn K mg "_law_parted" "_law_parted" s_law_parted ["_law_web_here", "_law_kind"] (A 33) (FD 33)
  d34 : Dn K mg "_law_fewest" "_law_fewest" s_law_fewest ["_law_web_here", "_law_pairs_here", "_law_strength"] (A 34) (FD 34)
  d35 : Dn K mg "_law_right" "_law_right" s_law_right ["_law_web_here", "_law_pairs_here", "_law_strength", "_law_found"] (A 35) (FD 35)
  d36 : Dn K mg "_law_refused" "_law_refused" s_law_refused ["_law_web_here", "_law_kind", "_law_strength"] (A 36) (FD 36)
  d37 : Dn K mg "law" "law" s_law ["_law_script"] (A 37) (FD 37)
  d22000 : Dm K (A 21) "__init__" "Search.__init__" s_Search_init ["self", "pairs", "strength", "many"] (A 22000) (FD 22000)
  d22001 : Dm K (A 21) "tree_of" "Search.tree_of" s_Search_tree_of ["self", "within", "without"] (A 22001) (FD 22001)
  n_ValueError : mg "ValueError" = none
  n_all : mg "all" = none
  n_bool : mg "bool" = none
  n_enumerate : mg "enumerate" = none
  n_int : mg "int" = none
  n_isinstance : mg "isinstance" = none
  n_len : mg "len" = none
  n_list : mg "list" = none
  n_max : mg "max" = none
  n_min : mg "min" = none
  n_range : mg "range" = none
  n_sorted : mg "sorted" = none
  n_sum : mg "sum" = none
  n_tuple : mg "tuple" = none
  c_MOST_SEARCHED : ∃ t, mg "MOST_SEARCHED" = some (.int 8 t)
  cl_Search : Cls K (A 21)
  nm_Search : Nm K "Search" (A 21)
  mg_Search : mg "Search" = some (.ref (A 21))
  mk_Search : Mk K (A 21) (A 22000)
  na_Search_pairs : NoAttr K (A 21) "pairs"
  na_Search_strength : NoAttr K (A 21) "strength"
  na_Search_many : NoAttr K (A 21) "many"
  na_Search_looks : NoAttr K (A 21) "looks"
  x_TooMany : XC K mg "TooMany" (A 5)
  g_HailError : mg "HailError" = some (.ref (A 1))
  g_NoLooks : mg "NoLooks" = some (.ref (A 4))
  g_NoThing : mg "NoThing" = some (.ref (A 3))
  g_TooMany : mg "TooMany" = some (.ref (A 5))
  eh_TooMany : PySem.W.exmOne K (.ref (A 5)) (.ref (A 1)) = some true
  kt_TooMany_NoLooks : PySem.W.kitOne K (.ref (A 5)) (.ref (A 4)) = some false
  kt_TooMany_NoThing : PySem.W.kitOne K (.ref (A 5)) (.ref (A 3)) = some false
  kt_TooMany_TooMany : PySem.W.kitOne K (.ref (A 5)) (.ref (A 5)) = some true
  kt_TooMany_ValueError : PySem.W.kitOne K (.ref (A 5)) (.type "ValueError") = some true
theorem Tx.exc {K : Fg} {mg : Str → Option Value} {A : Nat → Addr} {FD : Nat → FuncData} (T : Tx K mg A FD) {x : Str} {C : Addr} (h : x ∈ names) (n : Nm K x C) : ExcC K C := by
  simp only [names, List.mem_cons, List.mem_nil_iff, or_false] at h
  rcases h with rfl
  · obtain rfl := n.uniq T.x_TooMany.ns; exact T.x_TooMany.ex
theorem Tx.exm {K : Fg} {mg : Str → Option Value} {A : Nat → Addr} {FD : Nat → FuncData} (T : Tx K mg A FD) {x : Str} {C : Addr} (h : x ∈ names) (n : Nm K x C) : PySem.W.exmOne K (.ref C) (.ref (A 1)) = some true := by
  simp only [names, List.mem_cons, List.mem_nil_iff, or_false] at h
  rcases h with rfl
  · obtain rfl := n.uniq T.x_TooMany.ns; exact T.eh_TooMany
theorem Tx.ki0 {K : Fg} {mg : Str → Option Value} {A : Nat → Addr} {FD : Nat → FuncData} (T : Tx K mg A FD) {x : Str} {C : Addr} (h : x ∈ names) (n : Nm K x C) : PySem.W.kitOne K (.ref C) (.ref (A 5)) = some (decide (x ∈ ([("TooMany" : Str)] : List Str))) := by
  simp only [names, List.mem_cons, List.mem_nil_iff, or_false] at h
  rcases h with rfl
  · obtain rfl := n.uniq T.x_TooMany.ns; exact T.kt_TooMany_TooMany.trans (by decide +kernel)
theorem Tx.ki1 {K : Fg} {mg : Str → Option Value} {A : Nat → Addr} {FD : Nat → FuncData} (T : Tx K mg A FD) {x : Str} {C : Addr} (h : x ∈ names) (n : Nm K x C) : PySem.W.kitOne K (.ref C) (.type "ValueError") = some (decide (x ∈ ([("TooMany" : Str)] : List Str))) := by
  simp only [names, List.mem_cons, List.mem_nil_iff, or_false] at h
  rcases h with rfl
  · obtain rfl := n.uniq T.x_TooMany.ns; exact T.kt_TooMany_ValueError.trans (by decide +kernel)
theorem Tx.ki2 {K : Fg} {mg : Str → Option Value} {A : Nat → Addr} {FD : Nat → FuncData} (T : Tx K mg A FD) {x : Str} {C : Addr} (h : x ∈ names) (n : Nm K x C) : PySem.W.kitAny K (.ref C) [.ref (A 4), .ref (A 3)] = some (decide (x ∈ ([] : List Str))) := by
  simp only [names, List.mem_cons, List.mem_nil_iff, or_false] at h
  rcases h with rfl
  · obtain rfl := n.uniq T.x_TooMany.ns; simp only [PySem.W.kitAny, T.kt_TooMany_NoLooks, T.kt_TooMany_NoThing]; decide +kernel
section
variable {P : Program} {w : World} {K : PySem.W.Frag} {mg : Str → Option Value} {base : Heap} {A : Nat → Addr} {FD : Nat → FuncData}
def sp_near_lists (K : Fg) : Sp := fun vs H Q E => ∃ (F : Hp) (os : List (Addr × HO)) (v_web : V) (x_web : (Int × (Tup (Int × Int)))), vs = [v_web] ∧ W F H (os) ∧ rep K F v_web x_web ∧ Post (near_lists x_web) (Ret K F os Q) noX
theorem sc_near_lists : FnScope ["web", "found", "one", "other", "place", "row"] ["web"] (defScope s_near_lists) := ⟨rfl, rfl, rfl, by decide +kernel, rfl, by decide +kernel, by decide +kernel⟩
theorem ok_near_lists (T : Tx K mg A FD) : FnOk P w K mg base CX0 1 (A 7) (FD 7) ["web"] (sp_near_lists K) := by
  refine T.d7.fn.ok sc_near_lists (fun vs H Q E h => ?_) (fun cdv Ar outer s H vs Q E hr h => ?_)
  · obtain ⟨F, os, v_web, x_web, rfl, _⟩ := h
    rfl
  · obtain ⟨F0, os, v_web, x_web, rfl, w0, r_web, hm⟩ := h
    have sF : Same F0 F0 := Same.refl _
    obtain ⟨a1, u1, z1, rfl, q1, r1a, r1b⟩ := r_web
    obtain rfl : u1 = V.int x_web.1 := r1a
    obtain ⟨a2, vs2, rfl, q2, h2⟩ := r1b
    have hr_g : Sto K F0 [] [] ([] : List (List Int)) := Sto.nil
    replace w0 : W F0 _ ((nz [] [] ++ os)) := w0
    refine ⟨_, (pss_cons (ps_setLc (i := 1) (own := [("place", 4)]) (g := gName 4) (by rfl) sc_near_lists.nd rfl rfl (sw_true rfl rfl rfl (by decide +kernel)) (pi_range1 (by rfl) T.n_range (pa_cons (pe_ix (ix_tupK (K := K) rfl) (pv 0) pe_int (fun _ _ => rfl)) pa_nil)) (blkOk_by (own := [("place", 4)]) (N := ["web", "found", "one", "other", "place", "row"]) (sc := defScope s_near_lists) (by decide +kernel)) (fun _ _ _ _ _ => (pg_name (i := 4) sc_near_lists.nd rfl (Or.inl rfl))) (fun _ _ _ _ _ => pts_nil) (fun _ _ _ _ _ => (pe_lst pa_nil))) (pss_cons (ps_for PassesOwn.never rfl (pi_tupK (K := K) rfl (pe_ix (ix_tupK (K := K) rfl) (pv 0) pe_int (fun _ _ => rfl))) (pg_k (K := K) (t := fun K => gTup K 2 _) rfl (pg_tup (n := 2) rfl (pgs_cons (pg_name (i := 2) sc_near_lists.nd rfl (Or.inl rfl)) (pgs_cons (pg_name (i := 3) sc_near_lists.nd rfl (Or.inl rfl)) pgs_nil)))) (pss_cons (ps_expr (pe_bm PySem.F.plainAttrs_list PySem.F.slot_list_append PySem.F.type_list_append mt_append (pe_ix (ix_listK (K := K) rfl) (pv 1) (pv 2) (fun _ _ => rfl)) (pa_cons (pv 3) pa_nil))) (pss_one (ps_expr (pe_bm PySem.F.plainAttrs_list PySem.F.slot_list_append PySem.F.type_list_append mt_append (pe_ix (ix_listK (K := K) rfl) (pv 1) (pv 3) (fun _ _ => rfl)) (pa_cons (pv 2) pa_nil)))))) (pss_one (ps_ret (pe_lc (own := [("row", 5)]) (g := gName 5) (by rfl) sc_near_lists.nd (pi_listK (K := K) rfl (pv 1)) (blkOk_by (own := [("row", 5)]) (N := ["web", "found", "one", "other", "place", "row"]) (sc := defScope s_near_lists) (by decide +kernel)) (fun _ _ _ _ _ => (pg_name (i := 5) sc_near_lists.nd rfl (Or.inl rfl))) (fun _ _ _ _ _ => pts_nil) (fun _ _ _ _ _ => (pe_callB (cr_sortI (K := K) rfl) (by rfl) T.n_sorted (by decide +kernel) (pa_cons (pv 5) pa_nil)))))))), ?_⟩
    obtain ⟨c4, hm⟩ := pb_rng hm
    refine ⟨_, rfl, _, _, _, _, rfl, rfl, SqT.of (w0.same _ _ q1), rfl, _, rfl, c4.2.2.1, c4.2.2.2, fun D5 nD5 => ?_⟩
    refine lcGM (tw_rng0 (j := x_web.1)) hm (fun (g5 : (List (List Int))) F' os' us ys => ∃ (as5_0 : List Addr) (vs5_0 : List (List V)), os' = (nz as5_0 vs5_0 ++ os) ∧ [] <+: as5_0 ∧ Sto K F' as5_0 vs5_0 g5 ∧ A2 (RX as5_0) us ys) w0 ⟨_, _, rfl, pfx_refl, hr_g, .nil⟩ nD5 (fun _ _ _ _ _ o => by obtain ⟨_, _, rfl, _, _, h⟩ := o; exact h.length) (fun g F' H' os' acc ys s w o => by obtain ⟨_, _, rfl, _, _, _⟩ := o; exact trivial) ?_ ?_
    · -- one turn
      intro b5 g5 x5 F5 H5 H5' os5 acc5 ya5 N5 P5 s5 w5 o5 y5 hN5 hm
      obtain ⟨as5_0, vs5_0, rfl, p5_0, h5_0, ha5⟩ := o5
      replace q1 := s5 _ _ q1
      replace q2 := s5 _ _ q2
      replace h2 := A2.mono s5 h2
      replace sF := sF.trans s5
      obtain ⟨rfl, rfl⟩ := y5
      have h7 : A2 (rep K F5) [] ([] : (List Int)) := .nil
      refine ⟨rfl, (by show 0 ≤ sizeLine; decide), fun p8 n8 => ?_⟩
      have w8 : W F5 _ ((p8, .lst []) :: (D5, .lst acc5) :: (nz as5_0 vs5_0 ++ os)) := w5.new n8
      obtain ⟨j9, st9, ej9, es9, hm⟩ := pn_newS hm
      have w9 : W F5 _ ((D5, .lst acc5) :: (nz (as5_0 ++ [p8]) (vs5_0 ++ [[]]) ++ os)) := w8.nadd (pre := [_]) h5_0.len
      have q9 : (as5_0 ++ [p8])[j9]? = some p8 := IQ.new (h5_0.len2.trans ej9.symm)
      have h9 : Sto K F5 (as5_0 ++ [p8]) (vs5_0 ++ [[]]) st9 := es9 ▸ Sto.snoc (p := p8) h5_0 h7
      replace ha5 := A2.imp (fun _ _ => RX.mono (pfx_snoc (p := p8))) ha5
      exact hN5 _ _ (post_ok hm) _ _ _ _ w9 (Same.refl _) ⟨_, _, rfl, (pfx_trans p5_0 (pfx_snoc (p := p8))), h9, A2.snoc ha5 ⟨_, rfl, q9⟩⟩
    intro g5 us5 F5 H5 os5 ys5 s5 w5 o5 hm
    obtain ⟨as5_0, vs5_0, rfl, p5_0, h5_0, gg5⟩ := o5
    replace q1 := s5 _ _ q1
    replace q2 := s5 _ _ q2
    replace h2 := A2.mono s5 h2
    replace sF := sF.trans s5
    refine ⟨_, rfl, _, _, _, _, rfl, rfl, SqT.of (w5.same _ _ q1), rfl, _, rfl, ⟨_, SqT.of (w5.same _ _ q2)⟩, ?_⟩
    refine forS (tw_tup (a := a2) h2) hm (fun (g11 : (List (List Int))) σ H' => ∃ (F' : Hp) (as11_0 : List Addr) (vs11_0 : List (List V)) (o11_2 : Option V) (o11_3 : Option V), σ = [some (.ref a1), some (.ref D5), o11_2, o11_3, none, none] ∧ Same F5 F' ∧ W F' H' ((D5, .lst us5) :: (nz as11_0 vs11_0 ++ os)) ∧ as5_0 <+: as11_0 ∧ Sto K F' as11_0 vs11_0 g11) ⟨_, _, _, _, _, rfl, Same.refl _, w5, pfx_refl, h5_0⟩ (fun g σ H' hI => by obtain ⟨F', _, _, _, _, _, s, w, _⟩ := hI; exact SqT.of (w.same _ _ (s _ _ q2))) ?_ ?_
    · -- a turn
      intro b11 g11 x11 σ11 H11 H11' N11 P11 hI hy hN11 hm
      obtain ⟨F11, as11_0, vs11_0, o11_2, o11_3, rfl, s11, w11, p11_0, h11_0⟩ := hI
      replace q1 := s11 _ _ q1
      replace h2 := A2.mono s11 h2
      replace q2 := s11 _ _ q2
      replace sF := sF.trans s11
      replace gg5 := A2.imp (fun _ _ => RX.mono p11_0) gg5
      obtain ⟨rfl, r12⟩ := hy
      replace r12 := Rep.mono s11 r12
      obtain ⟨a13, u13, z13, rfl, q13, r13a, r13b⟩ := r12
      obtain rfl : u13 = V.int b11.1 := r13a
      obtain rfl : z13 = V.int b11.2 := r13b
      obtain ⟨t14, e14, hm⟩ := pb_get hm
      obtain ⟨u14, f14, r14⟩ := A2.at gg5 e14
      obtain ⟨a15, rfl, q15⟩ := r14
      obtain ⟨x16, e16, hm⟩ := pb_getS hm
      obtain ⟨vs16, i16, h16⟩ := Sto.getq h11_0 e16 q15
      obtain ⟨l17, z17, e17, hm⟩ := pn_app hm
      obtain ⟨st17, es17, hm⟩ := pn_setS hm
      refine ⟨_, _, rfl, SqT.of (w11.same _ _ q13), rfl, _, _, rfl, _, _, rfl, rfl, _, rfl, _, rfl, _, _, _, _, rfl, rfl, SqL.of (w11.get (pre := [])), f14, .inl ⟨rfl, _, SqL.of (W.nget (pre := [_]) w11 q15 i16)⟩, _, rfl, _, _, _, rfl, rfl, (W.nget (pre := [_]) w11 q15 i16), (A2.lt h16 z17), ?_⟩
      have h17 : Sto K F11 as11_0 (vs11_0.set t14 (vs16 ++ [(V.int b11.2)])) st17 := es17 ▸ Sto.set h11_0 (e17 ▸ A2.snoc h16 rep_i)
      have w17 : W F11 _ ((D5, .lst us5) :: (nz as11_0 (vs11_0.set t14 (vs16 ++ [(V.int b11.2)])) ++ os)) := w11.nset (pre := [_]) (vs16 ++ [(V.int b11.2)]) q15 i16
      obtain ⟨t18, e18, hm⟩ := pb_get hm
      obtain ⟨u18, f18, r18⟩ := A2.at gg5 e18
      obtain ⟨a19, rfl, q19⟩ := r18
      obtain ⟨x20, e20, hm⟩ := pb_getS hm
      obtain ⟨vs20, i20, h20⟩ := Sto.getq h17 e20 q19
      obtain ⟨l21, z21, e21, hm⟩ := pn_app hm
      obtain ⟨st21, es21, hm⟩ := pn_setS hm
      refine ⟨_, rfl, _, rfl, _, _, _, _, rfl, rfl, SqL.of (w17.get (pre := [])), f18, .inl ⟨rfl, _, SqL.of (W.nget (pre := [_]) w17 q19 i20)⟩, _, rfl, _, _, _, rfl, rfl, (W.nget (pre := [_]) w17 q19 i20), (A2.lt h20 z21), ?_⟩
      have h21 : Sto K F11 as11_0 ((vs11_0.set t14 (vs16 ++ [(V.int b11.2)])).set t18 (vs20 ++ [(V.int b11.1)])) st21 := es21 ▸ Sto.set h17 (e21 ▸ A2.snoc h20 rep_i)
      have w21 : W F11 _ ((D5, .lst us5) :: (nz as11_0 ((vs11_0.set t14 (vs16 ++ [(V.int b11.2)])).set t18 (vs20 ++ [(V.int b11.1)])) ++ os)) := w17.nset (pre := [_]) (vs20 ++ [(V.int b11.1)]) q19 i20
      exact hN11 _ (post_ok hm) _ _ ⟨_, _, _, _, _, rfl, s11, w21, p11_0, h21⟩
    intro g11 σ11 H11 hI hm
    obtain ⟨F11, as11_0, vs11_0, o11_2, o11_3, rfl, s11, w11, p11_0, h11_0⟩ := hI
    replace q1 := s11 _ _ q1
    replace h2 := A2.mono s11 h2
    replace q2 := s11 _ _ q2
    replace sF := sF.trans s11
    replace gg5 := A2.imp (fun _ _ => RX.mono p11_0) gg5
    refine ⟨_, rfl, _, rfl, ⟨_, SqL.of (w11.get (pre := []))⟩, fun D22 nD22 => ?_⟩
    refine lcM (K := K) (tw_listR (a := D5) gg5) hm w11 nD22 (fun F' H' acc s w => SqL.of (w.get (pre := [_]))) ?_ ?_
    · -- one turn
      intro b22 x22 F22 H22 H22' acc22 N22 P22 s22 w22 y22 hN22 hm
      replace q1 := s22 _ _ q1
      replace h2 := A2.mono s22 h2
      replace q2 := s22 _ _ q2
      replace h11_0 := Sto.mono s22 h11_0
      replace sF := sF.trans s22
      obtain ⟨rfl, r24⟩ := y22
      obtain ⟨a25, rfl, q25⟩ := r24
      obtain ⟨x26, e26, hm⟩ := pb_getS hm
      obtain ⟨vs26, i26, h26⟩ := Sto.getq h11_0 e26 q25
      have h27 : A2 (rep K F22) ((sortI x26).map V.int) (sortI x26) := A2.of_ints
      refine ⟨rfl, _, rfl, _, _, rfl, ints_q (SqL.of (W.nget (pre := [_, _]) w22 q25 i26)) h26, fun p28 n28 => ?_⟩
      have w28 : W F22 _ ((p28, .lst ((sortI x26).map V.int)) :: (D22, .lst acc22) :: (D5, .lst us5) :: (nz as11_0 vs11_0 ++ os)) := w22.new n28
      obtain ⟨F29, s29, w29, q29⟩ : ∃ F', Same F22 F' ∧ W F' _ ((D22, .lst acc22) :: (D5, .lst us5) :: (nz as11_0 vs11_0 ++ os)) ∧ F' p28 = some (.lst ((sortI x26).map V.int)) := w28.freezeE (pre := [])
      replace q1 := s29 _ _ q1
      replace h2 := A2.mono s29 h2
      replace q2 := s29 _ _ q2
      replace h11_0 := Sto.mono s29 h11_0
      replace h26 := A2.mono s29 h26
      replace h27 := A2.mono s29 h27
      replace sF := sF.trans s29
      exact hN22 _ (post_ok hm) _ _ _ w29 s29 (rep_lst q29 h27)
    intro us22 F22 H22 ys22 s22 w22 gg22 hm
    replace q1 := s22 _ _ q1
    replace h2 := A2.mono s22 h2
    replace q2 := s22 _ _ q2
    replace h11_0 := Sto.mono s22 h11_0
    replace sF := sF.trans s22
    obtain ⟨F31, s31, w31, q31⟩ : ∃ F', Same F22 F' ∧ W F' _ ((D5, .lst us5) :: (nz as11_0 vs11_0 ++ os)) ∧ F' D22 = some (.lst us22) := w22.freezeE (pre := [])
    replace q1 := s31 _ _ q1
    replace h2 := A2.mono s31 h2
    replace q2 := s31 _ _ q2
    replace h11_0 := Sto.mono s31 h11_0
    replace gg22 := A2.mono s31 gg22
    replace sF := sF.trans s31
    have w32 : W F31 _ ((nz as11_0 vs11_0 ++ os)) := w31.drop (pre := [])
    have w33 : W F31 _ (os) := w32.dropL (pre := [])
    exact (post_ok hm) _ _ _ w33 sF (rep_lst q31 gg22)
def sp_fars_by (K : Fg) : Sp := fun vs H Q E => ∃ (F : Hp) (os : List (Addr × HO)) (v_near : V) (x_near : (List (List Int))) (x_place : Int), vs = [v_near, .int x_place] ∧ W F H (os) ∧ rep K F v_near x_near ∧ Post (fars_by x_near x_place) (RetL K F os Q) noX
theorem sc_fars_by : FnScope ["near", "place", "found", "line", "at", "other"] ["near", "place"] (defScope s_fars_by) := ⟨rfl, rfl, rfl, by decide +kernel, rfl, by decide +kernel, by decide +kernel⟩
theorem ok_fars_by (T : Tx K mg A FD) : FnOk P w K mg base CX0 1 (A 8) (FD 8) ["near", "place"] (sp_fars_by K) := by
  refine T.d8.fn.ok sc_fars_by (fun vs H Q E h => ?_) (fun cdv Ar outer s H vs Q E hr h => ?_)
  · obtain ⟨F, os, v_near, x_near, x_place, rfl, _⟩ := h
    rfl
  · obtain ⟨F0, os, v_near, x_near, x_place, rfl, w0, r_near, hm⟩ := h
    have sF : Same F0 F0 := Same.refl _
    obtain ⟨a1, vs1, rfl, q1, h1⟩ := r_near
    refine ⟨_, (pss_cons (ps_set (i := 2) sc_fars_by.nd rfl (Or.inl rfl) (pe_op op_rep (pe_lst (pa_cons pe_non pa_nil)) (pe_callB (call_lenN (K := K) rfl) (by rfl) T.n_len (by decide +kernel) (pa_cons (pv 0) pa_nil)))) (pss_cons (ps_asg pe_int (pg_sub (pv 2) (pv 1) set_list)) (pss_cons (ps_set (i := 3) sc_fars_by.nd rfl (Or.inl rfl) (pe_lst (pa_cons (pv 1) pa_nil))) (pss_cons (ps_set (i := 4) sc_fars_by.nd rfl (Or.inl rfl) pe_int1) (pss_cons (ps_while PassesOwn.never (pt_cmp (pc_lt (pv 4) (pe_callB (call_lenN (K := K) rfl) (by rfl) T.n_len (by decide +kernel) (pa_cons (pv 3) pa_nil)))) (pss_cons (ps_for PassesOwn.never rfl (pi_listK (K := K) rfl (pe_ix (ix_listK (K := K) rfl) (pv 0) (pe_ix (ix_listK (K := K) rfl) (pv 3) (pv 4) (fun _ _ => rfl)) (fun _ _ => rfl))) (pg_name (i := 5) sc_fars_by.nd rfl (Or.inl rfl)) (pss_one (ps_if (pt_cmpR op_isN2 (pe_ix (ix_listK (K := K) rfl) (pv 2) (pv 5) (fun _ _ => rfl)) pe_non (nomark _)) (pss_cons (ps_asg (pe_op op_add (pe_ix (ix_listK (K := K) rfl) (pv 2) (pe_ix (ix_listK (K := K) rfl) (pv 3) (pv 4) (fun _ _ => rfl)) (fun _ _ => rfl)) pe_int) (pg_sub (pv 2) (pv 5) set_list)) (pss_one (ps_expr (pe_bm PySem.F.plainAttrs_list PySem.F.slot_list_append PySem.F.type_list_append mt_append (pv 3) (pa_cons (pv 5) pa_nil))))) pss_nil))) (pss_one (ps_set (i := 4) sc_fars_by.nd rfl (Or.inl rfl) (pe_op op_add (pv 4) pe_int))))) (pss_one (ps_ret (pv 2)))))))), ?_⟩
    have h2 : A2 (rep K F0) [.non] ([none] : (List (Option Int))) := .cons rep_none (.nil)
    refine ⟨(by show 1 ≤ sizeLine; decide), fun p3 n3 => ?_⟩
    have w3 : W F0 _ ((p3, .lst [.non]) :: os) := w0.new n3
    obtain ⟨l4, z4, e4, hm⟩ := pb_rep hm
    have h4 : A2 (rep K F0) (List.replicate (x_near.length : Int).toNat [.non]).flatten l4 := e4 ▸ A2.flat h2 _
    refine ⟨_, rfl, _, _, _, rfl, .inl (SqL.of (w3.same _ _ q1)), h1.length, _, _, _, rfl, rfl, (w3.get (pre := [])), z4.1, z4.2.1, (by rw [h2.length]; exact z4.2.2), fun p5 n5 => ?_⟩
    have w5 : W F0 _ ((p5, .lst (List.replicate (x_near.length : Int).toNat [.non]).flatten) :: (p3, .lst [.non]) :: os) := w3.new n5
    have w6 : W F0 _ ((p5, .lst (List.replicate (x_near.length : Int).toNat [.non]).flatten) :: os) := w5.drop (pre := [_])
    obtain ⟨j7, l7, z7, e7, hm⟩ := pn_set hm
    refine ⟨_, rfl, _, rfl, _, _, _, _, rfl, rfl, (w6.get (pre := [])), (A2.ix h4 z7), ?_⟩
    have h7 : A2 (rep K F0) ((List.replicate (x_near.length : Int).toNat [.non]).flatten.set j7 (V.int 0)) l7 := e7 ▸ A2.set (rep_some rep_i) j7 h4
    have w8 : W F0 _ ((p5, .lst ((List.replicate (x_near.length : Int).toNat [.non]).flatten.set j7 (V.int 0))) :: os) := w6.set (pre := [])
    have h9 : A2 (rep K F0) [(.int x_place)] ([x_place] : (List Int)) := .cons rep_i (.nil)
    refine ⟨_, rfl, (by show 1 ≤ sizeLine; decide), fun p10 n10 => ?_⟩
    have w10 : W F0 _ ((p10, .lst [(.int x_place)]) :: (p5, .lst ((List.replicate (x_near.length : Int).toNat [.non]).flatten.set j7 (V.int 0))) :: os) := w8.new n10
    refine ⟨trivial, ?_⟩
    refine stepN ?_
    try dsimp only
    refine stepSeq (whileS hm (fun (g11 : Int × (List Int) × (List (Option Int))) σ H' => ∃ (F' : Hp) (vs11_0 : List V) (vs11_1 : List V) (o11_5 : Option V), σ = [some (.ref a1), some (.int x_place), some (.ref p5), some (.ref p10), some (.int g11.1), o11_5] ∧ Same F0 F' ∧ W F' H' ((p10, .lst vs11_0) :: (p5, .lst vs11_1) :: os) ∧ A2 (rep K F') vs11_0 g11.2.1 ∧ A2 (rep K F') vs11_1 g11.2.2) ⟨_, _, _, _, rfl, Same.refl _, w10, h9, h7⟩ ?_ ?_ ?_)
    · intro g11 σ11 H11 N11 P11 hI hN11 hm
      obtain ⟨F11, vs11_0, vs11_1, o11_5, rfl, s11, w11, h11_0, h11_1⟩ := hI
      replace h1 := A2.mono s11 h1
      replace q1 := s11 _ _ q1
      replace sF := sF.trans s11
      exact ⟨_, rfl, _, rfl, _, _, _, rfl, .inl (SqL.of (w11.get (pre := []))), h11_0.length, _, _, rfl, rfl, _, rfl, hN11 _ (post_ok hm) _ ⟨_, _, _, _, rfl, s11, w11, h11_0, h11_1⟩⟩
    · intro g11 σ11 H11 N11 P11 hI hN11 hm
      obtain ⟨F11, vs11_0, vs11_1, o11_5, rfl, s11, w11, h11_0, h11_1⟩ := hI
      replace h1 := A2.mono s11 h1
      replace q1 := s11 _ _ q1
      replace sF := sF.trans s11
      obtain ⟨t13, e13, hm⟩ := pb_get hm
      obtain ⟨u13, f13, r13⟩ := A2.at h11_0 e13
      obtain rfl : u13 = V.int t13 := r13
      obtain ⟨t14, e14, hm⟩ := pb_get hm
      obtain ⟨u14, f14, r14⟩ := A2.at h1 e14
      obtain ⟨a15, vs15, rfl, q15, h15⟩ := r14
      refine ⟨_, rfl, _, rfl, _, rfl, _, _, _, _, rfl, rfl, SqL.of (w11.get (pre := [])), f13, _, _, _, _, rfl, rfl, SqL.of (w11.same _ _ q1), f14, _, rfl, ⟨_, SqL.of (w11.same _ _ q15)⟩, ?_⟩
      refine forS (tw_list (a := a15) h15) hm (fun (g12 : (List Int) × (List (Option Int))) σ H' => ∃ (F' : Hp) (vs12_0 : List V) (vs12_1 : List V) (o12_5 : Option V), σ = [some (.ref a1), some (.int x_place), some (.ref p5), some (.ref p10), some (.int g11.1), o12_5] ∧ Same F11 F' ∧ W F' H' ((p10, .lst vs12_0) :: (p5, .lst vs12_1) :: os) ∧ A2 (rep K F') vs12_0 g12.1 ∧ A2 (rep K F') vs12_1 g12.2) ⟨_, _, _, _, rfl, Same.refl _, w11, h11_0, h11_1⟩ (fun g σ H' hI => by obtain ⟨F', _, _, _, _, s, w, _⟩ := hI; exact SqL.of (w.same _ _ (s _ _ q15))) ?_ ?_
      · -- a turn
        intro b12 g12 x12 σ12 H12 H12' N12 P12 hI hy hN12 hm
        obtain ⟨F12, vs12_0, vs12_1, o12_5, rfl, s12, w12, h12_0, h12_1⟩ := hI
        replace h1 := A2.mono s12 h1
        replace q1 := s12 _ _ q1
        replace q15 := s12 _ _ q15
        replace h15 := A2.mono s12 h15
        replace sF := sF.trans s12
        obtain ⟨rfl, r16⟩ := hy
        obtain rfl : x12 = V.int b12 := r16
        obtain ⟨t17, e17, hm⟩ := pb_get hm
        obtain ⟨u17, f17, r17⟩ := A2.at h12_1 e17
        refine ⟨_, rfl, _, rfl, _, _, _, _, rfl, rfl, SqL.of (w12.get (pre := [_])), f17, rfl, _, isN_eq r17, _, rfl, ?_⟩
        refine post_ite hm (fun k19 hm => ?_) (fun k19 hm => ?_)
        · skip
          obtain ⟨t20, e20, hm⟩ := pb_get hm
          obtain ⟨u20, f20, r20⟩ := A2.at h12_0 e20
          obtain rfl : u20 = V.int t20 := r20
          obtain ⟨t21, e21, hm⟩ := pb_get hm
          obtain ⟨u21, f21, r21⟩ := A2.at h12_1 e21
          obtain ⟨t23, e23, hm⟩ := pb_ofO hm
          have r23 : rep K F12 u21 (some t23) := e23 ▸ r21
          replace r23 : u21 = V.int t23 := r23
          subst r23
          obtain ⟨j24, l24, z24, e24, hm⟩ := pn_set hm
          refine ⟨_, rfl, _, rfl, _, rfl, _, _, _, _, rfl, rfl, SqL.of (w12.get (pre := [])), f20, _, _, _, _, rfl, rfl, SqL.of (w12.get (pre := [_])), f21, _, _, rfl, rfl, _, rfl, _, rfl, _, _, _, _, rfl, rfl, (w12.get (pre := [_])), (A2.ix h12_1 z24), ?_⟩
          have h24 : A2 (rep K F12) (vs12_1.set j24 (V.int (t23 + (1 : Int)))) l24 := e24 ▸ A2.set (rep_some rep_i) j24 h12_1
          have w25 : W F12 _ ((p10, .lst vs12_0) :: (p5, .lst (vs12_1.set j24 (V.int (t23 + (1 : Int))))) :: os) := w12.set (pre := [_])
          obtain ⟨l26, z26, e26, hm⟩ := pn_app hm
          refine ⟨_, rfl, .inl ⟨rfl, _, SqL.of (w25.get (pre := []))⟩, _, rfl, _, _, _, rfl, rfl, (w25.get (pre := [])), (A2.lt h12_0 z26), ?_⟩
          have h26 : A2 (rep K F12) (vs12_0 ++ [(V.int b12)]) l26 := e26 ▸ A2.snoc h12_0 rep_i
          have w27 : W F12 _ ((p10, .lst (vs12_0 ++ [(V.int b12)])) :: (p5, .lst (vs12_1.set j24 (V.int (t23 + (1 : Int))))) :: os) := w25.set (pre := [])
          exact hN12 _ (post_ok hm) _ _ ⟨_, _, _, _, rfl, s12, w27, h26, h24⟩
        · skip
          exact hN12 _ (post_ok hm) _ _ ⟨_, _, _, _, rfl, s12, w12, h12_0, h12_1⟩
      intro g12 σ12 H12 hI hm
      obtain ⟨F12, vs12_0, vs12_1, o12_5, rfl, s12, w12, h12_0, h12_1⟩ := hI
      replace h1 := A2.mono s12 h1
      replace q1 := s12 _ _ q1
      replace q15 := s12 _ _ q15
      replace h15 := A2.mono s12 h15
      replace sF := sF.trans s12
      exact ⟨_, rfl, _, _, rfl, rfl, hN11 _ (post_ok hm) _ _ ⟨_, _, _, _, rfl, (s11.trans s12), w12, h12_0, h12_1⟩⟩
    intro g11 σ11 H11 hI hm
    obtain ⟨F11, vs11_0, vs11_1, o11_5, rfl, s11, w11, h11_0, h11_1⟩ := hI
    replace h1 := A2.mono s11 h1
    replace q1 := s11 _ _ q1
    replace sF := sF.trans s11
    have w28 : W F11 _ ((p5, .lst vs11_1) :: os) := w11.drop (pre := [])
    exact ⟨_, rfl, (post_ok hm) _ _ _ _ w28 sF h11_1⟩
def sp_place_asked (K : Fg) : Sp := fun vs H Q E => ∃ (F : Hp) (os : List (Addr × HO)) (v_web : V) (x_web : (Int × (Tup (Int × Int)))) (x_place : Int), vs = [v_web, .int x_place] ∧ W F H (os) ∧ rep K F v_web x_web ∧ Post (place_asked x_web x_place) (Ret K F os Q) noX
theorem sc_place_asked : FnScope ["web", "place"] ["web", "place"] (defScope s_place_asked) := ⟨rfl, rfl, rfl, by decide +kernel, rfl, by decide +kernel, by decide +kernel⟩
theorem ok_place_asked (T : Tx K mg A FD) : FnOk P w K mg base CX0 1 (A 9) (FD 9) ["web", "place"] (sp_place_asked K) := by
  refine T.d9.fn.ok sc_place_asked (fun vs H Q E h => ?_) (fun cdv Ar outer s H vs Q E hr h => ?_)
  · obtain ⟨F, os, v_web, x_web, x_place, rfl, _⟩ := h
    rfl
  · obtain ⟨F0, os, v_web, x_web, x_place, rfl, w0, r_web, hm⟩ := h
    have sF : Same F0 F0 := Same.refl _
    obtain ⟨a1, u1, z1, rfl, q1, r1a, r1b⟩ := r_web
    obtain rfl : u1 = V.int x_web.1 := r1a
    obtain ⟨a2, vs2, rfl, q2, h2⟩ := r1b
    refine ⟨_, (pss_one (ps_if (pt_not (pt_chain op_le op_lt pe_int (pv 1) (pe_ix (ix_tupK (K := K) rfl) (pv 0) pe_int (fun _ _ => rfl)))) (pss_one ps_absurd) pss_nil)), ?_⟩
    try dsimp only
    refine stepIf ?_
    refine stepNot ?_
    refine cutT (fun c H' => c = ((decide ((0 : Int) ≤ x_place)) && (decide (x_place < x_web.1))) ∧ ∃ F', Same F0 F' ∧ W F' H' (os)) (fun Q3 q3 => ?_) (fun c3 H3 hc3 => ?_)
    · -- the ways
      refine ⟨_, rfl, _, _, rfl, rfl, _, rfl, ?_⟩
      refine ifB (fun k4 => ?_) (fun k4 => ?_)
      · skip
        exact ⟨_, rfl, _, _, _, _, rfl, rfl, SqT.of (w0.same _ _ q1), rfl, _, _, rfl, rfl, _, rfl, q3 _ _ ⟨(by first | rfl | exact absurd k4 (by decide) | (simp [k4]; done) | ((try simp only [Bool.not_eq_true] at k4); simp only [k4, Bool.true_or, Bool.false_or, Bool.or_false, Bool.or_true, Bool.true_and, Bool.false_and, Bool.and_true, Bool.and_false])), _, Same.refl _, w0⟩⟩
      · skip
        exact ⟨_, rfl, q3 _ _ ⟨(by first | rfl | exact absurd k4 (by decide) | (simp [k4]; done) | ((try simp only [Bool.not_eq_true] at k4); simp only [k4, Bool.true_or, Bool.false_or, Bool.or_false, Bool.or_true, Bool.true_and, Bool.false_and, Bool.and_true, Bool.and_false])), _, Same.refl _, w0⟩⟩
    obtain ⟨rfl, F3, s3, w3⟩ := hc3
    replace q1 := s3 _ _ q1
    replace q2 := s3 _ _ q2
    replace h2 := A2.mono s3 h2
    replace sF := sF.trans s3
    refine post_ite hm (fun k7 hm => ?_) (fun k7 hm => ?_)
    · skip
      try dsimp only
      exact hm
    · skip
      exact (post_ok hm) _ _ _ w3 sF rep_n
def sp_fars_from (K : Fg) : Sp := fun vs H Q E => ∃ (F : Hp) (os : List (Addr × HO)) (v_web : V) (x_web : (Int × (Tup (Int × Int)))) (x_place : Int), vs = [v_web, .int x_place] ∧ W F H (os) ∧ rep K F v_web x_web ∧ Post (fars_from x_web x_place) (RetL K F os Q) noX
theorem sc_fars_from : FnScope ["web", "place"] ["web", "place"] (defScope s_fars_from) := ⟨rfl, rfl, rfl, by decide +kernel, rfl, by decide +kernel, by decide +kernel⟩
theorem ok_fars_from (T : Tx K mg A FD) : FnOk P w K mg base CX0 2 (A 10) (FD 10) ["web", "place"] (sp_fars_from K) := by
  refine T.d10.fn.ok sc_fars_from (fun vs H Q E h => ?_) (fun cdv Ar outer s H vs Q E hr h => ?_)
  · obtain ⟨F, os, v_web, x_web, x_place, rfl, _⟩ := h
    rfl
  · obtain ⟨F0, os, v_web, x_web, x_place, rfl, w0, r_web, hm⟩ := h
    have sF : Same F0 F0 := Same.refl _
    obtain ⟨a1, u1, z1, rfl, q1, r1a, r1b⟩ := r_web
    obtain rfl : u1 = V.int x_web.1 := r1a
    obtain ⟨a2, vs2, rfl, q2, h2⟩ := r1b
    refine ⟨_, (pss_cons (ps_expr (pe_call (ok_place_asked T) (hr.mono (by decide)) (by rfl) T.d9.mg T.d9.fn.kp T.d9.b .nil pass0 (pa_cons (pv 0) (pa_cons (pv 1) pa_nil)))) (pss_one (ps_ret (pe_call (ok_fars_by T) (hr.mono (by decide)) (by rfl) T.d8.mg T.d8.fn.kp T.d8.b .nil pass0 (pa_cons (pe_call (ok_near_lists T) (hr.mono (by decide)) (by rfl) T.d7.mg T.d7.fn.kp T.d7.b .nil pass0 (pa_cons (pv 0) pa_nil)) (pa_cons (pv 1) pa_nil)))))), ?_⟩
    refine ⟨_, rfl, _, rfl, _, _, _, (x_web : (Int × (Tup (Int × Int)))), _, rfl, w0, (rep_pair q1 rep_i (rep_tup q2 h2)), ?_⟩
    refine (post_bind hm).mono (fun y3 hm v3 F3 H3 w3 s3 r3 => ?_) (fun _ z => z)
    replace q1 := s3 _ _ q1
    replace q2 := s3 _ _ q2
    replace h2 := A2.mono s3 h2
    replace sF := sF.trans s3
    obtain rfl : v3 = V.non := r3
    refine ⟨_, rfl, _, _, _, (x_web : (Int × (Tup (Int × Int)))), rfl, w3, (rep_pair q1 rep_i (rep_tup q2 h2)), ?_⟩
    refine (post_bind hm).mono (fun y4 hm v4 F4 H4 w4 s4 r4 => ?_) (fun _ z => z)
    replace q1 := s4 _ _ q1
    replace h2 := A2.mono s4 h2
    replace q2 := s4 _ _ q2
    replace sF := sF.trans s4
    obtain ⟨a5, vs5, rfl, q5, h5⟩ := r4
    refine ⟨_, rfl, _, _, _, (y4 : (List (List Int))), _, rfl, w4, (rep_lst q5 h5), ?_⟩
    refine (post_bind hm).mono (fun y6 hm p6 us6 F6 H6 w6 s6 g6 => ?_) (fun _ z => z)
    replace q1 := s6 _ _ q1
    replace h2 := A2.mono s6 h2
    replace q2 := s6 _ _ q2
    replace q5 := s6 _ _ q5
    replace h5 := A2.mono s6 h5
    replace sF := sF.trans s6
    obtain ⟨l8, e8, hm⟩ := pb_allS hm
    have h8 : A2 (rep K F6) us6 l8 := A2.unsome (e8 ▸ g6)
    exact (post_ok hm) _ _ _ _ w6 sF h8
def sp_things_of (K : Fg) : Sp := fun vs H Q E => ∃ (F : Hp) (os : List (Addr × HO)) (v_web : V) (x_web : (Int × (Tup (Int × Int)))) (x_kind : Str), vs = [v_web, .str x_kind] ∧ W F H (os) ∧ rep K F v_web x_web ∧ Post (things_of x_web x_kind) (RetL K F os Q) noX
theorem sc_things_of : FnScope ["web", "kind", "places"] ["web", "kind"] (defScope s_things_of) := ⟨rfl, rfl, rfl, by decide +kernel, rfl, by decide +kernel, by decide +kernel⟩
theorem ok_things_of (T : Tx K mg A FD) : FnOk P w K mg base CX0 1 (A 12) (FD 12) ["web", "kind"] (sp_things_of K) := by
  refine T.d12.fn.ok sc_things_of (fun vs H Q E h => ?_) (fun cdv Ar outer s H vs Q E hr h => ?_)
  · obtain ⟨F, os, v_web, x_web, x_kind, rfl, _⟩ := h
    rfl
  · obtain ⟨F0, os, v_web, x_web, x_kind, rfl, w0, r_web, hm⟩ := h
    have sF : Same F0 F0 := Same.refl _
    obtain ⟨a1, u1, z1, rfl, q1, r1a, r1b⟩ := r_web
    obtain rfl : u1 = V.int x_web.1 := r1a
    obtain ⟨a2, vs2, rfl, q2, h2⟩ := r1b
    refine ⟨_, (pss_cons (ps_set (i := 2) sc_things_of.nd rfl (Or.inl rfl) (pe_listRg rfl (by rfl) T.n_list (prg_1 (by rfl) T.n_range (pe_ix (ix_tupK (K := K) rfl) (pv 0) pe_int (fun _ _ => rfl))))) (pss_cons (ps_if (pt_cmpR op_eqS (pv 1) pe_str (nomark _)) (pss_one (ps_ret (pv 2))) pss_nil) (pss_cons (ps_if (pt_cmpR op_eqS (pv 1) pe_str (nomark _)) (pss_one (ps_ret (pe_callTy (call_list_ofK (K := K) rfl) (by rfl) T.n_list (by decide +kernel) (pa_cons (pe_ix (ix_tupK (K := K) rfl) (pv 0) pe_int (fun _ _ => rfl)) pa_nil)))) pss_nil) (pss_one (ps_ret (pe_op op_cat (pv 2) (pe_callTy (call_list_ofK (K := K) rfl) (by rfl) T.n_list (by decide +kernel) (pa_cons (pe_ix (ix_tupK (K := K) rfl) (pv 0) pe_int (fun _ _ => rfl)) pa_nil)))))))), ?_⟩
    obtain ⟨l3, z3, e3, hm⟩ := pb_lrng hm
    have h3 : A2 (rep K F0) (rgV 0 x_web.1) l3 := by rw [e3, rgV_eq]; exact A2.of_ints
    refine ⟨_, rfl, _, _, _, _, rfl, rfl, SqT.of (w0.same _ _ q1), rfl, _, rfl, z3, fun p4 n4 => ?_⟩
    have w4 : W F0 _ ((p4, .lst (rgV 0 x_web.1)) :: os) := w0.new n4
    refine ⟨_, rfl, _, _, rfl, rfl, _, rfl, ?_⟩
    refine post_ite hm (fun k5 hm => ?_) (fun k5 hm => ?_)
    · skip
      have h6 : A2 (rep K F0) (rgV 0 x_web.1) (mkpl l3) := A2.pl h3
      exact ⟨_, rfl, (post_ok hm) _ _ _ _ w4 sF h6⟩
    · skip
      refine ⟨_, rfl, _, _, rfl, rfl, _, rfl, ?_⟩
      refine post_ite hm (fun k7 hm => ?_) (fun k7 hm => ?_)
      · skip
        have h8 : A2 (rep K F0) vs2 x_web.2.l := h2
        refine ⟨_, rfl, _, _, _, _, rfl, rfl, SqT.of (w4.same _ _ q1), rfl, _, _, rfl, .inr (SqT.of (w4.same _ _ q2)), fun p9 n9 => ?_⟩
        have w9 : W F0 _ ((p9, .lst vs2) :: (p4, .lst (rgV 0 x_web.1)) :: os) := w4.new n9
        have h10 : A2 (rep K F0) vs2 (mkti x_web.2.l) := A2.ti h8
        have w11 : W F0 _ ((p9, .lst vs2) :: os) := w9.drop (pre := [_])
        exact (post_ok hm) _ _ _ _ w11 sF h10
      · skip
        have h12 : A2 (rep K F0) vs2 x_web.2.l := h2
        refine ⟨_, rfl, _, rfl, _, _, _, _, rfl, rfl, SqT.of (w4.same _ _ q1), rfl, _, _, rfl, .inr (SqT.of (w4.same _ _ q2)), fun p13 n13 => ?_⟩
        have w13 : W F0 _ ((p13, .lst vs2) :: (p4, .lst (rgV 0 x_web.1)) :: os) := w4.new n13
        have h14 : A2 (rep K F0) (rgV 0 x_web.1) (mkpl l3) := A2.pl h3
        have h15 : A2 (rep K F0) vs2 (mkti x_web.2.l) := A2.ti h12
        obtain ⟨l16, z16, e16, hm⟩ := pn_extend hm
        have h16 : A2 (rep K F0) ((rgV 0 x_web.1) ++ vs2) l16 := e16 ▸ A2.append h14 h15
        refine ⟨_, _, _, _, rfl, rfl, (w13.get (pre := [_])), (w13.get (pre := [])), (A2.le2 h14 h15 z16), fun p17 n17 => ?_⟩
        have w17 : W F0 _ ((p17, .lst ((rgV 0 x_web.1) ++ vs2)) :: (p13, .lst vs2) :: (p4, .lst (rgV 0 x_web.1)) :: os) := w13.new n17
        have w18 : W F0 _ ((p17, .lst ((rgV 0 x_web.1) ++ vs2)) :: (p4, .lst (rgV 0 x_web.1)) :: os) := w17.drop (pre := [_])
        have w19 : W F0 _ ((p17, .lst ((rgV 0 x_web.1) ++ vs2)) :: os) := w18.drop (pre := [_])
        exact (post_ok hm) _ _ _ _ w19 sF h16
def sp_fars_of (K : Fg) : Sp := fun vs H Q E => ∃ (F : Hp) (os : List (Addr × HO)) (v_web : V) (x_web : (Int × (Tup (Int × Int)))), vs = [v_web] ∧ W F H (os) ∧ rep K F v_web x_web ∧ Post (fars_of x_web) (Ret K F os Q) noX
theorem sc_fars_of : FnScope ["web", "place"] ["web"] (defScope s_fars_of) := ⟨rfl, rfl, rfl, by decide +kernel, rfl, by decide +kernel, by decide +kernel⟩
theorem ok_fars_of (T : Tx K mg A FD) : FnOk P w K mg base CX0 3 (A 15) (FD 15) ["web"] (sp_fars_of K) := by
  refine T.d15.fn.ok sc_fars_of (fun vs H Q E h => ?_) (fun cdv Ar outer s H vs Q E hr h => ?_)
  · obtain ⟨F, os, v_web, x_web, rfl, _⟩ := h
    rfl
  · obtain ⟨F0, os, v_web, x_web, rfl, w0, r_web, hm⟩ := h
    have sF : Same F0 F0 := Same.refl _
    obtain ⟨a1, u1, z1, rfl, q1, r1a, r1b⟩ := r_web
    obtain rfl : u1 = V.int x_web.1 := r1a
    obtain ⟨a2, vs2, rfl, q2, h2⟩ := r1b
    refine ⟨_, (pss_one (ps_ret (pe_lc (own := [("place", 1)]) (g := gName 1) (by rfl) sc_fars_of.nd (pi_range1 (by rfl) T.n_range (pa_cons (pe_ix (ix_tupK (K := K) rfl) (pv 0) pe_int (fun _ _ => rfl)) pa_nil)) (blkOk_by (own := [("place", 1)]) (N := ["web", "place"]) (sc := defScope s_fars_of) (by decide +kernel)) (fun _ _ _ _ _ => (pg_name (i := 1) sc_fars_of.nd rfl (Or.inl rfl))) (fun _ _ _ _ _ => pts_nil) (fun _ _ _ _ _ => (pe_call (ok_fars_from T) (hr.mono (by decide)) (by rfl) T.d10.mg T.d10.fn.kp T.d10.b .nil pass0 (pa_cons (pv 0) (pa_cons (pv 1) pa_nil))))))), ?_⟩
    obtain ⟨c3, hm⟩ := pb_rng hm
    refine ⟨_, rfl, _, _, _, _, rfl, rfl, SqT.of (w0.same _ _ q1), rfl, _, rfl, c3.2.2.1, c3.2.2.2, fun D4 nD4 => ?_⟩
    refine lcM (K := K) (tw_rng0 (j := x_web.1)) hm w0 nD4 (fun F' H' acc s w => trivial) ?_ ?_
    · -- one turn
      intro b4 x4 F4 H4 H4' acc4 N4 P4 s4 w4 y4 hN4 hm
      replace q1 := s4 _ _ q1
      replace q2 := s4 _ _ q2
      replace h2 := A2.mono s4 h2
      replace sF := sF.trans s4
      obtain ⟨rfl, rfl⟩ := y4
      refine ⟨rfl, _, rfl, _, rfl, _, _, _, (x_web : (Int × (Tup (Int × Int)))), _, rfl, w4, (rep_pair q1 rep_i (rep_tup q2 h2)), ?_⟩
      refine (post_bind hm).mono (fun y6 hm p6 us6 F6 H6 w6 s6 g6 => ?_) (fun _ z => z)
      replace q1 := s6 _ _ q1
      replace q2 := s6 _ _ q2
      replace h2 := A2.mono s6 h2
      replace sF := sF.trans s6
      obtain ⟨F8, s8, w8, q8⟩ : ∃ F', Same F6 F' ∧ W F' _ ((D4, .lst acc4) :: os) ∧ F' p6 = some (.lst us6) := w6.freezeE (pre := [])
      replace q1 := s8 _ _ q1
      replace q2 := s8 _ _ q2
      replace h2 := A2.mono s8 h2
      replace g6 := A2.mono s8 g6
      replace sF := sF.trans s8
      exact hN4 _ (post_ok hm) _ _ _ w8 (s6.trans s8) (rep_lst q8 g6)
    intro us4 F4 H4 ys4 s4 w4 gg4 hm
    replace q1 := s4 _ _ q1
    replace q2 := s4 _ _ q2
    replace h2 := A2.mono s4 h2
    replace sF := sF.trans s4
    obtain ⟨F10, s10, w10, q10⟩ : ∃ F', Same F4 F' ∧ W F' _ (os) ∧ F' D4 = some (.lst us4) := w4.freezeE (pre := [])
    replace q1 := s10 _ _ q1
    replace q2 := s10 _ _ q2
    replace h2 := A2.mono s10 h2
    replace gg4 := A2.mono s10 gg4
    replace sF := sF.trans s10
    exact (post_ok hm) _ _ _ w10 sF (rep_lst q10 gg4)
def sp_far_in (K : Fg) : Sp := fun vs H Q E => ∃ (F : Hp) (os : List (Addr × HO)) (v_fars : V) (x_fars : (List Int)) (v_thing : V) (x_thing : Thing), vs = [v_fars, v_thing] ∧ W F H (os) ∧ rep K F v_fars x_fars ∧ rep K F v_thing x_thing ∧ Post (far_in x_fars x_thing) (Ret K F os Q) noX
theorem sc_far_in : FnScope ["fars", "thing"] ["fars", "thing"] (defScope s_far_in) := ⟨rfl, rfl, rfl, by decide +kernel, rfl, by decide +kernel, by decide +kernel⟩
theorem ok_far_in (T : Tx K mg A FD) : FnOk P w K mg base CX0 1 (A 16) (FD 16) ["fars", "thing"] (sp_far_in K) := by
  refine T.d16.fn.ok sc_far_in (fun vs H Q E h => ?_) (fun cdv Ar outer s H vs Q E hr h => ?_)
  · obtain ⟨F, os, v_fars, x_fars, v_thing, x_thing, rfl, _⟩ := h
    rfl
  · obtain ⟨F0, os, v_fars, x_fars, v_thing, x_thing, rfl, w0, r_fars, r_thing, hm⟩ := h
    have sF : Same F0 F0 := Same.refl _
    obtain ⟨a1, vs1, rfl, q1, h1⟩ := r_fars
    refine ⟨_, (pss_cons (ps_if (pt_val (pe_callB (call_isB (K := K) rfl) (by rfl) T.n_isinstance (by decide +kernel) (pa_cons (pv 1) (pa_cons (pe_bltn (v := .ty "int") (by rfl) T.n_int (by decide +kernel) rfl) pa_nil)))) (pss_one (ps_ret (pe_ix (ix_listK (K := K) rfl) (pv 0) (pv 1) (fun _ _ => rfl)))) pss_nil) (pss_one (ps_ret (pe_callB (call_min2 rfl) (by rfl) T.n_min (by decide +kernel) (pa_cons (pe_ix (ix_listK (K := K) rfl) (pv 0) (pe_ix (ix_tupK (K := K) rfl) (pv 1) pe_int (fun _ _ => rfl)) (fun _ _ => rfl)) (pa_cons (pe_ix (ix_listK (K := K) rfl) (pv 0) (pe_ix (ix_tupK (K := K) rfl) (pv 1) pe_int (fun _ _ => rfl)) (fun _ _ => rfl)) pa_nil)))))), ?_⟩
    obtain ⟨a3, y3, k3⟩ := th_int w0.same r_thing
    refine ⟨_, rfl, _, _, _, x_thing.isPl, rfl, y3, k3, _, rfl, ?_⟩
    refine post_ite hm (fun k4 hm => ?_) (fun k4 hm => ?_)
    · skip
      obtain ⟨t5, e5, hm⟩ := pb_asPl hm
      have r5 : v_thing = V.int t5 := (show rep K F0 v_thing (Thing.pl t5) from e5 ▸ r_thing)
      subst r5
      obtain ⟨t6, e6, hm⟩ := pb_get hm
      obtain ⟨u6, f6, r6⟩ := A2.at h1 e6
      obtain rfl : u6 = V.int t6 := r6
      exact ⟨_, rfl, _, rfl, _, _, _, _, rfl, rfl, SqL.of (w0.same _ _ q1), f6, (post_ok hm) _ _ _ w0 sF rep_i⟩
    · skip
      obtain ⟨t7, e7, hm⟩ := pb_asTi hm
      have r7 : rep K F0 v_thing (t7 : Int × Int) := (show rep K F0 v_thing (Thing.ti t7.1 t7.2) from e7 ▸ r_thing)
      obtain ⟨a8, u8, z8, rfl, q8, r8a, r8b⟩ := r7
      obtain rfl : u8 = V.int t7.1 := r8a
      obtain rfl : z8 = V.int t7.2 := r8b
      obtain ⟨t9, e9, hm⟩ := pb_get hm
      obtain ⟨u9, f9, r9⟩ := A2.at h1 e9
      obtain rfl : u9 = V.int t9 := r9
      obtain ⟨t10, e10, hm⟩ := pb_get hm
      obtain ⟨u10, f10, r10⟩ := A2.at h1 e10
      obtain rfl : u10 = V.int t10 := r10
      exact ⟨_, rfl, _, rfl, _, _, _, _, rfl, rfl, SqT.of (w0.same _ _ q8), rfl, _, _, _, _, rfl, rfl, SqL.of (w0.same _ _ q1), f9, _, rfl, _, rfl, _, _, _, _, rfl, rfl, SqT.of (w0.same _ _ q8), rfl, _, _, _, _, rfl, rfl, SqL.of (w0.same _ _ q1), f10, _, _, rfl, (post_ok hm) _ _ _ w0 sF rep_i⟩
def sp_parters_in (K : Fg) : Sp := fun vs H Q E => ∃ (F : Hp) (os : List (Addr × HO)) (v_table : V) (x_table : (List (List Int))) (v_one : V) (x_one : Thing) (v_other : V) (x_other : Thing), vs = [v_table, v_one, v_other] ∧ W F H (os) ∧ rep K F v_table x_table ∧ rep K F v_one x_one ∧ rep K F v_other x_other ∧ Post (parters_in x_table x_one x_other) (RetL K F os Q) noX
theorem sc_parters_in : FnScope ["table", "one", "other", "place", "fars"] ["table", "one", "other"] (defScope s_parters_in) := ⟨rfl, rfl, rfl, by decide +kernel, rfl, by decide +kernel, by decide +kernel⟩
theorem ok_parters_in (T : Tx K mg A FD) : FnOk P w K mg base CX0 2 (A 17) (FD 17) ["table", "one", "other"] (sp_parters_in K) := by
  refine T.d17.fn.ok sc_parters_in (fun vs H Q E h => ?_) (fun cdv Ar outer s H vs Q E hr h => ?_)
  · obtain ⟨F, os, v_table, x_table, v_one, x_one, v_other, x_other, rfl, _⟩ := h
    rfl
  · obtain ⟨F0, os, v_table, x_table, v_one, x_one, v_other, x_other, rfl, w0, r_table, r_one, r_other, hm⟩ := h
    have sF : Same F0 F0 := Same.refl _
    obtain ⟨a1, vs1, rfl, q1, h1⟩ := r_table
    refine ⟨_, (pss_one (ps_ret (pe_lc (own := [("place", 3), ("fars", 4)]) (g := _) (by rfl) sc_parters_in.nd (pi_k (K := K) (wi := fun K => iEnum K _) rfl (pi_enum (by rfl) T.n_enumerate (pa_cons (pv 0) pa_nil))) (blkOk_by (own := [("place", 3), ("fars", 4)]) (N := ["table", "one", "other", "place", "fars"]) (sc := defScope s_parters_in) (by decide +kernel)) (fun _ _ _ _ _ => (pg_k (K := K) (t := fun K => gTup K 2 _) rfl (pg_tup (n := 2) rfl (pgs_cons (pg_name (i := 3) sc_parters_in.nd rfl (Or.inl rfl)) (pgs_cons (pg_name (i := 4) sc_parters_in.nd rfl (Or.inl rfl)) pgs_nil))))) (fun _ _ _ _ _ => (pts_one (pt_cmp (pc_neI (pe_call (ok_far_in T) (hr.mono (by decide)) (by rfl) T.d16.mg T.d16.fn.kp T.d16.b .nil pass0 (pa_cons (pv 4) (pa_cons (pv 1) pa_nil))) (pe_call (ok_far_in T) (hr.mono (by decide)) (by rfl) T.d16.mg T.d16.fn.kp T.d16.b .nil pass0 (pa_cons (pv 4) (pa_cons (pv 2) pa_nil))))))) (fun _ _ _ _ _ => (pv 3))))), ?_⟩
    refine ⟨_, rfl, _, _, rfl, SqL.of (w0.same _ _ q1), fun D4 nD4 => ?_⟩
    refine lcF (K := K) (tw_enum (a := a1) h1) hm w0 nD4 (fun F' H' acc s w => SqL.of (w.same _ _ (s _ _ q1))) ?_ ?_
    · -- one turn
      intro b4 x4 F4 H4 H4' acc4 N4 M4 P4 s4 w4 y4 hN4 hM4 hm
      replace q1 := s4 _ _ q1
      replace h1 := A2.mono s4 h1
      replace r_one := Rep.mono s4 r_one
      replace r_other := Rep.mono s4 r_other
      replace sF := sF.trans s4
      obtain ⟨T6, u6, rfl, n6, rfl, r6⟩ := y4
      obtain ⟨F6, s6, w6, q6⟩ := w4.frzE (o := .tup [.int b4.1, u6]) n6
      replace r6 := Rep.mono s4 r6
      replace q1 := s6 _ _ q1
      replace h1 := A2.mono s6 h1
      replace r_one := Rep.mono s6 r_one
      replace r_other := Rep.mono s6 r_other
      replace sF := sF.trans s6
      replace r6 := Rep.mono s6 r6
      obtain ⟨a7, vs7, rfl, q7, h7⟩ := r6
      refine ⟨_, _, rfl, SqT.of (w6.same _ _ q6), rfl, _, _, rfl, _, _, rfl, rfl, rfl, _, rfl, _, rfl, _, _, _, (b4.2 : (List Int)), _, (x_one : Thing), rfl, w6, (rep_lst q7 h7), r_one, ?_⟩
      refine (post_bind hm).mono (fun y8 hm v8 F8 H8 w8 s8 r8 => ?_) (fun _ z => z)
      replace q1 := s8 _ _ q1
      replace h1 := A2.mono s8 h1
      replace r_one := Rep.mono s8 r_one
      replace r_other := Rep.mono s8 r_other
      replace q6 := s8 _ _ q6
      replace q7 := s8 _ _ q7
      replace h7 := A2.mono s8 h7
      replace sF := sF.trans s8
      obtain rfl : v8 = V.int y8 := r8
      refine ⟨_, rfl, _, rfl, _, _, _, (b4.2 : (List Int)), _, (x_other : Thing), rfl, w8, (rep_lst q7 h7), r_other, ?_⟩
      refine (post_bind hm).mono (fun y9 hm v9 F9 H9 w9 s9 r9 => ?_) (fun _ z => z)
      replace q1 := s9 _ _ q1
      replace h1 := A2.mono s9 h1
      replace r_one := Rep.mono s9 r_one
      replace r_other := Rep.mono s9 r_other
      replace q6 := s9 _ _ q6
      replace q7 := s9 _ _ q7
      replace h7 := A2.mono s9 h7
      replace sF := sF.trans s9
      obtain rfl : v9 = V.int y9 := r9
      refine ⟨_, _, rfl, rfl, _, rfl, ?_⟩
      refine post_ite hm (fun k10 hm => ?_) (fun k10 hm => ?_)
      · skip
        exact ⟨_, rfl, hN4 _ (post_ok hm) _ _ _ w9 (s6.trans (s8.trans s9)) rep_i⟩
      · skip
        exact hM4 (post_ok hm) _ _ w9 (s6.trans (s8.trans s9))
    intro us4 F4 H4 ys4 s4 w4 gg4 hm
    replace q1 := s4 _ _ q1
    replace h1 := A2.mono s4 h1
    replace r_one := Rep.mono s4 r_one
    replace r_other := Rep.mono s4 r_other
    replace sF := sF.trans s4
    exact (post_ok hm) _ _ _ _ w4 sF gg4
def sp_pairs_of (K : Fg) : Sp := fun vs H Q E => ∃ (F : Hp) (os : List (Addr × HO)) (v_web : V) (x_web : (Int × (Tup (Int × Int)))) (x_kind : Str), vs = [v_web, .str x_kind] ∧ W F H (os) ∧ rep K F v_web x_web ∧ Post (pairs_of x_web x_kind) (Ret K F os Q) noX
theorem sc_pairs_of : FnScope ["web", "kind", "things", "table", "found", "at", "one", "other"] ["web", "kind"] (defScope s_pairs_of) := ⟨rfl, rfl, rfl, by decide +kernel, rfl, by decide +kernel, by decide +kernel⟩
theorem ok_pairs_of (T : Tx K mg A FD) : FnOk P w K mg base CX0 4 (A 18) (FD 18) ["web", "kind"] (sp_pairs_of K) := by
  refine T.d18.fn.ok sc_pairs_of (fun vs H Q E h => ?_) (fun cdv Ar outer s H vs Q E hr h => ?_)
  · obtain ⟨F, os, v_web, x_web, x_kind, rfl, _⟩ := h
    rfl
  · obtain ⟨F0, os, v_web, x_web, x_kind, rfl, w0, r_web, hm⟩ := h
    have sF : Same F0 F0 := Same.refl _
    obtain ⟨a1, u1, z1, rfl, q1, r1a, r1b⟩ := r_web
    obtain rfl : u1 = V.int x_web.1 := r1a
    obtain ⟨a2, vs2, rfl, q2, h2⟩ := r1b
    refine ⟨_, (pss_cons (ps_set (i := 2) sc_pairs_of.nd rfl (Or.inl rfl) (pe_call (ok_things_of T) (hr.mono (by decide)) (by rfl) T.d12.mg T.d12.fn.kp T.d12.b .nil pass0 (pa_cons (pv 0) (pa_cons (pv 1) pa_nil)))) (pss_cons (ps_set (i := 3) sc_pairs_of.nd rfl (Or.inl rfl) (pe_call (ok_fars_of T) (hr.mono (by decide)) (by rfl) T.d15.mg T.d15.fn.kp T.d15.b .nil pass0 (pa_cons (pv 0) pa_nil))) (pss_cons (ps_set (i := 4) sc_pairs_of.nd rfl (Or.inl rfl) (pe_lst pa_nil)) (pss_cons (ps_for PassesOwn.never rfl (pi_k (K := K) (wi := fun K => iEnum K _) rfl (pi_enum (by rfl) T.n_enumerate (pa_cons (pv 2) pa_nil))) (pg_k (K := K) (t := fun K => gTup K 2 _) rfl (pg_tup (n := 2) rfl (pgs_cons (pg_name (i := 5) sc_pairs_of.nd rfl (Or.inl rfl)) (pgs_cons (pg_name (i := 6) sc_pairs_of.nd rfl (Or.inl rfl)) pgs_nil)))) (pss_one (ps_for PassesOwn.never rfl (pi_listK (K := K) rfl (pe_slice (sl_listK (K := K) rfl) (pv 2) (po_some (pe_op op_add (pv 5) pe_int)) po_none)) (pg_name (i := 7) sc_pairs_of.nd rfl (Or.inl rfl)) (pss_one (ps_expr (pe_bm PySem.F.plainAttrs_list PySem.F.slot_list_append PySem.F.type_list_append mt_append (pv 4) (pa_cons (pe_tup (pa_cons (pv 6) (pa_cons (pv 7) (pa_cons (pe_call (ok_parters_in T) (hr.mono (by decide)) (by rfl) T.d17.mg T.d17.fn.kp T.d17.b .nil pass0 (pa_cons (pv 3) (pa_cons (pv 6) (pa_cons (pv 7) pa_nil)))) pa_nil)))) pa_nil))))))) (pss_one (ps_ret (pv 4))))))), ?_⟩
    refine ⟨_, rfl, _, rfl, _, _, _, (x_web : (Int × (Tup (Int × Int)))), _, rfl, w0, (rep_pair q1 rep_i (rep_tup q2 h2)), ?_⟩
    refine (post_bind hm).mono (fun y3 hm p3 us3 F3 H3 w3 s3 g3 => ?_) (fun _ z => z)
    replace q1 := s3 _ _ q1
    replace q2 := s3 _ _ q2
    replace h2 := A2.mono s3 h2
    replace sF := sF.trans s3
    obtain ⟨F5, s5, w5, q5⟩ : ∃ F', Same F3 F' ∧ W F' _ (os) ∧ F' p3 = some (.lst us3) := w3.freezeE (pre := [])
    replace q1 := s5 _ _ q1
    replace q2 := s5 _ _ q2
    replace h2 := A2.mono s5 h2
    replace g3 := A2.mono s5 g3
    replace sF := sF.trans s5
    refine ⟨_, rfl, _, _, _, (x_web : (Int × (Tup (Int × Int)))), rfl, w5, (rep_pair q1 rep_i (rep_tup q2 h2)), ?_⟩
    refine (post_bind hm).mono (fun y6 hm v6 F6 H6 w6 s6 r6 => ?_) (fun _ z => z)
    replace q1 := s6 _ _ q1
    replace h2 := A2.mono s6 h2
    replace q2 := s6 _ _ q2
    replace g3 := A2.mono s6 g3
    replace q5 := s6 _ _ q5
    replace sF := sF.trans s6
    obtain ⟨a7, vs7, rfl, q7, h7⟩ := r6
    have h8 : A2 (rep K F6) [] ([] : (List (Nt (Thing × Thing × (List Int) × Unit)))) := .nil
    refine ⟨(by show 0 ≤ sizeLine; decide), fun p9 n9 => ?_⟩
    have w9 : W F6 _ ((p9, .lst []) :: os) := w6.new n9
    refine ⟨_, rfl, _, _, rfl, SqL.of (w9.same _ _ q5), ?_⟩
    refine forS (tw_enum (a := p3) g3) hm (fun (g10 : (List (Nt (Thing × Thing × (List Int) × Unit)))) σ H' => ∃ (F' : Hp) (vs10_0 : List V) (o10_7 : Option V) (o10_5 : Option V) (o10_6 : Option V), σ = [some (.ref a1), some (.str x_kind), some (.ref p3), some (.ref a7), some (.ref p9), o10_5, o10_6, o10_7] ∧ Same F6 F' ∧ W F' H' ((p9, .lst vs10_0) :: os) ∧ A2 (rep K F') vs10_0 g10) ⟨_, _, _, _, _, rfl, Same.refl _, w9, h8⟩ (fun g σ H' hI => by obtain ⟨F', _, _, _, _, _, s, w, _⟩ := hI; exact SqL.of (w.same _ _ (s _ _ q5))) ?_ ?_
    · -- a turn
      intro b10 g10 x10 σ10 H10 H10' N10 P10 hI hy hN10 hm
      obtain ⟨F10, vs10_0, o10_7, o10_5, o10_6, rfl, s10, w10, h10_0⟩ := hI
      replace q1 := s10 _ _ q1
      replace h2 := A2.mono s10 h2
      replace q2 := s10 _ _ q2
      replace g3 := A2.mono s10 g3
      replace q5 := s10 _ _ q5
      replace h7 := A2.mono s10 h7
      replace q7 := s10 _ _ q7
      replace sF := sF.trans s10
      obtain ⟨T11, u11, rfl, n11, rfl, r11⟩ := hy
      obtain ⟨F11, s11, w11, q11⟩ := w10.frzE (o := .tup [.int b10.1, u11]) n11
      replace r11 := Rep.mono s10 r11
      replace q1 := s11 _ _ q1
      replace h2 := A2.mono s11 h2
      replace q2 := s11 _ _ q2
      replace g3 := A2.mono s11 g3
      replace q5 := s11 _ _ q5
      replace h7 := A2.mono s11 h7
      replace q7 := s11 _ _ q7
      replace h10_0 := A2.mono s11 h10_0
      replace sF := sF.trans s11
      replace r11 := Rep.mono s11 r11
      have h14 : A2 (rep K F11) (cutV us3 (some (b10.1 + (1 : Int))) none) (cutL y3 (some (b10.1 + (1 : Int))) none) := sl_cut g3 _ _
      refine ⟨_, _, rfl, SqT.of (w11.same _ _ q11), rfl, _, _, rfl, _, _, rfl, rfl, _, rfl, _, rfl, _, _, rfl, rfl, _, rfl, _, _, rfl, SqL.of (w11.same _ _ q5), fun p15 n15 => ?_⟩
      have w15 : W F11 _ ((p15, .lst (cutV us3 (some (b10.1 + (1 : Int))) none)) :: (p9, .lst vs10_0) :: os) := w11.new n15
      obtain ⟨F16, s16, w16, q16⟩ : ∃ F', Same F11 F' ∧ W F' _ ((p9, .lst vs10_0) :: os) ∧ F' p15 = some (.lst (cutV us3 (some (b10.1 + (1 : Int))) none)) := w15.freezeE (pre := [])
      replace q1 := s16 _ _ q1
      replace h2 := A2.mono s16 h2
      replace q2 := s16 _ _ q2
      replace g3 := A2.mono s16 g3
      replace q5 := s16 _ _ q5
      replace h7 := A2.mono s16 h7
      replace q7 := s16 _ _ q7
      replace r11 := Rep.mono s16 r11
      replace h10_0 := A2.mono s16 h10_0
      replace h14 := A2.mono s16 h14
      replace sF := sF.trans s16
      refine ⟨_, rfl, ⟨_, SqL.of (w16.same _ _ q16)⟩, ?_⟩
      refine forS (tw_list (a := p15) h14) hm (fun (g13 : (List (Nt (Thing × Thing × (List Int) × Unit)))) σ H' => ∃ (F' : Hp) (vs13_0 : List V) (o13_7 : Option V), σ = [some (.ref a1), some (.str x_kind), some (.ref p3), some (.ref a7), some (.ref p9), some (.int b10.1), some u11, o13_7] ∧ Same F16 F' ∧ W F' H' ((p9, .lst vs13_0) :: os) ∧ A2 (rep K F') vs13_0 g13) ⟨_, _, _, rfl, Same.refl _, w16, h10_0⟩ (fun g σ H' hI => by obtain ⟨F', _, _, _, s, w, _⟩ := hI; exact SqL.of (w.same _ _ (s _ _ q16))) ?_ ?_
      · -- a turn
        intro b13 g13 x13 σ13 H13 H13' N13 P13 hI hy hN13 hm
        obtain ⟨F13, vs13_0, o13_7, rfl, s13, w13, h13_0⟩ := hI
        replace q1 := s13 _ _ q1
        replace h2 := A2.mono s13 h2
        replace q2 := s13 _ _ q2
        replace g3 := A2.mono s13 g3
        replace q5 := s13 _ _ q5
        replace h7 := A2.mono s13 h7
        replace q7 := s13 _ _ q7
        replace r11 := Rep.mono s13 r11
        replace h14 := A2.mono s13 h14
        replace q16 := s13 _ _ q16
        replace sF := sF.trans s13
        obtain ⟨rfl, r17⟩ := hy
        replace r17 := Rep.mono s13 r17
        refine ⟨_, rfl, .inl ⟨rfl, _, SqL.of (w13.get (pre := []))⟩, _, rfl, _, rfl, _, rfl, _, rfl, _, rfl, _, _, _, (y6 : (List (List Int))), _, (b10.2 : Thing), _, (b13 : Thing), rfl, w13, (rep_lst q7 h7), r11, r17, ?_⟩
        refine (post_bind hm).mono (fun y19 hm p19 us19 F19 H19 w19 s19 g19 => ?_) (fun _ z => z)
        replace q1 := s19 _ _ q1
        replace h2 := A2.mono s19 h2
        replace q2 := s19 _ _ q2
        replace g3 := A2.mono s19 g3
        replace q5 := s19 _ _ q5
        replace h7 := A2.mono s19 h7
        replace q7 := s19 _ _ q7
        replace r17 := Rep.mono s19 r17
        replace r11 := Rep.mono s19 r11
        replace h13_0 := A2.mono s19 h13_0
        replace sF := sF.trans s19
        obtain ⟨F21, s21, w21, q21⟩ : ∃ F', Same F19 F' ∧ W F' _ ((p9, .lst vs13_0) :: os) ∧ F' p19 = some (.lst us19) := w19.freezeE (pre := [])
        replace q1 := s21 _ _ q1
        replace h2 := A2.mono s21 h2
        replace q2 := s21 _ _ q2
        replace g3 := A2.mono s21 g3
        replace q5 := s21 _ _ q5
        replace h7 := A2.mono s21 h7
        replace q7 := s21 _ _ q7
        replace r17 := Rep.mono s21 r17
        replace r11 := Rep.mono s21 r11
        replace h13_0 := A2.mono s21 h13_0
        replace g19 := A2.mono s21 g19
        replace sF := sF.trans s21
        refine ⟨(by show 3 ≤ sizeLine; decide), fun p22 n22 => ?_⟩
        obtain ⟨F22, s22, w22, q22⟩ := w21.frzE (o := .tup [u11, x13, (.ref p19)]) n22
        replace q1 := s22 _ _ q1
        replace h2 := A2.mono s22 h2
        replace q2 := s22 _ _ q2
        replace g3 := A2.mono s22 g3
        replace q5 := s22 _ _ q5
        replace h7 := A2.mono s22 h7
        replace q7 := s22 _ _ q7
        replace r17 := Rep.mono s22 r17
        replace r11 := Rep.mono s22 r11
        replace h13_0 := A2.mono s22 h13_0
        replace g19 := A2.mono s22 g19
        replace q21 := s22 _ _ q21
        replace sF := sF.trans s22
        obtain ⟨l23, z23, e23, hm⟩ := pn_app hm
        refine ⟨_, _, _, rfl, rfl, (w22.get (pre := [])), (A2.lt h13_0 z23), ?_⟩
        have h23 : A2 (rep K F22) (vs13_0 ++ [(V.ref p22)]) l23 := e23 ▸ A2.snoc h13_0 (rep_nt3 q22 r11 r17 (rep_lst q21 g19))
        have w24 : W F22 _ ((p9, .lst (vs13_0 ++ [(V.ref p22)])) :: os) := w22.set (pre := [])
        exact hN13 _ (post_ok hm) _ _ ⟨_, _, _, rfl, (s13.trans (s19.trans (s21.trans s22))), w24, h23⟩
      intro g13 σ13 H13 hI hm
      obtain ⟨F13, vs13_0, o13_7, rfl, s13, w13, h13_0⟩ := hI
      replace q1 := s13 _ _ q1
      replace h2 := A2.mono s13 h2
      replace q2 := s13 _ _ q2
      replace g3 := A2.mono s13 g3
      replace q5 := s13 _ _ q5
      replace h7 := A2.mono s13 h7
      replace q7 := s13 _ _ q7
      replace r11 := Rep.mono s13 r11
      replace h14 := A2.mono s13 h14
      replace q16 := s13 _ _ q16
      replace sF := sF.trans s13
      exact hN10 _ (post_ok hm) _ _ ⟨_, _, _, _, _, rfl, (s10.trans (s11.trans (s16.trans s13))), w13, h13_0⟩
    intro g10 σ10 H10 hI hm
    obtain ⟨F10, vs10_0, o10_7, o10_5, o10_6, rfl, s10, w10, h10_0⟩ := hI
    replace q1 := s10 _ _ q1
    replace h2 := A2.mono s10 h2
    replace q2 := s10 _ _ q2
    replace g3 := A2.mono s10 g3
    replace q5 := s10 _ _ q5
    replace h7 := A2.mono s10 h7
    replace q7 := s10 _ _ q7
    replace sF := sF.trans s10
    obtain ⟨F25, s25, w25, q25⟩ : ∃ F', Same F10 F' ∧ W F' _ (os) ∧ F' p9 = some (.lst vs10_0) := w10.freezeE (pre := [])
    replace q1 := s25 _ _ q1
    replace h2 := A2.mono s25 h2
    replace q2 := s25 _ _ q2
    replace g3 := A2.mono s25 g3
    replace q5 := s25 _ _ q5
    replace h7 := A2.mono s25 h7
    replace q7 := s25 _ _ q7
    replace h10_0 := A2.mono s25 h10_0
    replace sF := sF.trans s25
    exact ⟨_, rfl, (post_ok hm) _ _ _ w25 sF (rep_lst q25 h10_0)⟩
def sp_leanest_pairs (K : Fg) : Sp := fun vs H Q E => ∃ (F : Hp) (os : List (Addr × HO)) (v_pairs : V) (x_pairs : (List (Nt (Thing × Thing × (List Int) × Unit)))), vs = [v_pairs] ∧ W F H (os) ∧ rep K F v_pairs x_pairs ∧ Post (leanest_pairs x_pairs) (Ret K F os Q) noX
theorem sc_leanest_pairs : FnScope ["pairs", "unlike", "pair", "found", "parters", "lesser", "one", "place"] ["pairs"] (defScope s_leanest_pairs) := ⟨rfl, rfl, rfl, by decide +kernel, rfl, by decide +kernel, by decide +kernel⟩
theorem ok_leanest_pairs (T : Tx K mg A FD) : FnOk P w K mg base CX0 1 (A 19) (FD 19) ["pairs"] (sp_leanest_pairs K) := by
  refine T.d19.fn.ok sc_leanest_pairs (fun vs H Q E h => ?_) (fun cdv Ar outer s H vs Q E hr h => ?_)
  · obtain ⟨F, os, v_pairs, x_pairs, rfl, _⟩ := h
    rfl
  · obtain ⟨F0, os, v_pairs, x_pairs, rfl, w0, r_pairs, hm⟩ := h
    have sF : Same F0 F0 := Same.refl _
    obtain ⟨a1, vs1, rfl, q1, h1⟩ := r_pairs
    refine ⟨_, (pss_cons (ps_set (i := 1) sc_leanest_pairs.nd rfl (Or.inl rfl) pe_dnewT) (pss_cons (ps_for PassesOwn.never rfl (pi_listK (K := K) rfl (pv 0)) (pg_name (i := 2) sc_leanest_pairs.nd rfl (Or.inl rfl)) (pss_one (ps_expr (pe_dsetdU (Room.units1 hr) (pv 1) (pe_callTy (call_tuple_ofK (K := K) rfl) (by rfl) T.n_tuple (by decide +kernel) (pa_cons (pe_ix (ix_tupK (K := K) rfl) (pv 2) pe_int (fun _ _ => rfl)) pa_nil)) (pv 2) ⟨rfl, rfl, rfl, rfl⟩)))) (pss_cons (ps_set (i := 3) sc_leanest_pairs.nd rfl (Or.inl rfl) (pe_lst pa_nil)) (pss_cons (ps_for PassesOwn.never rfl (pi_itemsT (pv 1)) (pg_k (K := K) (t := fun K => gTup K 2 _) rfl (pg_tup (n := 2) rfl (pgs_cons (pg_name (i := 4) sc_leanest_pairs.nd rfl (Or.inr rfl)) (pgs_cons (pg_name (i := 2) sc_leanest_pairs.nd rfl (Or.inl rfl)) pgs_nil)))) (pss_cons (ps_setLc (i := 5) (own := [("one", 6)]) (g := gName 6) (by rfl) sc_leanest_pairs.nd rfl rfl (sw_true rfl rfl rfl (by decide +kernel)) (pi_keys (pv 1)) (blkOk_by (own := [("one", 6)]) (N := ["pairs", "unlike", "pair", "found", "parters", "lesser", "one", "place"]) (sc := defScope s_leanest_pairs) (by decide +kernel)) (fun _ _ _ _ _ => (pg_name (i := 6) sc_leanest_pairs.nd rfl (Or.inl rfl))) (fun _ _ _ _ _ => (pts_one (PW.pt (pw_and (pt_cmp (pc_lt (pe_callB (call_lenN (K := K) rfl) (by rfl) T.n_len (by decide +kernel) (pa_cons (pv 6) pa_nil)) (pe_callB (call_lenN (K := K) rfl) (by rfl) T.n_len (by decide +kernel) (pa_cons (pv 4) pa_nil)))) (pw_and1 (pt_val (pe_callB (cr_allK (K := K) rfl rfl) (by rfl) T.n_all (by decide +kernel) (pa_cons (pe_lc (own := [("place", 7)]) (g := gName 7) (by rfl) sc_leanest_pairs.nd (pi_tupK (K := K) rfl (pv 6)) (blkOk_by (own := [("place", 7)]) (N := ["pairs", "unlike", "pair", "found", "parters", "lesser", "one", "place"]) (sc := _) (by kernel_rfl)) (fun _ _ _ _ _ => (pg_name (i := 7) sc_leanest_pairs.nd rfl (Or.inl rfl))) (fun _ _ _ _ _ => pts_nil) (fun _ _ _ _ _ => (pe_cmpR (op_inT (K := K) rfl Int (by decide) (Room.units65 hr)) (pv 7) (pv 4) (by rfl)))) pa_nil)))))))) (fun _ _ _ _ _ => (pv 6))) (pss_one (ps_if (pt_cmpR (op_eqDt (K := K) rfl (List (Tup Int)) (by decide) hr.units) (pv 5) (pe_lst pa_nil) (nomark _)) (pss_one (ps_expr (pe_bm PySem.F.plainAttrs_list PySem.F.slot_list_append PySem.F.type_list_append mt_append (pv 3) (pa_cons (pv 2) pa_nil)))) pss_nil)))) (pss_one (ps_ret (pv 3))))))), ?_⟩
    refine fun p2 n2 => ?_
    have w2 : W F0 _ ((p2, .dT []) :: os) := w0.new n2
    have h2 : AD kT (rep K F0) [] ([] : (List ((Tup Int) × (Nt (Thing × Thing × (List Int) × Unit))))) := .nil
    refine ⟨_, rfl, _, rfl, ⟨_, SqL.of (w2.same _ _ q1)⟩, ?_⟩
    refine forS (tw_list (a := a1) h1) hm (fun (g3 : (List ((Tup Int) × (Nt (Thing × Thing × (List Int) × Unit))))) σ H' => ∃ (F' : Hp) (vs3_0 : List (List Key × V)) (o3_2 : Option V), σ = [some (.ref a1), some (.ref p2), o3_2, none, none, none, none, none] ∧ Same F0 F' ∧ W F' H' ((p2, .dT vs3_0) :: os) ∧ AD kT (rep K F') vs3_0 g3) ⟨_, _, _, rfl, Same.refl _, w2, h2⟩ (fun g σ H' hI => by obtain ⟨F', _, _, _, s, w, _⟩ := hI; exact SqL.of (w.same _ _ (s _ _ q1))) ?_ ?_
    · -- a turn
      intro b3 g3 x3 σ3 H3 H3' N3 P3 hI hy hN3 hm
      obtain ⟨F3, vs3_0, o3_2, rfl, s3, w3, h3_0⟩ := hI
      replace h1 := A2.mono s3 h1
      replace q1 := s3 _ _ q1
      replace sF := sF.trans s3
      obtain ⟨rfl, r4⟩ := hy
      replace r4 := Rep.mono s3 r4
      obtain ⟨a5, u5_0, u5_1, u5_2, rfl, q5, r5_0, r5_1, r5_2⟩ := nt3 r4
      replace r5_0 : rep K F3 u5_0 (b3.v.1 : Thing) := r5_0
      replace r5_1 : rep K F3 u5_1 (b3.v.2.1 : Thing) := r5_1
      replace r5_2 : rep K F3 u5_2 (b3.v.2.2.1 : (List Int)) := r5_2
      obtain ⟨a8, vs8, rfl, q8, h8⟩ := r5_2
      have h9 : A2 (rep K F3) vs8 b3.v.2.2.1 := h8
      refine ⟨_, rfl, _, rfl, isD_t (w3.get (pre := [])), _, rfl, _, _, _, _, rfl, rfl, SqT.of (w3.same _ _ q5), rfl, _, _, rfl, .inl ⟨SqL.of (w3.same _ _ q8), fun p10 n10 => ?_⟩⟩
      obtain ⟨F10, s10, w10, q10⟩ := w3.frzE (o := .tup vs8) n10
      replace h1 := A2.mono s10 h1
      replace q1 := s10 _ _ q1
      replace q5 := s10 _ _ q5
      replace r5_0 := Rep.mono s10 r5_0
      replace r5_1 := Rep.mono s10 r5_1
      replace h8 := A2.mono s10 h8
      replace q8 := s10 _ _ q8
      replace h3_0 := AD.imp (fun _ _ => Rep.mono s10) h3_0
      replace h9 := A2.mono s10 h9
      replace sF := sF.trans s10
      obtain ⟨l11, z11, e11, hm⟩ := pn_msetd hm
      refine ⟨_, rfl, _, _, _, (w10.get (pre := [])), rfl, key_tup (t := (Tup.mk b3.v.2.2.1)) w10.same q10 h9, (by rw [AD.length h3_0]; exact z11), fun _ => ?_⟩
      have h11 : AD kT (rep K F10) (setdK vs3_0 (kT (Tup.mk b3.v.2.2.1)) (.ref a5)) l11 := e11 ▸ AD.setd h3_0 (rep_nt3 q5 r5_0 r5_1 (rep_lst q8 h8))
      have w12 : W F10 _ ((p2, .dT (setdK vs3_0 (kT (Tup.mk b3.v.2.2.1)) (.ref a5))) :: os) := w10.set (pre := [])
      exact hN3 _ (post_ok hm) _ _ ⟨_, _, _, rfl, (s3.trans s10), w12, h11⟩
    intro g3 σ3 H3 hI hm
    obtain ⟨F3, vs3_0, o3_2, rfl, s3, w3, h3_0⟩ := hI
    replace h1 := A2.mono s3 h1
    replace q1 := s3 _ _ q1
    replace sF := sF.trans s3
    have h13 : A2 (rep K F3) [] ([] : (List (Nt (Thing × Thing × (List Int) × Unit)))) := .nil
    refine ⟨(by show 0 ≤ sizeLine; decide), fun p14 n14 => ?_⟩
    have w14 : W F3 _ ((p14, .lst []) :: (p2, .dT vs3_0) :: os) := w3.new n14
    refine ⟨_, rfl, _, _, rfl, (w14.get (pre := [_])), fun od16 => ?_⟩
    have w16 : W F3 _ ((p14, .lst []) :: (p2, (.frz od16 (.dT vs3_0))) :: os) := w14.set (pre := [_])
    refine forS (tw_itemsT (d := p2) (o := od16) h3_0) hm (fun (g15 : (List (Nt (Thing × Thing × (List Int) × Unit)))) σ H' => ∃ (F' : Hp) (vs15_0 : List V) (o15_5 : Option V) (o15_4 : Option V) (o15_2 : Option V), σ = [some (.ref a1), some (.ref p2), o15_2, some (.ref p14), o15_4, o15_5, none, none] ∧ Same F3 F' ∧ W F' H' ((p14, .lst vs15_0) :: (p2, (.frz od16 (.dT vs3_0))) :: os) ∧ A2 (rep K F') vs15_0 g15) ⟨_, _, _, _, _, rfl, Same.refl _, w16, h13⟩ (fun g σ H' hI => by obtain ⟨F', _, _, _, _, _, s, w, _⟩ := hI; exact w.get (pre := [_])) ?_ ?_
    · -- a turn
      intro b15 g15 x15 σ15 H15 H15' N15 P15 hI hy hN15 hm
      obtain ⟨F15, vs15_0, o15_5, o15_4, o15_2, rfl, s15, w15, h15_0⟩ := hI
      replace h1 := A2.mono s15 h1
      replace q1 := s15 _ _ q1
      replace h3_0 := AD.imp (fun _ _ => Rep.mono s15) h3_0
      replace sF := sF.trans s15
      obtain ⟨T17, k17, u17, rfl, n17, hk17, rfl, r17⟩ := hy
      replace r17 := Rep.mono s15 r17
      obtain ⟨F18, s18, w18, f18⟩ := w15.tups
      have q18 := f18 _ _ hk17
      replace r17 := Rep.mono s18 r17
      replace h1 := A2.mono s18 h1
      replace q1 := s18 _ _ q1
      replace h3_0 := AD.imp (fun _ _ => Rep.mono s18) h3_0
      replace h15_0 := A2.mono s18 h15_0
      replace sF := sF.trans s18
      have h18 : A2 (rep K F18) (b15.1.l.map V.int) b15.1.l := A2.of_ints
      obtain ⟨F19, s19, w19, q19⟩ := w18.frzE (o := .tup [.ref k17, u17]) n17
      replace r17 := Rep.mono s19 r17
      replace h1 := A2.mono s19 h1
      replace q1 := s19 _ _ q1
      replace h3_0 := AD.imp (fun _ _ => Rep.mono s19) h3_0
      replace h15_0 := A2.mono s19 h15_0
      replace q18 := s19 _ _ q18
      replace h18 := A2.mono s19 h18
      replace sF := sF.trans s19
      obtain ⟨a20, u20_0, u20_1, u20_2, rfl, q20, r20_0, r20_1, r20_2⟩ := nt3 r17
      replace r20_0 : rep K F19 u20_0 (b15.2.v.1 : Thing) := r20_0
      replace r20_1 : rep K F19 u20_1 (b15.2.v.2.1 : Thing) := r20_1
      replace r20_2 : rep K F19 u20_2 (b15.2.v.2.2.1 : (List Int)) := r20_2
      obtain ⟨a23, vs23, rfl, q23, h23⟩ := r20_2
      refine ⟨_, _, rfl, SqT.of (w19.same _ _ q19), rfl, _, _, rfl, _, _, rfl, rfl, _, rfl, _, _, rfl, .inr ⟨_, (w19.get (pre := [_])), ?_⟩⟩
      refine fun D25 nD25 => ?_
      refine lcF (K := K) (tw_keysT (d := p2) (o := od16) h3_0) hm w19 nD25 (fun F' H' acc s w => w.get (pre := [_, _])) ?_ ?_
      · -- one turn
        intro b25 x25 F25 H25 H25' acc25 N25 M25 P25 s25 w25 y25 hN25 hM25 hm
        replace h1 := A2.mono s25 h1
        replace q1 := s25 _ _ q1
        replace q20 := s25 _ _ q20
        replace r20_0 := Rep.mono s25 r20_0
        replace r20_1 := Rep.mono s25 r20_1
        replace h23 := A2.mono s25 h23
        replace q23 := s25 _ _ q23
        replace h18 := A2.mono s25 h18
        replace q18 := s25 _ _ q18
        replace h15_0 := A2.mono s25 h15_0
        replace h3_0 := AD.imp (fun _ _ => Rep.mono s25) h3_0
        replace sF := sF.trans s25
        obtain ⟨rfl, k27, rfl, hk27⟩ := y25
        obtain ⟨F28, s28, w28, f28⟩ := w25.tups
        have q28 := f28 _ _ hk27
        replace h1 := A2.mono s28 h1
        replace q1 := s28 _ _ q1
        replace q20 := s28 _ _ q20
        replace r20_0 := Rep.mono s28 r20_0
        replace r20_1 := Rep.mono s28 r20_1
        replace h23 := A2.mono s28 h23
        replace q23 := s28 _ _ q23
        replace h18 := A2.mono s28 h18
        replace q18 := s28 _ _ q18
        replace h15_0 := A2.mono s28 h15_0
        replace h3_0 := AD.imp (fun _ _ => Rep.mono s28) h3_0
        replace sF := sF.trans s28
        have h28 : A2 (rep K F28) (b25.l.map V.int) b25.l := A2.of_ints
        refine ⟨rfl, ?_⟩
        refine joinT hm (fun (j29 : Bool) c H' => c = j29 ∧ ∃ (F' : Hp), Same F28 F' ∧ W F' H' ((D25, .lst acc25) :: (p14, .lst vs15_0) :: (p2, (.frz od16 (.dT vs3_0))) :: os)) ?_ ?_
        · intro Q29 P29 q29 hm
          refine ⟨_, rfl, _, _, _, rfl, .inr (SqT.of (w28.same _ _ q28)), h28.length, _, rfl, _, _, _, rfl, .inr (SqT.of (w28.same _ _ q18)), h18.length, _, _, rfl, rfl, _, rfl, ?_⟩
          refine post_ite hm (fun k30 hm => ?_) (fun k30 hm => ?_)
          · skip
            refine ⟨_, rfl, _, rfl, ⟨_, SqT.of (w28.same _ _ q28)⟩, fun D31 nD31 => ?_⟩
            refine lcM (K := K) (tw_tup (a := k27) h28) hm w28 nD31 (fun F' H' acc s w => SqT.of (w.same _ _ (s _ _ q28))) ?_ ?_
            · -- one turn
              intro b31 x31 F31 H31 H31' acc31 N31 P31 s31 w31 y31 hN31 hm
              replace h1 := A2.mono s31 h1
              replace q1 := s31 _ _ q1
              replace q20 := s31 _ _ q20
              replace r20_0 := Rep.mono s31 r20_0
              replace r20_1 := Rep.mono s31 r20_1
              replace h23 := A2.mono s31 h23
              replace q23 := s31 _ _ q23
              replace h18 := A2.mono s31 h18
              replace q18 := s31 _ _ q18
              replace h15_0 := A2.mono s31 h15_0
              replace h3_0 := AD.imp (fun _ _ => Rep.mono s31) h3_0
              replace q28 := s31 _ _ q28
              replace h28 := A2.mono s31 h28
              replace sF := sF.trans s31
              obtain ⟨rfl, r33⟩ := y31
              obtain rfl : x31 = V.int b31 := r33
              exact ⟨rfl, _, rfl, _, rfl, (b31 : Int), _, rep_i, (Rep.mono w31.same (rep_tup q18 h18)), hN31 _ (post_ok hm) _ _ _ w31 (Same.refl _) rep_b⟩
            intro us31 F31 H31 ys31 s31 w31 gg31 hm
            replace h1 := A2.mono s31 h1
            replace q1 := s31 _ _ q1
            replace q20 := s31 _ _ q20
            replace r20_0 := Rep.mono s31 r20_0
            replace r20_1 := Rep.mono s31 r20_1
            replace h23 := A2.mono s31 h23
            replace q23 := s31 _ _ q23
            replace h18 := A2.mono s31 h18
            replace q18 := s31 _ _ q18
            replace h15_0 := A2.mono s31 h15_0
            replace h3_0 := AD.imp (fun _ _ => Rep.mono s31) h3_0
            replace q28 := s31 _ _ q28
            replace h28 := A2.mono s31 h28
            replace sF := sF.trans s31
            have w36 : W F31 _ ((D25, .lst acc25) :: (p14, .lst vs15_0) :: (p2, (.frz od16 (.dT vs3_0))) :: os) := w31.drop (pre := [])
            exact ⟨_, _, rfl, bools_q (SqL.of (w31.get (pre := []))) gg31, _, rfl, q29 _ (post_ok hm) _ _ ⟨rfl, _, s31, w36⟩⟩
          · skip
            exact q29 _ (post_ok hm) _ _ ⟨rfl, _, Same.refl _, w28⟩
        intro j29 c29 H29 hc29 hm
        obtain ⟨rfl, F29, s29, w29⟩ := hc29
        replace h1 := A2.mono s29 h1
        replace q1 := s29 _ _ q1
        replace q20 := s29 _ _ q20
        replace r20_0 := Rep.mono s29 r20_0
        replace r20_1 := Rep.mono s29 r20_1
        replace h23 := A2.mono s29 h23
        replace q23 := s29 _ _ q23
        replace h18 := A2.mono s29 h18
        replace q18 := s29 _ _ q18
        replace h15_0 := A2.mono s29 h15_0
        replace h3_0 := AD.imp (fun _ _ => Rep.mono s29) h3_0
        replace q28 := s29 _ _ q28
        replace h28 := A2.mono s29 h28
        replace sF := sF.trans s29
        refine post_ite hm (fun k38 hm => ?_) (fun k38 hm => ?_)
        · skip
          exact ⟨_, rfl, hN25 _ (post_ok hm) _ _ _ w29 (s28.trans s29) (rep_tup q28 h28)⟩
        · skip
          exact hM25 (post_ok hm) _ _ w29 (s28.trans s29)
      intro us25 F25 H25 ys25 s25 w25 gg25 hm
      replace h1 := A2.mono s25 h1
      replace q1 := s25 _ _ q1
      replace q20 := s25 _ _ q20
      replace r20_0 := Rep.mono s25 r20_0
      replace r20_1 := Rep.mono s25 r20_1
      replace h23 := A2.mono s25 h23
      replace q23 := s25 _ _ q23
      replace h18 := A2.mono s25 h18
      replace q18 := s25 _ _ q18
      replace h15_0 := A2.mono s25 h15_0
      replace h3_0 := AD.imp (fun _ _ => Rep.mono s25) h3_0
      replace sF := sF.trans s25
      obtain ⟨F40, s40, w40, q40⟩ : ∃ F', Same F25 F' ∧ W F' _ ((p14, .lst vs15_0) :: (p2, (.frz od16 (.dT vs3_0))) :: os) ∧ F' D25 = some (.lst us25) := w25.freezeE (pre := [])
      replace h1 := A2.mono s40 h1
      replace q1 := s40 _ _ q1
      replace q20 := s40 _ _ q20
      replace r20_0 := Rep.mono s40 r20_0
      replace r20_1 := Rep.mono s40 r20_1
      replace h23 := A2.mono s40 h23
      replace q23 := s40 _ _ q23
      replace h18 := A2.mono s40 h18
      replace q18 := s40 _ _ q18
      replace h15_0 := A2.mono s40 h15_0
      replace h3_0 := AD.imp (fun _ _ => Rep.mono s40) h3_0
      replace gg25 := A2.mono s40 gg25
      replace sF := sF.trans s40
      have h41 : A2 (rep K F40) [] ([] : (List (Tup Int))) := .nil
      refine ⟨_, rfl, (by show 0 ≤ sizeLine; decide), fun p42 n42 => ?_⟩
      have w42 : W F40 _ ((p42, .lst []) :: (p14, .lst vs15_0) :: (p2, (.frz od16 (.dT vs3_0))) :: os) := w40.new n42
      refine ⟨(ys25 : (List (Tup Int))), (([] : (List (Tup Int))) : (List (Tup Int))), (Rep.mono w42.same (rep_lst q40 gg25)), (rep_own (pre := []) w42 h41), _, rfl, ?_⟩
      have w43 : W F40 _ ((p14, .lst vs15_0) :: (p2, (.frz od16 (.dT vs3_0))) :: os) := w42.drop (pre := [])
      refine post_ite hm (fun k44 hm => ?_) (fun k44 hm => ?_)
      · skip
        obtain ⟨l45, z45, e45, hm⟩ := pn_app hm
        refine ⟨_, rfl, .inl ⟨rfl, _, SqL.of (w43.get (pre := []))⟩, _, rfl, _, _, _, rfl, rfl, (w43.get (pre := [])), (A2.lt h15_0 z45), ?_⟩
        have h45 : A2 (rep K F40) (vs15_0 ++ [(V.ref a20)]) l45 := e45 ▸ A2.snoc h15_0 (rep_nt3 q20 r20_0 r20_1 (rep_lst q23 h23))
        have w46 : W F40 _ ((p14, .lst (vs15_0 ++ [(V.ref a20)])) :: (p2, (.frz od16 (.dT vs3_0))) :: os) := w43.set (pre := [])
        exact hN15 _ (post_ok hm) _ _ ⟨_, _, _, _, _, rfl, (s15.trans (s18.trans (s19.trans (s25.trans s40)))), w46, h45⟩
      · skip
        exact hN15 _ (post_ok hm) _ _ ⟨_, _, _, _, _, rfl, (s15.trans (s18.trans (s19.trans (s25.trans s40)))), w43, h15_0⟩
    intro g15 σ15 H15 hI hm
    obtain ⟨F15, vs15_0, o15_5, o15_4, o15_2, rfl, s15, w15, h15_0⟩ := hI
    replace h1 := A2.mono s15 h1
    replace q1 := s15 _ _ q1
    replace h3_0 := AD.imp (fun _ _ => Rep.mono s15) h3_0
    replace sF := sF.trans s15
    obtain ⟨F47, s47, w47, q47⟩ : ∃ F', Same F15 F' ∧ W F' _ ((p2, (.frz od16 (.dT vs3_0))) :: os) ∧ F' p14 = some (.lst vs15_0) := w15.freezeE (pre := [])
    replace h1 := A2.mono s47 h1
    replace q1 := s47 _ _ q1
    replace h15_0 := A2.mono s47 h15_0
    replace h3_0 := AD.imp (fun _ _ => Rep.mono s47) h3_0
    replace sF := sF.trans s47
    have w48 : W F47 _ (os) := w47.drop (pre := [])
    exact ⟨_, rfl, (post_ok hm) _ _ _ w48 sF (rep_lst q47 h15_0)⟩
def sp_too_seldom (K : Fg) : Sp := fun vs H Q E => ∃ (F : Hp) (os : List (Addr × HO)) (v_pairs : V) (x_pairs : (List (Nt (Thing × Thing × (List Int) × Unit)))) (x_strength : Int) (v_within : V) (x_within : (List Int)), vs = [v_pairs, .int x_strength, v_within] ∧ W F H (os) ∧ rep K F v_pairs x_pairs ∧ rep K F v_within x_within ∧ Post (too_seldom x_pairs x_strength x_within) (Ret K F os Q) noX
theorem sc_too_seldom : FnScope ["pairs", "strength", "within", "best", "one", "other", "parters", "place"] ["pairs", "strength", "within"] (defScope s_too_seldom) := ⟨rfl, rfl, rfl, by decide +kernel, rfl, by decide +kernel, by decide +kernel⟩
theorem ok_too_seldom (T : Tx K mg A FD) : FnOk P w K mg base CX0 1 (A 20) (FD 20) ["pairs", "strength", "within"] (sp_too_seldom K) := by
  refine T.d20.fn.ok sc_too_seldom (fun vs H Q E h => ?_) (fun cdv Ar outer s H vs Q E hr h => ?_)
  · obtain ⟨F, os, v_pairs, x_pairs, x_strength, v_within, x_within, rfl, _⟩ := h
    rfl
  · obtain ⟨F0, os, v_pairs, x_pairs, x_strength, v_within, x_within, rfl, w0, r_pairs, r_within, hm⟩ := h
    have sF : Same F0 F0 := Same.refl _
    obtain ⟨a1, vs1, rfl, q1, h1⟩ := r_pairs
    obtain ⟨a2, vs2, rfl, q2, h2⟩ := r_within
    refine ⟨_, (pss_cons (ps_set (i := 3) sc_too_seldom.nd rfl (Or.inl rfl) pe_non1) (pss_cons (ps_for PassesOwn.never rfl (pi_listK (K := K) rfl (pv 0)) (pg_k (K := K) (t := fun K => gTup K 3 _) rfl (pg_tup (n := 3) rfl (pgs_cons (pg_name (i := 4) sc_too_seldom.nd rfl (Or.inl rfl)) (pgs_cons (pg_name (i := 5) sc_too_seldom.nd rfl (Or.inl rfl)) (pgs_cons (pg_name (i := 6) sc_too_seldom.nd rfl (Or.inl rfl)) pgs_nil))))) (pss_one (ps_if (pt_cmp (pc_lt (pe_callB (call_lenN (K := K) rfl) (by rfl) T.n_len (by decide +kernel) (pa_cons (pe_lc (own := [("place", 7)]) (g := gName 7) (by rfl) sc_too_seldom.nd (pi_listK (K := K) rfl (pv 6)) (blkOk_by (own := [("place", 7)]) (N := ["pairs", "strength", "within", "best", "one", "other", "parters", "place"]) (sc := defScope s_too_seldom) (by decide +kernel)) (fun _ _ _ _ _ => (pg_name (i := 7) sc_too_seldom.nd rfl (Or.inl rfl))) (fun _ _ _ _ _ => (pts_one (pt_cmpR (op_inL (K := K) rfl Int (by decide) (Room.units65 hr)) (pv 7) (pv 2) (by rfl)))) (fun _ _ _ _ _ => (pv 7))) pa_nil)) (pv 1))) (pss_one (ps_if (PW.pt (pw_or (pt_cmpR op_isN2 (pv 3) pe_non (nomark _)) (pw_or1 (pt_cmp (pc_lt (pe_callB (call_lenN (K := K) rfl) (by rfl) T.n_len (by decide +kernel) (pa_cons (pv 6) pa_nil)) (pe_callB (call_lenN (K := K) rfl) (by rfl) T.n_len (by decide +kernel) (pa_cons (pe_ix (ix_tupK (K := K) rfl) (pv 3) pe_int (fun _ _ => rfl)) pa_nil))))))) (pss_one (ps_set (i := 3) sc_too_seldom.nd rfl (Or.inl rfl) (pe_tup (pa_cons (pv 4) (pa_cons (pv 5) (pa_cons (pv 6) pa_nil)))))) pss_nil)) pss_nil))) (pss_one (ps_ret (pv 3))))), ?_⟩
    have r3 : rep K F0 .non (none : (Option (Nt (Thing × Thing × (List Int) × Unit)))) := rep_none
    refine ⟨trivial, _, rfl, _, rfl, ⟨_, SqL.of (w0.same _ _ q1)⟩, ?_⟩
    refine forS (tw_list (a := a1) h1) hm (fun (g4 : (Option (Nt (Thing × Thing × (List Int) × Unit)))) σ H' => ∃ (F' : Hp) (v4_3 : V) (o4_4 : Option V) (o4_5 : Option V) (o4_6 : Option V), σ = [some (.ref a1), some (.int x_strength), some (.ref a2), some v4_3, o4_4, o4_5, o4_6, none] ∧ Same F0 F' ∧ W F' H' (os) ∧ rep K F' v4_3 (g4 : (Option (Nt (Thing × Thing × (List Int) × Unit))))) ⟨_, _, _, _, _, rfl, Same.refl _, w0, r3⟩ (fun g σ H' hI => by obtain ⟨F', _, _, _, _, _, s, w, _⟩ := hI; exact SqL.of (w.same _ _ (s _ _ q1))) ?_ ?_
    · -- a turn
      intro b4 g4 x4 σ4 H4 H4' N4 P4 hI hy hN4 hm
      obtain ⟨F4, v4_3, o4_4, o4_5, o4_6, rfl, s4, w4, r4_3⟩ := hI
      replace h1 := A2.mono s4 h1
      replace q1 := s4 _ _ q1
      replace h2 := A2.mono s4 h2
      replace q2 := s4 _ _ q2
      replace r3 := Rep.mono s4 r3
      replace sF := sF.trans s4
      obtain ⟨rfl, r6⟩ := hy
      replace r6 := Rep.mono s4 r6
      obtain ⟨a7, u7_0, u7_1, u7_2, rfl, q7, r7_0, r7_1, r7_2⟩ := nt3 r6
      replace r7_0 : rep K F4 u7_0 (b4.v.1 : Thing) := r7_0
      replace r7_1 : rep K F4 u7_1 (b4.v.2.1 : Thing) := r7_1
      replace r7_2 : rep K F4 u7_2 (b4.v.2.2.1 : (List Int)) := r7_2
      obtain ⟨a10, vs10, rfl, q10, h10⟩ := r7_2
      refine ⟨_, _, rfl, SqT.of (w4.same _ _ q7), rfl, _, _, rfl, _, _, rfl, _, _, rfl, rfl, _, rfl, _, rfl, ⟨_, SqL.of (w4.same _ _ q10)⟩, fun D11 nD11 => ?_⟩
      refine lcF (K := K) (tw_list (a := a10) h10) hm w4 nD11 (fun F' H' acc s w => SqL.of (w.same _ _ (s _ _ q10))) ?_ ?_
      · -- one turn
        intro b11 x11 F11 H11 H11' acc11 N11 M11 P11 s11 w11 y11 hN11 hM11 hm
        replace h1 := A2.mono s11 h1
        replace q1 := s11 _ _ q1
        replace h2 := A2.mono s11 h2
        replace q2 := s11 _ _ q2
        replace r4_3 := Rep.mono s11 r4_3
        replace r7_0 := Rep.mono s11 r7_0
        replace r7_1 := Rep.mono s11 r7_1
        replace h10 := A2.mono s11 h10
        replace q10 := s11 _ _ q10
        replace sF := sF.trans s11
        obtain ⟨rfl, r13⟩ := y11
        obtain rfl : x11 = V.int b11 := r13
        refine ⟨rfl, _, rfl, _, rfl, (b11 : Int), _, rep_i, (Rep.mono w11.same (rep_lst q2 h2)), _, rfl, ?_⟩
        refine post_ite hm (fun k14 hm => ?_) (fun k14 hm => ?_)
        · skip
          exact ⟨_, rfl, hN11 _ (post_ok hm) _ _ _ w11 (Same.refl _) rep_i⟩
        · skip
          exact hM11 (post_ok hm) _ _ w11 (Same.refl _)
      intro us11 F11 H11 ys11 s11 w11 gg11 hm
      replace h1 := A2.mono s11 h1
      replace q1 := s11 _ _ q1
      replace h2 := A2.mono s11 h2
      replace q2 := s11 _ _ q2
      replace r4_3 := Rep.mono s11 r4_3
      replace r7_0 := Rep.mono s11 r7_0
      replace r7_1 := Rep.mono s11 r7_1
      replace h10 := A2.mono s11 h10
      replace q10 := s11 _ _ q10
      replace sF := sF.trans s11
      refine ⟨_, _, _, rfl, .inl (SqL.of (w11.get (pre := []))), gg11.length, _, rfl, _, _, rfl, rfl, _, rfl, ?_⟩
      have w16 : W F11 _ (os) := w11.drop (pre := [])
      refine post_ite hm (fun k17 hm => ?_) (fun k17 hm => ?_)
      · skip
        try dsimp only
        refine stepIf ?_
        refine joinT hm (fun (j18 : Bool) c H' => c = j18 ∧ ∃ (F' : Hp), Same F11 F' ∧ W F' H' (os)) ?_ ?_
        · intro Q18 P18 q18 hm
          refine ⟨_, rfl, rfl, _, isN_eq r4_3, _, rfl, ?_⟩
          refine post_ite hm (fun k19 hm => ?_) (fun k19 hm => ?_)
          · skip
            exact q18 _ (post_ok hm) _ _ ⟨rfl, _, Same.refl _, w16⟩
          · skip
            obtain ⟨t21, e21, hm⟩ := pb_ofO hm
            have r21 : rep K F11 v4_3 t21 := (show rep K F11 v4_3 (some t21) from e21 ▸ r4_3)
            obtain ⟨a22, u22_0, u22_1, u22_2, rfl, q22, r22_0, r22_1, r22_2⟩ := nt3 r21
            replace r22_0 : rep K F11 u22_0 (t21.v.1 : Thing) := r22_0
            replace r22_1 : rep K F11 u22_1 (t21.v.2.1 : Thing) := r22_1
            replace r22_2 : rep K F11 u22_2 (t21.v.2.2.1 : (List Int)) := r22_2
            obtain ⟨a25, vs25, rfl, q25, h25⟩ := r22_2
            exact ⟨_, rfl, _, _, _, rfl, .inl (SqL.of (w16.same _ _ q10)), h10.length, _, rfl, _, _, _, _, rfl, rfl, SqT.of (w16.same _ _ q22), rfl, _, _, _, rfl, .inl (SqL.of (w16.same _ _ q25)), h25.length, _, _, rfl, rfl, _, rfl, q18 _ (post_ok hm) _ _ ⟨rfl, _, Same.refl _, w16⟩⟩
        intro j18 c18 H18 hc18 hm
        obtain ⟨rfl, F18, s18, w18⟩ := hc18
        replace h1 := A2.mono s18 h1
        replace q1 := s18 _ _ q1
        replace h2 := A2.mono s18 h2
        replace q2 := s18 _ _ q2
        replace r4_3 := Rep.mono s18 r4_3
        replace r7_0 := Rep.mono s18 r7_0
        replace r7_1 := Rep.mono s18 r7_1
        replace h10 := A2.mono s18 h10
        replace q10 := s18 _ _ q10
        replace sF := sF.trans s18
        refine post_ite hm (fun k27 hm => ?_) (fun k27 hm => ?_)
        · skip
          refine ⟨_, rfl, _, rfl, _, rfl, (by show 3 ≤ sizeLine; decide), fun p28 n28 => ?_⟩
          obtain ⟨F28, s28, w28, q28⟩ := w18.frzE (o := .tup [u7_0, u7_1, (.ref a10)]) n28
          replace h1 := A2.mono s28 h1
          replace q1 := s28 _ _ q1
          replace h2 := A2.mono s28 h2
          replace q2 := s28 _ _ q2
          replace r4_3 := Rep.mono s28 r4_3
          replace r7_0 := Rep.mono s28 r7_0
          replace r7_1 := Rep.mono s28 r7_1
          replace h10 := A2.mono s28 h10
          replace q10 := s28 _ _ q10
          replace sF := sF.trans s28
          have r29 : rep K F28 (.ref p28) ((some (Nt.mk (b4.v.1, b4.v.2.1, b4.v.2.2.1, ()) : (Nt (Thing × Thing × (List Int) × Unit)))) : (Option (Nt (Thing × Thing × (List Int) × Unit)))) := (rep_some (rep_nt3 q28 r7_0 r7_1 (rep_lst q10 h10)))
          exact hN4 _ (post_ok hm) _ _ ⟨_, _, _, _, _, rfl, (s4.trans (s11.trans (s18.trans s28))), w28, r29⟩
        · skip
          exact hN4 _ (post_ok hm) _ _ ⟨_, _, _, _, _, rfl, (s4.trans (s11.trans s18)), w18, r4_3⟩
      · skip
        exact hN4 _ (post_ok hm) _ _ ⟨_, _, _, _, _, rfl, (s4.trans s11), w16, r4_3⟩
    intro g4 σ4 H4 hI hm
    obtain ⟨F4, v4_3, o4_4, o4_5, o4_6, rfl, s4, w4, r4_3⟩ := hI
    replace h1 := A2.mono s4 h1
    replace q1 := s4 _ _ q1
    replace h2 := A2.mono s4 h2
    replace q2 := s4 _ _ q2
    replace r3 := Rep.mono s4 r3
    replace sF := sF.trans s4
    exact ⟨_, rfl, (post_ok hm) _ _ _ w4 sF r4_3⟩
def sp_Search_init (K : Fg) : Sp := fun vs H Q E => ∃ (F : Hp) (os : List (Addr × HO)) (a_self : Addr) (dx_self : Addr) (C_self : Addr) (B : Hp) (v_pairs : V) (x_pairs : (List (Nt (Thing × Thing × (List Int) × Unit)))) (x_strength : Int) (x_many : Int), vs = [.ref a_self, v_pairs, .int x_strength, .int x_many] ∧ W F H ((a_self, .ins C_self dx_self []) :: (dx_self, .own a_self) :: os) ∧ Nm K "Search" C_self ∧ Same B F ∧ rep K F v_pairs x_pairs ∧ Post (Search_init x_pairs x_strength x_many) (fun (y : SearchF) => ∀ (us : List V) (F' H' : Hp), W F' H' ((a_self, .ins C_self dx_self (mkfs [("pairs" : Str), ("strength" : Str), ("many" : Str), ("looks" : Str)] us)) :: (dx_self, .own a_self) :: os) → Same F F' → repTs (α := (SearchFB B)) K F' us y → Q .non H') noX
theorem sc_Search_init : FnScope ["self", "pairs", "strength", "many"] ["self", "pairs", "strength", "many"] (defScope s_Search_init) := ⟨rfl, rfl, rfl, by decide +kernel, rfl, by decide +kernel, by decide +kernel⟩
theorem ok_Search_init (T : Tx K mg A FD) : FnOk P w K mg base CX0 1 (A 22000) (FD 22000) ["self", "pairs", "strength", "many"] (sp_Search_init K) := by
  refine T.d22000.fn.ok sc_Search_init (fun vs H Q E h => ?_) (fun cdv Ar outer s H vs Q E hr h => ?_)
  · obtain ⟨F, os, a_self, dx_self, C_self, B, v_pairs, x_pairs, x_strength, x_many, rfl, _⟩ := h
    rfl
  · obtain ⟨F0, os, a_self, dx_self, C_self, B, v_pairs, x_pairs, x_strength, x_many, rfl, w0, n_self, sB, r_pairs, hm⟩ := h
    have sF : Same F0 F0 := Same.refl _
    obtain rfl := n_self.uniq T.nm_Search
    obtain ⟨a3, vs3, rfl, q3, h3⟩ := r_pairs
    refine ⟨_, (pss_cons (ps_fld (pv 0) (pv 1) (by rfl)) (pss_cons (ps_fld (pv 0) (pv 2) (by rfl)) (pss_cons (ps_fld (pv 0) (pv 3) (by rfl)) (pss_one (ps_fld (pv 0) pe_non (by rfl)))))), ?_⟩
    refine ⟨_, rfl, _, rfl, _, _, _, _, rfl, (w0.get (pre := [])), T.cl_Search, T.na_Search_pairs, (Nat.lt_of_le_of_lt (Nat.le_refl _) (by decide : 0 < 1000)), ?_⟩
    have w4 : W F0 _ ((a_self, (.ins (A 21) dx_self (putF ("pairs" : Str) (.ref a3) []))) :: (dx_self, (.own a_self)) :: os) := w0.set (pre := [])
    refine ⟨_, rfl, _, rfl, _, _, _, _, rfl, (w4.get (pre := [])), T.cl_Search, T.na_Search_strength, (Nat.lt_of_le_of_lt (Nat.le_trans (length_putF _ _ _) (Nat.succ_le_succ (Nat.le_refl _))) (by decide : 1 < 1000)), ?_⟩
    have w5 : W F0 _ ((a_self, (.ins (A 21) dx_self (putF ("strength" : Str) (.int x_strength) (putF ("pairs" : Str) (.ref a3) [])))) :: (dx_self, (.own a_self)) :: os) := w4.set (pre := [])
    refine ⟨_, rfl, _, rfl, _, _, _, _, rfl, (w5.get (pre := [])), T.cl_Search, T.na_Search_many, (Nat.lt_of_le_of_lt (Nat.le_trans (length_putF _ _ _) (Nat.succ_le_succ (Nat.le_trans (length_putF _ _ _) (Nat.succ_le_succ (Nat.le_refl _))))) (by decide : 2 < 1000)), ?_⟩
    have w6 : W F0 _ ((a_self, (.ins (A 21) dx_self (putF ("many" : Str) (.int x_many) (putF ("strength" : Str) (.int x_strength) (putF ("pairs" : Str) (.ref a3) []))))) :: (dx_self, (.own a_self)) :: os) := w5.set (pre := [])
    refine ⟨_, rfl, _, _, _, _, rfl, (w6.get (pre := [])), T.cl_Search, T.na_Search_looks, (Nat.lt_of_le_of_lt (Nat.le_trans (length_putF _ _ _) (Nat.succ_le_succ (Nat.le_trans (length_putF _ _ _) (Nat.succ_le_succ (Nat.le_trans (length_putF _ _ _) (Nat.succ_le_succ (Nat.le_refl _))))))) (by decide : 3 < 1000)), ?_⟩
    have w7 : W F0 _ ((a_self, (.ins (A 21) dx_self (putF ("looks" : Str) .non (putF ("many" : Str) (.int x_many) (putF ("strength" : Str) (.int x_strength) (putF ("pairs" : Str) (.ref a3) [])))))) :: (dx_self, (.own a_self)) :: os) := w6.set (pre := [])
    exact (post_ok hm) [(.ref a3), (.int x_strength), (.int x_many), .non] _ _ w7 sF ⟨_, _, rfl, (rep_lst q3 h3), _, _, rfl, rep_i, _, _, rfl, rep_i, _, _, rfl, ⟨sB.trans sF, rep_none, fun _ z => (nomatch z)⟩, rfl⟩
def sp_Search_tree_of (d : Nat) (K : Fg) : Sp := fun vs H Q E => ∃ (F : Hp) (os : List (Addr × HO)) (a_self : Addr) (dx_self : Addr) (C_self : Addr) (vs_self : List V) (x_self : SearchF) (B : Hp) (v_within : V) (x_within : (List Int)) (v_without : V) (x_without : (List Int)), vs = [.ref a_self, v_within, v_without] ∧ W F H ((a_self, .ins C_self dx_self (mkfs [("pairs" : Str), ("strength" : Str), ("many" : Str), ("looks" : Str)] vs_self)) :: (dx_self, .own a_self) :: os) ∧ Nm K "Search" C_self ∧ repTs (α := (SearchFB B)) K F vs_self x_self ∧ rep K F v_within x_within ∧ rep K F v_without x_without ∧ Post (Search_tree_of d x_self x_within x_without) (fun (y : (To × SearchF)) => ∀ (v : V) (zs_self : List V) (F' H' : Hp), W F' H' ((a_self, .ins C_self dx_self (mkfs [("pairs" : Str), ("strength" : Str), ("many" : Str), ("looks" : Str)] zs_self)) :: (dx_self, .own a_self) :: os) → Same F F' → rep K F' v (y.1 : To) → repTs (α := (SearchFB B)) K F' zs_self y.2 → Q v H') noX
theorem sc_Search_tree_of : FnScope ["self", "within", "without", "pair", "one", "other", "parters", "trees", "ahead", "place"] ["self", "within", "without"] (defScope s_Search_tree_of) := ⟨rfl, rfl, rfl, by decide +kernel, rfl, by decide +kernel, by decide +kernel⟩
set_option maxHeartbeats 40000000 in
theorem ok_Search_tree_of (T : Tx K mg A FD) (d : Nat) : FnOk P w K mg base CX0 (2 + d) (A 22001) (FD 22001) ["self", "within", "without"] (sp_Search_tree_of d K) := by
  induction d with
  | zero =>
    refine T.d22001.fn.ok (k := 1) sc_Search_tree_of (fun vs H Q E h => ?_) (fun cdv Ar outer s H vs Q E hr h => ?_)
    · obtain ⟨F, os, a_self, dx_self, C_self, vs_self, x_self, B, v_within, x_within, v_without, x_without, rfl, _⟩ := h
      rfl
    · obtain ⟨F0, os, a_self, dx_self, C_self, vs_self, x_self, B, v_within, x_within, v_without, x_without, rfl, w0, n_self, h_self, r_within, r_without, hm⟩ := h
      refine ⟨_, (pss_cons ps_absurd (pss_cons ps_absurd (pss_cons ps_absurd (pss_cons ps_absurd (pss_cons ps_absurd (pss_cons ps_absurd (pss_one ps_absurd))))))), ?_⟩
      exact hm
  | succ d ih =>
    refine T.d22001.fn.ok (k := 2 + d) sc_Search_tree_of (fun vs H Q E h => ?_) (fun cdv Ar outer s H vs Q E hr h => ?_)
    · obtain ⟨F, os, a_self, dx_self, C_self, vs_self, x_self, B, v_within, x_within, v_without, x_without, rfl, _⟩ := h
      rfl
    · obtain ⟨F0, os, a_self, dx_self, C_self, vs_self, x_self, B, v_within, x_within, v_without, x_without, rfl, w0, n_self, h_self, r_within, r_without, hm⟩ := h
      rw [Search_tree_of] at hm
      have sF : Same F0 F0 := Same.refl _
      obtain rfl := n_self.uniq T.nm_Search
      obtain ⟨a3, vs3, rfl, q3, h3⟩ := r_within
      obtain ⟨a4, vs4, rfl, q4, h4⟩ := r_without
      refine ⟨_, (pss_cons (ps_set (i := 3) sc_Search_tree_of.nd rfl (Or.inl rfl) (pe_call (ok_too_seldom T) (hr.mono (by first | decide | omega)) (by rfl) T.d20.mg T.d20.fn.kp T.d20.b .nil pass0 (pa_cons (pe_fld (pv 0) (by rfl)) (pa_cons (pe_fld (pv 0) (by rfl)) (pa_cons (pv 1) pa_nil))))) (pss_cons (ps_if (pt_cmpR op_isN2 (pv 3) pe_non (nomark _)) (pss_cons (ps_fld (pv 0) (pe_callB (cr_sortI (K := K) rfl) (by rfl) T.n_sorted (by decide +kernel) (pa_cons (pv 1) pa_nil)) (by rfl)) (pss_one (ps_ret pe_non))) pss_nil) (pss_cons (ps_asg (pv 3) (pg_k (K := K) (t := fun K => gTup K 3 _) rfl (pg_tup (n := 3) rfl (pgs_cons (pg_name (i := 4) sc_Search_tree_of.nd rfl (Or.inl rfl)) (pgs_cons (pg_name (i := 5) sc_Search_tree_of.nd rfl (Or.inl rfl)) (pgs_cons (pg_name (i := 6) sc_Search_tree_of.nd rfl (Or.inl rfl)) pgs_nil)))))) (pss_cons (ps_set (i := 7) sc_Search_tree_of.nd rfl (Or.inl rfl) (pe_lst pa_nil)) (pss_cons (ps_set (i := 8) sc_Search_tree_of.nd rfl (Or.inl rfl) (pe_callTy (call_list_ofK (K := K) rfl) (by rfl) T.n_list (by decide +kernel) (pa_cons (pv 2) pa_nil))) (pss_cons (ps_if (pt_cmp (pc_lt (pe_callB (call_lenN (K := K) rfl) (by rfl) T.n_len (by decide +kernel) (pa_cons (pv 1) pa_nil)) (pe_fld (pv 0) (by rfl)))) (pss_one (ps_for PassesOwn.never rfl (pi_listK (K := K) rfl (pv 6)) (pg_name (i := 9) sc_Search_tree_of.nd rfl (Or.inl rfl)) (pss_one (ps_if (PW.pt (pw_and (pt_cmpR (op_notInL (K := K) rfl Int (by decide) (Room.units65 hr)) (pv 9) (pv 1) (by rfl)) (pw_and (pt_cmpR (op_notInL (K := K) rfl Int (by decide) (Room.units65 hr)) (pv 9) (pv 2) (by rfl)) (pw_and1 (pt_cmpR op_isN2 (pe_fld (pv 0) (by rfl)) pe_non (nomark _)))))) (pss_cons (ps_expr (pe_bm PySem.F.plainAttrs_list PySem.F.slot_list_append PySem.F.type_list_append mt_append (pv 7) (pa_cons (pe_meth (pl := _) (pv 0) T.cl_Search T.d22001.mt ih (hr.mono (by first | decide | omega)) T.d22001.b .nil pass0 (pa_cons (pe_op op_cat (pv 1) (pe_lst (pa_cons (pv 9) pa_nil))) (pa_cons (pv 8) pa_nil))) pa_nil))) (pss_one (ps_set (i := 8) sc_Search_tree_of.nd rfl (Or.inl rfl) (pe_op op_cat (pv 8) (pe_lst (pa_cons (pv 9) pa_nil)))))) pss_nil)))) pss_nil) (pss_one (ps_ret (pe_tup (pa_cons (pv 4) (pa_cons (pv 5) (pa_cons (pe_callTy (call_tuple_ofK (K := K) rfl) (by rfl) T.n_tuple (by decide +kernel) (pa_cons (pv 7) pa_nil)) pa_nil)))))))))))), ?_⟩
      obtain ⟨u5, l5, r5⟩ := fr_Search_pairs h_self
      obtain ⟨a6, vs6, rfl, q6, h6⟩ := r5
      obtain ⟨u7, l7, r7⟩ := fr_Search_strength h_self
      obtain rfl : u7 = V.int x_self.2.1 := r7
      refine ⟨_, rfl, _, _, _, _, _, rfl, (w0.get (pre := [])), T.cl_Search, T.na_Search_pairs, l5, _, rfl, _, _, _, _, _, rfl, (w0.get (pre := [])), T.cl_Search, T.na_Search_strength, l7, _, rfl, _, _, _, (x_self.1 : (List (Nt (Thing × Thing × (List Int) × Unit)))), _, _, (x_within : (List Int)), rfl, w0, (rep_lst q6 h6), (rep_lst q3 h3), ?_⟩
      refine (post_bind hm).mono (fun y8 hm v8 F8 H8 w8 s8 r8 => ?_) (fun _ z => z)
      replace h_self := RepL.mono s8 h_self
      replace q3 := s8 _ _ q3
      replace h3 := A2.mono s8 h3
      replace q4 := s8 _ _ q4
      replace h4 := A2.mono s8 h4
      replace q6 := s8 _ _ q6
      replace h6 := A2.mono s8 h6
      replace sF := sF.trans s8
      refine ⟨_, rfl, rfl, _, isN_eq r8, _, rfl, ?_⟩
      refine post_ite hm (fun k10 hm => ?_) (fun k10 hm => ?_)
      · skip
        have h11 : A2 (rep K F8) ((sortI x_within).map V.int) (sortI x_within) := A2.of_ints
        refine ⟨_, rfl, _, _, rfl, ints_q (SqL.of (w8.same _ _ q3)) h3, fun p12 n12 => ?_⟩
        have w12 : W F8 _ ((p12, .lst ((sortI x_within).map V.int)) :: (a_self, (.ins (A 21) dx_self (mkfs [("pairs" : Str), ("strength" : Str), ("many" : Str), ("looks" : Str)] vs_self))) :: (dx_self, (.own a_self)) :: os) := w8.new n12
        have nb13 := (w12.own (p12, .lst ((sortI x_within).map V.int)) (by simp)).2
        replace nb13 := same_no (fs_Search h_self) nb13
        obtain ⟨F14, s14, w14, q14⟩ : ∃ F', Same F8 F' ∧ W F' _ ((a_self, (.ins (A 21) dx_self (mkfs [("pairs" : Str), ("strength" : Str), ("many" : Str), ("looks" : Str)] vs_self))) :: (dx_self, (.own a_self)) :: os) ∧ F' p12 = some (.lst ((sortI x_within).map V.int)) := w12.freezeE (pre := [])
        replace h3 := A2.mono s14 h3
        replace q3 := s14 _ _ q3
        replace h4 := A2.mono s14 h4
        replace q4 := s14 _ _ q4
        replace r8 := Rep.mono s14 r8
        replace h_self := RepL.mono s14 h_self
        replace h11 := A2.mono s14 h11
        replace sF := sF.trans s14
        refine ⟨_, rfl, _, _, _, _, rfl, (w14.get (pre := [])), T.cl_Search, T.na_Search_looks, fz_Search h_self, ?_⟩
        obtain ⟨us15, e15, h15⟩ := fw_Search_looks h_self (y := (some (sortI x_within))) ⟨fs_Search h_self, ((rep_some (rep_lst q14 h11)) : rep K F14 (V.ref p12) ((some (sortI x_within)) : (Option (List Int)))), fun _ z => by cases z; exact nb13⟩
        have w15a := w14.set (o' := .ins (A 21) dx_self (putF ("looks" : Str) (.ref p12) (mkfs [("pairs" : Str), ("strength" : Str), ("many" : Str), ("looks" : Str)] vs_self))) (pre := [])
        have w15 : W F14 _ ((a_self, (.ins (A 21) dx_self (mkfs [("pairs" : Str), ("strength" : Str), ("many" : Str), ("looks" : Str)] us15))) :: (dx_self, (.own a_self)) :: os) := w15a.reho (pre := []) (congrArg (HO.ins (A 21) dx_self) e15)
        exact (post_ok hm) _ _ _ _ w15 sF rep_toZ h15
      · skip
        obtain ⟨t16, e16, hm⟩ := pb_ofO hm
        have r16 : rep K F8 v8 t16 := (show rep K F8 v8 (some t16) from e16 ▸ r8)
        obtain ⟨a17, u17_0, u17_1, u17_2, rfl, q17, r17_0, r17_1, r17_2⟩ := nt3 r16
        replace r17_0 : rep K F8 u17_0 (t16.v.1 : Thing) := r17_0
        replace r17_1 : rep K F8 u17_1 (t16.v.2.1 : Thing) := r17_1
        replace r17_2 : rep K F8 u17_2 (t16.v.2.2.1 : (List Int)) := r17_2
        obtain ⟨a20, vs20, rfl, q20, h20⟩ := r17_2
        have h21 : A2 (rep K F8) [] ([] : (List To)) := .nil
        refine ⟨_, rfl, _, _, rfl, SqT.of (w8.same _ _ q17), rfl, _, _, rfl, _, _, rfl, _, _, rfl, rfl, (by show 0 ≤ sizeLine; decide), fun p22 n22 => ?_⟩
        have w22 : W F8 _ ((p22, .lst []) :: (a_self, (.ins (A 21) dx_self (mkfs [("pairs" : Str), ("strength" : Str), ("many" : Str), ("looks" : Str)] vs_self))) :: (dx_self, (.own a_self)) :: os) := w8.new n22
        have h23 : A2 (rep K F8) vs4 x_without := h4
        refine ⟨_, rfl, _, _, rfl, .inl (SqL.of (w22.same _ _ q4)), fun p24 n24 => ?_⟩
        have w24 : W F8 _ ((p24, .lst vs4) :: (p22, .lst []) :: (a_self, (.ins (A 21) dx_self (mkfs [("pairs" : Str), ("strength" : Str), ("many" : Str), ("looks" : Str)] vs_self))) :: (dx_self, (.own a_self)) :: os) := w22.new n24
        obtain ⟨F25, s25, w25, q25⟩ : ∃ F', Same F8 F' ∧ W F' _ ((p22, .lst []) :: (a_self, (.ins (A 21) dx_self (mkfs [("pairs" : Str), ("strength" : Str), ("many" : Str), ("looks" : Str)] vs_self))) :: (dx_self, (.own a_self)) :: os) ∧ F' p24 = some (.lst vs4) := w24.freezeE (pre := [])
        replace h3 := A2.mono s25 h3
        replace q3 := s25 _ _ q3
        replace h4 := A2.mono s25 h4
        replace q4 := s25 _ _ q4
        replace q17 := s25 _ _ q17
        replace r17_0 := Rep.mono s25 r17_0
        replace r17_1 := Rep.mono s25 r17_1
        replace h20 := A2.mono s25 h20
        replace q20 := s25 _ _ q20
        replace h21 := A2.mono s25 h21
        replace h_self := RepL.mono s25 h_self
        replace h23 := A2.mono s25 h23
        replace sF := sF.trans s25
        refine stepN ?_
        try dsimp only
        refine joinS hm (fun (g26 : (List To) × SearchF) σ H' => ∃ (F' : Hp) (vs26_0 : List V) (vs26_1 : List V) (o26_9 : Option V) (o26_8 : Option V), σ = [some (.ref a_self), some (.ref a3), some (.ref a4), some (.ref a17), some u17_0, some u17_1, some (.ref a20), some (.ref p22), o26_8, o26_9] ∧ Same F25 F' ∧ W F' H' ((p22, .lst vs26_0) :: (a_self, (.ins (A 21) dx_self (mkfs [("pairs" : Str), ("strength" : Str), ("many" : Str), ("looks" : Str)] vs26_1))) :: (dx_self, (.own a_self)) :: os) ∧ A2 (rep K F') vs26_0 g26.1 ∧ repTs (α := (SearchFB B)) K F' vs26_1 g26.2) ?_ ?_
        · intro N26 P26 hN26 hm
          obtain ⟨u27, l27, r27⟩ := fr_Search_many h_self
          obtain rfl : u27 = V.int x_self.2.2.1 := r27
          refine ⟨_, rfl, _, _, _, rfl, .inl (SqL.of (w25.same _ _ q3)), h3.length, _, rfl, _, _, _, _, _, rfl, (w25.get (pre := [_])), T.cl_Search, T.na_Search_many, l27, _, _, rfl, rfl, _, rfl, ?_⟩
          refine post_ite hm (fun k28 hm => ?_) (fun k28 hm => ?_)
          · skip
            refine ⟨_, rfl, _, rfl, ⟨_, SqL.of (w25.same _ _ q20)⟩, ?_⟩
            refine forS (tw_list (a := a20) h20) hm (fun (g29 : (List Int) × (List To) × SearchF) σ H' => ∃ (F' : Hp) (v29_8 : V) (vs29_0 : List V) (vs29_1 : List V) (o29_9 : Option V), σ = [some (.ref a_self), some (.ref a3), some (.ref a4), some (.ref a17), some u17_0, some u17_1, some (.ref a20), some (.ref p22), some v29_8, o29_9] ∧ Same F25 F' ∧ W F' H' ((p22, .lst vs29_0) :: (a_self, (.ins (A 21) dx_self (mkfs [("pairs" : Str), ("strength" : Str), ("many" : Str), ("looks" : Str)] vs29_1))) :: (dx_self, (.own a_self)) :: os) ∧ rep K F' v29_8 (g29.1 : (List Int)) ∧ A2 (rep K F') vs29_0 g29.2.1 ∧ repTs (α := (SearchFB B)) K F' vs29_1 g29.2.2) ⟨_, _, _, _, _, rfl, Same.refl _, w25, (rep_lst q25 h23), h21, h_self⟩ (fun g σ H' hI => by obtain ⟨F', _, _, _, _, _, s, w, _⟩ := hI; exact SqL.of (w.same _ _ (s _ _ q20))) ?_ ?_
            · -- a turn
              intro b29 g29 x29 σ29 H29 H29' N29 P29 hI hy hN29 hm
              obtain ⟨F29, v29_8, vs29_0, vs29_1, o29_9, rfl, s29, w29, r29_8, h29_0, h29_1⟩ := hI
              replace h3 := A2.mono s29 h3
              replace q3 := s29 _ _ q3
              replace h4 := A2.mono s29 h4
              replace q4 := s29 _ _ q4
              replace q17 := s29 _ _ q17
              replace r17_0 := Rep.mono s29 r17_0
              replace r17_1 := Rep.mono s29 r17_1
              replace h20 := A2.mono s29 h20
              replace q20 := s29 _ _ q20
              replace h23 := A2.mono s29 h23
              replace q25 := s29 _ _ q25
              replace sF := sF.trans s29
              obtain ⟨a30, vs30, rfl, q30, h30⟩ := r29_8
              obtain ⟨rfl, r31⟩ := hy
              obtain rfl : x29 = V.int b29 := r31
              refine stepN ?_
              try dsimp only
              refine stepIf ?_
              refine cutT (fun c H' => c = (((!inB b29 x_within) && ((!inB b29 x_without) && g29.2.2.2.2.2.1.isNone))) ∧ ∃ F', Same F29 F' ∧ W F' H' ((p22, .lst vs29_0) :: (a_self, (.ins (A 21) dx_self (mkfs [("pairs" : Str), ("strength" : Str), ("many" : Str), ("looks" : Str)] vs29_1))) :: (dx_self, (.own a_self)) :: os)) (fun Q32 q32 => ?_) (fun c32 H32 hc32 => ?_)
              · -- the ways
                refine ⟨_, rfl, _, rfl, (b29 : Int), _, rep_i, (Rep.mono w29.same (rep_lst q3 h3)), _, rfl, ?_⟩
                refine ifB (fun k33 => ?_) (fun k33 => ?_)
                · skip
                  refine ⟨_, rfl, _, rfl, (b29 : Int), _, rep_i, (Rep.mono w29.same (rep_lst q4 h4)), _, rfl, ?_⟩
                  refine ifB (fun k34 => ?_) (fun k34 => ?_)
                  · skip
                    obtain ⟨u35, l35, r35⟩ := fr_Search_looks h29_1
                    obtain ⟨_, r35, fr35⟩ := r35
                    exact ⟨_, rfl, _, _, _, _, _, rfl, (w29.get (pre := [_])), T.cl_Search, T.na_Search_looks, l35, rfl, _, isN_eq r35, _, rfl, q32 _ _ ⟨(by first | rfl | exact absurd k33 (by decide) | exact absurd k34 (by decide) | (simp [k33, k34]; done) | ((try simp only [Bool.not_eq_true] at k33); (try simp only [Bool.not_eq_true] at k34); simp only [k33, k34, Bool.true_or, Bool.false_or, Bool.or_false, Bool.or_true, Bool.true_and, Bool.false_and, Bool.and_true, Bool.and_false])), _, Same.refl _, w29⟩⟩
                  · skip
                    exact q32 _ _ ⟨(by first | rfl | exact absurd k33 (by decide) | exact absurd k34 (by decide) | (simp [k33, k34]; done) | ((try simp only [Bool.not_eq_true] at k33); (try simp only [Bool.not_eq_true] at k34); simp only [k33, k34, Bool.true_or, Bool.false_or, Bool.or_false, Bool.or_true, Bool.true_and, Bool.false_and, Bool.and_true, Bool.and_false])), _, Same.refl _, w29⟩
                · skip
                  exact q32 _ _ ⟨(by first | rfl | exact absurd k33 (by decide) | (simp [k33]; done) | ((try simp only [Bool.not_eq_true] at k33); simp only [k33, Bool.true_or, Bool.false_or, Bool.or_false, Bool.or_true, Bool.true_and, Bool.false_and, Bool.and_true, Bool.and_false])), _, Same.refl _, w29⟩
              obtain ⟨rfl, F32, s32, w32⟩ := hc32
              replace h3 := A2.mono s32 h3
              replace q3 := s32 _ _ q3
              replace h4 := A2.mono s32 h4
              replace q4 := s32 _ _ q4
              replace q17 := s32 _ _ q17
              replace r17_0 := Rep.mono s32 r17_0
              replace r17_1 := Rep.mono s32 r17_1
              replace h20 := A2.mono s32 h20
              replace q20 := s32 _ _ q20
              replace h30 := A2.mono s32 h30
              replace q30 := s32 _ _ q30
              replace h29_0 := A2.mono s32 h29_0
              replace h29_1 := RepL.mono s32 h29_1
              replace sF := sF.trans s32
              refine post_ite hm (fun k40 hm => ?_) (fun k40 hm => ?_)
              · skip
                have h41 : A2 (rep K F32) [(.int b29)] ([b29] : (List Int)) := .cons rep_i (.nil)
                refine ⟨_, rfl, .inl ⟨rfl, _, SqL.of (w32.get (pre := []))⟩, _, rfl, _, _, _, rfl, (w32.get (pre := [_])), fm_Search_tree_of h29_1, _, rfl, _, rfl, (by show 1 ≤ sizeLine; decide), fun p42 n42 => ?_⟩
                have w42 : W F32 _ ((p42, .lst [(.int b29)]) :: (p22, .lst vs29_0) :: (a_self, (.ins (A 21) dx_self (mkfs [("pairs" : Str), ("strength" : Str), ("many" : Str), ("looks" : Str)] vs29_1))) :: (dx_self, (.own a_self)) :: os) := w32.new n42
                obtain ⟨l43, z43, e43, hm⟩ := pn_extend hm
                have h43 : A2 (rep K F32) (vs3 ++ [(.int b29)]) l43 := e43 ▸ A2.append h3 h41
                refine ⟨_, _, _, _, rfl, rfl, (w42.same _ _ q3), (w42.get (pre := [])), (A2.le2 h3 h41 z43), fun p44 n44 => ?_⟩
                have w44 : W F32 _ ((p44, .lst (vs3 ++ [(.int b29)])) :: (p42, .lst [(.int b29)]) :: (p22, .lst vs29_0) :: (a_self, (.ins (A 21) dx_self (mkfs [("pairs" : Str), ("strength" : Str), ("many" : Str), ("looks" : Str)] vs29_1))) :: (dx_self, (.own a_self)) :: os) := w42.new n44
                obtain ⟨F45, s45, w45, q45⟩ : ∃ F', Same F32 F' ∧ W F' _ ((p42, .lst [(.int b29)]) :: (p22, .lst vs29_0) :: (a_self, (.ins (A 21) dx_self (mkfs [("pairs" : Str), ("strength" : Str), ("many" : Str), ("looks" : Str)] vs29_1))) :: (dx_self, (.own a_self)) :: os) ∧ F' p44 = some (.lst (vs3 ++ [(.int b29)])) := w44.freezeE (pre := [])
                replace h3 := A2.mono s45 h3
                replace q3 := s45 _ _ q3
                replace h4 := A2.mono s45 h4
                replace q4 := s45 _ _ q4
                replace q17 := s45 _ _ q17
                replace r17_0 := Rep.mono s45 r17_0
                replace r17_1 := Rep.mono s45 r17_1
                replace h20 := A2.mono s45 h20
                replace q20 := s45 _ _ q20
                replace h30 := A2.mono s45 h30
                replace q30 := s45 _ _ q30
                replace h29_0 := A2.mono s45 h29_0
                replace h29_1 := RepL.mono s45 h29_1
                replace h41 := A2.mono s45 h41
                replace h43 := A2.mono s45 h43
                replace sF := sF.trans s45
                have w46 : W F45 _ ((dx_self, (.own a_self)) :: (p42, .lst [(.int b29)]) :: (p22, .lst vs29_0) :: (a_self, (.ins (A 21) dx_self (mkfs [("pairs" : Str), ("strength" : Str), ("many" : Str), ("looks" : Str)] vs29_1))) :: os) := w45.front (pre := [_, _, _])
                have w47 : W F45 _ ((a_self, (.ins (A 21) dx_self (mkfs [("pairs" : Str), ("strength" : Str), ("many" : Str), ("looks" : Str)] vs29_1))) :: (dx_self, (.own a_self)) :: (p42, .lst [(.int b29)]) :: (p22, .lst vs29_0) :: os) := w46.front (pre := [_, _, _])
                refine ⟨_, rfl, _, _, _, _, _, _, g29.2.2, B, _, (l43 : (List Int)), _, (g29.1 : (List Int)), rfl, w47, T.nm_Search, h29_1, (rep_lst q45 h43), (rep_lst q30 h30), ?_⟩
                refine (post_bind hm).mono (fun y48 hm v48 vs48 F48 H48 w48 s48 r48 h48 => ?_) (fun _ z => z)
                replace h3 := A2.mono s48 h3
                replace q3 := s48 _ _ q3
                replace h4 := A2.mono s48 h4
                replace q4 := s48 _ _ q4
                replace q17 := s48 _ _ q17
                replace r17_0 := Rep.mono s48 r17_0
                replace r17_1 := Rep.mono s48 r17_1
                replace h20 := A2.mono s48 h20
                replace q20 := s48 _ _ q20
                replace h30 := A2.mono s48 h30
                replace q30 := s48 _ _ q30
                replace h29_0 := A2.mono s48 h29_0
                replace h41 := A2.mono s48 h41
                replace h43 := A2.mono s48 h43
                replace q45 := s48 _ _ q45
                replace sF := sF.trans s48
                obtain ⟨l50, z50, e50, hm⟩ := pn_app hm
                refine ⟨_, _, _, rfl, rfl, (w48.get (pre := [_, _, _])), (A2.lt h29_0 z50), ?_⟩
                have h50 : A2 (rep K F48) (vs29_0 ++ [v48]) l50 := e50 ▸ A2.snoc h29_0 r48
                have w51 : W F48 _ ((a_self, (.ins (A 21) dx_self (mkfs [("pairs" : Str), ("strength" : Str), ("many" : Str), ("looks" : Str)] vs48))) :: (dx_self, (.own a_self)) :: (p42, .lst [(.int b29)]) :: (p22, .lst (vs29_0 ++ [v48])) :: os) := w48.set (pre := [_, _, _])
                have w52 : W F48 _ ((a_self, (.ins (A 21) dx_self (mkfs [("pairs" : Str), ("strength" : Str), ("many" : Str), ("looks" : Str)] vs48))) :: (dx_self, (.own a_self)) :: (p22, .lst (vs29_0 ++ [v48])) :: os) := w51.drop (pre := [_, _])
                have h53 : A2 (rep K F48) [(.int b29)] ([b29] : (List Int)) := .cons rep_i (.nil)
                refine ⟨_, rfl, _, rfl, (by show 1 ≤ sizeLine; decide), fun p54 n54 => ?_⟩
                have w54 : W F48 _ ((p54, .lst [(.int b29)]) :: (a_self, (.ins (A 21) dx_self (mkfs [("pairs" : Str), ("strength" : Str), ("many" : Str), ("looks" : Str)] vs48))) :: (dx_self, (.own a_self)) :: (p22, .lst (vs29_0 ++ [v48])) :: os) := w52.new n54
                obtain ⟨l55, z55, e55, hm⟩ := pn_extend hm
                have h55 : A2 (rep K F48) (vs30 ++ [(.int b29)]) l55 := e55 ▸ A2.append h30 h53
                refine ⟨_, _, _, _, rfl, rfl, (w54.same _ _ q30), (w54.get (pre := [])), (A2.le2 h30 h53 z55), fun p56 n56 => ?_⟩
                have w56 : W F48 _ ((p56, .lst (vs30 ++ [(.int b29)])) :: (p54, .lst [(.int b29)]) :: (a_self, (.ins (A 21) dx_self (mkfs [("pairs" : Str), ("strength" : Str), ("many" : Str), ("looks" : Str)] vs48))) :: (dx_self, (.own a_self)) :: (p22, .lst (vs29_0 ++ [v48])) :: os) := w54.new n56
                obtain ⟨F57, s57, w57, q57⟩ : ∃ F', Same F48 F' ∧ W F' _ ((p54, .lst [(.int b29)]) :: (a_self, (.ins (A 21) dx_self (mkfs [("pairs" : Str), ("strength" : Str), ("many" : Str), ("looks" : Str)] vs48))) :: (dx_self, (.own a_self)) :: (p22, .lst (vs29_0 ++ [v48])) :: os) ∧ F' p56 = some (.lst (vs30 ++ [(.int b29)])) := w56.freezeE (pre := [])
                replace h3 := A2.mono s57 h3
                replace q3 := s57 _ _ q3
                replace h4 := A2.mono s57 h4
                replace q4 := s57 _ _ q4
                replace q17 := s57 _ _ q17
                replace r17_0 := Rep.mono s57 r17_0
                replace r17_1 := Rep.mono s57 r17_1
                replace h20 := A2.mono s57 h20
                replace q20 := s57 _ _ q20
                replace h30 := A2.mono s57 h30
                replace q30 := s57 _ _ q30
                replace h48 := RepL.mono s57 h48
                replace h50 := A2.mono s57 h50
                replace h53 := A2.mono s57 h53
                replace h55 := A2.mono s57 h55
                replace sF := sF.trans s57
                have w58 : W F57 _ ((a_self, (.ins (A 21) dx_self (mkfs [("pairs" : Str), ("strength" : Str), ("many" : Str), ("looks" : Str)] vs48))) :: (dx_self, (.own a_self)) :: (p22, .lst (vs29_0 ++ [v48])) :: os) := w57.drop (pre := [])
                have w59 : W F57 _ ((dx_self, (.own a_self)) :: (a_self, (.ins (A 21) dx_self (mkfs [("pairs" : Str), ("strength" : Str), ("many" : Str), ("looks" : Str)] vs48))) :: (p22, .lst (vs29_0 ++ [v48])) :: os) := w58.front (pre := [_])
                have w60 : W F57 _ ((a_self, (.ins (A 21) dx_self (mkfs [("pairs" : Str), ("strength" : Str), ("many" : Str), ("looks" : Str)] vs48))) :: (dx_self, (.own a_self)) :: (p22, .lst (vs29_0 ++ [v48])) :: os) := w59.front (pre := [_])
                have w61 : W F57 _ ((p22, .lst (vs29_0 ++ [v48])) :: (a_self, (.ins (A 21) dx_self (mkfs [("pairs" : Str), ("strength" : Str), ("many" : Str), ("looks" : Str)] vs48))) :: (dx_self, (.own a_self)) :: os) := w60.front (pre := [_, _])
                exact hN29 _ (post_ok hm) _ _ ⟨_, _, _, _, _, rfl, (s29.trans (s32.trans (s45.trans (s48.trans s57)))), w61, (rep_lst q57 h55), h50, h48⟩
              · skip
                exact hN29 _ (post_ok hm) _ _ ⟨_, _, _, _, _, rfl, (s29.trans s32), w32, (rep_lst q30 h30), h29_0, h29_1⟩
            intro g29 σ29 H29 hI hm
            obtain ⟨F29, v29_8, vs29_0, vs29_1, o29_9, rfl, s29, w29, r29_8, h29_0, h29_1⟩ := hI
            replace h3 := A2.mono s29 h3
            replace q3 := s29 _ _ q3
            replace h4 := A2.mono s29 h4
            replace q4 := s29 _ _ q4
            replace q17 := s29 _ _ q17
            replace r17_0 := Rep.mono s29 r17_0
            replace r17_1 := Rep.mono s29 r17_1
            replace h20 := A2.mono s29 h20
            replace q20 := s29 _ _ q20
            replace h23 := A2.mono s29 h23
            replace q25 := s29 _ _ q25
            replace sF := sF.trans s29
            obtain ⟨a62, vs62, rfl, q62, h62⟩ := r29_8
            exact hN26 _ (post_ok hm) _ _ ⟨_, _, _, _, _, rfl, s29, w29, h29_0, h29_1⟩
          · skip
            exact hN26 _ (post_ok hm) _ _ ⟨_, _, _, _, _, rfl, Same.refl _, w25, h21, h_self⟩
        intro g26 σ26 H26 hI hm
        obtain ⟨F26, vs26_0, vs26_1, o26_9, o26_8, rfl, s26, w26, h26_0, h26_1⟩ := hI
        replace h3 := A2.mono s26 h3
        replace q3 := s26 _ _ q3
        replace h4 := A2.mono s26 h4
        replace q4 := s26 _ _ q4
        replace q17 := s26 _ _ q17
        replace r17_0 := Rep.mono s26 r17_0
        replace r17_1 := Rep.mono s26 r17_1
        replace h20 := A2.mono s26 h20
        replace q20 := s26 _ _ q20
        replace h23 := A2.mono s26 h23
        replace q25 := s26 _ _ q25
        replace sF := sF.trans s26
        have h63 : A2 (rep K F26) vs26_0 g26.1 := h26_0
        refine ⟨_, rfl, _, rfl, _, rfl, _, _, rfl, .inl ⟨SqL.of (w26.get (pre := [])), fun p64 n64 => ?_⟩⟩
        obtain ⟨F64, s64, w64, q64⟩ := w26.frzE (o := .tup vs26_0) n64
        replace h3 := A2.mono s64 h3
        replace q3 := s64 _ _ q3
        replace h4 := A2.mono s64 h4
        replace q4 := s64 _ _ q4
        replace q17 := s64 _ _ q17
        replace r17_0 := Rep.mono s64 r17_0
        replace r17_1 := Rep.mono s64 r17_1
        replace h20 := A2.mono s64 h20
        replace q20 := s64 _ _ q20
        replace h26_0 := A2.mono s64 h26_0
        replace h26_1 := RepL.mono s64 h26_1
        replace h63 := A2.mono s64 h63
        replace sF := sF.trans s64
        refine ⟨(by show 3 ≤ sizeLine; decide), fun p65 n65 => ?_⟩
        obtain ⟨F65, s65, w65, q65⟩ := w64.frzE (o := .tup [u17_0, u17_1, (.ref p64)]) n65
        replace h3 := A2.mono s65 h3
        replace q3 := s65 _ _ q3
        replace h4 := A2.mono s65 h4
        replace q4 := s65 _ _ q4
        replace q17 := s65 _ _ q17
        replace r17_0 := Rep.mono s65 r17_0
        replace r17_1 := Rep.mono s65 r17_1
        replace h20 := A2.mono s65 h20
        replace q20 := s65 _ _ q20
        replace h26_0 := A2.mono s65 h26_0
        replace h26_1 := RepL.mono s65 h26_1
        replace h63 := A2.mono s65 h63
        replace q64 := s65 _ _ q64
        replace sF := sF.trans s65
        have r65 : rep K F65 (.ref p65) ((To.n t16.v.1 t16.v.2.1 g26.1) : To) := (rep_toN q65 r17_0 r17_1 q64 h63)
        have w66 : W F65 _ ((a_self, (.ins (A 21) dx_self (mkfs [("pairs" : Str), ("strength" : Str), ("many" : Str), ("looks" : Str)] vs26_1))) :: (dx_self, (.own a_self)) :: os) := w65.drop (pre := [])
        exact (post_ok hm) _ _ _ _ w66 sF r65 h26_1
theorem sc_fewest_looks : FnScope ["web", "kind", "strength", "pairs", "one", "other", "parters", "last", "leanest", "many", "search", "tree"] ["web", "kind", "strength"] (defScope s_fewest_looks) := ⟨rfl, rfl, rfl, by decide +kernel, rfl, by decide +kernel, by decide +kernel⟩
def sp_fewest_looksX (K : Fg) : Sp := fun vs H Q E => ∃ (F : Hp) (os : List (Addr × HO)) (v_web : V) (x_web : (Int × (Tup (Int × Int)))) (x_kind : Str) (x_strength : Int), vs = [v_web, .str x_kind, .int x_strength] ∧ W F H (os) ∧ rep K F v_web x_web ∧ Post (fewest_looksX x_web x_kind x_strength) (Ret K F os Q) (RetX K F os E)
theorem ok_fewest_looksX (T : Tx K mg A FD) : FnOk P w K mg base (L2.CX P w) 23 (A 22) (FD 22) ["web", "kind", "strength"] (sp_fewest_looksX K) := by
  refine T.d22.fn.okX sc_fewest_looks (fun vs H Q E h => ?_) (fun cdv Ar outer s H vs Q E hr h => ?_)
  · obtain ⟨F, os, v_web, x_web, x_kind, x_strength, rfl, _⟩ := h
    rfl
  · obtain ⟨F0, os, v_web, x_web, x_kind, x_strength, rfl, w0, r_web, hm⟩ := h
    have sF : Same F0 F0 := Same.refl _
    obtain ⟨a1, u1, z1, rfl, q1, r1a, r1b⟩ := r_web
    obtain rfl : u1 = V.int x_web.1 := r1a
    obtain ⟨a2, vs2, rfl, q2, h2⟩ := r1b
    refine ⟨_, (pss_cons (ps_if (pt_cmp (pc_gt (pe_ix (ix_tupK (K := K) rfl) (pv 0) pe_int (fun _ _ => rfl)) (pe_globI (by rfl) T.c_MOST_SEARCHED))) (pss_one (ps_raise rfl (takes_of rfl rfl rfl rfl) (pmk_own PySem.F.excBase_ValueError T.x_TooMany.xc T.x_TooMany.gm T.x_TooMany.kp (raises_own T.x_TooMany.b T.x_TooMany.t) (by exact rfl)))) pss_nil) (pss_cons (ps_set (i := 3) sc_fewest_looks.nd rfl (Or.inl rfl) (pe_call (ok_pairs_of T) (hr.mono (by decide)) (by rfl) T.d18.mg T.d18.fn.kp T.d18.b .nil pass0 (pa_cons (pv 0) (pa_cons (pv 1) pa_nil)))) (pss_cons (ps_for (passes_of rfl) rfl (pi_listK (K := K) rfl (pv 3)) (pg_k (K := K) (t := fun K => gTup K 3 _) rfl (pg_tup (n := 3) rfl (pgs_cons (pg_name (i := 4) sc_fewest_looks.nd rfl (Or.inl rfl)) (pgs_cons (pg_name (i := 5) sc_fewest_looks.nd rfl (Or.inl rfl)) (pgs_cons (pg_name (i := 6) sc_fewest_looks.nd rfl (Or.inl rfl)) pgs_nil))))) (pss_one (ps_if (pt_cmp (pc_lt (pe_callB (call_lenN (K := K) rfl) (by rfl) T.n_len (by decide +kernel) (pa_cons (pv 6) pa_nil)) (pv 2))) (pss_one (ps_ret (pe_tup (pa_cons pe_str (pa_cons (pv 4) (pa_cons (pv 5) pa_nil)))))) pss_nil))) (pss_cons (ps_set (i := 7) sc_fewest_looks.nd rfl (Or.inl rfl) pe_non1) (pss_cons (ps_set (i := 8) sc_fewest_looks.nd rfl (Or.inl rfl) (pe_call (ok_leanest_pairs T) (hr.mono (by decide)) (by rfl) T.d19.mg T.d19.fn.kp T.d19.b .nil pass0 (pa_cons (pv 3) pa_nil))) (pss_cons (ps_for (passes_of rfl) rfl (pi_range1 (by rfl) T.n_range (pa_cons (pe_op op_add (pe_ix (ix_tupK (K := K) rfl) (pv 0) pe_int (fun _ _ => rfl)) pe_int) pa_nil)) (pg_name (i := 9) sc_fewest_looks.nd rfl (Or.inl rfl)) (pss_cons (ps_set (i := 10) sc_fewest_looks.nd rfl (Or.inl rfl) (pe_make T.mk_Search (ok_Search_init T) (hr.mono (by first | decide | omega)) (by rfl) T.mg_Search T.d22000.b .nil pass0 (pa_cons (pv 8) (pa_cons (pv 2) (pa_cons (pv 9) pa_nil))))) (pss_cons (ps_set (i := 11) sc_fewest_looks.nd rfl (Or.inl rfl) (pe_meth (pl := _) (pv 10) T.cl_Search T.d22001.mt (ok_Search_tree_of T 20) (hr.mono (by first | decide | omega)) T.d22001.b .nil pass0 (pa_cons (pe_lst pa_nil) (pa_cons (pe_lst pa_nil) pa_nil)))) (pss_cons (ps_if (pt_cmpR op_notN2 (pe_fld (pv 10) (by rfl)) pe_non (nomark _)) (pss_one (ps_ret (pe_tup (pa_cons pe_str (pa_cons (pe_fld (pv 10) (by rfl)) (pa_cons (pv 7) pa_nil)))))) pss_nil) (pss_one (ps_set (i := 7) sc_fewest_looks.nd rfl (Or.inl rfl) (pv 11))))))) (pss_one (ps_ret (pe_tup (pa_cons pe_str (pa_cons (pe_listRg rfl (by rfl) T.n_list (prg_1 (by rfl) T.n_range (pe_ix (ix_tupK (K := K) rfl) (pv 0) pe_int (fun _ _ => rfl)))) (pa_cons (pv 7) pa_nil)))))))))))), ?_⟩
    refine ⟨_, rfl, _, _, _, _, rfl, rfl, SqT.of (w0.same _ _ q1), rfl, _, _, rfl, rfl, _, rfl, ?_⟩
    refine post_ite hm (fun k3 hm => ?_) (fun k3 hm => ?_)
    · skip
      try dsimp only
      exact hm _ _ _ T.x_TooMany.ns w0 sF
    · skip
      refine ⟨_, rfl, _, rfl, _, _, _, (x_web : (Int × (Tup (Int × Int)))), _, rfl, w0, (rep_pair q1 rep_i (rep_tup q2 h2)), ?_⟩
      refine (post_nx hm).mono (fun y4 hm v4 F4 H4 w4 s4 r4 => ?_) (fun _ z => z)
      replace q1 := s4 _ _ q1
      replace q2 := s4 _ _ q2
      replace h2 := A2.mono s4 h2
      replace sF := sF.trans s4
      obtain ⟨a5, vs5, rfl, q5, h5⟩ := r4
      refine ⟨_, rfl, _, rfl, ⟨_, SqL.of (w4.same _ _ q5)⟩, ?_⟩
      refine forX (tw_list (a := a5) h5) hm (fun (g6 : Unit) σ H' => ∃ (F' : Hp) (o6_4 : Option V) (o6_5 : Option V) (o6_6 : Option V), σ = [some (.ref a1), some (.str x_kind), some (.int x_strength), some (.ref a5), o6_4, o6_5, o6_6, none, none, none, none, none] ∧ Same F4 F' ∧ W F' H' (os)) ⟨_, _, _, _, rfl, Same.refl _, w4⟩ (fun g σ H' hI => by obtain ⟨F', _, _, _, _, s, w⟩ := hI; exact SqL.of (w.same _ _ (s _ _ q5))) ?_ ?_
      · -- a turn
        intro b6 g6 x6 σ6 H6 H6' N6 B6 P6 hI hy hN6 hB6 hZ6 hm
        obtain ⟨F6, o6_4, o6_5, o6_6, rfl, s6, w6⟩ := hI
        replace q1 := s6 _ _ q1
        replace h2 := A2.mono s6 h2
        replace q2 := s6 _ _ q2
        replace h5 := A2.mono s6 h5
        replace q5 := s6 _ _ q5
        replace sF := sF.trans s6
        obtain ⟨rfl, r7⟩ := hy
        replace r7 := Rep.mono s6 r7
        obtain ⟨a8, u8_0, u8_1, u8_2, rfl, q8, r8_0, r8_1, r8_2⟩ := nt3 r7
        replace r8_0 : rep K F6 u8_0 (b6.v.1 : Thing) := r8_0
        replace r8_1 : rep K F6 u8_1 (b6.v.2.1 : Thing) := r8_1
        replace r8_2 : rep K F6 u8_2 (b6.v.2.2.1 : (List Int)) := r8_2
        obtain ⟨a11, vs11, rfl, q11, h11⟩ := r8_2
        refine ⟨_, _, rfl, SqT.of (w6.same _ _ q8), rfl, _, _, rfl, _, _, rfl, _, _, rfl, rfl, _, rfl, _, _, _, rfl, .inl (SqL.of (w6.same _ _ q11)), h11.length, _, rfl, _, _, rfl, rfl, _, rfl, ?_⟩
        refine post_ite hm (fun k12 hm => ?_) (fun k12 hm => ?_)
        · skip
          refine ⟨_, rfl, _, rfl, (by show 3 ≤ sizeLine; decide), fun p13 n13 => ?_⟩
          obtain ⟨F13, s13, w13, q13⟩ := w6.frzE (o := .tup [(.str "never"), u8_0, u8_1]) n13
          replace q1 := s13 _ _ q1
          replace h2 := A2.mono s13 h2
          replace q2 := s13 _ _ q2
          replace h5 := A2.mono s13 h5
          replace q5 := s13 _ _ q5
          replace r8_0 := Rep.mono s13 r8_0
          replace r8_1 := Rep.mono s13 r8_1
          replace h11 := A2.mono s13 h11
          replace q11 := s13 _ _ q11
          replace sF := sF.trans s13
          have r13 : rep K F13 (.ref p13) ((Fw.never b6.v.1 b6.v.2.1) : Fw) := (rep_nv q13 r8_0 r8_1)
          have hm := hZ6 _ (post_ok hm)
          exact (post_ok hm) _ _ _ w13 sF r13
        · skip
          exact hN6 _ (post_ok hm) _ _ ⟨_, _, _, _, rfl, s6, w6⟩
      intro g6 σ6 H6 hI hm
      obtain ⟨F6, o6_4, o6_5, o6_6, rfl, s6, w6⟩ := hI
      replace q1 := s6 _ _ q1
      replace h2 := A2.mono s6 h2
      replace q2 := s6 _ _ q2
      replace h5 := A2.mono s6 h5
      replace q5 := s6 _ _ q5
      replace sF := sF.trans s6
      have r14 : rep K F6 .non (none : (Option Tr)) := rep_none
      refine ⟨trivial, _, rfl, _, _, _, (y4 : (List (Nt (Thing × Thing × (List Int) × Unit)))), rfl, w6, (rep_lst q5 h5), ?_⟩
      refine (post_nx hm).mono (fun y15 hm v15 F15 H15 w15 s15 r15 => ?_) (fun _ z => z)
      replace q1 := s15 _ _ q1
      replace h2 := A2.mono s15 h2
      replace q2 := s15 _ _ q2
      replace h5 := A2.mono s15 h5
      replace q5 := s15 _ _ q5
      replace r14 := Rep.mono s15 r14
      replace sF := sF.trans s15
      obtain ⟨a16, vs16, rfl, q16, h16⟩ := r15
      obtain ⟨c18, hm⟩ := pb_rng hm
      refine ⟨_, rfl, _, _, _, _, rfl, rfl, SqT.of (w15.same _ _ q1), rfl, _, _, rfl, rfl, _, rfl, c18.2.2.1, c18.2.2.2, ?_⟩
      refine forX (tw_rng0 (j := (x_web.1 + (1 : Int)))) hm (fun (g17 : (Option Tr)) σ H' => ∃ (F' : Hp) (v17_7 : V) (o17_10 : Option V) (o17_11 : Option V) (o17_9 : Option V), σ = [some (.ref a1), some (.str x_kind), some (.int x_strength), some (.ref a5), o6_4, o6_5, o6_6, some v17_7, some (.ref a16), o17_9, o17_10, o17_11] ∧ Same F15 F' ∧ W F' H' (os) ∧ rep K F' v17_7 (g17 : (Option Tr))) ⟨_, _, _, _, _, rfl, Same.refl _, w15, r14⟩ (fun _ _ _ _ => trivial) ?_ ?_
      · -- a turn
        intro b17 g17 x17 σ17 H17 H17' N17 B17 P17 hI hy hN17 hB17 hZ17 hm
        obtain ⟨F17, v17_7, o17_10, o17_11, o17_9, rfl, s17, w17, r17_7⟩ := hI
        replace q1 := s17 _ _ q1
        replace h2 := A2.mono s17 h2
        replace q2 := s17 _ _ q2
        replace h5 := A2.mono s17 h5
        replace q5 := s17 _ _ q5
        replace r14 := Rep.mono s17 r14
        replace h16 := A2.mono s17 h16
        replace q16 := s17 _ _ q16
        replace sF := sF.trans s17
        obtain ⟨rfl, rfl⟩ := hy
        refine ⟨_, rfl, _, rfl, _, rfl, fun a20 dx20 na20 nd20 ne20 => ?_⟩
        have wd20 : W F17 _ ((dx20, (.own a20)) :: os) := w17.new (o := .own a20) nd20
        have w20 : W F17 _ ((a20, (.ins (A 21) dx20 [])) :: (dx20, (.own a20)) :: os) := wd20.new (o := .ins (A 21) dx20 []) (by rw [upd_ne ne20.symm]; exact na20)
        refine ⟨_, _, _, _, _, F0, _, (y15 : (List (Nt (Thing × Thing × (List Int) × Unit)))), _, _, rfl, w20, T.nm_Search, sF, (rep_lst q16 h16), ?_⟩
        refine (post_nx hm).mono (fun y20 hm us20 F20 H20 w20i s20 h20 => ⟨rfl, ?_⟩) (fun _ z => z)
        replace q1 := s20 _ _ q1
        replace h2 := A2.mono s20 h2
        replace q2 := s20 _ _ q2
        replace h5 := A2.mono s20 h5
        replace q5 := s20 _ _ q5
        replace r17_7 := Rep.mono s20 r17_7
        replace h16 := A2.mono s20 h16
        replace q16 := s20 _ _ q16
        replace sF := sF.trans s20
        have h24 : A2 (rep K F20) [] ([] : (List Int)) := .nil
        refine ⟨_, rfl, _, _, _, rfl, (w20i.get (pre := [])), fm_Search_tree_of h20, (by show 0 ≤ sizeLine; decide), fun p25 n25 => ?_⟩
        have w25 : W F20 _ ((p25, .lst []) :: (a20, (.ins (A 21) dx20 (mkfs [("pairs" : Str), ("strength" : Str), ("many" : Str), ("looks" : Str)] us20))) :: (dx20, (.own a20)) :: os) := w20i.new n25
        have h26 : A2 (rep K F20) [] ([] : (List Int)) := .nil
        refine ⟨(by show 0 ≤ sizeLine; decide), fun p27 n27 => ?_⟩
        have w27 : W F20 _ ((p27, .lst []) :: (p25, .lst []) :: (a20, (.ins (A 21) dx20 (mkfs [("pairs" : Str), ("strength" : Str), ("many" : Str), ("looks" : Str)] us20))) :: (dx20, (.own a20)) :: os) := w25.new n27
        obtain ⟨F28, s28, w28, q28⟩ : ∃ F', Same F20 F' ∧ W F' _ ((p27, .lst []) :: (a20, (.ins (A 21) dx20 (mkfs [("pairs" : Str), ("strength" : Str), ("many" : Str), ("looks" : Str)] us20))) :: (dx20, (.own a20)) :: os) ∧ F' p25 = some (.lst []) := w27.freezeE (pre := [_])
        replace q1 := s28 _ _ q1
        replace h2 := A2.mono s28 h2
        replace q2 := s28 _ _ q2
        replace h5 := A2.mono s28 h5
        replace q5 := s28 _ _ q5
        replace r17_7 := Rep.mono s28 r17_7
        replace h16 := A2.mono s28 h16
        replace q16 := s28 _ _ q16
        replace h20 := RepL.mono s28 h20
        replace h24 := A2.mono s28 h24
        replace h26 := A2.mono s28 h26
        replace sF := sF.trans s28
        obtain ⟨F29, s29, w29, q29⟩ : ∃ F', Same F28 F' ∧ W F' _ ((a20, (.ins (A 21) dx20 (mkfs [("pairs" : Str), ("strength" : Str), ("many" : Str), ("looks" : Str)] us20))) :: (dx20, (.own a20)) :: os) ∧ F' p27 = some (.lst []) := w28.freezeE (pre := [])
        replace q1 := s29 _ _ q1
        replace h2 := A2.mono s29 h2
        replace q2 := s29 _ _ q2
        replace h5 := A2.mono s29 h5
        replace q5 := s29 _ _ q5
        replace r17_7 := Rep.mono s29 r17_7
        replace h16 := A2.mono s29 h16
        replace q16 := s29 _ _ q16
        replace h20 := RepL.mono s29 h20
        replace h24 := A2.mono s29 h24
        replace h26 := A2.mono s29 h26
        replace q28 := s29 _ _ q28
        replace sF := sF.trans s29
        have w30 : W F29 _ ((dx20, (.own a20)) :: (a20, (.ins (A 21) dx20 (mkfs [("pairs" : Str), ("strength" : Str), ("many" : Str), ("looks" : Str)] us20))) :: os) := w29.front (pre := [_])
        have w31 : W F29 _ ((a20, (.ins (A 21) dx20 (mkfs [("pairs" : Str), ("strength" : Str), ("many" : Str), ("looks" : Str)] us20))) :: (dx20, (.own a20)) :: os) := w30.front (pre := [_])
        refine ⟨_, _, _, _, _, _, y20, F0, _, (([] : (List Int)) : (List Int)), _, (([] : (List Int)) : (List Int)), rfl, w31, T.nm_Search, h20, (rep_lst q28 h24), (rep_lst q29 h26), ?_⟩
        refine (post_nx hm).mono (fun y32 hm v32 vs32 F32 H32 w32 s32 r32 h32 => ?_) (fun _ z => z)
        replace q1 := s32 _ _ q1
        replace h2 := A2.mono s32 h2
        replace q2 := s32 _ _ q2
        replace h5 := A2.mono s32 h5
        replace q5 := s32 _ _ q5
        replace r17_7 := Rep.mono s32 r17_7
        replace h16 := A2.mono s32 h16
        replace q16 := s32 _ _ q16
        replace h24 := A2.mono s32 h24
        replace h26 := A2.mono s32 h26
        replace q28 := s32 _ _ q28
        replace q29 := s32 _ _ q29
        replace sF := sF.trans s32
        obtain ⟨u34, l34, r34⟩ := fr_Search_looks h32
        obtain ⟨_, r34, fr34⟩ := r34
        refine ⟨_, rfl, _, _, _, _, _, rfl, (w32.get (pre := [])), T.cl_Search, T.na_Search_looks, l34, rfl, _, isN_eq r34, _, rfl, ?_⟩
        refine post_ite hm (fun k36 hm => ?_) (fun k36 hm => ?_)
        · skip
          obtain ⟨u37, l37, r37⟩ := fr_Search_looks h32
          obtain ⟨_, r37, fr37⟩ := r37
          obtain ⟨t39, e39, hm⟩ := pb_ofO hm
          have r39 : rep K F32 u37 t39 := (show rep K F32 u37 (some t39) from e39 ▸ r37)
          obtain ⟨a40, vs40, rfl, q40, h40⟩ := r39
          refine ⟨_, rfl, _, _, _, _, _, rfl, (w32.get (pre := [])), T.cl_Search, T.na_Search_looks, l37, _, rfl, (by show 3 ≤ sizeLine; decide), fun p41 n41 => ?_⟩
          obtain ⟨F41, s41, w41, q41⟩ := w32.frzE (o := .tup [(.str "looks"), (.ref a40), v17_7]) n41
          replace q1 := s41 _ _ q1
          replace h2 := A2.mono s41 h2
          replace q2 := s41 _ _ q2
          replace h5 := A2.mono s41 h5
          replace q5 := s41 _ _ q5
          replace r17_7 := Rep.mono s41 r17_7
          replace h16 := A2.mono s41 h16
          replace q16 := s41 _ _ q16
          replace r32 := Rep.mono s41 r32
          replace h32 := RepL.mono s41 h32
          replace r34 := Rep.mono s41 r34
          replace r37 := Rep.mono s41 r37
          replace q40 := s41 _ _ q40
          replace h40 := A2.mono s41 h40
          replace sF := sF.trans s41
          have r41 : rep K F41 (.ref p41) ((Fw.looks t39 g17) : Fw) := (rep_lk q41 (rep_lst q40 h40) r17_7)
          have hm := hZ17 _ (post_ok hm)
          have w42 : W F41 _ ((dx20, (.own a20)) :: os) := w41.drop (pre := [])
          have w43 : W F41 _ (os) := w42.drop (pre := [])
          exact (post_ok hm) _ _ _ w43 sF r41
        · skip
          obtain ⟨t44, e44, r44, hm⟩ := pb_asTr r32 hm
          have w45 : W F32 _ ((dx20, (.own a20)) :: os) := w32.drop (pre := [])
          have w46 : W F32 _ (os) := w45.drop (pre := [])
          exact ⟨_, rfl, hN17 _ (post_ok hm) _ _ ⟨_, _, _, _, _, rfl, (s17.trans (s20.trans (s28.trans (s29.trans s32)))), w46, r44⟩⟩
      intro g17 σ17 H17 hI hm
      obtain ⟨F17, v17_7, o17_10, o17_11, o17_9, rfl, s17, w17, r17_7⟩ := hI
      replace q1 := s17 _ _ q1
      replace h2 := A2.mono s17 h2
      replace q2 := s17 _ _ q2
      replace h5 := A2.mono s17 h5
      replace q5 := s17 _ _ q5
      replace r14 := Rep.mono s17 r14
      replace h16 := A2.mono s17 h16
      replace q16 := s17 _ _ q16
      replace sF := sF.trans s17
      obtain ⟨l48, z48, e48, hm⟩ := pb_lrng hm
      have h48 : A2 (rep K F17) (rgV 0 x_web.1) l48 := by rw [e48, rgV_eq]; exact A2.of_ints
      refine ⟨_, rfl, _, _, _, _, rfl, rfl, SqT.of (w17.same _ _ q1), rfl, _, rfl, z48, fun p49 n49 => ?_⟩
      have w49 : W F17 _ ((p49, .lst (rgV 0 x_web.1)) :: os) := w17.new n49
      obtain ⟨F50, s50, w50, q50⟩ : ∃ F', Same F17 F' ∧ W F' _ (os) ∧ F' p49 = some (.lst (rgV 0 x_web.1)) := w49.freezeE (pre := [])
      replace q1 := s50 _ _ q1
      replace h2 := A2.mono s50 h2
      replace q2 := s50 _ _ q2
      replace h5 := A2.mono s50 h5
      replace q5 := s50 _ _ q5
      replace r17_7 := Rep.mono s50 r17_7
      replace h16 := A2.mono s50 h16
      replace q16 := s50 _ _ q16
      replace h48 := A2.mono s50 h48
      replace sF := sF.trans s50
      refine ⟨_, rfl, (by show 3 ≤ sizeLine; decide), fun p51 n51 => ?_⟩
      obtain ⟨F51, s51, w51, q51⟩ := w50.frzE (o := .tup [(.str "looks"), (.ref p49), v17_7]) n51
      replace q1 := s51 _ _ q1
      replace h2 := A2.mono s51 h2
      replace q2 := s51 _ _ q2
      replace h5 := A2.mono s51 h5
      replace q5 := s51 _ _ q5
      replace r17_7 := Rep.mono s51 r17_7
      replace h16 := A2.mono s51 h16
      replace q16 := s51 _ _ q16
      replace h48 := A2.mono s51 h48
      replace q50 := s51 _ _ q50
      replace sF := sF.trans s51
      have r51 : rep K F51 (.ref p51) ((Fw.looks l48 g17) : Fw) := (rep_lk q51 (rep_lst q50 h48) r17_7)
      exact (post_ok hm) _ _ _ w51 sF r51
def sp_fewest_looksO (K : Fg) : Sp := fun vs H Q E => ∃ (F : Hp) (os : List (Addr × HO)) (v_web : V) (x_web : (Int × (Tup (Int × Int)))) (x_kind : Str) (x_strength : Int), vs = [v_web, .str x_kind, .int x_strength] ∧ W F H (os) ∧ rep K F v_web x_web ∧ Post (fewest_looksO x_web x_kind x_strength) (RetFwO K F os Q) noX
theorem ok_fewest_looksO (T : Tx K mg A FD) : FnOk P w K mg base CX0 23 (A 22) (FD 22) ["web", "kind", "strength"] (sp_fewest_looksO K) := by
  refine T.d22.fn.ok sc_fewest_looks (fun vs H Q E h => ?_) (fun cdv Ar outer s H vs Q E hr h => ?_)
  · obtain ⟨F, os, v_web, x_web, x_kind, x_strength, rfl, _⟩ := h
    rfl
  · obtain ⟨F0, os, v_web, x_web, x_kind, x_strength, rfl, w0, r_web, hm⟩ := h
    have sF : Same F0 F0 := Same.refl _
    obtain ⟨a1, u1, z1, rfl, q1, r1a, r1b⟩ := r_web
    obtain rfl : u1 = V.int x_web.1 := r1a
    obtain ⟨a2, vs2, rfl, q2, h2⟩ := r1b
    refine ⟨_, (pss_cons (ps_if (pt_cmp (pc_gt (pe_ix (ix_tupK (K := K) rfl) (pv 0) pe_int (fun _ _ => rfl)) (pe_globI (by rfl) T.c_MOST_SEARCHED))) (pss_one ps_absurd) pss_nil) (pss_cons (ps_set (i := 3) sc_fewest_looks.nd rfl (Or.inl rfl) (pe_call (ok_pairs_of T) (hr.mono (by decide)) (by rfl) T.d18.mg T.d18.fn.kp T.d18.b .nil pass0 (pa_cons (pv 0) (pa_cons (pv 1) pa_nil)))) (pss_cons (ps_for PassesOwn.never rfl (pi_listK (K := K) rfl (pv 3)) (pg_k (K := K) (t := fun K => gTup K 3 _) rfl (pg_tup (n := 3) rfl (pgs_cons (pg_name (i := 4) sc_fewest_looks.nd rfl (Or.inl rfl)) (pgs_cons (pg_name (i := 5) sc_fewest_looks.nd rfl (Or.inl rfl)) (pgs_cons (pg_name (i := 6) sc_fewest_looks.nd rfl (Or.inl rfl)) pgs_nil))))) (pss_one (ps_if (pt_cmp (pc_lt (pe_callB (call_lenN (K := K) rfl) (by rfl) T.n_len (by decide +kernel) (pa_cons (pv 6) pa_nil)) (pv 2))) (pss_one (ps_ret (pe_tup (pa_cons pe_str (pa_cons (pv 4) (pa_cons (pv 5) pa_nil)))))) pss_nil))) (pss_cons (ps_set (i := 7) sc_fewest_looks.nd rfl (Or.inl rfl) pe_non1) (pss_cons (ps_set (i := 8) sc_fewest_looks.nd rfl (Or.inl rfl) (pe_call (ok_leanest_pairs T) (hr.mono (by decide)) (by rfl) T.d19.mg T.d19.fn.kp T.d19.b .nil pass0 (pa_cons (pv 3) pa_nil))) (pss_cons (ps_for PassesOwn.never rfl (pi_range1 (by rfl) T.n_range (pa_cons (pe_op op_add (pe_ix (ix_tupK (K := K) rfl) (pv 0) pe_int (fun _ _ => rfl)) pe_int) pa_nil)) (pg_name (i := 9) sc_fewest_looks.nd rfl (Or.inl rfl)) (pss_cons (ps_set (i := 10) sc_fewest_looks.nd rfl (Or.inl rfl) (pe_make T.mk_Search (ok_Search_init T) (hr.mono (by first | decide | omega)) (by rfl) T.mg_Search T.d22000.b .nil pass0 (pa_cons (pv 8) (pa_cons (pv 2) (pa_cons (pv 9) pa_nil))))) (pss_cons (ps_set (i := 11) sc_fewest_looks.nd rfl (Or.inl rfl) (pe_meth (pl := _) (pv 10) T.cl_Search T.d22001.mt (ok_Search_tree_of T 20) (hr.mono (by first | decide | omega)) T.d22001.b .nil pass0 (pa_cons (pe_lst pa_nil) (pa_cons (pe_lst pa_nil) pa_nil)))) (pss_cons (ps_if (pt_cmpR op_notN2 (pe_fld (pv 10) (by rfl)) pe_non (nomark _)) (pss_one (ps_ret (pe_tup (pa_cons pe_str (pa_cons (pe_fld (pv 10) (by rfl)) (pa_cons (pv 7) pa_nil)))))) pss_nil) (pss_one (ps_set (i := 7) sc_fewest_looks.nd rfl (Or.inl rfl) (pv 11))))))) (pss_one (ps_ret (pe_tup (pa_cons pe_str (pa_cons (pe_listRg rfl (by rfl) T.n_list (prg_1 (by rfl) T.n_range (pe_ix (ix_tupK (K := K) rfl) (pv 0) pe_int (fun _ _ => rfl)))) (pa_cons (pv 7) pa_nil)))))))))))), ?_⟩
    refine ⟨_, rfl, _, _, _, _, rfl, rfl, SqT.of (w0.same _ _ q1), rfl, _, _, rfl, rfl, _, rfl, ?_⟩
    refine post_ite hm (fun k3 hm => ?_) (fun k3 hm => ?_)
    · skip
      try dsimp only
      exact hm
    · skip
      refine ⟨_, rfl, _, rfl, _, _, _, (x_web : (Int × (Tup (Int × Int)))), _, rfl, w0, (rep_pair q1 rep_i (rep_tup q2 h2)), ?_⟩
      refine (post_bind hm).mono (fun y4 hm v4 F4 H4 w4 s4 r4 => ?_) (fun _ z => z)
      replace q1 := s4 _ _ q1
      replace q2 := s4 _ _ q2
      replace h2 := A2.mono s4 h2
      replace sF := sF.trans s4
      obtain ⟨a5, vs5, rfl, q5, h5⟩ := r4
      refine ⟨_, rfl, _, rfl, ⟨_, SqL.of (w4.same _ _ q5)⟩, ?_⟩
      refine forX (tw_list (a := a5) h5) hm (fun (g6 : Unit) σ H' => ∃ (F' : Hp) (o6_4 : Option V) (o6_5 : Option V) (o6_6 : Option V), σ = [some (.ref a1), some (.str x_kind), some (.int x_strength), some (.ref a5), o6_4, o6_5, o6_6, none, none, none, none, none] ∧ Same F4 F' ∧ W F' H' (os)) ⟨_, _, _, _, rfl, Same.refl _, w4⟩ (fun g σ H' hI => by obtain ⟨F', _, _, _, _, s, w⟩ := hI; exact SqL.of (w.same _ _ (s _ _ q5))) ?_ ?_
      · -- a turn
        intro b6 g6 x6 σ6 H6 H6' N6 B6 P6 hI hy hN6 hB6 hZ6 hm
        obtain ⟨F6, o6_4, o6_5, o6_6, rfl, s6, w6⟩ := hI
        replace q1 := s6 _ _ q1
        replace h2 := A2.mono s6 h2
        replace q2 := s6 _ _ q2
        replace h5 := A2.mono s6 h5
        replace q5 := s6 _ _ q5
        replace sF := sF.trans s6
        obtain ⟨rfl, r7⟩ := hy
        replace r7 := Rep.mono s6 r7
        obtain ⟨a8, u8_0, u8_1, u8_2, rfl, q8, r8_0, r8_1, r8_2⟩ := nt3 r7
        replace r8_0 : rep K F6 u8_0 (b6.v.1 : Thing) := r8_0
        replace r8_1 : rep K F6 u8_1 (b6.v.2.1 : Thing) := r8_1
        replace r8_2 : rep K F6 u8_2 (b6.v.2.2.1 : (List Int)) := r8_2
        obtain ⟨a11, vs11, rfl, q11, h11⟩ := r8_2
        refine ⟨_, _, rfl, SqT.of (w6.same _ _ q8), rfl, _, _, rfl, _, _, rfl, _, _, rfl, rfl, _, rfl, _, _, _, rfl, .inl (SqL.of (w6.same _ _ q11)), h11.length, _, rfl, _, _, rfl, rfl, _, rfl, ?_⟩
        refine post_ite hm (fun k12 hm => ?_) (fun k12 hm => ?_)
        · skip
          refine ⟨_, rfl, _, rfl, (by show 3 ≤ sizeLine; decide), fun p13 n13 => ?_⟩
          obtain ⟨F13, s13, w13, q13⟩ := w6.frzE (o := .tup [(.str "never"), u8_0, u8_1]) n13
          replace q1 := s13 _ _ q1
          replace h2 := A2.mono s13 h2
          replace q2 := s13 _ _ q2
          replace h5 := A2.mono s13 h5
          replace q5 := s13 _ _ q5
          replace r8_0 := Rep.mono s13 r8_0
          replace r8_1 := Rep.mono s13 r8_1
          replace h11 := A2.mono s13 h11
          replace q11 := s13 _ _ q11
          replace sF := sF.trans s13
          have r13 : rep K F13 (.ref p13) ((Fw.never b6.v.1 b6.v.2.1) : Fw) := rep_nv q13 r8_0 r8_1
          have hm := hZ6 _ (post_ok hm)
          exact (show RetFwO _ _ _ _ (Fw.never b6.v.1 b6.v.2.1) from post_ok hm) _ _ _ w13 sF r13
        · skip
          exact hN6 _ (post_ok hm) _ _ ⟨_, _, _, _, rfl, s6, w6⟩
      intro g6 σ6 H6 hI hm
      obtain ⟨F6, o6_4, o6_5, o6_6, rfl, s6, w6⟩ := hI
      replace q1 := s6 _ _ q1
      replace h2 := A2.mono s6 h2
      replace q2 := s6 _ _ q2
      replace h5 := A2.mono s6 h5
      replace q5 := s6 _ _ q5
      replace sF := sF.trans s6
      have r14 : rep K F6 .non (none : (Option Tr)) := rep_none
      refine ⟨trivial, _, rfl, _, _, _, (y4 : (List (Nt (Thing × Thing × (List Int) × Unit)))), rfl, w6, (rep_lst q5 h5), ?_⟩
      refine (post_bind hm).mono (fun y15 hm v15 F15 H15 w15 s15 r15 => ?_) (fun _ z => z)
      replace q1 := s15 _ _ q1
      replace h2 := A2.mono s15 h2
      replace q2 := s15 _ _ q2
      replace h5 := A2.mono s15 h5
      replace q5 := s15 _ _ q5
      replace r14 := Rep.mono s15 r14
      replace sF := sF.trans s15
      obtain ⟨a16, vs16, rfl, q16, h16⟩ := r15
      obtain ⟨c18, hm⟩ := pb_rng hm
      refine ⟨_, rfl, _, _, _, _, rfl, rfl, SqT.of (w15.same _ _ q1), rfl, _, _, rfl, rfl, _, rfl, c18.2.2.1, c18.2.2.2, ?_⟩
      refine forX (tw_rng0 (j := (x_web.1 + (1 : Int)))) hm (fun (g17 : (Option Tr)) σ H' => ∃ (F' : Hp) (v17_7 : V) (o17_10 : Option V) (o17_11 : Option V) (o17_9 : Option V), σ = [some (.ref a1), some (.str x_kind), some (.int x_strength), some (.ref a5), o6_4, o6_5, o6_6, some v17_7, some (.ref a16), o17_9, o17_10, o17_11] ∧ Same F15 F' ∧ W F' H' (os) ∧ rep K F' v17_7 (g17 : (Option Tr))) ⟨_, _, _, _, _, rfl, Same.refl _, w15, r14⟩ (fun _ _ _ _ => trivial) ?_ ?_
      · -- a turn
        intro b17 g17 x17 σ17 H17 H17' N17 B17 P17 hI hy hN17 hB17 hZ17 hm
        obtain ⟨F17, v17_7, o17_10, o17_11, o17_9, rfl, s17, w17, r17_7⟩ := hI
        replace q1 := s17 _ _ q1
        replace h2 := A2.mono s17 h2
        replace q2 := s17 _ _ q2
        replace h5 := A2.mono s17 h5
        replace q5 := s17 _ _ q5
        replace r14 := Rep.mono s17 r14
        replace h16 := A2.mono s17 h16
        replace q16 := s17 _ _ q16
        replace sF := sF.trans s17
        obtain ⟨rfl, rfl⟩ := hy
        refine ⟨_, rfl, _, rfl, _, rfl, fun a20 dx20 na20 nd20 ne20 => ?_⟩
        have wd20 : W F17 _ ((dx20, (.own a20)) :: os) := w17.new (o := .own a20) nd20
        have w20 : W F17 _ ((a20, (.ins (A 21) dx20 [])) :: (dx20, (.own a20)) :: os) := wd20.new (o := .ins (A 21) dx20 []) (by rw [upd_ne ne20.symm]; exact na20)
        refine ⟨_, _, _, _, _, F0, _, (y15 : (List (Nt (Thing × Thing × (List Int) × Unit)))), _, _, rfl, w20, T.nm_Search, sF, (rep_lst q16 h16), ?_⟩
        refine (post_bind hm).mono (fun y20 hm us20 F20 H20 w20i s20 h20 => ⟨rfl, ?_⟩) (fun _ z => z)
        replace q1 := s20 _ _ q1
        replace h2 := A2.mono s20 h2
        replace q2 := s20 _ _ q2
        replace h5 := A2.mono s20 h5
        replace q5 := s20 _ _ q5
        replace r17_7 := Rep.mono s20 r17_7
        replace h16 := A2.mono s20 h16
        replace q16 := s20 _ _ q16
        replace sF := sF.trans s20
        have h24 : A2 (rep K F20) [] ([] : (List Int)) := .nil
        refine ⟨_, rfl, _, _, _, rfl, (w20i.get (pre := [])), fm_Search_tree_of h20, (by show 0 ≤ sizeLine; decide), fun p25 n25 => ?_⟩
        have w25 : W F20 _ ((p25, .lst []) :: (a20, (.ins (A 21) dx20 (mkfs [("pairs" : Str), ("strength" : Str), ("many" : Str), ("looks" : Str)] us20))) :: (dx20, (.own a20)) :: os) := w20i.new n25
        have h26 : A2 (rep K F20) [] ([] : (List Int)) := .nil
        refine ⟨(by show 0 ≤ sizeLine; decide), fun p27 n27 => ?_⟩
        have w27 : W F20 _ ((p27, .lst []) :: (p25, .lst []) :: (a20, (.ins (A 21) dx20 (mkfs [("pairs" : Str), ("strength" : Str), ("many" : Str), ("looks" : Str)] us20))) :: (dx20, (.own a20)) :: os) := w25.new n27
        obtain ⟨F28, s28, w28, q28⟩ : ∃ F', Same F20 F' ∧ W F' _ ((p27, .lst []) :: (a20, (.ins (A 21) dx20 (mkfs [("pairs" : Str), ("strength" : Str), ("many" : Str), ("looks" : Str)] us20))) :: (dx20, (.own a20)) :: os) ∧ F' p25 = some (.lst []) := w27.freezeE (pre := [_])
        replace q1 := s28 _ _ q1
        replace h2 := A2.mono s28 h2
        replace q2 := s28 _ _ q2
        replace h5 := A2.mono s28 h5
        replace q5 := s28 _ _ q5
        replace r17_7 := Rep.mono s28 r17_7
        replace h16 := A2.mono s28 h16
        replace q16 := s28 _ _ q16
        replace h20 := RepL.mono s28 h20
        replace h24 := A2.mono s28 h24
        replace h26 := A2.mono s28 h26
        replace sF := sF.trans s28
        obtain ⟨F29, s29, w29, q29⟩ : ∃ F', Same F28 F' ∧ W F' _ ((a20, (.ins (A 21) dx20 (mkfs [("pairs" : Str), ("strength" : Str), ("many" : Str), ("looks" : Str)] us20))) :: (dx20, (.own a20)) :: os) ∧ F' p27 = some (.lst []) := w28.freezeE (pre := [])
        replace q1 := s29 _ _ q1
        replace h2 := A2.mono s29 h2
        replace q2 := s29 _ _ q2
        replace h5 := A2.mono s29 h5
        replace q5 := s29 _ _ q5
        replace r17_7 := Rep.mono s29 r17_7
        replace h16 := A2.mono s29 h16
        replace q16 := s29 _ _ q16
        replace h20 := RepL.mono s29 h20
        replace h24 := A2.mono s29 h24
        replace h26 := A2.mono s29 h26
        replace q28 := s29 _ _ q28
        replace sF := sF.trans s29
        have w30 : W F29 _ ((dx20, (.own a20)) :: (a20, (.ins (A 21) dx20 (mkfs [("pairs" : Str), ("strength" : Str), ("many" : Str), ("looks" : Str)] us20))) :: os) := w29.front (pre := [_])
        have w31 : W F29 _ ((a20, (.ins (A 21) dx20 (mkfs [("pairs" : Str), ("strength" : Str), ("many" : Str), ("looks" : Str)] us20))) :: (dx20, (.own a20)) :: os) := w30.front (pre := [_])
        refine ⟨_, _, _, _, _, _, y20, F0, _, (([] : (List Int)) : (List Int)), _, (([] : (List Int)) : (List Int)), rfl, w31, T.nm_Search, h20, (rep_lst q28 h24), (rep_lst q29 h26), ?_⟩
        refine (post_bind hm).mono (fun y32 hm v32 vs32 F32 H32 w32 s32 r32 h32 => ?_) (fun _ z => z)
        replace q1 := s32 _ _ q1
        replace h2 := A2.mono s32 h2
        replace q2 := s32 _ _ q2
        replace h5 := A2.mono s32 h5
        replace q5 := s32 _ _ q5
        replace r17_7 := Rep.mono s32 r17_7
        replace h16 := A2.mono s32 h16
        replace q16 := s32 _ _ q16
        replace h24 := A2.mono s32 h24
        replace h26 := A2.mono s32 h26
        replace q28 := s32 _ _ q28
        replace q29 := s32 _ _ q29
        replace sF := sF.trans s32
        obtain ⟨u34, l34, r34⟩ := fr_Search_looks h32
        obtain ⟨_, r34, fr34⟩ := r34
        refine ⟨_, rfl, _, _, _, _, _, rfl, (w32.get (pre := [])), T.cl_Search, T.na_Search_looks, l34, rfl, _, isN_eq r34, _, rfl, ?_⟩
        refine post_ite hm (fun k36 hm => ?_) (fun k36 hm => ?_)
        · skip
          obtain ⟨u37, l37, r37⟩ := fr_Search_looks h32
          obtain ⟨_, r37, fr37⟩ := r37
          obtain ⟨t39, e39, hm⟩ := pb_ofO hm
          have r39 : rep K F32 u37 t39 := (show rep K F32 u37 (some t39) from e39 ▸ r37)
          obtain ⟨a40, vs40, rfl, q40, h40⟩ := r39
          refine ⟨_, rfl, _, _, _, _, _, rfl, (w32.get (pre := [])), T.cl_Search, T.na_Search_looks, l37, _, rfl, (by show 3 ≤ sizeLine; decide), fun p41 n41 => ?_⟩
          obtain ⟨F41, s41, w41, q41⟩ := w32.frzE (o := .tup [(.str "looks"), (.ref a40), v17_7]) n41
          replace q1 := s41 _ _ q1
          replace h2 := A2.mono s41 h2
          replace q2 := s41 _ _ q2
          replace h5 := A2.mono s41 h5
          replace q5 := s41 _ _ q5
          replace r17_7 := Rep.mono s41 r17_7
          replace h16 := A2.mono s41 h16
          replace q16 := s41 _ _ q16
          replace r32 := Rep.mono s41 r32
          replace h32 := RepL.mono s41 h32
          replace r34 := Rep.mono s41 r34
          replace r37 := Rep.mono s41 r37
          replace q40 := s41 _ _ q40
          replace h40 := A2.mono s41 h40
          replace sF := sF.trans s41
          have hm := hZ17 _ (post_ok hm)
          have w42 : W F41 _ ((dx20, (.own a20)) :: os) := w41.drop (pre := [])
          have w43 : W F41 _ (os) := w42.drop (pre := [])
          exact fw_free (show RetFwO _ _ _ _ (Fw.looks t39 g17) from post_ok hm) w43 sF (fr37 _ rfl) q40 h40 q41 r17_7
        · skip
          obtain ⟨t44, e44, r44, hm⟩ := pb_asTr r32 hm
          have w45 : W F32 _ ((dx20, (.own a20)) :: os) := w32.drop (pre := [])
          have w46 : W F32 _ (os) := w45.drop (pre := [])
          exact ⟨_, rfl, hN17 _ (post_ok hm) _ _ ⟨_, _, _, _, _, rfl, (s17.trans (s20.trans (s28.trans (s29.trans s32)))), w46, r44⟩⟩
      intro g17 σ17 H17 hI hm
      obtain ⟨F17, v17_7, o17_10, o17_11, o17_9, rfl, s17, w17, r17_7⟩ := hI
      replace q1 := s17 _ _ q1
      replace h2 := A2.mono s17 h2
      replace q2 := s17 _ _ q2
      replace h5 := A2.mono s17 h5
      replace q5 := s17 _ _ q5
      replace r14 := Rep.mono s17 r14
      replace h16 := A2.mono s17 h16
      replace q16 := s17 _ _ q16
      replace sF := sF.trans s17
      obtain ⟨l48, z48, e48, hm⟩ := pb_lrng hm
      have h48 : A2 (rep K F17) (rgV 0 x_web.1) l48 := by rw [e48, rgV_eq]; exact A2.of_ints
      refine ⟨_, rfl, _, _, _, _, rfl, rfl, SqT.of (w17.same _ _ q1), rfl, _, rfl, z48, fun p49 n49 => ?_⟩
      have w49 : W F17 _ ((p49, .lst (rgV 0 x_web.1)) :: os) := w17.new n49
      refine ⟨_, rfl, (by show 3 ≤ sizeLine; decide), fun p50 n50 => ?_⟩
      obtain ⟨F50, s50, w50, q50⟩ := w49.frzE (o := .tup [(.str "looks"), (.ref p49), v17_7]) n50
      replace q1 := s50 _ _ q1
      replace h2 := A2.mono s50 h2
      replace q2 := s50 _ _ q2
      replace h5 := A2.mono s50 h5
      replace q5 := s50 _ _ q5
      replace r17_7 := Rep.mono s50 r17_7
      replace h16 := A2.mono s50 h16
      replace q16 := s50 _ _ q16
      replace h48 := A2.mono s50 h48
      replace sF := sF.trans s50
      exact (show RetFwO _ _ _ _ (Fw.looks l48 g17) from post_ok hm) _ _ _ _ _ _ w50 sF q50 h48 r17_7
def spz_fewest_looksO (K : Fg) : Sp := fun vs H Q E => ∃ (F : Hp) (os : List (Addr × HO)) (v_web : V) (x_web : (Int × (Tup (Int × Int)))) (x_kind : Str) (x_strength : Int), vs = [v_web, .str x_kind, .int x_strength] ∧ W F H (os) ∧ rep K F v_web x_web ∧ Post (fewest_looksO x_web x_kind x_strength) (Ret K F os Q) noX
theorem okz_fewest_looksO (T : Tx K mg A FD) : FnOk P w K mg base CX0 23 (A 22) (FD 22) ["web", "kind", "strength"] (spz_fewest_looksO K) := (ok_fewest_looksO T).imp fun vs H Q E h => by
  obtain ⟨F0, os, v_web, x_web, x_kind, x_strength, rfl, w0, r_web, hm⟩ := h
  exact ⟨F0, os, v_web, x_web, x_kind, x_strength, rfl, w0, r_web, hm.mono (fun y z => retFw_frz z) (fun _ z => z)⟩
def sp_law_purse (K : Fg) : Sp := fun vs H Q E => ∃ (F : Hp) (os : List (Addr × HO)) (v__law_script : V) (x__law_script : Scr) (x__law_k : Int), vs = [v__law_script, .int x__law_k] ∧ W F H (os) ∧ rep K F v__law_script x__law_script ∧ Post (law_purse x__law_script x__law_k) (RetL K F os Q) noX
theorem sc_law_purse : FnScope ["_law_script", "_law_k", "_law_cell", "_law_number"] ["_law_script", "_law_k"] (defScope s_law_purse) := ⟨rfl, rfl, rfl, by decide +kernel, rfl, by decide +kernel, by decide +kernel⟩
theorem ok_law_purse (T : Tx K mg A FD) : FnOk P w K mg base CX0 1 (A 24) (FD 24) ["_law_script", "_law_k"] (sp_law_purse K) := by
  refine T.d24.fn.ok sc_law_purse (fun vs H Q E h => ?_) (fun cdv Ar outer s H vs Q E hr h => ?_)
  · obtain ⟨F, os, v__law_script, x__law_script, x__law_k, rfl, _⟩ := h
    rfl
  · obtain ⟨F0, os, v__law_script, x__law_script, x__law_k, rfl, w0, r__law_script, hm⟩ := h
    have sF : Same F0 F0 := Same.refl _
    obtain ⟨a1, rfl, q1⟩ := r__law_script
    have h1 : A2 (rep K F0) (x__law_script.l.map V.int) x__law_script.l := A2.of_ints
    refine ⟨_, (pss_cons (ps_set (i := 2) sc_law_purse.nd rfl (Or.inl rfl) pe_int1) (pss_cons (ps_if (pt_cmp (pc_lt (pv 1) (pe_callB (call_lenN (K := K) rfl) (by rfl) T.n_len (by decide +kernel) (pa_cons (pv 0) pa_nil)))) (pss_one (ps_set (i := 2) sc_law_purse.nd rfl (Or.inl rfl) (pe_ix (ix_listK (K := K) rfl) (pv 0) (pv 1) (fun _ _ => rfl)))) (pss_one (ps_if (pt_cmpR (op_neDt (K := K) rfl Scr (by decide) hr.units) (pv 0) (pe_lst pa_nil) (nomark _)) (pss_one (ps_set (i := 2) sc_law_purse.nd rfl (Or.inl rfl) (pe_op op_add (pe_op op_mod (pe_ix (ix_listK (K := K) rfl) (pv 0) (pe_op op_mod (pv 1) (pe_callB (call_lenN (K := K) rfl) (by rfl) T.n_len (by decide +kernel) (pa_cons (pv 0) pa_nil))) (fun _ _ => rfl)) pe_int) (pe_op op_mul pe_int (pv 1))))) pss_nil))) (pss_cons (ps_if (pt_cmp (pc_ge (pv 2) (pe_op op_pow pe_int pe_int))) (pss_one (ps_ret (pe_lst (pa_cons (pv 2) pa_nil)))) pss_nil) (pss_cons (ps_set (i := 3) sc_law_purse.nd rfl (Or.inl rfl) (pe_op op_mod (pe_op op_sq (pe_op op_add (pe_op op_add (pe_op op_mod (pv 2) (pe_op op_add (pe_op op_pow pe_int pe_int) pe_int)) (pe_op op_mul pe_int (pv 1))) pe_int) pe_int) (pe_op op_add (pe_op op_pow pe_int pe_int) pe_int))) (pss_one (ps_ret (pe_lst (pa_cons (pe_op op_mod (pe_op op_mulW4 (pe_op op_add (pe_op op_add (pv 3) (pe_op op_mul pe_int (pv 1))) pe_int) pe_int) (pe_op op_add (pe_op op_pow pe_int pe_int) pe_int)) pa_nil)))))))), ?_⟩
    refine ⟨trivial, ?_⟩
    refine stepN ?_
    try dsimp only
    refine joinS hm (fun (g2 : Int) σ H' => ∃ (F' : Hp), σ = [some (.ref a1), some (.int x__law_k), some (.int g2), none] ∧ Same F0 F' ∧ W F' H' (os)) ?_ ?_
    · intro N2 P2 hN2 hm
      refine ⟨_, rfl, _, rfl, _, _, _, rfl, .inl (w0.same.seq q1), h1.length, _, _, rfl, rfl, _, rfl, ?_⟩
      refine post_ite hm (fun k3 hm => ?_) (fun k3 hm => ?_)
      · skip
        obtain ⟨t4, e4, hm⟩ := pb_get hm
        obtain ⟨u4, f4, r4⟩ := A2.at h1 e4
        obtain rfl : u4 = V.int t4 := r4
        exact ⟨_, rfl, _, rfl, _, _, _, _, rfl, rfl, w0.same.seq q1, f4, hN2 _ (post_ok hm) _ _ ⟨_, rfl, Same.refl _, w0⟩⟩
      · skip
        have h5 : A2 (rep K F0) [] ([] : (List Int)) := .nil
        refine ⟨_, rfl, (by show 0 ≤ sizeLine; decide), fun p6 n6 => ?_⟩
        have w6 : W F0 _ ((p6, .lst []) :: os) := w0.new n6
        refine ⟨(x__law_script : Scr), (⟨([] : (List Int))⟩ : Scr), (Rep.mono w6.same ⟨_, rfl, q1⟩), ⟨_, rfl, SqL.of (w6.get (pre := []))⟩, _, rfl, ?_⟩
        have w7 : W F0 _ (os) := w6.drop (pre := [])
        refine post_ite hm (fun k8 hm => ?_) (fun k8 hm => ?_)
        · skip
          obtain ⟨c9, hm⟩ := pb_mod hm
          obtain ⟨t10, e10, hm⟩ := pb_get hm
          obtain ⟨u10, f10, r10⟩ := A2.at h1 e10
          obtain rfl : u10 = V.int t10 := r10
          exact ⟨_, rfl, _, rfl, _, rfl, _, _, _, rfl, .inl (w7.same.seq q1), h1.length, _, _, rfl, rfl, c9, _, _, _, _, rfl, rfl, w7.same.seq q1, f10, _, _, rfl, rfl, (by show (0 : Int) < (1000003 : Int); decide), _, rfl, _, _, rfl, rfl, (.inl (by constructor <;> decide)), _, _, rfl, rfl, hN2 _ (post_ok hm) _ _ ⟨_, rfl, Same.refl _, w7⟩⟩
        · skip
          exact hN2 _ (post_ok hm) _ _ ⟨_, rfl, Same.refl _, w7⟩
    intro g2 σ2 H2 hI hm
    obtain ⟨F2, rfl, s2, w2⟩ := hI
    replace h1 := A2.mono s2 h1
    replace q1 := s2.seq q1
    replace sF := sF.trans s2
    refine ⟨_, rfl, _, _, rfl, rfl, (by refine ⟨?_, ?_, ?_⟩ <;> decide), _, _, rfl, rfl, _, rfl, ?_⟩
    refine post_ite hm (fun k14 hm => ?_) (fun k14 hm => ?_)
    · skip
      have h15 : A2 (rep K F2) [(.int g2)] ([g2] : (List Int)) := .cons rep_i (.nil)
      refine ⟨_, rfl, (by show 1 ≤ sizeLine; decide), fun p16 n16 => ?_⟩
      have w16 : W F2 _ ((p16, .lst [(.int g2)]) :: os) := w2.new n16
      exact (post_ok hm) _ _ _ _ w16 sF h15
    · skip
      obtain ⟨c20, hm⟩ := pb_sq hm
      obtain ⟨c24, hm⟩ := pb_mulW hm
      have h27 : A2 (rep K F2) [(.int (((((((((g2 % (((10 : Int) ^ ((30 : Int) : Int).toNat) + (57 : Int))) + ((7919 : Int) * x__law_k)) + (101 : Int)) ^ (2 : Int).toNat) % (((10 : Int) ^ ((30 : Int) : Int).toNat) + (57 : Int))) + ((977 : Int) * x__law_k)) + (5 : Int)) * (618033988749894848204586834365 : Int)) % (((10 : Int) ^ ((30 : Int) : Int).toNat) + (57 : Int))))] ([(((((((((g2 % (((10 : Int) ^ ((30 : Int) : Int).toNat) + (57 : Int))) + ((7919 : Int) * x__law_k)) + (101 : Int)) ^ (2 : Int).toNat) % (((10 : Int) ^ ((30 : Int) : Int).toNat) + (57 : Int))) + ((977 : Int) * x__law_k)) + (5 : Int)) * (618033988749894848204586834365 : Int)) % (((10 : Int) ^ ((30 : Int) : Int).toNat) + (57 : Int)))] : (List Int)) := .cons rep_i (.nil)
      refine ⟨_, rfl, _, _, rfl, rfl, (by refine ⟨?_, ?_, ?_⟩ <;> decide), _, _, rfl, rfl, _, _, rfl, rfl, (by show (0 : Int) < (((10 : Int) ^ ((30 : Int) : Int).toNat) + (57 : Int)); decide), _, rfl, _, _, rfl, rfl, (.inl (by constructor <;> decide)), _, _, rfl, rfl, _, _, rfl, rfl, _, _, rfl, rfl, ⟨rfl, c20⟩, _, _, rfl, rfl, (by refine ⟨?_, ?_, ?_⟩ <;> decide), _, _, rfl, rfl, _, _, rfl, rfl, (by show (0 : Int) < (((10 : Int) ^ ((30 : Int) : Int).toNat) + (57 : Int)); decide), _, rfl, _, rfl, _, _, rfl, rfl, (.inl (by constructor <;> decide)), _, _, rfl, rfl, _, _, rfl, rfl, _, _, rfl, rfl, c24, _, _, rfl, rfl, (by refine ⟨?_, ?_, ?_⟩ <;> decide), _, _, rfl, rfl, _, _, rfl, rfl, (by show (0 : Int) < (((10 : Int) ^ ((30 : Int) : Int).toNat) + (57 : Int)); decide), (by show 1 ≤ sizeLine; decide), fun p28 n28 => ?_⟩
      have w28 : W F2 _ ((p28, .lst [(.int (((((((((g2 % (((10 : Int) ^ ((30 : Int) : Int).toNat) + (57 : Int))) + ((7919 : Int) * x__law_k)) + (101 : Int)) ^ (2 : Int).toNat) % (((10 : Int) ^ ((30 : Int) : Int).toNat) + (57 : Int))) + ((977 : Int) * x__law_k)) + (5 : Int)) * (618033988749894848204586834365 : Int)) % (((10 : Int) ^ ((30 : Int) : Int).toNat) + (57 : Int))))]) :: os) := w2.new n28
      exact (post_ok hm) _ _ _ _ w28 sF h27
def sp_law_take (K : Fg) : Sp := fun vs H Q E => ∃ (F : Hp) (os : List (Addr × HO)) (a__law_purse_here : Addr) (vs__law_purse_here : List V) (x__law_purse_here : (List Int)) (x__law_many : Int), vs = [.ref a__law_purse_here, .int x__law_many] ∧ W F H ((a__law_purse_here, .lst vs__law_purse_here) :: os) ∧ A2 (rep K F) vs__law_purse_here x__law_purse_here ∧ Post (law_take x__law_purse_here x__law_many) (RetM K F a__law_purse_here os Q) noX
theorem sc_law_take : FnScope ["_law_purse_here", "_law_many", "_law_found"] ["_law_purse_here", "_law_many"] (defScope s_law_take) := ⟨rfl, rfl, rfl, by decide +kernel, rfl, by decide +kernel, by decide +kernel⟩
theorem ok_law_take (T : Tx K mg A FD) : FnOk P w K mg base CX0 1 (A 25) (FD 25) ["_law_purse_here", "_law_many"] (sp_law_take K) := by
  refine T.d25.fn.ok sc_law_take (fun vs H Q E h => ?_) (fun cdv Ar outer s H vs Q E hr h => ?_)
  · obtain ⟨F, os, a__law_purse_here, vs__law_purse_here, x__law_purse_here, x__law_many, rfl, _⟩ := h
    rfl
  · obtain ⟨F0, os, a__law_purse_here, vs__law_purse_here, x__law_purse_here, x__law_many, rfl, w0, h__law_purse_here, hm⟩ := h
    have sF : Same F0 F0 := Same.refl _
    refine ⟨_, (pss_cons (ps_set (i := 2) sc_law_take.nd rfl (Or.inl rfl) (pe_op op_mod (pe_ix (ix_listK (K := K) rfl) (pv 0) pe_int (fun _ _ => rfl)) (pv 1))) (pss_cons (ps_asg (pe_op op_fdivW (pe_ix (ix_listK (K := K) rfl) (pv 0) pe_int (fun _ _ => rfl)) (pv 1)) (pg_sub (pv 0) pe_int set_list)) (pss_one (ps_ret (pv 2))))), ?_⟩
    obtain ⟨t2, e2, hm⟩ := pb_get hm
    obtain ⟨u2, f2, r2⟩ := A2.at h__law_purse_here e2
    obtain rfl : u2 = V.int t2 := r2
    obtain ⟨c3, hm⟩ := pb_mod hm
    obtain ⟨t4, e4, hm⟩ := pb_get hm
    obtain ⟨u4, f4, r4⟩ := A2.at h__law_purse_here e4
    obtain rfl : u4 = V.int t4 := r4
    obtain ⟨c5, hm⟩ := pb_div hm
    obtain ⟨j6, l6, z6, e6, hm⟩ := pn_set hm
    refine ⟨_, rfl, _, _, _, _, rfl, rfl, SqL.of (w0.get (pre := [])), f2, _, rfl, _, _, rfl, rfl, c3, _, rfl, _, _, _, _, rfl, rfl, SqL.of (w0.get (pre := [])), f4, _, rfl, _, _, rfl, rfl, c5, _, rfl, _, _, _, _, rfl, rfl, (w0.get (pre := [])), (A2.ix h__law_purse_here z6), ?_⟩
    have h6 : A2 (rep K F0) (vs__law_purse_here.set j6 (V.int (t4 / x__law_many))) l6 := e6 ▸ A2.set rep_i j6 h__law_purse_here
    have w7 : W F0 _ ((a__law_purse_here, .lst (vs__law_purse_here.set j6 (V.int (t4 / x__law_many)))) :: os) := w0.set (pre := [])
    exact ⟨_, rfl, (post_ok hm) _ _ _ _ w7 sF rep_i h6⟩
def sp_law_order (K : Fg) : Sp := fun vs H Q E => ∃ (F : Hp) (os : List (Addr × HO)) (a__law_purse_here : Addr) (vs__law_purse_here : List V) (x__law_purse_here : (List Int)) (x__law_many : Int), vs = [.ref a__law_purse_here, .int x__law_many] ∧ W F H ((a__law_purse_here, .lst vs__law_purse_here) :: os) ∧ A2 (rep K F) vs__law_purse_here x__law_purse_here ∧ Post (law_order x__law_purse_here x__law_many) (RetLM K F a__law_purse_here os Q) noX
theorem sc_law_order : FnScope ["_law_purse_here", "_law_many", "_law_found", "_law_k"] ["_law_purse_here", "_law_many"] (defScope s_law_order) := ⟨rfl, rfl, rfl, by decide +kernel, rfl, by decide +kernel, by decide +kernel⟩
theorem ok_law_order (T : Tx K mg A FD) : FnOk P w K mg base CX0 2 (A 26) (FD 26) ["_law_purse_here", "_law_many"] (sp_law_order K) := by
  refine T.d26.fn.ok sc_law_order (fun vs H Q E h => ?_) (fun cdv Ar outer s H vs Q E hr h => ?_)
  · obtain ⟨F, os, a__law_purse_here, vs__law_purse_here, x__law_purse_here, x__law_many, rfl, _⟩ := h
    rfl
  · obtain ⟨F0, os, a__law_purse_here, vs__law_purse_here, x__law_purse_here, x__law_many, rfl, w0, h__law_purse_here, hm⟩ := h
    have sF : Same F0 F0 := Same.refl _
    refine ⟨_, (pss_cons (ps_set (i := 2) sc_law_order.nd rfl (Or.inl rfl) (pe_lst pa_nil)) (pss_cons (ps_for PassesOwn.never rfl (pi_range1 (by rfl) T.n_range (pa_cons (pv 1) pa_nil)) (pg_name (i := 3) sc_law_order.nd rfl (Or.inl rfl)) (pss_one (ps_expr (pe_bm PySem.F.plainAttrs_list PySem.F.slot_list_insert PySem.F.type_list_insert mt_insert (pv 2) (pa_cons (pe_call (ok_law_take T) (hr.mono (by decide)) (by rfl) T.d25.mg T.d25.fn.kp T.d25.b .nil pass0 (pa_cons (pv 0) (pa_cons (pe_op op_add (pv 3) pe_int) pa_nil))) (pa_cons (pv 3) pa_nil)))))) (pss_one (ps_ret (pv 2))))), ?_⟩
    have h2 : A2 (rep K F0) [] ([] : (List Int)) := .nil
    refine ⟨(by show 0 ≤ sizeLine; decide), fun p3 n3 => ?_⟩
    have w3 : W F0 _ ((p3, .lst []) :: (a__law_purse_here, .lst vs__law_purse_here) :: os) := w0.new n3
    obtain ⟨c5, hm⟩ := pb_rng hm
    refine ⟨_, rfl, _, rfl, c5.2.2.1, c5.2.2.2, ?_⟩
    refine forS (tw_rng0 (j := x__law_many)) hm (fun (g4 : (List Int) × (List Int)) σ H' => ∃ (F' : Hp) (vs4_0 : List V) (vs4_1 : List V) (o4_3 : Option V), σ = [some (.ref a__law_purse_here), some (.int x__law_many), some (.ref p3), o4_3] ∧ Same F0 F' ∧ W F' H' ((p3, .lst vs4_0) :: (a__law_purse_here, .lst vs4_1) :: os) ∧ A2 (rep K F') vs4_0 g4.1 ∧ A2 (rep K F') vs4_1 g4.2) ⟨_, _, _, _, rfl, Same.refl _, w3, h2, h__law_purse_here⟩ (fun _ _ _ _ => trivial) ?_ ?_
    · -- a turn
      intro b4 g4 x4 σ4 H4 H4' N4 P4 hI hy hN4 hm
      obtain ⟨F4, vs4_0, vs4_1, o4_3, rfl, s4, w4, h4_0, h4_1⟩ := hI
      replace sF := sF.trans s4
      obtain ⟨rfl, rfl⟩ := hy
      have w6 : W F4 _ ((a__law_purse_here, .lst vs4_1) :: (p3, .lst vs4_0) :: os) := w4.front (pre := [_])
      refine ⟨_, rfl, .inl ⟨rfl, _, SqL.of (w4.get (pre := []))⟩, _, rfl, _, rfl, _, _, rfl, rfl, _, _, _, _, _, _, rfl, w6, h4_1, ?_⟩
      refine (post_bind hm).mono (fun y7 hm v7 vs7 F7 H7 w7 s7 r7 h7 => ?_) (fun _ z => z)
      replace h4_0 := A2.mono s7 h4_0
      replace sF := sF.trans s7
      obtain rfl : v7 = V.int y7.1 := r7
      obtain ⟨l8, z8, e8, hm⟩ := pn_ins hm
      refine ⟨_, rfl, _, _, _, _, rfl, rfl, (w7.get (pre := [_])), (line_ins h4_0 z8.1), z8.2.1, (by have := z8.2.2; omega), ?_⟩
      have h8 : A2 (rep K F7) (vs4_0.take y7.1.toNat ++ [(.int b4)] ++ vs4_0.drop y7.1.toNat) l8 := e8 ▸ A2.ins _ h4_0 rep_i
      have w9 : W F7 _ ((a__law_purse_here, .lst vs7) :: (p3, .lst (vs4_0.take y7.1.toNat ++ [(.int b4)] ++ vs4_0.drop y7.1.toNat)) :: os) := w7.set (pre := [_])
      have w10 : W F7 _ ((p3, .lst (vs4_0.take y7.1.toNat ++ [(.int b4)] ++ vs4_0.drop y7.1.toNat)) :: (a__law_purse_here, .lst vs7) :: os) := w9.front (pre := [_])
      exact hN4 _ (post_ok hm) _ _ ⟨_, _, _, _, rfl, (s4.trans s7), w10, h8, h7⟩
    intro g4 σ4 H4 hI hm
    obtain ⟨F4, vs4_0, vs4_1, o4_3, rfl, s4, w4, h4_0, h4_1⟩ := hI
    replace sF := sF.trans s4
    exact ⟨_, rfl, (post_ok hm) _ _ _ _ _ w4 sF h4_0 h4_1⟩
def sp_law_pairs (K : Fg) : Sp := fun vs H Q E => ∃ (F : Hp) (os : List (Addr × HO)) (a__law_purse_here : Addr) (vs__law_purse_here : List V) (x__law_purse_here : (List Int)) (x__law_many : Int) (x__law_way : Int), vs = [.ref a__law_purse_here, .int x__law_many, .int x__law_way] ∧ W F H ((a__law_purse_here, .lst vs__law_purse_here) :: os) ∧ A2 (rep K F) vs__law_purse_here x__law_purse_here ∧ Post (law_pairs x__law_purse_here x__law_many x__law_way) (RetLM K F a__law_purse_here os Q) noX
theorem sc_law_pairs : FnScope ["_law_purse_here", "_law_many", "_law_way", "_law_found", "_law_k", "_law_near", "_law_one", "_law_other"] ["_law_purse_here", "_law_many", "_law_way"] (defScope s_law_pairs) := ⟨rfl, rfl, rfl, by decide +kernel, rfl, by decide +kernel, by decide +kernel⟩
theorem ok_law_pairs (T : Tx K mg A FD) : FnOk P w K mg base CX0 2 (A 27) (FD 27) ["_law_purse_here", "_law_many", "_law_way"] (sp_law_pairs K) := by
  refine T.d27.fn.ok sc_law_pairs (fun vs H Q E h => ?_) (fun cdv Ar outer s H vs Q E hr h => ?_)
  · obtain ⟨F, os, a__law_purse_here, vs__law_purse_here, x__law_purse_here, x__law_many, x__law_way, rfl, _⟩ := h
    rfl
  · obtain ⟨F0, os, a__law_purse_here, vs__law_purse_here, x__law_purse_here, x__law_many, x__law_way, rfl, w0, h__law_purse_here, hm⟩ := h
    have sF : Same F0 F0 := Same.refl _
    refine ⟨_, (pss_cons (ps_set (i := 3) sc_law_pairs.nd rfl (Or.inl rfl) (pe_lst pa_nil)) (pss_cons (ps_for PassesOwn.never rfl (pi_range2 (by rfl) T.n_range (pa_cons pe_int (pa_cons (pv 1) pa_nil))) (pg_name (i := 4) sc_law_pairs.nd rfl (Or.inr rfl)) (pss_cons (ps_set (i := 5) sc_law_pairs.nd rfl (Or.inl rfl) (pe_call (ok_law_take T) (hr.mono (by decide)) (by rfl) T.d25.mg T.d25.fn.kp T.d25.b .nil pass0 (pa_cons (pv 0) (pa_cons (pv 4) pa_nil)))) (pss_cons (ps_expr (pe_bm PySem.F.plainAttrs_list PySem.F.slot_list_append PySem.F.type_list_append mt_append (pv 3) (pa_cons (pe_tup (pa_cons (pe_ix (ix_listK (K := K) rfl) (pe_lst (pa_cons (pe_op op_sub (pv 4) pe_int) (pa_cons (pe_op op_sub (pv 4) pe_int) (pa_cons pe_int (pa_cons (pv 5) pa_nil))))) (pe_callB (call_min2 rfl) (by rfl) T.n_min (by decide +kernel) (pa_cons (pv 2) (pa_cons pe_int pa_nil))) (fun _ _ => rfl)) (pa_cons (pv 4) pa_nil))) pa_nil))) (pss_one (ps_if (pt_cmp (pc_eqI (pv 2) pe_int)) (pss_one (ps_expr (pe_bm PySem.F.plainAttrs_list PySem.F.slot_list_extend PySem.F.type_list_extend mt_extend (pv 3) (pa_cons (pe_lc (own := [("_law_one", 6)]) (g := gName 6) (by rfl) sc_law_pairs.nd (pi_range1 (by rfl) T.n_range (pa_cons (pv 4) pa_nil)) (blkOk_by (own := [("_law_one", 6)]) (N := ["_law_purse_here", "_law_many", "_law_way", "_law_found", "_law_k", "_law_near", "_law_one", "_law_other"]) (sc := defScope s_law_pairs) (by decide +kernel)) (fun _ _ _ _ _ => (pg_name (i := 6) sc_law_pairs.nd rfl (Or.inl rfl))) (fun _ _ _ _ _ => pts_nil) (fun _ _ _ _ _ => (pe_tup (pa_cons (pv 6) (pa_cons (pv 4) pa_nil))))) pa_nil)))) pss_nil))))) (pss_cons (ps_if (PW.pt (pw_and (pt_cmp (pc_eqI (pv 2) pe_int)) (pw_and1 (pt_cmp (pc_gt (pv 1) pe_int))))) (pss_one (ps_expr (pe_bm PySem.F.plainAttrs_list PySem.F.slot_list_append PySem.F.type_list_append mt_append (pv 3) (pa_cons (pe_tup (pa_cons pe_int (pa_cons (pe_op op_sub (pv 1) pe_int) pa_nil))) pa_nil)))) pss_nil) (pss_cons (ps_if (pt_cmp (pc_gt (pv 2) pe_int)) (pss_one (ps_for PassesOwn.never rfl (pi_range1 (by rfl) T.n_range (pa_cons (pe_call (ok_law_take T) (hr.mono (by decide)) (by rfl) T.d25.mg T.d25.fn.kp T.d25.b .nil pass0 (pa_cons (pv 0) (pa_cons pe_int pa_nil))) pa_nil)) (pg_name (i := 4) sc_law_pairs.nd rfl (Or.inr rfl)) (pss_cons (ps_set (i := 6) sc_law_pairs.nd rfl (Or.inl rfl) (pe_call (ok_law_take T) (hr.mono (by decide)) (by rfl) T.d25.mg T.d25.fn.kp T.d25.b .nil pass0 (pa_cons (pv 0) (pa_cons (pv 1) pa_nil)))) (pss_cons (ps_set (i := 7) sc_law_pairs.nd rfl (Or.inl rfl) (pe_call (ok_law_take T) (hr.mono (by decide)) (by rfl) T.d25.mg T.d25.fn.kp T.d25.b .nil pass0 (pa_cons (pv 0) (pa_cons (pv 1) pa_nil)))) (pss_one (ps_expr (pe_bm PySem.F.plainAttrs_list PySem.F.slot_list_extend PySem.F.type_list_extend mt_extend (pv 3) (pa_cons (pe_op op_rep (pe_lst (pa_cons (pe_tup (pa_cons (pv 6) (pa_cons (pv 7) pa_nil))) pa_nil)) (pe_callTy call_intB (by rfl) T.n_int (by decide +kernel) (pa_cons (pe_cmp (pc_neI (pv 6) (pv 7))) pa_nil))) pa_nil)))))))) pss_nil) (pss_one (ps_ret (pv 3))))))), ?_⟩
    have h2 : A2 (rep K F0) [] ([] : (List (Int × Int))) := .nil
    refine ⟨(by show 0 ≤ sizeLine; decide), fun p3 n3 => ?_⟩
    have w3 : W F0 _ ((p3, .lst []) :: (a__law_purse_here, .lst vs__law_purse_here) :: os) := w0.new n3
    obtain ⟨c5, hm⟩ := pb_rng hm
    refine ⟨_, rfl, _, _, rfl, c5, ?_⟩
    refine forS (tw_rng (i := (1 : Int)) (j := x__law_many)) hm (fun (g4 : (List (Int × Int)) × (List Int)) σ H' => ∃ (F' : Hp) (vs4_0 : List V) (vs4_1 : List V) (o4_5 : Option V) (o4_4 : Option V), σ = [some (.ref a__law_purse_here), some (.int x__law_many), some (.int x__law_way), some (.ref p3), o4_4, o4_5, none, none] ∧ Same F0 F' ∧ W F' H' ((p3, .lst vs4_0) :: (a__law_purse_here, .lst vs4_1) :: os) ∧ A2 (rep K F') vs4_0 g4.1 ∧ A2 (rep K F') vs4_1 g4.2) ⟨_, _, _, _, _, rfl, Same.refl _, w3, h2, h__law_purse_here⟩ (fun _ _ _ _ => trivial) ?_ ?_
    · -- a turn
      intro b4 g4 x4 σ4 H4 H4' N4 P4 hI hy hN4 hm
      obtain ⟨F4, vs4_0, vs4_1, o4_5, o4_4, rfl, s4, w4, h4_0, h4_1⟩ := hI
      replace sF := sF.trans s4
      obtain ⟨rfl, rfl⟩ := hy
      have w6 : W F4 _ ((a__law_purse_here, .lst vs4_1) :: (p3, .lst vs4_0) :: os) := w4.front (pre := [_])
      refine ⟨_, rfl, _, rfl, _, _, _, _, _, _, rfl, w6, h4_1, ?_⟩
      refine (post_bind hm).mono (fun y7 hm v7 vs7 F7 H7 w7 s7 r7 h7 => ?_) (fun _ z => z)
      replace h4_0 := A2.mono s7 h4_0
      replace sF := sF.trans s7
      obtain rfl : v7 = V.int y7.1 := r7
      have h8 : A2 (rep K F7) [(.int (b4 - (1 : Int))), (.int (b4 - (1 : Int))), (.int 0), (.int y7.1)] ([(b4 - (1 : Int)), (b4 - (1 : Int)), (0 : Int), y7.1] : (List Int)) := .cons rep_i (.cons rep_i (.cons rep_i (.cons rep_i (.nil))))
      refine ⟨_, rfl, .inl ⟨rfl, _, SqL.of (w7.get (pre := [_]))⟩, _, rfl, _, _, rfl, rfl, _, rfl, _, _, rfl, rfl, _, rfl, (by show 4 ≤ sizeLine; decide), fun p9 n9 => ?_⟩
      have w9 : W F7 _ ((p9, .lst [(.int (b4 - (1 : Int))), (.int (b4 - (1 : Int))), (.int 0), (.int y7.1)]) :: (a__law_purse_here, .lst vs7) :: (p3, .lst vs4_0) :: os) := w7.new n9
      obtain ⟨t10, e10, hm⟩ := pb_get hm
      obtain ⟨u10, f10, r10⟩ := A2.at h8 e10
      obtain rfl : u10 = V.int t10 := r10
      refine ⟨_, rfl, _, _, rfl, _, _, _, _, rfl, rfl, SqL.of (w9.get (pre := [])), f10, _, rfl, (by show 2 ≤ sizeLine; decide), fun p11 n11 => ?_⟩
      obtain ⟨F11, s11, w11, q11⟩ := w9.frzE (o := .tup [(.int t10), (.int b4)]) n11
      replace h7 := A2.mono s11 h7
      replace h4_0 := A2.mono s11 h4_0
      replace h8 := A2.mono s11 h8
      replace sF := sF.trans s11
      obtain ⟨l12, z12, e12, hm⟩ := pn_app hm
      refine ⟨_, _, _, rfl, rfl, (w11.get (pre := [_, _])), (A2.lt h4_0 z12), ?_⟩
      have h12 : A2 (rep K F11) (vs4_0 ++ [(V.ref p11)]) l12 := e12 ▸ A2.snoc h4_0 (rep_pair q11 rep_i rep_i)
      have w13 : W F11 _ ((p9, .lst [(.int (b4 - (1 : Int))), (.int (b4 - (1 : Int))), (.int 0), (.int y7.1)]) :: (a__law_purse_here, .lst vs7) :: (p3, .lst (vs4_0 ++ [(V.ref p11)])) :: os) := w11.set (pre := [_, _])
      have w14 : W F11 _ ((a__law_purse_here, .lst vs7) :: (p3, .lst (vs4_0 ++ [(V.ref p11)])) :: os) := w13.drop (pre := [])
      refine ⟨_, rfl, _, _, rfl, rfl, _, rfl, ?_⟩
      refine post_ite hm (fun k15 hm => ?_) (fun k15 hm => ?_)
      · skip
        obtain ⟨c16, hm⟩ := pb_rng hm
        refine ⟨_, rfl, .inl ⟨rfl, _, SqL.of (w14.get (pre := [_]))⟩, _, rfl, _, rfl, c16.2.2.1, c16.2.2.2, fun D17 nD17 => ?_⟩
        refine lcM (K := K) (tw_rng0 (j := b4)) hm w14 nD17 (fun F' H' acc s w => trivial) ?_ ?_
        · -- one turn
          intro b17 x17 F17 H17 H17' acc17 N17 P17 s17 w17 y17 hN17 hm
          replace h7 := A2.mono s17 h7
          replace h12 := A2.mono s17 h12
          replace sF := sF.trans s17
          obtain ⟨rfl, rfl⟩ := y17
          refine ⟨rfl, _, rfl, _, rfl, (by show 2 ≤ sizeLine; decide), fun p19 n19 => ?_⟩
          obtain ⟨F19, s19, w19, q19⟩ := w17.frzE (o := .tup [(.int b17), (.int b4)]) n19
          replace h7 := A2.mono s19 h7
          replace h12 := A2.mono s19 h12
          replace sF := sF.trans s19
          exact hN17 _ (post_ok hm) _ _ _ w19 s19 (rep_pair q19 rep_i rep_i)
        intro us17 F17 H17 ys17 s17 w17 gg17 hm
        replace h7 := A2.mono s17 h7
        replace h12 := A2.mono s17 h12
        replace sF := sF.trans s17
        obtain ⟨l21, z21, e21, hm⟩ := pn_extend hm
        refine ⟨_, _, _, _, rfl, rfl, (w17.get (pre := [_, _])), (w17.get (pre := [])), (A2.le2 h12 gg17 z21), ?_⟩
        have h21 : A2 (rep K F17) ((vs4_0 ++ [(V.ref p11)]) ++ us17) l21 := e21 ▸ A2.append h12 gg17
        have w22 : W F17 _ ((D17, .lst us17) :: (a__law_purse_here, .lst vs7) :: (p3, .lst ((vs4_0 ++ [(V.ref p11)]) ++ us17)) :: os) := w17.set (pre := [_, _])
        have w23 : W F17 _ ((a__law_purse_here, .lst vs7) :: (p3, .lst ((vs4_0 ++ [(V.ref p11)]) ++ us17)) :: os) := w22.drop (pre := [])
        have w24 : W F17 _ ((p3, .lst ((vs4_0 ++ [(V.ref p11)]) ++ us17)) :: (a__law_purse_here, .lst vs7) :: os) := w23.front (pre := [_])
        exact hN4 _ (post_ok hm) _ _ ⟨_, _, _, _, _, rfl, (s4.trans (s7.trans (s11.trans s17))), w24, h21, h7⟩
      · skip
        have w25 : W F11 _ ((p3, .lst (vs4_0 ++ [(V.ref p11)])) :: (a__law_purse_here, .lst vs7) :: os) := w14.front (pre := [_])
        exact hN4 _ (post_ok hm) _ _ ⟨_, _, _, _, _, rfl, (s4.trans (s7.trans s11)), w25, h12, h7⟩
    intro g4 σ4 H4 hI hm
    obtain ⟨F4, vs4_0, vs4_1, o4_5, o4_4, rfl, s4, w4, h4_0, h4_1⟩ := hI
    replace sF := sF.trans s4
    try dsimp only
    refine joinS hm (fun (g26 : (List (Int × Int))) σ H' => ∃ (F' : Hp) (vs26_0 : List V), σ = [some (.ref a__law_purse_here), some (.int x__law_many), some (.int x__law_way), some (.ref p3), o4_4, o4_5, none, none] ∧ Same F4 F' ∧ W F' H' ((p3, .lst vs26_0) :: (a__law_purse_here, .lst vs4_1) :: os) ∧ A2 (rep K F') vs26_0 g26) ?_ ?_
    · intro N26 P26 hN26 hm
      refine stepIf ?_
      refine cutT (fun c H' => c = (((decide (x__law_way = (1 : Int))) && (decide ((2 : Int) < x__law_many)))) ∧ ∃ F', Same F4 F' ∧ W F' H' ((p3, .lst vs4_0) :: (a__law_purse_here, .lst vs4_1) :: os)) (fun Q27 q27 => ?_) (fun c27 H27 hc27 => ?_)
      · -- the ways
        refine ⟨_, rfl, _, _, rfl, rfl, _, rfl, ?_⟩
        refine ifB (fun k28 => ?_) (fun k28 => ?_)
        · skip
          exact ⟨_, rfl, _, _, rfl, rfl, _, rfl, q27 _ _ ⟨(by first | rfl | exact absurd k28 (by decide) | (simp [k28]; done) | ((try simp only [Bool.not_eq_true] at k28); simp only [k28, Bool.true_or, Bool.false_or, Bool.or_false, Bool.or_true, Bool.true_and, Bool.false_and, Bool.and_true, Bool.and_false])), _, Same.refl _, w4⟩⟩
        · skip
          exact q27 _ _ ⟨(by first | rfl | exact absurd k28 (by decide) | (simp [k28]; done) | ((try simp only [Bool.not_eq_true] at k28); simp only [k28, Bool.true_or, Bool.false_or, Bool.or_false, Bool.or_true, Bool.true_and, Bool.false_and, Bool.and_true, Bool.and_false])), _, Same.refl _, w4⟩
      obtain ⟨rfl, F27, s27, w27⟩ := hc27
      replace h4_0 := A2.mono s27 h4_0
      replace h4_1 := A2.mono s27 h4_1
      replace sF := sF.trans s27
      refine post_ite hm (fun k31 hm => ?_) (fun k31 hm => ?_)
      · skip
        refine ⟨_, rfl, .inl ⟨rfl, _, SqL.of (w27.get (pre := []))⟩, _, rfl, _, _, rfl, rfl, (by show 2 ≤ sizeLine; decide), fun p32 n32 => ?_⟩
        obtain ⟨F32, s32, w32, q32⟩ := w27.frzE (o := .tup [(.int 0), (.int (x__law_many - (1 : Int)))]) n32
        replace h4_0 := A2.mono s32 h4_0
        replace h4_1 := A2.mono s32 h4_1
        replace sF := sF.trans s32
        obtain ⟨l33, z33, e33, hm⟩ := pn_app hm
        refine ⟨_, _, _, rfl, rfl, (w32.get (pre := [])), (A2.lt h4_0 z33), ?_⟩
        have h33 : A2 (rep K F32) (vs4_0 ++ [(V.ref p32)]) l33 := e33 ▸ A2.snoc h4_0 (rep_pair q32 rep_i rep_i)
        have w34 : W F32 _ ((p3, .lst (vs4_0 ++ [(V.ref p32)])) :: (a__law_purse_here, .lst vs4_1) :: os) := w32.set (pre := [])
        exact hN26 _ (post_ok hm) _ _ ⟨_, _, rfl, (s27.trans s32), w34, h33⟩
      · skip
        exact hN26 _ (post_ok hm) _ _ ⟨_, _, rfl, s27, w27, h4_0⟩
    intro g26 σ26 H26 hI hm
    obtain ⟨F26, vs26_0, rfl, s26, w26, h26_0⟩ := hI
    replace h4_1 := A2.mono s26 h4_1
    replace sF := sF.trans s26
    try dsimp only
    refine joinS hm (fun (g35 : (List (Int × Int)) × (List Int)) σ H' => ∃ (F' : Hp) (vs35_0 : List V) (vs35_1 : List V) (o35_4 : Option V) (o35_6 : Option V) (o35_7 : Option V), σ = [some (.ref a__law_purse_here), some (.int x__law_many), some (.int x__law_way), some (.ref p3), o35_4, o4_5, o35_6, o35_7] ∧ Same F26 F' ∧ W F' H' ((p3, .lst vs35_0) :: (a__law_purse_here, .lst vs35_1) :: os) ∧ A2 (rep K F') vs35_0 g35.1 ∧ A2 (rep K F') vs35_1 g35.2) ?_ ?_
    · intro N35 P35 hN35 hm
      refine ⟨_, rfl, _, _, rfl, rfl, _, rfl, ?_⟩
      refine post_ite hm (fun k36 hm => ?_) (fun k36 hm => ?_)
      · skip
        have w38 : W F26 _ ((a__law_purse_here, .lst vs4_1) :: (p3, .lst vs26_0) :: os) := w26.front (pre := [_])
        refine ⟨_, rfl, _, _, _, _, _, _, rfl, w38, h4_1, ?_⟩
        refine (post_bind hm).mono (fun y39 hm v39 vs39 F39 H39 w39 s39 r39 h39 => ?_) (fun _ z => z)
        replace h26_0 := A2.mono s39 h26_0
        replace sF := sF.trans s39
        obtain rfl : v39 = V.int y39.1 := r39
        obtain ⟨c40, hm⟩ := pb_rng hm
        refine ⟨_, rfl, c40.2.2.1, c40.2.2.2, ?_⟩
        refine forS (tw_rng0 (j := y39.1)) hm (fun (g37 : (List Int) × (List (Int × Int))) σ H' => ∃ (F' : Hp) (vs37_0 : List V) (vs37_1 : List V) (o37_6 : Option V) (o37_7 : Option V) (o37_4 : Option V), σ = [some (.ref a__law_purse_here), some (.int x__law_many), some (.int x__law_way), some (.ref p3), o37_4, o4_5, o37_6, o37_7] ∧ Same F39 F' ∧ W F' H' ((a__law_purse_here, .lst vs37_0) :: (p3, .lst vs37_1) :: os) ∧ A2 (rep K F') vs37_0 g37.1 ∧ A2 (rep K F') vs37_1 g37.2) ⟨_, _, _, _, _, _, rfl, Same.refl _, w39, h39, h26_0⟩ (fun _ _ _ _ => trivial) ?_ ?_
        · -- a turn
          intro b37 g37 x37 σ37 H37 H37' N37 P37 hI hy hN37 hm
          obtain ⟨F37, vs37_0, vs37_1, o37_6, o37_7, o37_4, rfl, s37, w37, h37_0, h37_1⟩ := hI
          replace sF := sF.trans s37
          obtain ⟨rfl, rfl⟩ := hy
          refine ⟨_, rfl, _, rfl, _, _, _, _, _, _, rfl, w37, h37_0, ?_⟩
          refine (post_bind hm).mono (fun y41 hm v41 vs41 F41 H41 w41 s41 r41 h41 => ?_) (fun _ z => z)
          replace h37_1 := A2.mono s41 h37_1
          replace sF := sF.trans s41
          obtain rfl : v41 = V.int y41.1 := r41
          refine ⟨_, rfl, _, rfl, _, _, _, _, _, _, rfl, w41, h41, ?_⟩
          refine (post_bind hm).mono (fun y42 hm v42 vs42 F42 H42 w42 s42 r42 h42 => ?_) (fun _ z => z)
          replace h37_1 := A2.mono s42 h37_1
          replace sF := sF.trans s42
          obtain rfl : v42 = V.int y42.1 := r42
          refine ⟨_, rfl, .inl ⟨rfl, _, SqL.of (w42.get (pre := [_]))⟩, _, rfl, _, rfl, (by show 2 ≤ sizeLine; decide), fun p43 n43 => ?_⟩
          obtain ⟨F43, s43, w43, q43⟩ := w42.frzE (o := .tup [(.int y41.1), (.int y42.1)]) n43
          replace h42 := A2.mono s43 h42
          replace h37_1 := A2.mono s43 h37_1
          replace sF := sF.trans s43
          have h44 : A2 (rep K F43) [(.ref p43)] ([(y41.1, y42.1)] : (List (Int × Int))) := .cons (rep_pair q43 rep_i rep_i) (.nil)
          refine ⟨(by show 1 ≤ sizeLine; decide), fun p45 n45 => ?_⟩
          have w45 : W F43 _ ((p45, .lst [(.ref p43)]) :: (a__law_purse_here, .lst vs42) :: (p3, .lst vs37_1) :: os) := w43.new n45
          obtain ⟨l46, z46, e46, hm⟩ := pb_rep hm
          have h46 : A2 (rep K F43) (List.replicate (b2i (!decide (y41.1 = y42.1))).toNat [(.ref p43)]).flatten l46 := e46 ▸ A2.flat h44 _
          refine ⟨_, rfl, _, rfl, _, _, rfl, rfl, _, rfl, _, _, _, rfl, rfl, (w45.get (pre := [])), z46.1, z46.2.1, (by rw [h44.length]; exact z46.2.2), fun p47 n47 => ?_⟩
          have w47 : W F43 _ ((p47, .lst (List.replicate (b2i (!decide (y41.1 = y42.1))).toNat [(.ref p43)]).flatten) :: (p45, .lst [(.ref p43)]) :: (a__law_purse_here, .lst vs42) :: (p3, .lst vs37_1) :: os) := w45.new n47
          obtain ⟨l48, z48, e48, hm⟩ := pn_extend hm
          refine ⟨_, _, _, _, rfl, rfl, (w47.get (pre := [_, _, _])), (w47.get (pre := [])), (A2.le2 h37_1 h46 z48), ?_⟩
          have h48 : A2 (rep K F43) (vs37_1 ++ (List.replicate (b2i (!decide (y41.1 = y42.1))).toNat [(.ref p43)]).flatten) l48 := e48 ▸ A2.append h37_1 h46
          have w49 : W F43 _ ((p47, .lst (List.replicate (b2i (!decide (y41.1 = y42.1))).toNat [(.ref p43)]).flatten) :: (p45, .lst [(.ref p43)]) :: (a__law_purse_here, .lst vs42) :: (p3, .lst (vs37_1 ++ (List.replicate (b2i (!decide (y41.1 = y42.1))).toNat [(.ref p43)]).flatten)) :: os) := w47.set (pre := [_, _, _])
          have w50 : W F43 _ ((p45, .lst [(.ref p43)]) :: (a__law_purse_here, .lst vs42) :: (p3, .lst (vs37_1 ++ (List.replicate (b2i (!decide (y41.1 = y42.1))).toNat [(.ref p43)]).flatten)) :: os) := w49.drop (pre := [])
          have w51 : W F43 _ ((a__law_purse_here, .lst vs42) :: (p3, .lst (vs37_1 ++ (List.replicate (b2i (!decide (y41.1 = y42.1))).toNat [(.ref p43)]).flatten)) :: os) := w50.drop (pre := [])
          exact hN37 _ (post_ok hm) _ _ ⟨_, _, _, _, _, _, rfl, (s37.trans (s41.trans (s42.trans s43))), w51, h42, h48⟩
        intro g37 σ37 H37 hI hm
        obtain ⟨F37, vs37_0, vs37_1, o37_6, o37_7, o37_4, rfl, s37, w37, h37_0, h37_1⟩ := hI
        replace sF := sF.trans s37
        have w52 : W F37 _ ((p3, .lst vs37_1) :: (a__law_purse_here, .lst vs37_0) :: os) := w37.front (pre := [_])
        exact hN35 _ (post_ok hm) _ _ ⟨_, _, _, _, _, _, rfl, (s39.trans s37), w52, h37_1, h37_0⟩
      · skip
        exact hN35 _ (post_ok hm) _ _ ⟨_, _, _, _, _, _, rfl, Same.refl _, w26, h26_0, h4_1⟩
    intro g35 σ35 H35 hI hm
    obtain ⟨F35, vs35_0, vs35_1, o35_4, o35_6, o35_7, rfl, s35, w35, h35_0, h35_1⟩ := hI
    replace sF := sF.trans s35
    exact ⟨_, rfl, (post_ok hm) _ _ _ _ _ w35 sF h35_0 h35_1⟩
def sp_law_web (K : Fg) : Sp := fun vs H Q E => ∃ (F : Hp) (os : List (Addr × HO)) (a__law_purse_here : Addr) (vs__law_purse_here : List V) (x__law_purse_here : (List Int)) (x__law_least : Int) (x__law_most : Int), vs = [.ref a__law_purse_here, .int x__law_least, .int x__law_most] ∧ W F H ((a__law_purse_here, .lst vs__law_purse_here) :: os) ∧ A2 (rep K F) vs__law_purse_here x__law_purse_here ∧ Post (law_web x__law_purse_here x__law_least x__law_most) (RetM K F a__law_purse_here os Q) noX
theorem sc_law_web : FnScope ["_law_purse_here", "_law_least", "_law_most", "_law_many", "_law_found", "_law_some", "_law_places", "_law_one", "_law_other", "_law_ends", "_law_tie"] ["_law_purse_here", "_law_least", "_law_most"] (defScope s_law_web) := ⟨rfl, rfl, rfl, by decide +kernel, rfl, by decide +kernel, by decide +kernel⟩
theorem ok_law_web (T : Tx K mg A FD) : FnOk P w K mg base CX0 3 (A 28) (FD 28) ["_law_purse_here", "_law_least", "_law_most"] (sp_law_web K) := by
  refine T.d28.fn.ok sc_law_web (fun vs H Q E h => ?_) (fun cdv Ar outer s H vs Q E hr h => ?_)
  · obtain ⟨F, os, a__law_purse_here, vs__law_purse_here, x__law_purse_here, x__law_least, x__law_most, rfl, _⟩ := h
    rfl
  · obtain ⟨F0, os, a__law_purse_here, vs__law_purse_here, x__law_purse_here, x__law_least, x__law_most, rfl, w0, h__law_purse_here, hm⟩ := h
    have sF : Same F0 F0 := Same.refl _
    refine ⟨_, (pss_cons (ps_set (i := 3) sc_law_web.nd rfl (Or.inl rfl) (pe_op op_add (pv 1) (pe_call (ok_law_take T) (hr.mono (by decide)) (by rfl) T.d25.mg T.d25.fn.kp T.d25.b .nil pass0 (pa_cons (pv 0) (pa_cons (pe_op op_sub (pe_op op_add (pv 2) pe_int) (pv 1)) pa_nil))))) (pss_cons (ps_set (i := 4) sc_law_web.nd rfl (Or.inl rfl) (pe_lst pa_nil)) (pss_cons (ps_set (i := 5) sc_law_web.nd rfl (Or.inl rfl) (pe_call (ok_law_pairs T) (hr.mono (by decide)) (by rfl) T.d27.mg T.d27.fn.kp T.d27.b .nil pass0 (pa_cons (pv 0) (pa_cons (pv 3) (pa_cons (pe_call (ok_law_take T) (hr.mono (by decide)) (by rfl) T.d25.mg T.d25.fn.kp T.d25.b .nil pass0 (pa_cons (pv 0) (pa_cons pe_int pa_nil))) pa_nil))))) (pss_cons (ps_set (i := 6) sc_law_web.nd rfl (Or.inl rfl) (pe_call (ok_law_order T) (hr.mono (by decide)) (by rfl) T.d26.mg T.d26.fn.kp T.d26.b .nil pass0 (pa_cons (pv 0) (pa_cons (pv 3) pa_nil)))) (pss_cons (ps_for PassesOwn.never rfl (pi_listK (K := K) rfl (pv 5)) (pg_k (K := K) (t := fun K => gTup K 2 _) rfl (pg_tup (n := 2) rfl (pgs_cons (pg_name (i := 7) sc_law_web.nd rfl (Or.inl rfl)) (pgs_cons (pg_name (i := 8) sc_law_web.nd rfl (Or.inl rfl)) pgs_nil)))) (pss_cons (ps_set (i := 9) sc_law_web.nd rfl (Or.inl rfl) (pe_tup (pa_cons (pe_ix (ix_listK (K := K) rfl) (pv 6) (pv 7) (fun _ _ => rfl)) (pa_cons (pe_ix (ix_listK (K := K) rfl) (pv 6) (pv 8) (fun _ _ => rfl)) pa_nil)))) (pss_cons (ps_set (i := 10) sc_law_web.nd rfl (Or.inl rfl) (pe_tup (pa_cons (pe_callB (cr_minT2 (K := K) rfl rfl) (by rfl) T.n_min (by decide +kernel) (pa_cons (pv 9) pa_nil)) (pa_cons (pe_callB (cr_maxT2 (K := K) rfl rfl) (by rfl) T.n_max (by decide +kernel) (pa_cons (pv 9) pa_nil)) pa_nil)))) (pss_one (ps_if (pt_cmpR (op_notInL (K := K) rfl (Int × Int) (by decide) (Room.units65 hr)) (pv 10) (pv 4) (by rfl)) (pss_one (ps_expr (pe_bm PySem.F.plainAttrs_list PySem.F.slot_list_append PySem.F.type_list_append mt_append (pv 4) (pa_cons (pv 10) pa_nil)))) pss_nil))))) (pss_one (ps_ret (pe_tup (pa_cons (pv 3) (pa_cons (pe_callTy (call_tuple_ofK (K := K) rfl) (by rfl) T.n_tuple (by decide +kernel) (pa_cons (pe_callB (cr_sortP (K := K) rfl) (by rfl) T.n_sorted (by decide +kernel) (pa_cons (pv 4) pa_nil)) pa_nil)) pa_nil)))))))))), ?_⟩
    refine ⟨_, rfl, _, rfl, _, rfl, _, _, rfl, rfl, _, rfl, _, _, rfl, rfl, _, _, _, _, _, _, rfl, w0, h__law_purse_here, ?_⟩
    refine (post_bind hm).mono (fun y2 hm v2 vs2 F2 H2 w2 s2 r2 h2 => ?_) (fun _ z => z)
    replace sF := sF.trans s2
    obtain rfl : v2 = V.int y2.1 := r2
    have h3 : A2 (rep K F2) [] ([] : (List (Int × Int))) := .nil
    refine ⟨_, _, rfl, rfl, (by show 0 ≤ sizeLine; decide), fun p4 n4 => ?_⟩
    have w4 : W F2 _ ((p4, .lst []) :: (a__law_purse_here, .lst vs2) :: os) := w2.new n4
    have w5 : W F2 _ ((a__law_purse_here, .lst vs2) :: (p4, .lst []) :: os) := w4.front (pre := [_])
    refine ⟨_, rfl, _, rfl, _, rfl, _, _, _, _, _, _, rfl, w5, h2, ?_⟩
    refine (post_bind hm).mono (fun y6 hm v6 vs6 F6 H6 w6 s6 r6 h6 => ?_) (fun _ z => z)
    replace h3 := A2.mono s6 h3
    replace sF := sF.trans s6
    obtain rfl : v6 = V.int y6.1 := r6
    refine ⟨_, _, _, _, _, _, _, rfl, w6, h6, ?_⟩
    refine (post_bind hm).mono (fun y7 hm p7 us7 vs7 F7 H7 w7 s7 g7 h7 => ?_) (fun _ z => z)
    replace h3 := A2.mono s7 h3
    replace sF := sF.trans s7
    obtain ⟨F9, s9, w9, q9⟩ : ∃ F', Same F7 F' ∧ W F' _ ((a__law_purse_here, .lst vs7) :: (p4, .lst []) :: os) ∧ F' p7 = some (.lst us7) := w7.freezeE (pre := [])
    replace h3 := A2.mono s9 h3
    replace h7 := A2.mono s9 h7
    replace g7 := A2.mono s9 g7
    replace sF := sF.trans s9
    refine ⟨_, rfl, _, rfl, _, _, _, _, _, _, rfl, w9, h7, ?_⟩
    refine (post_bind hm).mono (fun y10 hm p10 us10 vs10 F10 H10 w10 s10 g10 h10 => ?_) (fun _ z => z)
    replace g7 := A2.mono s10 g7
    replace q9 := s10 _ _ q9
    replace h3 := A2.mono s10 h3
    replace sF := sF.trans s10
    obtain ⟨F12, s12, w12, q12⟩ : ∃ F', Same F10 F' ∧ W F' _ ((a__law_purse_here, .lst vs10) :: (p4, .lst []) :: os) ∧ F' p10 = some (.lst us10) := w10.freezeE (pre := [])
    replace g7 := A2.mono s12 g7
    replace q9 := s12 _ _ q9
    replace h3 := A2.mono s12 h3
    replace h10 := A2.mono s12 h10
    replace g10 := A2.mono s12 g10
    replace sF := sF.trans s12
    refine ⟨_, rfl, _, rfl, ⟨_, SqL.of (w12.same _ _ q9)⟩, ?_⟩
    refine forS (tw_list (a := p7) g7) hm (fun (g13 : (List (Int × Int))) σ H' => ∃ (F' : Hp) (vs13_0 : List V) (o13_9 : Option V) (o13_10 : Option V) (o13_7 : Option V) (o13_8 : Option V), σ = [some (.ref a__law_purse_here), some (.int x__law_least), some (.int x__law_most), some (.int (x__law_least + y2.1)), some (.ref p4), some (.ref p7), some (.ref p10), o13_7, o13_8, o13_9, o13_10] ∧ Same F12 F' ∧ W F' H' ((a__law_purse_here, .lst vs10) :: (p4, .lst vs13_0) :: os) ∧ A2 (rep K F') vs13_0 g13) ⟨_, _, _, _, _, _, rfl, Same.refl _, w12, h3⟩ (fun g σ H' hI => by obtain ⟨F', _, _, _, _, _, _, s, w, _⟩ := hI; exact SqL.of (w.same _ _ (s _ _ q9))) ?_ ?_
    · -- a turn
      intro b13 g13 x13 σ13 H13 H13' N13 P13 hI hy hN13 hm
      obtain ⟨F13, vs13_0, o13_9, o13_10, o13_7, o13_8, rfl, s13, w13, h13_0⟩ := hI
      replace g7 := A2.mono s13 g7
      replace q9 := s13 _ _ q9
      replace g10 := A2.mono s13 g10
      replace q12 := s13 _ _ q12
      replace h10 := A2.mono s13 h10
      replace sF := sF.trans s13
      obtain ⟨rfl, r14⟩ := hy
      replace r14 := Rep.mono s13 r14
      obtain ⟨a15, u15, z15, rfl, q15, r15a, r15b⟩ := r14
      obtain rfl : u15 = V.int b13.1 := r15a
      obtain rfl : z15 = V.int b13.2 := r15b
      obtain ⟨t16, e16, hm⟩ := pb_get hm
      obtain ⟨u16, f16, r16⟩ := A2.at g10 e16
      obtain rfl : u16 = V.int t16 := r16
      obtain ⟨t17, e17, hm⟩ := pb_get hm
      obtain ⟨u17, f17, r17⟩ := A2.at g10 e17
      obtain rfl : u17 = V.int t17 := r17
      refine ⟨_, _, rfl, SqT.of (w13.same _ _ q15), rfl, _, _, rfl, _, _, rfl, rfl, _, rfl, _, rfl, _, _, _, _, rfl, rfl, SqL.of (w13.same _ _ q12), f16, _, rfl, _, rfl, _, _, _, _, rfl, rfl, SqL.of (w13.same _ _ q12), f17, (by show 2 ≤ sizeLine; decide), fun p18 n18 => ?_⟩
      obtain ⟨F18, s18, w18, q18⟩ := w13.frzE (o := .tup [(.int t16), (.int t17)]) n18
      replace g7 := A2.mono s18 g7
      replace q9 := s18 _ _ q9
      replace g10 := A2.mono s18 g10
      replace q12 := s18 _ _ q12
      replace h10 := A2.mono s18 h10
      replace h13_0 := A2.mono s18 h13_0
      replace sF := sF.trans s18
      refine ⟨_, rfl, _, _, _, rfl, SqT.of (w18.same _ _ q18), _, rfl, _, rfl, _, _, _, rfl, SqT.of (w18.same _ _ q18), _, rfl, (by show 2 ≤ sizeLine; decide), fun p19 n19 => ?_⟩
      obtain ⟨F19, s19, w19, q19⟩ := w18.frzE (o := .tup [(.int (min2 t16 t17)), (.int (max2 t16 t17))]) n19
      replace g7 := A2.mono s19 g7
      replace q9 := s19 _ _ q9
      replace g10 := A2.mono s19 g10
      replace q12 := s19 _ _ q12
      replace q18 := s19 _ _ q18
      replace h10 := A2.mono s19 h10
      replace h13_0 := A2.mono s19 h13_0
      replace sF := sF.trans s19
      refine ⟨_, rfl, _, rfl, (((min2 t16 t17), (max2 t16 t17)) : (Int × Int)), _, (Rep.mono w19.same (rep_pair q19 rep_i rep_i)), (rep_own (pre := [_]) w19 h13_0), _, rfl, ?_⟩
      refine post_ite hm (fun k20 hm => ?_) (fun k20 hm => ?_)
      · skip
        obtain ⟨l21, z21, e21, hm⟩ := pn_app hm
        refine ⟨_, rfl, .inl ⟨rfl, _, SqL.of (w19.get (pre := [_]))⟩, _, rfl, _, _, _, rfl, rfl, (w19.get (pre := [_])), (A2.lt h13_0 z21), ?_⟩
        have h21 : A2 (rep K F19) (vs13_0 ++ [(V.ref p19)]) l21 := e21 ▸ A2.snoc h13_0 (rep_pair q19 rep_i rep_i)
        have w22 : W F19 _ ((a__law_purse_here, .lst vs10) :: (p4, .lst (vs13_0 ++ [(V.ref p19)])) :: os) := w19.set (pre := [_])
        exact hN13 _ (post_ok hm) _ _ ⟨_, _, _, _, _, _, rfl, (s13.trans (s18.trans s19)), w22, h21⟩
      · skip
        exact hN13 _ (post_ok hm) _ _ ⟨_, _, _, _, _, _, rfl, (s13.trans (s18.trans s19)), w19, h13_0⟩
    intro g13 σ13 H13 hI hm
    obtain ⟨F13, vs13_0, o13_9, o13_10, o13_7, o13_8, rfl, s13, w13, h13_0⟩ := hI
    replace g7 := A2.mono s13 g7
    replace q9 := s13 _ _ q9
    replace g10 := A2.mono s13 g10
    replace q12 := s13 _ _ q12
    replace h10 := A2.mono s13 h10
    replace sF := sF.trans s13
    refine ⟨_, rfl, _, rfl, _, _, F13, g13, rfl, SqL.of (w13.get (pre := [_])), w13.same, h13_0, fun p23 us23 n23 h23 => ?_⟩
    have w23 : W F13 _ ((p23, .lst us23) :: (a__law_purse_here, .lst vs10) :: (p4, .lst vs13_0) :: os) := w13.new n23
    have h25 : A2 (rep K F13) us23 (sortP g13) := h23
    refine ⟨_, _, rfl, .inl ⟨SqL.of (w23.get (pre := [])), fun p26 n26 => ?_⟩⟩
    obtain ⟨F26, s26, w26, q26⟩ := w23.frzE (o := .tup us23) n26
    replace g7 := A2.mono s26 g7
    replace q9 := s26 _ _ q9
    replace g10 := A2.mono s26 g10
    replace q12 := s26 _ _ q12
    replace h10 := A2.mono s26 h10
    replace h13_0 := A2.mono s26 h13_0
    replace h23 := A2.mono s26 h23
    replace h25 := A2.mono s26 h25
    replace sF := sF.trans s26
    refine ⟨(by show 2 ≤ sizeLine; decide), fun p27 n27 => ?_⟩
    obtain ⟨F27, s27, w27, q27⟩ := w26.frzE (o := .tup [(.int (x__law_least + y2.1)), (.ref p26)]) n27
    replace g7 := A2.mono s27 g7
    replace q9 := s27 _ _ q9
    replace g10 := A2.mono s27 g10
    replace q12 := s27 _ _ q12
    replace h10 := A2.mono s27 h10
    replace h13_0 := A2.mono s27 h13_0
    replace h23 := A2.mono s27 h23
    replace h25 := A2.mono s27 h25
    replace q26 := s27 _ _ q26
    replace sF := sF.trans s27
    have w28 : W F27 _ ((a__law_purse_here, .lst vs10) :: (p4, .lst vs13_0) :: os) := w27.drop (pre := [])
    have w29 : W F27 _ ((a__law_purse_here, .lst vs10) :: os) := w28.drop (pre := [_])
    exact (post_ok hm) _ _ _ _ w29 sF (rep_pair q27 rep_i (rep_tup q26 h25)) h10
def sp_law_table (K : Fg) : Sp := fun vs H Q E => ∃ (F : Hp) (os : List (Addr × HO)) (v__law_web_here : V) (x__law_web_here : (Int × (Tup (Int × Int)))), vs = [v__law_web_here] ∧ W F H (os) ∧ rep K F v__law_web_here x__law_web_here ∧ Post (law_table x__law_web_here) (Ret K F os Q) noX
theorem sc_law_table : FnScope ["_law_web_here", "_law_found", "_law_place", "_law_row", "_law_step", "_law_one", "_law_other"] ["_law_web_here"] (defScope s_law_table) := ⟨rfl, rfl, rfl, by decide +kernel, rfl, by decide +kernel, by decide +kernel⟩
theorem ok_law_table (T : Tx K mg A FD) : FnOk P w K mg base CX0 1 (A 29) (FD 29) ["_law_web_here"] (sp_law_table K) := by
  refine T.d29.fn.ok sc_law_table (fun vs H Q E h => ?_) (fun cdv Ar outer s H vs Q E hr h => ?_)
  · obtain ⟨F, os, v__law_web_here, x__law_web_here, rfl, _⟩ := h
    rfl
  · obtain ⟨F0, os, v__law_web_here, x__law_web_here, rfl, w0, r__law_web_here, hm⟩ := h
    have sF : Same F0 F0 := Same.refl _
    obtain ⟨a1, u1, z1, rfl, q1, r1a, r1b⟩ := r__law_web_here
    obtain rfl : u1 = V.int x__law_web_here.1 := r1a
    obtain ⟨a2, vs2, rfl, q2, h2⟩ := r1b
    refine ⟨_, (pss_cons (ps_set (i := 1) sc_law_table.nd rfl (Or.inl rfl) (pe_lst pa_nil)) (pss_cons (ps_for PassesOwn.never rfl (pi_range1 (by rfl) T.n_range (pa_cons (pe_ix (ix_tupK (K := K) rfl) (pv 0) pe_int (fun _ _ => rfl)) pa_nil)) (pg_name (i := 2) sc_law_table.nd rfl (Or.inl rfl)) (pss_cons (ps_set (i := 3) sc_law_table.nd rfl (Or.inl rfl) (pe_op op_rep (pe_lst (pa_cons (pe_un un_neg pe_int) pa_nil)) (pe_ix (ix_tupK (K := K) rfl) (pv 0) pe_int (fun _ _ => rfl)))) (pss_cons (ps_asg pe_int (pg_sub (pv 3) (pv 2) set_list)) (pss_cons (ps_for PassesOwn.never rfl (pi_range1 (by rfl) T.n_range (pa_cons (pe_ix (ix_tupK (K := K) rfl) (pv 0) pe_int (fun _ _ => rfl)) pa_nil)) (pg_name (i := 4) sc_law_table.nd rfl (Or.inl rfl)) (pss_one (ps_for PassesOwn.never rfl (pi_tupK (K := K) rfl (pe_ix (ix_tupK (K := K) rfl) (pv 0) pe_int (fun _ _ => rfl))) (pg_k (K := K) (t := fun K => gTup K 2 _) rfl (pg_tup (n := 2) rfl (pgs_cons (pg_name (i := 5) sc_law_table.nd rfl (Or.inl rfl)) (pgs_cons (pg_name (i := 6) sc_law_table.nd rfl (Or.inl rfl)) pgs_nil)))) (pss_cons (ps_if (PW.pt (pw_and (pt_cmp (pc_eqI (pe_ix (ix_listK (K := K) rfl) (pv 3) (pv 5) (fun _ _ => rfl)) (pv 4))) (pw_and1 (pt_cmp (pc_lt (pe_ix (ix_listK (K := K) rfl) (pv 3) (pv 6) (fun _ _ => rfl)) pe_int))))) (pss_one (ps_asg (pe_op op_add (pv 4) pe_int) (pg_sub (pv 3) (pv 6) set_list))) pss_nil) (pss_one (ps_if (PW.pt (pw_and (pt_cmp (pc_eqI (pe_ix (ix_listK (K := K) rfl) (pv 3) (pv 6) (fun _ _ => rfl)) (pv 4))) (pw_and1 (pt_cmp (pc_lt (pe_ix (ix_listK (K := K) rfl) (pv 3) (pv 5) (fun _ _ => rfl)) pe_int))))) (pss_one (ps_asg (pe_op op_add (pv 4) pe_int) (pg_sub (pv 3) (pv 5) set_list))) pss_nil)))))) (pss_one (ps_expr (pe_bm PySem.F.plainAttrs_list PySem.F.slot_list_append PySem.F.type_list_append mt_append (pv 1) (pa_cons (pv 3) pa_nil)))))))) (pss_one (ps_ret (pv 1))))), ?_⟩
    have h3 : A2 (rep K F0) [] ([] : (List (List Int))) := .nil
    refine ⟨(by show 0 ≤ sizeLine; decide), fun p4 n4 => ?_⟩
    have w4 : W F0 _ ((p4, .lst []) :: os) := w0.new n4
    obtain ⟨c6, hm⟩ := pb_rng hm
    refine ⟨_, rfl, _, _, _, _, rfl, rfl, SqT.of (w4.same _ _ q1), rfl, _, rfl, c6.2.2.1, c6.2.2.2, ?_⟩
    refine forS (tw_rng0 (j := x__law_web_here.1)) hm (fun (g5 : (List (List Int))) σ H' => ∃ (F' : Hp) (vs5_0 : List V) (o5_3 : Option V) (o5_4 : Option V) (o5_5 : Option V) (o5_6 : Option V) (o5_2 : Option V), σ = [some (.ref a1), some (.ref p4), o5_2, o5_3, o5_4, o5_5, o5_6] ∧ Same F0 F' ∧ W F' H' ((p4, .lst vs5_0) :: os) ∧ A2 (rep K F') vs5_0 g5) ⟨_, _, _, _, _, _, _, rfl, Same.refl _, w4, h3⟩ (fun _ _ _ _ => trivial) ?_ ?_
    · -- a turn
      intro b5 g5 x5 σ5 H5 H5' N5 P5 hI hy hN5 hm
      obtain ⟨F5, vs5_0, o5_3, o5_4, o5_5, o5_6, o5_2, rfl, s5, w5, h5_0⟩ := hI
      replace q1 := s5 _ _ q1
      replace h2 := A2.mono s5 h2
      replace q2 := s5 _ _ q2
      replace sF := sF.trans s5
      obtain ⟨rfl, rfl⟩ := hy
      have h7 : A2 (rep K F5) [(.int (-(1 : Int)))] ([(-(1 : Int))] : (List Int)) := .cons rep_i (.nil)
      refine ⟨_, rfl, (by show 1 ≤ sizeLine; decide), fun p8 n8 => ?_⟩
      have w8 : W F5 _ ((p8, .lst [(.int (-(1 : Int)))]) :: (p4, .lst vs5_0) :: os) := w5.new n8
      obtain ⟨l9, z9, e9, hm⟩ := pb_rep hm
      have h9 : A2 (rep K F5) (List.replicate x__law_web_here.1.toNat [(.int (-(1 : Int)))]).flatten l9 := e9 ▸ A2.flat h7 _
      refine ⟨_, rfl, _, _, _, _, rfl, rfl, SqT.of (w8.same _ _ q1), rfl, _, _, _, rfl, rfl, (w8.get (pre := [])), z9.1, z9.2.1, (by rw [h7.length]; exact z9.2.2), fun p10 n10 => ?_⟩
      have w10 : W F5 _ ((p10, .lst (List.replicate x__law_web_here.1.toNat [(.int (-(1 : Int)))]).flatten) :: (p8, .lst [(.int (-(1 : Int)))]) :: (p4, .lst vs5_0) :: os) := w8.new n10
      have w11 : W F5 _ ((p10, .lst (List.replicate x__law_web_here.1.toNat [(.int (-(1 : Int)))]).flatten) :: (p4, .lst vs5_0) :: os) := w10.drop (pre := [_])
      obtain ⟨j12, l12, z12, e12, hm⟩ := pn_set hm
      refine ⟨_, rfl, _, rfl, _, _, _, _, rfl, rfl, (w11.get (pre := [])), (A2.ix h9 z12), ?_⟩
      have h12 : A2 (rep K F5) ((List.replicate x__law_web_here.1.toNat [(.int (-(1 : Int)))]).flatten.set j12 (V.int 0)) l12 := e12 ▸ A2.set rep_i j12 h9
      have w13 : W F5 _ ((p10, .lst ((List.replicate x__law_web_here.1.toNat [(.int (-(1 : Int)))]).flatten.set j12 (V.int 0))) :: (p4, .lst vs5_0) :: os) := w11.set (pre := [])
      obtain ⟨c15, hm⟩ := pb_rng hm
      refine ⟨_, rfl, _, _, _, _, rfl, rfl, SqT.of (w13.same _ _ q1), rfl, _, rfl, c15.2.2.1, c15.2.2.2, ?_⟩
      refine forS (tw_rng0 (j := x__law_web_here.1)) hm (fun (g14 : (List Int)) σ H' => ∃ (F' : Hp) (vs14_0 : List V) (o14_5 : Option V) (o14_6 : Option V) (o14_4 : Option V), σ = [some (.ref a1), some (.ref p4), some (.int b5), some (.ref p10), o14_4, o14_5, o14_6] ∧ Same F5 F' ∧ W F' H' ((p10, .lst vs14_0) :: (p4, .lst vs5_0) :: os) ∧ A2 (rep K F') vs14_0 g14) ⟨_, _, _, _, _, rfl, Same.refl _, w13, h12⟩ (fun _ _ _ _ => trivial) ?_ ?_
      · -- a turn
        intro b14 g14 x14 σ14 H14 H14' N14 P14 hI hy hN14 hm
        obtain ⟨F14, vs14_0, o14_5, o14_6, o14_4, rfl, s14, w14, h14_0⟩ := hI
        replace q1 := s14 _ _ q1
        replace h2 := A2.mono s14 h2
        replace q2 := s14 _ _ q2
        replace h5_0 := A2.mono s14 h5_0
        replace sF := sF.trans s14
        obtain ⟨rfl, rfl⟩ := hy
        refine ⟨_, rfl, _, _, _, _, rfl, rfl, SqT.of (w14.same _ _ q1), rfl, _, rfl, ⟨_, SqT.of (w14.same _ _ q2)⟩, ?_⟩
        refine forS (tw_tup (a := a2) h2) hm (fun (g16 : (List Int)) σ H' => ∃ (F' : Hp) (vs16_0 : List V) (o16_5 : Option V) (o16_6 : Option V), σ = [some (.ref a1), some (.ref p4), some (.int b5), some (.ref p10), some (.int b14), o16_5, o16_6] ∧ Same F14 F' ∧ W F' H' ((p10, .lst vs16_0) :: (p4, .lst vs5_0) :: os) ∧ A2 (rep K F') vs16_0 g16) ⟨_, _, _, _, rfl, Same.refl _, w14, h14_0⟩ (fun g σ H' hI => by obtain ⟨F', _, _, _, _, s, w, _⟩ := hI; exact SqT.of (w.same _ _ (s _ _ q2))) ?_ ?_
        · -- a turn
          intro b16 g16 x16 σ16 H16 H16' N16 P16 hI hy hN16 hm
          obtain ⟨F16, vs16_0, o16_5, o16_6, rfl, s16, w16, h16_0⟩ := hI
          replace q1 := s16 _ _ q1
          replace h2 := A2.mono s16 h2
          replace q2 := s16 _ _ q2
          replace h5_0 := A2.mono s16 h5_0
          replace sF := sF.trans s16
          obtain ⟨rfl, r17⟩ := hy
          replace r17 := Rep.mono s16 r17
          obtain ⟨a18, u18, z18, rfl, q18, r18a, r18b⟩ := r17
          obtain rfl : u18 = V.int b16.1 := r18a
          obtain rfl : z18 = V.int b16.2 := r18b
          refine ⟨_, _, rfl, SqT.of (w16.same _ _ q18), rfl, _, _, rfl, _, _, rfl, rfl, ?_⟩
          try dsimp only
          refine joinS hm (fun (g19 : (List Int)) σ H' => ∃ (F' : Hp) (vs19_0 : List V), σ = [some (.ref a1), some (.ref p4), some (.int b5), some (.ref p10), some (.int b14), some (.int b16.1), some (.int b16.2)] ∧ Same F16 F' ∧ W F' H' ((p10, .lst vs19_0) :: (p4, .lst vs5_0) :: os) ∧ A2 (rep K F') vs19_0 g19) ?_ ?_
          · intro N19 P19 hN19 hm
            refine stepIf ?_
            refine joinT hm (fun (j20 : Bool) c H' => c = j20 ∧ ∃ (F' : Hp), Same F16 F' ∧ W F' H' ((p10, .lst vs16_0) :: (p4, .lst vs5_0) :: os)) ?_ ?_
            · intro Q20 P20 q20 hm
              obtain ⟨t21, e21, hm⟩ := pb_get hm
              obtain ⟨u21, f21, r21⟩ := A2.at h16_0 e21
              obtain rfl : u21 = V.int t21 := r21
              refine ⟨_, rfl, _, rfl, _, _, _, _, rfl, rfl, SqL.of (w16.get (pre := [])), f21, _, rfl, _, _, rfl, rfl, _, rfl, ?_⟩
              refine post_ite hm (fun k22 hm => ?_) (fun k22 hm => ?_)
              · skip
                obtain ⟨t23, e23, hm⟩ := pb_get hm
                obtain ⟨u23, f23, r23⟩ := A2.at h16_0 e23
                obtain rfl : u23 = V.int t23 := r23
                exact ⟨_, rfl, _, rfl, _, _, _, _, rfl, rfl, SqL.of (w16.get (pre := [])), f23, _, _, rfl, rfl, _, rfl, q20 _ (post_ok hm) _ _ ⟨rfl, _, Same.refl _, w16⟩⟩
              · skip
                exact q20 _ (post_ok hm) _ _ ⟨rfl, _, Same.refl _, w16⟩
            intro j20 c20 H20 hc20 hm
            obtain ⟨rfl, F20, s20, w20⟩ := hc20
            replace q1 := s20 _ _ q1
            replace h2 := A2.mono s20 h2
            replace q2 := s20 _ _ q2
            replace h16_0 := A2.mono s20 h16_0
            replace h5_0 := A2.mono s20 h5_0
            replace sF := sF.trans s20
            refine post_ite hm (fun k26 hm => ?_) (fun k26 hm => ?_)
            · skip
              obtain ⟨j27, l27, z27, e27, hm⟩ := pn_set hm
              refine ⟨_, rfl, _, _, rfl, rfl, _, rfl, _, rfl, _, _, _, _, rfl, rfl, (w20.get (pre := [])), (A2.ix h16_0 z27), ?_⟩
              have h27 : A2 (rep K F20) (vs16_0.set j27 (V.int (b14 + (1 : Int)))) l27 := e27 ▸ A2.set rep_i j27 h16_0
              have w28 : W F20 _ ((p10, .lst (vs16_0.set j27 (V.int (b14 + (1 : Int))))) :: (p4, .lst vs5_0) :: os) := w20.set (pre := [])
              exact hN19 _ (post_ok hm) _ _ ⟨_, _, rfl, s20, w28, h27⟩
            · skip
              exact hN19 _ (post_ok hm) _ _ ⟨_, _, rfl, s20, w20, h16_0⟩
          intro g19 σ19 H19 hI hm
          obtain ⟨F19, vs19_0, rfl, s19, w19, h19_0⟩ := hI
          replace q1 := s19 _ _ q1
          replace h2 := A2.mono s19 h2
          replace q2 := s19 _ _ q2
          replace h5_0 := A2.mono s19 h5_0
          replace sF := sF.trans s19
          try dsimp only
          refine stepIf ?_
          refine joinT hm (fun (j29 : Bool) c H' => c = j29 ∧ ∃ (F' : Hp), Same F19 F' ∧ W F' H' ((p10, .lst vs19_0) :: (p4, .lst vs5_0) :: os)) ?_ ?_
          · intro Q29 P29 q29 hm
            obtain ⟨t30, e30, hm⟩ := pb_get hm
            obtain ⟨u30, f30, r30⟩ := A2.at h19_0 e30
            obtain rfl : u30 = V.int t30 := r30
            refine ⟨_, rfl, _, rfl, _, _, _, _, rfl, rfl, SqL.of (w19.get (pre := [])), f30, _, rfl, _, _, rfl, rfl, _, rfl, ?_⟩
            refine post_ite hm (fun k31 hm => ?_) (fun k31 hm => ?_)
            · skip
              obtain ⟨t32, e32, hm⟩ := pb_get hm
              obtain ⟨u32, f32, r32⟩ := A2.at h19_0 e32
              obtain rfl : u32 = V.int t32 := r32
              exact ⟨_, rfl, _, rfl, _, _, _, _, rfl, rfl, SqL.of (w19.get (pre := [])), f32, _, _, rfl, rfl, _, rfl, q29 _ (post_ok hm) _ _ ⟨rfl, _, Same.refl _, w19⟩⟩
            · skip
              exact q29 _ (post_ok hm) _ _ ⟨rfl, _, Same.refl _, w19⟩
          intro j29 c29 H29 hc29 hm
          obtain ⟨rfl, F29, s29, w29⟩ := hc29
          replace q1 := s29 _ _ q1
          replace h2 := A2.mono s29 h2
          replace q2 := s29 _ _ q2
          replace h19_0 := A2.mono s29 h19_0
          replace h5_0 := A2.mono s29 h5_0
          replace sF := sF.trans s29
          refine post_ite hm (fun k35 hm => ?_) (fun k35 hm => ?_)
          · skip
            obtain ⟨j36, l36, z36, e36, hm⟩ := pn_set hm
            refine ⟨_, rfl, _, _, rfl, rfl, _, rfl, _, rfl, _, _, _, _, rfl, rfl, (w29.get (pre := [])), (A2.ix h19_0 z36), ?_⟩
            have h36 : A2 (rep K F29) (vs19_0.set j36 (V.int (b14 + (1 : Int)))) l36 := e36 ▸ A2.set rep_i j36 h19_0
            have w37 : W F29 _ ((p10, .lst (vs19_0.set j36 (V.int (b14 + (1 : Int))))) :: (p4, .lst vs5_0) :: os) := w29.set (pre := [])
            exact hN16 _ (post_ok hm) _ _ ⟨_, _, _, _, rfl, (s16.trans (s19.trans s29)), w37, h36⟩
          · skip
            exact hN16 _ (post_ok hm) _ _ ⟨_, _, _, _, rfl, (s16.trans (s19.trans s29)), w29, h19_0⟩
        intro g16 σ16 H16 hI hm
        obtain ⟨F16, vs16_0, o16_5, o16_6, rfl, s16, w16, h16_0⟩ := hI
        replace q1 := s16 _ _ q1
        replace h2 := A2.mono s16 h2
        replace q2 := s16 _ _ q2
        replace h5_0 := A2.mono s16 h5_0
        replace sF := sF.trans s16
        exact hN14 _ (post_ok hm) _ _ ⟨_, _, _, _, _, rfl, (s14.trans s16), w16, h16_0⟩
      intro g14 σ14 H14 hI hm
      obtain ⟨F14, vs14_0, o14_5, o14_6, o14_4, rfl, s14, w14, h14_0⟩ := hI
      replace q1 := s14 _ _ q1
      replace h2 := A2.mono s14 h2
      replace q2 := s14 _ _ q2
      replace h5_0 := A2.mono s14 h5_0
      replace sF := sF.trans s14
      obtain ⟨F38, s38, w38, q38⟩ : ∃ F', Same F14 F' ∧ W F' _ ((p4, .lst vs5_0) :: os) ∧ F' p10 = some (.lst vs14_0) := w14.freezeE (pre := [])
      replace q1 := s38 _ _ q1
      replace h2 := A2.mono s38 h2
      replace q2 := s38 _ _ q2
      replace h14_0 := A2.mono s38 h14_0
      replace h5_0 := A2.mono s38 h5_0
      replace sF := sF.trans s38
      obtain ⟨l39, z39, e39, hm⟩ := pn_app hm
      refine ⟨_, rfl, .inl ⟨rfl, _, SqL.of (w14.get (pre := [_]))⟩, _, rfl, _, _, _, rfl, rfl, (w38.get (pre := [])), (A2.lt h5_0 z39), ?_⟩
      have h39 : A2 (rep K F38) (vs5_0 ++ [(V.ref p10)]) l39 := e39 ▸ A2.snoc h5_0 (rep_lst q38 h14_0)
      have w40 : W F38 _ ((p4, .lst (vs5_0 ++ [(V.ref p10)])) :: os) := w38.set (pre := [])
      exact hN5 _ (post_ok hm) _ _ ⟨_, _, _, _, _, _, _, rfl, (s5.trans (s14.trans s38)), w40, h39⟩
    intro g5 σ5 H5 hI hm
    obtain ⟨F5, vs5_0, o5_3, o5_4, o5_5, o5_6, o5_2, rfl, s5, w5, h5_0⟩ := hI
    replace q1 := s5 _ _ q1
    replace h2 := A2.mono s5 h2
    replace q2 := s5 _ _ q2
    replace sF := sF.trans s5
    obtain ⟨F41, s41, w41, q41⟩ : ∃ F', Same F5 F' ∧ W F' _ (os) ∧ F' p4 = some (.lst vs5_0) := w5.freezeE (pre := [])
    replace q1 := s41 _ _ q1
    replace h2 := A2.mono s41 h2
    replace q2 := s41 _ _ q2
    replace h5_0 := A2.mono s41 h5_0
    replace sF := sF.trans s41
    exact ⟨_, rfl, (post_ok hm) _ _ _ w41 sF (rep_lst q41 h5_0)⟩
def sp_law_things (K : Fg) : Sp := fun vs H Q E => ∃ (F : Hp) (os : List (Addr × HO)) (v__law_web_here : V) (x__law_web_here : (Int × (Tup (Int × Int)))) (x__law_kind : Str), vs = [v__law_web_here, .str x__law_kind] ∧ W F H (os) ∧ rep K F v__law_web_here x__law_web_here ∧ Post (law_things x__law_web_here x__law_kind) (RetL K F os Q) noX
theorem sc_law_things : FnScope ["_law_web_here", "_law_kind", "_law_found"] ["_law_web_here", "_law_kind"] (defScope s_law_things) := ⟨rfl, rfl, rfl, by decide +kernel, rfl, by decide +kernel, by decide +kernel⟩
theorem ok_law_things (T : Tx K mg A FD) : FnOk P w K mg base CX0 1 (A 30) (FD 30) ["_law_web_here", "_law_kind"] (sp_law_things K) := by
  refine T.d30.fn.ok sc_law_things (fun vs H Q E h => ?_) (fun cdv Ar outer s H vs Q E hr h => ?_)
  · obtain ⟨F, os, v__law_web_here, x__law_web_here, x__law_kind, rfl, _⟩ := h
    rfl
  · obtain ⟨F0, os, v__law_web_here, x__law_web_here, x__law_kind, rfl, w0, r__law_web_here, hm⟩ := h
    have sF : Same F0 F0 := Same.refl _
    obtain ⟨a1, u1, z1, rfl, q1, r1a, r1b⟩ := r__law_web_here
    obtain rfl : u1 = V.int x__law_web_here.1 := r1a
    obtain ⟨a2, vs2, rfl, q2, h2⟩ := r1b
    refine ⟨_, (pss_cons (ps_set (i := 2) sc_law_things.nd rfl (Or.inl rfl) (pe_op op_rep (pe_listRg rfl (by rfl) T.n_list (prg_1 (by rfl) T.n_range (pe_ix (ix_tupK (K := K) rfl) (pv 0) pe_int (fun _ _ => rfl)))) (pe_callTy call_intB (by rfl) T.n_int (by decide +kernel) (pa_cons (pe_cmpR op_neS (pv 1) pe_str (nomark _)) pa_nil)))) (pss_cons (ps_if (pt_cmpR op_neS (pv 1) pe_str (nomark _)) (pss_one (ps_expr (pe_bm PySem.F.plainAttrs_list PySem.F.slot_list_extend PySem.F.type_list_extend (mt_extendT (K := K) rfl) (pv 2) (pa_cons (pe_ix (ix_tupK (K := K) rfl) (pv 0) pe_int (fun _ _ => rfl)) pa_nil)))) pss_nil) (pss_one (ps_ret (pv 2))))), ?_⟩
    obtain ⟨l3, z3, e3, hm⟩ := pb_lrng hm
    have h3 : A2 (rep K F0) (rgV 0 x__law_web_here.1) l3 := by rw [e3, rgV_eq]; exact A2.of_ints
    refine ⟨_, rfl, _, _, _, _, rfl, rfl, SqT.of (w0.same _ _ q1), rfl, _, rfl, z3, fun p4 n4 => ?_⟩
    have w4 : W F0 _ ((p4, .lst (rgV 0 x__law_web_here.1)) :: os) := w0.new n4
    obtain ⟨l5, z5, e5, hm⟩ := pb_rep hm
    have h5 : A2 (rep K F0) (List.replicate (b2i (!decide (x__law_kind = ("ties" : Str)))).toNat (rgV 0 x__law_web_here.1)).flatten l5 := e5 ▸ A2.flat h3 _
    refine ⟨_, rfl, _, _, rfl, rfl, _, rfl, _, _, _, rfl, rfl, (w4.get (pre := [])), z5.1, z5.2.1, (by rw [h3.length]; exact z5.2.2), fun p6 n6 => ?_⟩
    have w6 : W F0 _ ((p6, .lst (List.replicate (b2i (!decide (x__law_kind = ("ties" : Str)))).toNat (rgV 0 x__law_web_here.1)).flatten) :: (p4, .lst (rgV 0 x__law_web_here.1)) :: os) := w4.new n6
    have h7 : A2 (rep K F0) (List.replicate (b2i (!decide (x__law_kind = ("ties" : Str)))).toNat (rgV 0 x__law_web_here.1)).flatten (mkpl l5) := A2.pl h5
    have w8 : W F0 _ ((p6, .lst (List.replicate (b2i (!decide (x__law_kind = ("ties" : Str)))).toNat (rgV 0 x__law_web_here.1)).flatten) :: os) := w6.drop (pre := [_])
    refine stepN ?_
    try dsimp only
    refine joinS hm (fun (g9 : (List Thing)) σ H' => ∃ (F' : Hp) (vs9_0 : List V), σ = [some (.ref a1), some (.str x__law_kind), some (.ref p6)] ∧ Same F0 F' ∧ W F' H' ((p6, .lst vs9_0) :: os) ∧ A2 (rep K F') vs9_0 g9) ?_ ?_
    · intro N9 P9 hN9 hm
      refine ⟨_, rfl, _, _, rfl, rfl, _, rfl, ?_⟩
      refine post_ite hm (fun k10 hm => ?_) (fun k10 hm => ?_)
      · skip
        have h11 : A2 (rep K F0) vs2 (mkti x__law_web_here.2.l) := A2.ti h2
        obtain ⟨l12, z12, e12, hm⟩ := pn_extend hm
        refine ⟨_, rfl, .inl ⟨rfl, _, SqL.of (w8.get (pre := []))⟩, _, rfl, _, _, _, _, rfl, rfl, SqT.of (w8.same _ _ q1), rfl, _, _, _, _, rfl, rfl, (w8.get (pre := [])), SqT.of (w8.same _ _ q2), (A2.le2 h7 h11 z12), ?_⟩
        have h12 : A2 (rep K F0) ((List.replicate (b2i (!decide (x__law_kind = ("ties" : Str)))).toNat (rgV 0 x__law_web_here.1)).flatten ++ vs2) l12 := e12 ▸ A2.append h7 h11
        have w13 : W F0 _ ((p6, .lst ((List.replicate (b2i (!decide (x__law_kind = ("ties" : Str)))).toNat (rgV 0 x__law_web_here.1)).flatten ++ vs2)) :: os) := w8.set (pre := [])
        exact hN9 _ (post_ok hm) _ _ ⟨_, _, rfl, Same.refl _, w13, h12⟩
      · skip
        exact hN9 _ (post_ok hm) _ _ ⟨_, _, rfl, Same.refl _, w8, h7⟩
    intro g9 σ9 H9 hI hm
    obtain ⟨F9, vs9_0, rfl, s9, w9, h9_0⟩ := hI
    replace q1 := s9 _ _ q1
    replace h2 := A2.mono s9 h2
    replace q2 := s9 _ _ q2
    replace sF := sF.trans s9
    exact ⟨_, rfl, (post_ok hm) _ _ _ _ w9 sF h9_0⟩
def sp_law_far (K : Fg) : Sp := fun vs H Q E => ∃ (F : Hp) (os : List (Addr × HO)) (v__law_fars : V) (x__law_fars : (List (List Int))) (x__law_look : Int) (v__law_thing : V) (x__law_thing : Thing), vs = [v__law_fars, .int x__law_look, v__law_thing] ∧ W F H (os) ∧ rep K F v__law_fars x__law_fars ∧ rep K F v__law_thing x__law_thing ∧ Post (law_far x__law_fars x__law_look x__law_thing) (Ret K F os Q) noX
theorem sc_law_far : FnScope ["_law_fars", "_law_look", "_law_thing", "_law_end"] ["_law_fars", "_law_look", "_law_thing"] (defScope s_law_far) := ⟨rfl, rfl, rfl, by decide +kernel, rfl, by decide +kernel, by decide +kernel⟩
theorem ok_law_far (T : Tx K mg A FD) : FnOk P w K mg base CX0 1 (A 31) (FD 31) ["_law_fars", "_law_look", "_law_thing"] (sp_law_far K) := by
  refine T.d31.fn.ok sc_law_far (fun vs H Q E h => ?_) (fun cdv Ar outer s H vs Q E hr h => ?_)
  · obtain ⟨F, os, v__law_fars, x__law_fars, x__law_look, v__law_thing, x__law_thing, rfl, _⟩ := h
    rfl
  · obtain ⟨F0, os, v__law_fars, x__law_fars, x__law_look, v__law_thing, x__law_thing, rfl, w0, r__law_fars, r__law_thing, hm⟩ := h
    have sF : Same F0 F0 := Same.refl _
    obtain ⟨a1, vs1, rfl, q1, h1⟩ := r__law_fars
    refine ⟨_, (pss_cons (ps_if (pt_val (pe_callB (call_isB (K := K) rfl) (by rfl) T.n_isinstance (by decide +kernel) (pa_cons (pv 2) (pa_cons (pe_bltn (v := .ty "int") (by rfl) T.n_int (by decide +kernel) rfl) pa_nil)))) (pss_one (ps_ret (pe_ix (ix_listK (K := K) rfl) (pe_ix (ix_listK (K := K) rfl) (pv 0) (pv 1) (fun _ _ => rfl)) (pv 2) (fun _ _ => rfl)))) pss_nil) (pss_one (ps_ret (pe_callB (cr_minI (K := K) rfl rfl) (by rfl) T.n_min (by decide +kernel) (pa_cons (pe_lc (own := [("_law_end", 3)]) (g := gName 3) (by rfl) sc_law_far.nd (pi_tupK (K := K) rfl (pv 2)) (blkOk_by (own := [("_law_end", 3)]) (N := ["_law_fars", "_law_look", "_law_thing", "_law_end"]) (sc := defScope s_law_far) (by decide +kernel)) (fun _ _ _ _ _ => (pg_name (i := 3) sc_law_far.nd rfl (Or.inl rfl))) (fun _ _ _ _ _ => pts_nil) (fun _ _ _ _ _ => (pe_ix (ix_listK (K := K) rfl) (pe_ix (ix_listK (K := K) rfl) (pv 0) (pv 1) (fun _ _ => rfl)) (pv 3) (fun _ _ => rfl)))) pa_nil))))), ?_⟩
    obtain ⟨a3, y3, k3⟩ := th_int w0.same r__law_thing
    refine ⟨_, rfl, _, _, _, x__law_thing.isPl, rfl, y3, k3, _, rfl, ?_⟩
    refine post_ite hm (fun k4 hm => ?_) (fun k4 hm => ?_)
    · skip
      obtain ⟨t5, e5, hm⟩ := pb_asPl hm
      have r5 : v__law_thing = V.int t5 := (show rep K F0 v__law_thing (Thing.pl t5) from e5 ▸ r__law_thing)
      subst r5
      obtain ⟨t6, e6, hm⟩ := pb_get hm
      obtain ⟨u6, f6, r6⟩ := A2.at h1 e6
      obtain ⟨a7, vs7, rfl, q7, h7⟩ := r6
      obtain ⟨t8, e8, hm⟩ := pb_get hm
      obtain ⟨u8, f8, r8⟩ := A2.at h7 e8
      obtain rfl : u8 = V.int t8 := r8
      exact ⟨_, rfl, _, rfl, _, _, _, _, rfl, rfl, SqL.of (w0.same _ _ q1), f6, _, rfl, _, _, _, _, rfl, rfl, SqL.of (w0.same _ _ q7), f8, (post_ok hm) _ _ _ w0 sF rep_i⟩
    · skip
      obtain ⟨t9, e9, hm⟩ := pb_asTi hm
      have r9 : rep K F0 v__law_thing (t9 : Int × Int) := (show rep K F0 v__law_thing (Thing.ti t9.1 t9.2) from e9 ▸ r__law_thing)
      obtain ⟨a10, u10, z10, rfl, q10, r10a, r10b⟩ := r9
      obtain rfl : u10 = V.int t9.1 := r10a
      obtain rfl : z10 = V.int t9.2 := r10b
      have h11 : A2 (rep K F0) [(.int t9.1), (.int t9.2)] ([t9.1, t9.2] : List Int) := .cons rep_i (.cons rep_i .nil)
      refine ⟨_, rfl, _, rfl, ⟨_, SqT.of (w0.same _ _ q10)⟩, fun D12 nD12 => ?_⟩
      refine lcM (K := K) (tw_tup (a := a10) h11) hm w0 nD12 (fun F' H' acc s w => SqT.of (w.same _ _ (s _ _ q10))) ?_ ?_
      · -- one turn
        intro b12 x12 F12 H12 H12' acc12 N12 P12 s12 w12 y12 hN12 hm
        replace q1 := s12 _ _ q1
        replace h1 := A2.mono s12 h1
        replace r__law_thing := Rep.mono s12 r__law_thing
        replace q10 := s12 _ _ q10
        replace h11 := A2.mono s12 h11
        replace sF := sF.trans s12
        obtain ⟨rfl, r14⟩ := y12
        obtain rfl : x12 = V.int b12 := r14
        obtain ⟨t15, e15, hm⟩ := pb_get hm
        obtain ⟨u15, f15, r15⟩ := A2.at h1 e15
        obtain ⟨a16, vs16, rfl, q16, h16⟩ := r15
        obtain ⟨t17, e17, hm⟩ := pb_get hm
        obtain ⟨u17, f17, r17⟩ := A2.at h16 e17
        obtain rfl : u17 = V.int t17 := r17
        exact ⟨rfl, _, rfl, _, rfl, _, _, _, _, rfl, rfl, SqL.of (w12.same _ _ q1), f15, _, rfl, _, _, _, _, rfl, rfl, SqL.of (w12.same _ _ q16), f17, hN12 _ (post_ok hm) _ _ _ w12 (Same.refl _) rep_i⟩
      intro us12 F12 H12 ys12 s12 w12 gg12 hm
      replace q1 := s12 _ _ q1
      replace h1 := A2.mono s12 h1
      replace r__law_thing := Rep.mono s12 r__law_thing
      replace q10 := s12 _ _ q10
      replace h11 := A2.mono s12 h11
      replace sF := sF.trans s12
      obtain ⟨t19, e19, hm⟩ := pb_min hm
      have w20 : W F12 _ (os) := w12.drop (pre := [])
      exact ⟨_, _, _, rfl, ints_q (SqL.of (w12.get (pre := []))) gg12, e19, (post_ok hm) _ _ _ w20 sF rep_i⟩
def sp_law_parters (K : Fg) : Sp := fun vs H Q E => ∃ (F : Hp) (os : List (Addr × HO)) (v__law_fars : V) (x__law_fars : (List (List Int))) (v__law_one : V) (x__law_one : Thing) (v__law_other : V) (x__law_other : Thing), vs = [v__law_fars, v__law_one, v__law_other] ∧ W F H (os) ∧ rep K F v__law_fars x__law_fars ∧ rep K F v__law_one x__law_one ∧ rep K F v__law_other x__law_other ∧ Post (law_parters x__law_fars x__law_one x__law_other) (RetL K F os Q) noX
theorem sc_law_parters : FnScope ["_law_fars", "_law_one", "_law_other", "_law_look"] ["_law_fars", "_law_one", "_law_other"] (defScope s_law_parters) := ⟨rfl, rfl, rfl, by decide +kernel, rfl, by decide +kernel, by decide +kernel⟩
theorem ok_law_parters (T : Tx K mg A FD) : FnOk P w K mg base CX0 2 (A 32) (FD 32) ["_law_fars", "_law_one", "_law_other"] (sp_law_parters K) := by
  refine T.d32.fn.ok sc_law_parters (fun vs H Q E h => ?_) (fun cdv Ar outer s H vs Q E hr h => ?_)
  · obtain ⟨F, os, v__law_fars, x__law_fars, v__law_one, x__law_one, v__law_other, x__law_other, rfl, _⟩ := h
    rfl
  · obtain ⟨F0, os, v__law_fars, x__law_fars, v__law_one, x__law_one, v__law_other, x__law_other, rfl, w0, r__law_fars, r__law_one, r__law_other, hm⟩ := h
    have sF : Same F0 F0 := Same.refl _
    obtain ⟨a1, vs1, rfl, q1, h1⟩ := r__law_fars
    refine ⟨_, (pss_one (ps_ret (pe_lc (own := [("_law_look", 3)]) (g := gName 3) (by rfl) sc_law_parters.nd (pi_range1 (by rfl) T.n_range (pa_cons (pe_callB (call_lenN (K := K) rfl) (by rfl) T.n_len (by decide +kernel) (pa_cons (pv 0) pa_nil)) pa_nil)) (blkOk_by (own := [("_law_look", 3)]) (N := ["_law_fars", "_law_one", "_law_other", "_law_look"]) (sc := defScope s_law_parters) (by decide +kernel)) (fun _ _ _ _ _ => (pg_name (i := 3) sc_law_parters.nd rfl (Or.inl rfl))) (fun _ _ _ _ _ => (pts_one (pt_cmp (pc_neI (pe_call (ok_law_far T) (hr.mono (by decide)) (by rfl) T.d31.mg T.d31.fn.kp T.d31.b .nil pass0 (pa_cons (pv 0) (pa_cons (pv 3) (pa_cons (pv 1) pa_nil)))) (pe_call (ok_law_far T) (hr.mono (by decide)) (by rfl) T.d31.mg T.d31.fn.kp T.d31.b .nil pass0 (pa_cons (pv 0) (pa_cons (pv 3) (pa_cons (pv 2) pa_nil)))))))) (fun _ _ _ _ _ => (pv 3))))), ?_⟩
    obtain ⟨c4, hm⟩ := pb_rng hm
    refine ⟨_, rfl, _, _, _, rfl, .inl (SqL.of (w0.same _ _ q1)), h1.length, _, rfl, c4.2.2.1, c4.2.2.2, fun D5 nD5 => ?_⟩
    refine lcF (K := K) (tw_rng0 (j := (x__law_fars.length : Int))) hm w0 nD5 (fun F' H' acc s w => trivial) ?_ ?_
    · -- one turn
      intro b5 x5 F5 H5 H5' acc5 N5 M5 P5 s5 w5 y5 hN5 hM5 hm
      replace q1 := s5 _ _ q1
      replace h1 := A2.mono s5 h1
      replace r__law_one := Rep.mono s5 r__law_one
      replace r__law_other := Rep.mono s5 r__law_other
      replace sF := sF.trans s5
      obtain ⟨rfl, rfl⟩ := y5
      refine ⟨rfl, _, rfl, _, rfl, _, rfl, _, _, _, (x__law_fars : (List (List Int))), _, _, (x__law_one : Thing), rfl, w5, (rep_lst q1 h1), r__law_one, ?_⟩
      refine (post_bind hm).mono (fun y7 hm v7 F7 H7 w7 s7 r7 => ?_) (fun _ z => z)
      replace q1 := s7 _ _ q1
      replace h1 := A2.mono s7 h1
      replace r__law_one := Rep.mono s7 r__law_one
      replace r__law_other := Rep.mono s7 r__law_other
      replace sF := sF.trans s7
      obtain rfl : v7 = V.int y7 := r7
      refine ⟨_, rfl, _, rfl, _, rfl, _, _, _, (x__law_fars : (List (List Int))), _, _, (x__law_other : Thing), rfl, w7, (rep_lst q1 h1), r__law_other, ?_⟩
      refine (post_bind hm).mono (fun y8 hm v8 F8 H8 w8 s8 r8 => ?_) (fun _ z => z)
      replace q1 := s8 _ _ q1
      replace h1 := A2.mono s8 h1
      replace r__law_one := Rep.mono s8 r__law_one
      replace r__law_other := Rep.mono s8 r__law_other
      replace sF := sF.trans s8
      obtain rfl : v8 = V.int y8 := r8
      refine ⟨_, _, rfl, rfl, _, rfl, ?_⟩
      refine post_ite hm (fun k9 hm => ?_) (fun k9 hm => ?_)
      · skip
        exact ⟨_, rfl, hN5 _ (post_ok hm) _ _ _ w8 (s7.trans s8) rep_i⟩
      · skip
        exact hM5 (post_ok hm) _ _ w8 (s7.trans s8)
    intro us5 F5 H5 ys5 s5 w5 gg5 hm
    replace q1 := s5 _ _ q1
    replace h1 := A2.mono s5 h1
    replace r__law_one := Rep.mono s5 r__law_one
    replace r__law_other := Rep.mono s5 r__law_other
    replace sF := sF.trans s5
    exact (post_ok hm) _ _ _ _ w5 sF gg5
def sp_law_parted (K : Fg) : Sp := fun vs H Q E => ∃ (F : Hp) (os : List (Addr × HO)) (v__law_web_here : V) (x__law_web_here : (Int × (Tup (Int × Int)))) (x__law_kind : Str), vs = [v__law_web_here, .str x__law_kind] ∧ W F H (os) ∧ rep K F v__law_web_here x__law_web_here ∧ Post (law_parted x__law_web_here x__law_kind) (Ret K F os Q) noX
theorem sc_law_parted : FnScope ["_law_web_here", "_law_kind", "_law_fars", "_law_some", "_law_found", "_law_k", "_law_other"] ["_law_web_here", "_law_kind"] (defScope s_law_parted) := ⟨rfl, rfl, rfl, by decide +kernel, rfl, by decide +kernel, by decide +kernel⟩
theorem ok_law_parted (T : Tx K mg A FD) : FnOk P w K mg base CX0 3 (A 33) (FD 33) ["_law_web_here", "_law_kind"] (sp_law_parted K) := by
  refine T.d33.fn.ok sc_law_parted (fun vs H Q E h => ?_) (fun cdv Ar outer s H vs Q E hr h => ?_)
  · obtain ⟨F, os, v__law_web_here, x__law_web_here, x__law_kind, rfl, _⟩ := h
    rfl
  · obtain ⟨F0, os, v__law_web_here, x__law_web_here, x__law_kind, rfl, w0, r__law_web_here, hm⟩ := h
    have sF : Same F0 F0 := Same.refl _
    obtain ⟨a1, u1, z1, rfl, q1, r1a, r1b⟩ := r__law_web_here
    obtain rfl : u1 = V.int x__law_web_here.1 := r1a
    obtain ⟨a2, vs2, rfl, q2, h2⟩ := r1b
    refine ⟨_, (pss_cons (ps_set (i := 2) sc_law_parted.nd rfl (Or.inl rfl) (pe_call (ok_law_table T) (hr.mono (by decide)) (by rfl) T.d29.mg T.d29.fn.kp T.d29.b .nil pass0 (pa_cons (pv 0) pa_nil))) (pss_cons (ps_set (i := 3) sc_law_parted.nd rfl (Or.inl rfl) (pe_call (ok_law_things T) (hr.mono (by decide)) (by rfl) T.d30.mg T.d30.fn.kp T.d30.b .nil pass0 (pa_cons (pv 0) (pa_cons (pv 1) pa_nil)))) (pss_cons (ps_set (i := 4) sc_law_parted.nd rfl (Or.inl rfl) (pe_lst pa_nil)) (pss_cons (ps_for PassesOwn.never rfl (pi_range1 (by rfl) T.n_range (pa_cons (pe_callB (call_lenN (K := K) rfl) (by rfl) T.n_len (by decide +kernel) (pa_cons (pv 3) pa_nil)) pa_nil)) (pg_name (i := 5) sc_law_parted.nd rfl (Or.inl rfl)) (pss_one (ps_for PassesOwn.never rfl (pi_listK (K := K) rfl (pe_slice (sl_listK (K := K) rfl) (pv 3) (po_some (pe_op op_add (pv 5) pe_int)) po_none)) (pg_name (i := 6) sc_law_parted.nd rfl (Or.inl rfl)) (pss_one (ps_expr (pe_bm PySem.F.plainAttrs_list PySem.F.slot_list_append PySem.F.type_list_append mt_append (pv 4) (pa_cons (pe_tup (pa_cons (pe_ix (ix_listK (K := K) rfl) (pv 3) (pv 5) (fun _ _ => rfl)) (pa_cons (pv 6) (pa_cons (pe_call (ok_law_parters T) (hr.mono (by decide)) (by rfl) T.d32.mg T.d32.fn.kp T.d32.b .nil pass0 (pa_cons (pv 2) (pa_cons (pe_ix (ix_listK (K := K) rfl) (pv 3) (pv 5) (fun _ _ => rfl)) (pa_cons (pv 6) pa_nil)))) pa_nil)))) pa_nil))))))) (pss_one (ps_ret (pv 4))))))), ?_⟩
    refine ⟨_, rfl, _, _, _, (x__law_web_here : (Int × (Tup (Int × Int)))), rfl, w0, (rep_pair q1 rep_i (rep_tup q2 h2)), ?_⟩
    refine (post_bind hm).mono (fun y3 hm v3 F3 H3 w3 s3 r3 => ?_) (fun _ z => z)
    replace q1 := s3 _ _ q1
    replace q2 := s3 _ _ q2
    replace h2 := A2.mono s3 h2
    replace sF := sF.trans s3
    obtain ⟨a4, vs4, rfl, q4, h4⟩ := r3
    refine ⟨_, rfl, _, rfl, _, _, _, (x__law_web_here : (Int × (Tup (Int × Int)))), _, rfl, w3, (rep_pair q1 rep_i (rep_tup q2 h2)), ?_⟩
    refine (post_bind hm).mono (fun y5 hm p5 us5 F5 H5 w5 s5 g5 => ?_) (fun _ z => z)
    replace q1 := s5 _ _ q1
    replace h2 := A2.mono s5 h2
    replace q2 := s5 _ _ q2
    replace h4 := A2.mono s5 h4
    replace q4 := s5 _ _ q4
    replace sF := sF.trans s5
    obtain ⟨F7, s7, w7, q7⟩ : ∃ F', Same F5 F' ∧ W F' _ (os) ∧ F' p5 = some (.lst us5) := w5.freezeE (pre := [])
    replace q1 := s7 _ _ q1
    replace h2 := A2.mono s7 h2
    replace q2 := s7 _ _ q2
    replace h4 := A2.mono s7 h4
    replace q4 := s7 _ _ q4
    replace g5 := A2.mono s7 g5
    replace sF := sF.trans s7
    have h8 : A2 (rep K F7) [] ([] : (List (Nt (Thing × Thing × (List Int) × Unit)))) := .nil
    refine ⟨(by show 0 ≤ sizeLine; decide), fun p9 n9 => ?_⟩
    have w9 : W F7 _ ((p9, .lst []) :: os) := w7.new n9
    obtain ⟨c11, hm⟩ := pb_rng hm
    refine ⟨_, rfl, _, _, _, rfl, .inl (SqL.of (w9.same _ _ q7)), g5.length, _, rfl, c11.2.2.1, c11.2.2.2, ?_⟩
    refine forS (tw_rng0 (j := (y5.length : Int))) hm (fun (g10 : (List (Nt (Thing × Thing × (List Int) × Unit)))) σ H' => ∃ (F' : Hp) (vs10_0 : List V) (o10_6 : Option V) (o10_5 : Option V), σ = [some (.ref a1), some (.str x__law_kind), some (.ref a4), some (.ref p5), some (.ref p9), o10_5, o10_6] ∧ Same F7 F' ∧ W F' H' ((p9, .lst vs10_0) :: os) ∧ A2 (rep K F') vs10_0 g10) ⟨_, _, _, _, rfl, Same.refl _, w9, h8⟩ (fun _ _ _ _ => trivial) ?_ ?_
    · -- a turn
      intro b10 g10 x10 σ10 H10 H10' N10 P10 hI hy hN10 hm
      obtain ⟨F10, vs10_0, o10_6, o10_5, rfl, s10, w10, h10_0⟩ := hI
      replace q1 := s10 _ _ q1
      replace h2 := A2.mono s10 h2
      replace q2 := s10 _ _ q2
      replace h4 := A2.mono s10 h4
      replace q4 := s10 _ _ q4
      replace g5 := A2.mono s10 g5
      replace q7 := s10 _ _ q7
      replace sF := sF.trans s10
      obtain ⟨rfl, rfl⟩ := hy
      have h13 : A2 (rep K F10) (cutV us5 (some (b10 + (1 : Int))) none) (cutL y5 (some (b10 + (1 : Int))) none) := sl_cut g5 _ _
      refine ⟨_, rfl, _, rfl, _, _, rfl, rfl, _, rfl, _, _, rfl, SqL.of (w10.same _ _ q7), fun p14 n14 => ?_⟩
      have w14 : W F10 _ ((p14, .lst (cutV us5 (some (b10 + (1 : Int))) none)) :: (p9, .lst vs10_0) :: os) := w10.new n14
      obtain ⟨F15, s15, w15, q15⟩ : ∃ F', Same F10 F' ∧ W F' _ ((p9, .lst vs10_0) :: os) ∧ F' p14 = some (.lst (cutV us5 (some (b10 + (1 : Int))) none)) := w14.freezeE (pre := [])
      replace q1 := s15 _ _ q1
      replace h2 := A2.mono s15 h2
      replace q2 := s15 _ _ q2
      replace h4 := A2.mono s15 h4
      replace q4 := s15 _ _ q4
      replace g5 := A2.mono s15 g5
      replace q7 := s15 _ _ q7
      replace h10_0 := A2.mono s15 h10_0
      replace h13 := A2.mono s15 h13
      replace sF := sF.trans s15
      refine ⟨_, rfl, ⟨_, SqL.of (w15.same _ _ q15)⟩, ?_⟩
      refine forS (tw_list (a := p14) h13) hm (fun (g12 : (List (Nt (Thing × Thing × (List Int) × Unit)))) σ H' => ∃ (F' : Hp) (vs12_0 : List V) (o12_6 : Option V), σ = [some (.ref a1), some (.str x__law_kind), some (.ref a4), some (.ref p5), some (.ref p9), some (.int b10), o12_6] ∧ Same F15 F' ∧ W F' H' ((p9, .lst vs12_0) :: os) ∧ A2 (rep K F') vs12_0 g12) ⟨_, _, _, rfl, Same.refl _, w15, h10_0⟩ (fun g σ H' hI => by obtain ⟨F', _, _, _, s, w, _⟩ := hI; exact SqL.of (w.same _ _ (s _ _ q15))) ?_ ?_
      · -- a turn
        intro b12 g12 x12 σ12 H12 H12' N12 P12 hI hy hN12 hm
        obtain ⟨F12, vs12_0, o12_6, rfl, s12, w12, h12_0⟩ := hI
        replace q1 := s12 _ _ q1
        replace h2 := A2.mono s12 h2
        replace q2 := s12 _ _ q2
        replace h4 := A2.mono s12 h4
        replace q4 := s12 _ _ q4
        replace g5 := A2.mono s12 g5
        replace q7 := s12 _ _ q7
        replace h13 := A2.mono s12 h13
        replace q15 := s12 _ _ q15
        replace sF := sF.trans s12
        obtain ⟨rfl, r16⟩ := hy
        replace r16 := Rep.mono s12 r16
        obtain ⟨t18, e18, hm⟩ := pb_get hm
        obtain ⟨u18, f18, r18⟩ := A2.at g5 e18
        obtain ⟨t20, e20, hm⟩ := pb_get hm
        obtain ⟨u20, f20, r20⟩ := A2.at g5 e20
        refine ⟨_, rfl, .inl ⟨rfl, _, SqL.of (w12.get (pre := []))⟩, _, rfl, _, rfl, _, _, _, _, rfl, rfl, SqL.of (w12.same _ _ q7), f18, _, rfl, _, rfl, _, rfl, _, rfl, _, _, _, _, rfl, rfl, SqL.of (w12.same _ _ q7), f20, _, rfl, _, _, _, (y3 : (List (List Int))), _, (t20 : Thing), _, (b12 : Thing), rfl, w12, (rep_lst q4 h4), r20, r16, ?_⟩
        refine (post_bind hm).mono (fun y22 hm p22 us22 F22 H22 w22 s22 g22 => ?_) (fun _ z => z)
        replace q1 := s22 _ _ q1
        replace h2 := A2.mono s22 h2
        replace q2 := s22 _ _ q2
        replace h4 := A2.mono s22 h4
        replace q4 := s22 _ _ q4
        replace g5 := A2.mono s22 g5
        replace q7 := s22 _ _ q7
        replace r16 := Rep.mono s22 r16
        replace h12_0 := A2.mono s22 h12_0
        replace r18 := Rep.mono s22 r18
        replace r20 := Rep.mono s22 r20
        replace sF := sF.trans s22
        obtain ⟨F24, s24, w24, q24⟩ : ∃ F', Same F22 F' ∧ W F' _ ((p9, .lst vs12_0) :: os) ∧ F' p22 = some (.lst us22) := w22.freezeE (pre := [])
        replace q1 := s24 _ _ q1
        replace h2 := A2.mono s24 h2
        replace q2 := s24 _ _ q2
        replace h4 := A2.mono s24 h4
        replace q4 := s24 _ _ q4
        replace g5 := A2.mono s24 g5
        replace q7 := s24 _ _ q7
        replace r16 := Rep.mono s24 r16
        replace h12_0 := A2.mono s24 h12_0
        replace r18 := Rep.mono s24 r18
        replace r20 := Rep.mono s24 r20
        replace g22 := A2.mono s24 g22
        replace sF := sF.trans s24
        refine ⟨(by show 3 ≤ sizeLine; decide), fun p25 n25 => ?_⟩
        obtain ⟨F25, s25, w25, q25⟩ := w24.frzE (o := .tup [u18, x12, (.ref p22)]) n25
        replace q1 := s25 _ _ q1
        replace h2 := A2.mono s25 h2
        replace q2 := s25 _ _ q2
        replace h4 := A2.mono s25 h4
        replace q4 := s25 _ _ q4
        replace g5 := A2.mono s25 g5
        replace q7 := s25 _ _ q7
        replace r16 := Rep.mono s25 r16
        replace h12_0 := A2.mono s25 h12_0
        replace r18 := Rep.mono s25 r18
        replace r20 := Rep.mono s25 r20
        replace g22 := A2.mono s25 g22
        replace q24 := s25 _ _ q24
        replace sF := sF.trans s25
        obtain ⟨l26, z26, e26, hm⟩ := pn_app hm
        refine ⟨_, _, _, rfl, rfl, (w25.get (pre := [])), (A2.lt h12_0 z26), ?_⟩
        have h26 : A2 (rep K F25) (vs12_0 ++ [(V.ref p25)]) l26 := e26 ▸ A2.snoc h12_0 (rep_nt3 q25 r18 r16 (rep_lst q24 g22))
        have w27 : W F25 _ ((p9, .lst (vs12_0 ++ [(V.ref p25)])) :: os) := w25.set (pre := [])
        exact hN12 _ (post_ok hm) _ _ ⟨_, _, _, rfl, (s12.trans (s22.trans (s24.trans s25))), w27, h26⟩
      intro g12 σ12 H12 hI hm
      obtain ⟨F12, vs12_0, o12_6, rfl, s12, w12, h12_0⟩ := hI
      replace q1 := s12 _ _ q1
      replace h2 := A2.mono s12 h2
      replace q2 := s12 _ _ q2
      replace h4 := A2.mono s12 h4
      replace q4 := s12 _ _ q4
      replace g5 := A2.mono s12 g5
      replace q7 := s12 _ _ q7
      replace h13 := A2.mono s12 h13
      replace q15 := s12 _ _ q15
      replace sF := sF.trans s12
      exact hN10 _ (post_ok hm) _ _ ⟨_, _, _, _, rfl, (s10.trans (s15.trans s12)), w12, h12_0⟩
    intro g10 σ10 H10 hI hm
    obtain ⟨F10, vs10_0, o10_6, o10_5, rfl, s10, w10, h10_0⟩ := hI
    replace q1 := s10 _ _ q1
    replace h2 := A2.mono s10 h2
    replace q2 := s10 _ _ q2
    replace h4 := A2.mono s10 h4
    replace q4 := s10 _ _ q4
    replace g5 := A2.mono s10 g5
    replace q7 := s10 _ _ q7
    replace sF := sF.trans s10
    obtain ⟨F28, s28, w28, q28⟩ : ∃ F', Same F10 F' ∧ W F' _ (os) ∧ F' p9 = some (.lst vs10_0) := w10.freezeE (pre := [])
    replace q1 := s28 _ _ q1
    replace h2 := A2.mono s28 h2
    replace q2 := s28 _ _ q2
    replace h4 := A2.mono s28 h4
    replace q4 := s28 _ _ q4
    replace g5 := A2.mono s28 g5
    replace q7 := s28 _ _ q7
    replace h10_0 := A2.mono s28 h10_0
    replace sF := sF.trans s28
    exact ⟨_, rfl, (post_ok hm) _ _ _ w28 sF (rep_lst q28 h10_0)⟩
def sp_law_fewest (K : Fg) : Sp := fun vs H Q E => ∃ (F : Hp) (os : List (Addr × HO)) (v__law_web_here : V) (x__law_web_here : (Int × (Tup (Int × Int)))) (v__law_pairs_here : V) (x__law_pairs_here : (List (Nt (Thing × Thing × (List Int) × Unit)))) (x__law_strength : Int), vs = [v__law_web_here, v__law_pairs_here, .int x__law_strength] ∧ W F H (os) ∧ rep K F v__law_web_here x__law_web_here ∧ rep K F v__law_pairs_here x__law_pairs_here ∧ Post (law_fewest x__law_web_here x__law_pairs_here x__law_strength) (Ret K F os Q) noX
theorem sc_law_fewest : FnScope ["_law_web_here", "_law_pairs_here", "_law_strength", "_law_counts", "_law_place", "_law_masks", "_law_one", "_law_other", "_law_places", "_law_mask", "_law_found", "_law_set"] ["_law_web_here", "_law_pairs_here", "_law_strength"] (defScope s_law_fewest) := ⟨rfl, rfl, rfl, by decide +kernel, rfl, by decide +kernel, by decide +kernel⟩
set_option maxHeartbeats 40000000 in
theorem ok_law_fewest (T : Tx K mg A FD) : FnOk P w K mg base CX0 1 (A 34) (FD 34) ["_law_web_here", "_law_pairs_here", "_law_strength"] (sp_law_fewest K) := by
  refine T.d34.fn.ok sc_law_fewest (fun vs H Q E h => ?_) (fun cdv Ar outer s H vs Q E hr h => ?_)
  · obtain ⟨F, os, v__law_web_here, x__law_web_here, v__law_pairs_here, x__law_pairs_here, x__law_strength, rfl, _⟩ := h
    rfl
  · obtain ⟨F0, os, v__law_web_here, x__law_web_here, v__law_pairs_here, x__law_pairs_here, x__law_strength, rfl, w0, r__law_web_here, r__law_pairs_here, hm⟩ := h
    have sF : Same F0 F0 := Same.refl _
    obtain ⟨a1, u1, z1, rfl, q1, r1a, r1b⟩ := r__law_web_here
    obtain rfl : u1 = V.int x__law_web_here.1 := r1a
    obtain ⟨a2, vs2, rfl, q2, h2⟩ := r1b
    obtain ⟨a3, vs3, rfl, q3, h3⟩ := r__law_pairs_here
    refine ⟨_, (pss_cons (ps_set (i := 3) sc_law_fewest.nd rfl (Or.inr rfl) (pe_lst (pa_cons pe_int pa_nil))) (pss_cons (ps_for PassesOwn.never rfl (pi_range1 (by rfl) T.n_range (pa_cons (pe_ix (ix_tupK (K := K) rfl) (pv 0) pe_int (fun _ _ => rfl)) pa_nil)) (pg_name (i := 4) sc_law_fewest.nd rfl (Or.inl rfl)) (pss_one (ps_set (i := 3) sc_law_fewest.nd rfl (Or.inr rfl) (pe_op op_cat (pv 3) (pe_lc (own := [("_law_one", 6)]) (g := gName 6) (by rfl) sc_law_fewest.nd (pi_listK (K := K) rfl (pv 3)) (blkOk_by (own := [("_law_one", 6)]) (N := ["_law_web_here", "_law_pairs_here", "_law_strength", "_law_counts", "_law_place", "_law_masks", "_law_one", "_law_other", "_law_places", "_law_mask", "_law_found", "_law_set"]) (sc := defScope s_law_fewest) (by decide +kernel)) (fun _ _ _ _ _ => (pg_name (i := 6) sc_law_fewest.nd rfl (Or.inl rfl))) (fun _ _ _ _ _ => pts_nil) (fun _ _ _ _ _ => (pe_op op_add (pv 6) pe_int))))))) (pss_cons (ps_set (i := 5) sc_law_fewest.nd rfl (Or.inl rfl) (pe_lst pa_nil)) (pss_cons (ps_for PassesOwn.never rfl (pi_listK (K := K) rfl (pv 1)) (pg_k (K := K) (t := fun K => gTup K 3 _) rfl (pg_tup (n := 3) rfl (pgs_cons (pg_name (i := 6) sc_law_fewest.nd rfl (Or.inl rfl)) (pgs_cons (pg_name (i := 7) sc_law_fewest.nd rfl (Or.inl rfl)) (pgs_cons (pg_name (i := 8) sc_law_fewest.nd rfl (Or.inl rfl)) pgs_nil))))) (pss_cons (ps_set (i := 9) sc_law_fewest.nd rfl (Or.inl rfl) (pe_callB (cr_sumK (K := K) rfl rfl) (by rfl) T.n_sum (by decide +kernel) (pa_cons (pe_lc (own := [("_law_place", 4)]) (g := gName 4) (by rfl) sc_law_fewest.nd (pi_listK (K := K) rfl (pv 8)) (blkOk_by (own := [("_law_place", 4)]) (N := ["_law_web_here", "_law_pairs_here", "_law_strength", "_law_counts", "_law_place", "_law_masks", "_law_one", "_law_other", "_law_places", "_law_mask", "_law_found", "_law_set"]) (sc := defScope s_law_fewest) (by decide +kernel)) (fun _ _ _ _ _ => (pg_name (i := 4) sc_law_fewest.nd rfl (Or.inl rfl))) (fun _ _ _ _ _ => pts_nil) (fun _ _ _ _ _ => (pe_op op_shl pe_int (pv 4)))) pa_nil))) (pss_one (ps_if (pt_cmpR (op_notInL (K := K) rfl Int (by decide) (Room.units65 hr)) (pv 9) (pv 5) (by rfl)) (pss_one (ps_expr (pe_bm PySem.F.plainAttrs_list PySem.F.slot_list_append PySem.F.type_list_append mt_append (pv 5) (pa_cons (pv 9) pa_nil)))) pss_nil)))) (pss_cons (ps_set (i := 10) sc_law_fewest.nd rfl (Or.inl rfl) pe_non1) (pss_cons (ps_for PassesOwn.never rfl (pi_range1 (by rfl) T.n_range (pa_cons (pe_callB (call_lenN (K := K) rfl) (by rfl) T.n_len (by decide +kernel) (pa_cons (pv 3) pa_nil)) pa_nil)) (pg_name (i := 11) sc_law_fewest.nd rfl (Or.inr rfl)) (pss_one (ps_if (PW.pt (pw_or (pt_cmpR op_isN2 (pv 10) pe_non (nomark _)) (pw_or1 (pt_cmp (pc_lt (pe_ix (ix_listK (K := K) rfl) (pv 3) (pv 11) (fun _ _ => rfl)) (pv 10)))))) (pss_one (ps_if (pt_val (pe_callB (cr_allK (K := K) rfl rfl) (by rfl) T.n_all (by decide +kernel) (pa_cons (pe_lc (own := [("_law_mask", 9)]) (g := gName 9) (by rfl) sc_law_fewest.nd (pi_listK (K := K) rfl (pv 5)) (blkOk_by (own := [("_law_mask", 9)]) (N := ["_law_web_here", "_law_pairs_here", "_law_strength", "_law_counts", "_law_place", "_law_masks", "_law_one", "_law_other", "_law_places", "_law_mask", "_law_found", "_law_set"]) (sc := defScope s_law_fewest) (by decide +kernel)) (fun _ _ _ _ _ => (pg_name (i := 9) sc_law_fewest.nd rfl (Or.inl rfl))) (fun _ _ _ _ _ => pts_nil) (fun _ _ _ _ _ => (pe_cmp (pc_ge (pe_ix (ix_listK (K := K) rfl) (pv 3) (pe_op op_and (pv 9) (pv 11)) (fun _ _ => rfl)) (pv 2))))) pa_nil))) (pss_one (ps_set (i := 10) sc_law_fewest.nd rfl (Or.inl rfl) (pe_ix (ix_listK (K := K) rfl) (pv 3) (pv 11) (fun _ _ => rfl)))) pss_nil)) pss_nil))) (pss_one (ps_ret (pv 10))))))))), ?_⟩
    have h4 : A2 (rep K F0) [(.int 0)] ([(0 : Int)] : (List Int)) := .cons rep_i (.nil)
    refine ⟨(by show 1 ≤ sizeLine; decide), fun p5 n5 => ?_⟩
    have w5 : W F0 _ ((p5, .lst [(.int 0)]) :: os) := w0.new n5
    obtain ⟨F6, s6, w6, q6⟩ : ∃ F', Same F0 F' ∧ W F' _ (os) ∧ F' p5 = some (.lst [(.int 0)]) := w5.freezeE (pre := [])
    replace q1 := s6 _ _ q1
    replace q2 := s6 _ _ q2
    replace h2 := A2.mono s6 h2
    replace q3 := s6 _ _ q3
    replace h3 := A2.mono s6 h3
    replace h4 := A2.mono s6 h4
    replace sF := sF.trans s6
    obtain ⟨c8, hm⟩ := pb_rng hm
    refine ⟨_, rfl, _, _, _, _, rfl, rfl, SqT.of (w6.same _ _ q1), rfl, _, rfl, c8.2.2.1, c8.2.2.2, ?_⟩
    refine forS (tw_rng0 (j := x__law_web_here.1)) hm (fun (g7 : (List Int)) σ H' => ∃ (F' : Hp) (v7_3 : V) (o7_4 : Option V), σ = [some (.ref a1), some (.ref a3), some (.int x__law_strength), some v7_3, o7_4, none, none, none, none, none, none, none] ∧ Same F6 F' ∧ W F' H' (os) ∧ rep K F' v7_3 (g7 : (List Int))) ⟨_, _, _, rfl, Same.refl _, w6, (rep_lst q6 h4)⟩ (fun _ _ _ _ => trivial) ?_ ?_
    · -- a turn
      intro b7 g7 x7 σ7 H7 H7' N7 P7 hI hy hN7 hm
      obtain ⟨F7, v7_3, o7_4, rfl, s7, w7, r7_3⟩ := hI
      replace q1 := s7 _ _ q1
      replace h2 := A2.mono s7 h2
      replace q2 := s7 _ _ q2
      replace h3 := A2.mono s7 h3
      replace q3 := s7 _ _ q3
      replace h4 := A2.mono s7 h4
      replace q6 := s7 _ _ q6
      replace sF := sF.trans s7
      obtain ⟨a9, vs9, rfl, q9, h9⟩ := r7_3
      obtain ⟨rfl, rfl⟩ := hy
      refine ⟨_, rfl, _, rfl, _, rfl, ⟨_, SqL.of (w7.same _ _ q9)⟩, fun D10 nD10 => ?_⟩
      refine lcM (K := K) (tw_list (a := a9) h9) hm w7 nD10 (fun F' H' acc s w => SqL.of (w.same _ _ (s _ _ q9))) ?_ ?_
      · -- one turn
        intro b10 x10 F10 H10 H10' acc10 N10 P10 s10 w10 y10 hN10 hm
        replace q1 := s10 _ _ q1
        replace h2 := A2.mono s10 h2
        replace q2 := s10 _ _ q2
        replace h3 := A2.mono s10 h3
        replace q3 := s10 _ _ q3
        replace h9 := A2.mono s10 h9
        replace q9 := s10 _ _ q9
        replace sF := sF.trans s10
        obtain ⟨rfl, r12⟩ := y10
        obtain rfl : x10 = V.int b10 := r12
        exact ⟨rfl, _, rfl, _, _, rfl, rfl, hN10 _ (post_ok hm) _ _ _ w10 (Same.refl _) rep_i⟩
      intro us10 F10 H10 ys10 s10 w10 gg10 hm
      replace q1 := s10 _ _ q1
      replace h2 := A2.mono s10 h2
      replace q2 := s10 _ _ q2
      replace h3 := A2.mono s10 h3
      replace q3 := s10 _ _ q3
      replace h9 := A2.mono s10 h9
      replace q9 := s10 _ _ q9
      replace sF := sF.trans s10
      obtain ⟨l14, z14, e14, hm⟩ := pn_extend hm
      have h14 : A2 (rep K F10) (vs9 ++ us10) l14 := e14 ▸ A2.append h9 gg10
      refine ⟨_, _, _, _, rfl, rfl, (w10.same _ _ q9), (w10.get (pre := [])), (A2.le2 h9 gg10 z14), fun p15 n15 => ?_⟩
      have w15 : W F10 _ ((p15, .lst (vs9 ++ us10)) :: (D10, .lst us10) :: os) := w10.new n15
      obtain ⟨F16, s16, w16, q16⟩ : ∃ F', Same F10 F' ∧ W F' _ ((D10, .lst us10) :: os) ∧ F' p15 = some (.lst (vs9 ++ us10)) := w15.freezeE (pre := [])
      replace q1 := s16 _ _ q1
      replace h2 := A2.mono s16 h2
      replace q2 := s16 _ _ q2
      replace h3 := A2.mono s16 h3
      replace q3 := s16 _ _ q3
      replace h9 := A2.mono s16 h9
      replace q9 := s16 _ _ q9
      replace gg10 := A2.mono s16 gg10
      replace h14 := A2.mono s16 h14
      replace sF := sF.trans s16
      have w17 : W F16 _ (os) := w16.drop (pre := [])
      exact hN7 _ (post_ok hm) _ _ ⟨_, _, _, rfl, (s7.trans (s10.trans s16)), w17, (rep_lst q16 h14)⟩
    intro g7 σ7 H7 hI hm
    obtain ⟨F7, v7_3, o7_4, rfl, s7, w7, r7_3⟩ := hI
    replace q1 := s7 _ _ q1
    replace h2 := A2.mono s7 h2
    replace q2 := s7 _ _ q2
    replace h3 := A2.mono s7 h3
    replace q3 := s7 _ _ q3
    replace h4 := A2.mono s7 h4
    replace q6 := s7 _ _ q6
    replace sF := sF.trans s7
    obtain ⟨a18, vs18, rfl, q18, h18⟩ := r7_3
    have h19 : A2 (rep K F7) [] ([] : (List Int)) := .nil
    refine ⟨(by show 0 ≤ sizeLine; decide), fun p20 n20 => ?_⟩
    have w20 : W F7 _ ((p20, .lst []) :: os) := w7.new n20
    refine ⟨_, rfl, _, rfl, ⟨_, SqL.of (w20.same _ _ q3)⟩, ?_⟩
    refine forS (tw_list (a := a3) h3) hm (fun (g21 : (List Int)) σ H' => ∃ (F' : Hp) (vs21_0 : List V) (o21_9 : Option V) (o21_6 : Option V) (o21_7 : Option V) (o21_8 : Option V), σ = [some (.ref a1), some (.ref a3), some (.int x__law_strength), some (.ref a18), o7_4, some (.ref p20), o21_6, o21_7, o21_8, o21_9, none, none] ∧ Same F7 F' ∧ W F' H' ((p20, .lst vs21_0) :: os) ∧ A2 (rep K F') vs21_0 g21) ⟨_, _, _, _, _, _, rfl, Same.refl _, w20, h19⟩ (fun g σ H' hI => by obtain ⟨F', _, _, _, _, _, _, s, w, _⟩ := hI; exact SqL.of (w.same _ _ (s _ _ q3))) ?_ ?_
    · -- a turn
      intro b21 g21 x21 σ21 H21 H21' N21 P21 hI hy hN21 hm
      obtain ⟨F21, vs21_0, o21_9, o21_6, o21_7, o21_8, rfl, s21, w21, h21_0⟩ := hI
      replace q1 := s21 _ _ q1
      replace h2 := A2.mono s21 h2
      replace q2 := s21 _ _ q2
      replace h3 := A2.mono s21 h3
      replace q3 := s21 _ _ q3
      replace h18 := A2.mono s21 h18
      replace q18 := s21 _ _ q18
      replace sF := sF.trans s21
      obtain ⟨rfl, r22⟩ := hy
      replace r22 := Rep.mono s21 r22
      obtain ⟨a23, u23_0, u23_1, u23_2, rfl, q23, r23_0, r23_1, r23_2⟩ := nt3 r22
      replace r23_0 : rep K F21 u23_0 (b21.v.1 : Thing) := r23_0
      replace r23_1 : rep K F21 u23_1 (b21.v.2.1 : Thing) := r23_1
      replace r23_2 : rep K F21 u23_2 (b21.v.2.2.1 : (List Int)) := r23_2
      obtain ⟨a26, vs26, rfl, q26, h26⟩ := r23_2
      refine ⟨_, _, rfl, SqT.of (w21.same _ _ q23), rfl, _, _, rfl, _, _, rfl, _, _, rfl, rfl, _, rfl, _, rfl, ⟨_, SqL.of (w21.same _ _ q26)⟩, fun D27 nD27 => ?_⟩
      refine lcM (K := K) (tw_list (a := a26) h26) hm w21 nD27 (fun F' H' acc s w => SqL.of (w.same _ _ (s _ _ q26))) ?_ ?_
      · -- one turn
        intro b27 x27 F27 H27 H27' acc27 N27 P27 s27 w27 y27 hN27 hm
        replace q1 := s27 _ _ q1
        replace h2 := A2.mono s27 h2
        replace q2 := s27 _ _ q2
        replace h3 := A2.mono s27 h3
        replace q3 := s27 _ _ q3
        replace h18 := A2.mono s27 h18
        replace q18 := s27 _ _ q18
        replace r23_0 := Rep.mono s27 r23_0
        replace r23_1 := Rep.mono s27 r23_1
        replace h26 := A2.mono s27 h26
        replace q26 := s27 _ _ q26
        replace h21_0 := A2.mono s27 h21_0
        replace sF := sF.trans s27
        obtain ⟨rfl, r29⟩ := y27
        obtain rfl : x27 = V.int b27 := r29
        obtain ⟨c30, hm⟩ := pb_shl hm
        exact ⟨rfl, _, rfl, _, _, rfl, rfl, c30, hN27 _ (post_ok hm) _ _ _ w27 (Same.refl _) rep_i⟩
      intro us27 F27 H27 ys27 s27 w27 gg27 hm
      replace q1 := s27 _ _ q1
      replace h2 := A2.mono s27 h2
      replace q2 := s27 _ _ q2
      replace h3 := A2.mono s27 h3
      replace q3 := s27 _ _ q3
      replace h18 := A2.mono s27 h18
      replace q18 := s27 _ _ q18
      replace r23_0 := Rep.mono s27 r23_0
      replace r23_1 := Rep.mono s27 r23_1
      replace h26 := A2.mono s27 h26
      replace q26 := s27 _ _ q26
      replace h21_0 := A2.mono s27 h21_0
      replace sF := sF.trans s27
      have w32 : W F27 _ ((p20, .lst vs21_0) :: os) := w27.drop (pre := [])
      refine ⟨_, _, rfl, ints_q (SqL.of (w27.get (pre := []))) gg27, _, rfl, _, rfl, ((ys27.sum) : Int), _, rep_i, (rep_own (pre := []) w32 h21_0), _, rfl, ?_⟩
      refine post_ite hm (fun k33 hm => ?_) (fun k33 hm => ?_)
      · skip
        obtain ⟨l34, z34, e34, hm⟩ := pn_app hm
        refine ⟨_, rfl, .inl ⟨rfl, _, SqL.of (w32.get (pre := []))⟩, _, rfl, _, _, _, rfl, rfl, (w32.get (pre := [])), (A2.lt h21_0 z34), ?_⟩
        have h34 : A2 (rep K F27) (vs21_0 ++ [(V.int (ys27.sum))]) l34 := e34 ▸ A2.snoc h21_0 rep_i
        have w35 : W F27 _ ((p20, .lst (vs21_0 ++ [(V.int (ys27.sum))])) :: os) := w32.set (pre := [])
        exact hN21 _ (post_ok hm) _ _ ⟨_, _, _, _, _, _, rfl, (s21.trans s27), w35, h34⟩
      · skip
        exact hN21 _ (post_ok hm) _ _ ⟨_, _, _, _, _, _, rfl, (s21.trans s27), w32, h21_0⟩
    intro g21 σ21 H21 hI hm
    obtain ⟨F21, vs21_0, o21_9, o21_6, o21_7, o21_8, rfl, s21, w21, h21_0⟩ := hI
    replace q1 := s21 _ _ q1
    replace h2 := A2.mono s21 h2
    replace q2 := s21 _ _ q2
    replace h3 := A2.mono s21 h3
    replace q3 := s21 _ _ q3
    replace h18 := A2.mono s21 h18
    replace q18 := s21 _ _ q18
    replace sF := sF.trans s21
    have r36 : rep K F21 .non (none : (Option Int)) := rep_none
    obtain ⟨c38, hm⟩ := pb_rng hm
    refine ⟨trivial, _, rfl, _, _, _, rfl, .inl (SqL.of (w21.same _ _ q18)), h18.length, _, rfl, c38.2.2.1, c38.2.2.2, ?_⟩
    refine forS (tw_rng0 (j := (g7.length : Int))) hm (fun (g37 : (Option Int)) σ H' => ∃ (F' : Hp) (v37_10 : V) (o37_11 : Option V), σ = [some (.ref a1), some (.ref a3), some (.int x__law_strength), some (.ref a18), o7_4, some (.ref p20), o21_6, o21_7, o21_8, o21_9, some v37_10, o37_11] ∧ Same F21 F' ∧ W F' H' ((p20, .lst vs21_0) :: os) ∧ rep K F' v37_10 (g37 : (Option Int))) ⟨_, _, _, rfl, Same.refl _, w21, r36⟩ (fun _ _ _ _ => trivial) ?_ ?_
    · -- a turn
      intro b37 g37 x37 σ37 H37 H37' N37 P37 hI hy hN37 hm
      obtain ⟨F37, v37_10, o37_11, rfl, s37, w37, r37_10⟩ := hI
      replace q1 := s37 _ _ q1
      replace h2 := A2.mono s37 h2
      replace q2 := s37 _ _ q2
      replace h3 := A2.mono s37 h3
      replace q3 := s37 _ _ q3
      replace h18 := A2.mono s37 h18
      replace q18 := s37 _ _ q18
      replace r36 := Rep.mono s37 r36
      replace h21_0 := A2.mono s37 h21_0
      replace sF := sF.trans s37
      obtain ⟨rfl, rfl⟩ := hy
      refine stepN ?_
      try dsimp only
      refine stepIf ?_
      refine joinT hm (fun (j40 : Bool) c H' => c = j40 ∧ ∃ (F' : Hp), Same F37 F' ∧ W F' H' ((p20, .lst vs21_0) :: os)) ?_ ?_
      · intro Q40 P40 q40 hm
        refine ⟨_, rfl, rfl, _, isN_eq r37_10, _, rfl, ?_⟩
        refine post_ite hm (fun k41 hm => ?_) (fun k41 hm => ?_)
        · skip
          exact q40 _ (post_ok hm) _ _ ⟨rfl, _, Same.refl _, w37⟩
        · skip
          obtain ⟨t43, e43, hm⟩ := pb_get hm
          obtain ⟨u43, f43, r43⟩ := A2.at h18 e43
          obtain rfl : u43 = V.int t43 := r43
          obtain ⟨t44, e44, hm⟩ := pb_ofO hm
          have r44 : rep K F37 v37_10 (some t44) := e44 ▸ r37_10
          replace r44 : v37_10 = V.int t44 := r44
          subst r44
          exact ⟨_, rfl, _, rfl, _, _, _, _, rfl, rfl, SqL.of (w37.same _ _ q18), f43, _, rfl, _, _, rfl, rfl, _, rfl, q40 _ (post_ok hm) _ _ ⟨rfl, _, Same.refl _, w37⟩⟩
      intro j40 c40 H40 hc40 hm
      obtain ⟨rfl, F40, s40, w40⟩ := hc40
      replace q1 := s40 _ _ q1
      replace h2 := A2.mono s40 h2
      replace q2 := s40 _ _ q2
      replace h3 := A2.mono s40 h3
      replace q3 := s40 _ _ q3
      replace h18 := A2.mono s40 h18
      replace q18 := s40 _ _ q18
      replace r37_10 := Rep.mono s40 r37_10
      replace h21_0 := A2.mono s40 h21_0
      replace sF := sF.trans s40
      refine post_ite hm (fun k46 hm => ?_) (fun k46 hm => ?_)
      · skip
        refine ⟨_, rfl, _, rfl, ⟨_, SqL.of (w40.get (pre := []))⟩, fun D47 nD47 => ?_⟩
        refine lcM (K := K) (tw_list (a := p20) h21_0) hm w40 nD47 (fun F' H' acc s w => SqL.of (w.get (pre := [_]))) ?_ ?_
        · -- one turn
          intro b47 x47 F47 H47 H47' acc47 N47 P47 s47 w47 y47 hN47 hm
          replace q1 := s47 _ _ q1
          replace h2 := A2.mono s47 h2
          replace q2 := s47 _ _ q2
          replace h3 := A2.mono s47 h3
          replace q3 := s47 _ _ q3
          replace h18 := A2.mono s47 h18
          replace q18 := s47 _ _ q18
          replace r37_10 := Rep.mono s47 r37_10
          replace h21_0 := A2.mono s47 h21_0
          replace sF := sF.trans s47
          obtain ⟨rfl, r49⟩ := y47
          obtain rfl : x47 = V.int b47 := r49
          obtain ⟨t51, e51, hm⟩ := pb_get hm
          obtain ⟨u51, f51, r51⟩ := A2.at h18 e51
          obtain rfl : u51 = V.int t51 := r51
          exact ⟨rfl, _, rfl, _, rfl, _, rfl, _, _, rfl, rfl, _, _, _, _, rfl, rfl, SqL.of (w47.same _ _ q18), f51, _, rfl, _, _, rfl, rfl, hN47 _ (post_ok hm) _ _ _ w47 (Same.refl _) rep_b⟩
        intro us47 F47 H47 ys47 s47 w47 gg47 hm
        replace q1 := s47 _ _ q1
        replace h2 := A2.mono s47 h2
        replace q2 := s47 _ _ q2
        replace h3 := A2.mono s47 h3
        replace q3 := s47 _ _ q3
        replace h18 := A2.mono s47 h18
        replace q18 := s47 _ _ q18
        replace r37_10 := Rep.mono s47 r37_10
        replace h21_0 := A2.mono s47 h21_0
        replace sF := sF.trans s47
        refine ⟨_, _, rfl, bools_q (SqL.of (w47.get (pre := []))) gg47, _, rfl, ?_⟩
        have w53 : W F47 _ ((p20, .lst vs21_0) :: os) := w47.drop (pre := [])
        refine post_ite hm (fun k54 hm => ?_) (fun k54 hm => ?_)
        · skip
          obtain ⟨t55, e55, hm⟩ := pb_get hm
          obtain ⟨u55, f55, r55⟩ := A2.at h18 e55
          obtain rfl : u55 = V.int t55 := r55
          have r56 : rep K F47 (.int t55) ((some t55) : (Option Int)) := (rep_some rep_i)
          exact ⟨_, rfl, _, rfl, _, _, _, _, rfl, rfl, SqL.of (w53.same _ _ q18), f55, hN37 _ (post_ok hm) _ _ ⟨_, _, _, rfl, (s37.trans (s40.trans s47)), w53, r56⟩⟩
        · skip
          exact hN37 _ (post_ok hm) _ _ ⟨_, _, _, rfl, (s37.trans (s40.trans s47)), w53, r37_10⟩
      · skip
        exact hN37 _ (post_ok hm) _ _ ⟨_, _, _, rfl, (s37.trans s40), w40, r37_10⟩
    intro g37 σ37 H37 hI hm
    obtain ⟨F37, v37_10, o37_11, rfl, s37, w37, r37_10⟩ := hI
    replace q1 := s37 _ _ q1
    replace h2 := A2.mono s37 h2
    replace q2 := s37 _ _ q2
    replace h3 := A2.mono s37 h3
    replace q3 := s37 _ _ q3
    replace h18 := A2.mono s37 h18
    replace q18 := s37 _ _ q18
    replace r36 := Rep.mono s37 r36
    replace h21_0 := A2.mono s37 h21_0
    replace sF := sF.trans s37
    have w58 : W F37 _ (os) := w37.drop (pre := [])
    exact ⟨_, rfl, (post_ok hm) _ _ _ w58 sF r37_10⟩
def sp_law_right (K : Fg) : Sp := fun vs H Q E => ∃ (F : Hp) (os : List (Addr × HO)) (v__law_web_here : V) (x__law_web_here : (Int × (Tup (Int × Int)))) (v__law_pairs_here : V) (x__law_pairs_here : (List (Nt (Thing × Thing × (List Int) × Unit)))) (x__law_strength : Int) (v__law_found : V) (x__law_found : Fw), vs = [v__law_web_here, v__law_pairs_here, .int x__law_strength, v__law_found] ∧ W F H (os) ∧ rep K F v__law_web_here x__law_web_here ∧ rep K F v__law_pairs_here x__law_pairs_here ∧ rep K F v__law_found x__law_found ∧ Post (law_right x__law_web_here x__law_pairs_here x__law_strength x__law_found) (Ret K F os Q) noX
theorem sc_law_right : FnScope ["_law_web_here", "_law_pairs_here", "_law_strength", "_law_found", "_law_least", "_law_one", "_law_other", "_law_places", "_law_word", "_law_looks", "_law_tree", "_law_place", "_law_look"] ["_law_web_here", "_law_pairs_here", "_law_strength", "_law_found"] (defScope s_law_right) := ⟨rfl, rfl, rfl, by decide +kernel, rfl, by decide +kernel, by decide +kernel⟩
set_option maxHeartbeats 40000000 in
theorem ok_law_right (T : Tx K mg A FD) : FnOk P w K mg base CX0 2 (A 35) (FD 35) ["_law_web_here", "_law_pairs_here", "_law_strength", "_law_found"] (sp_law_right K) := by
  refine T.d35.fn.ok sc_law_right (fun vs H Q E h => ?_) (fun cdv Ar outer s H vs Q E hr h => ?_)
  · obtain ⟨F, os, v__law_web_here, x__law_web_here, v__law_pairs_here, x__law_pairs_here, x__law_strength, v__law_found, x__law_found, rfl, _⟩ := h
    rfl
  · obtain ⟨F0, os, v__law_web_here, x__law_web_here, v__law_pairs_here, x__law_pairs_here, x__law_strength, v__law_found, x__law_found, rfl, w0, r__law_web_here, r__law_pairs_here, r__law_found, hm⟩ := h
    have sF : Same F0 F0 := Same.refl _
    obtain ⟨a1, u1, z1, rfl, q1, r1a, r1b⟩ := r__law_web_here
    obtain rfl : u1 = V.int x__law_web_here.1 := r1a
    obtain ⟨a2, vs2, rfl, q2, h2⟩ := r1b
    obtain ⟨a3, vs3, rfl, q3, h3⟩ := r__law_pairs_here
    have r4 : rep K F0 v__law_found (x__law_found : Fw) := r__law_found
    obtain ⟨a4, u4a, u4b, rfl, q4⟩ := fw_open r4
    refine ⟨_, (pss_cons (ps_set (i := 4) sc_law_right.nd rfl (Or.inl rfl) (pe_call (ok_law_fewest T) (hr.mono (by decide)) (by rfl) T.d34.mg T.d34.fn.kp T.d34.b .nil pass0 (pa_cons (pv 0) (pa_cons (pv 1) (pa_cons (pv 2) pa_nil))))) (pss_cons (ps_if (PW.pt (pw_or (pt_not (pt_val (pe_callB (call_isB (K := K) rfl) (by rfl) T.n_isinstance (by decide +kernel) (pa_cons (pv 3) (pa_cons (pe_bltn (v := .ty "tuple") (by rfl) T.n_tuple (by decide +kernel) rfl) pa_nil))))) (pw_or1 (pt_cmp (pc_neI (pe_callB (call_lenN (K := K) rfl) (by rfl) T.n_len (by decide +kernel) (pa_cons (pv 3) pa_nil)) pe_int))))) (pss_one (ps_ret pe_bl)) pss_nil) (pss_cons (ps_if (pt_cmpR op_isN2 (pv 4) pe_non (nomark _)) (pss_cons (ps_for PassesOwn.never rfl (pi_listK (K := K) rfl (pv 1)) (pg_k (K := K) (t := fun K => gTup K 3 _) rfl (pg_tup (n := 3) rfl (pgs_cons (pg_name (i := 5) sc_law_right.nd rfl (Or.inl rfl)) (pgs_cons (pg_name (i := 6) sc_law_right.nd rfl (Or.inl rfl)) (pgs_cons (pg_name (i := 7) sc_law_right.nd rfl (Or.inl rfl)) pgs_nil))))) (pss_one (ps_if (pt_cmpR (op_eqDt (K := K) rfl FwS (by decide) hr.units) (pv 3) (pe_tup (pa_cons pe_str (pa_cons (pv 5) (pa_cons (pv 6) pa_nil)))) (nomark _)) (pss_one (ps_ret (pe_cmp (pc_lt (pe_callB (call_lenN (K := K) rfl) (by rfl) T.n_len (by decide +kernel) (pa_cons (pv 7) pa_nil)) (pv 2))))) pss_nil))) (pss_one (ps_ret pe_bl))) pss_nil) (pss_cons (ps_asg (pv 3) (pg_k (K := K) (t := fun K => gTup K 3 _) rfl (pg_tup (n := 3) rfl (pgs_cons (pg_name (i := 8) sc_law_right.nd rfl (Or.inl rfl)) (pgs_cons (pg_name (i := 9) sc_law_right.nd rfl (Or.inr rfl)) (pgs_cons (pg_name (i := 10) sc_law_right.nd rfl (Or.inl rfl)) pgs_nil)))))) (pss_cons (ps_if (PW.pt (pw_or (pt_cmpR op_neS (pv 8) pe_str (nomark _)) (pw_or (pt_not (pt_val (pe_callB (call_isB (K := K) rfl) (by rfl) T.n_isinstance (by decide +kernel) (pa_cons (pv 9) (pa_cons (pe_bltn (v := .ty "list") (by rfl) T.n_list (by decide +kernel) rfl) pa_nil))))) (pw_or1 (pt_cmpR (op_neDt (K := K) rfl (Option Int) (by decide) hr.units) (pe_callB (call_lenN (K := K) rfl) (by rfl) T.n_len (by decide +kernel) (pa_cons (pv 9) pa_nil)) (pv 4) (nomark _)))))) (pss_one (ps_ret pe_bl)) pss_nil) (pss_cons (ps_if (pt_cmpR (op_neDt (K := K) rfl (List Int) (by decide) hr.units) (pv 9) (pe_lc (own := [("_law_place", 11)]) (g := gName 11) (by rfl) sc_law_right.nd (pi_range1 (by rfl) T.n_range (pa_cons (pe_ix (ix_tupK (K := K) rfl) (pv 0) pe_int (fun _ _ => rfl)) pa_nil)) (blkOk_by (own := [("_law_place", 11)]) (N := ["_law_web_here", "_law_pairs_here", "_law_strength", "_law_found", "_law_least", "_law_one", "_law_other", "_law_places", "_law_word", "_law_looks", "_law_tree", "_law_place", "_law_look"]) (sc := defScope s_law_right) (by decide +kernel)) (fun _ _ _ _ _ => (pg_name (i := 11) sc_law_right.nd rfl (Or.inl rfl))) (fun _ _ _ _ _ => (pts_one (pt_cmpR (op_inL (K := K) rfl Int (by decide) (Room.units65 hr)) (pv 11) (pv 9) (by rfl)))) (fun _ _ _ _ _ => (pv 11))) (nomark _)) (pss_one (ps_ret pe_bl)) pss_nil) (pss_cons (ps_if (pt_not (pt_val (pe_callB (cr_allK (K := K) rfl rfl) (by rfl) T.n_all (by decide +kernel) (pa_cons (pe_lc (own := [("_law_look", 12)]) (g := gName 12) (by rfl) sc_law_right.nd (pi_listK (K := K) rfl (pv 9)) (blkOk_by (own := [("_law_look", 12)]) (N := ["_law_web_here", "_law_pairs_here", "_law_strength", "_law_found", "_law_least", "_law_one", "_law_other", "_law_places", "_law_word", "_law_looks", "_law_tree", "_law_place", "_law_look"]) (sc := defScope s_law_right) (by decide +kernel)) (fun _ _ _ _ _ => (pg_name (i := 12) sc_law_right.nd rfl (Or.inl rfl))) (fun _ _ _ _ _ => pts_nil) (fun _ _ _ _ _ => (pe_and (pe_callB (call_isB (K := K) rfl) (by rfl) T.n_isinstance (by decide +kernel) (pa_cons (pv 12) (pa_cons (pe_bltn (v := .ty "int") (by rfl) T.n_int (by decide +kernel) rfl) pa_nil))) (pe_one (pe_not (pe_callB (call_isB (K := K) rfl) (by rfl) T.n_isinstance (by decide +kernel) (pa_cons (pv 12) (pa_cons (pe_bltn (v := .ty "bool") (by rfl) T.n_bool (by decide +kernel) rfl) pa_nil)))))))) pa_nil)))) (pss_one (ps_ret pe_bl)) pss_nil) (pss_cons (ps_for PassesOwn.never rfl (pi_listK (K := K) rfl (pv 1)) (pg_k (K := K) (t := fun K => gTup K 3 _) rfl (pg_tup (n := 3) rfl (pgs_cons (pg_name (i := 5) sc_law_right.nd rfl (Or.inl rfl)) (pgs_cons (pg_name (i := 6) sc_law_right.nd rfl (Or.inl rfl)) (pgs_cons (pg_name (i := 7) sc_law_right.nd rfl (Or.inl rfl)) pgs_nil))))) (pss_one (ps_if (pt_cmp (pc_lt (pe_callB (call_lenN (K := K) rfl) (by rfl) T.n_len (by decide +kernel) (pa_cons (pe_lc (own := [("_law_place", 11)]) (g := gName 11) (by rfl) sc_law_right.nd (pi_listK (K := K) rfl (pv 7)) (blkOk_by (own := [("_law_place", 11)]) (N := ["_law_web_here", "_law_pairs_here", "_law_strength", "_law_found", "_law_least", "_law_one", "_law_other", "_law_places", "_law_word", "_law_looks", "_law_tree", "_law_place", "_law_look"]) (sc := defScope s_law_right) (by decide +kernel)) (fun _ _ _ _ _ => (pg_name (i := 11) sc_law_right.nd rfl (Or.inl rfl))) (fun _ _ _ _ _ => (pts_one (pt_cmpR (op_inL (K := K) rfl Int (by decide) (Room.units65 hr)) (pv 11) (pv 9) (by rfl)))) (fun _ _ _ _ _ => (pv 11))) pa_nil)) (pv 2))) (pss_one (ps_ret pe_bl)) pss_nil))) (pss_one (ps_ret (pe_cmpR op_eqB (pe_cmpR op_isN2 (pv 10) pe_non (nomark _)) (pe_cmpR (op_eqDt (K := K) rfl (List (Nt (Thing × Thing × (List Int) × Unit))) (by decide) hr.units) (pv 1) (pe_lst pa_nil) (nomark _)) (nomark _)))))))))))), ?_⟩
    refine ⟨_, rfl, _, rfl, _, rfl, _, _, _, (x__law_web_here : (Int × (Tup (Int × Int)))), _, (x__law_pairs_here : (List (Nt (Thing × Thing × (List Int) × Unit)))), _, rfl, w0, (rep_pair q1 rep_i (rep_tup q2 h2)), (rep_lst q3 h3), ?_⟩
    refine (post_bind hm).mono (fun y5 hm v5 F5 H5 w5 s5 r5 => ?_) (fun _ z => z)
    replace q1 := s5 _ _ q1
    replace q2 := s5 _ _ q2
    replace h2 := A2.mono s5 h2
    replace q3 := s5 _ _ q3
    replace h3 := A2.mono s5 h3
    replace q4 := s5 _ _ q4
    replace r4 := Rep.mono s5 r4
    replace sF := sF.trans s5
    refine stepN ?_
    try dsimp only
    refine stepSeq (stepIf ?_)
    refine cutT (fun c H' => c = (((!true) || (!decide ((3 : Int) = (3 : Int))))) ∧ ∃ F', Same F5 F' ∧ W F' H' (os)) (fun Q7 q7 => ?_) (fun c7 H7 hc7 => ?_)
    · -- the ways
      refine ⟨_, rfl, _, _, _, true, rfl, (.tup (w5.same _ _ q4)), (by decide +kernel), _, rfl, ?_⟩
      refine ifB (fun k8 => ?_) (fun k8 => ?_)
      · skip
        exact q7 _ _ ⟨(by first | rfl | exact absurd k8 (by decide) | (simp [k8]; done) | ((try simp only [Bool.not_eq_true] at k8); simp only [k8, Bool.true_or, Bool.false_or, Bool.or_false, Bool.or_true, Bool.true_and, Bool.false_and, Bool.and_true, Bool.and_false])), _, Same.refl _, w5⟩
      · skip
        exact ⟨_, rfl, _, _, 3, rfl, .inr (SqT.of (w5.same _ _ q4)), rfl, _, _, rfl, rfl, _, rfl, q7 _ _ ⟨(by first | rfl | exact absurd k8 (by decide) | (simp [k8]; done) | ((try simp only [Bool.not_eq_true] at k8); simp only [k8, Bool.true_or, Bool.false_or, Bool.or_false, Bool.or_true, Bool.true_and, Bool.false_and, Bool.and_true, Bool.and_false])), _, Same.refl _, w5⟩⟩
    obtain ⟨rfl, F7, s7, w7⟩ := hc7
    replace q1 := s7 _ _ q1
    replace h2 := A2.mono s7 h2
    replace q2 := s7 _ _ q2
    replace h3 := A2.mono s7 h3
    replace q3 := s7 _ _ q3
    replace q4 := s7 _ _ q4
    replace r4 := Rep.mono s7 r4
    replace r5 := Rep.mono s7 r5
    replace sF := sF.trans s7
    refine post_ite hm (fun k11 hm => ?_) (fun k11 hm => ?_)
    · skip
      exact (post_ok hm) _ _ _ w7 sF rep_b
    · skip
      refine ⟨_, rfl, rfl, _, isN_eq r5, _, rfl, ?_⟩
      refine post_ite hm (fun k12 hm => ?_) (fun k12 hm => ?_)
      · skip
        refine ⟨_, rfl, _, rfl, ⟨_, SqL.of (w7.same _ _ q3)⟩, ?_⟩
        refine forX (tw_list (a := a3) h3) hm (fun (g13 : Unit) σ H' => ∃ (F' : Hp) (o13_5 : Option V) (o13_6 : Option V) (o13_7 : Option V), σ = [some (.ref a1), some (.ref a3), some (.int x__law_strength), some (.ref a4), some v5, o13_5, o13_6, o13_7, none, none, none, none, none] ∧ Same F7 F' ∧ W F' H' (os)) ⟨_, _, _, _, rfl, Same.refl _, w7⟩ (fun g σ H' hI => by obtain ⟨F', _, _, _, _, s, w⟩ := hI; exact SqL.of (w.same _ _ (s _ _ q3))) ?_ ?_
        · -- a turn
          intro b13 g13 x13 σ13 H13 H13' N13 B13 P13 hI hy hN13 hB13 hZ13 hm
          obtain ⟨F13, o13_5, o13_6, o13_7, rfl, s13, w13⟩ := hI
          replace q1 := s13 _ _ q1
          replace h2 := A2.mono s13 h2
          replace q2 := s13 _ _ q2
          replace h3 := A2.mono s13 h3
          replace q3 := s13 _ _ q3
          replace q4 := s13 _ _ q4
          replace r4 := Rep.mono s13 r4
          replace r5 := Rep.mono s13 r5
          replace sF := sF.trans s13
          obtain ⟨rfl, r14⟩ := hy
          replace r14 := Rep.mono s13 r14
          obtain ⟨a15, u15_0, u15_1, u15_2, rfl, q15, r15_0, r15_1, r15_2⟩ := nt3 r14
          replace r15_0 : rep K F13 u15_0 (b13.v.1 : Thing) := r15_0
          replace r15_1 : rep K F13 u15_1 (b13.v.2.1 : Thing) := r15_1
          replace r15_2 : rep K F13 u15_2 (b13.v.2.2.1 : (List Int)) := r15_2
          obtain ⟨a18, vs18, rfl, q18, h18⟩ := r15_2
          refine ⟨_, _, rfl, SqT.of (w13.same _ _ q15), rfl, _, _, rfl, _, _, rfl, _, _, rfl, rfl, _, rfl, _, rfl, _, rfl, (by show 3 ≤ sizeLine; decide), fun p19 n19 => ?_⟩
          obtain ⟨F19, s19, w19, q19⟩ := w13.frzE (o := .tup [(.str "never"), u15_0, u15_1]) n19
          replace q1 := s19 _ _ q1
          replace h2 := A2.mono s19 h2
          replace q2 := s19 _ _ q2
          replace h3 := A2.mono s19 h3
          replace q3 := s19 _ _ q3
          replace q4 := s19 _ _ q4
          replace r4 := Rep.mono s19 r4
          replace r5 := Rep.mono s19 r5
          replace r15_0 := Rep.mono s19 r15_0
          replace r15_1 := Rep.mono s19 r15_1
          replace h18 := A2.mono s19 h18
          replace q18 := s19 _ _ q18
          replace sF := sF.trans s19
          have r19 : rep K F19 (.ref p19) ((Fw.never b13.v.1 b13.v.2.1) : Fw) := (rep_nv q19 r15_0 r15_1)
          obtain ⟨t20, e20, hm⟩ := pb_fwS hm
          have r20 : rep K F19 (V.ref a4) (t20 : FwS) := rep_fwS e20 r4
          obtain ⟨t21, e21, hm⟩ := pb_fwS hm
          have r21 : rep K F19 (V.ref p19) (t21 : FwS) := rep_fwS e21 r19
          refine ⟨(t20 : FwS), (t21 : FwS), (Rep.mono w19.same r20), (Rep.mono w19.same r21), _, rfl, ?_⟩
          refine post_ite hm (fun k22 hm => ?_) (fun k22 hm => ?_)
          · skip
            have hm := hZ13 _ (post_ok hm)
            exact ⟨_, rfl, _, _, _, rfl, .inl (SqL.of (w19.same _ _ q18)), h18.length, _, rfl, _, _, rfl, rfl, (post_ok hm) _ _ _ w19 sF rep_b⟩
          · skip
            exact hN13 _ (post_ok hm) _ _ ⟨_, _, _, _, rfl, (s13.trans s19), w19⟩
        intro g13 σ13 H13 hI hm
        obtain ⟨F13, o13_5, o13_6, o13_7, rfl, s13, w13⟩ := hI
        replace q1 := s13 _ _ q1
        replace h2 := A2.mono s13 h2
        replace q2 := s13 _ _ q2
        replace h3 := A2.mono s13 h3
        replace q3 := s13 _ _ q3
        replace q4 := s13 _ _ q4
        replace r4 := Rep.mono s13 r4
        replace r5 := Rep.mono s13 r5
        replace sF := sF.trans s13
        exact (post_ok hm) _ _ _ w13 sF rep_b
      · skip
        obtain ⟨t23, e23, e23b, r23a, r23b, hm⟩ := pb_lk q4 r4 hm
        obtain ⟨a24, vs24, rfl, q24, h24⟩ := r23a
        refine ⟨_, rfl, _, _, rfl, SqT.of (w7.same _ _ q4), rfl, _, _, rfl, _, _, rfl, _, _, rfl, rfl, ?_⟩
        try dsimp only
        refine stepSeq (stepIf ?_)
        refine cutT (fun c H' => c = (((!decide (x__law_found.w = ("looks" : Str))) || ((!true) || (!decide ((some (t23.1.length : Int)) = y5))))) ∧ ∃ F', Same F7 F' ∧ W F' H' (os)) (fun Q26 q26 => ?_) (fun c26 H26 hc26 => ?_)
        · -- the ways
          refine ⟨_, rfl, _, _, rfl, rfl, _, rfl, ?_⟩
          refine ifB (fun k27 => ?_) (fun k27 => ?_)
          · skip
            exact q26 _ _ ⟨(by first | rfl | exact absurd k27 (by decide) | (simp [k27]; done) | ((try simp only [Bool.not_eq_true] at k27); simp only [k27, Bool.true_or, Bool.false_or, Bool.or_false, Bool.or_true, Bool.true_and, Bool.false_and, Bool.and_true, Bool.and_false])), _, Same.refl _, w7⟩
          · skip
            refine ⟨_, rfl, _, _, _, true, rfl, (.lst (w7.same _ _ q24)), (by decide +kernel), _, rfl, ?_⟩
            refine ifB (fun k29 => ?_) (fun k29 => ?_)
            · skip
              exact q26 _ _ ⟨(by first | rfl | exact absurd k27 (by decide) | exact absurd k29 (by decide) | (simp [k27, k29]; done) | ((try simp only [Bool.not_eq_true] at k27); (try simp only [Bool.not_eq_true] at k29); simp only [k27, k29, Bool.true_or, Bool.false_or, Bool.or_false, Bool.or_true, Bool.true_and, Bool.false_and, Bool.and_true, Bool.and_false])), _, Same.refl _, w7⟩
            · skip
              exact ⟨_, rfl, _, _, _, rfl, .inl (SqL.of (w7.same _ _ q24)), h24.length, _, rfl, ((some (t23.1.length : Int)) : (Option Int)), (y5 : (Option Int)), (Rep.mono w7.same (rep_some rep_i)), (Rep.mono w7.same r5), _, rfl, q26 _ _ ⟨(by first | rfl | exact absurd k27 (by decide) | exact absurd k29 (by decide) | (simp [k27, k29]; done) | ((try simp only [Bool.not_eq_true] at k27); (try simp only [Bool.not_eq_true] at k29); simp only [k27, k29, Bool.true_or, Bool.false_or, Bool.or_false, Bool.or_true, Bool.true_and, Bool.false_and, Bool.and_true, Bool.and_false])), _, Same.refl _, w7⟩⟩
        obtain ⟨rfl, F26, s26, w26⟩ := hc26
        replace q1 := s26 _ _ q1
        replace h2 := A2.mono s26 h2
        replace q2 := s26 _ _ q2
        replace h3 := A2.mono s26 h3
        replace q3 := s26 _ _ q3
        replace q4 := s26 _ _ q4
        replace r4 := Rep.mono s26 r4
        replace h24 := A2.mono s26 h24
        replace q24 := s26 _ _ q24
        replace r23b := Rep.mono s26 r23b
        replace r5 := Rep.mono s26 r5
        replace sF := sF.trans s26
        refine post_ite hm (fun k32 hm => ?_) (fun k32 hm => ?_)
        · skip
          exact (post_ok hm) _ _ _ w26 sF rep_b
        · skip
          obtain ⟨c33, hm⟩ := pb_rng hm
          refine ⟨_, rfl, _, rfl, _, _, _, _, rfl, rfl, SqT.of (w26.same _ _ q1), rfl, _, rfl, c33.2.2.1, c33.2.2.2, fun D34 nD34 => ?_⟩
          refine lcF (K := K) (tw_rng0 (j := x__law_web_here.1)) hm w26 nD34 (fun F' H' acc s w => trivial) ?_ ?_
          · -- one turn
            intro b34 x34 F34 H34 H34' acc34 N34 M34 P34 s34 w34 y34 hN34 hM34 hm
            replace q1 := s34 _ _ q1
            replace h2 := A2.mono s34 h2
            replace q2 := s34 _ _ q2
            replace h3 := A2.mono s34 h3
            replace q3 := s34 _ _ q3
            replace q4 := s34 _ _ q4
            replace r4 := Rep.mono s34 r4
            replace h24 := A2.mono s34 h24
            replace q24 := s34 _ _ q24
            replace r23b := Rep.mono s34 r23b
            replace r5 := Rep.mono s34 r5
            replace sF := sF.trans s34
            obtain ⟨rfl, rfl⟩ := y34
            refine ⟨rfl, _, rfl, _, rfl, (b34 : Int), _, rep_i, (Rep.mono w34.same (rep_lst q24 h24)), _, rfl, ?_⟩
            refine post_ite hm (fun k36 hm => ?_) (fun k36 hm => ?_)
            · skip
              exact ⟨_, rfl, hN34 _ (post_ok hm) _ _ _ w34 (Same.refl _) rep_i⟩
            · skip
              exact hM34 (post_ok hm) _ _ w34 (Same.refl _)
          intro us34 F34 H34 ys34 s34 w34 gg34 hm
          replace q1 := s34 _ _ q1
          replace h2 := A2.mono s34 h2
          replace q2 := s34 _ _ q2
          replace h3 := A2.mono s34 h3
          replace q3 := s34 _ _ q3
          replace q4 := s34 _ _ q4
          replace r4 := Rep.mono s34 r4
          replace h24 := A2.mono s34 h24
          replace q24 := s34 _ _ q24
          replace r23b := Rep.mono s34 r23b
          replace r5 := Rep.mono s34 r5
          replace sF := sF.trans s34
          refine ⟨(t23.1 : (List Int)), (ys34 : (List Int)), (Rep.mono w34.same (rep_lst q24 h24)), (rep_own (pre := []) w34 gg34), _, rfl, ?_⟩
          have w38 : W F34 _ (os) := w34.drop (pre := [])
          refine post_ite hm (fun k39 hm => ?_) (fun k39 hm => ?_)
          · skip
            exact (post_ok hm) _ _ _ w38 sF rep_b
          · skip
            refine ⟨_, rfl, _, rfl, ⟨_, SqL.of (w38.same _ _ q24)⟩, fun D40 nD40 => ?_⟩
            refine lcM (K := K) (tw_list (a := a24) h24) hm w38 nD40 (fun F' H' acc s w => SqL.of (w.same _ _ (s _ _ q24))) ?_ ?_
            · -- one turn
              intro b40 x40 F40 H40 H40' acc40 N40 P40 s40 w40 y40 hN40 hm
              replace q1 := s40 _ _ q1
              replace h2 := A2.mono s40 h2
              replace q2 := s40 _ _ q2
              replace h3 := A2.mono s40 h3
              replace q3 := s40 _ _ q3
              replace q4 := s40 _ _ q4
              replace r4 := Rep.mono s40 r4
              replace h24 := A2.mono s40 h24
              replace q24 := s40 _ _ q24
              replace r23b := Rep.mono s40 r23b
              replace r5 := Rep.mono s40 r5
              replace sF := sF.trans s40
              obtain ⟨rfl, r42⟩ := y40
              obtain rfl : x40 = V.int b40 := r42
              refine ⟨rfl, ?_⟩
              refine cutE (fun c H' => c = V.bl ((true && (!false))) ∧ ∃ F', Same F40 F' ∧ W F' H' ((D40, .lst acc40) :: os)) (fun Q43 q43 => ?_) (fun c43 H43 hc43 => ?_)
              · -- the ways
                refine ⟨_, rfl, _, _, _, true, rfl, (.int _), (by decide +kernel), _, rfl, ?_⟩
                refine ifB (fun k44 => ?_) (fun k44 => ?_)
                · skip
                  exact ⟨_, rfl, _, _, _, false, rfl, (.int _), (by decide +kernel), _, rfl, q43 _ _ ⟨(by first | rfl | exact absurd k44 (by decide) | (simp [k44]; done) | ((try simp only [Bool.not_eq_true] at k44); simp only [k44, Bool.true_or, Bool.false_or, Bool.or_false, Bool.or_true, Bool.true_and, Bool.false_and, Bool.and_true, Bool.and_false])), _, Same.refl _, w40⟩⟩
                · skip
                  exact q43 _ _ ⟨(by first | rfl | exact absurd k44 (by decide) | (simp [k44]; done) | ((try simp only [Bool.not_eq_true] at k44); simp only [k44, Bool.true_or, Bool.false_or, Bool.or_false, Bool.or_true, Bool.true_and, Bool.false_and, Bool.and_true, Bool.and_false])), _, Same.refl _, w40⟩
              obtain ⟨rfl, F43, s43, w43⟩ := hc43
              replace q1 := s43 _ _ q1
              replace h2 := A2.mono s43 h2
              replace q2 := s43 _ _ q2
              replace h3 := A2.mono s43 h3
              replace q3 := s43 _ _ q3
              replace q4 := s43 _ _ q4
              replace r4 := Rep.mono s43 r4
              replace h24 := A2.mono s43 h24
              replace q24 := s43 _ _ q24
              replace r23b := Rep.mono s43 r23b
              replace r5 := Rep.mono s43 r5
              replace sF := sF.trans s43
              exact hN40 _ (post_ok hm) _ _ _ w43 s43 rep_b
            intro us40 F40 H40 ys40 s40 w40 gg40 hm
            replace q1 := s40 _ _ q1
            replace h2 := A2.mono s40 h2
            replace q2 := s40 _ _ q2
            replace h3 := A2.mono s40 h3
            replace q3 := s40 _ _ q3
            replace q4 := s40 _ _ q4
            replace r4 := Rep.mono s40 r4
            replace h24 := A2.mono s40 h24
            replace q24 := s40 _ _ q24
            replace r23b := Rep.mono s40 r23b
            replace r5 := Rep.mono s40 r5
            replace sF := sF.trans s40
            refine ⟨_, _, rfl, bools_q (SqL.of (w40.get (pre := []))) gg40, _, rfl, ?_⟩
            have w48 : W F40 _ (os) := w40.drop (pre := [])
            refine post_ite hm (fun k49 hm => ?_) (fun k49 hm => ?_)
            · skip
              exact (post_ok hm) _ _ _ w48 sF rep_b
            · skip
              refine ⟨_, rfl, _, rfl, ⟨_, SqL.of (w48.same _ _ q3)⟩, ?_⟩
              refine forX (tw_list (a := a3) h3) hm (fun (g50 : Unit) σ H' => ∃ (F' : Hp) (o50_5 : Option V) (o50_6 : Option V) (o50_7 : Option V), σ = [some (.ref a1), some (.ref a3), some (.int x__law_strength), some (.ref a4), some v5, o50_5, o50_6, o50_7, some (.str x__law_found.w), some (.ref a24), some u4b, none, none] ∧ Same F40 F' ∧ W F' H' (os)) ⟨_, _, _, _, rfl, Same.refl _, w48⟩ (fun g σ H' hI => by obtain ⟨F', _, _, _, _, s, w⟩ := hI; exact SqL.of (w.same _ _ (s _ _ q3))) ?_ ?_
              · -- a turn
                intro b50 g50 x50 σ50 H50 H50' N50 B50 P50 hI hy hN50 hB50 hZ50 hm
                obtain ⟨F50, o50_5, o50_6, o50_7, rfl, s50, w50⟩ := hI
                replace q1 := s50 _ _ q1
                replace h2 := A2.mono s50 h2
                replace q2 := s50 _ _ q2
                replace h3 := A2.mono s50 h3
                replace q3 := s50 _ _ q3
                replace q4 := s50 _ _ q4
                replace r4 := Rep.mono s50 r4
                replace h24 := A2.mono s50 h24
                replace q24 := s50 _ _ q24
                replace r23b := Rep.mono s50 r23b
                replace r5 := Rep.mono s50 r5
                replace sF := sF.trans s50
                obtain ⟨rfl, r51⟩ := hy
                replace r51 := Rep.mono s50 r51
                obtain ⟨a52, u52_0, u52_1, u52_2, rfl, q52, r52_0, r52_1, r52_2⟩ := nt3 r51
                replace r52_0 : rep K F50 u52_0 (b50.v.1 : Thing) := r52_0
                replace r52_1 : rep K F50 u52_1 (b50.v.2.1 : Thing) := r52_1
                replace r52_2 : rep K F50 u52_2 (b50.v.2.2.1 : (List Int)) := r52_2
                obtain ⟨a55, vs55, rfl, q55, h55⟩ := r52_2
                refine ⟨_, _, rfl, SqT.of (w50.same _ _ q52), rfl, _, _, rfl, _, _, rfl, _, _, rfl, rfl, _, rfl, _, rfl, ⟨_, SqL.of (w50.same _ _ q55)⟩, fun D56 nD56 => ?_⟩
                refine lcF (K := K) (tw_list (a := a55) h55) hm w50 nD56 (fun F' H' acc s w => SqL.of (w.same _ _ (s _ _ q55))) ?_ ?_
                · -- one turn
                  intro b56 x56 F56 H56 H56' acc56 N56 M56 P56 s56 w56 y56 hN56 hM56 hm
                  replace q1 := s56 _ _ q1
                  replace h2 := A2.mono s56 h2
                  replace q2 := s56 _ _ q2
                  replace h3 := A2.mono s56 h3
                  replace q3 := s56 _ _ q3
                  replace q4 := s56 _ _ q4
                  replace r4 := Rep.mono s56 r4
                  replace h24 := A2.mono s56 h24
                  replace q24 := s56 _ _ q24
                  replace r23b := Rep.mono s56 r23b
                  replace r5 := Rep.mono s56 r5
                  replace r52_0 := Rep.mono s56 r52_0
                  replace r52_1 := Rep.mono s56 r52_1
                  replace h55 := A2.mono s56 h55
                  replace q55 := s56 _ _ q55
                  replace sF := sF.trans s56
                  obtain ⟨rfl, r58⟩ := y56
                  obtain rfl : x56 = V.int b56 := r58
                  refine ⟨rfl, _, rfl, _, rfl, (b56 : Int), _, rep_i, (Rep.mono w56.same (rep_lst q24 h24)), _, rfl, ?_⟩
                  refine post_ite hm (fun k59 hm => ?_) (fun k59 hm => ?_)
                  · skip
                    exact ⟨_, rfl, hN56 _ (post_ok hm) _ _ _ w56 (Same.refl _) rep_i⟩
                  · skip
                    exact hM56 (post_ok hm) _ _ w56 (Same.refl _)
                intro us56 F56 H56 ys56 s56 w56 gg56 hm
                replace q1 := s56 _ _ q1
                replace h2 := A2.mono s56 h2
                replace q2 := s56 _ _ q2
                replace h3 := A2.mono s56 h3
                replace q3 := s56 _ _ q3
                replace q4 := s56 _ _ q4
                replace r4 := Rep.mono s56 r4
                replace h24 := A2.mono s56 h24
                replace q24 := s56 _ _ q24
                replace r23b := Rep.mono s56 r23b
                replace r5 := Rep.mono s56 r5
                replace r52_0 := Rep.mono s56 r52_0
                replace r52_1 := Rep.mono s56 r52_1
                replace h55 := A2.mono s56 h55
                replace q55 := s56 _ _ q55
                replace sF := sF.trans s56
                refine ⟨_, _, _, rfl, .inl (SqL.of (w56.get (pre := []))), gg56.length, _, rfl, _, _, rfl, rfl, _, rfl, ?_⟩
                have w61 : W F56 _ (os) := w56.drop (pre := [])
                refine post_ite hm (fun k62 hm => ?_) (fun k62 hm => ?_)
                · skip
                  have hm := hZ50 _ (post_ok hm)
                  exact (post_ok hm) _ _ _ w61 sF rep_b
                · skip
                  exact hN50 _ (post_ok hm) _ _ ⟨_, _, _, _, rfl, (s50.trans s56), w61⟩
              intro g50 σ50 H50 hI hm
              obtain ⟨F50, o50_5, o50_6, o50_7, rfl, s50, w50⟩ := hI
              replace q1 := s50 _ _ q1
              replace h2 := A2.mono s50 h2
              replace q2 := s50 _ _ q2
              replace h3 := A2.mono s50 h3
              replace q3 := s50 _ _ q3
              replace q4 := s50 _ _ q4
              replace r4 := Rep.mono s50 r4
              replace h24 := A2.mono s50 h24
              replace q24 := s50 _ _ q24
              replace r23b := Rep.mono s50 r23b
              replace r5 := Rep.mono s50 r5
              replace sF := sF.trans s50
              have h63 : A2 (rep K F50) [] ([] : (List (Nt (Thing × Thing × (List Int) × Unit)))) := .nil
              refine ⟨_, rfl, rfl, _, isN_eq r23b, _, rfl, (by show 0 ≤ sizeLine; decide), fun p64 n64 => ?_⟩
              have w64 : W F50 _ ((p64, .lst []) :: os) := w50.new n64
              have w65 : W F50 _ (os) := w64.drop (pre := [])
              exact ⟨(x__law_pairs_here : (List (Nt (Thing × Thing × (List Int) × Unit)))), (([] : (List (Nt (Thing × Thing × (List Int) × Unit)))) : (List (Nt (Thing × Thing × (List Int) × Unit)))), (Rep.mono w64.same (rep_lst q3 h3)), (rep_own (pre := []) w64 h63), _, _, rfl, rfl, (post_ok hm) _ _ _ w65 sF rep_b⟩
def sp_law_refused (K : Fg) : Sp := fun vs H Q E => ∃ (F : Hp) (os : List (Addr × HO)) (v__law_web_here : V) (x__law_web_here : (Int × (Tup (Int × Int)))) (x__law_kind : Str) (x__law_strength : Int), vs = [v__law_web_here, .str x__law_kind, .int x__law_strength] ∧ W F H (os) ∧ rep K F v__law_web_here x__law_web_here ∧ Post (law_refused x__law_web_here x__law_kind x__law_strength) (Ret K F os Q) noX
theorem sc_law_refused : FnScope ["_law_web_here", "_law_kind", "_law_strength", "_law_caught", "_law_e"] ["_law_web_here", "_law_kind", "_law_strength"] (defScope s_law_refused) := ⟨rfl, rfl, rfl, by decide +kernel, rfl, by decide +kernel, by decide +kernel⟩
theorem ok_law_refused (T : Tx K mg A FD) : FnOk P w K mg base CX0 24 (A 36) (FD 36) ["_law_web_here", "_law_kind", "_law_strength"] (sp_law_refused K) := by
  refine T.d36.fn.ok sc_law_refused (fun vs H Q E h => ?_) (fun cdv Ar outer s H vs Q E hr h => ?_)
  · obtain ⟨F, os, v__law_web_here, x__law_web_here, x__law_kind, x__law_strength, rfl, _⟩ := h
    rfl
  · obtain ⟨F0, os, v__law_web_here, x__law_web_here, x__law_kind, x__law_strength, rfl, w0, r__law_web_here, hm⟩ := h
    have sF : Same F0 F0 := Same.refl _
    obtain ⟨a1, u1, z1, rfl, q1, r1a, r1b⟩ := r__law_web_here
    obtain rfl : u1 = V.int x__law_web_here.1 := r1a
    obtain ⟨a2, vs2, rfl, q2, h2⟩ := r1b
    refine ⟨_, (pss_cons (ps_set (i := 3) sc_law_refused.nd rfl (Or.inl rfl) (pe_lst pa_nil)) (pss_cons (ps_try_as (i := 4) rfl rfl sc_law_refused.nd rfl rfl ⟨rfl, by decide, .inl T.g_HailError⟩ takes0 (fun W pn xe tk _ => (pss_one (ps_expr (pe_callS (ok_fewest_looksX T) (hr.mono (by decide)) (by rfl) T.d22.mg T.d22.fn.kp T.d22.b (fun σ => passAt tk σ) (pa_cons (pv 0) (pa_cons (pv 1) (pa_cons (pv 2) pa_nil))))))) (fun a oe cls d pn hz hf => (pss_cons (ps_expr (pe_k (K := K) (t := fun K => tBM K _ _ _ _) rfl (pe_bm PySem.F.plainAttrs_list PySem.F.slot_list_append PySem.F.type_list_append mt_append (pv 3) (pa_cons (pe_and (pe_callB (call_isEX (K := K) rfl hz hf) (by rfl) T.n_isinstance (by decide +kernel) (pa_cons (pv 4) (pa_cons (pe_glob (v := .ref (A 5)) (by rfl) T.g_TooMany rfl) pa_nil))) (pe_one (pe_callB (call_isEX (K := K) rfl hz hf) (by rfl) T.n_isinstance (by decide +kernel) (pa_cons (pv 4) (pa_cons (pe_bltn (v := .ty "ValueError") (by rfl) T.n_ValueError (by decide +kernel) rfl) pa_nil))))) pa_nil)))) (pss_one (ps_expr (pe_k (K := K) (t := fun K => tBM K _ _ _ _) rfl (pe_bm PySem.F.plainAttrs_list PySem.F.slot_list_append PySem.F.type_list_append mt_append (pv 3) (pa_cons (pe_not (pe_callB (call_isEY (K := K) rfl hz hf) (by rfl) T.n_isinstance (by decide +kernel) (pa_cons (pv 4) (pa_cons (pe_tup (pa_cons (pe_glob (v := .ref (A 4)) (by rfl) T.g_NoLooks rfl) (pa_cons (pe_glob (v := .ref (A 3)) (by rfl) T.g_NoThing rfl) pa_nil))) pa_nil)))) pa_nil)))))))) (pss_one (ps_ret (pe_cmpR (op_eqDt (K := K) rfl (List Bool) (by decide) hr.units) (pv 3) (pe_lst (pa_cons pe_bl (pa_cons pe_bl pa_nil))) (nomark _)))))), ?_⟩
    have h3 : A2 (rep K F0) [] ([] : (List Bool)) := .nil
    refine ⟨(by show 0 ≤ sizeLine; decide), fun p4 n4 => ?_⟩
    have w4 : W F0 _ ((p4, .lst []) :: os) := w0.new n4
    refine stepN ?_
    try dsimp only
    refine joinS hm (fun (g5 : (List Bool)) σ H' => ∃ (F' : Hp) (vs5_0 : List V), σ = [some (.ref a1), some (.str x__law_kind), some (.int x__law_strength), some (.ref p4), none] ∧ Same F0 F' ∧ W F' H' ((p4, .lst vs5_0) :: os) ∧ A2 (rep K F') vs5_0 g5) ?_ ?_
    · intro N5 P5 hN5 hm
      replace hm := post_tryWith hm
      refine ⟨_, rfl, _, rfl, _, rfl, _, _, _, (x__law_web_here : (Int × (Tup (Int × Int)))), _, _, rfl, w4, (rep_pair q1 rep_i (rep_tup q2 h2)), ?_⟩
      refine (post_bind hm).mono (fun y6 hm v6 F6 H6 w6 s6 r6 => ?_) (fun e z C Fe He nC w s => ?_)
      rotate_left 1
      · skip
        obtain ⟨em5, hm⟩ := z
        refine ⟨true, T.exm em5 nC, fun _ a na => ?_, fun z => nomatch z⟩
        replace q1 := s _ _ q1
        replace h2 := A2.mono s h2
        replace q2 := s _ _ q2
        replace h3 := A2.mono s h3
        replace sF := sF.trans s
        refine ⟨_, rfl, .inl ⟨rfl, _, SqL.of (w.get (pre := []))⟩, ?_⟩
        refine joinE hm (fun (j7 : Bool) c H' => c = V.bl j7 ∧ ∃ (F' : Hp), Same Fe F' ∧ W F' H' ((p4, .lst []) :: os)) ?_ ?_
        · intro Q7 P7 q7 hm
          obtain ⟨m8, hm⟩ := pb_isC hm
          refine ⟨_, rfl, _, rfl, rfl, T.exc m8 nC, _, .ref (A 5), _, rfl, fun _ h => h, T.ki0 m8 nC, _, rfl, ?_⟩
          refine post_ite hm (fun k9 hm => ?_) (fun k9 hm => ?_)
          · skip
            obtain ⟨m10, hm⟩ := pb_isC hm
            exact ⟨_, rfl, _, rfl, rfl, T.exc m10 nC, _, .type "ValueError", _, rfl, fun _ h => h, T.ki1 m10 nC, q7 _ (post_ok hm) _ _ ⟨rfl, _, Same.refl _, w⟩⟩
          · skip
            exact q7 _ (post_ok hm) _ _ ⟨rfl, _, Same.refl _, w⟩
        intro j7 c7 H7 hc7 hm
        obtain ⟨rfl, F7, s7, w7⟩ := hc7
        replace q1 := s7 _ _ q1
        replace h2 := A2.mono s7 h2
        replace q2 := s7 _ _ q2
        replace h3 := A2.mono s7 h3
        replace sF := sF.trans s7
        obtain ⟨l13, z13, e13, hm⟩ := pn_app hm
        refine ⟨_, _, _, rfl, rfl, (w7.get (pre := [])), (A2.lt h3 z13), ?_⟩
        have h13 : A2 (rep K F7) ([] ++ [(V.bl j7)]) l13 := e13 ▸ A2.snoc h3 rep_b
        have w14 : W F7 _ ((p4, .lst ([] ++ [(V.bl j7)])) :: os) := w7.set (pre := [])
        obtain ⟨m15, hm⟩ := pb_isC hm
        refine ⟨_, rfl, .inl ⟨rfl, _, SqL.of (w14.get (pre := []))⟩, _, rfl, (by show 2 ≤ sizeLine; decide), fun p16 n16 => ?_⟩
        obtain ⟨F16, s16, w16, q16⟩ := w14.frzE (o := .tup [V.ref (A 4), V.ref (A 3)]) n16
        replace q1 := s16 _ _ q1
        replace h2 := A2.mono s16 h2
        replace q2 := s16 _ _ q2
        replace h13 := A2.mono s16 h13
        replace sF := sF.trans s16
        obtain ⟨l17, z17, e17, hm⟩ := pn_app hm
        refine ⟨_, rfl, (.inl rfl), T.exc m15 nC, _, _, rfl, .inr ⟨p16, _, [.ref (A 4), .ref (A 3)], rfl, w16.same _ _ q16, fun us h => refs_at (ps := [A 4, A 3]) h, T.ki2 m15 nC⟩, _, rfl, _, _, _, rfl, rfl, (w16.get (pre := [])), (A2.lt h13 z17), ?_⟩
        have h17 : A2 (rep K F16) (([] ++ [(V.bl j7)]) ++ [(V.bl (!(decide (e.cls ∈ ([] : List Str)))))]) l17 := e17 ▸ A2.snoc h13 rep_b
        have w18 : W F16 _ ((p4, .lst (([] ++ [(V.bl j7)]) ++ [(V.bl (!(decide (e.cls ∈ ([] : List Str)))))])) :: os) := w16.set (pre := [])
        exact hN5 _ (post_ok hm) _ _ ⟨_, _, rfl, (s.trans (s7.trans s16)), w18, h17⟩
      replace q1 := s6 _ _ q1
      replace h2 := A2.mono s6 h2
      replace q2 := s6 _ _ q2
      replace h3 := A2.mono s6 h3
      replace sF := sF.trans s6
      have r19 : rep K F6 v6 (y6 : Fw) := r6
      obtain ⟨a19, u19a, u19b, rfl, q19⟩ := fw_open r19
      exact hN5 _ (post_ok hm) _ _ ⟨_, _, rfl, s6, w6, h3⟩
    intro g5 σ5 H5 hI hm
    obtain ⟨F5, vs5_0, rfl, s5, w5, h5_0⟩ := hI
    replace q1 := s5 _ _ q1
    replace h2 := A2.mono s5 h2
    replace q2 := s5 _ _ q2
    replace sF := sF.trans s5
    have h20 : A2 (rep K F5) [(.bl true), (.bl true)] ([true, true] : (List Bool)) := .cons rep_b (.cons rep_b (.nil))
    refine ⟨_, rfl, (by show 2 ≤ sizeLine; decide), fun p21 n21 => ?_⟩
    have w21 : W F5 _ ((p21, .lst [(.bl true), (.bl true)]) :: (p4, .lst vs5_0) :: os) := w5.new n21
    have w22 : W F5 _ ((p4, .lst vs5_0) :: os) := w21.drop (pre := [])
    have w23 : W F5 _ (os) := w22.drop (pre := [])
    exact ⟨(g5 : (List Bool)), (([true, true] : (List Bool)) : (List Bool)), (rep_own (pre := [_]) w21 h5_0), (rep_own (pre := []) w21 h20), (post_ok hm) _ _ _ w23 sF rep_b⟩
def sp_law (K : Fg) : Sp := fun vs H Q E => ∃ (F : Hp) (os : List (Addr × HO)) (v__law_script : V) (x__law_script : Scr), vs = [v__law_script] ∧ W F H (os) ∧ rep K F v__law_script x__law_script ∧ Post (law x__law_script) (Ret K F os Q) noX
theorem sc_law : FnScope ["_law_script", "_law_purse_here", "_law_kind", "_law_strength", "_law_least", "_law_most", "_law_web_here", "_law_pairs_here", "_law_found", "_law_kept"] ["_law_script"] (defScope s_law) := ⟨rfl, rfl, rfl, by decide +kernel, rfl, by decide +kernel, by decide +kernel⟩
set_option maxHeartbeats 40000000 in
theorem ok_law (T : Tx K mg A FD) : FnOk P w K mg base CX0 25 (A 37) (FD 37) ["_law_script"] (sp_law K) := by
  refine T.d37.fn.ok sc_law (fun vs H Q E h => ?_) (fun cdv Ar outer s H vs Q E hr h => ?_)
  · obtain ⟨F, os, v__law_script, x__law_script, rfl, _⟩ := h
    rfl
  · obtain ⟨F0, os, v__law_script, x__law_script, rfl, w0, r__law_script, hm⟩ := h
    have sF : Same F0 F0 := Same.refl _
    obtain ⟨a1, rfl, q1⟩ := r__law_script
    have h1 : A2 (rep K F0) (x__law_script.l.map V.int) x__law_script.l := A2.of_ints
    refine ⟨_, (pss_cons (ps_set (i := 1) sc_law.nd rfl (Or.inl rfl) (pe_call (ok_law_purse T) (hr.mono (by decide)) (by rfl) T.d24.mg T.d24.fn.kp T.d24.b .nil pass0 (pa_cons (pv 0) (pa_cons pe_int pa_nil)))) (pss_cons (ps_set (i := 2) sc_law.nd rfl (Or.inl rfl) (pe_ix (ix_listK (K := K) rfl) (pe_lst (pa_cons pe_str (pa_cons pe_str (pa_cons pe_str pa_nil)))) (pe_call (ok_law_take T) (hr.mono (by decide)) (by rfl) T.d25.mg T.d25.fn.kp T.d25.b .nil pass0 (pa_cons (pv 1) (pa_cons pe_int pa_nil))) (fun _ _ => rfl))) (pss_cons (ps_set (i := 3) sc_law.nd rfl (Or.inl rfl) (pe_op op_add pe_int (pe_call (ok_law_take T) (hr.mono (by decide)) (by rfl) T.d25.mg T.d25.fn.kp T.d25.b .nil pass0 (pa_cons (pv 1) (pa_cons (pe_ix (ix_listK (K := K) rfl) (pe_lst (pa_cons pe_int (pa_cons pe_int (pa_cons pe_int pa_nil)))) (pe_call (ok_law_take T) (hr.mono (by decide)) (by rfl) T.d25.mg T.d25.fn.kp T.d25.b .nil pass0 (pa_cons (pv 1) (pa_cons pe_int pa_nil))) (fun _ _ => rfl)) pa_nil))))) (pss_cons (ps_asg (pe_tup (pa_cons pe_int (pa_cons pe_int pa_nil))) (pg_k (K := K) (t := fun K => gTup K 2 _) rfl (pg_tup (n := 2) rfl (pgs_cons (pg_name (i := 4) sc_law.nd rfl (Or.inl rfl)) (pgs_cons (pg_name (i := 5) sc_law.nd rfl (Or.inl rfl)) pgs_nil))))) (pss_cons (ps_if (pt_cmp (pc_eqI (pe_call (ok_law_take T) (hr.mono (by decide)) (by rfl) T.d25.mg T.d25.fn.kp T.d25.b .nil pass0 (pa_cons (pv 1) (pa_cons pe_int pa_nil))) pe_int)) (pss_one (ps_asg (pe_tup (pa_cons pe_int (pa_cons pe_int pa_nil))) (pg_k (K := K) (t := fun K => gTup K 2 _) rfl (pg_tup (n := 2) rfl (pgs_cons (pg_name (i := 4) sc_law.nd rfl (Or.inl rfl)) (pgs_cons (pg_name (i := 5) sc_law.nd rfl (Or.inl rfl)) pgs_nil)))))) pss_nil) (pss_cons (ps_set (i := 6) sc_law.nd rfl (Or.inl rfl) (pe_call (ok_law_web T) (hr.mono (by decide)) (by rfl) T.d28.mg T.d28.fn.kp T.d28.b .nil pass0 (pa_cons (pe_call (ok_law_purse T) (hr.mono (by decide)) (by rfl) T.d24.mg T.d24.fn.kp T.d24.b .nil pass0 (pa_cons (pv 0) (pa_cons pe_int pa_nil))) (pa_cons (pv 4) (pa_cons (pv 5) pa_nil))))) (pss_cons (ps_set (i := 7) sc_law.nd rfl (Or.inl rfl) (pe_call (ok_law_parted T) (hr.mono (by decide)) (by rfl) T.d33.mg T.d33.fn.kp T.d33.b .nil pass0 (pa_cons (pv 6) (pa_cons (pv 2) pa_nil)))) (pss_cons (ps_set (i := 8) sc_law.nd rfl (Or.inl rfl) (pe_call (ok_fewest_looksO T) (hr.mono (by decide)) (by rfl) T.d22.mg T.d22.fn.kp T.d22.b .nil pass0 (pa_cons (pv 6) (pa_cons (pv 2) (pa_cons (pv 3) pa_nil))))) (pss_or (pss_cons (ps_if (pt_not (pt_val (pe_call (ok_law_right T) (hr.mono (by decide)) (by rfl) T.d35.mg T.d35.fn.kp T.d35.b .nil pass0 (pa_cons (pv 6) (pa_cons (pv 7) (pa_cons (pv 3) (pa_cons (pv 8) pa_nil))))))) (pss_one (ps_ret pe_bl)) pss_nil) (pss_cons (ps_if (pt_cmpR op_eqS (pe_ix (ix_tupK (K := K) rfl) (pv 8) pe_int (fun _ _ => rfl)) pe_str (nomark _)) (pss_cons ps_absurd (pss_cons ps_absurd (pss_one ps_absurd))) pss_nil) (pss_cons (ps_if (pt_cmpR (op_neDt (K := K) rfl FwS (by decide) hr.units) (pe_call (okz_fewest_looksO T) (hr.mono (by decide)) (by rfl) T.d22.mg T.d22.fn.kp T.d22.b .nil pass0 (pa_cons (pv 6) (pa_cons (pv 2) (pa_cons (pv 3) pa_nil)))) (pv 8) (nomark _)) (pss_one (ps_ret pe_bl)) pss_nil) (pss_one (ps_ret (pe_call (ok_law_refused T) (hr.mono (by decide)) (by rfl) T.d36.mg T.d36.fn.kp T.d36.b .nil pass0 (pa_cons (pe_call (ok_law_web T) (hr.mono (by decide)) (by rfl) T.d28.mg T.d28.fn.kp T.d28.b .nil pass0 (pa_cons (pe_call (ok_law_purse T) (hr.mono (by decide)) (by rfl) T.d24.mg T.d24.fn.kp T.d24.b .nil pass0 (pa_cons (pv 0) (pa_cons pe_int pa_nil))) (pa_cons pe_int (pa_cons pe_int pa_nil)))) (pa_cons (pv 2) (pa_cons (pv 3) pa_nil))))))))) (pss_cons (ps_if (pt_not (pt_val (pe_call (ok_law_right T) (hr.mono (by decide)) (by rfl) T.d35.mg T.d35.fn.kp T.d35.b .nil pass0 (pa_cons (pv 6) (pa_cons (pv 7) (pa_cons (pv 3) (pa_cons (pv 8) pa_nil))))))) (pss_one (ps_ret pe_bl)) pss_nil) (pss_cons (ps_if (pt_cmpR op_eqS (pe_ix (ix_tupK (K := K) rfl) (pv 8) pe_int (fun _ _ => rfl)) pe_str (nomark _)) (pss_cons (ps_set (i := 9) sc_law.nd rfl (Or.inl rfl) (pe_callTy (call_list_ofK (K := K) rfl) (by rfl) T.n_list (by decide +kernel) (pa_cons (pe_ix (ix_tupK (K := K) rfl) (pv 8) pe_int (fun _ _ => rfl)) pa_nil))) (pss_cons (ps_expr (pe_bm PySem.F.plainAttrs_list PySem.F.slot_list_append PySem.F.type_list_append mt_append (pe_ix (ix_tupK (K := K) rfl) (pv 8) pe_int (fun _ _ => rfl)) (pa_cons pe_int pa_nil))) (pss_one (ps_set (i := 8) sc_law.nd rfl (Or.inl rfl) (pe_tup (pa_cons pe_str (pa_cons (pv 9) (pa_cons (pe_ix (ix_tupK (K := K) rfl) (pv 8) pe_int (fun _ _ => rfl)) pa_nil)))))))) pss_nil) (pss_cons (ps_if (pt_cmpR (op_neDt (K := K) rfl FwS (by decide) hr.units) (pe_call (okz_fewest_looksO T) (hr.mono (by decide)) (by rfl) T.d22.mg T.d22.fn.kp T.d22.b .nil pass0 (pa_cons (pv 6) (pa_cons (pv 2) (pa_cons (pv 3) pa_nil)))) (pv 8) (nomark _)) (pss_one (ps_ret pe_bl)) pss_nil) (pss_one (ps_ret (pe_call (ok_law_refused T) (hr.mono (by decide)) (by rfl) T.d36.mg T.d36.fn.kp T.d36.b .nil pass0 (pa_cons (pe_call (ok_law_web T) (hr.mono (by decide)) (by rfl) T.d28.mg T.d28.fn.kp T.d28.b .nil pass0 (pa_cons (pe_call (ok_law_purse T) (hr.mono (by decide)) (by rfl) T.d24.mg T.d24.fn.kp T.d24.b .nil pass0 (pa_cons (pv 0) (pa_cons pe_int pa_nil))) (pa_cons pe_int (pa_cons pe_int pa_nil)))) (pa_cons (pv 2) (pa_cons (pv 3) pa_nil)))))))))))))))))), ?_⟩
    refine ⟨_, rfl, _, _, _, (x__law_script : Scr), _, rfl, w0, ⟨_, rfl, q1⟩, ?_⟩
    refine (post_bind hm).mono (fun y2 hm p2 us2 F2 H2 w2 s2 g2 => ?_) (fun _ z => z)
    replace q1 := s2.seq q1
    replace h1 := A2.mono s2 h1
    replace sF := sF.trans s2
    have h4 : A2 (rep K F2) [(.str "places"), (.str "ties"), (.str "all")] ([("places" : Str), ("ties" : Str), ("all" : Str)] : (List Str)) := .cons rep_s (.cons rep_s (.cons rep_s (.nil)))
    refine ⟨(by show 3 ≤ sizeLine; decide), fun p5 n5 => ?_⟩
    have w5 : W F2 _ ((p5, .lst [(.str "places"), (.str "ties"), (.str "all")]) :: (p2, .lst us2) :: os) := w2.new n5
    have w6 : W F2 _ ((p2, .lst us2) :: (p5, .lst [(.str "places"), (.str "ties"), (.str "all")]) :: os) := w5.front (pre := [_])
    refine ⟨_, rfl, _, _, _, _, _, _, rfl, w6, g2, ?_⟩
    refine (post_bind hm).mono (fun y7 hm v7 vs7 F7 H7 w7 s7 r7 h7 => ?_) (fun _ z => z)
    replace h1 := A2.mono s7 h1
    replace q1 := s7.seq q1
    replace h4 := A2.mono s7 h4
    replace sF := sF.trans s7
    obtain rfl : v7 = V.int y7.1 := r7
    obtain ⟨t8, e8, hm⟩ := pb_get hm
    obtain ⟨u8, f8, r8⟩ := A2.at h4 e8
    obtain rfl : u8 = V.str t8 := r8
    have w9 : W F7 _ ((p2, .lst vs7) :: os) := w7.drop (pre := [_])
    have h10 : A2 (rep K F7) [(.int 1), (.int 3), (.int 9)] ([(1 : Int), (3 : Int), (9 : Int)] : (List Int)) := .cons rep_i (.cons rep_i (.cons rep_i (.nil)))
    refine ⟨_, _, _, _, rfl, rfl, SqL.of (w7.get (pre := [_])), f8, _, rfl, (by show 3 ≤ sizeLine; decide), fun p11 n11 => ?_⟩
    have w11 : W F7 _ ((p11, .lst [(.int 1), (.int 3), (.int 9)]) :: (p2, .lst vs7) :: os) := w9.new n11
    have w12 : W F7 _ ((p2, .lst vs7) :: (p11, .lst [(.int 1), (.int 3), (.int 9)]) :: os) := w11.front (pre := [_])
    refine ⟨_, rfl, _, _, _, _, _, _, rfl, w12, h7, ?_⟩
    refine (post_bind hm).mono (fun y13 hm v13 vs13 F13 H13 w13 s13 r13 h13 => ?_) (fun _ z => z)
    replace h1 := A2.mono s13 h1
    replace q1 := s13.seq q1
    replace h10 := A2.mono s13 h10
    replace sF := sF.trans s13
    obtain rfl : v13 = V.int y13.1 := r13
    obtain ⟨t14, e14, hm⟩ := pb_get hm
    obtain ⟨u14, f14, r14⟩ := A2.at h10 e14
    obtain rfl : u14 = V.int t14 := r14
    refine ⟨_, _, _, _, rfl, rfl, SqL.of (w13.get (pre := [_])), f14, _, _, _, _, _, _, rfl, w13, h13, ?_⟩
    refine (post_bind hm).mono (fun y15 hm v15 vs15 F15 H15 w15 s15 r15 h15 => ?_) (fun _ z => z)
    replace h1 := A2.mono s15 h1
    replace q1 := s15.seq q1
    replace h10 := A2.mono s15 h10
    replace sF := sF.trans s15
    obtain rfl : v15 = V.int y15.1 := r15
    have w16 : W F15 _ ((p2, .lst vs15) :: os) := w15.drop (pre := [_])
    refine ⟨_, _, rfl, rfl, (by show 2 ≤ sizeLine; decide), fun p17 n17 => ?_⟩
    obtain ⟨F17, s17, w17, q17⟩ := w16.frzE (o := .tup [(.int 1), (.int 7)]) n17
    replace h1 := A2.mono s17 h1
    replace q1 := s17.seq q1
    replace h15 := A2.mono s17 h15
    replace sF := sF.trans s17
    refine ⟨_, _, rfl, SqT.of (w17.same _ _ q17), rfl, _, _, rfl, _, _, rfl, rfl, ?_⟩
    try dsimp only
    refine joinS hm (fun (g18 : Int × Int × (List Int)) σ H' => ∃ (F' : Hp) (vs18_0 : List V), σ = [some (.ref a1), some (.ref p2), some (.str t8), some (.int ((1 : Int) + y15.1)), some (.int g18.1), some (.int g18.2.1), none, none, none, none] ∧ Same F17 F' ∧ W F' H' ((p2, .lst vs18_0) :: os) ∧ A2 (rep K F') vs18_0 g18.2.2) ?_ ?_
    · intro N18 P18 hN18 hm
      refine ⟨_, rfl, _, _, _, _, _, _, rfl, w17, h15, ?_⟩
      refine (post_bind hm).mono (fun y19 hm v19 vs19 F19 H19 w19 s19 r19 h19 => ?_) (fun _ z => z)
      replace h1 := A2.mono s19 h1
      replace q1 := s19.seq q1
      replace sF := sF.trans s19
      obtain rfl : v19 = V.int y19.1 := r19
      refine ⟨_, _, rfl, rfl, _, rfl, ?_⟩
      refine post_ite hm (fun k20 hm => ?_) (fun k20 hm => ?_)
      · skip
        refine ⟨(by show 2 ≤ sizeLine; decide), fun p21 n21 => ?_⟩
        obtain ⟨F21, s21, w21, q21⟩ := w19.frzE (o := .tup [(.int 8), (.int 8)]) n21
        replace h1 := A2.mono s21 h1
        replace q1 := s21.seq q1
        replace h19 := A2.mono s21 h19
        replace sF := sF.trans s21
        exact ⟨_, _, rfl, SqT.of (w21.same _ _ q21), rfl, _, _, rfl, _, _, rfl, rfl, hN18 _ (post_ok hm) _ _ ⟨_, _, rfl, (s19.trans s21), w21, h19⟩⟩
      · skip
        exact hN18 _ (post_ok hm) _ _ ⟨_, _, rfl, s19, w19, h19⟩
    intro g18 σ18 H18 hI hm
    obtain ⟨F18, vs18_0, rfl, s18, w18, h18_0⟩ := hI
    replace h1 := A2.mono s18 h1
    replace q1 := s18.seq q1
    replace sF := sF.trans s18
    refine ⟨_, rfl, _, _, _, (x__law_script : Scr), _, rfl, w18, ⟨_, rfl, q1⟩, ?_⟩
    refine (post_bind hm).mono (fun y22 hm p22 us22 F22 H22 w22 s22 g22 => ?_) (fun _ z => z)
    replace h1 := A2.mono s22 h1
    replace q1 := s22.seq q1
    replace h18_0 := A2.mono s22 h18_0
    replace sF := sF.trans s22
    refine ⟨_, rfl, _, rfl, _, _, _, _, _, _, _, rfl, w22, g22, ?_⟩
    refine (post_bind hm).mono (fun y24 hm v24 vs24 F24 H24 w24 s24 r24 h24 => ?_) (fun _ z => z)
    replace h1 := A2.mono s24 h1
    replace q1 := s24.seq q1
    replace h18_0 := A2.mono s24 h18_0
    replace sF := sF.trans s24
    obtain ⟨a25, u25, z25, rfl, q25, r25a, r25b⟩ := r24
    obtain rfl : u25 = V.int y24.1.1 := r25a
    obtain ⟨a26, vs26, rfl, q26, h26⟩ := r25b
    have w27 : W F24 _ ((p2, .lst vs18_0) :: os) := w24.drop (pre := [])
    refine ⟨_, rfl, _, rfl, _, _, _, (y24.1 : (Int × (Tup (Int × Int)))), _, rfl, w27, (rep_pair q25 rep_i (rep_tup q26 h26)), ?_⟩
    refine (post_bind hm).mono (fun y28 hm v28 F28 H28 w28 s28 r28 => ?_) (fun _ z => z)
    replace h1 := A2.mono s28 h1
    replace q1 := s28.seq q1
    replace q25 := s28 _ _ q25
    replace h26 := A2.mono s28 h26
    replace q26 := s28 _ _ q26
    replace h18_0 := A2.mono s28 h18_0
    replace sF := sF.trans s28
    obtain ⟨a29, vs29, rfl, q29, h29⟩ := r28
    refine ⟨_, rfl, _, rfl, _, rfl, _, _, _, (y24.1 : (Int × (Tup (Int × Int)))), _, _, rfl, w28, (rep_pair q25 rep_i (rep_tup q26 h26)), ?_⟩
    refine (post_bind hm).mono (fun y30 hm => ?_) (fun _ z => z)
    rcases y30 with ⟨l30, o30⟩ | ⟨l30, o30⟩
    · skip
      intro v31 F31 H31 w31 s31 r31
      replace h1 := A2.mono s31 h1
      replace q1 := s31.seq q1
      replace q25 := s31 _ _ q25
      replace h26 := A2.mono s31 h26
      replace q26 := s31 _ _ q26
      replace h29 := A2.mono s31 h29
      replace q29 := s31 _ _ q29
      replace h18_0 := A2.mono s31 h18_0
      replace sF := sF.trans s31
      have r32 : rep K F31 v31 ((Fw.never l30 o30) : Fw) := r31
      obtain ⟨a32, u32a, u32b, rfl, q32⟩ := fw_open r32
      refine stepN ?_
      try dsimp only
      refine Or.inl ?_
      refine ⟨_, rfl, _, rfl, _, rfl, _, rfl, _, _, _, (y24.1 : (Int × (Tup (Int × Int)))), _, (y28 : (List (Nt (Thing × Thing × (List Int) × Unit)))), _, _, ((Fw.never l30 o30) : Fw), rfl, w31, (rep_pair q25 rep_i (rep_tup q26 h26)), (rep_lst q29 h29), r32, ?_⟩
      refine (post_bind hm).mono (fun y33 hm v33 F33 H33 w33 s33 r33 => ?_) (fun _ z => z)
      replace h1 := A2.mono s33 h1
      replace q1 := s33.seq q1
      replace q25 := s33 _ _ q25
      replace h26 := A2.mono s33 h26
      replace q26 := s33 _ _ q26
      replace h29 := A2.mono s33 h29
      replace q29 := s33 _ _ q29
      replace q32 := s33 _ _ q32
      replace r32 := Rep.mono s33 r32
      replace h18_0 := A2.mono s33 h18_0
      replace sF := sF.trans s33
      obtain rfl : v33 = V.bl y33 := r33
      refine ⟨_, rfl, ?_⟩
      refine post_ite hm (fun k34 hm => ?_) (fun k34 hm => ?_)
      · skip
        have w35 : W F33 _ (os) := w33.drop (pre := [])
        exact (post_ok hm) _ _ _ w35 sF rep_b
      · skip
        refine ⟨_, rfl, _, _, _, _, rfl, rfl, SqT.of (w33.same _ _ q32), rfl, _, _, rfl, rfl, _, rfl, ?_⟩
        refine post_ite hm (fun k36 hm => ?_) (fun k36 hm => ?_)
        · skip
          exact (show False from hm).elim
        · skip
          refine ⟨_, rfl, _, rfl, _, rfl, _, _, _, (y24.1 : (Int × (Tup (Int × Int)))), _, _, rfl, w33, (rep_pair q25 rep_i (rep_tup q26 h26)), ?_⟩
          refine (post_bind hm).mono (fun y37 hm v37 F37 H37 w37 s37 r37 => ?_) (fun _ z => z)
          replace h1 := A2.mono s37 h1
          replace q1 := s37.seq q1
          replace q25 := s37 _ _ q25
          replace h26 := A2.mono s37 h26
          replace q26 := s37 _ _ q26
          replace h29 := A2.mono s37 h29
          replace q29 := s37 _ _ q29
          replace q32 := s37 _ _ q32
          replace r32 := Rep.mono s37 r32
          replace h18_0 := A2.mono s37 h18_0
          replace sF := sF.trans s37
          have r38 : rep K F37 v37 (y37 : Fw) := r37
          obtain ⟨a38, u38a, u38b, rfl, q38⟩ := fw_open r38
          obtain ⟨t39, e39, hm⟩ := pb_fwS hm
          have r39 : rep K F37 (V.ref a38) (t39 : FwS) := rep_fwS e39 r38
          obtain ⟨t40, e40, hm⟩ := pb_fwS hm
          have r40 : rep K F37 (V.ref a32) (t40 : FwS) := rep_fwS e40 r32
          refine ⟨_, rfl, (t39 : FwS), (t40 : FwS), (Rep.mono w37.same r39), (Rep.mono w37.same r40), _, rfl, ?_⟩
          refine post_ite hm (fun k41 hm => ?_) (fun k41 hm => ?_)
          · skip
            have w42 : W F37 _ (os) := w37.drop (pre := [])
            exact (post_ok hm) _ _ _ w42 sF rep_b
          · skip
            refine ⟨_, rfl, _, _, _, (x__law_script : Scr), _, rfl, w37, ⟨_, rfl, q1⟩, ?_⟩
            refine (post_bind hm).mono (fun y43 hm p43 us43 F43 H43 w43 s43 g43 => ?_) (fun _ z => z)
            replace h1 := A2.mono s43 h1
            replace q1 := s43.seq q1
            replace q25 := s43 _ _ q25
            replace h26 := A2.mono s43 h26
            replace q26 := s43 _ _ q26
            replace h29 := A2.mono s43 h29
            replace q29 := s43 _ _ q29
            replace q32 := s43 _ _ q32
            replace r32 := Rep.mono s43 r32
            replace h18_0 := A2.mono s43 h18_0
            replace q38 := s43 _ _ q38
            replace r38 := Rep.mono s43 r38
            replace r39 := Rep.mono s43 r39
            replace r40 := Rep.mono s43 r40
            replace sF := sF.trans s43
            refine ⟨_, _, _, _, _, _, _, rfl, w43, g43, ?_⟩
            refine (post_bind hm).mono (fun y45 hm v45 vs45 F45 H45 w45 s45 r45 h45 => ?_) (fun _ z => z)
            replace h1 := A2.mono s45 h1
            replace q1 := s45.seq q1
            replace q25 := s45 _ _ q25
            replace h26 := A2.mono s45 h26
            replace q26 := s45 _ _ q26
            replace h29 := A2.mono s45 h29
            replace q29 := s45 _ _ q29
            replace q32 := s45 _ _ q32
            replace r32 := Rep.mono s45 r32
            replace h18_0 := A2.mono s45 h18_0
            replace q38 := s45 _ _ q38
            replace r38 := Rep.mono s45 r38
            replace r39 := Rep.mono s45 r39
            replace r40 := Rep.mono s45 r40
            replace sF := sF.trans s45
            obtain ⟨a46, u46, z46, rfl, q46, r46a, r46b⟩ := r45
            obtain rfl : u46 = V.int y45.1.1 := r46a
            obtain ⟨a47, vs47, rfl, q47, h47⟩ := r46b
            refine ⟨_, rfl, _, rfl, _, _, _, (y45.1 : (Int × (Tup (Int × Int)))), _, _, rfl, w45, (rep_pair q46 rep_i (rep_tup q47 h47)), ?_⟩
            refine (post_bind hm).mono (fun y48 hm v48 F48 H48 w48 s48 r48 => ?_) (fun _ z => z)
            replace h1 := A2.mono s48 h1
            replace q1 := s48.seq q1
            replace q25 := s48 _ _ q25
            replace h26 := A2.mono s48 h26
            replace q26 := s48 _ _ q26
            replace h29 := A2.mono s48 h29
            replace q29 := s48 _ _ q29
            replace q32 := s48 _ _ q32
            replace r32 := Rep.mono s48 r32
            replace h18_0 := A2.mono s48 h18_0
            replace q38 := s48 _ _ q38
            replace r38 := Rep.mono s48 r38
            replace r39 := Rep.mono s48 r39
            replace r40 := Rep.mono s48 r40
            replace h45 := A2.mono s48 h45
            replace q46 := s48 _ _ q46
            replace q47 := s48 _ _ q47
            replace h47 := A2.mono s48 h47
            replace sF := sF.trans s48
            obtain rfl : v48 = V.bl y48 := r48
            have w49 : W F48 _ ((p2, .lst vs18_0) :: os) := w48.drop (pre := [])
            have w50 : W F48 _ (os) := w49.drop (pre := [])
            exact (post_ok hm) _ _ _ w50 sF rep_b
    · skip
      intro t51 p51 z51 us51 F51 H51 w51 s51 q51 g51 r51
      replace h1 := A2.mono s51 h1
      replace q1 := s51.seq q1
      replace q25 := s51 _ _ q25
      replace h26 := A2.mono s51 h26
      replace q26 := s51 _ _ q26
      replace h29 := A2.mono s51 h29
      replace q29 := s51 _ _ q29
      replace h18_0 := A2.mono s51 h18_0
      replace sF := sF.trans s51
      refine stepN ?_
      try dsimp only
      refine Or.inr ?_
      try dsimp only
      have la54 := (w51.own (p51, .lst us51) (by simp)).2
      have h1_L54 := h1
      have q1_L54 := q1
      have q25_L54 := q25
      have h26_L54 := h26
      have q26_L54 := q26
      have h29_L54 := h29
      have q29_L54 := q29
      have q51_L54 := q51
      have r51_L54 := r51
      have g51_L54 := g51
      have h18_0_L54 := h18_0
      have sF_L54 := sF
      obtain ⟨F55, s55, w55, q55⟩ : ∃ F', Same F51 F' ∧ W F' _ ((p2, .lst vs18_0) :: os) ∧ F' p51 = some (.lst us51) := w51.freezeE (pre := [])
      replace h1 := A2.mono s55 h1
      replace q1 := s55.seq q1
      replace q25 := s55 _ _ q25
      replace h26 := A2.mono s55 h26
      replace q26 := s55 _ _ q26
      replace h29 := A2.mono s55 h29
      replace q29 := s55 _ _ q29
      replace q51 := s55 _ _ q51
      replace r51 := Rep.mono s55 r51
      replace g51 := A2.mono s55 g51
      replace h18_0 := A2.mono s55 h18_0
      replace sF := sF.trans s55
      have r56 : rep K F55 (V.ref t51) ((Fw.looks l30 o30) : Fw) := rep_lk q51 (rep_lst q55 g51) r51
      refine ⟨_, rfl, _, rfl, _, rfl, _, rfl, _, _, _, (y24.1 : (Int × (Tup (Int × Int)))), _, (y28 : (List (Nt (Thing × Thing × (List Int) × Unit)))), _, _, ((Fw.looks l30 o30) : Fw), rfl, w55, (rep_pair q25 rep_i (rep_tup q26 h26)), (rep_lst q29 h29), r56, ?_⟩
      refine (post_bind hm).mono (fun y57 hm v57 F57 H57 w57 s57 r57 => ?_) (fun _ z => z)
      replace h1 := A2.mono s57 h1
      replace q1 := s57.seq q1
      replace q25 := s57 _ _ q25
      replace h26 := A2.mono s57 h26
      replace q26 := s57 _ _ q26
      replace h29 := A2.mono s57 h29
      replace q29 := s57 _ _ q29
      replace q51 := s57 _ _ q51
      replace r51 := Rep.mono s57 r51
      replace g51 := A2.mono s57 g51
      replace h18_0 := A2.mono s57 h18_0
      replace q55 := s57 _ _ q55
      replace r56 := Rep.mono s57 r56
      replace sF := sF.trans s57
      obtain rfl : v57 = V.bl y57 := r57
      refine ⟨_, rfl, ?_⟩
      refine post_ite hm (fun k58 hm => ?_) (fun k58 hm => ?_)
      · skip
        have w59 : W F57 _ (os) := w57.drop (pre := [])
        exact (post_ok hm) _ _ _ w59 sF rep_b
      · skip
        refine stepX ?_
        try dsimp only
        obtain ⟨F60, s60, w60, _⟩ := W.unlend1 w57 (s55.trans s57) la54 q55
        have h1 := h1_L54
        have q1 := q1_L54
        have q25 := q25_L54
        have h26 := h26_L54
        have q26 := q26_L54
        have h29 := h29_L54
        have q29 := q29_L54
        have q51 := q51_L54
        have r51 := r51_L54
        have g51 := g51_L54
        have h18_0 := h18_0_L54
        have sF := sF_L54
        replace h1 := A2.mono s60 h1
        replace q1 := s60.seq q1
        replace q25 := s60 _ _ q25
        replace h26 := A2.mono s60 h26
        replace q26 := s60 _ _ q26
        replace h29 := A2.mono s60 h29
        replace q29 := s60 _ _ q29
        replace q51 := s60 _ _ q51
        replace r51 := Rep.mono s60 r51
        replace g51 := A2.mono s60 g51
        replace h18_0 := A2.mono s60 h18_0
        replace sF := sF.trans s60
        refine ⟨_, rfl, _, _, _, _, rfl, rfl, SqT.of (w60.same _ _ q51), rfl, _, _, rfl, rfl, _, rfl, ?_⟩
        refine post_ite hm (fun k61 hm => ?_) (fun k61 hm => ?_)
        · skip
          have h62 : A2 (rep K F60) us51 l30 := g51
          refine ⟨_, rfl, _, _, _, _, rfl, rfl, SqT.of (w60.same _ _ q51), rfl, _, _, rfl, .inl (SqL.of (w60.get (pre := []))), fun p63 n63 => ?_⟩
          have w63 : W F60 _ ((p63, .lst us51) :: (p51, .lst us51) :: (p2, .lst vs18_0) :: os) := w60.new n63
          obtain ⟨F64, s64, w64, q64⟩ : ∃ F', Same F60 F' ∧ W F' _ ((p51, .lst us51) :: (p2, .lst vs18_0) :: os) ∧ F' p63 = some (.lst us51) := w63.freezeE (pre := [])
          replace h1 := A2.mono s64 h1
          replace q1 := s64.seq q1
          replace q25 := s64 _ _ q25
          replace h26 := A2.mono s64 h26
          replace q26 := s64 _ _ q26
          replace h29 := A2.mono s64 h29
          replace q29 := s64 _ _ q29
          replace q51 := s64 _ _ q51
          replace r51 := Rep.mono s64 r51
          replace g51 := A2.mono s64 g51
          replace h18_0 := A2.mono s64 h18_0
          replace h62 := A2.mono s64 h62
          replace sF := sF.trans s64
          obtain ⟨l65, z65, e65, hm⟩ := pn_app hm
          refine ⟨_, rfl, _, _, _, _, rfl, rfl, SqT.of (w64.same _ _ q51), rfl, .inl ⟨rfl, _, SqL.of (w64.get (pre := []))⟩, _, _, _, rfl, rfl, (w64.get (pre := [])), (A2.lt g51 z65), ?_⟩
          have h65 : A2 (rep K F64) (us51 ++ [(V.int 60)]) l65 := e65 ▸ A2.snoc g51 rep_i
          have w66 : W F64 _ ((p51, .lst (us51 ++ [(V.int 60)])) :: (p2, .lst vs18_0) :: os) := w64.set (pre := [])
          refine ⟨_, rfl, _, rfl, _, _, _, _, rfl, rfl, SqT.of (w66.same _ _ q51), rfl, (by show 3 ≤ sizeLine; decide), fun p67 n67 => ?_⟩
          obtain ⟨F67, s67, w67, q67⟩ := w66.frzE (o := .tup [(.str "looks"), (.ref p63), z51]) n67
          replace h1 := A2.mono s67 h1
          replace q1 := s67.seq q1
          replace q25 := s67 _ _ q25
          replace h26 := A2.mono s67 h26
          replace q26 := s67 _ _ q26
          replace h29 := A2.mono s67 h29
          replace q29 := s67 _ _ q29
          replace q51 := s67 _ _ q51
          replace r51 := Rep.mono s67 r51
          replace h62 := A2.mono s67 h62
          replace q64 := s67 _ _ q64
          replace h65 := A2.mono s67 h65
          replace h18_0 := A2.mono s67 h18_0
          replace sF := sF.trans s67
          have r67 : rep K F67 (.ref p67) ((Fw.looks l30 o30) : Fw) := (rep_lk q67 (rep_lst q64 h62) r51)
          have w68 : W F67 _ ((p2, .lst vs18_0) :: os) := w67.drop (pre := [])
          refine ⟨_, rfl, _, rfl, _, rfl, _, _, _, (y24.1 : (Int × (Tup (Int × Int)))), _, _, rfl, w68, (rep_pair q25 rep_i (rep_tup q26 h26)), ?_⟩
          refine (post_bind hm).mono (fun y69 hm v69 F69 H69 w69 s69 r69 => ?_) (fun _ z => z)
          replace h1 := A2.mono s69 h1
          replace q1 := s69.seq q1
          replace q25 := s69 _ _ q25
          replace h26 := A2.mono s69 h26
          replace q26 := s69 _ _ q26
          replace h29 := A2.mono s69 h29
          replace q29 := s69 _ _ q29
          replace q67 := s69 _ _ q67
          replace r67 := Rep.mono s69 r67
          replace h62 := A2.mono s69 h62
          replace q64 := s69 _ _ q64
          replace h18_0 := A2.mono s69 h18_0
          replace sF := sF.trans s69
          have r70 : rep K F69 v69 (y69 : Fw) := r69
          obtain ⟨a70, u70a, u70b, rfl, q70⟩ := fw_open r70
          obtain ⟨t71, e71, hm⟩ := pb_fwS hm
          have r71 : rep K F69 (V.ref a70) (t71 : FwS) := rep_fwS e71 r70
          obtain ⟨t72, e72, hm⟩ := pb_fwS hm
          have r72 : rep K F69 (V.ref p67) (t72 : FwS) := rep_fwS e72 r67
          refine ⟨_, rfl, (t71 : FwS), (t72 : FwS), (Rep.mono w69.same r71), (Rep.mono w69.same r72), _, rfl, ?_⟩
          refine post_ite hm (fun k73 hm => ?_) (fun k73 hm => ?_)
          · skip
            have w74 : W F69 _ (os) := w69.drop (pre := [])
            exact (post_ok hm) _ _ _ w74 sF rep_b
          · skip
            refine ⟨_, rfl, _, _, _, (x__law_script : Scr), _, rfl, w69, ⟨_, rfl, q1⟩, ?_⟩
            refine (post_bind hm).mono (fun y75 hm p75 us75 F75 H75 w75 s75 g75 => ?_) (fun _ z => z)
            replace h1 := A2.mono s75 h1
            replace q1 := s75.seq q1
            replace q25 := s75 _ _ q25
            replace h26 := A2.mono s75 h26
            replace q26 := s75 _ _ q26
            replace h29 := A2.mono s75 h29
            replace q29 := s75 _ _ q29
            replace q67 := s75 _ _ q67
            replace r67 := Rep.mono s75 r67
            replace h62 := A2.mono s75 h62
            replace q64 := s75 _ _ q64
            replace h18_0 := A2.mono s75 h18_0
            replace q70 := s75 _ _ q70
            replace r70 := Rep.mono s75 r70
            replace r71 := Rep.mono s75 r71
            replace r72 := Rep.mono s75 r72
            replace sF := sF.trans s75
            refine ⟨_, _, _, _, _, _, _, rfl, w75, g75, ?_⟩
            refine (post_bind hm).mono (fun y77 hm v77 vs77 F77 H77 w77 s77 r77 h77 => ?_) (fun _ z => z)
            replace h1 := A2.mono s77 h1
            replace q1 := s77.seq q1
            replace q25 := s77 _ _ q25
            replace h26 := A2.mono s77 h26
            replace q26 := s77 _ _ q26
            replace h29 := A2.mono s77 h29
            replace q29 := s77 _ _ q29
            replace q67 := s77 _ _ q67
            replace r67 := Rep.mono s77 r67
            replace h62 := A2.mono s77 h62
            replace q64 := s77 _ _ q64
            replace h18_0 := A2.mono s77 h18_0
            replace q70 := s77 _ _ q70
            replace r70 := Rep.mono s77 r70
            replace r71 := Rep.mono s77 r71
            replace r72 := Rep.mono s77 r72
            replace sF := sF.trans s77
            obtain ⟨a78, u78, z78, rfl, q78, r78a, r78b⟩ := r77
            obtain rfl : u78 = V.int y77.1.1 := r78a
            obtain ⟨a79, vs79, rfl, q79, h79⟩ := r78b
            refine ⟨_, rfl, _, rfl, _, _, _, (y77.1 : (Int × (Tup (Int × Int)))), _, _, rfl, w77, (rep_pair q78 rep_i (rep_tup q79 h79)), ?_⟩
            refine (post_bind hm).mono (fun y80 hm v80 F80 H80 w80 s80 r80 => ?_) (fun _ z => z)
            replace h1 := A2.mono s80 h1
            replace q1 := s80.seq q1
            replace q25 := s80 _ _ q25
            replace h26 := A2.mono s80 h26
            replace q26 := s80 _ _ q26
            replace h29 := A2.mono s80 h29
            replace q29 := s80 _ _ q29
            replace q67 := s80 _ _ q67
            replace r67 := Rep.mono s80 r67
            replace h62 := A2.mono s80 h62
            replace q64 := s80 _ _ q64
            replace h18_0 := A2.mono s80 h18_0
            replace q70 := s80 _ _ q70
            replace r70 := Rep.mono s80 r70
            replace r71 := Rep.mono s80 r71
            replace r72 := Rep.mono s80 r72
            replace h77 := A2.mono s80 h77
            replace q78 := s80 _ _ q78
            replace q79 := s80 _ _ q79
            replace h79 := A2.mono s80 h79
            replace sF := sF.trans s80
            obtain rfl : v80 = V.bl y80 := r80
            have w81 : W F80 _ ((p2, .lst vs18_0) :: os) := w80.drop (pre := [])
            have w82 : W F80 _ (os) := w81.drop (pre := [])
            exact (post_ok hm) _ _ _ w82 sF rep_b
        · skip
          exact (show False from hm).elim
end
end G
/-! MA2: webs drawn from a pool -/
namespace G
open PySem L2 Z
structure TiesOk (b : Nat) (n : Int) (ts : List (Int × Int)) : Prop where
  rg : ∀ p ∈ ts, 0 ≤ p.1 ∧ p.1 < p.2 ∧ p.2 < n
  nd : ts.Nodup
  conn : Conn n ts
  len : ts.length ≤ b
theorem TiesOk.up {b c : Nat} {n : Int} {ts : List (Int × Int)} (h : TiesOk b n ts) (hl : b ≤ c) : TiesOk c n ts := ⟨h.rg, h.nd, h.conn, Nat.le_trans h.len hl⟩
structure WebOk (n : Int) (ts : List (Int × Int)) : Prop where
  n1 : 1 ≤ n
  n60 : n ≤ 60
  rg : ∀ p ∈ ts, 0 ≤ p.1 ∧ p.1 < p.2 ∧ p.2 < n
  nd : ts.Nodup
  conn : Conn n ts
  len : ts.length ≤ 700
  srt : sortP ts = ts
theorem WebOk.rg4 {n : Int} {ts : List (Int × Int)} (h : WebOk n ts) : ∀ q ∈ ts, 0 ≤ q.1 ∧ q.1 < n ∧ 0 ≤ q.2 ∧ q.2 < n := fun q hq => by
  have := h.rg q hq
  omega
def moved (o : List Int) (p : Int × Int) : Int × Int := (min2 (o.getD p.1.toNat 0) (o.getD p.2.toNat 0), max2 (o.getD p.1.toNat 0) (o.getD p.2.toNat 0))
theorem perm_get {o : List Int} {n : Int} (h : o.Perm (rng 0 n)) (n0 : 0 ≤ n) {k : Int} (k0 : 0 ≤ k) (k1 : k < n) : ∃ x, o[k.toNat]? = some x ∧ 0 ≤ x ∧ x < n := by
  have hl := h.length_eq
  rw [rng_length] at hl
  have hk : k.toNat < o.length := by omega
  refine ⟨o[k.toNat], List.getElem?_eq_getElem hk, ?_⟩
  exact rng_mem.mp (h.mem_iff.mp (List.getElem_mem hk))
theorem perm_getD {o : List Int} {n : Int} (h : o.Perm (rng 0 n)) (n0 : 0 ≤ n) {k : Int} (k0 : 0 ≤ k) (k1 : k < n) : 0 ≤ o.getD k.toNat 0 ∧ o.getD k.toNat 0 < n := by
  obtain ⟨x, e, x0, x1⟩ := perm_get h n0 k0 k1
  rw [List.getD_eq_getElem?_getD, e]
  exact ⟨x0, x1⟩
theorem perm_inj {o : List Int} {n : Int} (h : o.Perm (rng 0 n)) (n0 : 0 ≤ n) {j k : Int} (j0 : 0 ≤ j) (j1 : j < n) (k0 : 0 ≤ k) (k1 : k < n) (e : o.getD j.toNat 0 = o.getD k.toNat 0) : j = k := by
  have hl := h.length_eq
  rw [rng_length] at hl
  have hnd : o.Nodup := (h.nodup_iff).mpr (rng_nodup 0 n)
  have hj : j.toNat < o.length := by omega
  have hk : k.toNat < o.length := by omega
  rw [List.getD_eq_getElem?_getD, List.getD_eq_getElem?_getD, List.getElem?_eq_getElem hj, List.getElem?_eq_getElem hk] at e
  have e' : o[j.toNat] = o[k.toNat] := e
  have hpw := List.pairwise_iff_getElem.mp hnd
  rcases Nat.lt_trichotomy j.toNat k.toNat with q | q | q
  · exact absurd e' (hpw _ _ hj hk q)
  · omega
  · exact absurd e'.symm (hpw _ _ hk hj q)
theorem perm_surj {o : List Int} {n : Int} (h : o.Perm (rng 0 n)) (n0 : 0 ≤ n) {x : Int} (x0 : 0 ≤ x) (x1 : x < n) : ∃ k, 0 ≤ k ∧ k < n ∧ o.getD k.toNat 0 = x := by
  have hx : x ∈ o := h.mem_iff.mpr (rng_mem.mpr ⟨x0, x1⟩)
  obtain ⟨i, hi⟩ := List.mem_iff_getElem?.mp hx
  have hl := h.length_eq
  rw [rng_length] at hl
  have hil := (List.getElem?_eq_some_iff.mp hi).1
  refine ⟨i, by omega, by omega, ?_⟩
  rw [List.getD_eq_getElem?_getD, Int.toNat_natCast, hi]
  rfl
theorem mm_cases (a b : Int) : (min2 a b = a ∧ max2 a b = b ∧ a ≤ b) ∨ (min2 a b = b ∧ max2 a b = a ∧ b ≤ a) := by
  unfold min2 max2
  by_cases h : b < a
  · rw [if_pos h, if_neg (by omega)]
    exact .inr ⟨rfl, rfl, by omega⟩
  · rw [if_neg h]
    by_cases h2 : b > a
    · rw [if_pos h2]
      exact .inl ⟨rfl, rfl, by omega⟩
    · rw [if_neg h2]
      have : a = b := by omega
      subst this
      exact .inl ⟨rfl, rfl, by omega⟩
theorem moved_inj {o : List Int} {n : Int} (h : o.Perm (rng 0 n)) (n0 : 0 ≤ n) {p q : Int × Int} (hp : 0 ≤ p.1 ∧ p.1 < p.2 ∧ p.2 < n) (hq : 0 ≤ q.1 ∧ q.1 < q.2 ∧ q.2 < n) (e : moved o p = moved o q) : p = q := by
  unfold moved at e
  injection e with e1 e2
  have i1 := fun e => perm_inj h n0 (j := p.1) (k := q.1) hp.1 (by omega) hq.1 (by omega) e
  have i2 := fun e => perm_inj h n0 (j := p.2) (k := q.2) (by omega) hp.2.2 (by omega) hq.2.2 e
  have i3 := fun e => perm_inj h n0 (j := p.1) (k := q.2) hp.1 (by omega) (by omega) hq.2.2 e
  have i4 := fun e => perm_inj h n0 (j := p.2) (k := q.1) (by omega) hp.2.2 hq.1 (by omega) e
  rcases mm_cases (o.getD p.1.toNat 0) (o.getD p.2.toNat 0) with ⟨a1, a2, _⟩ | ⟨a1, a2, _⟩ <;> rcases mm_cases (o.getD q.1.toNat 0) (o.getD q.2.toNat 0) with ⟨b1, b2, _⟩ | ⟨b1, b2, _⟩ <;> rw [a1, b1] at e1 <;> rw [a2, b2] at e2
  · exact Prod.ext (i1 e1) (i2 e2)
  · have := i3 e1
    have := i4 e2
    omega
  · have := i4 e1
    have := i3 e2
    omega
  · exact Prod.ext (i1 e2) (i2 e1)
theorem moved_ok {o : List Int} {n : Int} {ts : List (Int × Int)} (ho : o.Perm (rng 0 n)) (n0 : 1 ≤ n) (n1 : n ≤ 60) (h : TiesOk 700 n ts) : WebOk n (sortP (ts.map (moved o))) := by
  have hperm := sortP_perm (ts.map (moved o))
  refine ⟨n0, n1, fun p hp => ?_, ?_, ?_, ?_, ?_⟩
  · obtain ⟨q, hq, rfl⟩ := List.mem_map.mp (hperm.mem_iff.mp hp)
    have hr := h.rg q hq
    have r1 := perm_getD ho (by omega) (k := q.1) hr.1 (by omega)
    have r2 := perm_getD ho (by omega) (k := q.2) (by omega) hr.2.2
    have ne : o.getD q.1.toNat 0 ≠ o.getD q.2.toNat 0 := fun e => by
      have := perm_inj ho (by omega) hr.1 (by omega) (by omega) hr.2.2 e
      omega
    unfold moved
    dsimp only
    rcases mm_cases (o.getD q.1.toNat 0) (o.getD q.2.toNat 0) with ⟨a1, a2, _⟩ | ⟨a1, a2, _⟩ <;> rw [a1, a2] <;> omega
  · refine hperm.nodup_iff.mpr ?_
    refine List.Pairwise.map (R := fun p q => p ≠ q ∧ p ∈ ts ∧ q ∈ ts) _ (fun p q hpq e => hpq.1 (moved_inj ho (by omega) (h.rg p hpq.2.1) (h.rg q hpq.2.2) e)) ?_
    exact h.nd.imp_of_mem fun hp hq hne => ⟨hne, hp, hq⟩
  · intro S h0 hc
    obtain ⟨r, r0, r1, er⟩ := perm_surj ho (by omega) (x := 0) (by omega) (by omega)
    have key := h.conn.any (S := fun k => S (o.getD k.toNat 0)) r0 r1 (by show S (o.getD r.toNat 0); rw [er]; exact h0) fun p hp => by
      have hm : moved o p ∈ sortP (ts.map (moved o)) := hperm.mem_iff.mpr (List.mem_map.mpr ⟨p, hp, rfl⟩)
      have := hc _ hm
      unfold moved at this
      dsimp only at this
      rcases mm_cases (o.getD p.1.toNat 0) (o.getD p.2.toNat 0) with ⟨a1, a2, _⟩ | ⟨a1, a2, _⟩
      · rw [a1, a2] at this
        exact this
      · rw [a1, a2] at this
        exact this.symm
    intro k k0 k1
    obtain ⟨j, j0, j1, ej⟩ := perm_surj ho (by omega) k0 k1
    rw [← ej]
    exact key j j0 j1
  · rw [hperm.length_eq, List.length_map]
    exact h.len
  · exact (sortP_eq (List.Perm.refl _) (sortP_sorted _)).symm
/-! ### the purse -/
def PuOk (s : List Int) : Prop := ∃ a : Int, s = [a] ∧ 0 ≤ a
theorem take_ok {s : List Int} {m : Int} (h : PuOk s) (h0 : 0 < m) (h1 : m < 1073741824) : Post (law_take s m) (fun r => 0 ≤ r.1 ∧ r.1 < m ∧ PuOk r.2) noX := by
  obtain ⟨a, rfl, a0⟩ := h
  unfold law_take
  refine po_getE (x := a) rfl (po_mod h0 fun r0 r1 => po_getE (x := a) rfl (po_div h0 h1 (po_set (Int.le_refl _) (by show (0 : Int) < 1; decide) ?_)))
  exact ⟨r0, r1, a / m, rfl, Int.ediv_nonneg a0 (by omega)⟩
theorem ten30 : ((10 : Int) ^ ((30 : Int) : Int).toNat) = 1000000000000000000000000000000 := by decide +kernel
theorem ten18 : ((10 : Int) ^ ((18 : Int) : Int).toNat) = 1000000000000000000 := by decide +kernel
theorem fits400 {i : Int} (h0 : 0 ≤ i) (h1 : i < 10000000000000000000000000000000000000000) : i.natAbs < 2 ^ 400 := by
  have h : i.natAbs < 10000000000000000000000000000000000000000 := by omega
  exact Nat.lt_of_lt_of_le h (by decide +kernel)
theorem purse_ok {sc : Scr} {k : Int} (k0 : 0 ≤ k) (k1 : k < 1000) : Post (law_purse sc k) PuOk noX := by
  unfold law_purse
  rw [ten30, ten18]
  refine po_bind (Q := fun _ => True) (po_if (fun c => ?_) fun c => po_if (fun c2 => ?_) fun _ => trivial) fun g2 _ => po_if (fun c => ?_) fun c => ?_
  · exact po_get k0 (of_decide_eq_true c) fun t _ _ => trivial
  · have hl : sc.l ≠ [] := by
      intro e
      obtain ⟨l⟩ := sc
      have e' : l = [] := e
      subst e'
      rw [decide_eq_true rfl] at c2
      cases c2
    have hp : (0 : Int) < (sc.l.length : Int) := by
      have := List.length_pos_iff.mpr hl
      omega
    exact po_mod hp fun r0 r1 => po_get r0 r1 fun t _ _ => trivial
  · have c' := of_decide_eq_true c
    exact ⟨g2, rfl, by omega⟩
  · have r0 : 0 ≤ g2 % (1000000000000000000000000000000 + 57) := Int.emod_nonneg _ (by decide)
    have r1 : g2 % (1000000000000000000000000000000 + 57) < (1000000000000000000000000000000 + 57) := Int.emod_lt_of_pos _ (by decide)
    generalize g2 % (1000000000000000000000000000000 + 57) = r at r0 r1
    rw [po_sq (fits400 (by omega) (by omega)), ok_bind]
    generalize ((r + 7919 * k) + 101) * ((r + 7919 * k) + 101) = q
    have s0 : 0 ≤ q % (1000000000000000000000000000000 + 57) := Int.emod_nonneg _ (by decide)
    have s1 : q % (1000000000000000000000000000000 + 57) < (1000000000000000000000000000000 + 57) := Int.emod_lt_of_pos _ (by decide)
    generalize q % (1000000000000000000000000000000 + 57) = s at s0 s1
    rw [po_mulW (fits400 (by omega) (by omega)) (fits400 (by decide) (by decide)), ok_bind]
    exact ⟨_, rfl, Int.emod_nonneg _ (by decide)⟩
theorem order_ok {s : List Int} {n : Int} (h : PuOk s) (n0 : 0 ≤ n) (n1 : n ≤ 1000) : Post (law_order s n) (fun r => r.1.Perm (rng 0 n) ∧ PuOk r.2) noX := by
  unfold law_order
  refine po_rng (by decide) (by decide) (by omega) (by omega) ?_
  refine po_bind (po_foldP (fun pre (g : List Int × List Int) => g.1.Perm pre ∧ PuOk g.2) ⟨List.Perm.refl _, h⟩ ?_) fun g hg => po_ok hg
  rintro pre ⟨l, p⟩ x post e ⟨h1, h2⟩
  have h1' : l.Perm pre := h1
  have hx := rng_pre e
  obtain ⟨_, x0, x1⟩ := rng_split e
  have hl := h1'.length_eq
  refine po_bind (take_ok h2 (by omega) (by omega)) fun y ⟨y0, y1, hy⟩ => ?_
  have hi : insR l y.1 x = R.ok (l.take y.1.toNat ++ [x] ++ l.drop y.1.toNat) := by
    unfold insR
    rw [if_pos ⟨by omega, y0, by omega⟩]
  show Post (insR l y.1 x >>= _) _ _
  rw [hi, ok_bind]
  refine ⟨?_, hy⟩
  show (l.take y.1.toNat ++ [x] ++ l.drop y.1.toNat).Perm (pre ++ [x])
  have p1 : (l.take y.1.toNat ++ [x] ++ l.drop y.1.toNat).Perm (l.take y.1.toNat ++ l.drop y.1.toNat ++ [x]) := by
    rw [List.append_assoc, List.append_assoc]
    exact List.Perm.append_left _ List.perm_append_comm
  rw [List.take_append_drop] at p1
  exact p1.trans (h1'.append_right _)
/-! ### the pairs -/
structure PairsOk (n k : Int) (g : List (Int × Int)) : Prop where
  rg : ∀ p ∈ g, 0 ≤ p.1 ∧ p.1 < n ∧ 0 ≤ p.2 ∧ p.2 < n ∧ p.1 ≠ p.2
  dn : ∀ j, 1 ≤ j → j < k → ∃ i, 0 ≤ i ∧ i < j ∧ (i, j) ∈ g
theorem PairsOk.add {n k : Int} {g us : List (Int × Int)} (h : PairsOk n k g) (hu : ∀ p ∈ us, 0 ≤ p.1 ∧ p.1 < n ∧ 0 ≤ p.2 ∧ p.2 < n ∧ p.1 ≠ p.2) : PairsOk n k (g ++ us) :=
  ⟨fun p hp => (List.mem_append.mp hp).elim (h.rg p) (hu p), fun j j1 jk => let ⟨i, a, b, c⟩ := h.dn j j1 jk; ⟨i, a, b, List.mem_append_left _ c⟩⟩
theorem PairsOk.next {n k : Int} {g : List (Int × Int)} (h : PairsOk n k g) (hk : 1 ≤ k → ∃ i, 0 ≤ i ∧ i < k ∧ (i, k) ∈ g) : PairsOk n (k + 1) g := by
  refine ⟨h.rg, fun j j1 jk => ?_⟩
  by_cases e : j = k
  · subst e
    exact hk j1
  · exact h.dn j j1 (by omega)
theorem repL_one {α : Type} (x : α) (b : Bool) : repL [x] (b2i b) = if b = true then [x] else [] := by
  cases b <;> rfl
theorem pairs_ok {s : List Int} {n way : Int} (h : PuOk s) (n0 : 1 ≤ n) (n1 : n ≤ 60) (w0 : 0 ≤ way) : Post (law_pairs s n way) (fun r => PairsOk n n r.1 ∧ r.1.length < 5000 ∧ PuOk r.2) noX := by
  unfold law_pairs
  refine po_rng (by decide) (by decide) (by omega) (by omega) ?_
  refine po_bind (po_foldP (fun pre (g : List (Int × Int) × List Int) => PairsOk n (1 + pre.length) g.1 ∧ g.1.length ≤ 61 * pre.length ∧ PuOk g.2) ⟨⟨fun _ hp => (nomatch hp), fun j j1 jk => by
      have : j < 1 := jk
      omega⟩, Nat.le_refl _, h⟩ ?_) fun g4 ⟨g1, g2, g3⟩ => ?_
  · rintro pre ⟨g, p⟩ x post e ⟨h1, h2, h3⟩
    have h1' : PairsOk n (1 + pre.length) g := h1
    have h2' : g.length ≤ 61 * pre.length := h2
    have hx := rng_pre e
    obtain ⟨_, x1, xn⟩ := rng_split e
    refine po_bind (take_ok h3 (by omega) (by omega)) fun y ⟨y0, y1, hy⟩ => ?_
    have hm0 : 0 ≤ min2 way 3 ∧ min2 way 3 < 4 := by
      rcases mm_cases way 3 with ⟨e1, _, _⟩ | ⟨e1, _, _⟩ <;> rw [e1] <;> omega
    refine po_get hm0.1 hm0.2 fun t ht _ => ?_
    have ht' : 0 ≤ t ∧ t < x := by
      rcases List.mem_cons.mp ht with rfl | ht
      · omega
      · rcases List.mem_cons.mp ht with rfl | ht
        · omega
        · rcases List.mem_cons.mp ht with rfl | ht
          · omega
          · rcases List.mem_cons.mp ht with rfl | ht
            · omega
            · cases ht
    refine po_app (by show g.length < 100000; omega) ?_
    have q1 : PairsOk n (1 + pre.length + 1) (g ++ [(t, x)]) := by
      refine (h1'.add (us := [(t, x)]) fun p hp => ?_).next fun _ => ⟨t, ht'.1, by omega, ?_⟩
      · rw [List.mem_singleton.mp hp]
        exact ⟨ht'.1, by show t < n; omega, by show 0 ≤ x; omega, xn, by show t ≠ x; omega⟩
      · rw [← hx]
        exact List.mem_append_right _ (List.mem_singleton.mpr rfl)
    have lp : ((pre ++ [x]).length : Int) = pre.length + 1 := by rw [List.length_append]; rfl
    have lp' : (pre ++ [x]).length = pre.length + 1 := by rw [List.length_append]; rfl
    have q1' : PairsOk n (1 + ((pre ++ [x]).length : Int)) (g ++ [(t, x)]) := by rw [lp, show (1 : Int) + (pre.length + 1) = 1 + pre.length + 1 by omega]; exact q1
    refine po_if (fun _ => ?_) fun _ => ?_
    · refine po_rng (by decide) (by decide) (by omega) (by omega) ?_
      refine po_mapGE (g := fun b => (b, x)) (by rw [rng_length]; omega) (fun b _ => rfl) ?_
      have ll : ((rng 0 x).map fun b => (b, x)).length = x.toNat := by rw [List.length_map, rng_length]; omega
      refine po_extend (by rw [ll, List.length_append]; show g.length + 1 + x.toNat < 100000; omega) ⟨q1'.add fun p hp => ?_, ?_, hy⟩
      · obtain ⟨b, hb, rfl⟩ := List.mem_map.mp hp
        have := rng_mem.mp hb
        exact ⟨this.1, by show b < n; omega, by show 0 ≤ x; omega, xn, by show b ≠ x; omega⟩
      · show ((g ++ [(t, x)]) ++ _).length ≤ _
        rw [List.length_append, ll, List.length_append, lp']
        show g.length + 1 + x.toNat ≤ _
        omega
    · refine ⟨q1', ?_, hy⟩
      show (g ++ [(t, x)]).length ≤ _
      rw [List.length_append, lp']
      show g.length + 1 ≤ _
      omega
  · have lr : (rng 1 n).length = (n - 1).toNat := rng_length 1 n
    rw [lr, show (1 : Int) + (((n - 1).toNat : Nat) : Int) = n by omega] at g1
    rw [lr] at g2
    refine po_bind (Q := fun g => PairsOk n n g ∧ g.length < 3700) (po_if (fun c => ?_) fun _ => ⟨g1, by omega⟩) fun g26 ⟨k1, k2⟩ => ?_
    · have c' : (decide (way = 1) && decide ((2 : Int) < n)) = true := c
      rw [Bool.and_eq_true] at c'
      have n2 := of_decide_eq_true c'.2
      refine po_app (by omega) ⟨g1.add fun p hp => ?_, ?_⟩
      · rw [List.mem_singleton.mp hp]
        exact ⟨by show (0 : Int) ≤ 0; omega, by show (0 : Int) < n; omega, by show 0 ≤ n - 1; omega, by show n - 1 < n; omega, by show (0 : Int) ≠ n - 1; omega⟩
      · rw [List.length_append]
        show g4.1.length + 1 < _
        omega
    · refine po_bind (Q := fun (g : List (Int × Int) × List Int) => PairsOk n n g.1 ∧ g.1.length < 5000 ∧ PuOk g.2) (po_if (fun c => ?_) fun _ => ⟨k1, by show g26.length < 5000; omega, g3⟩) fun g35 hg => po_ok hg
      refine po_bind (take_ok g3 (by decide) (by decide)) fun y ⟨y0, y1, hy⟩ => ?_
      refine po_rng (by decide) (by decide) (by omega) (by omega) ?_
      refine po_bind (po_foldP (fun pre (g : List Int × List (Int × Int)) => PuOk g.1 ∧ PairsOk n n g.2 ∧ g.2.length ≤ 3700 + pre.length) ⟨hy, k1, by show g26.length ≤ 3700 + 0; omega⟩ ?_) fun g ⟨a1, a2, a3⟩ => ?_
      · rintro pre ⟨p, g⟩ x post e ⟨h1, h2, h3⟩
        have h3' : g.length ≤ 3700 + pre.length := h3
        have hx := rng_pre e
        obtain ⟨_, x1, xn⟩ := rng_split e
        refine po_bind (take_ok h1 (by omega) (by omega)) fun u ⟨u0, u1, hu⟩ => po_bind (take_ok hu (by omega) (by omega)) fun v ⟨v0, v1, hv⟩ => ?_
        have hb : 0 ≤ b2i (!decide (u.1 = v.1)) ∧ b2i (!decide (u.1 = v.1)) < 1000 := by
          cases (!decide (u.1 = v.1)) <;> decide
        refine po_rep hb.1 hb.2 (by show 1 < 100; decide) ?_
        rw [repL_one]
        have lx : (pre ++ [x]).length = pre.length + 1 := by rw [List.length_append]; rfl
        by_cases q : (!decide (u.1 = v.1)) = true
        · rw [if_pos q]
          have hne : u.1 ≠ v.1 := by
            intro z
            rw [decide_eq_true z] at q
            cases q
          refine po_extend (by show g.length + 1 < 100000; omega) ⟨hv, h2.add fun p hp => ?_, ?_⟩
          · rw [List.mem_singleton.mp hp]
            exact ⟨u0, u1, v0, v1, hne⟩
          · show (g ++ [_]).length ≤ _
            rw [List.length_append, lx]
            show g.length + 1 ≤ _
            omega
        · rw [if_neg q]
          refine po_extend (by show g.length + 0 < 100000; omega) ⟨hv, ?_, ?_⟩
          · show PairsOk n n (g ++ [])
            rw [List.append_nil]
            exact h2
          · show (g ++ []).length ≤ _
            rw [List.append_nil, lx]
            omega
      · rw [rng_length] at a3
        exact ⟨a2, by show g.2.length < 5000; omega, a1⟩
/-! ### the web -/
def norm2 (p : Int × Int) : Int × Int := (min2 p.1 p.2, max2 p.1 p.2)
theorem moved_norm (o : List Int) (p : Int × Int) : moved o (norm2 p) = moved o p := by
  unfold norm2
  rcases mm_cases p.1 p.2 with ⟨e1, e2, _⟩ | ⟨e1, e2, _⟩
  · rw [e1, e2]
  · rw [e1, e2]
    unfold moved
    show (min2 (o.getD p.2.toNat 0) (o.getD p.1.toNat 0), max2 (o.getD p.2.toNat 0) (o.getD p.1.toNat 0)) = _
    rcases mm_cases (o.getD p.1.toNat 0) (o.getD p.2.toNat 0) with ⟨a1, a2, _⟩ | ⟨a1, a2, _⟩ <;> rcases mm_cases (o.getD p.2.toNat 0) (o.getD p.1.toNat 0) with ⟨b1, b2, _⟩ | ⟨b1, b2, _⟩ <;> rw [a1, a2, b1, b2] <;> (refine Prod.ext ?_ ?_ <;> show _ = _ <;> first | rfl | omega)
theorem norm2_rg {n : Int} {p : Int × Int} (h : 0 ≤ p.1 ∧ p.1 < n ∧ 0 ≤ p.2 ∧ p.2 < n ∧ p.1 ≠ p.2) : 0 ≤ (norm2 p).1 ∧ (norm2 p).1 < (norm2 p).2 ∧ (norm2 p).2 < n := by
  unfold norm2
  rcases mm_cases p.1 p.2 with ⟨e1, e2, _⟩ | ⟨e1, e2, _⟩ <;> rw [e1, e2] <;> refine ⟨?_, ?_, ?_⟩ <;> dsimp only <;> omega
theorem few_pairs5 {ps : List (Int × Int)} {n : Int} (hn : n ≤ 26) (hd : ps.Nodup) (hr : ∀ p ∈ ps, 0 ≤ p.1 ∧ p.1 < p.2 ∧ p.2 < n) : ps.length ≤ 700 := by
  have h1 : (ps.map fun p => p.1 * 26 + p.2).Nodup := by
    refine List.pairwise_map.mpr (hd.imp_of_mem ?_)
    intro a b ha hb hne e
    have ra := hr a ha
    have rb := hr b hb
    exact hne (Prod.ext (by omega) (by omega))
  have h2 := nodup_le h1 (ys := rng 0 676) fun x hx => by
    obtain ⟨p, hp, rfl⟩ := List.mem_map.mp hx
    have := hr p hp
    exact rng_mem.mpr ⟨by omega, by omega⟩
  rw [List.length_map, rng_length] at h2
  have : ((676 : Int) - 0).toNat = 676 := by decide
  omega
theorem web_ok5 {s : List Int} {lo hi : Int} (h : PuOk s) (l1 : 1 ≤ lo) (l2 : lo ≤ hi) (l3 : hi ≤ 26) : Post (law_web s lo hi) (fun r => lo ≤ r.1.1 ∧ r.1.1 ≤ hi ∧ WebOk r.1.1 r.1.2.l ∧ PuOk r.2) noX := by
  unfold law_web
  refine po_bind (take_ok h (by omega) (by omega)) fun y2 ⟨a0, a1, h2⟩ => po_bind (take_ok h2 (by decide) (by decide)) fun y6 ⟨b0, b1, h6⟩ => ?_
  generalize hn : lo + y2.1 = n
  have n1 : 1 ≤ n := by omega
  have n2 : n ≤ 26 := by omega
  refine po_bind (pairs_ok h6 n1 (by omega) b0) fun y7 ⟨p1, p2, h7⟩ => po_bind (order_ok h7 (by omega) (by omega)) fun y10 ⟨ho, h10⟩ => ?_
  refine po_bind (po_foldP (fun pre (g : List (Int × Int)) => ∃ us : List (Int × Int), g = us.map (moved y10.1) ∧ us.Nodup ∧ (∀ q ∈ us, 0 ≤ q.1 ∧ q.1 < q.2 ∧ q.2 < n) ∧ ∀ p ∈ pre, norm2 p ∈ us) ⟨[], rfl, List.nodup_nil, fun _ z => (nomatch z), fun _ z => (nomatch z)⟩ ?_) ?_
  · rintro pre g x post e ⟨us, rfl, hd, hr, hm⟩
    have hx := p1.rg x (by rw [e]; simp)
    obtain ⟨u, eu, _⟩ := perm_get ho (by omega) (k := x.1) hx.1 hx.2.1
    obtain ⟨v, ev, _⟩ := perm_get ho (by omega) (k := x.2) hx.2.2.1 hx.2.2.2.1
    rw [getI_eq hx.1 eu, ok_bind, getI_eq hx.2.2.1 ev, ok_bind]
    have em : (min2 u v, max2 u v) = moved y10.1 x := by
      unfold moved
      rw [List.getD_eq_getElem?_getD, List.getD_eq_getElem?_getD, eu, ev]
      rfl
    rw [em]
    have hn2 := norm2_rg ⟨hx.1, hx.2.1, hx.2.2.1, hx.2.2.2.1, hx.2.2.2.2⟩
    have hlen := few_pairs5 n2 hd hr
    refine po_if (fun c => ?_) fun c => ?_
    · have hnin : moved y10.1 x ∉ us.map (moved y10.1) := by
        intro z
        have : inB (moved y10.1 x) (us.map (moved y10.1)) = true := inB_t.mpr z
        rw [this] at c
        cases c
      refine po_app (by rw [List.length_map]; omega) ⟨us ++ [norm2 x], ?_, ?_, ?_, ?_⟩
      · rw [List.map_append, List.map_singleton, moved_norm]
      · rw [List.nodup_append]
        refine ⟨hd, by simp, fun a ha b hb e2 => ?_⟩
        rw [List.mem_singleton.mp hb] at e2
        exact hnin (List.mem_map.mpr ⟨a, ha, by rw [e2, moved_norm]⟩)
      · intro q hq
        rcases List.mem_append.mp hq with hq | hq
        · exact hr q hq
        · rw [List.mem_singleton.mp hq]
          exact hn2
      · intro p hp
        rcases List.mem_append.mp hp with hp | hp
        · exact List.mem_append_left _ (hm p hp)
        · rw [List.mem_singleton.mp hp]
          exact List.mem_append_right _ (List.mem_singleton.mpr rfl)
    · have hin : moved y10.1 x ∈ us.map (moved y10.1) := by
        by_cases z : moved y10.1 x ∈ us.map (moved y10.1)
        · exact z
        · have : inB (moved y10.1 x) (us.map (moved y10.1)) = false := by
            cases q : inB (moved y10.1 x) (us.map (moved y10.1)) with
            | false => rfl
            | true => exact absurd (inB_t.mp q) z
          rw [this] at c
          exact absurd rfl c
      obtain ⟨q, hq, eq⟩ := List.mem_map.mp hin
      have e2 : q = norm2 x := moved_inj ho (by omega) (hr q hq) hn2 (by rw [eq, moved_norm])
      refine ⟨us, rfl, hd, hr, fun p hp => ?_⟩
      rcases List.mem_append.mp hp with hp | hp
      · exact hm p hp
      · rw [List.mem_singleton.mp hp, ← e2]
        exact hq
  · rintro g ⟨us, rfl, hd, hr, hm⟩
    have ht : TiesOk 700 n us := by
      refine ⟨hr, hd, conn_tree fun k k1 kn => ?_, few_pairs5 n2 hd hr⟩
      obtain ⟨i, i0, ik, hi⟩ := p1.dn k k1 kn
      refine ⟨i, i0, ik, .inl ?_⟩
      have := hm (i, k) hi
      unfold norm2 at this
      rcases mm_cases i k with ⟨e1, e2, _⟩ | ⟨_, _, z⟩
      · rw [show (min2 (i, k).1 (i, k).2, max2 (i, k).1 (i, k).2) = (i, k) by show (min2 i k, max2 i k) = _; rw [e1, e2]] at this
        exact this
      · omega
    exact ⟨by show lo ≤ n; omega, by show n ≤ hi; omega, moved_ok ho n1 (show n ≤ 60 by omega) ht, h10⟩
end G
/-! MB: neighbours and fars, as the program reckons them -/
namespace G
open PySem L2 Z
/-- the places tied to one, in the ties' order -/
def nbs (ts : List (Int × Int)) (i : Int) : List Int := ts.flatMap fun p => (if p.1 = i then [p.2] else []) ++ (if p.2 = i then [p.1] else [])
theorem nbs_snoc (ts : List (Int × Int)) (x : Int × Int) (i : Int) : nbs (ts ++ [x]) i = nbs ts i ++ ((if x.1 = i then [x.2] else []) ++ (if x.2 = i then [x.1] else [])) := by
  unfold nbs
  rw [List.flatMap_append]
  simp
theorem nbs_mem {ts : List (Int × Int)} {i j : Int} : j ∈ nbs ts i ↔ Adj ts i j := by
  unfold nbs Adj
  rw [List.mem_flatMap]
  constructor
  · rintro ⟨p, hp, h⟩
    rcases List.mem_append.mp h with h | h
    · split at h
      · rename_i e
        rw [List.mem_singleton] at h
        rw [← e, h]
        exact .inl hp
      · cases h
    · split at h
      · rename_i e
        rw [List.mem_singleton] at h
        rw [← e, h]
        exact .inr hp
      · cases h
  · rintro (h | h)
    · exact ⟨_, h, List.mem_append_left _ (by simp)⟩
    · exact ⟨_, h, List.mem_append_right _ (by simp)⟩
theorem nbs_len (ts : List (Int × Int)) (i : Int) : (nbs ts i).length ≤ 2 * ts.length := by
  induction ts with
  | nil => exact Nat.le_refl _
  | cons p ts ih =>
    have e : nbs (p :: ts) i = ((if p.1 = i then [p.2] else []) ++ (if p.2 = i then [p.1] else [])) ++ nbs ts i := rfl
    rw [e, List.length_append, List.length_append, List.length_cons]
    have h1 : (if p.1 = i then [p.2] else []).length ≤ 1 := by split <;> simp
    have h2 : (if p.2 = i then [p.1] else []).length ≤ 1 := by split <;> simp
    omega
theorem map_rng_get {α : Type} {n : Int} {F : Int → α} {j : Int} (h0 : 0 ≤ j) (h1 : j < n) : ((rng 0 n).map F)[j.toNat]? = some (F j) := by
  rw [List.getElem?_map, rng_atE (by omega)]
  show some (F (0 + (j.toNat : Int))) = _
  rw [show (0 : Int) + (j.toNat : Int) = j by omega]
theorem map_rng_set {α : Type} {n : Int} {F : Int → α} {j : Int} {y : α} (h0 : 0 ≤ j) : ((rng 0 n).map F).set j.toNat y = (rng 0 n).map fun i => if i = j then y else F i := by
  apply List.ext_getElem?
  intro k
  rw [List.getElem?_set, List.getElem?_map, List.getElem?_map, List.length_map]
  by_cases hk : k < (n - 0).toNat
  · rw [rng_atE hk]
    by_cases e : j.toNat = k
    · rw [if_pos e, if_pos (by rw [rng_length]; omega)]
      show some y = some (if (0 : Int) + (k : Int) = j then y else F (0 + k))
      rw [if_pos (by omega)]
    · rw [if_neg e]
      show some (F (0 + k)) = some (if (0 : Int) + (k : Int) = j then y else F (0 + k))
      rw [if_neg (by omega)]
  · rw [List.getElem?_eq_none (by rw [rng_length]; omega)]
    by_cases e : j.toNat = k
    · rw [if_pos e, if_neg (by rw [rng_length]; omega)]; rfl
    · rw [if_neg e]
      rfl
theorem map_rng_congr {α : Type} {n : Int} {F G : Int → α} (h : ∀ i, 0 ≤ i → i < n → F i = G i) : (rng 0 n).map F = (rng 0 n).map G := List.map_congr_left fun i hi => h i (rng_mem.mp hi).1 (rng_mem.mp hi).2
theorem range_get {N : Nat} {j : Int} (h0 : 0 ≤ j) (h1 : j < N) : getI (List.range N) j = R.ok j.toNat := by
  refine getI_eq h0 ?_
  rw [List.getElem?_range (by omega)]
def nears (n : Int) (ts : List (Int × Int)) : List (List Int) := (rng 0 n).map fun i => sortI (nbs ts i)
theorem near_lists_ok {n : Int} {ts : List (Int × Int)} (n0 : 0 ≤ n) (n1 : n < 1000) (hl : ts.length < 40000) (hr : ∀ p ∈ ts, 0 ≤ p.1 ∧ p.1 < n ∧ 0 ≤ p.2 ∧ p.2 < n) : near_lists (n, ⟨ts⟩) = R.ok (nears n ts) := by
  refine po_iff ?_
  unfold near_lists
  refine po_rng (by decide) (by decide) (by show -(2 ^ 62) ≤ n; omega) (by show n < 2 ^ 62; omega) ?_
  have hN : (rng 0 n).length = n.toNat := by rw [rng_length]; omega
  refine po_bind (po_mapStA (fun pre acc s => acc = List.range pre.length ∧ s = List.replicate pre.length []) (by show (rng 0 n).length < 100000; omega) ⟨rfl, rfl⟩ fun pre acc s x post e ⟨h1, h2⟩ => ?_) fun l5 ⟨a1, a2⟩ => ?_
  · refine po_newS ⟨?_, ?_⟩
    · show acc ++ [s.length] = _
      rw [h1, h2, List.length_replicate, List.length_append, List.length_singleton, List.range_succ]
    · show s ++ [[]] = _
      rw [h2, List.length_append, List.length_singleton, List.replicate_succ']
  · rw [hN] at a1 a2
    refine po_bind (po_foldP (fun pre g => g = (rng 0 n).map fun i => nbs pre i) ?_ fun pre g x post e hg => ?_) fun g11 hg => ?_
    · rw [a2]
      apply List.ext_getElem?
      intro k
      rw [List.getElem?_replicate, List.getElem?_map]
      by_cases hk : k < n.toNat
      · rw [if_pos hk, rng_atE (by omega)]; rfl
      · rw [if_neg hk, List.getElem?_eq_none (by rw [rng_length]; omega)]; rfl
    · obtain ⟨x1, x2, x3, x4⟩ := hr x (by rw [show ts = pre ++ x :: post from e]; simp)
      have hpl : pre.length < 40000 := by
        have : ts.length = pre.length + (post.length + 1) := by rw [show ts = pre ++ x :: post from e]; simp
        omega
      have hl1 := nbs_len pre x.1
      have hl2 := nbs_len pre x.2
      rw [a1]
      refine po_getE (range_get x1 (by omega)) (po_getS (by rw [hg]; exact map_rng_get x1 x2) (po_app (by omega) (po_setS ?_)))
      rw [hg, map_rng_set x1]
      refine po_getE (range_get x3 (by omega)) (po_getS (map_rng_get x3 x4) (po_app ?_ (po_setS ?_)))
      · split
        · rw [List.length_append, List.length_singleton]; omega
        · omega
      · rw [map_rng_set x3]
        show _ = _
        refine map_rng_congr fun i i0 i1 => ?_
        rw [nbs_snoc]
        by_cases e1 : x.1 = i
        · by_cases e2 : x.2 = i
          · subst e1
            rw [e2]
            simp
          · subst e1
            rw [if_neg (fun q => e2 q.symm), if_pos rfl, if_pos rfl, if_neg e2, List.append_nil]
        · by_cases e2 : x.2 = i
          · subst e2
            rw [if_pos rfl, if_neg (fun q => e1 q.symm), if_neg e1, if_pos rfl, List.nil_append]
          · rw [if_neg (fun q => e2 q.symm), if_neg (fun q => e1 q.symm), if_neg e1, if_neg e2, List.append_nil, List.append_nil]
    · have hg' : g11 = (rng 0 n).map fun i => nbs ts i := hg
      rw [a1]
      refine po_bind (Q := fun l => l = nears n ts) (po_eq (mapG_ok (g := fun b => sortI (nbs ts (b : Nat))) (by rw [List.length_range]; omega) fun b hb => ?_) ?_) fun l h => h
      · have hb' := List.mem_range.mp hb
        refine po_iff (po_getS (xs := nbs ts (b : Nat)) ?_ rfl)
        rw [hg']
        have := map_rng_get (n := n) (F := fun i => nbs ts i) (j := (b : Int)) (by omega) (by omega)
        rw [Int.toNat_natCast] at this
        exact this
      · unfold nears
        apply List.ext_getElem?
        intro k
        rw [List.getElem?_map, List.getElem?_map]
        by_cases hk : k < n.toNat
        · rw [rng_atE (by omega), List.getElem?_range hk]
          show some (sortI (nbs ts (k : Nat))) = some (sortI (nbs ts (0 + (k : Nat))))
          rw [Int.zero_add]
        · rw [List.getElem?_eq_none (by rw [List.length_range]; omega), List.getElem?_eq_none (by rw [rng_length]; omega)]; rfl
theorem sortI_mem {xs : List Int} {x : Int} : x ∈ sortI xs ↔ x ∈ xs := (sortI_perm xs).mem_iff
end G
/-! MC: drawn webs: neighbours, fars -/
namespace G
open PySem L2 Z
theorem web_near {n : Int} {ts : List (Int × Int)} (h : WebOk n ts) : near_lists (n, ⟨ts⟩) = R.ok (nears n ts) := near_lists_ok (by have := h.n1; omega) (by have := h.n60; omega) (by have := h.len; omega) h.rg4
theorem web_dist {n : Int} {ts : List (Int × Int)} {p : Int} (h : WebOk n ts) (p0 : 0 ≤ p) (p1 : p < n) : IsDist n ts p (dst n ts p) := conn_ex h.rg4 h.conn p0 p1
theorem WebOk.adj {n : Int} {ts : List (Int × Int)} (h : WebOk n ts) {a b : Int} (q : Adj ts a b) : 0 ≤ a ∧ a < n ∧ 0 ≤ b ∧ b < n ∧ a ≠ b := by
  rcases q with q | q <;> have := h.rg _ q <;> dsimp only at this <;> omega
theorem perm_nodup {xs ys : List Int} (h1 : xs.Nodup) (h2 : ys.Nodup) (h : ∀ x, x ∈ xs ↔ x ∈ ys) : xs.Perm ys := by
  rw [List.perm_iff_count]
  intro a
  rw [h1.count, h2.count]
  by_cases q : a ∈ xs
  · rw [if_pos q, if_pos ((h a).mp q)]
  · rw [if_neg q, if_neg (fun z => q ((h a).mpr z))]
theorem rng_sorted (i j : Int) : (rng i j).Pairwise (· < ·) := by
  unfold rng
  refine List.Pairwise.map _ (fun a b h => ?_) List.pairwise_lt_range
  show i + (a : Int) < i + b
  omega
theorem fil_ite {α : Type} (l : List α) (P : α → Bool) : l.filterMap (fun b => if P b = true then some b else none) = l.filter P := by
  induction l with
  | nil => rfl
  | cons a l ih =>
    rw [List.filterMap_cons, List.filter_cons]
    cases P a
    · exact ih
    · show a :: _ = a :: _
      rw [ih]
end G
/-! MF: fars, as the program reckons them -/
namespace G
open PySem L2 Z
/-! ### fars -/
section
variable {n : Int} {ts : List (Int × Int)} {p : Int}
structure Bfs (n : Int) (ts : List (Int × Int)) (p : Int) (at_ : Nat) (line : List Int) (F : Int → Option Int) : Prop where
  le : at_ ≤ line.length
  nd : line.Nodup
  rg : ∀ v ∈ line, 0 ≤ v ∧ v < n
  mem : ∀ v, 0 ≤ v → v < n → (v ∈ line ↔ (F v).isSome = true)
  p0 : F p = some 0
  nn : ∀ v d, F v = some d → 0 ≤ d
  par : ∀ v ∈ line, v = p ∨ ∃ w ∈ line, Adj ts w v ∧ ∃ d, F w = some d ∧ F v = some (d + 1)
  mono : line.Pairwise fun a b => (F a).getD 0 ≤ (F b).getD 0
  cap : ∀ v ∈ line, ∀ u ∈ line.drop at_, (F v).getD 0 ≤ (F u).getD 0 + 1
  done : ∀ i u, i < at_ → line[i]? = some u → ∀ w, Adj ts u w → w ∈ line ∧ (F w).getD 0 ≤ (F u).getD 0 + 1
/-- within a turn: the neighbours of u that are gone through -/
structure BfsIn (n : Int) (ts : List (Int × Int)) (p : Int) (at_ : Nat) (u : Int) (pre : List Int) (line : List Int) (F : Int → Option Int) : Prop where
  b : Bfs n ts p at_ line F
  u0 : line[at_]? = some u
  ok : ∀ w ∈ pre, w ∈ line ∧ (F w).getD 0 ≤ (F u).getD 0 + 1
theorem BfsIn.add {at_ : Nat} {u w : Int} {pre line : List Int} {F : Int → Option Int} {d : Int} (h : BfsIn n ts p at_ u pre line F) (hw : Adj ts u w) (w0 : 0 ≤ w) (w1 : w < n) (hn : F w = none) (hd : F u = some d) :
    BfsIn n ts p at_ u (pre ++ [w]) (line ++ [w]) (fun v => if v = w then some (d + 1) else F v) := by
  have b := h.b
  have hu : u ∈ line := List.mem_of_getElem? h.u0
  have hat : at_ < line.length := (List.getElem?_eq_some_iff.mp h.u0).1
  have hwl : w ∉ line := fun q => by
    have := (b.mem w w0 w1).mp q
    rw [hn] at this
    cases this
  have ne : ∀ v ∈ line, v ≠ w := fun v hv e => hwl (e ▸ hv)
  have eF : ∀ v ∈ line, (if v = w then some (d + 1) else F v) = F v := fun v hv => if_neg (ne v hv)
  have eW : (if w = w then some (d + 1) else F w) = some (d + 1) := if_pos rfl
  have hpl : p ∈ line ∨ True := .inr trivial
  have hd0 := b.nn u d hd
  have hud : u ∈ line.drop at_ := by
    rw [List.mem_iff_getElem?]
    exact ⟨0, by rw [List.getElem?_drop]; exact h.u0⟩
  refine ⟨⟨?_, ?_, ?_, ?_, ?_, ?_, ?_, ?_, ?_, ?_⟩, ?_, ?_⟩
  · rw [List.length_append]; omega
  · rw [List.nodup_append]
    refine ⟨b.nd, by simp, fun a ha c hc => ?_⟩
    rw [List.mem_singleton] at hc
    rw [hc]
    exact ne a ha
  · intro v hv
    rcases List.mem_append.mp hv with hv | hv
    · exact b.rg v hv
    · rw [List.mem_singleton] at hv
      rw [hv]; exact ⟨w0, w1⟩
  · intro v v0 v1
    by_cases e : v = w
    · subst e
      simp
    · show v ∈ line ++ [w] ↔ (if v = w then some (d + 1) else F v).isSome = true
      rw [if_neg e, ← b.mem v v0 v1]
      simp [e]
  · show (if p = w then some (d + 1) else F p) = some 0
    rw [if_neg]
    · exact b.p0
    · intro e
      rw [← e, b.p0] at hn
      cases hn
  · intro v e hv
    have hv' : (if v = w then some (d + 1) else F v) = some e := hv
    by_cases q : v = w
    · rw [if_pos q] at hv'
      cases hv'
      omega
    · rw [if_neg q] at hv'
      exact b.nn v e hv'
  · intro v hv
    rcases List.mem_append.mp hv with hv | hv
    · rcases b.par v hv with e | ⟨x, hx, ha, k, h1, h2⟩
      · exact .inl e
      · refine .inr ⟨x, List.mem_append_left _ hx, ha, k, ?_, ?_⟩
        · show (if x = w then some (d + 1) else F x) = some k
          rw [eF x hx]; exact h1
        · show (if v = w then some (d + 1) else F v) = some (k + 1)
          rw [eF v hv]; exact h2
    · rw [List.mem_singleton] at hv
      subst hv
      refine .inr ⟨u, List.mem_append_left _ hu, hw, d, ?_, eW⟩
      show (if u = v then some (d + 1) else F u) = some d
      rw [eF u hu]; exact hd
  · rw [List.pairwise_append]
    refine ⟨b.mono.imp_of_mem fun {a c} ha hc q => ?_, by simp, fun a ha c hc => ?_⟩
    · show (if a = w then some (d + 1) else F a).getD 0 ≤ (if c = w then some (d + 1) else F c).getD 0
      rw [eF a ha, eF c hc]; exact q
    · rw [List.mem_singleton] at hc
      subst hc
      show (if a = c then some (d + 1) else F a).getD 0 ≤ (if c = c then some (d + 1) else F c).getD 0
      rw [eF a ha, eW]
      have := b.cap a ha u hud
      rw [hd] at this
      exact this
  · intro v hv x hx
    rw [List.drop_append_of_le_length (by omega)] at hx
    show (if v = w then some (d + 1) else F v).getD 0 ≤ (if x = w then some (d + 1) else F x).getD 0 + 1
    have key : ∀ x, x ∈ line.drop at_ → d ≤ (F x).getD 0 := by
      intro x hx
      have hs : line.drop at_ = u :: line.drop (at_ + 1) := by
        rw [List.drop_eq_getElem_cons hat]
        have := (List.getElem?_eq_some_iff.mp h.u0).2
        rw [this]
      have hm := b.mono.sublist (List.drop_sublist at_ line)
      rw [hs] at hm hx
      rcases List.mem_cons.mp hx with rfl | hx
      · rw [hd]; exact Int.le_refl _
      · have := (List.pairwise_cons.mp hm).1 x hx
        rw [hd] at this
        exact this
    have hvd : (if v = w then some (d + 1) else F v).getD 0 ≤ d + 1 := by
      rcases List.mem_append.mp hv with hv | hv
      · rw [eF v hv]
        have := b.cap v hv u hud
        rw [hd] at this
        exact this
      · rw [List.mem_singleton] at hv
        rw [if_pos hv]; exact Int.le_refl _
    rcases List.mem_append.mp hx with hx | hx
    · rw [eF x (List.mem_of_mem_drop hx)]
      have := key x hx
      omega
    · rw [List.mem_singleton] at hx
      rw [if_pos hx]
      show _ ≤ (d + 1) + 1
      omega
  · intro i x hi hx y hy
    rw [List.getElem?_append_left (by omega)] at hx
    obtain ⟨h1, h2⟩ := b.done i x hi hx y hy
    refine ⟨List.mem_append_left _ h1, ?_⟩
    show (if y = w then some (d + 1) else F y).getD 0 ≤ (if x = w then some (d + 1) else F x).getD 0 + 1
    rw [eF y h1, eF x (List.mem_of_getElem? hx)]
    exact h2
  · rw [List.getElem?_append_left hat]; exact h.u0
  · intro v hv
    show v ∈ line ++ [w] ∧ (if v = w then some (d + 1) else F v).getD 0 ≤ (if u = w then some (d + 1) else F u).getD 0 + 1
    rw [eF u hu]
    rcases List.mem_append.mp hv with hv | hv
    · obtain ⟨h1, h2⟩ := h.ok v hv
      rw [eF v h1]
      exact ⟨List.mem_append_left _ h1, h2⟩
    · rw [List.mem_singleton] at hv
      rw [if_pos hv, hd, hv]
      exact ⟨List.mem_append_right _ (List.mem_singleton_self _), Int.le_refl _⟩
theorem BfsIn.skip {at_ : Nat} {u w : Int} {pre line : List Int} {F : Int → Option Int} (h : BfsIn n ts p at_ u pre line F) (hw : (F w).isSome = true) (w0 : 0 ≤ w) (w1 : w < n) : BfsIn n ts p at_ u (pre ++ [w]) line F := by
  refine ⟨h.b, h.u0, fun v hv => ?_⟩
  rcases List.mem_append.mp hv with hv | hv
  · exact h.ok v hv
  · rw [List.mem_singleton] at hv
    subst hv
    have hl := (h.b.mem v w0 w1).mpr hw
    refine ⟨hl, h.b.cap v hl u ?_⟩
    rw [List.mem_iff_getElem?]
    exact ⟨0, by rw [List.getElem?_drop]; exact h.u0⟩
theorem BfsIn.next {at_ : Nat} {u : Int} {nb line : List Int} {F : Int → Option Int} (h : BfsIn n ts p at_ u nb line F) (hnb : ∀ w, Adj ts u w → w ∈ nb) : Bfs n ts p (at_ + 1) line F := by
  have hat : at_ < line.length := (List.getElem?_eq_some_iff.mp h.u0).1
  refine { h.b with le := hat, cap := fun v hv x hx => h.b.cap v hv x ?_, done := fun i x hi hx w hw => ?_ }
  · exact (List.drop_sublist_drop_left line (Nat.le_succ at_)).subset hx
  · by_cases e : i = at_
    · subst e
      rw [h.u0] at hx
      cases hx
      exact h.ok w (hnb w hw)
    · exact h.b.done i x (by omega) hx w hw
theorem Bfs.isDist {line : List Int} {F : Int → Option Int} (b : Bfs n ts p line.length line F) (hc : Conn n ts) (hr : ∀ q ∈ ts, 0 ≤ q.1 ∧ q.1 < n ∧ 0 ≤ q.2 ∧ q.2 < n) (p0 : 0 ≤ p) (p1 : p < n) :
    (∀ v, 0 ≤ v → v < n → (F v).isSome = true) ∧ IsDist n ts p fun v => (F v).getD 0 := by
  have hp : p ∈ line := (b.mem p p0 p1).mpr (by rw [b.p0]; rfl)
  have cl : ∀ u w, u ∈ line → Adj ts u w → w ∈ line ∧ (F w).getD 0 ≤ (F u).getD 0 + 1 := by
    intro u w hu hw
    obtain ⟨i, hi⟩ := List.mem_iff_getElem?.mp hu
    exact b.done i u (List.getElem?_eq_some_iff.mp hi).1 hi w hw
  have all : ∀ k, 0 ≤ k → k < n → k ∈ line := hc.any (S := fun k => k ∈ line) p0 p1 hp fun q hq => ⟨fun h => (cl q.1 q.2 h (.inl hq)).1, fun h => (cl q.2 q.1 h (.inr hq)).1⟩
  refine ⟨fun v v0 v1 => (b.mem v v0 v1).mp (all v v0 v1), ⟨?_, fun v v0 v1 => ?_, fun a c h => ?_, fun v v0 v1 hne => ?_⟩⟩
  · show (F p).getD 0 = 0
    rw [b.p0]; rfl
  · show 0 ≤ (F v).getD 0
    cases e : F v with
    | none => exact Int.le_refl _
    | some d => exact b.nn v d e
  · have ra : 0 ≤ a ∧ a < n := by
      rcases h with h | h
      · exact ⟨(hr _ h).1, (hr _ h).2.1⟩
      · exact ⟨(hr _ h).2.2.1, (hr _ h).2.2.2⟩
    exact (cl a c (all a ra.1 ra.2) h).2
  · rcases b.par v (all v v0 v1) with e | ⟨w, hw, ha, d, h1, h2⟩
    · exact absurd e hne
    · refine ⟨w, (b.rg w hw).1, (b.rg w hw).2, ha, ?_⟩
      show (F w).getD 0 + 1 = (F v).getD 0
      rw [h1, h2]; rfl
end
theorem fars_by_post {n : Int} {ts : List (Int × Int)} {p : Int} (n1 : n < 900) (hr : ∀ q ∈ ts, 0 ≤ q.1 ∧ q.1 < n ∧ 0 ≤ q.2 ∧ q.2 < n) (hc : Conn n ts) (p0 : 0 ≤ p) (p1 : p < n) :
    Post (fars_by (nears n ts) p) (fun l => l = ((rng 0 n).map fun v => some (dst n ts p v)) ∧ IsDist n ts p (dst n ts p)) noX := by
  unfold fars_by
  have hN : (nears n ts).length = n.toNat := by unfold nears; rw [List.length_map, rng_length]; omega
  rw [hN]
  refine po_rep (by omega) (by omega) (by decide) ?_
  have e0 : repL ([none] : List (Option Int)) (n.toNat : Nat) = (rng 0 n).map fun _ => none := by
    unfold repL
    rw [Int.toNat_natCast]
    have h1 : (rng 0 n).length = n.toNat := by rw [rng_length]; omega
    rw [← h1]
    generalize rng 0 n = l
    induction l with
    | nil => rfl
    | cons a l ih =>
      rw [List.length_cons, List.replicate_succ, List.flatten_cons, ih]
      rfl
  rw [e0]
  refine po_set p0 (by rw [List.length_map, rng_length]; omega) ?_
  rw [map_rng_set p0]
  refine po_bind (Q := fun g => g.2.2 = ((rng 0 n).map fun v => some (dst n ts p v)) ∧ IsDist n ts p (dst n ts p)) (po_while (fun g => 0 ≤ g.1 ∧ ∃ F, g.2.2 = (rng 0 n).map F ∧ Bfs n ts p g.1.toNat g.2.1 F) (fun g => n.toNat - g.1.toNat) ?_ (n := fu 1000) ?_ ?_) fun g hg => hg
  · rintro ⟨a, line, fd⟩ ⟨a0, F, e1, b⟩
    have e1' : fd = (rng 0 n).map F := e1
    have a0' : 0 ≤ a := a0
    have b' : Bfs n ts p a.toNat line F := b
    clear e1 b a0
    subst e1'
    refine ⟨fun ht => ?_, fun hf => ?_⟩
    · have ht : a < (line.length : Int) := of_decide_eq_true ht
      refine po_get a0' ht fun u hu e2 => ?_
      obtain ⟨u0, u1⟩ := b'.rg u hu
      refine po_getE (getI_eq u0 (map_rng_get u0 u1)) ?_
      have hin : BfsIn n ts p a.toNat u [] line F := ⟨b', e2, fun _ h => nomatch h⟩
      refine po_bind (po_foldP (fun pre g => ∃ F', g.2 = (rng 0 n).map F' ∧ BfsIn n ts p a.toNat u pre g.1 F') ⟨F, rfl, hin⟩ ?_) ?_
      · rintro pre ⟨ln, fd⟩ w post ew ⟨F', e3, h3⟩
        have e3' : fd = (rng 0 n).map F' := e3
        have h3' : BfsIn n ts p a.toNat u pre ln F' := h3
        clear e3 h3
        subst e3'
        have hw : w ∈ sortI (nbs ts u) := by rw [show sortI (nbs ts u) = pre ++ w :: post from ew]; simp
        have hw := nbs_mem.mp (sortI_mem.mp hw)
        have rw' : 0 ≤ w ∧ w < n := by
          rcases hw with h | h
          · exact ⟨(hr _ h).2.2.1, (hr _ h).2.2.2⟩
          · exact ⟨(hr _ h).1, (hr _ h).2.1⟩
        obtain ⟨w0, w1⟩ := rw'
        refine po_getE (getI_eq w0 (map_rng_get w0 w1)) ?_
        refine po_if (fun c => ?_) (fun c => ?_)
        · have hn : F' w = none := by
            cases e : F' w with
            | none => rfl
            | some d => rw [e] at c; cases c
          refine po_getE (getI_eq a0' h3'.u0) (po_getE (getI_eq u0 (map_rng_get u0 u1)) ?_)
          have hus := (h3'.b.mem u u0 u1).mp (List.mem_of_getElem? h3'.u0)
          obtain ⟨d, hd⟩ := Option.isSome_iff_exists.mp hus
          have hlen : ln.length ≤ n.toNat := by
            have := nodup_le h3'.b.nd (ys := rng 0 n) fun v hv => rng_mem.mpr (h3'.b.rg v hv)
            rw [rng_length] at this
            omega
          refine po_ofO hd (po_set w0 (by rw [List.length_map, rng_length]; omega) (po_app (by show ln.length < 100000; omega) ?_))
          refine ⟨_, map_rng_set w0, ?_⟩
          exact h3'.add hw w0 w1 hn hd
        · refine ⟨F', rfl, h3'.skip ?_ w0 w1⟩
          cases e : F' w with
          | none => rw [e] at c; exact absurd rfl c
          | some d => rfl
      · rintro ⟨ln, fd⟩ ⟨F', e3, h3⟩
        have h3' : BfsIn n ts p a.toNat u (sortI (nbs ts u)) ln F' := h3
        have h4 := h3'.next fun w hw => sortI_mem.mpr (nbs_mem.mpr hw)
        have hat : a.toNat < ln.length := (List.getElem?_eq_some_iff.mp h3'.u0).1
        have hlen : ln.length ≤ n.toNat := by
          have := nodup_le h3'.b.nd (ys := rng 0 n) fun v hv => rng_mem.mpr (h3'.b.rg v hv)
          rw [rng_length] at this
          omega
        refine ⟨⟨by show 0 ≤ a + 1; omega, F', e3, ?_⟩, ?_⟩
        · show Bfs n ts p (a + 1).toNat ln F'
          rw [show (a + 1).toNat = a.toNat + 1 by omega]
          exact h4
        · show n.toNat - (a + 1).toNat < n.toNat - a.toNat
          omega
    · have hf : ¬ a < (line.length : Int) := of_decide_eq_false hf
      have hle := b'.le
      have ea : a.toNat = line.length := by omega
      rw [ea] at b'
      obtain ⟨h1, h2⟩ := b'.isDist hc hr p0 p1
      refine ⟨map_rng_congr fun v v0 v1 => ?_, dst_is h2⟩
      have h3 := dst_eq h2 v v0 v1
      obtain ⟨d, hd⟩ := Option.isSome_iff_exists.mp (h1 v v0 v1)
      have h3' : (F v).getD 0 = dst n ts p v := h3
      rw [hd] at h3' ⊢
      exact congrArg some h3'
  · refine ⟨Int.le_refl 0, _, rfl, ?_⟩
    show Bfs n ts p 0 [p] (fun i => if i = p then some 0 else none)
    refine ⟨Nat.zero_le _, by simp, fun v hv => ?_, fun v v0 v1 => ?_, if_pos rfl, fun v d hv => ?_, fun v hv => ?_, by simp, fun v hv u hu => ?_, fun i u hi => absurd hi (Nat.not_lt_zero _)⟩
    · rw [List.mem_singleton] at hv
      rw [hv]; exact ⟨p0, p1⟩
    · show v ∈ [p] ↔ (if v = p then some (0 : Int) else none).isSome = true
      rw [List.mem_singleton]
      by_cases e : v = p
      · rw [if_pos e]; simp [e]
      · rw [if_neg e]; simp [e]
    · have hv' : (if v = p then some (0 : Int) else none) = some d := hv
      split at hv'
      · cases hv'; exact Int.le_refl _
      · cases hv'
    · exact .inl (List.mem_singleton.mp hv)
    · rw [List.drop_zero] at hu
      rw [List.mem_singleton] at hv hu
      subst hv hu
      show (if u = u then some (0 : Int) else none).getD 0 ≤ (if u = u then some (0 : Int) else none).getD 0 + 1
      rw [if_pos rfl]
      decide
  · rw [fu_eq]
    show n.toNat - (0 : Int).toNat < 1000
    omega
theorem fars_by_ok {n : Int} {ts : List (Int × Int)} {p : Int} (n1 : n < 900) (hr : ∀ q ∈ ts, 0 ≤ q.1 ∧ q.1 < n ∧ 0 ≤ q.2 ∧ q.2 < n) (hc : Conn n ts) (p0 : 0 ≤ p) (p1 : p < n) :
    fars_by (nears n ts) p = R.ok ((rng 0 n).map fun v => some (dst n ts p v)) := po_iff ((fars_by_post n1 hr hc p0 p1).mono (fun _ h => h.1) fun _ h => h)
theorem web_fars {n : Int} {ts : List (Int × Int)} {p : Int} (h : WebOk n ts) (p0 : 0 ≤ p) (p1 : p < n) : fars_by (nears n ts) p = R.ok ((rng 0 n).map fun v => some (dst n ts p v)) := fars_by_ok (by have := h.n60; omega) h.rg4 h.conn p0 p1
end G
namespace G
open PySem L2 Z
theorem all_of_len {α : Type} [DecidableEq α] {xs ys : List α} (hx : xs.Nodup) (hs : ∀ x ∈ xs, x ∈ ys) (hl : ys.length ≤ xs.length) : ∀ y ∈ ys, y ∈ xs := fun y hy => by
  apply Classical.byContradiction
  intro hno
  have := nodup_le (xs := y :: xs) (ys := ys) (List.nodup_cons.mpr ⟨hno, hx⟩) fun z hz => by
    rcases List.mem_cons.mp hz with rfl | hz
    · exact hy
    · exact hs z hz
  rw [List.length_cons] at this
  omega
theorem place_ok {n p : Int} {t : Tup (Int × Int)} (p0 : 0 ≤ p) (p1 : p < n) : place_asked (n, t) p = R.ok () := by
  unfold place_asked
  dsimp only
  rw [decide_eq_true p0, decide_eq_true p1]
  rfl
/-- how far each place is from one -/
noncomputable def farL (n : Int) (ts : List (Int × Int)) (p : Int) : List Int := (rng 0 n).map (dst n ts p)
theorem allS_map {α : Type} (l : List α) : allS (l.map some) = R.ok l := allS_iff.mpr rfl
theorem fars_ok {n p : Int} {ts : List (Int × Int)} (h : WebOk n ts) (p0 : 0 ≤ p) (p1 : p < n) : fars_from (n, ⟨ts⟩) p = R.ok (farL n ts p) := by
  unfold fars_from
  rw [place_ok p0 p1, ok_bind, web_near h, ok_bind, web_fars h p0 p1, ok_bind]
  have e : (rng 0 n).map (fun v => some (dst n ts p v)) = ((rng 0 n).map (dst n ts p)).map some := by rw [List.map_map]; rfl
  rw [e, allS_map]
  rfl
/-- how far all places are from all -/
noncomputable def tabL (n : Int) (ts : List (Int × Int)) : List (List Int) := (rng 0 n).map fun p => (rng 0 n).map (dst n ts p)
theorem tab_get {n p : Int} {ts : List (Int × Int)} (p0 : 0 ≤ p) (p1 : p < n) : getI (tabL n ts) p = R.ok ((rng 0 n).map (dst n ts p)) := getI_eq p0 (map_rng_get p0 p1)
theorem row_get {n p v : Int} {ts : List (Int × Int)} (v0 : 0 ≤ v) (v1 : v < n) : getI ((rng 0 n).map (dst n ts p)) v = R.ok (dst n ts p v) := getI_eq v0 (map_rng_get v0 v1)
/-- how far a thing is -/
noncomputable def farT (n : Int) (ts : List (Int × Int)) (p : Int) : Thing → Int
  | .pl i => dst n ts p i
  | .ti a b => min2 (dst n ts p a) (dst n ts p b)
def ThOk (n : Int) (ts : List (Int × Int)) : Thing → Prop
  | .pl i => 0 ≤ i ∧ i < n
  | .ti a b => (a, b) ∈ ts
def allT (n : Int) (ts : List (Int × Int)) : List Thing := mkpl (rng 0 n) ++ mkti ts
def kindT (n : Int) (ts : List (Int × Int)) (k : Str) : List Thing := if decide (k = "places") = true then mkpl (rng 0 n) else if decide (k = "ties") = true then mkti ts else allT n ts
theorem pl_mem {n : Int} {t : Thing} : t ∈ mkpl (rng 0 n) ↔ ∃ i, t = .pl i ∧ 0 ≤ i ∧ i < n := by
  unfold mkpl
  rw [List.mem_map]
  constructor
  · rintro ⟨i, hi, rfl⟩
    exact ⟨i, rfl, rng_mem.mp hi⟩
  · rintro ⟨i, rfl, hi⟩
    exact ⟨i, rng_mem.mpr hi, rfl⟩
theorem ti_mem {ts : List (Int × Int)} {t : Thing} : t ∈ mkti ts ↔ ∃ a b, t = .ti a b ∧ (a, b) ∈ ts := by
  unfold mkti
  rw [List.mem_map]
  constructor
  · rintro ⟨p, hp, rfl⟩
    exact ⟨p.1, p.2, rfl, hp⟩
  · rintro ⟨a, b, rfl, h⟩
    exact ⟨(a, b), h, rfl⟩
theorem allT_mem {n : Int} {ts : List (Int × Int)} {t : Thing} : t ∈ allT n ts ↔ ThOk n ts t := by
  unfold allT
  rw [List.mem_append, pl_mem, ti_mem]
  cases t with
  | pl i =>
    constructor
    · rintro (⟨j, e, h⟩ | ⟨a, b, e, _⟩)
      · cases e; exact h
      · cases e
    · intro h
      exact .inl ⟨i, rfl, h⟩
  | ti a b =>
    constructor
    · rintro (⟨j, e, h⟩ | ⟨c, d, e, h⟩)
      · cases e
      · cases e; exact h
    · intro h
      exact .inr ⟨a, b, rfl, h⟩
theorem kindT_ok {n : Int} {ts : List (Int × Int)} {k : Str} {t : Thing} (h : t ∈ kindT n ts k) : ThOk n ts t := by
  unfold kindT at h
  split at h
  · exact allT_mem.mp (List.mem_append_left _ h)
  · split at h
    · exact allT_mem.mp (List.mem_append_right _ h)
    · exact allT_mem.mp h
theorem allT_len {n : Int} {ts : List (Int × Int)} (n0 : 0 ≤ n) : ((allT n ts).length : Int) = n + ts.length := by
  unfold allT mkpl mkti
  rw [List.length_append, List.length_map, List.length_map, rng_length]
  omega
/-- two lists, item by item -/
inductive PW2 {α β : Type} (r : α → β → Prop) : List α → List β → Prop
  | nil : PW2 r [] []
  | cons {a : α} {b : β} {as : List α} {bs : List β} : r a b → PW2 r as bs → PW2 r (a :: as) (b :: bs)
theorem PW2.length {α β : Type} {r : α → β → Prop} {as : List α} {bs : List β} (h : PW2 r as bs) : as.length = bs.length := by
  induction h with
  | nil => rfl
  | cons _ _ ih => rw [List.length_cons, List.length_cons, ih]
/-- a rising list of places -/
structure LooksOk (n : Int) (ls : List Int) : Prop where
  rg : ∀ l ∈ ls, 0 ≤ l ∧ l < n
  up : ls.Pairwise (· < ·)
theorem LooksOk.len {n : Int} {ls : List Int} (h : LooksOk n ls) : ls.length ≤ n.toNat := by
  have := nodup_le (h.up.imp fun z => Int.ne_of_lt z) (ys := rng 0 n) fun v hv => rng_mem.mpr (h.rg v hv)
  rw [rng_length] at this
  omega
theorem zip_self {α β : Type} (f : α → β) (xs : List α) : xs.zip (xs.map f) = xs.map fun x => (x, f x) := by
  induction xs with
  | nil => rfl
  | cons x xs ih => rw [List.map_cons, List.zip_cons_cons, ih]; rfl
theorem cut_from {α : Type} (xs : List α) (k : Nat) : cutL xs (some (k : Int)) none = xs.drop k := by
  unfold cutL
  have e0 : HT.sIx xs.length 0 (some (k : Int)) = min k xs.length := HT.sIx_nat xs.length 0 k
  have e : HT.sIx xs.length xs.length none = xs.length := rfl
  rw [e, e0]
  by_cases h : k ≤ xs.length
  · rw [Nat.min_eq_left h, List.take_of_length_le (by rw [List.length_drop]; exact Nat.le_refl _)]
  · rw [Nat.min_eq_right (by omega), List.drop_of_length_le (Nat.le_refl _), List.drop_of_length_le (by omega), List.take_nil]
theorem cut_fromI {α : Type} (xs : List α) {k : Int} (k0 : 0 ≤ k) : cutL xs (some k) none = xs.drop k.toNat := by
  have := cut_from xs k.toNat
  rw [show ((k.toNat : Nat) : Int) = k by omega] at this
  exact this
theorem things_ok {n : Int} {ts : List (Int × Int)} {k : Str} (h : WebOk n ts) : things_of (n, ⟨ts⟩) k = R.ok (kindT n ts k) := by
  have hn1 := h.n1
  have hn := h.n60
  have hl := h.len
  refine po_iff ?_
  unfold things_of kindT
  refine po_listRng (by decide) (by decide) (by show -(2 ^ 62) ≤ n; omega) (by show n < 2 ^ 62; omega) (by show (n - 0).toNat ≤ 100000; omega) ?_
  by_cases e1 : decide (k = "places") = true
  · rw [if_pos e1, if_pos e1]; rfl
  · rw [if_neg e1, if_neg e1]
    by_cases e2 : decide (k = "ties") = true
    · rw [if_pos e2, if_pos e2]; rfl
    · rw [if_neg e2, if_neg e2]
      refine po_extend ?_ rfl
      show (mkpl (rng 0 n)).length + (mkti ts).length < 100000
      unfold mkpl mkti
      rw [List.length_map, List.length_map, rng_length]
      omega
section
variable {n p : Int} {ts : List (Int × Int)}
structure RowI (n p : Int) (ts : List (Int × Int)) (s : Int) (pre : List (Int × Int)) (F : Int → Int) : Prop where
  lo : ∀ v, 0 ≤ v → v < n → dst n ts p v ≤ s → F v = dst n ts p v
  hi : ∀ v, 0 ≤ v → v < n → s < dst n ts p v → F v = -1 ∨ (F v = s + 1 ∧ dst n ts p v = s + 1)
  dn : ∀ w v, 0 ≤ w → w < n → 0 ≤ v → v < n → dst n ts p w = s → dst n ts p v = s + 1 → Adj pre w v → F v = s + 1
def half5 (s a b : Int) (F : Int → Int) : Int → Int := fun v => if v = b ∧ F a = s ∧ F b < 0 then s + 1 else F v
theorem half5_or (s a b : Int) (F : Int → Int) (v : Int) : half5 s a b F v = F v ∨ half5 s a b F v = s + 1 := by
  unfold half5
  split
  · exact .inr rfl
  · exact .inl rfl
theorem half5_ok {s a b : Int} {F : Int → Int} (a0 : 0 ≤ a) (a1 : a < n) (b0 : 0 ≤ b) (b1 : b < n) : Post (do
    let j20 ← (do
      let t21 ← getI ((rng 0 n).map F) a
      if (decide (t21 = s)) = true then do
        let t23 ← getI ((rng 0 n).map F) b
        R.ok (decide (t23 < (0 : Int)))
      else do
        R.ok false : R (Bool))
    if j20 = true then do
      let l27 ← setI ((rng 0 n).map F) b (s + (1 : Int))
      R.ok l27
    else do
      R.ok ((rng 0 n).map F)) (fun r => r = (rng 0 n).map (half5 s a b F)) noX := by
  refine po_bind (Q := fun j => j = (decide (F a = s) && decide (F b < 0))) ?_ fun j hj => ?_
  · refine po_getE (getI_eq a0 (map_rng_get a0 a1)) (po_if (fun c => ?_) fun c => ?_)
    · refine po_getE (getI_eq b0 (map_rng_get b0 b1)) ?_
      show decide (F b < 0) = (decide (F a = s) && decide (F b < 0))
      rw [c]
      rfl
    · show false = (decide (F a = s) && decide (F b < 0))
      rw [show decide (F a = s) = false by simpa using c]
      rfl
  · rw [hj]
    refine po_if (fun c => ?_) fun c => ?_
    · have c' : F a = s ∧ F b < 0 := by
        rw [Bool.and_eq_true] at c
        exact ⟨of_decide_eq_true c.1, of_decide_eq_true c.2⟩
      refine po_set b0 (by rw [List.length_map, rng_length]; omega) ?_
      show ((rng 0 n).map F).set b.toNat (s + 1) = _
      rw [map_rng_set b0]
      refine map_rng_congr fun i _ _ => ?_
      unfold half5
      by_cases e : i = b
      · rw [if_pos e, if_pos ⟨e, c'⟩]
      · rw [if_neg e, if_neg fun z => e z.1]
    · have c' : ¬ (F a = s ∧ F b < 0) := fun z => c (by rw [decide_eq_true z.1, decide_eq_true z.2]; rfl)
      refine map_rng_congr fun i _ _ => ?_
      unfold half5
      rw [if_neg fun z => c' z.2]
theorem half5_inv {s a b : Int} {pre : List (Int × Int)} {F : Int → Int} (h : WebOk n ts) (p0 : 0 ≤ p) (p1 : p < n) (s0 : 0 ≤ s) (q : Adj ts a b) (hF : RowI n p ts s pre F) : RowI n p ts s pre (half5 s a b F) ∧ (dst n ts p a = s → dst n ts p b = s + 1 → half5 s a b F b = s + 1) := by
  obtain ⟨a0, a1, b0, b1, _⟩ := h.adj q
  have d := web_dist h p0 p1
  have hl := d.lip a b q
  by_cases c : F a = s ∧ F b < 0
  · have da : dst n ts p a = s := by
      by_cases z : dst n ts p a ≤ s
      · rw [← hF.lo a a0 a1 z]; exact c.1
      · rcases hF.hi a a0 a1 (by omega) with y | y <;> omega
    have db : s < dst n ts p b := by
      apply Classical.byContradiction
      intro z
      have := hF.lo b b0 b1 (by omega)
      have := d.nn b b0 b1
      omega
    have e : ∀ v, half5 s a b F v = if v = b then s + 1 else F v := fun v => by
      unfold half5
      by_cases z : v = b
      · rw [if_pos z, if_pos ⟨z, c⟩]
      · rw [if_neg z, if_neg fun y => z y.1]
    refine ⟨⟨fun v v0 v1 hv => ?_, fun v v0 v1 hv => ?_, fun w v w0 w1 v0 v1 hw hv ha => ?_⟩, fun _ _ => by rw [e, if_pos rfl]⟩
    · rw [e, if_neg fun z => by rw [z] at hv; omega]
      exact hF.lo v v0 v1 hv
    · rw [e]
      by_cases z : v = b
      · rw [if_pos z, z]
        exact .inr ⟨rfl, by omega⟩
      · rw [if_neg z]
        exact hF.hi v v0 v1 hv
    · rw [e]
      by_cases z : v = b
      · rw [if_pos z]
      · rw [if_neg z]
        exact hF.dn w v w0 w1 v0 v1 hw hv ha
  · have e : half5 s a b F = F := by
      funext v
      unfold half5
      rw [if_neg fun z => c z.2]
    rw [e]
    refine ⟨hF, fun ha hb => ?_⟩
    rcases hF.hi b b0 b1 (by omega) with y | y
    · exact absurd ⟨by rw [hF.lo a a0 a1 (by omega)]; exact ha, by omega⟩ c
    · exact y.1
theorem law_table_ok (h : WebOk n ts) : law_table (n, ⟨ts⟩) = R.ok (tabL n ts) := by
  have hn1 := h.n1
  have hn := h.n60
  refine po_iff ?_
  unfold law_table
  refine po_rng (by decide) (by decide) (by show -(2 ^ 62) ≤ n; omega) (by show n < 2 ^ 62; omega) ?_
  refine po_bind (Q := fun g => g = tabL n ts) (Post.mono (po_foldP (fun pre g => g = pre.map fun p => (rng 0 n).map (dst n ts p)) rfl ?_) (fun _ z => z) fun _ z => z) fun g hg => hg
  intro pre g p post e hg
  have hx := rng_pre e
  obtain ⟨_, p0, p1⟩ := rng_split e
  have d := web_dist h p0 p1
  refine po_rep (by show 0 ≤ n; omega) (by show n < 1000; omega) (by show 1 < 100; decide) ?_
  have erep : repL ([(-(1 : Int))] : List Int) n = (rng 0 n).map fun _ => (-1 : Int) := by
    refine List.ext_getElem? fun i => ?_
    unfold repL
    have : (List.replicate n.toNat [(-(1 : Int))]).flatten = List.replicate n.toNat (-1) := by
      generalize n.toNat = m
      induction m with
      | zero => rfl
      | succ m ih => rw [List.replicate_succ, List.replicate_succ, List.flatten_cons, ih]; rfl
    rw [this, List.getElem?_map, List.getElem?_replicate]
    by_cases z : i < n.toNat
    · rw [if_pos z, rng_atE (by omega)]; rfl
    · rw [if_neg z, List.getElem?_eq_none (by rw [rng_length]; omega)]; rfl
  show Post (setI (repL ([(-(1 : Int))] : List Int) n) p (0 : Int) >>= _) _ _
  rw [erep]
  refine po_set p0 (by rw [List.length_map, rng_length]; omega) ?_
  rw [map_rng_set p0]
  refine po_rng (by decide) (by decide) (by show -(2 ^ 62) ≤ n; omega) (by show n < 2 ^ 62; omega) ?_
  have hz : ∀ v, 0 ≤ v → v < n → dst n ts p v = 0 → v = p := fun v v0 v1 hv => by
    apply Classical.byContradiction
    intro z
    obtain ⟨w, w0, w1, _, ew⟩ := d.desc v v0 v1 z
    have := d.nn w w0 w1
    omega
  refine po_bind (Q := fun g => g = (rng 0 n).map (dst n ts p)) (Post.mono (po_foldP (fun pre g => ∃ F : Int → Int, g = (rng 0 n).map F ∧ ∀ v, 0 ≤ v → v < n → (dst n ts p v ≤ (pre.length : Int) → F v = dst n ts p v) ∧ ((pre.length : Int) < dst n ts p v → F v = -1)) ⟨_, rfl, fun v v0 v1 => ⟨fun hv => ?_, fun hv => ?_⟩⟩ ?_) (fun r hr => ?_) fun _ z => z) fun g2 hg2 => ?_
  · have := d.nn v v0 v1
    have hv' : dst n ts p v ≤ 0 := hv
    have e1 := hz v v0 v1 (by omega)
    show (if v = p then (0 : Int) else -1) = _
    rw [if_pos e1]
    omega
  · have hv' : 0 < dst n ts p v := hv
    show (if v = p then (0 : Int) else -1) = _
    rw [if_neg fun e1 => by rw [e1, d.zero] at hv'; omega]
  · intro pr g2 s po e2 hg2
    obtain ⟨F, rfl, hF⟩ := hg2
    have hs := rng_pre e2
    obtain ⟨_, s0, s1⟩ := rng_split e2
    have hs' : (pr.length : Int) = s := by omega
    rw [hs'] at hF
    refine Post.mono (po_bind (po_foldP (fun pre g => ∃ F : Int → Int, g = (rng 0 n).map F ∧ RowI n p ts s pre F) ⟨F, rfl, ⟨fun v v0 v1 hv => (hF v v0 v1).1 hv, fun v v0 v1 hv => .inl ((hF v v0 v1).2 hv), fun w v _ _ _ _ _ _ ha => by rcases ha with z | z <;> cases z⟩⟩ ?_) fun g3 hg3 => po_ok hg3) (fun r hr => ?_) fun _ z => z
    · intro pre3 g3 t post3 e3 hg3
      obtain ⟨F, rfl, hF⟩ := hg3
      have ht : t ∈ ts := by
        have e3' : ts = pre3 ++ t :: post3 := e3
        rw [e3']; simp
      have hq : Adj ts t.1 t.2 := .inl ht
      obtain ⟨a0, a1, b0, b1⟩ := h.rg4 t ht
      obtain ⟨h1, d1⟩ := half5_inv h p0 p1 s0 hq hF
      obtain ⟨h2, d2⟩ := half5_inv h p0 p1 s0 hq.symm h1
      refine po_bind (half5_ok a0 a1 b0 b1) fun r hr => ?_
      subst hr
      refine Post.mono (half5_ok b0 b1 a0 a1) (fun r hr => ⟨_, hr, ⟨h2.lo, h2.hi, fun w v w0 w1 v0 v1 hw hv ha => ?_⟩⟩) fun _ z => z
      rcases ha with z | z
      · rcases List.mem_append.mp z with z | z
        · exact h2.dn w v w0 w1 v0 v1 hw hv (.inl z)
        · have e4 := List.mem_singleton.mp z
          have ew : t.1 = w := by rw [← e4]
          have ev : t.2 = v := by rw [← e4]
          have k1 := d1 (by rw [ew]; exact hw) (by rw [ev]; exact hv)
          rw [ev] at k1
          rcases half5_or s t.2 t.1 (half5 s t.1 t.2 F) v with e5 | e5
          · rw [e5, ev]
            exact k1
          · exact e5
      · rcases List.mem_append.mp z with z | z
        · exact h2.dn w v w0 w1 v0 v1 hw hv (.inr z)
        · have e4 := List.mem_singleton.mp z
          have ew : t.2 = w := by rw [← e4]
          have ev : t.1 = v := by rw [← e4]
          have k1 := d2 (by rw [ew]; exact hw) (by rw [ev]; exact hv)
          rw [ev] at k1 ⊢
          exact k1
    · obtain ⟨G, rfl, hG⟩ := hr
      refine ⟨G, rfl, fun v v0 v1 => ?_⟩
      have el : ((pr ++ [s]).length : Int) = s + 1 := by rw [List.length_append, List.length_singleton]; omega
      rw [el]
      have key : dst n ts p v = s + 1 → G v = s + 1 := fun hv => by
        obtain ⟨w, w0, w1, hq, ew⟩ := d.desc v v0 v1 fun z => by rw [z, d.zero] at hv; omega
        exact hG.dn w v w0 w1 v0 v1 (by omega) hv hq
      refine ⟨fun hv => ?_, fun hv => ?_⟩
      · by_cases z : dst n ts p v ≤ s
        · exact hG.lo v v0 v1 z
        · have e5 : dst n ts p v = s + 1 := by omega
          rw [key e5, e5]
      · rcases hG.hi v v0 v1 (by omega) with y | y <;> omega
  · obtain ⟨F, rfl, hF⟩ := hr
    rw [rng_length] at hF
    refine map_rng_congr fun v v0 v1 => (hF v v0 v1).1 ?_
    have := d.lt v v0 v1
    omega
  · rw [hg2]
    refine po_app ?_ ?_
    · rw [hg, List.length_map]
      have := congrArg List.length e
      rw [rng_length, List.length_append, List.length_cons] at this
      omega
    · show g ++ _ = _
      rw [hg, List.map_append]
      rfl
end
theorem minL2 (x y : Int) : minL [x, y] = R.ok (min2 x y) := by
  unfold minL
  have : [x, y].min? = some (min2 x y) := by
    rw [List.min?_eq_some_iff]
    unfold min2
    split <;> simp <;> omega
  rw [this]
  rfl
theorem ties_few {n : Int} {ts : List (Int × Int)} (h : WebOk n ts) : (ts.length : Int) ≤ n * n := by
  have n1 := h.n1
  have h1 : (ts.map fun p => p.1 * n + p.2).Nodup := by
    refine List.pairwise_map.mpr (h.nd.imp_of_mem ?_)
    intro a b ha hb hne e
    have ra := h.rg a ha
    have rb := h.rg b hb
    have e1 : a.1 = b.1 := by
      have q1 : (a.2 + a.1 * n) / n = a.1 := by
        rw [Int.add_mul_ediv_right _ _ (by omega), Int.ediv_eq_zero_of_lt (by omega) (by omega), Int.zero_add]
      have q2 : (b.2 + b.1 * n) / n = b.1 := by
        rw [Int.add_mul_ediv_right _ _ (by omega), Int.ediv_eq_zero_of_lt (by omega) (by omega), Int.zero_add]
      rw [← q1, ← q2, Int.add_comm a.2, Int.add_comm b.2, e]
    have e2 : a.2 = b.2 := by rw [e1] at e; omega
    exact hne (Prod.ext e1 e2)
  have h2 := nodup_le h1 (ys := rng 0 (n * n)) fun x hx => by
    obtain ⟨p, hp, rfl⟩ := List.mem_map.mp hx
    have := h.rg p hp
    have m1 : p.1 * n ≤ (n - 1) * n := Int.mul_le_mul_of_nonneg_right (by omega) (by omega)
    have m0 : 0 ≤ p.1 * n := Int.mul_nonneg (by omega) (by omega)
    rw [Int.sub_mul] at m1
    exact rng_mem.mpr ⟨by omega, by omega⟩
  have nn : 0 ≤ n * n := Int.mul_nonneg (by omega) (by omega)
  rw [List.length_map, rng_length] at h2
  omega
theorem kind_few {n : Int} {ts : List (Int × Int)} {k : Str} (h : WebOk n ts) (h12 : n ≤ 12) : (kindT n ts k).length ≤ 156 := by
  have n1 := h.n1
  have hl := ties_few h
  have hm : n * n ≤ 12 * 12 := Int.mul_le_mul h12 h12 (by omega) (by omega)
  have : (kindT n ts k).length ≤ (allT n ts).length := by
    unfold kindT allT
    rw [List.length_append]
    split
    · omega
    · split
      · omega
      · rw [List.length_append]; omega
  have := allT_len (ts := ts) (show 0 ≤ n by omega)
  omega
/-- the places that part two things -/
noncomputable def partL (n : Int) (ts : List (Int × Int)) (a b : Thing) : List Int := (rng 0 n).filter fun p => !decide (farT n ts p a = farT n ts p b)
theorem partL_len {n : Int} {ts : List (Int × Int)} {a b : Thing} : (partL n ts a b).length ≤ n.toNat := by
  have := List.length_filter_le (fun p => !decide (farT n ts p a = farT n ts p b)) (rng 0 n)
  rw [rng_length] at this
  unfold partL
  omega
theorem partL_mem {n : Int} {ts : List (Int × Int)} {a b : Thing} {p : Int} : p ∈ partL n ts a b ↔ (0 ≤ p ∧ p < n) ∧ farT n ts p a ≠ farT n ts p b := by
  unfold partL
  rw [List.mem_filter, rng_mem]
  simp
theorem law_things_ok {n : Int} {ts : List (Int × Int)} {k : Str} (h : WebOk n ts) (hk : k = "places" ∨ k = "ties" ∨ k = "all") : law_things (n, ⟨ts⟩) k = R.ok (kindT n ts k) := by
  have hn1 := h.n1
  have hn := h.n60
  have hl := h.len
  refine po_iff ?_
  unfold law_things
  refine po_listRng (by decide) (by decide) (by show -(2 ^ 62) ≤ n; omega) (by show n < 2 ^ 62; omega) (by show (n - 0).toNat ≤ 100000; omega) ?_
  refine po_rep (by unfold b2i; split <;> omega) (by unfold b2i; split <;> omega) (by show (rng 0 n).length < 100; rw [rng_length]; omega) ?_
  have l1 : (mkpl (rng 0 n)).length + (mkti ts).length < 100000 := by
    unfold mkpl mkti
    rw [List.length_map, List.length_map, rng_length]
    omega
  have e1 : repL (rng 0 n) 1 = rng 0 n := by
    unfold repL
    show (List.replicate 1 (rng 0 n)).flatten = _
    simp
  refine po_bind (Q := fun g => g = kindT n ts k) ?_ fun g hg => by
    rw [hg]
    rfl
  rcases hk with rfl | rfl | rfl
  · refine po_if (fun c => absurd c (by decide)) fun _ => ?_
    show mkpl (repL (rng 0 n) 1) = _
    rw [e1]
    rfl
  · refine po_if (fun _ => ?_) fun c => absurd (by decide) c
    refine po_extend (xs := mkpl (repL (rng 0 n) 0)) ?_ rfl
    show 0 + (mkti ts).length < 100000
    omega
  · refine po_if (fun _ => ?_) fun c => absurd (by decide) c
    refine po_extend (xs := mkpl (repL (rng 0 n) 1)) ?_ ?_
    · rw [e1]
      exact l1
    · show mkpl (repL (rng 0 n) 1) ++ mkti ts = _
      rw [e1]
      rfl
theorem law_far_ok {n p : Int} {ts : List (Int × Int)} {t : Thing} (h : WebOk n ts) (p0 : 0 ≤ p) (p1 : p < n) (ht : ThOk n ts t) : law_far (tabL n ts) p t = R.ok (farT n ts p t) := by
  unfold law_far
  cases t with
  | pl i =>
    show (asPl (.pl i) >>= _) = _
    rw [show asPl (.pl i) = R.ok i from rfl, ok_bind, tab_get p0 p1, ok_bind, row_get ht.1 ht.2]
    rfl
  | ti a b =>
    have hr := h.rg4 _ (show (a, b) ∈ ts from ht)
    show (asTi (.ti a b) >>= _) = _
    rw [show asTi (.ti a b) = R.ok (a, b) from rfl, ok_bind]
    rw [mapG_ok (g := dst n ts p) (by show (2 : Nat) < 100000; decide) fun x hx => by
      rw [tab_get p0 p1, ok_bind]
      rcases List.mem_cons.mp hx with rfl | hx
      · rw [row_get hr.1 hr.2.1]; rfl
      · rw [List.mem_singleton.mp hx, row_get hr.2.2.1 hr.2.2.2]; rfl]
    rw [ok_bind]
    show (minL [dst n ts p a, dst n ts p b] >>= _) = _
    rw [minL2]
    rfl
theorem tab_len {n : Int} {ts : List (Int × Int)} (n0 : 0 ≤ n) : ((tabL n ts).length : Int) = n := by
  unfold tabL
  rw [List.length_map, rng_length]
  omega
theorem law_parters_ok {n : Int} {ts : List (Int × Int)} {a b : Thing} (h : WebOk n ts) (ha : ThOk n ts a) (hb : ThOk n ts b) : law_parters (tabL n ts) a b = R.ok (partL n ts a b) := by
  have hn1 := h.n1
  have hn := h.n60
  refine po_iff ?_
  unfold law_parters
  rw [tab_len (by omega)]
  refine po_rng (by decide) (by decide) (by omega) (by omega) ?_
  refine po_filGE (g := fun p => if (!decide (farT n ts p a = farT n ts p b)) = true then some p else none) (by rw [rng_length]; omega) (fun p hp => ?_) ?_
  · obtain ⟨p0, p1⟩ := rng_mem.mp hp
    rw [law_far_ok h p0 p1 ha, ok_bind, law_far_ok h p0 p1 hb, ok_bind]
    split <;> rfl
  · show _ = _
    rw [fil_ite]
    rfl
abbrev Part : Type := Nt (Thing × Thing × (List Int) × Unit)
noncomputable def mkP (n : Int) (ts : List (Int × Int)) (a b : Thing) : Part := Nt.mk (a, b, partL n ts a b, ())
/-- each two things, the one ahead of the other, with their parters -/
noncomputable def pairsT (n : Int) (ts : List (Int × Int)) (T : List Thing) (is : List Int) : List Part := is.flatMap fun i => (T.drop (i + 1).toNat).map (mkP n ts (T.getD i.toNat (.pl 0)))
theorem pairsT_len {n : Int} {ts : List (Int × Int)} {T : List Thing} (is : List Int) : (pairsT n ts T is).length ≤ is.length * T.length := by
  unfold pairsT
  induction is with
  | nil => exact Nat.zero_le _
  | cons i is ih =>
    rw [List.flatMap_cons, List.length_append, List.length_map, List.length_drop, List.length_cons, Nat.succ_mul]
    omega
theorem pairsT_mem {n : Int} {ts : List (Int × Int)} {T : List Thing} {x : Part} (h : x ∈ pairsT n ts T (rng 0 T.length)) : x.v.1 ∈ T ∧ x.v.2.1 ∈ T ∧ x.v.2.2.1 = partL n ts x.v.1 x.v.2.1 := by
  unfold pairsT at h
  obtain ⟨i, hi, hx⟩ := List.mem_flatMap.mp h
  obtain ⟨i0, i1⟩ := rng_mem.mp hi
  obtain ⟨b, hb, rfl⟩ := List.mem_map.mp hx
  refine ⟨?_, List.mem_of_mem_drop hb, rfl⟩
  show T.getD i.toNat (.pl 0) ∈ T
  rw [List.getD_eq_getElem?_getD, List.getElem?_eq_getElem (show i.toNat < T.length by omega)]
  exact List.getElem_mem _
noncomputable def partedL (n : Int) (ts : List (Int × Int)) (k : Str) : List Part := pairsT n ts (kindT n ts k) (rng 0 (kindT n ts k).length)
theorem partedL_len {n : Int} {ts : List (Int × Int)} {k : Str} (h : WebOk n ts) (h12 : n ≤ 12) : (partedL n ts k).length ≤ 24336 := by
  have hk := kind_few (k := k) h h12
  have h1 : (partedL n ts k).length ≤ (rng 0 (kindT n ts k).length).length * (kindT n ts k).length := pairsT_len _
  rw [rng_length] at h1
  have h2 : (((kindT n ts k).length : Int) - 0).toNat * (kindT n ts k).length ≤ 156 * 156 := Nat.mul_le_mul (by omega) hk
  omega
theorem fold_pairs {n : Int} {ts : List (Int × Int)} {T us : List Thing} {f : List Part → Thing → R (List Part)} {a : Thing} {g : List Part} (hl : g.length + us.length ≤ 100000) (hf : ∀ g b, b ∈ us → g.length < 100000 → f g b = R.ok (g ++ [mkP n ts a b])) : foldR f g us = R.ok (g ++ us.map (mkP n ts a)) := by
  induction us generalizing g with
  | nil => rw [List.map_nil, List.append_nil]; rfl
  | cons u us ih =>
    rw [List.length_cons] at hl
    show (f g u >>= fun s => foldR f s us) = _
    rw [hf g u List.mem_cons_self (by omega), ok_bind, ih (by rw [List.length_append, List.length_singleton]; omega) fun g b hb => hf g b (List.mem_cons_of_mem _ hb), List.append_assoc]
    rfl
theorem law_parted_ok {n : Int} {ts : List (Int × Int)} {k : Str} (h : WebOk n ts) (h12 : n ≤ 12) (hk : k = "places" ∨ k = "ties" ∨ k = "all") : law_parted (n, ⟨ts⟩) k = R.ok (partedL n ts k) := by
  have hkl := kind_few (k := k) h h12
  refine po_iff ?_
  unfold law_parted
  rw [law_table_ok h, ok_bind, law_things_ok h hk, ok_bind]
  generalize hT : kindT n ts k = T at hkl
  have hTo : ∀ t ∈ T, ThOk n ts t := fun t ht => kindT_ok (hT ▸ ht)
  refine po_rng (by decide) (by decide) (by omega) (by omega) ?_
  refine po_bind (Q := fun g => g = pairsT n ts T (rng 0 T.length)) (Post.mono (po_foldP (fun pre g => g = pairsT n ts T pre) rfl ?_) (fun _ z => z) fun _ z => z) fun g hg => ?_
  · intro pre g i post e hg
    obtain ⟨_, i0, i1⟩ := rng_split e
    have hpl : pre.length ≤ 156 := by
      have := congrArg List.length e
      rw [rng_length, List.length_append] at this
      omega
    have hgl : g.length ≤ 24336 := by
      have h1 := pairsT_len (n := n) (ts := ts) (T := T) pre
      have h2 : pre.length * T.length ≤ 156 * 156 := Nat.mul_le_mul hpl hkl
      rw [hg]
      omega
    have hi : T[i.toNat]? = some (T.getD i.toNat (.pl 0)) := by
      rw [List.getD_eq_getElem?_getD, List.getElem?_eq_getElem (show i.toNat < T.length by omega)]; rfl
    rw [cut_fromI _ (show 0 ≤ i + 1 by omega)]
    rw [fold_pairs (n := n) (ts := ts) (T := T) (a := T.getD i.toNat (.pl 0)) (by rw [List.length_drop]; omega) fun g b hb hgl => by
      rw [getI_eq i0 hi, ok_bind, ok_bind, law_parters_ok h (hTo _ (List.mem_of_getElem? hi)) (hTo _ (List.mem_of_mem_drop hb)), ok_bind, app_ok hgl, ok_bind]
      unfold mkP
      with_reducible rfl]
    show g ++ _ = _
    unfold pairsT
    rw [List.flatMap_append, hg]
    unfold pairsT
    simp only [List.flatMap_cons, List.flatMap_nil, List.append_nil]
  · rw [hg]
    show _ = partedL n ts k
    unfold partedL
    rw [hT]
theorem fars_of_ok {n : Int} {ts : List (Int × Int)} (h : WebOk n ts) : fars_of (n, ⟨ts⟩) = R.ok (tabL n ts) := by
  have hn1 := h.n1
  have hn := h.n60
  refine po_iff ?_
  unfold fars_of
  refine po_rng (by decide) (by decide) (by show -(2 ^ 62) ≤ n; omega) (by show n < 2 ^ 62; omega) ?_
  refine po_mapGE (g := fun p => (rng 0 n).map (dst n ts p)) (by show (rng 0 n).length < 100000; rw [rng_length]; omega) (fun p hp => ?_) rfl
  rw [fars_ok h (rng_mem.mp hp).1 (rng_mem.mp hp).2]
  rfl
theorem far_in_ok {n p : Int} {ts : List (Int × Int)} {t : Thing} (h : WebOk n ts) (ht : ThOk n ts t) : far_in ((rng 0 n).map (dst n ts p)) t = R.ok (farT n ts p t) := by
  unfold far_in
  cases t with
  | pl i =>
    show (asPl (.pl i) >>= _) = _
    rw [show asPl (.pl i) = R.ok i from rfl, ok_bind, row_get ht.1 ht.2]
    rfl
  | ti a b =>
    have hr := h.rg4 _ (show (a, b) ∈ ts from ht)
    show (asTi (.ti a b) >>= _) = _
    rw [show asTi (.ti a b) = R.ok (a, b) from rfl, ok_bind, row_get hr.1 hr.2.1, ok_bind, row_get hr.2.2.1 hr.2.2.2]
    rfl
theorem enum_tab {n : Int} {ts : List (Int × Int)} (n0 : 0 ≤ n) : enum (tabL n ts) = (rng 0 n).map fun p => (p, (rng 0 n).map (dst n ts p)) := by
  unfold enum
  rw [tab_len n0]
  unfold tabL
  exact zip_self _ _
theorem parters_in_ok {n : Int} {ts : List (Int × Int)} {a b : Thing} (h : WebOk n ts) (ha : ThOk n ts a) (hb : ThOk n ts b) : parters_in (tabL n ts) a b = R.ok (partL n ts a b) := by
  have hn1 := h.n1
  have hn := h.n60
  refine po_iff ?_
  unfold parters_in
  rw [enum_tab (by omega)]
  refine po_filGE (g := fun q : Int × List Int => if (!decide (farT n ts q.1 a = farT n ts q.1 b)) = true then some q.1 else none) (by rw [List.length_map, rng_length]; omega) (fun q hq => ?_) ?_
  · obtain ⟨p, hp, rfl⟩ := List.mem_map.mp hq
    show (far_in ((rng 0 n).map (dst n ts p)) a >>= _) = _
    rw [far_in_ok h ha, ok_bind]
    show (far_in ((rng 0 n).map (dst n ts p)) b >>= _) = _
    rw [far_in_ok h hb, ok_bind]
    show (if (!decide (farT n ts p a = farT n ts p b)) = true then R.ok (some p) else R.ok none) = R.ok (if (!decide (farT n ts p a = farT n ts p b)) = true then some p else none)
    split <;> rfl
  · show _ = _
    rw [List.filterMap_map]
    show (rng 0 n).filterMap (fun p => if (!decide (farT n ts p a = farT n ts p b)) = true then some p else none) = _
    rw [fil_ite]
    rfl
theorem po_filB {α γ : Type} {P : α → Bool} {xs : List α} {k : List α → R γ} {T : γ → Prop} {X : Exn → Prop} (hl : xs.length < 100000) (hk : Post (k (xs.filter P)) T X) : Post (filG (fun b => if P b = true then R.ok (some b) else R.ok none) xs >>= k) T X := by
  refine po_filGE (g := fun b => if P b = true then some b else none) hl (fun b _ => by split <;> rfl) ?_
  rw [fil_ite]
  exact hk
/-- a tree of a case, walked -/
noncomputable def caseS (n : Int) (ts : List (Int × Int)) (T : List Thing) (st m : Int) : Nat → Tr → List Int → List Int → Bool
  | 0, _, _, _ => false
  | d + 1, t, w, wo =>
    if ((!inB t.a T) || ((!inB t.b T) || (decide (t.a = t.b)))) = true then false
    else if (decide (st ≤ (((partL n ts t.a t.b).filter fun b => inB b w).length : Int))) = true then false
    else if (decide ((w.length : Int) = m)) = true then t.ts.isEmpty
    else if (!decide ((t.ts.length : Int) = (((partL n ts t.a t.b).filter fun b => (!inB b w) && (!inB b wo)).length : Int))) = true then false
    else (rng 0 ((partL n ts t.a t.b).filter fun b => (!inB b w) && (!inB b wo)).length).all fun i => caseS n ts T st m d (t.ts.getD i.toNat (.n (.pl 0) (.pl 0) [])) (w ++ [((partL n ts t.a t.b).filter fun b => (!inB b w) && (!inB b wo)).getD i.toNat 0]) (wo ++ ((partL n ts t.a t.b).filter fun b => (!inB b w) && (!inB b wo)).take i.toNat)
theorem po_foldXP {β α ρ : Type} {f : β → α → R (Sum ρ (Bool × β))} {s : β} {xs : List α} {X : Exn → Prop} (I : List α → β → Prop) (P : ρ → Prop) (h0 : I [] s)
    (hf : ∀ pre s x post, xs = pre ++ x :: post → I pre s → Post (f s x) (fun r => (∃ z, r = .inl z ∧ P z) ∨ ∃ s', r = .inr (true, s') ∧ I (pre ++ [x]) s') X) : Post (foldX f s xs) (fun r => (∃ z, r = .inl z ∧ P z) ∨ ∃ s', r = .inr s' ∧ I xs s') X := by
  have key : ∀ (l pre : List α) (s : β), xs = pre ++ l → I pre s → Post (foldX f s l) (fun r => (∃ z, r = .inl z ∧ P z) ∨ ∃ s', r = .inr s' ∧ I xs s') X := by
    intro l
    induction l with
    | nil =>
      intro pre s e h
      rw [List.append_nil] at e
      rw [e]
      exact .inr ⟨s, rfl, h⟩
    | cons x l ih =>
      intro pre s e h
      refine po_bind (hf pre s x l e h) fun r hr => ?_
      rcases hr with ⟨z, rfl, hz⟩ | ⟨s', rfl, hs⟩
      · exact .inl ⟨z, rfl, hz⟩
      · exact ih (pre ++ [x]) s' (by rw [e, List.append_assoc]; rfl) hs
  exact key xs [] s rfl h0
theorem enum_mapT (l : List Thing) : enum l = (rng 0 l.length).map fun i => (i, l.getD i.toNat (.pl 0)) := by
  refine List.ext_getElem? fun i => ?_
  rw [List.getElem?_map]
  by_cases hi : i < l.length
  · rw [rng_atE (by omega), enum_get (List.getElem?_eq_getElem hi)]
    show some ((i : Int), l[i]) = some ((0 : Int) + (i : Int), l.getD ((0 : Int) + (i : Int)).toNat (.pl 0))
    rw [show ((0 : Int) + (i : Int)).toNat = i by omega, List.getD_eq_getElem?_getD, List.getElem?_eq_getElem hi, show (0 : Int) + (i : Int) = i by omega]
    rfl
  · rw [List.getElem?_eq_none (by rw [enum_length]; omega), List.getElem?_eq_none (by rw [rng_length]; omega)]
    rfl
theorem foldR_map {α β γ : Type} {f : β → α → R β} {φ : γ → α} : ∀ {l : List γ} {s : β}, foldR f s (l.map φ) = foldR (fun s x => f s (φ x)) s l
  | [], s => rfl
  | x :: l, s => by
    show (f s (φ x) >>= fun s' => foldR f s' (l.map φ)) = (f s (φ x) >>= fun s' => foldR (fun s x => f s (φ x)) s' l)
    congr 1
    funext s'
    exact foldR_map
theorem pairs_of_ok {n : Int} {ts : List (Int × Int)} {k : Str} (h : WebOk n ts) (h12 : n ≤ 12) : pairs_of (n, ⟨ts⟩) k = R.ok (partedL n ts k) := by
  have hkl := kind_few (k := k) h h12
  refine po_iff ?_
  unfold pairs_of
  rw [things_ok h, ok_bind, fars_of_ok h, ok_bind]
  generalize hT : kindT n ts k = T at hkl
  have hTo : ∀ t ∈ T, ThOk n ts t := fun t ht => kindT_ok (hT ▸ ht)
  rw [enum_mapT, foldR_map]
  refine po_bind (Q := fun g => g = pairsT n ts T (rng 0 T.length)) (Post.mono (po_foldP (fun pre g => g = pairsT n ts T pre) rfl ?_) (fun _ z => z) fun _ z => z) fun g hg => ?_
  · intro pre g i post e hg
    obtain ⟨_, i0, i1⟩ := rng_split e
    have hpl : pre.length ≤ 156 := by
      have := congrArg List.length e
      rw [rng_length, List.length_append] at this
      omega
    have hgl : g.length ≤ 24336 := by
      have h1 := pairsT_len (n := n) (ts := ts) (T := T) pre
      have h2 : pre.length * T.length ≤ 156 * 156 := Nat.mul_le_mul hpl hkl
      rw [hg]
      omega
    have hi : T[i.toNat]? = some (T.getD i.toNat (.pl 0)) := by
      rw [List.getD_eq_getElem?_getD, List.getElem?_eq_getElem (show i.toNat < T.length by omega)]; rfl
    show Post (foldR _ g (cutL T (some (i + 1)) none) >>= _) _ _
    rw [cut_fromI _ (show 0 ≤ i + 1 by omega)]
    rw [fold_pairs (n := n) (ts := ts) (T := T) (a := T.getD i.toNat (.pl 0)) (by rw [List.length_drop]; omega) fun g b hb hgl => by
      show (parters_in (tabL n ts) (T.getD i.toNat (.pl 0)) b >>= _) = _
      rw [parters_in_ok h (hTo _ (List.mem_of_getElem? hi)) (hTo _ (List.mem_of_mem_drop hb)), ok_bind, app_ok hgl, ok_bind]
      unfold mkP
      with_reducible rfl]
    show g ++ _ = _
    unfold pairsT
    rw [List.flatMap_append, hg]
    unfold pairsT
    simp only [List.flatMap_cons, List.flatMap_nil, List.append_nil]
  · rw [hg]
    show _ = partedL n ts k
    unfold partedL
    rw [hT]
def hits (W : List Int) (p : Part) : Nat := (p.v.2.2.1.filter fun b => inB b W).length
def Strong (st : Int) (W : List Int) (ps : List Part) : Prop := ∀ p ∈ ps, st ≤ (hits W p : Int)
theorem hits_sub {W S : List Int} {p : Part} (h : ∀ v ∈ W, v ∈ S) : hits W p ≤ hits S p := by
  unfold hits
  rw [← List.countP_eq_length_filter, ← List.countP_eq_length_filter]
  exact List.countP_mono_left fun a _ ha => inB_t.mpr (h a (inB_t.mp ha))
theorem hits_le (W : List Int) (p : Part) : hits W p ≤ p.v.2.2.1.length := List.length_filter_le _ _
abbrev DP : Type := List ((Tup Int) × Part)
/-- no key of the dict lies strictly within this one -/
def lesserL (d : DP) (p : (Tup Int) × Part) : List (Tup Int) := (d.map (·.1)).filter fun b => (decide ((b.l.length : Int) < (p.1.l.length : Int))) && (b.l.all fun v => inB v p.1.l)
theorem msetd_mem {d : DP} {k : Tup Int} {v : Part} {q : (Tup Int) × Part} (h : q ∈ msetd d k v) : q ∈ d ∨ q = (k, v) := by
  unfold msetd at h
  split at h
  · exact .inl h
  · rename_i c
    rw [mput_new (by cases e : mhas d k with | true => exact absurd e c | false => rfl)] at h
    rcases List.mem_append.mp h with h | h
    · exact .inl h
    · exact .inr (List.mem_singleton.mp h)
theorem msetd_has {d : DP} {k : Tup Int} {v : Part} : (∃ q ∈ msetd d k v, q.1 = k) ∧ (∀ q ∈ d, q ∈ msetd d k v) ∧ (msetd d k v).length ≤ d.length + 1 := by
  unfold msetd
  split
  · rename_i c
    exact ⟨mhas_iff.mp c, fun q hq => hq, by omega⟩
  · rename_i c
    rw [mput_new (by cases e : mhas d k with | true => exact absurd e c | false => rfl)]
    exact ⟨⟨(k, v), by simp, rfl⟩, fun q hq => List.mem_append_left _ hq, by rw [List.length_append]; exact Nat.le_refl _⟩
theorem leanest_ok {ps : List Part} (hl : ps.length ≤ 24336) (hp : ∀ p ∈ ps, p.v.2.2.1.length ≤ 60) : ∃ ls, leanest_pairs ps = R.ok ls ∧ (∀ p ∈ ls, p ∈ ps) ∧ (∀ q ∈ ps, ∃ p ∈ ls, ∀ v ∈ p.v.2.2.1, v ∈ q.v.2.2.1) ∧ ls.length ≤ 24336 := by
  refine po_ex ?_
  unfold leanest_pairs
  refine po_bind (Q := fun d => (∀ q ∈ d, q.2 ∈ ps ∧ q.1 = Tup.mk q.2.v.2.2.1) ∧ (∀ p ∈ ps, ∃ q ∈ d, q.1 = Tup.mk p.v.2.2.1) ∧ d.length ≤ 24336) (Post.mono (po_foldP (fun pre (d : DP) => (∀ q ∈ d, q.2 ∈ ps ∧ q.1 = Tup.mk q.2.v.2.2.1) ∧ (∀ p ∈ pre, ∃ q ∈ d, q.1 = Tup.mk p.v.2.2.1) ∧ d.length ≤ pre.length) ⟨fun _ z => (nomatch z), fun _ z => (nomatch z), Nat.le_refl _⟩ ?_) (fun r hr => ⟨hr.1, hr.2.1, by have := hr.2.2; omega⟩) fun _ z => z) fun d ⟨d1, d2, d3⟩ => ?_
  · intro pre d x post e ⟨h1, h2, h3⟩
    have hpre : pre.length + 1 ≤ 24336 := by
      have := congrArg List.length e
      rw [List.length_append, List.length_cons] at this
      omega
    have hx : x ∈ ps := by rw [e]; simp
    obtain ⟨m1, m2, m3⟩ := msetd_has (d := d) (k := Tup.mk x.v.2.2.1) (v := x)
    refine po_msetd (by omega) ⟨fun q hq => ?_, fun p hpm => ?_, ?_⟩
    · rcases msetd_mem hq with hq | rfl
      · exact h1 q hq
      · exact ⟨hx, rfl⟩
    · rcases List.mem_append.mp hpm with hpm | hpm
      · obtain ⟨q, hq, eq⟩ := h2 p hpm
        exact ⟨q, m2 q hq, eq⟩
      · rw [List.mem_singleton.mp hpm]
        exact m1
    · show (msetd d _ x).length ≤ _
      rw [List.length_append, List.length_singleton]
      omega
  · refine po_bind (Q := fun g => g = (d.filter fun p => (lesserL d p).isEmpty).map (·.2)) (Post.mono (po_foldP (fun pre g => g = (pre.filter fun p => (lesserL d p).isEmpty).map (·.2)) rfl ?_) (fun _ z => z) fun _ z => z) fun g hg => ?_
    · intro pre g x post e hg
      have hgl : g.length ≤ 24336 := by
        rw [hg, List.length_map]
        refine Nat.le_trans (List.length_filter_le _ _) ?_
        have := congrArg List.length e
        rw [List.length_append] at this
        omega
      refine po_bind (Q := fun l => l = lesserL d x) (po_eq (a := lesserL d x) ?_ rfl) fun l hl => ?_
      · rw [filG_ok (g := fun b => if ((decide ((b.l.length : Int) < (x.1.l.length : Int))) && (b.l.all fun v => inB v x.1.l)) = true then some b else none) (by rw [List.length_map]; omega) fun b hb => ?_]
        · rw [fil_ite]
          rfl
        · obtain ⟨q, hq, rfl⟩ := List.mem_map.mp hb
          have hql : q.1.l.length ≤ 60 := by
            obtain ⟨z1, z2⟩ := d1 q hq
            rw [z2]
            exact hp _ z1
          by_cases c : decide ((q.1.l.length : Int) < (x.1.l.length : Int)) = true
          · rw [if_pos c, c, mapG_ok (g := fun v => inB v x.1.l) (by omega) fun v _ => rfl, ok_bind, List.all_map]
            show (if (q.1.l.all fun v => inB v x.1.l) = true then R.ok (some q.1) else R.ok none) = R.ok (if (true && q.1.l.all fun v => inB v x.1.l) = true then some q.1 else none)
            rw [Bool.true_and]
            split <;> rfl
          · have c' : decide ((q.1.l.length : Int) < (x.1.l.length : Int)) = false := by
              cases e : decide ((q.1.l.length : Int) < (x.1.l.length : Int)) with
              | true => exact absurd e c
              | false => rfl
            rw [if_neg c, c']
            rfl
      · subst hl
        rw [List.filter_append, List.map_append, ← hg]
        refine po_if (fun c => po_app (by omega) ?_) fun c => ?_
        · have e1 : lesserL d x = [] := of_decide_eq_true c
          show g ++ [x.2] = _
          rw [List.filter_cons, if_pos (by rw [e1]; rfl)]
          rfl
        · have e1 : ¬ (lesserL d x).isEmpty = true := fun z => c (decide_eq_true (List.isEmpty_iff.mp z))
          show g = _
          rw [List.filter_cons, if_neg e1]
          simp
    · refine po_ok ⟨fun p hpm => ?_, fun q hq => ?_, ?_⟩
      · rw [hg] at hpm
        obtain ⟨z, hz, rfl⟩ := List.mem_map.mp hpm
        exact (d1 z (List.mem_filter.mp hz).1).1
      · -- a key within, as short as can be
        obtain ⟨q0, hq0, eq0⟩ := d2 q hq
        have key : ∀ (N : Nat) (z : (Tup Int) × Part), z ∈ d → z.1.l.length ≤ N → (∀ v ∈ z.1.l, v ∈ q.v.2.2.1) → ∃ y ∈ d, (lesserL d y).isEmpty = true ∧ ∀ v ∈ y.1.l, v ∈ q.v.2.2.1 := by
          intro N
          induction N with
          | zero =>
            intro z hz hN hs
            refine ⟨z, hz, ?_, hs⟩
            rw [List.isEmpty_iff]
            refine List.filter_eq_nil_iff.mpr fun b hb => ?_
            rw [decide_eq_false (by omega)]
            simp
          | succ N ih =>
            intro z hz hN hs
            by_cases c : (lesserL d z).isEmpty = true
            · exact ⟨z, hz, c, hs⟩
            · have hne : lesserL d z ≠ [] := fun e => c (by rw [e]; rfl)
              obtain ⟨b, hb⟩ := List.exists_mem_of_ne_nil _ hne
              obtain ⟨hb1, hb2⟩ := List.mem_filter.mp hb
              obtain ⟨y, hy, rfl⟩ := List.mem_map.mp hb1
              rw [Bool.and_eq_true] at hb2
              have hlt := of_decide_eq_true hb2.1
              refine ih y hy (by omega) fun v hv => hs v ?_
              exact inB_t.mp (List.all_eq_true.mp hb2.2 v hv)
        obtain ⟨y, hy, hy1, hy2⟩ := key _ q0 hq0 (Nat.le_refl _) (by rw [eq0]; exact fun v hv => hv)
        refine ⟨y.2, ?_, fun v hv => hy2 v ?_⟩
        · rw [hg]
          exact List.mem_map.mpr ⟨y, List.mem_filter.mpr ⟨hy, hy1⟩, rfl⟩
        · rw [(d1 y hy).2]
          exact hv
      · show g.length ≤ 24336
        rw [hg, List.length_map]
        exact Nat.le_trans (List.length_filter_le _ _) d3
theorem strong_lean {ps ls : List Part} {st : Int} {W : List Int} (h : ∀ q ∈ ps, ∃ p ∈ ls, ∀ v ∈ p.v.2.2.1, v ∈ q.v.2.2.1) (hn : ∀ p ∈ ls, p.v.2.2.1.Nodup) (hs : Strong st W ls) : Strong st W ps := fun q hq => by
  obtain ⟨p, hp, hv⟩ := h q hq
  have h1 := hs p hp
  have h2 : hits W p ≤ hits W q := by
    unfold hits
    refine nodup_le ((hn p hp).filter _) fun v hvm => ?_
    obtain ⟨a, b⟩ := List.mem_filter.mp hvm
    exact List.mem_filter.mpr ⟨hv v a, b⟩
  omega
theorem seldom_ok {ps : List Part} {st : Int} {W : List Int} (hp : ∀ p ∈ ps, p.v.2.2.1.length ≤ 60) : ∃ o, too_seldom ps st W = R.ok o ∧ (o = none → Strong st W ps) ∧ ∀ p, o = some p → p ∈ ps ∧ (hits W p : Int) < st := by
  refine po_ex ?_
  unfold too_seldom
  refine po_bind (Q := fun o => (o = none → Strong st W ps) ∧ ∀ p, o = some p → p ∈ ps ∧ (hits W p : Int) < st) (Post.mono (po_foldP (fun pre (o : Option Part) => (o = none → Strong st W pre) ∧ ∀ p, o = some p → p ∈ pre ∧ (hits W p : Int) < st) ⟨fun _ _ z => (nomatch z), fun _ z => (nomatch z)⟩ ?_) (fun r hr => hr) fun _ z => z) fun o ho => ho
  intro pre o x post e ⟨h1, h2⟩
  have hx := hp x (by rw [e]; simp)
  have keep : ∀ p, o = some p → p ∈ pre ++ [x] ∧ (hits W p : Int) < st := fun p hp => ⟨List.mem_append_left _ (h2 p hp).1, (h2 p hp).2⟩
  refine po_filB (P := fun b => inB b W) (by omega) ?_
  refine po_if (fun c => ?_) fun c => ?_
  · have c' : (hits W x : Int) < st := of_decide_eq_true c
    have new : ∀ p, some x = some p → p ∈ pre ++ [x] ∧ (hits W p : Int) < st := fun p hp => by
      cases hp
      exact ⟨by simp, c'⟩
    have ex : (Nt.mk (x.v.1, x.v.2.1, x.v.2.2.1, ()) : Part) = x := rfl
    cases o with
    | none =>
      show Post (R.ok (some (Nt.mk (x.v.1, x.v.2.1, x.v.2.2.1, ()) : Part))) _ _
      rw [ex]
      exact ⟨fun z => (nomatch z), new⟩
    | some y =>
      show Post (if (decide ((x.v.2.2.1.length : Int) < (y.v.2.2.1.length : Int))) = true then R.ok (some (Nt.mk (x.v.1, x.v.2.1, x.v.2.2.1, ()) : Part)) else R.ok (some y)) _ _
      rw [ex]
      exact po_if (fun _ => ⟨fun z => (nomatch z), new⟩) fun _ => ⟨fun z => (nomatch z), keep⟩
  · refine ⟨fun z p hpm => ?_, keep⟩
    rcases List.mem_append.mp hpm with hpm | hpm
    · exact h1 z p hpm
    · rw [List.mem_singleton.mp hpm]
      have : ¬ (hits W x : Int) < st := fun z => c (decide_eq_true z)
      omega
theorem kindT_nd {n : Int} {ts : List (Int × Int)} {k : Str} (h : WebOk n ts) : (kindT n ts k).Nodup := by
  have h1 : (mkpl (rng 0 n)).Nodup := by
    unfold mkpl
    exact List.pairwise_map.mpr ((rng_nodup 0 n).imp fun hne e => hne (by injection e))
  have h2 : (mkti ts).Nodup := by
    unfold mkti
    refine List.pairwise_map.mpr (h.nd.imp fun hne e => hne ?_)
    injection e with e1 e2
    exact Prod.ext e1 e2
  unfold kindT
  split
  · exact h1
  · split
    · exact h2
    · unfold allT
      rw [List.nodup_append]
      refine ⟨h1, h2, fun a ha b hb e => ?_⟩
      obtain ⟨i, rfl, _⟩ := pl_mem.mp ha
      obtain ⟨x, y, rfl, _⟩ := ti_mem.mp hb
      cases e
theorem pairsT_ne2 {n : Int} {ts : List (Int × Int)} {T : List Thing} (hT : T.Nodup) {x : Part} (h : x ∈ pairsT n ts T (rng 0 T.length)) : x.v.1 ≠ x.v.2.1 := by
  unfold pairsT at h
  obtain ⟨i, hi, hx⟩ := List.mem_flatMap.mp h
  obtain ⟨i0, i1⟩ := rng_mem.mp hi
  obtain ⟨b, hb, rfl⟩ := List.mem_map.mp hx
  show T.getD i.toNat (.pl 0) ≠ b
  have hi2 : i.toNat < T.length := by omega
  rw [List.getD_eq_getElem?_getD, List.getElem?_eq_getElem hi2]
  show T[i.toNat] ≠ b
  obtain ⟨j, hj, rfl⟩ := List.getElem_of_mem hb
  rw [List.getElem_drop]
  intro e
  rw [List.length_drop] at hj
  have := (List.getElem_inj hT).mp e
  omega
structure PsOk (n : Int) (ts : List (Int × Int)) (T : List Thing) (ps : List Part) : Prop where
  one : ∀ p ∈ ps, p.v.1 ∈ T
  two : ∀ p ∈ ps, p.v.2.1 ∈ T
  ne : ∀ p ∈ ps, p.v.1 ≠ p.v.2.1
  par : ∀ p ∈ ps, p.v.2.2.1 = partL n ts p.v.1 p.v.2.1
theorem PsOk.of {n : Int} {ts : List (Int × Int)} {k : Str} (h : WebOk n ts) : PsOk n ts (kindT n ts k) (partedL n ts k) :=
  ⟨fun p hp => (pairsT_mem hp).1, fun p hp => (pairsT_mem hp).2.1, fun p hp => pairsT_ne2 (kindT_nd h) hp, fun p hp => (pairsT_mem hp).2.2⟩
theorem PsOk.sub {n : Int} {ts : List (Int × Int)} {T : List Thing} {ps qs : List Part} (h : PsOk n ts T ps) (hs : ∀ p ∈ qs, p ∈ ps) : PsOk n ts T qs :=
  ⟨fun p hp => h.one p (hs p hp), fun p hp => h.two p (hs p hp), fun p hp => h.ne p (hs p hp), fun p hp => h.par p (hs p hp)⟩
theorem partL_nodup {n : Int} {ts : List (Int × Int)} {a b : Thing} : (partL n ts a b).Nodup := (rng_nodup 0 n).filter _
theorem PsOk.nd {n : Int} {ts : List (Int × Int)} {T : List Thing} {ps : List Part} (h : PsOk n ts T ps) : ∀ p ∈ ps, p.v.2.2.1.Nodup := fun p hp => by
  rw [h.par p hp]
  exact partL_nodup
theorem PsOk.few {n : Int} {ts : List (Int × Int)} {T : List Thing} {ps : List Part} (h : PsOk n ts T ps) (hn : n ≤ 60) : ∀ p ∈ ps, p.v.2.2.1.length ≤ 60 := fun p hp => by
  rw [h.par p hp]
  have := partL_len (n := n) (ts := ts) (a := p.v.1) (b := p.v.2.1)
  omega
def keep5 (ps : List Part) (st m : Int) (o : Option (List Int)) : SearchF := (ps, st, m, o, ())
/-- no looks, at most so many, that hold what is within and nothing that is without -/
def NoS (st m : Int) (ps : List Part) (w wo : List Int) : Prop := ∀ S : List Int, S.Nodup → (∀ v ∈ w, v ∈ S) → (∀ v ∈ wo, v ∉ S) → (S.length : Int) ≤ m → ¬ Strong st S ps
/-- looks that are found -/
def GoodL (n st m : Int) (ps : List Part) (L : List Int) : Prop := ∃ W : List Int, L = sortI W ∧ W.Nodup ∧ (∀ v ∈ W, 0 ≤ v ∧ v < n) ∧ (W.length : Int) ≤ m ∧ Strong st W ps
theorem toTrs_snoc : ∀ {ts : List To} {xs : List Tr} {t : To} {x : Tr}, toTr.toTrs ts = some xs → toTr t = some x → toTr.toTrs (ts ++ [t]) = some (xs ++ [x])
  | [], xs, t, x, h, h2 => by
    rw [toTr.toTrs] at h
    cases h
    show toTr.toTrs [t] = some [x]
    rw [toTr.toTrs, h2, toTr.toTrs]
  | y :: ts, xs, t, x, h, h2 => by
    rw [toTr.toTrs] at h
    cases e1 : toTr y with
    | none => rw [e1] at h; cases h
    | some z =>
      cases e2 : toTr.toTrs ts with
      | none => rw [e1, e2] at h; cases h
      | some zs =>
        rw [e1, e2] at h
        cases h
        show toTr.toTrs (y :: (ts ++ [t])) = _
        rw [toTr.toTrs, e1, toTrs_snoc e2 h2]
        rfl
theorem first_in {S : List Int} : ∀ {l : List Int}, (∃ v ∈ l, v ∈ S) → ∃ i y, l[i]? = some y ∧ y ∈ S ∧ ∀ v ∈ l.take i, v ∉ S
  | [], h => by
    obtain ⟨v, hv, _⟩ := h
    cases hv
  | x :: l, h => by
    by_cases c : x ∈ S
    · exact ⟨0, x, rfl, c, fun v hv => by rw [List.take_zero] at hv; cases hv⟩
    · obtain ⟨v, hv, hS⟩ := h
      rcases List.mem_cons.mp hv with rfl | hv
      · exact absurd hS c
      · obtain ⟨i, y, h1, h2, h3⟩ := first_in ⟨v, hv, hS⟩
        refine ⟨i + 1, y, h1, h2, fun u hu => ?_⟩
        rw [List.take_succ_cons] at hu
        rcases List.mem_cons.mp hu with rfl | hu
        · exact c
        · exact h3 u hu
section
variable {n : Int} {ts : List (Int × Int)} {T : List Thing} {st m : Int} {ps : List Part}
/-- the trees of the places gone through -/
def Kids (n : Int) (ts : List (Int × Int)) (T : List Thing) (st m : Int) (ps : List Part) (d : Nat) (w wo : List Int) (l : List Int) (xs : List Tr) : Prop :=
  xs.length = l.length ∧ ∀ i y, l[i]? = some y → ∃ x, xs[i]? = some x ∧ caseS n ts T st m d x (w ++ [y]) (wo ++ l.take i) = true ∧ NoS st m ps (w ++ [y]) (wo ++ l.take i)
theorem Kids.snoc {d : Nat} {w wo l : List Int} {xs : List Tr} {y : Int} {x : Tr} (h : Kids n ts T st m ps d w wo l xs) (h1 : caseS n ts T st m d x (w ++ [y]) (wo ++ l) = true) (h2 : NoS st m ps (w ++ [y]) (wo ++ l)) : Kids n ts T st m ps d w wo (l ++ [y]) (xs ++ [x]) := by
  refine ⟨by rw [List.length_append, List.length_append, h.1]; rfl, fun i z hz => ?_⟩
  by_cases c : i < l.length
  · rw [List.getElem?_append_left c] at hz
    obtain ⟨u, a1, a2, a3⟩ := h.2 i z hz
    rw [List.take_append_of_le_length (by omega)]
    exact ⟨u, by rw [List.getElem?_append_left (by rw [h.1]; exact c)]; exact a1, a2, a3⟩
  · have hi : i < (l ++ [y]).length := (List.getElem?_eq_some_iff.mp hz).1
    rw [List.length_append, List.length_singleton] at hi
    have ei : i = l.length := by omega
    subst ei
    rw [List.getElem?_append_right (by omega), Nat.sub_self] at hz
    cases hz
    rw [List.take_left]
    exact ⟨x, by rw [List.getElem?_append_right (by rw [h.1]; omega), h.1, Nat.sub_self]; rfl, h1, h2⟩
theorem tree_ok (h : WebOk n ts) (hps : PsOk n ts T ps) (hm : m ≤ 30) : ∀ (d : Nat) (w wo : List Int), (w.length : Int) ≤ m → m - w.length < d → wo.length ≤ 60 * w.length → w.Nodup → (∀ v ∈ w, 0 ≤ v ∧ v < n) →
    ∃ t o, Search_tree_of d (keep5 ps st m none) w wo = R.ok (t, keep5 ps st m o) ∧ (∀ L, o = some L → GoodL n st m ps L) ∧ (o = none → ∃ x, toTr t = some x ∧ caseS n ts T st m d x w wo = true ∧ NoS st m ps w wo)
  | 0, w, wo, h1, h2, _, _, _ => by omega
  | d + 1, w, wo, h1, h2, h3, hw, hr => by
    have hn := h.n60
    have hfew := hps.few hn
    obtain ⟨o1, e1, f1, f2⟩ := seldom_ok (st := st) (W := w) hfew
    show ∃ t o, Search_tree_of_b (Search_tree_of d) (keep5 ps st m none) w wo = R.ok (t, keep5 ps st m o) ∧ _
    unfold Search_tree_of_b
    have e1' : too_seldom (keep5 ps st m none).1 (keep5 ps st m none).2.1 w = R.ok o1 := e1
    rw [e1', ok_bind]
    cases o1 with
    | none => exact ⟨To.no, some (sortI w), rfl, fun L hL => by cases hL; exact ⟨w, rfl, hw, hr, h1, f1 rfl⟩, fun z => nomatch z⟩
    | some p =>
      obtain ⟨pm, phit⟩ := f2 p rfl
      have hP : p.v.2.2.1 = partL n ts p.v.1 p.v.2.1 := hps.par p pm
      have hPl := hfew p pm
      generalize hcond : (fun b : Int => (!inB b w) && (!inB b wo)) = cond
      have hlP : ∀ pre : List Int, (pre.filter cond).length ≤ pre.length := fun pre => List.length_filter_le _ _
      -- the loop
      have loop : Post (do
          if (decide ((w.length : Int) < m)) = true then do
            let g28 ← foldR (fun (g28 : (List Int) × (List To) × SearchF) (b28 : Int) => do
                if ((!inB b28 w) && ((!inB b28 wo) && g28.2.2.2.2.2.1.isNone)) = true then do
                  let l42 ← extend w ([b28] : (List Int))
                  let y47 ← (Search_tree_of d) g28.2.2 l42 g28.1
                  let l49 ← app g28.2.1 y47.1
                  let l54 ← extend g28.1 ([b28] : (List Int))
                  R.ok (l54, l49, y47.2)
                else do
                  R.ok (g28.1, g28.2.1, g28.2.2)) (wo, ([] : (List To)), keep5 ps st m none) p.v.2.2.1
            R.ok (g28.2.1, g28.2.2)
          else do
            R.ok (([] : (List To)), keep5 ps st m none)) (fun (g : (List To) × SearchF) => ∃ o, g.2 = keep5 ps st m o ∧ (∀ L, o = some L → GoodL n st m ps L) ∧ (o = none → ∃ xs, toTr.toTrs g.1 = some xs ∧ (if (w.length : Int) < m then Kids n ts T st m ps d w wo (p.v.2.2.1.filter cond) xs else xs = []))) noX := by
        refine po_if (fun c => ?_) fun c => ?_
        · have c' : (w.length : Int) < m := of_decide_eq_true c
          refine po_bind (Q := fun (g : (List Int) × (List To) × SearchF) => ((g.2.2 = keep5 ps st m none ∧ g.1 = wo ++ p.v.2.2.1.filter cond ∧ ∃ xs, toTr.toTrs g.2.1 = some xs ∧ Kids n ts T st m ps d w wo (p.v.2.2.1.filter cond) xs) ∨ ∃ L, g.2.2 = keep5 ps st m (some L) ∧ GoodL n st m ps L)) (Post.mono (po_foldP (fun pre (g : (List Int) × (List To) × SearchF) => g.1.length ≤ wo.length + pre.length ∧ g.2.1.length ≤ pre.length ∧ ((g.2.2 = keep5 ps st m none ∧ g.1 = wo ++ pre.filter cond ∧ ∃ xs, toTr.toTrs g.2.1 = some xs ∧ Kids n ts T st m ps d w wo (pre.filter cond) xs) ∨ ∃ L, g.2.2 = keep5 ps st m (some L) ∧ GoodL n st m ps L)) ⟨Nat.le_refl _, Nat.le_refl _, .inl ⟨rfl, (List.append_nil wo).symm, [], by rw [toTr.toTrs], rfl, fun i y hy => by cases hy⟩⟩ ?_) (fun r hr => hr.2.2) fun _ z => z) fun g hg => ?_
          · intro pre g b post e ⟨g1, g2, g3⟩
            have hpre : pre.length + 1 ≤ 60 := by
              have := congrArg List.length e
              rw [List.length_append, List.length_cons] at this
              omega
            have hb : 0 ≤ b ∧ b < n := by
              have : b ∈ p.v.2.2.1 := by rw [e]; simp
              rw [hP] at this
              exact (partL_mem.mp this).1
            have len1 : (pre ++ [b]).length = pre.length + 1 := by rw [List.length_append]; rfl
            rcases g3 with ⟨k1, k2, xs, k3, k4⟩ | ⟨L, k1, k2⟩
            · have ec : ((!inB b w) && ((!inB b wo) && g.2.2.2.2.2.1.isNone)) = cond b := by
                rw [k1, ← hcond]
                show ((!inB b w) && ((!inB b wo) && true)) = _
                rw [Bool.and_true]
              refine po_if (fun c2 => ?_) fun c2 => ?_
              · rw [ec] at c2
                have c2' : b ∉ w := by
                  rw [← hcond] at c2
                  rw [Bool.and_eq_true] at c2
                  intro z
                  have := inB_t.mpr z
                  rw [this] at c2
                  cases c2.1
                have el : (pre ++ [b]).filter cond = pre.filter cond ++ [b] := by
                  rw [List.filter_append, List.filter_cons, if_pos c2]
                  rfl
                refine po_extend (by show w.length + 1 < 100000; omega) ?_
                have lw : (w ++ [b]).length = w.length + 1 := by rw [List.length_append]; rfl
                have hfl := hlP pre
                obtain ⟨t, o, q1, q2, q3⟩ := tree_ok h hps hm d (w ++ [b]) (wo ++ pre.filter cond) (by rw [lw]; omega) (by rw [lw]; omega) (by rw [lw, List.length_append]; omega) (by
                  rw [List.nodup_append]
                  exact ⟨hw, List.pairwise_singleton _ _, fun x hx y hy z => c2' (by rw [← List.mem_singleton.mp hy, ← z]; exact hx)⟩) (fun v hv => by
                  rcases List.mem_append.mp hv with hv | hv
                  · exact hr v hv
                  · rw [List.mem_singleton.mp hv]; exact hb)
                have q1' : Search_tree_of d g.2.2 (w ++ [b]) g.1 = R.ok (t, keep5 ps st m o) := by rw [k1, k2]; exact q1
                refine po_bind (po_eq q1' rfl) fun y hy => ?_
                subst hy
                refine po_app (by omega) (po_extend (by show g.1.length + 1 < 100000; omega) ⟨?_, ?_, ?_⟩)
                · show (g.1 ++ [b]).length ≤ _
                  rw [List.length_append, len1]
                  show g.1.length + 1 ≤ _
                  omega
                · show (g.2.1 ++ [t]).length ≤ _
                  rw [List.length_append, len1]
                  show g.2.1.length + 1 ≤ _
                  omega
                · cases o with
                  | some L => exact .inr ⟨L, rfl, q2 L rfl⟩
                  | none =>
                    obtain ⟨x, x1, x2, x3⟩ := q3 rfl
                    refine .inl ⟨rfl, ?_, xs ++ [x], toTrs_snoc k3 x1, ?_⟩
                    · show g.1 ++ [b] = _
                      rw [el, k2, List.append_assoc]
                    · rw [el]
                      exact k4.snoc x2 x3
              · rw [ec] at c2
                have el : (pre ++ [b]).filter cond = pre.filter cond := by
                  rw [List.filter_append, List.filter_cons, if_neg c2]
                  simp
                exact ⟨by rw [len1]; show g.1.length ≤ _; omega, by rw [len1]; show g.2.1.length ≤ _; omega, .inl ⟨k1, by rw [el]; exact k2, xs, k3, by rw [el]; exact k4⟩⟩
            · refine po_if (fun c2 => ?_) fun c2 => ?_
              · rw [k1, Bool.and_eq_true, Bool.and_eq_true] at c2
                cases c2.2.2
              · exact ⟨by rw [len1]; show g.1.length ≤ _; omega, by rw [len1]; show g.2.1.length ≤ _; omega, .inr ⟨L, k1, k2⟩⟩
          · rcases hg with ⟨k1, k2, xs, k3, k4⟩ | ⟨L, k1, k2⟩
            · exact ⟨none, k1, fun L z => (nomatch z), fun _ => ⟨xs, k3, by rw [if_pos c']; exact k4⟩⟩
            · exact ⟨some L, k1, fun L' z => by cases z; exact k2, fun z => nomatch z⟩
        · have c' : ¬ (w.length : Int) < m := fun z => c (decide_eq_true z)
          exact ⟨none, rfl, fun L z => (nomatch z), fun _ => ⟨[], by rw [toTr.toTrs], by rw [if_neg c']⟩⟩
      obtain ⟨⟨tl, sf⟩, eg, o, k1, k2, k3⟩ := po_ex loop
      have k1' : sf = keep5 ps st m o := k1
      subst k1'
      refine ⟨To.n p.v.1 p.v.2.1 tl, o, ?_, k2, fun z => ?_⟩
      · show (do
          let g25 ← (do
            if (decide ((w.length : Int) < m)) = true then do
              let g28 ← foldR (fun (g28 : (List Int) × (List To) × SearchF) (b28 : Int) => do
                  if ((!inB b28 w) && ((!inB b28 wo) && g28.2.2.2.2.2.1.isNone)) = true then do
                    let l42 ← extend w ([b28] : (List Int))
                    let y47 ← (Search_tree_of d) g28.2.2 l42 g28.1
                    let l49 ← app g28.2.1 y47.1
                    let l54 ← extend g28.1 ([b28] : (List Int))
                    R.ok (l54, l49, y47.2)
                  else do
                    R.ok (g28.1, g28.2.1, g28.2.2)) (wo, ([] : (List To)), keep5 ps st m none) p.v.2.2.1
              R.ok (g28.2.1, g28.2.2)
            else do
              R.ok (([] : (List To)), keep5 ps st m none) : R ((List To) × SearchF))
          R.ok ((To.n p.v.1 p.v.2.1 g25.1), g25.2)) = _
        rw [eg]
        rfl
      · obtain ⟨xs, x1, x2⟩ := k3 z
        refine ⟨.n p.v.1 p.v.2.1 xs, by rw [toTr, x1]; rfl, ?_, ?_⟩
        · unfold caseS
          rw [show (Tr.n p.v.1 p.v.2.1 xs).a = p.v.1 from rfl, show (Tr.n p.v.1 p.v.2.1 xs).b = p.v.2.1 from rfl, show (Tr.n p.v.1 p.v.2.1 xs).ts = xs from rfl]
          show (if ((!inB p.v.1 T) || ((!inB p.v.2.1 T) || (decide (p.v.1 = p.v.2.1)))) = true then false else _) = true
          rw [inB_t.mpr (hps.one p pm), inB_t.mpr (hps.two p pm), decide_eq_false (hps.ne p pm)]
          rw [if_neg (by decide)]
          show (if (decide (st ≤ (((partL n ts p.v.1 p.v.2.1).filter fun b => inB b w).length : Int))) = true then false else _) = true
          rw [if_neg (fun q => by
            have := of_decide_eq_true q
            unfold hits at phit
            rw [hP] at phit
            omega)]
          by_cases c : (w.length : Int) < m
          · rw [if_pos c] at x2
            rw [if_neg (fun q => by have := of_decide_eq_true q; omega)]
            show (if (!decide ((xs.length : Int) = (((partL n ts p.v.1 p.v.2.1).filter fun b => (!inB b w) && (!inB b wo)).length : Int))) = true then false else _) = true
            rw [← hP, hcond]
            rw [if_neg (by rw [x2.1, decide_eq_true rfl]; decide)]
            rw [List.all_eq_true]
            intro i hi
            obtain ⟨i0, i1⟩ := rng_mem.mp hi
            have hi2 : i.toNat < (p.v.2.2.1.filter cond).length := by omega
            obtain ⟨u, u1, u2, _⟩ := x2.2 i.toNat _ (List.getElem?_eq_getElem hi2)
            show caseS n ts T st m d (xs.getD i.toNat (.n (.pl 0) (.pl 0) [])) _ _ = true
            rw [List.getD_eq_getElem?_getD, u1, List.getD_eq_getElem?_getD, List.getElem?_eq_getElem hi2]
            exact u2
          · rw [if_neg c] at x2
            rw [if_pos (decide_eq_true (by omega)), x2]
            rfl
        · intro S s1 s2 s3 s4 s5
          have hS := s5 p pm
          by_cases c : (w.length : Int) < m
          · rw [if_pos c] at x2
            -- some parter is in S, and not within
            have hex : ∃ v ∈ p.v.2.2.1.filter cond, v ∈ S := by
              apply Classical.byContradiction
              intro q
              have hle : hits S p ≤ hits w p := by
                unfold hits
                refine nodup_le ((hps.nd p pm).filter _) fun v hv => ?_
                obtain ⟨a, b⟩ := List.mem_filter.mp hv
                have hvS := inB_t.mp b
                refine List.mem_filter.mpr ⟨a, ?_⟩
                apply Classical.byContradiction
                intro y
                refine q ⟨v, List.mem_filter.mpr ⟨a, ?_⟩, hvS⟩
                rw [← hcond]
                have y1 : inB v w = false := by cases e : inB v w with | true => exact absurd e y | false => rfl
                have y2 : inB v wo = false := inB_f.mpr fun z => s3 v z hvS
                show ((!inB v w) && (!inB v wo)) = true
                rw [y1, y2]
                rfl
              omega
            obtain ⟨i, y, i1, i2, i3⟩ := first_in hex
            obtain ⟨_, _, _, u3⟩ := x2.2 i y i1
            refine u3 S s1 (fun v hv => ?_) (fun v hv => ?_) s4 s5
            · rcases List.mem_append.mp hv with hv | hv
              · exact s2 v hv
              · rw [List.mem_singleton.mp hv]; exact i2
            · rcases List.mem_append.mp hv with hv | hv
              · exact s3 v hv
              · exact i3 v hv
          · -- as many as may be are within
            have hle : hits S p ≤ hits w p := by
              have hsub : ∀ v ∈ S, v ∈ w := all_of_len hw s2 (by omega)
              exact hits_sub hsub
            omega
end
/-- what it tells -/
def FewOk (n : Int) (ts : List (Int × Int)) (k : Str) (st : Int) : Fw → Prop
  | .never a b => ∃ p ∈ partedL n ts k, p.v.1 = a ∧ p.v.2.1 = b ∧ (p.v.2.2.1.length : Int) < st
  | .looks L t => (∃ W : List Int, L = sortI W ∧ W.Nodup ∧ (∀ v ∈ W, 0 ≤ v ∧ v < n) ∧ Strong st W (partedL n ts k)) ∧ (∀ S : List Int, S.Nodup → Strong st S (partedL n ts k) → L.length ≤ S.length) ∧
      (∀ p ∈ partedL n ts k, st ≤ (p.v.2.2.1.length : Int)) ∧ ((L = [] ∧ t = none) ∨ ∃ x, t = some x ∧ 1 ≤ L.length ∧ caseS n ts (kindT n ts k) st ((L.length : Int) - 1) 20 x [] [] = true)
theorem sortI_len (W : List Int) : (sortI W).length = W.length := (sortI_perm W).length_eq
theorem fewest_ok {n : Int} {ts : List (Int × Int)} {k : Str} {st : Int} (h : WebOk n ts) (n8 : n ≤ 8) : ∃ r, fewest_looks (n, ⟨ts⟩) k st = R.ok r ∧ FewOk n ts k st r := by
  have hn1 := h.n1
  have hP := PsOk.of (k := k) h
  have hPl := partedL_len (k := k) h (by omega)
  refine po_ex ?_
  unfold fewest_looks
  refine po_if (fun c => ?_) fun _ => ?_
  · have : (8 : Int) < n := of_decide_eq_true c
    omega
  rw [pairs_of_ok h (by omega), ok_bind]
  refine po_bind (po_foldXP (fun pre _ => ∀ p ∈ pre, st ≤ (p.v.2.2.1.length : Int)) (fun z => FewOk n ts k st z) (fun _ z => nomatch z) ?_) fun r hr => ?_
  · intro pre _ p post e hpre
    refine po_if (fun c => .inl ⟨_, rfl, p, by rw [e]; simp, rfl, rfl, of_decide_eq_true c⟩) fun c => .inr ⟨(), rfl, fun q hq => ?_⟩
    rcases List.mem_append.mp hq with hq | hq
    · exact hpre q hq
    · rw [List.mem_singleton.mp hq]
      have : ¬ (p.v.2.2.1.length : Int) < st := fun z => c (decide_eq_true z)
      omega
  · rcases hr with ⟨z, rfl, hz⟩ | ⟨_, rfl, hall⟩
    · exact hz
    obtain ⟨ls, e1, l1, l2, l3⟩ := leanest_ok hPl (hP.few h.n60)
    have hL : PsOk n ts (kindT n ts k) ls := hP.sub l1
    have up : ∀ {W : List Int}, Strong st W ls → Strong st W (partedL n ts k) := fun {W} hW => strong_lean l2 hL.nd hW
    have down : ∀ {W : List Int}, Strong st W (partedL n ts k) → Strong st W ls := fun {W} hW p hp => hW p (l1 p hp)
    show Post (leanest_pairs (partedL n ts k) >>= _) _ _
    rw [e1, ok_bind]
    refine po_rng (by decide) (by decide) (by show -(2 ^ 62) ≤ n + 1; omega) (by show n + 1 < 2 ^ 62; omega) ?_
    refine po_bind (po_foldXP (fun pre (g : Option Tr) => (∀ S : List Int, S.Nodup → (S.length : Int) < pre.length → ¬ Strong st S ls) ∧ ((pre.length = 0 ∧ g = none) ∨ ∃ x, g = some x ∧ 1 ≤ pre.length ∧ caseS n ts (kindT n ts k) st ((pre.length : Int) - 1) 20 x [] [] = true)) (fun z => FewOk n ts k st z) ⟨fun S _ hS => by have : (S.length : Int) < 0 := hS; omega, .inl ⟨rfl, rfl⟩⟩ ?_) fun r hr => ?_
    · intro pre g m post e ⟨g1, g2⟩
      have hm := rng_pre e
      obtain ⟨_, m0, m1⟩ := rng_split e
      have m1' : m < n + 1 := m1
      have hm' : (pre.length : Int) = m := by omega
      obtain ⟨t, o, q1, q2, q3⟩ := tree_ok (st := st) (m := m) h hL (by omega) 20 [] [] (by show (0 : Int) ≤ m; omega) (by show m - (0 : Int) < 20; omega) (by show 0 ≤ 0; omega) List.nodup_nil fun _ z => nomatch z
      show Post (Search_tree_of 20 (keep5 ls st m none) [] [] >>= _) _ _
      refine po_bind (po_eq q1 rfl) fun y hy => ?_
      subst hy
      cases o with
      | some L =>
        refine po_if (fun _ => ?_) fun c => absurd (show (!(some L : Option (List Int)).isNone) = true from rfl) c
        obtain ⟨W, w1, w2, w3, w4, w5⟩ := q2 L rfl
        have hlen : (L.length : Int) = m := by
          rw [w1, sortI_len]
          apply Classical.byContradiction
          intro z
          exact g1 W w2 (by omega) w5
        refine .inl ⟨Fw.looks L g, rfl, ⟨W, w1, w2, w3, up w5⟩, fun S s1 s2 => ?_, hall, ?_⟩
        · apply Classical.byContradiction
          intro z
          exact g1 S s1 (by omega) (down s2)
        · rcases g2 with ⟨a, b⟩ | ⟨x, a, b, c⟩
          · exact .inl ⟨List.eq_nil_of_length_eq_zero (by omega), b⟩
          · exact .inr ⟨x, a, by omega, by rw [hlen, ← hm']; exact c⟩
      | none =>
        refine po_if (fun c => absurd (show (!true) = true from c) (by decide)) fun _ => ?_
        obtain ⟨x, x1, x2, x3⟩ := q3 rfl
        have ea : asTr t = R.ok (some x) := by
          cases t with
          | no => rw [toTr] at x1; cases x1
          | n a b l =>
            show (match toTr (.n a b l) with
              | some x => R.ok (some x)
              | none => R.bad) = _
            rw [x1]
        show Post (asTr t >>= _) _ _
        rw [ea, ok_bind]
        refine .inr ⟨some x, rfl, fun S s1 s2 => ?_, .inr ⟨x, rfl, ?_, ?_⟩⟩
        · rw [List.length_append, List.length_singleton] at s2
          exact x3 S s1 (fun _ z => nomatch z) (fun _ z => nomatch z) (by omega)
        · rw [List.length_append]; exact Nat.le_add_left _ _
        · rw [List.length_append, List.length_singleton, show (((pre.length + 1 : Nat) : Int) - 1) = m by omega]
          exact x2
    · rcases hr with ⟨z, rfl, hz⟩ | ⟨g, rfl, hg1, _⟩
      · exact hz
      exfalso
      refine hg1 (rng 0 n) (rng_nodup 0 n) ?_ fun p hp => ?_
      · rw [rng_length, rng_length]
        show ((n - 0).toNat : Int) < ((n + 1 - 0).toNat : Int)
        omega
      · have e : hits (rng 0 n) p = p.v.2.2.1.length := by
          unfold hits
          rw [List.filter_eq_self.mpr]
          intro v hv
          rw [hL.par p hp] at hv
          exact inB_t.mpr (rng_mem.mpr (partL_mem.mp hv).1)
        rw [e]
        exact hall p (l1 p hp)
end G
namespace G
open PySem L2 Z
/-! ### sets as bits -/
/-- the places of a set -/
def placesB (m x : Nat) : List Int := (rng 0 (m : Int)).filter fun i => x.testBit i.toNat
def cntL : Nat → List Int
  | 0 => [0]
  | k + 1 => cntL k ++ (cntL k).map fun b => b + 1
theorem cntL_len : ∀ k, (cntL k).length = 2 ^ k
  | 0 => rfl
  | k + 1 => by
    show (cntL k ++ (cntL k).map fun b => b + 1).length = _
    rw [List.length_append, List.length_map, cntL_len k, Nat.pow_succ]
    omega
theorem bit_top {k x : Nat} (h : x < 2 ^ k) : x.testBit k = false := Nat.testBit_lt_two_pow h
theorem rng_up (k : Nat) : rng 0 ((k + 1 : Nat) : Int) = rng 0 (k : Int) ++ [(k : Int)] := by
  show rng 0 ((k : Int) + 1) = _
  exact rng_snoc (i := 0) (j := (k : Int)) (by omega)
theorem places_lo {k x : Nat} (h : x < 2 ^ k) : placesB (k + 1) x = placesB k x := by
  unfold placesB
  rw [rng_up, List.filter_append, List.filter_cons, if_neg (by rw [Int.toNat_natCast, bit_top h]; decide)]
  simp
theorem places_hi {k x : Nat} (h : x < 2 ^ k) : placesB (k + 1) (2 ^ k + x) = placesB k x ++ [(k : Int)] := by
  unfold placesB
  rw [rng_up, List.filter_append, List.filter_cons, if_pos (by rw [Int.toNat_natCast, Nat.testBit_two_pow_add_eq, bit_top h]; rfl)]
  congr 1
  refine List.filter_congr fun i hi => ?_
  obtain ⟨i0, i1⟩ := rng_mem.mp hi
  exact Nat.testBit_two_pow_add_gt (by omega) x
theorem cnt_get : ∀ {k x : Nat}, x < 2 ^ k → (cntL k)[x]? = some ((placesB k x).length : Int)
  | 0, x, h => by
    have : x = 0 := by simpa using h
    subst this
    rfl
  | k + 1, x, h => by
    show (cntL k ++ (cntL k).map fun b => b + 1)[x]? = _
    by_cases c : x < 2 ^ k
    · rw [List.getElem?_append_left (by rw [cntL_len]; exact c), cnt_get c, places_lo c]
    · obtain ⟨y, rfl⟩ : ∃ y, x = 2 ^ k + y := ⟨x - 2 ^ k, by omega⟩
      have hy : y < 2 ^ k := by rw [Nat.pow_succ] at h; omega
      rw [List.getElem?_append_right (by rw [cntL_len]; omega), cntL_len, Nat.add_sub_cancel_left, List.getElem?_map, cnt_get hy, places_hi hy, List.length_append]
      rfl
def maskI (l : List Int) : Int := (l.map fun p => (1 : Int) * 2 ^ p.toNat).sum
theorem mask_spec : ∀ (m : Nat) (q : Int → Bool), ∃ y : Nat, y < 2 ^ m ∧ maskI ((rng 0 (m : Int)).filter q) = (y : Int) ∧ ∀ i : Nat, i < m → y.testBit i = q (i : Int)
  | 0, q => ⟨0, by decide, rfl, fun i hi => absurd hi (by omega)⟩
  | k + 1, q => by
    obtain ⟨y, y1, y2, y3⟩ := mask_spec k q
    have hp : 2 ^ (k + 1) = 2 ^ k + 2 ^ k := by rw [Nat.pow_succ]; omega
    by_cases c : q (k : Int) = true
    · refine ⟨2 ^ k + y, by omega, ?_, fun i hi => ?_⟩
      · unfold maskI at y2 ⊢
        rw [rng_up, List.filter_append, List.filter_cons, if_pos c, List.map_append, List.sum_append, y2]
        show (y : Int) + ((1 : Int) * 2 ^ (k : Int).toNat + 0) = _
        rw [Int.toNat_natCast, Int.natCast_add, Int.natCast_pow]
        show (y : Int) + (1 * 2 ^ k + 0) = 2 ^ k + (y : Int)
        omega
      · by_cases e : i = k
        · subst e
          rw [Nat.testBit_two_pow_add_eq, bit_top y1, c]
          rfl
        · rw [Nat.testBit_two_pow_add_gt (by omega) y]
          exact y3 i (by omega)
    · refine ⟨y, by omega, ?_, fun i hi => ?_⟩
      · rw [rng_up, List.filter_append, List.filter_cons, if_neg c]
        show maskI (_ ++ []) = _
        rw [List.append_nil]
        exact y2
      · by_cases e : i = k
        · subst e
          rw [bit_top y1]
          cases e2 : q (i : Int) with
          | true => exact absurd e2 c
          | false => rfl
        · exact y3 i (by omega)
theorem in_places {m x : Nat} {i : Int} (h : i ∈ rng 0 (m : Int)) : inB i (placesB m x) = x.testBit i.toNat := by
  cases e : x.testBit i.toNat with
  | true => exact inB_t.mpr (List.mem_filter.mpr ⟨h, e⟩)
  | false =>
    refine inB_f.mpr fun z => ?_
    have := (List.mem_filter.mp z).2
    rw [e] at this
    cases this
theorem and_hits {m x y : Nat} {q : Int → Bool} {p : Part} (hy : ∀ i : Nat, i < m → y.testBit i = q (i : Int)) (hp : p.v.2.2.1 = (rng 0 (m : Int)).filter q) : (placesB m (y &&& x)).length = hits (placesB m x) p := by
  unfold hits
  rw [hp, List.filter_filter]
  unfold placesB
  congr 1
  refine List.filter_congr fun i hi => ?_
  have e := in_places (x := x) hi
  unfold placesB at e
  obtain ⟨i0, i1⟩ := rng_mem.mp hi
  rw [Nat.testBit_and, e, hy i.toNat (by omega), Int.toNat_of_nonneg i0, Bool.and_comm]
theorem bitAnd_nat (y x : Nat) : Builtin.bitAnd (y : Int) (x : Int) = ((y &&& x : Nat) : Int) := by
  unfold Builtin.bitAnd
  rw [decide_eq_true (show (0 : Int) ≤ (y : Int) by omega), decide_eq_true (show (0 : Int) ≤ (x : Int) by omega)]
  show (((y : Int).toNat &&& (x : Int).toNat : Nat) : Int) = _
  rw [Int.toNat_natCast, Int.toNat_natCast]
theorem law_fewest_ok {m : Nat} {ts : Tup (Int × Int)} {ps : List Part} {st : Int} (m8 : m ≤ 8) (hl : ps.length ≤ 24336) (hq : ∀ p ∈ ps, ∃ q : Int → Bool, p.v.2.2.1 = (rng 0 (m : Int)).filter q) :
    ∃ o, law_fewest ((m : Int), ts) ps st = R.ok o ∧ (o = none → ∀ x, x < 2 ^ m → ¬ Strong st (placesB m x) ps) ∧
      ∀ c, o = some c → (∃ x, x < 2 ^ m ∧ Strong st (placesB m x) ps ∧ c = ((placesB m x).length : Int)) ∧ ∀ x, x < 2 ^ m → Strong st (placesB m x) ps → c ≤ ((placesB m x).length : Int) := by
  have pow8 : ∀ k, k ≤ 8 → 2 ^ k ≤ 256 := fun k hk => Nat.pow_le_pow_right (n := 2) (by decide) hk
  refine po_ex ?_
  unfold law_fewest
  refine po_rng (by decide) (by decide) (by show -(2 ^ 62) ≤ (m : Int); omega) (by show (m : Int) < 2 ^ 62; omega) ?_
  refine po_bind (Q := fun g => g = cntL m) (Post.mono (po_foldP (fun pre g => g = cntL pre.length) rfl ?_) (fun g hg => by rw [hg, rng_length, show ((m : Int) - 0).toNat = m by omega]) fun _ z => z) fun g7 h7 => ?_
  · intro pre g x post e hg
    have hpre : pre.length + 1 ≤ 8 := by
      have := congrArg List.length e
      rw [rng_length, List.length_append, List.length_cons] at this
      have e2 : ((m : Int) - 0).toNat = m := by omega
      have this' : ((m : Int) - 0).toNat = pre.length + (post.length + 1) := this
      omega
    have h1 := pow8 pre.length (by omega)
    have h2 := cntL_len pre.length
    refine po_mapGE (g := fun b => b + (1 : Int)) (by rw [hg]; omega) (fun _ _ => rfl) ?_
    refine po_extend (by rw [List.length_map, hg]; omega) ?_
    rw [List.length_append, List.length_singleton, hg]
    rfl
  · subst h7
    have hcl := cntL_len m
    have hcm := pow8 m m8
    refine po_bind (Q := fun g : List Int => (∀ v, v ∈ g ↔ ∃ p ∈ ps, v = maskI p.v.2.2.1) ∧ g.length ≤ 24336) (Post.mono (po_foldP (fun pre (g : List Int) => (∀ v, v ∈ g ↔ ∃ p ∈ pre, v = maskI p.v.2.2.1) ∧ g.length ≤ pre.length) ⟨fun v => ⟨fun z => (nomatch z), fun ⟨_, z, _⟩ => (nomatch z)⟩, Nat.le_refl _⟩ ?_) (fun g hg => ⟨hg.1, Nat.le_trans hg.2 hl⟩) fun _ z => z) fun g21 ⟨h21, l21⟩ => ?_
    · intro pre g p post e ⟨g1, g2⟩
      have hpre : pre.length + 1 ≤ 24336 := by
        have := congrArg List.length e
        rw [List.length_append, List.length_cons] at this
        omega
      obtain ⟨q, hpq⟩ := hq p (by rw [e]; simp)
      have pl : p.v.2.2.1.length ≤ 8 := by
        rw [hpq]
        refine Nat.le_trans (List.length_filter_le _ _) ?_
        rw [rng_length]
        omega
      refine po_mapGE (g := fun b => (1 : Int) * 2 ^ b.toNat) (by omega) (fun b hb => ?_) ?_
      · have hb' : b ∈ (rng 0 (m : Int)).filter q := hpq ▸ hb
        obtain ⟨b0, b1⟩ := rng_mem.mp (List.mem_filter.mp hb').1
        have cp : CPow 1 b := ⟨b0, by omega, by decide⟩
        unfold shlR
        rw [if_pos cp]
        rfl
      · have keep : ∀ v, (v ∈ g ∨ v = maskI p.v.2.2.1) ↔ ∃ r ∈ pre ++ [p], v = maskI r.v.2.2.1 := fun v => by
          rw [g1 v]
          constructor
          · rintro (⟨r, hr, e⟩ | e)
            · exact ⟨r, List.mem_append_left _ hr, e⟩
            · exact ⟨p, by simp, e⟩
          · rintro ⟨r, hr, e⟩
            rcases List.mem_append.mp hr with hr | hr
            · exact .inl ⟨r, hr, e⟩
            · rw [List.mem_singleton.mp hr] at e
              exact .inr e
        have len1 : (pre ++ [p]).length = pre.length + 1 := by rw [List.length_append]; rfl
        refine po_if (fun c => po_app (by omega) ⟨fun v => ?_, ?_⟩) fun c => ⟨fun v => ?_, ?_⟩
        · rw [← keep v, List.mem_append, List.mem_singleton]
          exact Iff.rfl
        · rw [List.length_append, len1]
          show g.length + 1 ≤ _
          omega
        · rw [← keep v]
          refine ⟨.inl, fun z => ?_⟩
          rcases z with z | z
          · exact z
          · cases e3 : inB (maskI p.v.2.2.1) g with
            | true => rw [z]; exact inB_t.mp e3
            | false => exact absurd (show (!inB (maskI p.v.2.2.1) g) = true by rw [e3]; rfl) c
        · rw [len1]
          show g.length ≤ _
          omega
    · refine po_rng (by decide) (by decide) (by show -(2 ^ 62) ≤ ((cntL m).length : Int); omega) (by show ((cntL m).length : Int) < 2 ^ 62; omega) ?_
      have hlr : (rng 0 ((cntL m).length : Int)).length = 2 ^ m := by rw [rng_length, hcl]; omega
      refine po_bind (po_foldP (fun pre (o : Option Int) => (o = none → ∀ x, x < pre.length → ¬ Strong st (placesB m x) ps) ∧ ∀ c, o = some c → (∃ x, x < pre.length ∧ Strong st (placesB m x) ps ∧ c = ((placesB m x).length : Int)) ∧ ∀ x, x < pre.length → Strong st (placesB m x) ps → c ≤ ((placesB m x).length : Int)) ⟨fun _ x hx => absurd hx (by show ¬ x < 0; omega), fun c z => nomatch z⟩ ?_) fun o ho => ?_
      · intro pre o b post e ⟨o1, o2⟩
        obtain ⟨_, b0, b1⟩ := rng_split e
        have hb := rng_pre e
        have b1' : b < ((cntL m).length : Int) := b1
        obtain ⟨x, rfl⟩ : ∃ x : Nat, b = (x : Int) := ⟨b.toNat, by omega⟩
        have hx : pre.length = x := by omega
        have hx2 : x < 2 ^ m := by omega
        have ec : getI (cntL m) (x : Int) = R.ok ((placesB m x).length : Int) := getI_eq (by omega) (by rw [Int.toNat_natCast]; exact cnt_get hx2)
        have len1 : (pre ++ [(x : Int)]).length = x + 1 := by rw [List.length_append, hx]; rfl
        have skip : (Strong st (placesB m x) ps → ∃ c, o = some c ∧ c ≤ ((placesB m x).length : Int)) → ((o = none → ∀ y, y < (pre ++ [(x : Int)]).length → ¬ Strong st (placesB m y) ps) ∧ ∀ c, o = some c → (∃ y, y < (pre ++ [(x : Int)]).length ∧ Strong st (placesB m y) ps ∧ c = ((placesB m y).length : Int)) ∧ ∀ y, y < (pre ++ [(x : Int)]).length → Strong st (placesB m y) ps → c ≤ ((placesB m y).length : Int)) := fun hs => by
          rw [len1]
          rw [hx] at o1 o2
          refine ⟨fun z y hy hS => ?_, fun c z => ⟨?_, fun y hy hS => ?_⟩⟩
          · by_cases ey : y = x
            · subst ey
              obtain ⟨c, hc, _⟩ := hs hS
              rw [z] at hc
              cases hc
            · exact o1 z y (by omega) hS
          · obtain ⟨y, y1, y2, y3⟩ := (o2 c z).1
            exact ⟨y, by omega, y2, y3⟩
          · by_cases ey : y = x
            · subst ey
              obtain ⟨c', hc, h'⟩ := hs hS
              rw [z] at hc
              cases hc
              exact h'
            · exact (o2 c z).2 y (by omega) hS
        refine po_bind (Q := fun j => j = true ↔ ∀ c, o = some c → ((placesB m x).length : Int) < c) ?_ fun j hj => ?_
        · cases o with
          | none => exact po_if (fun _ => ⟨fun _ c z => (nomatch z), fun _ => rfl⟩) fun c => absurd rfl c
          | some c =>
            refine po_if (fun z => absurd (show (false : Bool) = true from z) (by decide)) fun _ => ?_
            rw [ec, ok_bind]
            show Post (R.ok (decide (((placesB m x).length : Int) < c))) _ _
            exact ⟨fun z c' e' => by cases e'; exact of_decide_eq_true z, fun z => decide_eq_true (z c rfl)⟩
        · refine po_if (fun cj => ?_) fun cj => ?_
          · refine po_mapGE (g := fun b => decide (st ≤ (cntL m).getD (Builtin.bitAnd b (x : Int)).toNat 0)) (by omega) (fun b hb => ?_) ?_
            · obtain ⟨p, hp, rfl⟩ := (h21 b).mp hb
              obtain ⟨q, hpq⟩ := hq p hp
              obtain ⟨y, y1, y2, y3⟩ := mask_spec m q
              rw [hpq, y2, bitAnd_nat]
              have hxy : y &&& x < 2 ^ m := Nat.and_lt_two_pow _ hx2
              rw [getI_eq (x := ((placesB m (y &&& x)).length : Int)) (by omega) (by rw [Int.toNat_natCast]; exact cnt_get hxy), ok_bind, Int.toNat_natCast, List.getD_eq_getElem?_getD, cnt_get hxy]
              rfl
            · have hall : ((g21.map fun b => decide (st ≤ (cntL m).getD (Builtin.bitAnd b (x : Int)).toNat 0)).all id) = true ↔ Strong st (placesB m x) ps := by
                have one : ∀ p ∈ ps, (decide (st ≤ (cntL m).getD (Builtin.bitAnd (maskI p.v.2.2.1) (x : Int)).toNat 0) = true ↔ st ≤ (hits (placesB m x) p : Int)) := fun p hp => by
                  obtain ⟨q, hpq⟩ := hq p hp
                  obtain ⟨y, y1, y2, y3⟩ := mask_spec m q
                  have hxy : y &&& x < 2 ^ m := Nat.and_lt_two_pow _ hx2
                  rw [← and_hits (x := x) y3 hpq, hpq, y2, bitAnd_nat, Int.toNat_natCast, List.getD_eq_getElem?_getD, cnt_get hxy]
                  exact decide_eq_true_iff
                rw [List.all_map, List.all_eq_true]
                constructor
                · intro z p hp
                  exact (one p hp).mp (z _ ((h21 _).mpr ⟨p, hp, rfl⟩))
                · intro z b hb
                  obtain ⟨p, hp, rfl⟩ := (h21 b).mp hb
                  exact (one p hp).mpr (z p hp)
              refine po_if (fun ca => ?_) fun ca => ?_
              · have hS := hall.mp ca
                rw [ec, ok_bind]
                have hlt := hj.mp cj
                refine ⟨fun z => (nomatch z), fun c z => ?_⟩
                cases z
                rw [len1]
                rw [hx] at o1 o2
                refine ⟨⟨x, by omega, hS, rfl⟩, fun y hy hSy => ?_⟩
                by_cases ey : y = x
                · subst ey
                  exact Int.le_refl _
                · cases o with
                  | none => exact absurd hSy (o1 rfl y (by omega))
                  | some c =>
                    have h1 := (o2 c rfl).2 y (by omega) hSy
                    have h2 := hlt c rfl
                    omega
              · exact skip fun z => absurd (hall.mpr z) ca
          · refine skip fun _ => ?_
            cases o with
            | none => exact absurd (hj.mpr fun c z => nomatch z) cj
            | some c =>
              refine ⟨c, rfl, ?_⟩
              apply Classical.byContradiction
              intro z
              exact cj (hj.mpr fun c' e' => by cases e'; omega)
      · rw [hlr] at ho
        exact ho
end G
namespace G
open PySem L2 Z
/-! ### trees are not too deep to be compared -/
theorem trDs_depth {b : Nat} : ∀ (ts : List Tr), (∀ t ∈ ts, (trDt t).depth ≤ b) → PyData.depthAll (trDs ts) ≤ b
  | [], _ => by
    rw [trDs]
    exact Nat.zero_le _
  | t :: ts, h => by
    have h1 := h t (List.mem_cons_self ..)
    have h2 := trDs_depth ts fun u hu => h u (List.mem_cons_of_mem _ hu)
    rw [trDs]
    show max (trDt t).depth (PyData.depthAll (trDs ts)) ≤ b
    omega
theorem thing_dep (a : Thing) : (Dat.toD a).depth ≤ 1 := Dat.dep a
theorem caseS_kids {n : Int} {ts : List (Int × Int)} {T : List Thing} {st m : Int} {d : Nat} {a b : Thing} {us : List Tr} {w wo : List Int} (h : caseS n ts T st m (d + 1) (.n a b us) w wo = true) : ∀ u ∈ us, ∃ w' wo', caseS n ts T st m d u w' wo' = true := by
  intro u hu
  unfold caseS at h
  split at h
  · cases h
  · split at h
    · cases h
    · split at h
      · have h' : us.isEmpty = true := h
        rw [List.isEmpty_iff.mp h'] at hu
        cases hu
      · split at h
        · cases h
        · rename_i c
          have c' : (us.length : Int) = (((partL n ts a b).filter fun b => (!inB b w) && (!inB b wo)).length : Int) := by
            apply Classical.byContradiction
            intro z
            refine c ?_
            show (!decide ((us.length : Int) = (((partL n ts a b).filter fun b => (!inB b w) && (!inB b wo)).length : Int))) = true
            rw [decide_eq_false z]
            rfl
          obtain ⟨i, hi, rfl⟩ := List.getElem_of_mem hu
          have hm : (i : Int) ∈ rng 0 (((partL n ts a b).filter fun b => (!inB b w) && (!inB b wo)).length : Int) := rng_mem.mpr ⟨by omega, by omega⟩
          have h2 := List.all_eq_true.mp h (i : Int) hm
          have e : us.getD (i : Int).toNat (.n (.pl 0) (.pl 0) []) = us[i] := by
            rw [Int.toNat_natCast, List.getD_eq_getElem?_getD, List.getElem?_eq_getElem hi]
            rfl
          have h3 : caseS n ts T st m d (us.getD (i : Int).toNat (.n (.pl 0) (.pl 0) [])) _ _ = true := h2
          rw [e] at h3
          exact ⟨_, _, h3⟩
theorem caseS_depth {n : Int} {ts : List (Int × Int)} {T : List Thing} {st m : Int} : ∀ (d : Nat) (t : Tr) (w wo : List Int), caseS n ts T st m d t w wo = true → (trDt t).depth ≤ 2 * d
  | 0, t, w, wo, h => by
    unfold caseS at h
    cases h
  | d + 1, .n a b us, w, wo, h => by
    have hk := caseS_kids h
    have h1 := trDs_depth (b := 2 * d) us fun u hu => by
      obtain ⟨w', wo', hc⟩ := hk u hu
      exact caseS_depth d u w' wo' hc
    have ha := thing_dep a
    have hb := thing_dep b
    rw [trDt]
    show max (Dat.toD a).depth (max (Dat.toD b).depth (max (PyData.depthAll (trDs us) + 1) 0)) + 1 ≤ 2 * (d + 1)
    omega
theorem never_dep (a b : Thing) : (fwDt (.never a b)).depth ≤ 48 := by
  have ha := thing_dep a
  have hb := thing_dep b
  unfold fwDt
  show max 0 (max (Dat.toD a).depth (max (Dat.toD b).depth 0)) + 1 ≤ 48
  omega
theorem ints_dep (l : List Int) : (Dat.toD l).depth ≤ 1 := Dat.dep l
theorem few_dep {n : Int} {ts : List (Int × Int)} {k : Str} {st : Int} {r : Fw} (h : FewOk n ts k st r) : (fwDt r).depth ≤ 48 := by
  cases r with
  | never a b => exact never_dep a b
  | looks l t =>
    have hl := ints_dep l
    obtain ⟨_, _, _, h4⟩ := h
    have ht : (otDt t).depth ≤ 40 := by
      rcases h4 with ⟨_, rfl⟩ | ⟨x, rfl, _, hx⟩
      · exact Nat.zero_le _
      · exact caseS_depth 20 x [] [] hx
    unfold fwDt
    show max 0 (max (Dat.toD l).depth (max (otDt t).depth 0)) + 1 ≤ 48
    omega
theorem fwS_ok {x : Fw} (h : (fwDt x).depth ≤ 48) : fwS x = R.ok ⟨x, h⟩ := dif_pos h
/-! ### the law's check -/
theorem sort_fil {m : Nat} {W : List Int} (hw : W.Nodup) (hr : ∀ v ∈ W, 0 ≤ v ∧ v < (m : Int)) : sortI W = (rng 0 (m : Int)).filter fun b => inB b (sortI W) := by
  refine (sortI_eq ?_ ?_).symm
  · refine perm_nodup ((rng_nodup 0 _).filter _) hw fun x => ?_
    rw [List.mem_filter, rng_mem]
    constructor
    · rintro ⟨_, hx⟩
      exact sortI_mem.mp (inB_t.mp hx)
    · intro hx
      exact ⟨hr x hx, inB_t.mpr (sortI_mem.mpr hx)⟩
  · exact ((rng_sorted 0 _).sublist List.filter_sublist).imp fun h => Int.le_of_lt h
theorem law_right_ok {m : Nat} {ts : List (Int × Int)} {k : Str} {st : Int} {r : Fw} (h : WebOk (m : Int) ts) (m8 : m ≤ 8) (s1 : 1 ≤ st) (hr : FewOk (m : Int) ts k st r) : law_right ((m : Int), ⟨ts⟩) (partedL (m : Int) ts k) st r = R.ok true := by
  have hP := PsOk.of (k := k) h
  have hPl := partedL_len (k := k) h (by omega)
  have hd := few_dep hr
  obtain ⟨o, eo, o1, o2⟩ := law_fewest_ok (ts := ⟨ts⟩) (st := st) m8 hPl fun p hp => ⟨_, hP.par p hp⟩
  refine po_iff ?_
  unfold law_right
  rw [eo, ok_bind]
  refine po_if (fun c => absurd c (by decide)) fun _ => ?_
  cases r with
  | never a b =>
    obtain ⟨p, hp, rfl, rfl, hlt⟩ := hr
    have on : o = none := by
      cases o with
      | none => rfl
      | some c =>
        obtain ⟨⟨x, x1, x2, _⟩, _⟩ := o2 c rfl
        have h1 := x2 p hp
        have h2 := hits_le (placesB m x) p
        omega
    subst on
    refine po_if (fun _ => ?_) fun c => absurd rfl c
    refine po_bind (po_foldXP (fun pre _ => ∀ q ∈ pre, Fw.never p.v.1 p.v.2.1 ≠ Fw.never q.v.1 q.v.2.1) (fun z => z = true) (fun _ z => nomatch z) ?_) fun r hr => ?_
    · intro pre _ q post e hpre
      have hq : q ∈ partedL (m : Int) ts k := by rw [e]; simp
      rw [fwS_ok hd, ok_bind, fwS_ok (never_dep q.v.1 q.v.2.1), ok_bind]
      refine po_if (fun c => .inl ⟨_, rfl, ?_⟩) fun c => .inr ⟨(), rfl, fun q' hq' => ?_⟩
      · have e1 := congrArg FwS.p (of_decide_eq_true c)
        have e2 : Fw.never p.v.1 p.v.2.1 = Fw.never q.v.1 q.v.2.1 := e1
        injection e2 with e3 e4
        have e5 : q.v.2.2.1 = p.v.2.2.1 := by rw [hP.par q hq, hP.par p hp, e3, e4]
        rw [e5]
        exact decide_eq_true hlt
      · rcases List.mem_append.mp hq' with hq' | hq'
        · exact hpre q' hq'
        · rw [List.mem_singleton.mp hq']
          intro z
          refine c (decide_eq_true ?_)
          cases z' : (⟨Fw.never q.v.1 q.v.2.1, never_dep q.v.1 q.v.2.1⟩ : FwS) with
          | mk y hy =>
            have e6 : Fw.never q.v.1 q.v.2.1 = y := congrArg FwS.p z'
            subst e6
            congr 1
    · rcases hr with ⟨z, rfl, hz⟩ | ⟨_, rfl, hall⟩
      · exact hz
      · exact absurd rfl (hall p hp)
  | looks L t =>
    obtain ⟨⟨V, w1, w2, w3, w4⟩, hmin, hall, h4⟩ := hr
    obtain ⟨y, y1, _, y3⟩ := mask_spec m (fun i => inB i V)
    have hpl : ∀ v, v ∈ placesB m y ↔ v ∈ V := fun v => by
      unfold placesB
      rw [List.mem_filter]
      constructor
      · rintro ⟨hv, hb⟩
        obtain ⟨v0, v1⟩ := rng_mem.mp hv
        have hb' : y.testBit v.toNat = true := hb
        rw [y3 v.toNat (by omega), Int.toNat_of_nonneg v0] at hb'
        exact inB_t.mp hb'
      · intro hv
        obtain ⟨v0, v1⟩ := w3 v hv
        refine ⟨rng_mem.mpr ⟨v0, v1⟩, ?_⟩
        show y.testBit v.toNat = true
        rw [y3 v.toNat (by omega), Int.toNat_of_nonneg v0]
        exact inB_t.mpr hv
    have hSy : Strong st (placesB m y) (partedL (m : Int) ts k) := fun p hp => by
      have a1 := w4 p hp
      have a2 := hits_sub (p := p) (W := V) (S := placesB m y) fun v hv => (hpl v).mpr hv
      omega
    have nd : ∀ x, (placesB m x).Nodup := fun x => (rng_nodup 0 _).filter _
    have hlen : (placesB m y).length = V.length := nodup_len (nd y) w2 hpl
    have hLV : L.length = V.length := by rw [w1, sortI_len]
    have hL8 : L.length ≤ 8 := by
      have a1 : (placesB m y).length ≤ (rng 0 (m : Int)).length := List.length_filter_le _ _
      rw [rng_length] at a1
      omega
    obtain ⟨c, rfl⟩ : ∃ c, o = some c := by
      cases o with
      | none => exact absurd hSy (o1 rfl y y1)
      | some c => exact ⟨c, rfl⟩
    have ec : (L.length : Int) = c := by
      obtain ⟨⟨x, x1, x2, x3⟩, hc⟩ := o2 c rfl
      have a1 := hc y y1 hSy
      have a2 := hmin _ (nd x) x2
      omega
    refine po_if (fun z => absurd (show (false : Bool) = true from z) (by decide)) fun _ => ?_
    show Post (R.ok (L, t) >>= _) _ _
    rw [ok_bind]
    refine po_if (fun z => ?_) fun _ => ?_
    · have z' : ((!decide (("looks" : Str) = ("looks" : Str))) || ((!true) || (!decide ((some (L.length : Int)) = some c)))) = true := z
      rw [decide_eq_true (show (some (L.length : Int)) = some c by rw [ec])] at z'
      exact absurd z' (by decide)
    · refine po_rng (by decide) (by decide) (by show -(2 ^ 62) ≤ (m : Int); omega) (by show (m : Int) < 2 ^ 62; omega) ?_
      refine po_filB (P := fun b => inB b L) (by rw [rng_length]; show ((m : Int) - 0).toNat < _; omega) ?_
      have eL : L = (rng 0 (m : Int)).filter fun b => inB b L := by
        have := sort_fil w2 w3
        rw [← w1] at this
        exact this
      refine po_if (fun z => ?_) fun _ => ?_
      · have z' : (!decide (L = (rng 0 (m : Int)).filter fun b => inB b L)) = true := z
        rw [decide_eq_true eL] at z'
        cases z'
      · refine po_mapGE (g := fun _ => true) (by show L.length < _; omega) (fun _ _ => rfl) ?_
        refine po_if (fun z => ?_) fun _ => ?_
        · have z' : (!((L.map fun _ => true).all id)) = true := z
          have e : ((L.map fun _ => true).all id) = true := by
            rw [List.all_eq_true]
            intro x hx
            obtain ⟨_, _, rfl⟩ := List.mem_map.mp hx
            rfl
          rw [e] at z'
          cases z'
        · refine po_bind (po_foldXP (fun _ _ => True) (fun _ => False) trivial ?_) fun r hr => ?_
          · intro pre _ p post e _
            have hp : p ∈ partedL (m : Int) ts k := by rw [e]; simp
            refine po_filB (P := fun b => inB b L) (by have := hP.few h.n60 p hp; omega) ?_
            refine po_if (fun z => ?_) fun _ => .inr ⟨(), rfl, trivial⟩
            have z' : (hits L p : Int) < st := of_decide_eq_true z
            have a1 := w4 p hp
            have a2 := hits_sub (p := p) (W := V) (S := L) fun v hv => by rw [w1]; exact sortI_mem.mpr hv
            omega
          · rcases hr with ⟨z, rfl, hz⟩ | ⟨_, rfl, _⟩
            · exact hz.elim
            · show decide (t.isNone = decide (partedL (m : Int) ts k = [])) = true
              refine decide_eq_true ?_
              rcases h4 with ⟨rfl, rfl⟩ | ⟨x, rfl, hx, _⟩
              · show true = _
                refine (decide_eq_true ?_).symm
                cases ep : partedL (m : Int) ts k with
                | nil => rfl
                | cons p l =>
                  have hp : p ∈ partedL (m : Int) ts k := by rw [ep]; simp
                  have a1 := w4 p hp
                  have eV : V = [] := List.eq_nil_of_length_eq_zero (by rw [← hLV]; rfl)
                  have a2 : hits V p = 0 := by
                    rw [eV]
                    unfold hits
                    rw [List.filter_eq_nil_iff.mpr fun b _ z => absurd (inB_t.mp z) (by simp)]
                    rfl
                  omega
              · show false = _
                refine (decide_eq_false fun z => ?_).symm
                have a1 := hmin [] List.nodup_nil (by rw [z]; exact fun p hp => nomatch hp)
                have a2 : L.length ≤ 0 := a1
                omega
/-! ### refused -/
theorem isC_t {tn : List Str} {c : Str} {i : Int} {b : Bool} (h : c ∈ names) (hb : decide (c ∈ tn) = b) : isC names tn ⟨c, i⟩ = R.ok b := by
  unfold isC
  rw [if_pos h, hb]
theorem try_exc {α : Type} {c : Str} {i : Int} {h : Exn → R α} (hc : c ∈ names) : tryWith names (R.exc ⟨c, i⟩) h = h ⟨c, i⟩ := by
  unfold tryWith
  exact if_pos hc
theorem many_in : ("TooMany" : Str) ∈ names := by decide +kernel
theorem refused_ok {n st : Int} {ts : Tup (Int × Int)} {k : Str} (h9 : 9 ≤ n) : law_refused (n, ts) k st = R.ok true := by
  have e0 : fewest_looksX (n, ts) k st = R.exc ⟨"TooMany", 0⟩ := by
    unfold fewest_looksX
    exact if_pos (decide_eq_true (show (8 : Int) < n by omega))
  refine po_iff ?_
  unfold law_refused
  rw [e0]
  show Post (tryWith names (R.exc ⟨"TooMany", 0⟩) _ >>= _) _ _
  rw [try_exc many_in, isC_t (tn := [("TooMany" : Str)]) (b := true) many_in (by decide +kernel), isC_t (tn := []) (b := false) many_in (by decide +kernel)]
  refine po_bind (Q := fun g => g = [true, true]) ?_ fun g h => by
    subst h
    exact decide_eq_true rfl
  show Post (app ([] : List Bool) true >>= fun l => app l (!false) >>= fun l' => R.ok l') _ _
  refine po_app (by show 0 < 100000; decide) ?_
  exact po_app (k := fun l => R.ok l) (by show 1 < 100000; decide) rfl
theorem of_eq : fewest_looksO = fewest_looks := rfl
theorem law_true (ns : List Int) (h : ns.length ≤ 63) : law ⟨ns⟩ = R.ok true := by
  refine po_iff ?_
  unfold law
  refine po_bind (purse_ok (by decide) (by decide)) fun y2 h2 => po_bind (take_ok h2 (by decide) (by decide)) fun y7 ⟨a0, a1, h7⟩ => po_get a0 a1 fun t8 m8 _ => po_bind (take_ok h7 (by decide) (by decide)) fun y13 ⟨b0, b1, h13⟩ => po_get b0 b1 fun t14 m14 _ => ?_
  have k3 : t8 = "places" ∨ t8 = "ties" ∨ t8 = "all" := by simpa using m8
  have e14 : t14 = 1 ∨ t14 = 3 ∨ t14 = 9 := by simpa using m14
  refine po_bind (take_ok h13 (by omega) (by omega)) fun y15 ⟨c0, c1, h15⟩ => ?_
  refine po_bind (Q := fun (g : Int × Int × List Int) => 1 ≤ g.1 ∧ g.1 ≤ g.2.1 ∧ g.2.1 ≤ 8) (po_bind (take_ok h15 (by decide) (by decide)) fun y18 _ => po_if (fun _ => ⟨show (1 : Int) ≤ 8 by decide, show (8 : Int) ≤ 8 by decide, show (8 : Int) ≤ 8 by decide⟩) fun _ => ⟨show (1 : Int) ≤ 1 by decide, show (1 : Int) ≤ 7 by decide, show (7 : Int) ≤ 8 by decide⟩) fun g17 ⟨d0, d1, d2⟩ => ?_
  refine po_bind (purse_ok (by decide) (by decide)) fun y20 h20 => po_bind (web_ok5 h20 d0 d1 (by omega)) fun y22 ⟨w0, w1, hw, _⟩ => ?_
  obtain ⟨⟨n, ⟨ts⟩⟩, s22⟩ := y22
  obtain ⟨m, rfl⟩ : ∃ m : Nat, n = (m : Int) := ⟨n.toNat, by have : g17.1 ≤ n := w0; omega⟩
  have hw' : WebOk (m : Int) ts := hw
  have w1' : (m : Int) ≤ g17.2.1 := w1
  have m8' : m ≤ 8 := by omega
  obtain ⟨r, er, hr⟩ := fewest_ok (k := t8) (st := 1 + y15.1) hw' (by omega)
  have hd := few_dep hr
  have hright := law_right_ok hw' m8' (by omega) hr
  show Post (law_parted ((m : Int), ⟨ts⟩) t8 >>= _) _ _
  rw [law_parted_ok hw' (by omega) k3, ok_bind]
  show Post (fewest_looksO ((m : Int), ⟨ts⟩) t8 (1 + y15.1) >>= _) _ _
  rw [of_eq, er, ok_bind]
  have last : Post (do
      let y43 ← law_purse ⟨ns⟩ (2 : Int)
      let y45 ← law_web y43 (9 : Int) (12 : Int)
      let y48 ← law_refused y45.1 t8 ((1 : Int) + y15.1)
      R.ok y48) (fun b => b = true) noX := by
    refine po_bind (purse_ok (by decide) (by decide)) fun y93 h93 => po_bind (web_ok5 h93 (by decide) (by decide) (by decide)) fun y95 ⟨v0, v1, _, _⟩ => ?_
    obtain ⟨⟨n2, ts2⟩, s95⟩ := y95
    show Post (law_refused (n2, ts2) t8 (1 + y15.1) >>= _) _ _
    rw [refused_ok v0]
    rfl
  cases r with
  | never a b =>
    show Post (law_right ((m : Int), ⟨ts⟩) (partedL (m : Int) ts t8) (1 + y15.1) (Fw.never a b) >>= _) _ _
    rw [hright, ok_bind]
    refine po_if (fun c => absurd c (by decide)) fun _ => ?_
    refine po_if (fun c => absurd c (by decide)) fun _ => ?_
    rw [ok_bind, fwS_ok hd, ok_bind, ok_bind]
    refine po_if (fun c => ?_) fun _ => last
    rw [decide_eq_true rfl] at c
    cases c
  | looks L t =>
    show Post (law_right ((m : Int), ⟨ts⟩) (partedL (m : Int) ts t8) (1 + y15.1) (Fw.looks L t) >>= _) _ _
    rw [hright, ok_bind]
    refine po_if (fun c => absurd c (by decide)) fun _ => ?_
    refine po_if (fun _ => ?_) fun c => absurd (show (decide (("looks" : Str) = ("looks" : Str))) = true by decide) c
    refine po_app (by
      obtain ⟨⟨V, w1, w2, w3, _⟩, _⟩ := hr
      have a1 := nodup_le w2 (ys := rng 0 (m : Int)) fun v hv => rng_mem.mpr (w3 v hv)
      rw [rng_length] at a1
      rw [w1, sortI_len]
      omega) ?_
    rw [ok_bind, fwS_ok hd, ok_bind, ok_bind]
    refine po_if (fun c => ?_) fun _ => last
    rw [decide_eq_true rfl] at c
    cases c
end G
namespace HD
open PySem (PyData Obj Params Str)
@[reducible] noncomputable def en (P : PySem.Params) (k : PySem.Str) (t : Nat) (v : PySem.Value) : PySem.DictEntry := .mk (PyData.keyHash P k) (.str k t) v
@[reducible] noncomputable def ob (c : PySem.Value) (d : PySem.Data) : PySem.Obj := .mk c none d (Array.mk [])
@[reducible] noncomputable def fO (c : PySem.Value) (n : PySem.Str) (s : PySem.Stmt) (pm cd : PySem.Value) : PySem.Obj := .mk c none (.func (PySem.W.fnOf n n (L2.defArgs s) (L2.defBody s) (L2.defScope s) .none .none .none pm none cd .none)) (Array.mk [])
@[reducible] noncomputable def cO (n : PySem.Str) (s : PySem.Stmt) : PySem.Obj := .mk .none none (.func (.mk n n (L2.defArgs s) (.stmts (L2.defBody s)) (L2.defScope s) 0 [] .none .none .none .none none .none .none 0)) (Array.mk [])
@[reducible] noncomputable def i (x : Int) : PySem.Value := .int x 0
@[reducible] noncomputable def n (o : PySem.Obj) (x y : PySem.W.BT) : PySem.W.BT := .node o x y
@[reducible] noncomputable def l (o : PySem.Obj) : PySem.W.BT := .node o .nil .nil
noncomputable def a0 : Str := ⟨⟨[95,95,110,97,109,101,95,95]⟩⟩
noncomputable def a1 : Str := ⟨⟨[72,97,105,108,69,114,114,111,114]⟩⟩
noncomputable def a2 : Str := ⟨⟨[86,97,108,117,101,69,114,114,111,114]⟩⟩
noncomputable def a3 : Str := ⟨⟨[78,111,80,108,97,99,101]⟩⟩
noncomputable def a4 : Str := ⟨⟨[78,111,84,104,105,110,103]⟩⟩
noncomputable def a5 : Str := ⟨⟨[78,111,76,111,111,107,115]⟩⟩
noncomputable def a6 : Str := ⟨⟨[84,111,111,77,97,110,121]⟩⟩
noncomputable def a7 : Str := ⟨⟨[110,101,97,114,95,108,105,115,116,115]⟩⟩
noncomputable def a8 : Str := ⟨⟨[102,97,114,115,95,98,121]⟩⟩
noncomputable def a9 : Str := ⟨⟨[112,108,97,99,101,95,97,115,107,101,100]⟩⟩
noncomputable def a10 : Str := ⟨⟨[102,97,114,115,95,102,114,111,109]⟩⟩
noncomputable def a11 : Str := ⟨⟨[116,104,105,110,103,115,95,111,102]⟩⟩
noncomputable def a12 : Str := ⟨⟨[77,79,83,84,95,83,69,65,82,67,72,69,68]⟩⟩
noncomputable def a13 : Str := ⟨⟨[102,97,114,115,95,111,102]⟩⟩
noncomputable def a14 : Str := ⟨⟨[102,97,114,95,105,110]⟩⟩
noncomputable def a15 : Str := ⟨⟨[112,97,114,116,101,114,115,95,105,110]⟩⟩
noncomputable def a16 : Str := ⟨⟨[112,97,105,114,115,95,111,102]⟩⟩
noncomputable def a17 : Str := ⟨⟨[108,101,97,110,101,115,116,95,112,97,105,114,115]⟩⟩
noncomputable def a18 : Str := ⟨⟨[116,111,111,95,115,101,108,100,111,109]⟩⟩
noncomputable def a19 : Str := ⟨⟨[83,101,97,114,99,104]⟩⟩
noncomputable def a20 : Str := ⟨⟨[102,101,119,101,115,116,95,108,111,111,107,115]⟩⟩
noncomputable def a21 : Str := ⟨⟨[95,108,97,119,95,112,117,114,115,101]⟩⟩
noncomputable def a22 : Str := ⟨⟨[95,108,97,119,95,116,97,107,101]⟩⟩
noncomputable def a23 : Str := ⟨⟨[95,108,97,119,95,111,114,100,101,114]⟩⟩
noncomputable def a24 : Str := ⟨⟨[95,108,97,119,95,112,97,105,114,115]⟩⟩
noncomputable def a25 : Str := ⟨⟨[95,108,97,119,95,119,101,98]⟩⟩
noncomputable def a26 : Str := ⟨⟨[95,108,97,119,95,116,97,98,108,101]⟩⟩
noncomputable def a27 : Str := ⟨⟨[95,108,97,119,95,116,104,105,110,103,115]⟩⟩
noncomputable def a28 : Str := ⟨⟨[95,108,97,119,95,102,97,114]⟩⟩
noncomputable def a29 : Str := ⟨⟨[95,108,97,119,95,112,97,114,116,101,114,115]⟩⟩
noncomputable def a30 : Str := ⟨⟨[95,108,97,119,95,112,97,114,116,101,100]⟩⟩
noncomputable def a31 : Str := ⟨⟨[95,108,97,119,95,102,101,119,101,115,116]⟩⟩
noncomputable def a32 : Str := ⟨⟨[95,108,97,119,95,114,105,103,104,116]⟩⟩
noncomputable def a33 : Str := ⟨⟨[95,108,97,119,95,114,101,102,117,115,101,100]⟩⟩
noncomputable def a34 : Str := ⟨⟨[108,97,119]⟩⟩
noncomputable def env : PySem.Env := ⟨(.mk .module [(a0, .local),(a1, .local),(a2, .globalImplicit),(a3, .local),(a4, .local),(a5, .local),(a6, .local),(a7, .local),(a8, .local),(a9, .local),(a10, .local),(a11, .local),(a12, .local),(a13, .local),(a14, .local),(a15, .local),(a16, .local),(a17, .local),(a18, .local),(a19, .local),(a20, .local),(a21, .local),(a22, .local),(a23, .local),(a24, .local),(a25, .local),(a26, .local),(a27, .local),(a28, .local),(a29, .local),(a30, .local),(a31, .local),(a32, .local),(a33, .local),(a34, .local)] .false .false []), PySem.mainNs, PySem.mainNs, [], PySem.Str.empty, none, (.ref 13), (some 14), 0⟩
noncomputable abbrev q0 (P : Params) : Obj := PySem.W.boot_o_0 P
noncomputable abbrev q1 (P : Params) : Obj := PySem.W.boot_o_1 P
noncomputable abbrev q2 (P : Params) : Obj := PySem.W.boot_o_2 P
noncomputable abbrev q3 (P : Params) : Obj := PySem.W.boot_o_3 P
noncomputable abbrev q4 (P : Params) : Obj := PySem.W.boot_o_4 P
noncomputable abbrev q5 (P : Params) : Obj := PySem.W.boot_o_5 P
noncomputable abbrev q6 (P : Params) : Obj := PySem.W.boot_o_6 P
noncomputable abbrev q7 (P : Params) : Obj := PySem.W.boot_o_7 P
noncomputable abbrev q8 (P : Params) : Obj := PySem.W.boot_o_8 P
noncomputable abbrev q9 (P : Params) : Obj := PySem.W.boot_o_9 P
noncomputable abbrev q10 (P : Params) : Obj := PySem.W.boot_o_10 P
noncomputable abbrev b0 : String := PySem.W.SL.s2766695959194262286x5
noncomputable def o0 : Obj := (ob (.type b0) (.seq ⟨[]⟩ 0))
noncomputable def o1 : Obj := (ob .none (.fields ⟨[]⟩))
noncomputable abbrev b1 : String := PySem.W.SL.s5856160107412720595x4
noncomputable def a35 : Str := ⟨⟨[60,109,111,100,117,108,101,62]⟩⟩
noncomputable def a36 : Str := ⟨⟨[47,99,108,97,105,109,47,99,117,116,46,112,121]⟩⟩
noncomputable def o2 : Obj := (ob (.type b1) (.fields ⟨[(.str a35 182),(.str a35 183),(.str a36 184),(i 1),(i 0),(i 0),(i 0),(i 0),(.ref 11),(.bool .false),(i 181),(.ref 12),.none,.none,.none,.none,(i 185),(i 1),(.str a36 186)]⟩))
noncomputable abbrev b2 : String := PySem.W.SL.s658472552662922059x5
noncomputable def a37 : Str := ⟨⟨[95,95,109,97,105,110,95,95]⟩⟩
noncomputable def o3 : Obj := (.mk (.type b2) none .plain ⟨[(some (.ref 13)),(some (.ref 3)),(some (.ref 3)),none,(some (.str a37 164)),none,(some (.ref 0))]⟩)
noncomputable def hA (P : PySem.Params) : PySem.Heap := ⟨⟨[(q0 P), (q1 P), (q2 P), (q3 P), (q4 P), (q5 P), (q6 P), (q7 P), (q8 P), (q9 P), (q10 P), o0, o1, o2, o3]⟩, (.mk [] [] [] 0 [] [] .false ⟨[]⟩ [] 0 .false .false .false 0 [2000,10,10] .false 0 .true [] [] 0 .false)⟩
noncomputable def tB (P : PySem.Params) : PySem.W.BT := (n (q0 P) (n (q1 P) (n (q3 P) (l (q7 P)) (l o0)) (n (q5 P) (l (q9 P)) (l o2))) (n (q2 P) (n (q4 P) (l (q8 P)) (l o1)) (n (q6 P) (l (q10 P)) (l o3))))
noncomputable abbrev code : PySem.Code := .body (PySem.W.behindTheImports PySem.Challenge.pw_farhail_k35_fewest_told) env
noncomputable abbrev B : List PySem.Frame := [PySem.W.topFrame (.mk 0 0 0 0)]
theorem pre0 (w : PySem.World) : (fun os : PySem.OsState => PySem.W.Fast.tw15667345088766844465 PySem.W.Fast.tw14364793385576792824 PySem.Challenge.pw_farhail_k35_fewest_told w 11 (some (.ref 6)) 12 (PySem.Shared.mk (PySem.W.boot_heap w.params) (Array.mk ([] : List PySem.GenState)) PySem.W.boot_drawn PySem.W.boot_toks os) (PySem.W.topStub PySem.Challenge.pw_farhail_k35_fewest_told)) = fun os => some ((PySem.Shared.mk (hA w.params) (Array.mk ([] : List PySem.GenState)) (.mk 0 0 0 0) 187 os), PySem.Thread.mk (PySem.W.Fast.tw11892475500146522536 PySem.W.Fast.tw14364793385576792824 code) code (.mk 0 0 0 0) B) := by kernel_rfl
theorem pre (w : PySem.World) (os : PySem.OsState) : PySem.W.topGo PySem.treeTable PySem.Challenge.pw_farhail_k35_fewest_told w 11 (some (.ref 6)) 12 (PySem.Shared.mk (PySem.W.boot_heap w.params) (Array.mk ([] : List PySem.GenState)) PySem.W.boot_drawn PySem.W.boot_toks os) (PySem.W.topStub PySem.Challenge.pw_farhail_k35_fewest_told) = some ((PySem.Shared.mk (hA w.params) (Array.mk ([] : List PySem.GenState)) (.mk 0 0 0 0) 187 os), PySem.Thread.mk (PySem.denote PySem.treeTable code) code (.mk 0 0 0 0) B) := by rw [PySem.W.Fast.te15667345088766844465, PySem.W.Fast.te14364793385576792824, PySem.W.Fast.te11892475500146522536]; exact congrFun (pre0 w) os
theorem block0 (w : PySem.World) : (fun os : PySem.OsState => PySem.W.Fast.tw14374325043358763698 PySem.W.Fast.tw14364793385576792824 PySem.Challenge.pw_farhail_k35_fewest_told w 11 (some (.ref 6)) 1 1 (PySem.Shared.mk (hA w.params) (Array.mk ([] : List PySem.GenState)) (.mk 0 0 0 0) 187 os) (PySem.W.blockOf (PySem.W.behindTheImports PySem.Challenge.pw_farhail_k35_fewest_told) env code (.mk 0 0 0 0) B)) = fun os => some (PySem.Flow.next, (PySem.W.SharedT.mk (tB w.params) 15 (.mk [] [] [] 0 [] [] .false ⟨[]⟩ [] 0 .false .false .false 0 [2000,10,10] .false 0 .true [] [] 0 .false) (Array.mk ([] : List PySem.GenState)) (.mk 0 0 0 0) 187 os).abs, code, (.mk 0 0 0 0)) := by kernel_rfl
theorem block (w : PySem.World) (os : PySem.OsState) : PySem.W.segRun PySem.treeTable PySem.Challenge.pw_farhail_k35_fewest_told w 11 (some (.ref 6)) 1 1 (PySem.Shared.mk (hA w.params) (Array.mk ([] : List PySem.GenState)) (.mk 0 0 0 0) 187 os) (PySem.W.blockOf (PySem.W.behindTheImports PySem.Challenge.pw_farhail_k35_fewest_told) env code (.mk 0 0 0 0) B) = some (PySem.Flow.next, (PySem.W.SharedT.mk (tB w.params) 15 (.mk [] [] [] 0 [] [] .false ⟨[]⟩ [] 0 .false .false .false 0 [2000,10,10] .false 0 .true [] [] 0 .false) (Array.mk ([] : List PySem.GenState)) (.mk 0 0 0 0) 187 os).abs, code, (.mk 0 0 0 0)) := by rw [PySem.W.Fast.te14374325043358763698, PySem.W.Fast.te14364793385576792824]; exact congrFun (block0 w) os
noncomputable def a38 : Str := ⟨⟨[102,97,114,104,97,105,108,46,101,114,114,111,114,115]⟩⟩
noncomputable def a39 : Str := ⟨⟨[102,97,114,104,97,105,108,46,119,101,98,115]⟩⟩
noncomputable def a40 : Str := ⟨⟨[102,97,114,104,97,105,108,46,99,111,100,101,115]⟩⟩
noncomputable def a41 : Str := ⟨⟨[102,97,114,104,97,105,108,46,102,101,119,101,115,116]⟩⟩
noncomputable def a42 : Str := ⟨⟨[95,95,105,110,105,116,95,95]⟩⟩
noncomputable def a43 : Str := ⟨⟨[116,114,101,101,95,111,102]⟩⟩
noncomputable def a44 : Str := ⟨⟨[108,111,111,107,115]⟩⟩
noncomputable def a45 : Str := ⟨⟨[109,97,110,121]⟩⟩
noncomputable def a46 : Str := ⟨⟨[112,97,105,114,115]⟩⟩
noncomputable def a47 : Str := ⟨⟨[115,116,114,101,110,103,116,104]⟩⟩
noncomputable def a48 : Str := ⟨⟨[108,97,119,95,102,97,114,104,97,105,108,95,107,51,53,95,102,101,119,101,115,116,95,116,111,108,100]⟩⟩
noncomputable def sts0 : List PySem.Stmt := [(.Assign [(.Name a0 (.mk 1 0 1 8))] (.Constant (.str a38) 0 (.mk 1 11 1 27)) (.mk 1 0 1 27)), (.ClassDef a1 [(.Name a2 (.mk 2 16 2 26))] [] [(.Pass (.mk 3 4 3 8))] [] [] (.mk .class [] .false .false []) none a1 [] (.mk 2 0 3 8)), (.ClassDef a3 [(.Name a1 (.mk 4 14 4 23))] [] [(.Pass (.mk 5 4 5 8))] [] [] (.mk .class [] .false .false []) none a3 [] (.mk 4 0 5 8)), (.ClassDef a4 [(.Name a1 (.mk 6 14 6 23))] [] [(.Pass (.mk 7 4 7 8))] [] [] (.mk .class [] .false .false []) none a4 [] (.mk 6 0 7 8)), (.ClassDef a5 [(.Name a1 (.mk 8 14 8 23))] [] [(.Pass (.mk 9 4 9 8))] [] [] (.mk .class [] .false .false []) none a5 [] (.mk 8 0 9 8)), (.ClassDef a6 [(.Name a1 (.mk 10 14 10 23))] [] [(.Pass (.mk 11 4 11 8))] [] [] (.mk .class [] .false .false []) none a6 [] (.mk 10 0 11 8)), (.Assign [(.Name a0 (.mk 12 0 12 8))] (.Constant (.str a39) 0 (.mk 12 11 12 25)) (.mk 12 0 12 25)), (.FunctionDef a7 (L2.defArgs (G.top 7)) (L2.defBody (G.top 7)) [] none [] (L2.defScope (G.top 7)) none a7 (.mk 13 0 18 41)), (.FunctionDef a8 (L2.defArgs (G.top 8)) (L2.defBody (G.top 8)) [] none [] (L2.defScope (G.top 8)) none a8 (.mk 19 0 30 16)), (.FunctionDef a9 (L2.defArgs (G.top 9)) (L2.defBody (G.top 9)) [] none [] (L2.defScope (G.top 9)) none a9 (.mk 31 0 33 33)), (.FunctionDef a10 (L2.defArgs (G.top 10)) (L2.defBody (G.top 10)) [] none [] (L2.defScope (G.top 10)) none a10 (.mk 34 0 36 42)), (.Assign [(.Name a0 (.mk 37 0 37 8))] (.Constant (.str a40) 0 (.mk 37 11 37 26)) (.mk 37 0 37 26)), (.FunctionDef a11 (L2.defArgs (G.top 12)) (L2.defBody (G.top 12)) [] none [] (L2.defScope (G.top 12)) none a11 (.mk 38 0 44 32)), (.Assign [(.Name a0 (.mk 45 0 45 8))] (.Constant (.str a41) 0 (.mk 45 11 45 27)) (.mk 45 0 45 27)), (.Assign [(.Name a12 (.mk 46 0 46 13))] (.Constant (.int 8) 0 (.mk 46 16 46 17)) (.mk 46 0 46 17)), (.FunctionDef a13 (L2.defArgs (G.top 15)) (L2.defBody (G.top 15)) [] none [] (L2.defScope (G.top 15)) none a13 (.mk 47 0 48 61)), (.FunctionDef a14 (L2.defArgs (G.top 16)) (L2.defBody (G.top 16)) [] none [] (L2.defScope (G.top 16)) none a14 (.mk 49 0 52 46)), (.FunctionDef a15 (L2.defArgs (G.top 17)) (L2.defBody (G.top 17)) [] none [] (L2.defScope (G.top 17)) none a15 (.mk 53 0 54 98)), (.FunctionDef a16 (L2.defArgs (G.top 18)) (L2.defBody (G.top 18)) [] none [] (L2.defScope (G.top 18)) none a16 (.mk 55 0 62 16)), (.FunctionDef a17 (L2.defArgs (G.top 19)) (L2.defBody (G.top 19)) [] none [] (L2.defScope (G.top 19)) none a17 (.mk 63 0 72 16)), (.FunctionDef a18 (L2.defArgs (G.top 20)) (L2.defBody (G.top 20)) [] none [] (L2.defScope (G.top 20)) none a18 (.mk 73 0 79 15)), (.ClassDef a19 [] [] [(.FunctionDef a42 (L2.defArgs (L2.inClass (G.top 21) 0)) (L2.defBody (L2.inClass (G.top 21) 0)) [] none [] (L2.defScope (L2.inClass (G.top 21) 0)) none a42 (.mk 82 4 86 25)), (.FunctionDef a43 (L2.defArgs (L2.inClass (G.top 21) 1)) (L2.defBody (L2.inClass (G.top 21) 1)) [] none [] (L2.defScope (L2.inClass (G.top 21) 1)) none a43 (.mk 88 4 101 41))] [] [] (.mk .class [(a42, .local),(a43, .local)] .false .false []) none a19 [a44,a45,a46,a47] (.mk 80 0 101 41)), (.FunctionDef a20 (L2.defArgs (G.top 22)) (L2.defBody (G.top 22)) [] none [] (L2.defScope (G.top 22)) none a20 (.mk 102 0 117 47)), (.Assign [(.Name a0 (.mk 118 0 118 8))] (.Constant (.str a48) 0 (.mk 118 11 118 40)) (.mk 118 0 118 40)), (.FunctionDef a21 (L2.defArgs (G.top 24)) (L2.defBody (G.top 24)) [] none [] (L2.defScope (G.top 24)) none a21 (.mk 119 0 128 96)), (.FunctionDef a22 (L2.defArgs (G.top 25)) (L2.defBody (G.top 25)) [] none [] (L2.defScope (G.top 25)) none a22 (.mk 129 0 132 21)), (.FunctionDef a23 (L2.defArgs (G.top 26)) (L2.defBody (G.top 26)) [] none [] (L2.defScope (G.top 26)) none a23 (.mk 133 0 137 21)), (.FunctionDef a24 (L2.defArgs (G.top 27)) (L2.defBody (G.top 27)) [] none [] (L2.defScope (G.top 27)) none a24 (.mk 138 0 152 21)), (.FunctionDef a25 (L2.defArgs (G.top 28)) (L2.defBody (G.top 28)) [] none [] (L2.defScope (G.top 28)) none a25 (.mk 153 0 163 49)), (.FunctionDef a26 (L2.defArgs (G.top 29)) (L2.defBody (G.top 29)) [] none [] (L2.defScope (G.top 29)) none a26 (.mk 164 0 176 21)), (.FunctionDef a27 (L2.defArgs (G.top 30)) (L2.defBody (G.top 30)) [] none [] (L2.defScope (G.top 30)) none a27 (.mk 177 0 181 21)), (.FunctionDef a28 (L2.defArgs (G.top 31)) (L2.defBody (G.top 31)) [] none [] (L2.defScope (G.top 31)) none a28 (.mk 182 0 185 75)), (.FunctionDef a29 (L2.defArgs (G.top 32)) (L2.defBody (G.top 32)) [] none [] (L2.defScope (G.top 32)) none a29 (.mk 186 0 187 151)), (.FunctionDef a30 (L2.defArgs (G.top 33)) (L2.defBody (G.top 33)) [] none [] (L2.defScope (G.top 33)) none a30 (.mk 188 0 195 21)), (.FunctionDef a31 (L2.defArgs (G.top 34)) (L2.defBody (G.top 34)) [] none [] (L2.defScope (G.top 34)) none a31 (.mk 196 0 210 21)), (.FunctionDef a32 (L2.defArgs (G.top 35)) (L2.defBody (G.top 35)) [] none [] (L2.defScope (G.top 35)) none a32 (.mk 211 0 230 57)), (.FunctionDef a33 (L2.defArgs (G.top 36)) (L2.defBody (G.top 36)) [] none [] (L2.defScope (G.top 36)) none a33 (.mk 231 0 238 38)), (.FunctionDef a34 (L2.defArgs (G.top 37)) (L2.defBody (G.top 37)) [] none [] (L2.defScope (G.top 37)) none a34 (.mk 239 0 257 94))]
noncomputable abbrev b3 : String := PySem.W.SL.s14018661285674007319x4
noncomputable def c0 (P : PySem.Params) (t : List PySem.DictEntry) : List PySem.DictEntry := (en P a33 559 (.ref 258))::(en P a34 575 (.ref 265))::t
noncomputable def c1 (P : PySem.Params) (t : List PySem.DictEntry) : List PySem.DictEntry := (en P a25 489 (.ref 210))::(en P a26 502 (.ref 217))::(en P a27 511 (.ref 224))::(en P a28 517 (.ref 229))::(en P a29 523 (.ref 234))::(en P a30 536 (.ref 241))::(en P a31 542 (.ref 246))::(en P a32 548 (.ref 251))::t
noncomputable def c2 (P : PySem.Params) (t : List PySem.DictEntry) : List PySem.DictEntry := (en P a17 361 (.ref 137))::(en P a18 367 (.ref 142))::(en P a19 417 (.ref 166))::(en P a20 435 (.ref 177))::(en P a21 447 (.ref 184))::(en P a22 456 (.ref 191))::(en P a23 466 (.ref 198))::(en P a24 472 (.ref 203))::t
noncomputable def c3 (P : PySem.Params) (t : List PySem.DictEntry) : List PySem.DictEntry := (en P a9 298 (.ref 94))::(en P a10 306 (.ref 101))::(en P a11 317 (.ref 108))::(en P a12 321 (.int 8 320))::(en P a13 327 (.ref 113))::(en P a14 335 (.ref 120))::(en P a15 341 (.ref 125))::(en P a16 355 (.ref 132))::t
noncomputable def a49 : Str := ⟨⟨[95,95,99,97,99,104,101,100,95,95]⟩⟩
noncomputable def c4 (P : PySem.Params) (t : List PySem.DictEntry) : List PySem.DictEntry := (en P a49 174 .none)::(en P a1 206 (.ref 24))::(en P a3 222 (.ref 37))::(en P a4 238 (.ref 49))::(en P a5 254 (.ref 61))::(en P a6 270 (.ref 73))::(en P a7 278 (.ref 80))::(en P a8 290 (.ref 87))::t
noncomputable def a50 : Str := ⟨⟨[95,95,100,111,99,95,95]⟩⟩
noncomputable def a51 : Str := ⟨⟨[95,95,112,97,99,107,97,103,101,95,95]⟩⟩
noncomputable def a52 : Str := ⟨⟨[95,95,108,111,97,100,101,114,95,95]⟩⟩
noncomputable abbrev b4 : String := PySem.W.SL.s7097527257260152453x26
noncomputable def a53 : Str := ⟨⟨[95,95,115,112,101,99,95,95]⟩⟩
noncomputable def a54 : Str := ⟨⟨[95,95,97,110,110,111,116,97,116,105,111,110,115,95,95]⟩⟩
noncomputable def a55 : Str := ⟨⟨[95,95,98,117,105,108,116,105,110,115,95,95]⟩⟩
noncomputable def a56 : Str := ⟨⟨[95,95,102,105,108,101,95,95]⟩⟩
noncomputable def c5 (P : PySem.Params) (t : List PySem.DictEntry) : List PySem.DictEntry := (en P a0 165 (.str a48 436))::(en P a50 166 .none)::(en P a51 167 .none)::(en P a52 168 (.builtin b4))::(en P a53 169 .none)::(en P a54 170 (.ref 6))::(en P a55 171 (.ref 4))::(en P a56 173 (.str a36 172))::t
noncomputable def o4 (P : Params) : Obj := (ob (.type b3) (.dict ⟨(c5 P (c4 P (c3 P (c2 P (c1 P (c0 P []))))))⟩ 42))
noncomputable def c6 (t : List PySem.Value) : List PySem.Value := (i 0)::(.ref 250)::(i 231)::(i 0)::(.ref 257)::(i 239)::(i 0)::(.ref 264)::t
noncomputable def c7 (t : List PySem.Value) : List PySem.Value := (.ref 233)::(i 188)::(i 0)::(.ref 240)::(i 196)::(i 0)::(.ref 245)::(i 211)::t
noncomputable def c8 (t : List PySem.Value) : List PySem.Value := (i 177)::(i 0)::(.ref 223)::(i 182)::(i 0)::(.ref 228)::(i 186)::(i 0)::t
noncomputable def c9 (t : List PySem.Value) : List PySem.Value := (i 0)::(.ref 202)::(i 153)::(i 0)::(.ref 209)::(i 164)::(i 0)::(.ref 216)::t
noncomputable def c10 (t : List PySem.Value) : List PySem.Value := (.ref 183)::(i 129)::(i 0)::(.ref 190)::(i 133)::(i 0)::(.ref 197)::(i 138)::t
noncomputable def c11 (t : List PySem.Value) : List PySem.Value := (i 80)::(i 0)::(.ref 148)::(i 102)::(i 0)::(.ref 176)::(i 119)::(i 0)::t
noncomputable def c12 (t : List PySem.Value) : List PySem.Value := (i 0)::(.ref 131)::(i 63)::(i 0)::(.ref 136)::(i 73)::(i 0)::(.ref 141)::t
noncomputable def c13 (t : List PySem.Value) : List PySem.Value := (.ref 112)::(i 49)::(i 0)::(.ref 119)::(i 53)::(i 0)::(.ref 124)::(i 55)::t
noncomputable def c14 (t : List PySem.Value) : List PySem.Value := (i 34)::(i 0)::(.ref 100)::(i 38)::(i 0)::(.ref 107)::(i 47)::(i 0)::t
noncomputable def c15 (t : List PySem.Value) : List PySem.Value := (i 0)::(.ref 79)::(i 19)::(i 0)::(.ref 86)::(i 31)::(i 0)::(.ref 93)::t
noncomputable def c16 (t : List PySem.Value) : List PySem.Value := (.ref 45)::(i 8)::(i 0)::(.ref 57)::(i 10)::(i 0)::(.ref 69)::(i 13)::t
noncomputable def c17 (t : List PySem.Value) : List PySem.Value := (i 2)::(i 0)::(.ref 20)::(i 4)::(i 0)::(.ref 33)::(i 6)::(i 0)::t
noncomputable def o5 : Obj := (ob .none (.fields ⟨(c17 (c16 (c15 (c14 (c13 (c12 (c11 (c10 (c9 (c8 (c7 (c6 []))))))))))))⟩))
noncomputable abbrev b5 : String := PySem.W.SL.s6070975301684473832x10
noncomputable def o6 : Obj := (ob (.type b0) (.seq ⟨[(.type b5)]⟩ 0))
noncomputable abbrev b6 : String := PySem.W.SL.s11030030927630378310x26
noncomputable abbrev b7 : String := PySem.W.SL.s10062305145149207511x16
noncomputable abbrev b8 : String := PySem.W.SL.s17162191345867700912x4
noncomputable def o7 : Obj := (ob (.type b6) (.fields ⟨[(.builtin b7),(.type b8)]⟩))
noncomputable def a57 : Str := ⟨⟨[95,95,109,111,100,117,108,101,95,95]⟩⟩
noncomputable def a58 : Str := ⟨⟨[95,95,113,117,97,108,110,97,109,101,95,95]⟩⟩
noncomputable def a59 : Str := ⟨⟨[95,95,102,105,114,115,116,108,105,110,101,110,111,95,95]⟩⟩
noncomputable def a60 : Str := ⟨⟨[95,95,115,116,97,116,105,99,95,97,116,116,114,105,98,117,116,101,115,95,95]⟩⟩
noncomputable def o8 (P : Params) : Obj := (ob (.type b3) (.dict ⟨[(en P a57 196 (.str a38 187)),(en P a58 198 (.str a1 197)),(en P a59 200 (.int 2 199)),(en P a60 201 (.ref 22))]⟩ 4))
noncomputable def o9 : Obj := (ob (.type b0) (.seq ⟨[]⟩ 0))
noncomputable def o10 : Obj := (ob .none (.fields ⟨[]⟩))
noncomputable def o11 : Obj := (ob (.type b1) (.fields ⟨[(.str a1 191),(.str a1 192),(.str a36 193),(i 2),(i 0),(i 0),(i 0),(i 0),(.ref 18),(.bool .false),(i 181),(.ref 19),.none,.none,.none,.none,(i 194),(i 2),(.str a36 195)]⟩))
noncomputable def o12 : Obj := (.mk (.type b2) none .plain ⟨[(some (.ref 20)),(some (.ref 3)),(some (.ref 17)),none,(some (.str a38 187)),none,(some (.ref 0))]⟩)
noncomputable def o13 : Obj := (ob (.type b0) (.seq ⟨[]⟩ 0))
noncomputable def a61 : Str := ⟨⟨[95,95,119,101,97,107,114,101,102,95,95]⟩⟩
noncomputable def o14 (P : Params) : Obj := (ob (.type b3) (.dict ⟨[(en P a57 196 (.str a38 187)),(en P a59 200 (.int 2 199)),(en P a60 201 (.ref 22)),(en P a61 203 (.ref 25)),(en P a50 204 .none)]⟩ 3))
noncomputable abbrev b9 : String := PySem.W.SL.s5946037652744460706x9
noncomputable abbrev b10 : String := PySem.W.SL.s4278001404047624695x13
noncomputable abbrev b11 : String := PySem.W.SL.s2742458400755230247x6
noncomputable abbrev b12 : String := PySem.W.SL.s4209523147560561109x18
noncomputable def o15 : Obj := (.mk (.type b8) none (.cls (.mk a1 [(.type b5)] [(.ref 24),(.type b5),(.type b9),(.type b10),(.type b11)] 23 a1 .true [] [(.ref 37),(.ref 49),(.ref 61),(.ref 73)] .false none .false)) ⟨[(some (.ref 15)),none,(some (.str a1 189)),(some (.str a1 197)),(some (.builtin b12)),(some (.bool .true))]⟩)
noncomputable abbrev b13 : String := PySem.W.SL.s14755015743595814543x17
noncomputable abbrev b14 : String := PySem.W.SL.s10220274742760427390x26
noncomputable def o16 : Obj := (ob (.type b13) (.fields ⟨[(.str a61 202),(.ref 24),(.builtin b14),.none]⟩))
noncomputable abbrev b15 : String := PySem.W.SL.s4290257624100764138x5
noncomputable def o17 : Obj := (ob (.type b15) (.fields ⟨[(.ref 24),(.ref 24),(.ref 24)]⟩))
noncomputable abbrev b16 : String := PySem.W.SL.s4860613602091757760x24
noncomputable def o18 : Obj := (ob (.type b6) (.fields ⟨[(.builtin b16),(.ref 24)]⟩))
noncomputable def o19 : Obj := (ob (.type b0) (.seq ⟨[(.ref 24)]⟩ 0))
noncomputable def o20 : Obj := (ob (.type b6) (.fields ⟨[(.builtin b7),(.type b8)]⟩))
noncomputable def o21 (P : Params) : Obj := (ob (.type b3) (.dict ⟨[(en P a57 214 (.str a38 187)),(en P a58 216 (.str a3 215)),(en P a59 218 (.int 4 217)),(en P a60 219 (.ref 35))]⟩ 4))
noncomputable def o22 : Obj := (ob (.type b0) (.seq ⟨[]⟩ 0))
noncomputable def o23 : Obj := (ob .none (.fields ⟨[]⟩))
noncomputable def o24 : Obj := (ob (.type b1) (.fields ⟨[(.str a3 209),(.str a3 210),(.str a36 211),(i 4),(i 0),(i 0),(i 0),(i 0),(.ref 31),(.bool .false),(i 181),(.ref 32),.none,.none,.none,.none,(i 212),(i 4),(.str a36 213)]⟩))
noncomputable def o25 : Obj := (.mk (.type b2) none .plain ⟨[(some (.ref 33)),(some (.ref 3)),(some (.ref 30)),none,(some (.str a38 187)),none,(some (.ref 0))]⟩)
noncomputable def o26 : Obj := (ob (.type b0) (.seq ⟨[]⟩ 0))
noncomputable def o27 (P : Params) : Obj := (ob (.type b3) (.dict ⟨[(en P a57 214 (.str a38 187)),(en P a59 218 (.int 4 217)),(en P a60 219 (.ref 35)),(en P a50 220 .none)]⟩ 2))
noncomputable def o28 : Obj := (.mk (.type b8) none (.cls (.mk a3 [(.ref 24)] [(.ref 37),(.ref 24),(.type b5),(.type b9),(.type b10),(.type b11)] 36 a3 .true [] [] .false none .false)) ⟨[(some (.ref 28)),none,(some (.str a3 207)),(some (.str a3 215)),(some (.builtin b12)),(some (.bool .true))]⟩)
noncomputable def o29 : Obj := (ob (.type b15) (.fields ⟨[(.ref 37),(.ref 37),(.ref 37)]⟩))
noncomputable def o30 : Obj := (ob (.type b6) (.fields ⟨[(.builtin b16),(.ref 37)]⟩))
noncomputable def o31 : Obj := (ob (.type b0) (.seq ⟨[(.ref 24)]⟩ 0))
noncomputable def o32 : Obj := (ob (.type b6) (.fields ⟨[(.builtin b7),(.type b8)]⟩))
noncomputable def o33 (P : Params) : Obj := (ob (.type b3) (.dict ⟨[(en P a57 230 (.str a38 187)),(en P a58 232 (.str a4 231)),(en P a59 234 (.int 6 233)),(en P a60 235 (.ref 47))]⟩ 4))
noncomputable def o34 : Obj := (ob (.type b0) (.seq ⟨[]⟩ 0))
noncomputable def o35 : Obj := (ob .none (.fields ⟨[]⟩))
noncomputable def o36 : Obj := (ob (.type b1) (.fields ⟨[(.str a4 225),(.str a4 226),(.str a36 227),(i 6),(i 0),(i 0),(i 0),(i 0),(.ref 43),(.bool .false),(i 181),(.ref 44),.none,.none,.none,.none,(i 228),(i 6),(.str a36 229)]⟩))
noncomputable def o37 : Obj := (.mk (.type b2) none .plain ⟨[(some (.ref 45)),(some (.ref 3)),(some (.ref 42)),none,(some (.str a38 187)),none,(some (.ref 0))]⟩)
noncomputable def o38 : Obj := (ob (.type b0) (.seq ⟨[]⟩ 0))
noncomputable def o39 (P : Params) : Obj := (ob (.type b3) (.dict ⟨[(en P a57 230 (.str a38 187)),(en P a59 234 (.int 6 233)),(en P a60 235 (.ref 47)),(en P a50 236 .none)]⟩ 2))
noncomputable def o40 : Obj := (.mk (.type b8) none (.cls (.mk a4 [(.ref 24)] [(.ref 49),(.ref 24),(.type b5),(.type b9),(.type b10),(.type b11)] 48 a4 .true [] [] .false none .false)) ⟨[(some (.ref 40)),none,(some (.str a4 223)),(some (.str a4 231)),(some (.builtin b12)),(some (.bool .true))]⟩)
noncomputable def o41 : Obj := (ob (.type b15) (.fields ⟨[(.ref 49),(.ref 49),(.ref 49)]⟩))
noncomputable def o42 : Obj := (ob (.type b6) (.fields ⟨[(.builtin b16),(.ref 49)]⟩))
noncomputable def o43 : Obj := (ob (.type b0) (.seq ⟨[(.ref 24)]⟩ 0))
noncomputable def o44 : Obj := (ob (.type b6) (.fields ⟨[(.builtin b7),(.type b8)]⟩))
noncomputable def o45 (P : Params) : Obj := (ob (.type b3) (.dict ⟨[(en P a57 246 (.str a38 187)),(en P a58 248 (.str a5 247)),(en P a59 250 (.int 8 249)),(en P a60 251 (.ref 59))]⟩ 4))
noncomputable def o46 : Obj := (ob (.type b0) (.seq ⟨[]⟩ 0))
noncomputable def o47 : Obj := (ob .none (.fields ⟨[]⟩))
noncomputable def o48 : Obj := (ob (.type b1) (.fields ⟨[(.str a5 241),(.str a5 242),(.str a36 243),(i 8),(i 0),(i 0),(i 0),(i 0),(.ref 55),(.bool .false),(i 181),(.ref 56),.none,.none,.none,.none,(i 244),(i 8),(.str a36 245)]⟩))
noncomputable def o49 : Obj := (.mk (.type b2) none .plain ⟨[(some (.ref 57)),(some (.ref 3)),(some (.ref 54)),none,(some (.str a38 187)),none,(some (.ref 0))]⟩)
noncomputable def o50 : Obj := (ob (.type b0) (.seq ⟨[]⟩ 0))
noncomputable def o51 (P : Params) : Obj := (ob (.type b3) (.dict ⟨[(en P a57 246 (.str a38 187)),(en P a59 250 (.int 8 249)),(en P a60 251 (.ref 59)),(en P a50 252 .none)]⟩ 2))
noncomputable def o52 : Obj := (.mk (.type b8) none (.cls (.mk a5 [(.ref 24)] [(.ref 61),(.ref 24),(.type b5),(.type b9),(.type b10),(.type b11)] 60 a5 .true [] [] .false none .false)) ⟨[(some (.ref 52)),none,(some (.str a5 239)),(some (.str a5 247)),(some (.builtin b12)),(some (.bool .true))]⟩)
noncomputable def o53 : Obj := (ob (.type b15) (.fields ⟨[(.ref 61),(.ref 61),(.ref 61)]⟩))
noncomputable def o54 : Obj := (ob (.type b6) (.fields ⟨[(.builtin b16),(.ref 61)]⟩))
noncomputable def o55 : Obj := (ob (.type b0) (.seq ⟨[(.ref 24)]⟩ 0))
noncomputable def o56 : Obj := (ob (.type b6) (.fields ⟨[(.builtin b7),(.type b8)]⟩))
noncomputable def o57 (P : Params) : Obj := (ob (.type b3) (.dict ⟨[(en P a57 262 (.str a38 187)),(en P a58 264 (.str a6 263)),(en P a59 266 (.int 10 265)),(en P a60 267 (.ref 71))]⟩ 4))
noncomputable def o58 : Obj := (ob (.type b0) (.seq ⟨[]⟩ 0))
noncomputable def o59 : Obj := (ob .none (.fields ⟨[]⟩))
noncomputable def o60 : Obj := (ob (.type b1) (.fields ⟨[(.str a6 257),(.str a6 258),(.str a36 259),(i 10),(i 0),(i 0),(i 0),(i 0),(.ref 67),(.bool .false),(i 181),(.ref 68),.none,.none,.none,.none,(i 260),(i 10),(.str a36 261)]⟩))
noncomputable def o61 : Obj := (.mk (.type b2) none .plain ⟨[(some (.ref 69)),(some (.ref 3)),(some (.ref 66)),none,(some (.str a38 187)),none,(some (.ref 0))]⟩)
noncomputable def o62 : Obj := (ob (.type b0) (.seq ⟨[]⟩ 0))
noncomputable def o63 (P : Params) : Obj := (ob (.type b3) (.dict ⟨[(en P a57 262 (.str a38 187)),(en P a59 266 (.int 10 265)),(en P a60 267 (.ref 71)),(en P a50 268 .none)]⟩ 2))
noncomputable def o64 : Obj := (.mk (.type b8) none (.cls (.mk a6 [(.ref 24)] [(.ref 73),(.ref 24),(.type b5),(.type b9),(.type b10),(.type b11)] 72 a6 .true [] [] .false none .false)) ⟨[(some (.ref 64)),none,(some (.str a6 255)),(some (.str a6 263)),(some (.builtin b12)),(some (.bool .true))]⟩)
noncomputable def o65 : Obj := (ob (.type b15) (.fields ⟨[(.ref 73),(.ref 73),(.ref 73)]⟩))
noncomputable def o66 : Obj := (ob (.type b6) (.fields ⟨[(.builtin b16),(.ref 73)]⟩))
noncomputable def o67 : Obj := (ob (.type b0) (.seq ⟨[]⟩ 0))
noncomputable def o68 : Obj := (ob .none (.fields ⟨[]⟩))
noncomputable def o69 : Obj := (cO a7 (G.top 7))
noncomputable def o70 : Obj := (ob (.type b1) (.fields ⟨[(.str a7 273),(.str a7 274),(.str a36 275),(i 13),(i 1),(i 0),(i 0),(i 3),(.ref 76),(.bool .true),(i 181),(.ref 77),.none,.none,.none,(.ref 78),(i 276),(i 13),(.str a36 277)]⟩))
noncomputable abbrev b17 : String := PySem.W.SL.s7174869446012820540x8
noncomputable def o71 : Obj := (fO (.type b17) a7 (G.top 7) (.str a39 271) (.ref 79))
noncomputable def o72 : Obj := (ob (.type b0) (.seq ⟨[]⟩ 0))
noncomputable def o73 : Obj := (ob .none (.fields ⟨[]⟩))
noncomputable def a62 : Str := ⟨⟨[110,101,97,114]⟩⟩
noncomputable def a63 : Str := ⟨⟨[112,108,97,99,101]⟩⟩
noncomputable def a64 : Str := ⟨⟨[102,111,117,110,100]⟩⟩
noncomputable def a65 : Str := ⟨⟨[108,105,110,101]⟩⟩
noncomputable def a66 : Str := ⟨⟨[97,116]⟩⟩
noncomputable def a67 : Str := ⟨⟨[111,116,104,101,114]⟩⟩
noncomputable def o74 : Obj := (ob (.type b0) (.seq ⟨[(.str a62 282),(.str a63 283),(.str a64 284),(.str a65 285),(.str a66 286),(.str a67 287)]⟩ 0))
noncomputable def o75 : Obj := (ob (.type b0) (.seq ⟨[]⟩ 0))
noncomputable def o76 : Obj := (cO a8 (G.top 8))
noncomputable def o77 : Obj := (ob (.type b1) (.fields ⟨[(.str a8 279),(.str a8 280),(.str a36 281),(i 19),(i 2),(i 0),(i 0),(i 3),(.ref 81),(.bool .true),(i 181),(.ref 82),.none,(.ref 83),(.ref 84),(.ref 85),(i 288),(i 19),(.str a36 289)]⟩))
noncomputable def o78 : Obj := (fO (.type b17) a8 (G.top 8) (.str a39 271) (.ref 86))
noncomputable def o79 : Obj := (ob (.type b0) (.seq ⟨[]⟩ 0))
noncomputable def o80 : Obj := (ob .none (.fields ⟨[]⟩))
noncomputable def a68 : Str := ⟨⟨[119,101,98]⟩⟩
noncomputable def o81 : Obj := (ob (.type b0) (.seq ⟨[(.str a68 294),(.str a63 295)]⟩ 0))
noncomputable def o82 : Obj := (ob (.type b0) (.seq ⟨[]⟩ 0))
noncomputable def o83 : Obj := (cO a9 (G.top 9))
noncomputable def o84 : Obj := (ob (.type b1) (.fields ⟨[(.str a9 291),(.str a9 292),(.str a36 293),(i 31),(i 2),(i 0),(i 0),(i 3),(.ref 88),(.bool .true),(i 181),(.ref 89),.none,(.ref 90),(.ref 91),(.ref 92),(i 296),(i 31),(.str a36 297)]⟩))
noncomputable def o85 : Obj := (fO (.type b17) a9 (G.top 9) (.str a39 271) (.ref 93))
noncomputable def o86 : Obj := (ob (.type b0) (.seq ⟨[]⟩ 0))
noncomputable def o87 : Obj := (ob .none (.fields ⟨[]⟩))
noncomputable def o88 : Obj := (ob (.type b0) (.seq ⟨[(.str a68 302),(.str a63 303)]⟩ 0))
noncomputable def o89 : Obj := (ob (.type b0) (.seq ⟨[]⟩ 0))
noncomputable def o90 : Obj := (cO a10 (G.top 10))
noncomputable def o91 : Obj := (ob (.type b1) (.fields ⟨[(.str a10 299),(.str a10 300),(.str a36 301),(i 34),(i 2),(i 0),(i 0),(i 3),(.ref 95),(.bool .true),(i 181),(.ref 96),.none,(.ref 97),(.ref 98),(.ref 99),(i 304),(i 34),(.str a36 305)]⟩))
noncomputable def o92 : Obj := (fO (.type b17) a10 (G.top 10) (.str a39 271) (.ref 100))
noncomputable def o93 : Obj := (ob (.type b0) (.seq ⟨[]⟩ 0))
noncomputable def o94 : Obj := (ob .none (.fields ⟨[]⟩))
noncomputable def a69 : Str := ⟨⟨[107,105,110,100]⟩⟩
noncomputable def a70 : Str := ⟨⟨[112,108,97,99,101,115]⟩⟩
noncomputable def o95 : Obj := (ob (.type b0) (.seq ⟨[(.str a68 312),(.str a69 313),(.str a70 314)]⟩ 0))
noncomputable def o96 : Obj := (ob (.type b0) (.seq ⟨[]⟩ 0))
noncomputable def o97 : Obj := (cO a11 (G.top 12))
noncomputable def o98 : Obj := (ob (.type b1) (.fields ⟨[(.str a11 309),(.str a11 310),(.str a36 311),(i 38),(i 2),(i 0),(i 0),(i 3),(.ref 102),(.bool .true),(i 181),(.ref 103),.none,(.ref 104),(.ref 105),(.ref 106),(i 315),(i 38),(.str a36 316)]⟩))
noncomputable def o99 : Obj := (fO (.type b17) a11 (G.top 12) (.str a40 307) (.ref 107))
noncomputable def o100 : Obj := (ob (.type b0) (.seq ⟨[]⟩ 0))
noncomputable def o101 : Obj := (ob .none (.fields ⟨[]⟩))
noncomputable def o102 : Obj := (cO a13 (G.top 15))
noncomputable def o103 : Obj := (ob (.type b1) (.fields ⟨[(.str a13 322),(.str a13 323),(.str a36 324),(i 47),(i 1),(i 0),(i 0),(i 3),(.ref 109),(.bool .true),(i 181),(.ref 110),.none,.none,.none,(.ref 111),(i 325),(i 47),(.str a36 326)]⟩))
noncomputable def o104 : Obj := (fO (.type b17) a13 (G.top 15) (.str a41 318) (.ref 112))
noncomputable def o105 : Obj := (ob (.type b0) (.seq ⟨[]⟩ 0))
noncomputable def o106 : Obj := (ob .none (.fields ⟨[]⟩))
noncomputable def a71 : Str := ⟨⟨[102,97,114,115]⟩⟩
noncomputable def a72 : Str := ⟨⟨[116,104,105,110,103]⟩⟩
noncomputable def o107 : Obj := (ob (.type b0) (.seq ⟨[(.str a71 331),(.str a72 332)]⟩ 0))
noncomputable def o108 : Obj := (ob (.type b0) (.seq ⟨[]⟩ 0))
noncomputable def o109 : Obj := (cO a14 (G.top 16))
noncomputable def o110 : Obj := (ob (.type b1) (.fields ⟨[(.str a14 328),(.str a14 329),(.str a36 330),(i 49),(i 2),(i 0),(i 0),(i 3),(.ref 114),(.bool .true),(i 181),(.ref 115),.none,(.ref 116),(.ref 117),(.ref 118),(i 333),(i 49),(.str a36 334)]⟩))
noncomputable def o111 : Obj := (fO (.type b17) a14 (G.top 16) (.str a41 318) (.ref 119))
noncomputable def o112 : Obj := (ob (.type b0) (.seq ⟨[]⟩ 0))
noncomputable def o113 : Obj := (ob .none (.fields ⟨[]⟩))
noncomputable def o114 : Obj := (cO a15 (G.top 17))
noncomputable def o115 : Obj := (ob (.type b1) (.fields ⟨[(.str a15 336),(.str a15 337),(.str a36 338),(i 53),(i 3),(i 0),(i 0),(i 3),(.ref 121),(.bool .true),(i 181),(.ref 122),.none,.none,.none,(.ref 123),(i 339),(i 53),(.str a36 340)]⟩))
noncomputable def o116 : Obj := (fO (.type b17) a15 (G.top 17) (.str a41 318) (.ref 124))
noncomputable def o117 : Obj := (ob (.type b0) (.seq ⟨[]⟩ 0))
noncomputable def o118 : Obj := (ob .none (.fields ⟨[]⟩))
noncomputable def a73 : Str := ⟨⟨[116,104,105,110,103,115]⟩⟩
noncomputable def a74 : Str := ⟨⟨[116,97,98,108,101]⟩⟩
noncomputable def a75 : Str := ⟨⟨[111,110,101]⟩⟩
noncomputable def o119 : Obj := (ob (.type b0) (.seq ⟨[(.str a68 345),(.str a69 346),(.str a73 347),(.str a74 348),(.str a64 349),(.str a66 350),(.str a75 351),(.str a67 352)]⟩ 0))
noncomputable def o120 : Obj := (ob (.type b0) (.seq ⟨[]⟩ 0))
noncomputable def o121 : Obj := (cO a16 (G.top 18))
noncomputable def o122 : Obj := (ob (.type b1) (.fields ⟨[(.str a16 342),(.str a16 343),(.str a36 344),(i 55),(i 2),(i 0),(i 0),(i 3),(.ref 126),(.bool .true),(i 181),(.ref 127),.none,(.ref 128),(.ref 129),(.ref 130),(i 353),(i 55),(.str a36 354)]⟩))
noncomputable def o123 : Obj := (fO (.type b17) a16 (G.top 18) (.str a41 318) (.ref 131))
noncomputable def o124 : Obj := (ob (.type b0) (.seq ⟨[]⟩ 0))
noncomputable def o125 : Obj := (ob .none (.fields ⟨[]⟩))
noncomputable def o126 : Obj := (cO a17 (G.top 19))
noncomputable def o127 : Obj := (ob (.type b1) (.fields ⟨[(.str a17 356),(.str a17 357),(.str a36 358),(i 63),(i 1),(i 0),(i 0),(i 3),(.ref 133),(.bool .true),(i 181),(.ref 134),.none,.none,.none,(.ref 135),(i 359),(i 63),(.str a36 360)]⟩))
noncomputable def o128 : Obj := (fO (.type b17) a17 (G.top 19) (.str a41 318) (.ref 136))
noncomputable def o129 : Obj := (ob (.type b0) (.seq ⟨[]⟩ 0))
noncomputable def o130 : Obj := (ob .none (.fields ⟨[]⟩))
noncomputable def o131 : Obj := (cO a18 (G.top 20))
noncomputable def o132 : Obj := (ob (.type b1) (.fields ⟨[(.str a18 362),(.str a18 363),(.str a36 364),(i 73),(i 3),(i 0),(i 0),(i 3),(.ref 138),(.bool .true),(i 181),(.ref 139),.none,.none,.none,(.ref 140),(i 365),(i 73),(.str a36 366)]⟩))
noncomputable def o133 : Obj := (fO (.type b17) a18 (G.top 20) (.str a41 318) (.ref 141))
noncomputable def o134 : Obj := (ob (.type b0) (.seq ⟨[]⟩ 0))
noncomputable def o135 : Obj := (ob (.type b6) (.fields ⟨[(.builtin b7),(.type b8)]⟩))
noncomputable def o136 (P : Params) : Obj := (ob (.type b3) (.dict ⟨[(en P a57 375 (.str a41 318)),(en P a58 377 (.str a19 376)),(en P a59 379 (.int 80 378)),(en P a42 389 (.ref 156)),(en P a43 405 (.ref 163)),(en P a60 410 (.ref 164))]⟩ 6))
noncomputable def o137 : Obj := (ob (.type b0) (.seq ⟨[]⟩ 0))
noncomputable def o138 : Obj := (ob .none (.fields ⟨[(i 82),(i 4),(.ref 155),(i 88),(i 4),(.ref 162)]⟩))
noncomputable def o139 : Obj := (ob (.type b1) (.fields ⟨[(.str a19 370),(.str a19 371),(.str a36 372),(i 80),(i 0),(i 0),(i 0),(i 0),(.ref 146),(.bool .false),(i 181),(.ref 147),.none,.none,.none,.none,(i 373),(i 80),(.str a36 374)]⟩))
noncomputable def o140 : Obj := (.mk (.type b2) none .plain ⟨[(some (.ref 148)),(some (.ref 3)),(some (.ref 145)),none,(some (.str a41 318)),none,(some (.ref 0))]⟩)
noncomputable def o141 : Obj := (ob (.type b0) (.seq ⟨[]⟩ 0))
noncomputable def o142 : Obj := (ob .none (.fields ⟨[]⟩))
noncomputable def a76 : Str := ⟨⟨[115,101,108,102]⟩⟩
noncomputable def o143 : Obj := (ob (.type b0) (.seq ⟨[(.str a76 383),(.str a46 384),(.str a47 385),(.str a45 386)]⟩ 0))
noncomputable def o144 : Obj := (ob (.type b0) (.seq ⟨[]⟩ 0))
noncomputable def a77 : Str := ⟨⟨[83,101,97,114,99,104,46,95,95,105,110,105,116,95,95]⟩⟩
noncomputable def o145 : Obj := (.mk .none none (.func (.mk a42 a77 (L2.defArgs (L2.inClass (G.top 21) 0)) (.stmts (L2.defBody (L2.inClass (G.top 21) 0))) (L2.defScope (L2.inClass (G.top 21) 0)) 0 [] .none .none .none .none none .none .none 0)) ⟨[]⟩)
noncomputable def o146 : Obj := (ob (.type b1) (.fields ⟨[(.str a42 380),(.str a77 381),(.str a36 382),(i 82),(i 4),(i 0),(i 0),(i 3),(.ref 150),(.bool .true),(i 181),(.ref 151),.none,(.ref 152),(.ref 153),(.ref 154),(i 387),(i 82),(.str a36 388)]⟩))
noncomputable def o147 : Obj := (.mk (.type b17) none (.func (PySem.W.fnOf a42 a77 (L2.defArgs (L2.inClass (G.top 21) 0)) (L2.defBody (L2.inClass (G.top 21) 0)) (L2.defScope (L2.inClass (G.top 21) 0)) .none .none .none (.str a41 318) none (.ref 155) .none)) ⟨[]⟩)
noncomputable def o148 : Obj := (ob (.type b0) (.seq ⟨[]⟩ 0))
noncomputable def o149 : Obj := (ob .none (.fields ⟨[]⟩))
noncomputable def a78 : Str := ⟨⟨[119,105,116,104,105,110]⟩⟩
noncomputable def a79 : Str := ⟨⟨[119,105,116,104,111,117,116]⟩⟩
noncomputable def a80 : Str := ⟨⟨[112,97,105,114]⟩⟩
noncomputable def a81 : Str := ⟨⟨[112,97,114,116,101,114,115]⟩⟩
noncomputable def a82 : Str := ⟨⟨[116,114,101,101,115]⟩⟩
noncomputable def a83 : Str := ⟨⟨[97,104,101,97,100]⟩⟩
noncomputable def o150 : Obj := (ob (.type b0) (.seq ⟨[(.str a76 393),(.str a78 394),(.str a79 395),(.str a80 396),(.str a75 397),(.str a67 398),(.str a81 399),(.str a82 400),(.str a83 401),(.str a63 402)]⟩ 0))
noncomputable def o151 : Obj := (ob (.type b0) (.seq ⟨[]⟩ 0))
noncomputable def a84 : Str := ⟨⟨[83,101,97,114,99,104,46,116,114,101,101,95,111,102]⟩⟩
noncomputable def o152 : Obj := (.mk .none none (.func (.mk a43 a84 (L2.defArgs (L2.inClass (G.top 21) 1)) (.stmts (L2.defBody (L2.inClass (G.top 21) 1))) (L2.defScope (L2.inClass (G.top 21) 1)) 0 [] .none .none .none .none none .none .none 0)) ⟨[]⟩)
noncomputable def o153 : Obj := (ob (.type b1) (.fields ⟨[(.str a43 390),(.str a84 391),(.str a36 392),(i 88),(i 3),(i 0),(i 0),(i 3),(.ref 157),(.bool .true),(i 181),(.ref 158),.none,(.ref 159),(.ref 160),(.ref 161),(i 403),(i 88),(.str a36 404)]⟩))
noncomputable def o154 : Obj := (.mk (.type b17) none (.func (PySem.W.fnOf a43 a84 (L2.defArgs (L2.inClass (G.top 21) 1)) (L2.defBody (L2.inClass (G.top 21) 1)) (L2.defScope (L2.inClass (G.top 21) 1)) .none .none .none (.str a41 318) none (.ref 162) .none)) ⟨[]⟩)
noncomputable def o155 : Obj := (ob (.type b0) (.seq ⟨[(.str a44 406),(.str a45 407),(.str a46 408),(.str a47 409)]⟩ 0))
noncomputable def a85 : Str := ⟨⟨[95,95,100,105,99,116,95,95]⟩⟩
noncomputable def o156 (P : Params) : Obj := (ob (.type b3) (.dict ⟨[(en P a57 375 (.str a41 318)),(en P a59 379 (.int 80 378)),(en P a42 389 (.ref 156)),(en P a43 405 (.ref 163)),(en P a60 410 (.ref 164)),(en P a85 412 (.ref 167)),(en P a61 414 (.ref 168)),(en P a50 415 .none)]⟩ 4))
noncomputable abbrev b18 : String := PySem.W.SL.s11443829558043349243x14
noncomputable def o157 : Obj := (.mk (.type b8) none (.cls (.mk a19 [(.type b11)] [(.ref 166),(.type b11)] 165 a19 .true [] [] .false none .false)) ⟨[none,none,(some (.str a19 368)),(some (.str a19 376)),(some (.builtin b18)),(some (.bool .true))]⟩)
noncomputable abbrev b19 : String := PySem.W.SL.s6511155373996960695x17
noncomputable abbrev b20 : String := PySem.W.SL.s12411053484034534018x21
noncomputable def o158 : Obj := (ob (.type b13) (.fields ⟨[(.str a85 411),(.ref 166),(.builtin b19),(.builtin b20)]⟩))
noncomputable def o159 : Obj := (ob (.type b13) (.fields ⟨[(.str a61 413),(.ref 166),(.builtin b14),.none]⟩))
noncomputable def o160 : Obj := (ob (.type b15) (.fields ⟨[(.ref 166),(.ref 166),(.ref 166)]⟩))
noncomputable def o161 : Obj := (ob (.type b6) (.fields ⟨[(.builtin b16),(.ref 166)]⟩))
noncomputable def o162 : Obj := (ob (.type b0) (.seq ⟨[]⟩ 0))
noncomputable def o163 : Obj := (ob .none (.fields ⟨[]⟩))
noncomputable def a86 : Str := ⟨⟨[108,97,115,116]⟩⟩
noncomputable def a87 : Str := ⟨⟨[108,101,97,110,101,115,116]⟩⟩
noncomputable def a88 : Str := ⟨⟨[115,101,97,114,99,104]⟩⟩
noncomputable def a89 : Str := ⟨⟨[116,114,101,101]⟩⟩
noncomputable def o164 : Obj := (ob (.type b0) (.seq ⟨[(.str a68 421),(.str a69 422),(.str a47 423),(.str a46 424),(.str a75 425),(.str a67 426),(.str a81 427),(.str a86 428),(.str a87 429),(.str a45 430),(.str a88 431),(.str a89 432)]⟩ 0))
noncomputable def o165 : Obj := (ob (.type b0) (.seq ⟨[]⟩ 0))
noncomputable def o166 : Obj := (cO a20 (G.top 22))
noncomputable def o167 : Obj := (ob (.type b1) (.fields ⟨[(.str a20 418),(.str a20 419),(.str a36 420),(i 102),(i 3),(i 0),(i 0),(i 3),(.ref 171),(.bool .true),(i 181),(.ref 172),.none,(.ref 173),(.ref 174),(.ref 175),(i 433),(i 102),(.str a36 434)]⟩))
noncomputable def o168 : Obj := (fO (.type b17) a20 (G.top 22) (.str a41 318) (.ref 176))
noncomputable def o169 : Obj := (ob (.type b0) (.seq ⟨[]⟩ 0))
noncomputable def o170 : Obj := (ob .none (.fields ⟨[]⟩))
noncomputable def a90 : Str := ⟨⟨[95,108,97,119,95,115,99,114,105,112,116]⟩⟩
noncomputable def a91 : Str := ⟨⟨[95,108,97,119,95,107]⟩⟩
noncomputable def a92 : Str := ⟨⟨[95,108,97,119,95,99,101,108,108]⟩⟩
noncomputable def a93 : Str := ⟨⟨[95,108,97,119,95,110,117,109,98,101,114]⟩⟩
noncomputable def o171 : Obj := (ob (.type b0) (.seq ⟨[(.str a90 441),(.str a91 442),(.str a92 443),(.str a93 444)]⟩ 0))
noncomputable def o172 : Obj := (ob (.type b0) (.seq ⟨[]⟩ 0))
noncomputable def o173 : Obj := (cO a21 (G.top 24))
noncomputable def o174 : Obj := (ob (.type b1) (.fields ⟨[(.str a21 438),(.str a21 439),(.str a36 440),(i 119),(i 2),(i 0),(i 0),(i 3),(.ref 178),(.bool .true),(i 181),(.ref 179),.none,(.ref 180),(.ref 181),(.ref 182),(i 445),(i 119),(.str a36 446)]⟩))
noncomputable def o175 : Obj := (fO (.type b17) a21 (G.top 24) (.str a48 436) (.ref 183))
noncomputable def o176 : Obj := (ob (.type b0) (.seq ⟨[]⟩ 0))
noncomputable def o177 : Obj := (ob .none (.fields ⟨[]⟩))
noncomputable def a94 : Str := ⟨⟨[95,108,97,119,95,112,117,114,115,101,95,104,101,114,101]⟩⟩
noncomputable def a95 : Str := ⟨⟨[95,108,97,119,95,109,97,110,121]⟩⟩
noncomputable def a96 : Str := ⟨⟨[95,108,97,119,95,102,111,117,110,100]⟩⟩
noncomputable def o178 : Obj := (ob (.type b0) (.seq ⟨[(.str a94 451),(.str a95 452),(.str a96 453)]⟩ 0))
noncomputable def o179 : Obj := (ob (.type b0) (.seq ⟨[]⟩ 0))
noncomputable def o180 : Obj := (cO a22 (G.top 25))
noncomputable def o181 : Obj := (ob (.type b1) (.fields ⟨[(.str a22 448),(.str a22 449),(.str a36 450),(i 129),(i 2),(i 0),(i 0),(i 3),(.ref 185),(.bool .true),(i 181),(.ref 186),.none,(.ref 187),(.ref 188),(.ref 189),(i 454),(i 129),(.str a36 455)]⟩))
noncomputable def o182 : Obj := (fO (.type b17) a22 (G.top 25) (.str a48 436) (.ref 190))
noncomputable def o183 : Obj := (ob (.type b0) (.seq ⟨[]⟩ 0))
noncomputable def o184 : Obj := (ob .none (.fields ⟨[]⟩))
noncomputable def o185 : Obj := (ob (.type b0) (.seq ⟨[(.str a94 460),(.str a95 461),(.str a96 462),(.str a91 463)]⟩ 0))
noncomputable def o186 : Obj := (ob (.type b0) (.seq ⟨[]⟩ 0))
noncomputable def o187 : Obj := (cO a23 (G.top 26))
noncomputable def o188 : Obj := (ob (.type b1) (.fields ⟨[(.str a23 457),(.str a23 458),(.str a36 459),(i 133),(i 2),(i 0),(i 0),(i 3),(.ref 192),(.bool .true),(i 181),(.ref 193),.none,(.ref 194),(.ref 195),(.ref 196),(i 464),(i 133),(.str a36 465)]⟩))
noncomputable def o189 : Obj := (fO (.type b17) a23 (G.top 26) (.str a48 436) (.ref 197))
noncomputable def o190 : Obj := (ob (.type b0) (.seq ⟨[]⟩ 0))
noncomputable def o191 : Obj := (ob .none (.fields ⟨[]⟩))
noncomputable def o192 : Obj := (cO a24 (G.top 27))
noncomputable def o193 : Obj := (ob (.type b1) (.fields ⟨[(.str a24 467),(.str a24 468),(.str a36 469),(i 138),(i 3),(i 0),(i 0),(i 3),(.ref 199),(.bool .true),(i 181),(.ref 200),.none,.none,.none,(.ref 201),(i 470),(i 138),(.str a36 471)]⟩))
noncomputable def o194 : Obj := (fO (.type b17) a24 (G.top 27) (.str a48 436) (.ref 202))
noncomputable def o195 : Obj := (ob (.type b0) (.seq ⟨[]⟩ 0))
noncomputable def o196 : Obj := (ob .none (.fields ⟨[]⟩))
noncomputable def a97 : Str := ⟨⟨[95,108,97,119,95,108,101,97,115,116]⟩⟩
noncomputable def a98 : Str := ⟨⟨[95,108,97,119,95,109,111,115,116]⟩⟩
noncomputable def a99 : Str := ⟨⟨[95,108,97,119,95,115,111,109,101]⟩⟩
noncomputable def a100 : Str := ⟨⟨[95,108,97,119,95,112,108,97,99,101,115]⟩⟩
noncomputable def a101 : Str := ⟨⟨[95,108,97,119,95,111,110,101]⟩⟩
noncomputable def a102 : Str := ⟨⟨[95,108,97,119,95,111,116,104,101,114]⟩⟩
noncomputable def a103 : Str := ⟨⟨[95,108,97,119,95,101,110,100,115]⟩⟩
noncomputable def a104 : Str := ⟨⟨[95,108,97,119,95,116,105,101]⟩⟩
noncomputable def o197 : Obj := (ob (.type b0) (.seq ⟨[(.str a94 476),(.str a97 477),(.str a98 478),(.str a95 479),(.str a96 480),(.str a99 481),(.str a100 482),(.str a101 483),(.str a102 484),(.str a103 485),(.str a104 486)]⟩ 0))
noncomputable def o198 : Obj := (ob (.type b0) (.seq ⟨[]⟩ 0))
noncomputable def o199 : Obj := (cO a25 (G.top 28))
noncomputable def o200 : Obj := (ob (.type b1) (.fields ⟨[(.str a25 473),(.str a25 474),(.str a36 475),(i 153),(i 3),(i 0),(i 0),(i 3),(.ref 204),(.bool .true),(i 181),(.ref 205),.none,(.ref 206),(.ref 207),(.ref 208),(i 487),(i 153),(.str a36 488)]⟩))
noncomputable def o201 : Obj := (fO (.type b17) a25 (G.top 28) (.str a48 436) (.ref 209))
noncomputable def o202 : Obj := (ob (.type b0) (.seq ⟨[]⟩ 0))
noncomputable def o203 : Obj := (ob .none (.fields ⟨[]⟩))
noncomputable def a105 : Str := ⟨⟨[95,108,97,119,95,119,101,98,95,104,101,114,101]⟩⟩
noncomputable def a106 : Str := ⟨⟨[95,108,97,119,95,112,108,97,99,101]⟩⟩
noncomputable def a107 : Str := ⟨⟨[95,108,97,119,95,114,111,119]⟩⟩
noncomputable def a108 : Str := ⟨⟨[95,108,97,119,95,115,116,101,112]⟩⟩
noncomputable def o204 : Obj := (ob (.type b0) (.seq ⟨[(.str a105 493),(.str a96 494),(.str a106 495),(.str a107 496),(.str a108 497),(.str a101 498),(.str a102 499)]⟩ 0))
noncomputable def o205 : Obj := (ob (.type b0) (.seq ⟨[]⟩ 0))
noncomputable def o206 : Obj := (cO a26 (G.top 29))
noncomputable def o207 : Obj := (ob (.type b1) (.fields ⟨[(.str a26 490),(.str a26 491),(.str a36 492),(i 164),(i 1),(i 0),(i 0),(i 3),(.ref 211),(.bool .true),(i 181),(.ref 212),.none,(.ref 213),(.ref 214),(.ref 215),(i 500),(i 164),(.str a36 501)]⟩))
noncomputable def o208 : Obj := (fO (.type b17) a26 (G.top 29) (.str a48 436) (.ref 216))
noncomputable def o209 : Obj := (ob (.type b0) (.seq ⟨[]⟩ 0))
noncomputable def o210 : Obj := (ob .none (.fields ⟨[]⟩))
noncomputable def a109 : Str := ⟨⟨[95,108,97,119,95,107,105,110,100]⟩⟩
noncomputable def o211 : Obj := (ob (.type b0) (.seq ⟨[(.str a105 506),(.str a109 507),(.str a96 508)]⟩ 0))
noncomputable def o212 : Obj := (ob (.type b0) (.seq ⟨[]⟩ 0))
noncomputable def o213 : Obj := (cO a27 (G.top 30))
noncomputable def o214 : Obj := (ob (.type b1) (.fields ⟨[(.str a27 503),(.str a27 504),(.str a36 505),(i 177),(i 2),(i 0),(i 0),(i 3),(.ref 218),(.bool .true),(i 181),(.ref 219),.none,(.ref 220),(.ref 221),(.ref 222),(i 509),(i 177),(.str a36 510)]⟩))
noncomputable def o215 : Obj := (fO (.type b17) a27 (G.top 30) (.str a48 436) (.ref 223))
noncomputable def o216 : Obj := (ob (.type b0) (.seq ⟨[]⟩ 0))
noncomputable def o217 : Obj := (ob .none (.fields ⟨[]⟩))
noncomputable def o218 : Obj := (cO a28 (G.top 31))
noncomputable def o219 : Obj := (ob (.type b1) (.fields ⟨[(.str a28 512),(.str a28 513),(.str a36 514),(i 182),(i 3),(i 0),(i 0),(i 3),(.ref 225),(.bool .true),(i 181),(.ref 226),.none,.none,.none,(.ref 227),(i 515),(i 182),(.str a36 516)]⟩))
noncomputable def o220 : Obj := (fO (.type b17) a28 (G.top 31) (.str a48 436) (.ref 228))
noncomputable def o221 : Obj := (ob (.type b0) (.seq ⟨[]⟩ 0))
noncomputable def o222 : Obj := (ob .none (.fields ⟨[]⟩))
noncomputable def o223 : Obj := (cO a29 (G.top 32))
noncomputable def o224 : Obj := (ob (.type b1) (.fields ⟨[(.str a29 518),(.str a29 519),(.str a36 520),(i 186),(i 3),(i 0),(i 0),(i 3),(.ref 230),(.bool .true),(i 181),(.ref 231),.none,.none,.none,(.ref 232),(i 521),(i 186),(.str a36 522)]⟩))
noncomputable def o225 : Obj := (fO (.type b17) a29 (G.top 32) (.str a48 436) (.ref 233))
noncomputable def o226 : Obj := (ob (.type b0) (.seq ⟨[]⟩ 0))
noncomputable def o227 : Obj := (ob .none (.fields ⟨[]⟩))
noncomputable def a110 : Str := ⟨⟨[95,108,97,119,95,102,97,114,115]⟩⟩
noncomputable def o228 : Obj := (ob (.type b0) (.seq ⟨[(.str a105 527),(.str a109 528),(.str a110 529),(.str a99 530),(.str a96 531),(.str a91 532),(.str a102 533)]⟩ 0))
noncomputable def o229 : Obj := (ob (.type b0) (.seq ⟨[]⟩ 0))
noncomputable def o230 : Obj := (cO a30 (G.top 33))
noncomputable def o231 : Obj := (ob (.type b1) (.fields ⟨[(.str a30 524),(.str a30 525),(.str a36 526),(i 188),(i 2),(i 0),(i 0),(i 3),(.ref 235),(.bool .true),(i 181),(.ref 236),.none,(.ref 237),(.ref 238),(.ref 239),(i 534),(i 188),(.str a36 535)]⟩))
noncomputable def o232 : Obj := (fO (.type b17) a30 (G.top 33) (.str a48 436) (.ref 240))
noncomputable def o233 : Obj := (ob (.type b0) (.seq ⟨[]⟩ 0))
noncomputable def o234 : Obj := (ob .none (.fields ⟨[]⟩))
noncomputable def o235 : Obj := (cO a31 (G.top 34))
noncomputable def o236 : Obj := (ob (.type b1) (.fields ⟨[(.str a31 537),(.str a31 538),(.str a36 539),(i 196),(i 3),(i 0),(i 0),(i 3),(.ref 242),(.bool .true),(i 181),(.ref 243),.none,.none,.none,(.ref 244),(i 540),(i 196),(.str a36 541)]⟩))
noncomputable def o237 : Obj := (fO (.type b17) a31 (G.top 34) (.str a48 436) (.ref 245))
noncomputable def o238 : Obj := (ob (.type b0) (.seq ⟨[]⟩ 0))
noncomputable def o239 : Obj := (ob .none (.fields ⟨[]⟩))
noncomputable def o240 : Obj := (cO a32 (G.top 35))
noncomputable def o241 : Obj := (ob (.type b1) (.fields ⟨[(.str a32 543),(.str a32 544),(.str a36 545),(i 211),(i 4),(i 0),(i 0),(i 3),(.ref 247),(.bool .true),(i 181),(.ref 248),.none,.none,.none,(.ref 249),(i 546),(i 211),(.str a36 547)]⟩))
noncomputable def o242 : Obj := (fO (.type b17) a32 (G.top 35) (.str a48 436) (.ref 250))
noncomputable def o243 : Obj := (ob (.type b0) (.seq ⟨[]⟩ 0))
noncomputable def o244 : Obj := (ob .none (.fields ⟨[]⟩))
noncomputable def a111 : Str := ⟨⟨[95,108,97,119,95,115,116,114,101,110,103,116,104]⟩⟩
noncomputable def a112 : Str := ⟨⟨[95,108,97,119,95,99,97,117,103,104,116]⟩⟩
noncomputable def a113 : Str := ⟨⟨[95,108,97,119,95,101]⟩⟩
noncomputable def o245 : Obj := (ob (.type b0) (.seq ⟨[(.str a105 552),(.str a109 553),(.str a111 554),(.str a112 555),(.str a113 556)]⟩ 0))
noncomputable def o246 : Obj := (ob (.type b0) (.seq ⟨[]⟩ 0))
noncomputable def o247 : Obj := (cO a33 (G.top 36))
noncomputable def o248 : Obj := (ob (.type b1) (.fields ⟨[(.str a33 549),(.str a33 550),(.str a36 551),(i 231),(i 3),(i 0),(i 0),(i 3),(.ref 252),(.bool .true),(i 181),(.ref 253),.none,(.ref 254),(.ref 255),(.ref 256),(i 557),(i 231),(.str a36 558)]⟩))
noncomputable def o249 : Obj := (fO (.type b17) a33 (G.top 36) (.str a48 436) (.ref 257))
noncomputable def o250 : Obj := (ob (.type b0) (.seq ⟨[]⟩ 0))
noncomputable def o251 : Obj := (ob .none (.fields ⟨[]⟩))
noncomputable def a114 : Str := ⟨⟨[95,108,97,119,95,112,97,105,114,115,95,104,101,114,101]⟩⟩
noncomputable def a115 : Str := ⟨⟨[95,108,97,119,95,107,101,112,116]⟩⟩
noncomputable def o252 : Obj := (ob (.type b0) (.seq ⟨[(.str a90 563),(.str a94 564),(.str a109 565),(.str a111 566),(.str a97 567),(.str a98 568),(.str a105 569),(.str a114 570),(.str a96 571),(.str a115 572)]⟩ 0))
noncomputable def o253 : Obj := (ob (.type b0) (.seq ⟨[]⟩ 0))
noncomputable def o254 : Obj := (cO a34 (G.top 37))
noncomputable def o255 : Obj := (ob (.type b1) (.fields ⟨[(.str a34 560),(.str a34 561),(.str a36 562),(i 239),(i 1),(i 0),(i 0),(i 3),(.ref 259),(.bool .true),(i 181),(.ref 260),.none,(.ref 261),(.ref 262),(.ref 263),(i 573),(i 239),(.str a36 574)]⟩))
noncomputable def o256 : Obj := (fO (.type b17) a34 (G.top 37) (.str a48 436) (.ref 264))
noncomputable def t0 (P : PySem.Params) : PySem.W.BT := (n (q0 P) (n (q1 P) (n (o4 P) (n (q7 P) (n o6 (n o22 (n o54 (n o118 (l o246) .nil) (l o182)) (n o86 (l o150) (l o214))) (n o38 (n o70 (l o134) (l o198)) (n o102 (l o166) (l o230)))) (n (o14 P) (n o30 (n o62 (n o126 (l o254) .nil) (l o190)) (n o94 (l o158) (l o222))) (n o46 (n o78 (l o142) (l o206)) (n o110 (l o174) (l o238))))) (n o0 (n o10 (n o26 (n o58 (n o122 (l o250) .nil) (l o186)) (n o90 (l o154) (l o218))) (n o42 (n o74 (l o138) (l o202)) (n o106 (l o170) (l o234)))) (n o18 (n o34 (n o66 (l o130) (l o194)) (n o98 (l o162) (l o226))) (n o50 (n o82 (l o146) (l o210)) (n o114 (l o178) (l o242)))))) (n (q5 P) (n (q9 P) (n (o8 P) (n o24 (n o56 (n o120 (l o248) .nil) (l o184)) (n o88 (l o152) (l o216))) (n o40 (n o72 (l (o136 P)) (l o200)) (n o104 (l o168) (l o232)))) (n o16 (n o32 (n o64 (n o128 (l o256) .nil) (l o192)) (n o96 (l o160) (l o224))) (n o48 (n o80 (l o144) (l o208)) (n o112 (l o176) (l o240))))) (n o2 (n o12 (n o28 (n o60 (n o124 (l o252) .nil) (l o188)) (n o92 (l (o156 P)) (l o220))) (n o44 (n o76 (l o140) (l o204)) (n o108 (l o172) (l o236)))) (n o20 (n o36 (n o68 (l o132) (l o196)) (n o100 (l o164) (l o228))) (n o52 (n o84 (l o148) (l o212)) (n o116 (l o180) (l o244))))))) (n (q2 P) (n (q4 P) (n (q8 P) (n o7 (n o23 (n o55 (n o119 (l o247) .nil) (l o183)) (n o87 (l o151) (l o215))) (n (o39 P) (n o71 (l o135) (l o199)) (n o103 (l o167) (l o231)))) (n o15 (n o31 (n (o63 P) (n o127 (l o255) .nil) (l o191)) (n o95 (l o159) (l o223))) (n o47 (n o79 (l o143) (l o207)) (n o111 (l o175) (l o239))))) (n o5 (n o11 (n (o27 P) (n o59 (n o123 (l o251) .nil) (l o187)) (n o91 (l o155) (l o219))) (n o43 (n o75 (l o139) (l o203)) (n o107 (l o171) (l o235)))) (n o19 (n o35 (n o67 (l o131) (l o195)) (n o99 (l o163) (l o227))) (n (o51 P) (n o83 (l o147) (l o211)) (n o115 (l o179) (l o243)))))) (n (q6 P) (n (q10 P) (n o9 (n o25 (n (o57 P) (n o121 (l o249) .nil) (l o185)) (n o89 (l o153) (l o217))) (n o41 (n o73 (l o137) (l o201)) (n o105 (l o169) (l o233)))) (n o17 (n (o33 P) (n o65 (l o129) (l o193)) (n o97 (l o161) (l o225))) (n o49 (n o81 (l o145) (l o209)) (n o113 (l o177) (l o241))))) (n o3 (n o13 (n o29 (n o61 (n o125 (l o253) .nil) (l o189)) (n o93 (l o157) (l o221))) (n (o45 P) (n o77 (l o141) (l o205)) (n o109 (l o173) (l o237)))) (n (o21 P) (n o37 (n o69 (l o133) (l o197)) (n o101 (l o165) (l o229))) (n o53 (n o85 (l o149) (l o213)) (n o117 (l o181) (l o245))))))))
theorem pz0 : ∀ w : PySem.World, (fun os : PySem.OsState => PySem.W.Fast.tw10110043849684766642 PySem.W.Fast.tw14364793385576792824 PySem.Challenge.pw_farhail_k35_fewest_told w 11 (some (.ref 6)) 1 2157 (PySem.W.SharedT.mk (tB w.params) 15 (.mk [] [] [] 0 [] [] .false ⟨[]⟩ [] 0 .false .false .false 0 [2000,10,10] .false 0 .true [] [] 0 .false) (Array.mk ([] : List PySem.GenState)) (.mk 0 0 0 0) 187 os) (PySem.W.piecesOf sts0 env code (.mk 0 0 0 0) B)) = fun os => some (PySem.Flow.next, (PySem.W.SharedT.mk (t0 w.params) 266 (.mk [] [] [] 0 [] [] .false ⟨[]⟩ [] 0 .false .false .false 0 [2000,10,10] .false 0 .true [] [] 0 .false) (Array.mk ([] : List PySem.GenState)) (.mk 0 0 0 0) 576 os), code, (.mk 239 0 257 94)) := fun w => by kernel_rfl
theorem p0 (w : PySem.World) (os : PySem.OsState) : PySem.W.segRun PySem.treeTable PySem.Challenge.pw_farhail_k35_fewest_told w 11 (some (.ref 6)) 1 2157 (PySem.W.SharedT.mk (tB w.params) 15 (.mk [] [] [] 0 [] [] .false ⟨[]⟩ [] 0 .false .false .false 0 [2000,10,10] .false 0 .true [] [] 0 .false) (Array.mk ([] : List PySem.GenState)) (.mk 0 0 0 0) 187 os).abs (PySem.W.piecesOf sts0 env code (.mk 0 0 0 0) B) = some (PySem.Flow.next, (PySem.W.SharedT.mk (t0 w.params) 266 (.mk [] [] [] 0 [] [] .false ⟨[]⟩ [] 0 .false .false .false 0 [2000,10,10] .false 0 .true [] [] 0 .false) (Array.mk ([] : List PySem.GenState)) (.mk 0 0 0 0) 576 os).abs, code, (.mk 239 0 257 94)) := PySem.W.segRun_of (by rw [PySem.W.Fast.te10110043849684766642, PySem.W.Fast.te14364793385576792824]; exact congrFun (pz0 w) os)
noncomputable def hF (P : PySem.Params) : PySem.Heap := ⟨⟨[(q0 P), (q1 P), (q2 P), (o4 P), (q4 P), (q5 P), (q6 P), (q7 P), (q8 P), (q9 P), (q10 P), o0, o5, o2, o3, o6, o7, (o8 P), o9, o10, o11, o12, o13, (o14 P), o15, o16, o17, o18, o19, o20, (o21 P), o22, o23, o24, o25, o26, (o27 P), o28, o29, o30, o31, o32, (o33 P), o34, o35, o36, o37, o38, (o39 P), o40, o41, o42, o43, o44, (o45 P), o46, o47, o48, o49, o50, (o51 P), o52, o53, o54, o55, o56, (o57 P), o58, o59, o60, o61, o62, (o63 P), o64, o65, o66, o67, o68, o69, o70, o71, o72, o73, o74, o75, o76, o77, o78, o79, o80, o81, o82, o83, o84, o85, o86, o87, o88, o89, o90, o91, o92, o93, o94, o95, o96, o97, o98, o99, o100, o101, o102, o103, o104, o105, o106, o107, o108, o109, o110, o111, o112, o113, o114, o115, o116, o117, o118, o119, o120, o121, o122, o123, o124, o125, o126, o127, o128, o129, o130, o131, o132, o133, o134, o135, (o136 P), o137, o138, o139, o140, o141, o142, o143, o144, o145, o146, o147, o148, o149, o150, o151, o152, o153, o154, o155, (o156 P), o157, o158, o159, o160, o161, o162, o163, o164, o165, o166, o167, o168, o169, o170, o171, o172, o173, o174, o175, o176, o177, o178, o179, o180, o181, o182, o183, o184, o185, o186, o187, o188, o189, o190, o191, o192, o193, o194, o195, o196, o197, o198, o199, o200, o201, o202, o203, o204, o205, o206, o207, o208, o209, o210, o211, o212, o213, o214, o215, o216, o217, o218, o219, o220, o221, o222, o223, o224, o225, o226, o227, o228, o229, o230, o231, o232, o233, o234, o235, o236, o237, o238, o239, o240, o241, o242, o243, o244, o245, o246, o247, o248, o249, o250, o251, o252, o253, o254, o255, o256]⟩, (.mk [] [] [] 0 [] [] .false ⟨[]⟩ [] 0 .false .false .false 0 [2000,10,10] .false 0 .true [] [] 0 .false)⟩
theorem fin0 (w : PySem.World) : (fun os : PySem.OsState => PySem.W.Fast.tw14082659384304107361 PySem.W.Fast.tw14364793385576792824 PySem.Challenge.pw_farhail_k35_fewest_told w 11 (some (.ref 6)) 2 (PySem.W.SharedT.mk (t0 w.params) 266 (.mk [] [] [] 0 [] [] .false ⟨[]⟩ [] 0 .false .false .false 0 [2000,10,10] .false 0 .true [] [] 0 .false) (Array.mk ([] : List PySem.GenState)) (.mk 0 0 0 0) 576 os).abs (PySem.Thread.mk (PySem.W.doneF PySem.Flow.next) code (.mk 239 0 257 94) B)) = fun os => some (PySem.Shared.mk (hF w.params) (Array.mk ([] : List PySem.GenState)) (.mk 0 0 0 0) 576 os) := by kernel_rfl
theorem fin (w : PySem.World) (os : PySem.OsState) : PySem.W.topRun PySem.treeTable PySem.Challenge.pw_farhail_k35_fewest_told w 11 (some (.ref 6)) 2 (PySem.W.SharedT.mk (t0 w.params) 266 (.mk [] [] [] 0 [] [] .false ⟨[]⟩ [] 0 .false .false .false 0 [2000,10,10] .false 0 .true [] [] 0 .false) (Array.mk ([] : List PySem.GenState)) (.mk 0 0 0 0) 576 os).abs (PySem.W.restOf [] env code (.mk 239 0 257 94) B) = some (PySem.Shared.mk (hF w.params) (Array.mk ([] : List PySem.GenState)) (.mk 0 0 0 0) 576 os) := by rw [show PySem.W.restOf [] env code (.mk 239 0 257 94) B = (PySem.Thread.mk (PySem.W.doneF PySem.Flow.next) code (.mk 239 0 257 94) B) by kernel_rfl, PySem.W.Fast.te14082659384304107361, PySem.W.Fast.te14364793385576792824]; exact congrFun (fin0 w) os
theorem parts : PySem.W.behindTheImports PySem.Challenge.pw_farhail_k35_fewest_told = (sts0 ++ []) := by kernel_rfl
noncomputable abbrev SF (w : PySem.World) (os : PySem.OsState) : PySem.Shared := (PySem.Shared.mk (hF w.params) (Array.mk ([] : List PySem.GenState)) (.mk 0 0 0 0) 576 os)
theorem with_parts {tb : String → Option PySem.Builtin} {p : PySem.Program} {w : PySem.World} {n₀ : Nat} {a : Option PySem.Value} {N : Nat} {s : PySem.Shared} {r : Option PySem.Shared} {b b' : List PySem.Stmt} {e : PySem.Env} {c : PySem.Code} {q : PySem.Pos} {F : List PySem.Frame} (h : b = b') (k : PySem.W.topRun tb p w n₀ a N s (PySem.W.restOf b' e c q F) = r) : PySem.W.topRun tb p w n₀ a N s (PySem.W.restOf b e c q F) = r := by rw [h]; exact k
theorem run (w : PySem.World) (os : PySem.OsState) : PySem.W.topRun PySem.treeTable PySem.Challenge.pw_farhail_k35_fewest_told w 11 (some (.ref 6)) (12 + (1 + (2157 + 2))) (PySem.Shared.mk (PySem.W.boot_heap w.params) (Array.mk ([] : List PySem.GenState)) PySem.W.boot_drawn PySem.W.boot_toks os) (PySem.W.topStub PySem.Challenge.pw_farhail_k35_fewest_told) = some (PySem.Shared.mk (hF w.params) (Array.mk ([] : List PySem.GenState)) (.mk 0 0 0 0) 576 os) := PySem.W.go_top (pre w os) (PySem.W.piece_block (block w os) (with_parts parts (PySem.W.piece_app (p0 w os) (fin w os))))
theorem opens : ∀ w : PySem.World, (PySem.W.fencedOpening PySem.treeTable PySem.Challenge.pw_farhail_k35_fewest_told w 4438).map (fun s => (s.heap, s.gens, s.drawn, s.toks)) = some (PySem.W.boot_heap w.params, Array.mk [], PySem.W.boot_drawn, PySem.W.boot_toks) := PySem.W.boot_open (by kernel_rfl) (by kernel_rfl) (fun s => by kernel_rfl)
theorem size : ∀ w : PySem.World, ((PySem.W.boot_heap w.params).isNs PySem.mainGlobals && (Array.mk [] : Array PySem.GenState).size == 0, (PySem.W.boot_heap w.params).objs.size, (PySem.W.boot_heap w.params).nsMap PySem.mainGlobals "__annotations__") = (true, 11, (some (.ref 6))) := fun w => by kernel_rfl
noncomputable def K : PySem.Params → PySem.W.Frag := fun P => (nat_lit 2, (ob .none (.dict ⟨[]⟩ 0))) :: (nat_lit 3, (ob (.type "dict") (.dict ⟨[(.mk (PyData.keyHash P "__name__") (.str "__name__" 165) (.str "law_farhail_k35_fewest_told" 436)),(.mk (PyData.keyHash P "__doc__") (.str "__doc__" 166) .none),(.mk (PyData.keyHash P "__package__") (.str "__package__" 167) .none),(.mk (PyData.keyHash P "__loader__") (.str "__loader__" 168) (.builtin "__main__.__loader__#opaque")),(.mk (PyData.keyHash P "__spec__") (.str "__spec__" 169) .none),(.mk (PyData.keyHash P "__annotations__") (.str "__annotations__" 170) (.ref 6)),(.mk (PyData.keyHash P "__builtins__") (.str "__builtins__" 171) (.ref 4)),(.mk (PyData.keyHash P "__file__") (.str "__file__" 173) (.str "/claim/cut.py" 172)),(.mk (PyData.keyHash P "__cached__") (.str "__cached__" 174) .none),(.mk (PyData.keyHash P "HailError") (.str "HailError" 206) (.ref 24)),(.mk (PyData.keyHash P "NoPlace") (.str "NoPlace" 222) (.ref 37)),(.mk (PyData.keyHash P "NoThing") (.str "NoThing" 238) (.ref 49)),(.mk (PyData.keyHash P "NoLooks") (.str "NoLooks" 254) (.ref 61)),(.mk (PyData.keyHash P "TooMany") (.str "TooMany" 270) (.ref 73)),(.mk (PyData.keyHash P "near_lists") (.str "near_lists" 278) (.ref 80)),(.mk (PyData.keyHash P "fars_by") (.str "fars_by" 290) (.ref 87)),(.mk (PyData.keyHash P "place_asked") (.str "place_asked" 298) (.ref 94)),(.mk (PyData.keyHash P "fars_from") (.str "fars_from" 306) (.ref 101)),(.mk (PyData.keyHash P "things_of") (.str "things_of" 317) (.ref 108)),(.mk (PyData.keyHash P "MOST_SEARCHED") (.str "MOST_SEARCHED" 321) (.int 8 320)),(.mk (PyData.keyHash P "fars_of") (.str "fars_of" 327) (.ref 113)),(.mk (PyData.keyHash P "far_in") (.str "far_in" 335) (.ref 120)),(.mk (PyData.keyHash P "parters_in") (.str "parters_in" 341) (.ref 125)),(.mk (PyData.keyHash P "pairs_of") (.str "pairs_of" 355) (.ref 132)),(.mk (PyData.keyHash P "leanest_pairs") (.str "leanest_pairs" 361) (.ref 137)),(.mk (PyData.keyHash P "too_seldom") (.str "too_seldom" 367) (.ref 142)),(.mk (PyData.keyHash P "Search") (.str "Search" 417) (.ref 166)),(.mk (PyData.keyHash P "fewest_looks") (.str "fewest_looks" 435) (.ref 177)),(.mk (PyData.keyHash P "_law_purse") (.str "_law_purse" 447) (.ref 184)),(.mk (PyData.keyHash P "_law_take") (.str "_law_take" 456) (.ref 191)),(.mk (PyData.keyHash P "_law_order") (.str "_law_order" 466) (.ref 198)),(.mk (PyData.keyHash P "_law_pairs") (.str "_law_pairs" 472) (.ref 203)),(.mk (PyData.keyHash P "_law_web") (.str "_law_web" 489) (.ref 210)),(.mk (PyData.keyHash P "_law_table") (.str "_law_table" 502) (.ref 217)),(.mk (PyData.keyHash P "_law_things") (.str "_law_things" 511) (.ref 224)),(.mk (PyData.keyHash P "_law_far") (.str "_law_far" 517) (.ref 229)),(.mk (PyData.keyHash P "_law_parters") (.str "_law_parters" 523) (.ref 234)),(.mk (PyData.keyHash P "_law_parted") (.str "_law_parted" 536) (.ref 241)),(.mk (PyData.keyHash P "_law_fewest") (.str "_law_fewest" 542) (.ref 246)),(.mk (PyData.keyHash P "_law_right") (.str "_law_right" 548) (.ref 251)),(.mk (PyData.keyHash P "_law_refused") (.str "_law_refused" 559) (.ref 258)),(.mk (PyData.keyHash P "law") (.str "law" 575) (.ref 265))]⟩ 42))) :: (nat_lit 15, (ob (.type "tuple") (.seq ⟨[(.type "ValueError")]⟩ 0))) :: (nat_lit 22, (ob (.type "tuple") (.seq ⟨[]⟩ 0))) :: (nat_lit 23, (ob (.type "dict") (.dict ⟨[(.mk (PyData.keyHash P "__module__") (.str "__module__" 196) (.str "farhail.errors" 187)),(.mk (PyData.keyHash P "__firstlineno__") (.str "__firstlineno__" 200) (.int 2 199)),(.mk (PyData.keyHash P "__static_attributes__") (.str "__static_attributes__" 201) (.ref 22)),(.mk (PyData.keyHash P "__weakref__") (.str "__weakref__" 203) (.ref 25)),(.mk (PyData.keyHash P "__doc__") (.str "__doc__" 204) .none)]⟩ 3))) :: (nat_lit 24, (.mk (.type "type") none (.cls (.mk "HailError" [(.type "ValueError")] [(.ref 24),(.type "ValueError"),(.type "Exception"),(.type "BaseException"),(.type "object")] 23 "HailError" .true [] [(.ref 37),(.ref 49),(.ref 61),(.ref 73)] .false none .false)) ⟨[(some (.ref 15)),none,(some (.str "HailError" 189)),(some (.str "HailError" 197)),(some (.builtin "ValueError.__new__")),(some (.bool .true))]⟩)) :: (nat_lit 25, (ob (.type "getset_descriptor") (.fields ⟨[(.str "__weakref__" 202),(.ref 24),(.builtin "ExceptionGroup.__weakref__"),.none]⟩))) :: (nat_lit 28, (ob (.type "tuple") (.seq ⟨[(.ref 24)]⟩ 0))) :: (nat_lit 35, (ob (.type "tuple") (.seq ⟨[]⟩ 0))) :: (nat_lit 36, (ob (.type "dict") (.dict ⟨[(.mk (PyData.keyHash P "__module__") (.str "__module__" 214) (.str "farhail.errors" 187)),(.mk (PyData.keyHash P "__firstlineno__") (.str "__firstlineno__" 218) (.int 4 217)),(.mk (PyData.keyHash P "__static_attributes__") (.str "__static_attributes__" 219) (.ref 35)),(.mk (PyData.keyHash P "__doc__") (.str "__doc__" 220) .none)]⟩ 2))) :: (nat_lit 37, (.mk (.type "type") none (.cls (.mk "NoPlace" [(.ref 24)] [(.ref 37),(.ref 24),(.type "ValueError"),(.type "Exception"),(.type "BaseException"),(.type "object")] 36 "NoPlace" .true [] [] .false none .false)) ⟨[(some (.ref 28)),none,(some (.str "NoPlace" 207)),(some (.str "NoPlace" 215)),(some (.builtin "ValueError.__new__")),(some (.bool .true))]⟩)) :: (nat_lit 40, (ob (.type "tuple") (.seq ⟨[(.ref 24)]⟩ 0))) :: (nat_lit 47, (ob (.type "tuple") (.seq ⟨[]⟩ 0))) :: (nat_lit 48, (ob (.type "dict") (.dict ⟨[(.mk (PyData.keyHash P "__module__") (.str "__module__" 230) (.str "farhail.errors" 187)),(.mk (PyData.keyHash P "__firstlineno__") (.str "__firstlineno__" 234) (.int 6 233)),(.mk (PyData.keyHash P "__static_attributes__") (.str "__static_attributes__" 235) (.ref 47)),(.mk (PyData.keyHash P "__doc__") (.str "__doc__" 236) .none)]⟩ 2))) :: (nat_lit 49, (.mk (.type "type") none (.cls (.mk "NoThing" [(.ref 24)] [(.ref 49),(.ref 24),(.type "ValueError"),(.type "Exception"),(.type "BaseException"),(.type "object")] 48 "NoThing" .true [] [] .false none .false)) ⟨[(some (.ref 40)),none,(some (.str "NoThing" 223)),(some (.str "NoThing" 231)),(some (.builtin "ValueError.__new__")),(some (.bool .true))]⟩)) :: (nat_lit 52, (ob (.type "tuple") (.seq ⟨[(.ref 24)]⟩ 0))) :: (nat_lit 59, (ob (.type "tuple") (.seq ⟨[]⟩ 0))) :: (nat_lit 60, (ob (.type "dict") (.dict ⟨[(.mk (PyData.keyHash P "__module__") (.str "__module__" 246) (.str "farhail.errors" 187)),(.mk (PyData.keyHash P "__firstlineno__") (.str "__firstlineno__" 250) (.int 8 249)),(.mk (PyData.keyHash P "__static_attributes__") (.str "__static_attributes__" 251) (.ref 59)),(.mk (PyData.keyHash P "__doc__") (.str "__doc__" 252) .none)]⟩ 2))) :: (nat_lit 61, (.mk (.type "type") none (.cls (.mk "NoLooks" [(.ref 24)] [(.ref 61),(.ref 24),(.type "ValueError"),(.type "Exception"),(.type "BaseException"),(.type "object")] 60 "NoLooks" .true [] [] .false none .false)) ⟨[(some (.ref 52)),none,(some (.str "NoLooks" 239)),(some (.str "NoLooks" 247)),(some (.builtin "ValueError.__new__")),(some (.bool .true))]⟩)) :: (nat_lit 64, (ob (.type "tuple") (.seq ⟨[(.ref 24)]⟩ 0))) :: (nat_lit 71, (ob (.type "tuple") (.seq ⟨[]⟩ 0))) :: (nat_lit 72, (ob (.type "dict") (.dict ⟨[(.mk (PyData.keyHash P "__module__") (.str "__module__" 262) (.str "farhail.errors" 187)),(.mk (PyData.keyHash P "__firstlineno__") (.str "__firstlineno__" 266) (.int 10 265)),(.mk (PyData.keyHash P "__static_attributes__") (.str "__static_attributes__" 267) (.ref 71)),(.mk (PyData.keyHash P "__doc__") (.str "__doc__" 268) .none)]⟩ 2))) :: (nat_lit 73, (.mk (.type "type") none (.cls (.mk "TooMany" [(.ref 24)] [(.ref 73),(.ref 24),(.type "ValueError"),(.type "Exception"),(.type "BaseException"),(.type "object")] 72 "TooMany" .true [] [] .false none .false)) ⟨[(some (.ref 64)),none,(some (.str "TooMany" 255)),(some (.str "TooMany" 263)),(some (.builtin "ValueError.__new__")),(some (.bool .true))]⟩)) :: (nat_lit 76, (ob (.type "tuple") (.seq ⟨[]⟩ 0))) :: (nat_lit 79, (ob (.type "code") (.fields ⟨[(.str "near_lists" 273),(.str "near_lists" 274),(.str "/claim/cut.py" 275),(.int 13 0),(.int 1 0),(.int 0 0),(.int 0 0),(.int 3 0),(.ref 76),(.bool .true),(.int 181 0),(.ref 77),.none,.none,.none,(.ref 78),(.int 276 0),(.int 13 0),(.str "/claim/cut.py" 277)]⟩))) :: (nat_lit 80, (fO (.type "function") "near_lists" (G.top 7) (.str "farhail.webs" 271) (.ref 79))) :: (nat_lit 81, (ob (.type "tuple") (.seq ⟨[]⟩ 0))) :: (nat_lit 83, (ob (.type "tuple") (.seq ⟨[(.str "near" 282),(.str "place" 283),(.str "found" 284),(.str "line" 285),(.str "at" 286),(.str "other" 287)]⟩ 0))) :: (nat_lit 84, (ob (.type "tuple") (.seq ⟨[]⟩ 0))) :: (nat_lit 86, (ob (.type "code") (.fields ⟨[(.str "fars_by" 279),(.str "fars_by" 280),(.str "/claim/cut.py" 281),(.int 19 0),(.int 2 0),(.int 0 0),(.int 0 0),(.int 3 0),(.ref 81),(.bool .true),(.int 181 0),(.ref 82),.none,(.ref 83),(.ref 84),(.ref 85),(.int 288 0),(.int 19 0),(.str "/claim/cut.py" 289)]⟩))) :: (nat_lit 87, (fO (.type "function") "fars_by" (G.top 8) (.str "farhail.webs" 271) (.ref 86))) :: (nat_lit 88, (ob (.type "tuple") (.seq ⟨[]⟩ 0))) :: (nat_lit 90, (ob (.type "tuple") (.seq ⟨[(.str "web" 294),(.str "place" 295)]⟩ 0))) :: (nat_lit 91, (ob (.type "tuple") (.seq ⟨[]⟩ 0))) :: (nat_lit 93, (ob (.type "code") (.fields ⟨[(.str "place_asked" 291),(.str "place_asked" 292),(.str "/claim/cut.py" 293),(.int 31 0),(.int 2 0),(.int 0 0),(.int 0 0),(.int 3 0),(.ref 88),(.bool .true),(.int 181 0),(.ref 89),.none,(.ref 90),(.ref 91),(.ref 92),(.int 296 0),(.int 31 0),(.str "/claim/cut.py" 297)]⟩))) :: (nat_lit 94, (fO (.type "function") "place_asked" (G.top 9) (.str "farhail.webs" 271) (.ref 93))) :: (nat_lit 95, (ob (.type "tuple") (.seq ⟨[]⟩ 0))) :: (nat_lit 97, (ob (.type "tuple") (.seq ⟨[(.str "web" 302),(.str "place" 303)]⟩ 0))) :: (nat_lit 98, (ob (.type "tuple") (.seq ⟨[]⟩ 0))) :: (nat_lit 100, (ob (.type "code") (.fields ⟨[(.str "fars_from" 299),(.str "fars_from" 300),(.str "/claim/cut.py" 301),(.int 34 0),(.int 2 0),(.int 0 0),(.int 0 0),(.int 3 0),(.ref 95),(.bool .true),(.int 181 0),(.ref 96),.none,(.ref 97),(.ref 98),(.ref 99),(.int 304 0),(.int 34 0),(.str "/claim/cut.py" 305)]⟩))) :: (nat_lit 101, (fO (.type "function") "fars_from" (G.top 10) (.str "farhail.webs" 271) (.ref 100))) :: (nat_lit 102, (ob (.type "tuple") (.seq ⟨[]⟩ 0))) :: (nat_lit 104, (ob (.type "tuple") (.seq ⟨[(.str "web" 312),(.str "kind" 313),(.str "places" 314)]⟩ 0))) :: (nat_lit 105, (ob (.type "tuple") (.seq ⟨[]⟩ 0))) :: (nat_lit 107, (ob (.type "code") (.fields ⟨[(.str "things_of" 309),(.str "things_of" 310),(.str "/claim/cut.py" 311),(.int 38 0),(.int 2 0),(.int 0 0),(.int 0 0),(.int 3 0),(.ref 102),(.bool .true),(.int 181 0),(.ref 103),.none,(.ref 104),(.ref 105),(.ref 106),(.int 315 0),(.int 38 0),(.str "/claim/cut.py" 316)]⟩))) :: (nat_lit 108, (fO (.type "function") "things_of" (G.top 12) (.str "farhail.codes" 307) (.ref 107))) :: (nat_lit 109, (ob (.type "tuple") (.seq ⟨[]⟩ 0))) :: (nat_lit 112, (ob (.type "code") (.fields ⟨[(.str "fars_of" 322),(.str "fars_of" 323),(.str "/claim/cut.py" 324),(.int 47 0),(.int 1 0),(.int 0 0),(.int 0 0),(.int 3 0),(.ref 109),(.bool .true),(.int 181 0),(.ref 110),.none,.none,.none,(.ref 111),(.int 325 0),(.int 47 0),(.str "/claim/cut.py" 326)]⟩))) :: (nat_lit 113, (fO (.type "function") "fars_of" (G.top 15) (.str "farhail.fewest" 318) (.ref 112))) :: (nat_lit 114, (ob (.type "tuple") (.seq ⟨[]⟩ 0))) :: (nat_lit 116, (ob (.type "tuple") (.seq ⟨[(.str "fars" 331),(.str "thing" 332)]⟩ 0))) :: (nat_lit 117, (ob (.type "tuple") (.seq ⟨[]⟩ 0))) :: (nat_lit 119, (ob (.type "code") (.fields ⟨[(.str "far_in" 328),(.str "far_in" 329),(.str "/claim/cut.py" 330),(.int 49 0),(.int 2 0),(.int 0 0),(.int 0 0),(.int 3 0),(.ref 114),(.bool .true),(.int 181 0),(.ref 115),.none,(.ref 116),(.ref 117),(.ref 118),(.int 333 0),(.int 49 0),(.str "/claim/cut.py" 334)]⟩))) :: (nat_lit 120, (fO (.type "function") "far_in" (G.top 16) (.str "farhail.fewest" 318) (.ref 119))) :: (nat_lit 121, (ob (.type "tuple") (.seq ⟨[]⟩ 0))) :: (nat_lit 124, (ob (.type "code") (.fields ⟨[(.str "parters_in" 336),(.str "parters_in" 337),(.str "/claim/cut.py" 338),(.int 53 0),(.int 3 0),(.int 0 0),(.int 0 0),(.int 3 0),(.ref 121),(.bool .true),(.int 181 0),(.ref 122),.none,.none,.none,(.ref 123),(.int 339 0),(.int 53 0),(.str "/claim/cut.py" 340)]⟩))) :: (nat_lit 125, (fO (.type "function") "parters_in" (G.top 17) (.str "farhail.fewest" 318) (.ref 124))) :: (nat_lit 126, (ob (.type "tuple") (.seq ⟨[]⟩ 0))) :: (nat_lit 128, (ob (.type "tuple") (.seq ⟨[(.str "web" 345),(.str "kind" 346),(.str "things" 347),(.str "table" 348),(.str "found" 349),(.str "at" 350),(.str "one" 351),(.str "other" 352)]⟩ 0))) :: (nat_lit 129, (ob (.type "tuple") (.seq ⟨[]⟩ 0))) :: (nat_lit 131, (ob (.type "code") (.fields ⟨[(.str "pairs_of" 342),(.str "pairs_of" 343),(.str "/claim/cut.py" 344),(.int 55 0),(.int 2 0),(.int 0 0),(.int 0 0),(.int 3 0),(.ref 126),(.bool .true),(.int 181 0),(.ref 127),.none,(.ref 128),(.ref 129),(.ref 130),(.int 353 0),(.int 55 0),(.str "/claim/cut.py" 354)]⟩))) :: (nat_lit 132, (fO (.type "function") "pairs_of" (G.top 18) (.str "farhail.fewest" 318) (.ref 131))) :: (nat_lit 133, (ob (.type "tuple") (.seq ⟨[]⟩ 0))) :: (nat_lit 136, (ob (.type "code") (.fields ⟨[(.str "leanest_pairs" 356),(.str "leanest_pairs" 357),(.str "/claim/cut.py" 358),(.int 63 0),(.int 1 0),(.int 0 0),(.int 0 0),(.int 3 0),(.ref 133),(.bool .true),(.int 181 0),(.ref 134),.none,.none,.none,(.ref 135),(.int 359 0),(.int 63 0),(.str "/claim/cut.py" 360)]⟩))) :: (nat_lit 137, (fO (.type "function") "leanest_pairs" (G.top 19) (.str "farhail.fewest" 318) (.ref 136))) :: (nat_lit 138, (ob (.type "tuple") (.seq ⟨[]⟩ 0))) :: (nat_lit 141, (ob (.type "code") (.fields ⟨[(.str "too_seldom" 362),(.str "too_seldom" 363),(.str "/claim/cut.py" 364),(.int 73 0),(.int 3 0),(.int 0 0),(.int 0 0),(.int 3 0),(.ref 138),(.bool .true),(.int 181 0),(.ref 139),.none,.none,.none,(.ref 140),(.int 365 0),(.int 73 0),(.str "/claim/cut.py" 366)]⟩))) :: (nat_lit 142, (fO (.type "function") "too_seldom" (G.top 20) (.str "farhail.fewest" 318) (.ref 141))) :: (nat_lit 150, (ob (.type "tuple") (.seq ⟨[]⟩ 0))) :: (nat_lit 152, (ob (.type "tuple") (.seq ⟨[(.str "self" 383),(.str "pairs" 384),(.str "strength" 385),(.str "many" 386)]⟩ 0))) :: (nat_lit 153, (ob (.type "tuple") (.seq ⟨[]⟩ 0))) :: (nat_lit 155, (ob (.type "code") (.fields ⟨[(.str "__init__" 380),(.str "Search.__init__" 381),(.str "/claim/cut.py" 382),(.int 82 0),(.int 4 0),(.int 0 0),(.int 0 0),(.int 3 0),(.ref 150),(.bool .true),(.int 181 0),(.ref 151),.none,(.ref 152),(.ref 153),(.ref 154),(.int 387 0),(.int 82 0),(.str "/claim/cut.py" 388)]⟩))) :: (nat_lit 156, (.mk (.type "function") none (.func (PySem.W.fnOf "__init__" "Search.__init__" (L2.defArgs (L2.inClass (G.top 21) 0)) (L2.defBody (L2.inClass (G.top 21) 0)) (L2.defScope (L2.inClass (G.top 21) 0)) .none .none .none (.str "farhail.fewest" 318) none (.ref 155) .none)) ⟨[]⟩)) :: (nat_lit 157, (ob (.type "tuple") (.seq ⟨[]⟩ 0))) :: (nat_lit 159, (ob (.type "tuple") (.seq ⟨[(.str "self" 393),(.str "within" 394),(.str "without" 395),(.str "pair" 396),(.str "one" 397),(.str "other" 398),(.str "parters" 399),(.str "trees" 400),(.str "ahead" 401),(.str "place" 402)]⟩ 0))) :: (nat_lit 160, (ob (.type "tuple") (.seq ⟨[]⟩ 0))) :: (nat_lit 162, (ob (.type "code") (.fields ⟨[(.str "tree_of" 390),(.str "Search.tree_of" 391),(.str "/claim/cut.py" 392),(.int 88 0),(.int 3 0),(.int 0 0),(.int 0 0),(.int 3 0),(.ref 157),(.bool .true),(.int 181 0),(.ref 158),.none,(.ref 159),(.ref 160),(.ref 161),(.int 403 0),(.int 88 0),(.str "/claim/cut.py" 404)]⟩))) :: (nat_lit 163, (.mk (.type "function") none (.func (PySem.W.fnOf "tree_of" "Search.tree_of" (L2.defArgs (L2.inClass (G.top 21) 1)) (L2.defBody (L2.inClass (G.top 21) 1)) (L2.defScope (L2.inClass (G.top 21) 1)) .none .none .none (.str "farhail.fewest" 318) none (.ref 162) .none)) ⟨[]⟩)) :: (nat_lit 164, (ob (.type "tuple") (.seq ⟨[(.str "looks" 406),(.str "many" 407),(.str "pairs" 408),(.str "strength" 409)]⟩ 0))) :: (nat_lit 165, (ob (.type "dict") (.dict ⟨[(.mk (PyData.keyHash P "__module__") (.str "__module__" 375) (.str "farhail.fewest" 318)),(.mk (PyData.keyHash P "__firstlineno__") (.str "__firstlineno__" 379) (.int 80 378)),(.mk (PyData.keyHash P "__init__") (.str "__init__" 389) (.ref 156)),(.mk (PyData.keyHash P "tree_of") (.str "tree_of" 405) (.ref 163)),(.mk (PyData.keyHash P "__static_attributes__") (.str "__static_attributes__" 410) (.ref 164)),(.mk (PyData.keyHash P "__dict__") (.str "__dict__" 412) (.ref 167)),(.mk (PyData.keyHash P "__weakref__") (.str "__weakref__" 414) (.ref 168)),(.mk (PyData.keyHash P "__doc__") (.str "__doc__" 415) .none)]⟩ 4))) :: (nat_lit 166, (.mk (.type "type") none (.cls (.mk "Search" [(.type "object")] [(.ref 166),(.type "object")] 165 "Search" .true [] [] .false none .false)) ⟨[none,none,(some (.str "Search" 368)),(some (.str "Search" 376)),(some (.builtin "object.__new__")),(some (.bool .true))]⟩)) :: (nat_lit 167, (ob (.type "getset_descriptor") (.fields ⟨[(.str "__dict__" 411),(.ref 166),(.builtin "function.__dict__"),(.builtin "function.__dict__#set")]⟩))) :: (nat_lit 168, (ob (.type "getset_descriptor") (.fields ⟨[(.str "__weakref__" 413),(.ref 166),(.builtin "ExceptionGroup.__weakref__"),.none]⟩))) :: (nat_lit 171, (ob (.type "tuple") (.seq ⟨[]⟩ 0))) :: (nat_lit 173, (ob (.type "tuple") (.seq ⟨[(.str "web" 421),(.str "kind" 422),(.str "strength" 423),(.str "pairs" 424),(.str "one" 425),(.str "other" 426),(.str "parters" 427),(.str "last" 428),(.str "leanest" 429),(.str "many" 430),(.str "search" 431),(.str "tree" 432)]⟩ 0))) :: (nat_lit 174, (ob (.type "tuple") (.seq ⟨[]⟩ 0))) :: (nat_lit 176, (ob (.type "code") (.fields ⟨[(.str "fewest_looks" 418),(.str "fewest_looks" 419),(.str "/claim/cut.py" 420),(.int 102 0),(.int 3 0),(.int 0 0),(.int 0 0),(.int 3 0),(.ref 171),(.bool .true),(.int 181 0),(.ref 172),.none,(.ref 173),(.ref 174),(.ref 175),(.int 433 0),(.int 102 0),(.str "/claim/cut.py" 434)]⟩))) :: (nat_lit 177, (fO (.type "function") "fewest_looks" (G.top 22) (.str "farhail.fewest" 318) (.ref 176))) :: (nat_lit 178, (ob (.type "tuple") (.seq ⟨[]⟩ 0))) :: (nat_lit 180, (ob (.type "tuple") (.seq ⟨[(.str "_law_script" 441),(.str "_law_k" 442),(.str "_law_cell" 443),(.str "_law_number" 444)]⟩ 0))) :: (nat_lit 181, (ob (.type "tuple") (.seq ⟨[]⟩ 0))) :: (nat_lit 183, (ob (.type "code") (.fields ⟨[(.str "_law_purse" 438),(.str "_law_purse" 439),(.str "/claim/cut.py" 440),(.int 119 0),(.int 2 0),(.int 0 0),(.int 0 0),(.int 3 0),(.ref 178),(.bool .true),(.int 181 0),(.ref 179),.none,(.ref 180),(.ref 181),(.ref 182),(.int 445 0),(.int 119 0),(.str "/claim/cut.py" 446)]⟩))) :: (nat_lit 184, (fO (.type "function") "_law_purse" (G.top 24) (.str "law_farhail_k35_fewest_told" 436) (.ref 183))) :: (nat_lit 185, (ob (.type "tuple") (.seq ⟨[]⟩ 0))) :: (nat_lit 187, (ob (.type "tuple") (.seq ⟨[(.str "_law_purse_here" 451),(.str "_law_many" 452),(.str "_law_found" 453)]⟩ 0))) :: (nat_lit 188, (ob (.type "tuple") (.seq ⟨[]⟩ 0))) :: (nat_lit 190, (ob (.type "code") (.fields ⟨[(.str "_law_take" 448),(.str "_law_take" 449),(.str "/claim/cut.py" 450),(.int 129 0),(.int 2 0),(.int 0 0),(.int 0 0),(.int 3 0),(.ref 185),(.bool .true),(.int 181 0),(.ref 186),.none,(.ref 187),(.ref 188),(.ref 189),(.int 454 0),(.int 129 0),(.str "/claim/cut.py" 455)]⟩))) :: (nat_lit 191, (fO (.type "function") "_law_take" (G.top 25) (.str "law_farhail_k35_fewest_told" 436) (.ref 190))) :: (nat_lit 192, (ob (.type "tuple") (.seq ⟨[]⟩ 0))) :: (nat_lit 194, (ob (.type "tuple") (.seq ⟨[(.str "_law_purse_here" 460),(.str "_law_many" 461),(.str "_law_found" 462),(.str "_law_k" 463)]⟩ 0))) :: (nat_lit 195, (ob (.type "tuple") (.seq ⟨[]⟩ 0))) :: (nat_lit 197, (ob (.type "code") (.fields ⟨[(.str "_law_order" 457),(.str "_law_order" 458),(.str "/claim/cut.py" 459),(.int 133 0),(.int 2 0),(.int 0 0),(.int 0 0),(.int 3 0),(.ref 192),(.bool .true),(.int 181 0),(.ref 193),.none,(.ref 194),(.ref 195),(.ref 196),(.int 464 0),(.int 133 0),(.str "/claim/cut.py" 465)]⟩))) :: (nat_lit 198, (fO (.type "function") "_law_order" (G.top 26) (.str "law_farhail_k35_fewest_told" 436) (.ref 197))) :: (nat_lit 199, (ob (.type "tuple") (.seq ⟨[]⟩ 0))) :: (nat_lit 202, (ob (.type "code") (.fields ⟨[(.str "_law_pairs" 467),(.str "_law_pairs" 468),(.str "/claim/cut.py" 469),(.int 138 0),(.int 3 0),(.int 0 0),(.int 0 0),(.int 3 0),(.ref 199),(.bool .true),(.int 181 0),(.ref 200),.none,.none,.none,(.ref 201),(.int 470 0),(.int 138 0),(.str "/claim/cut.py" 471)]⟩))) :: (nat_lit 203, (fO (.type "function") "_law_pairs" (G.top 27) (.str "law_farhail_k35_fewest_told" 436) (.ref 202))) :: (nat_lit 204, (ob (.type "tuple") (.seq ⟨[]⟩ 0))) :: (nat_lit 206, (ob (.type "tuple") (.seq ⟨[(.str "_law_purse_here" 476),(.str "_law_least" 477),(.str "_law_most" 478),(.str "_law_many" 479),(.str "_law_found" 480),(.str "_law_some" 481),(.str "_law_places" 482),(.str "_law_one" 483),(.str "_law_other" 484),(.str "_law_ends" 485),(.str "_law_tie" 486)]⟩ 0))) :: (nat_lit 207, (ob (.type "tuple") (.seq ⟨[]⟩ 0))) :: (nat_lit 209, (ob (.type "code") (.fields ⟨[(.str "_law_web" 473),(.str "_law_web" 474),(.str "/claim/cut.py" 475),(.int 153 0),(.int 3 0),(.int 0 0),(.int 0 0),(.int 3 0),(.ref 204),(.bool .true),(.int 181 0),(.ref 205),.none,(.ref 206),(.ref 207),(.ref 208),(.int 487 0),(.int 153 0),(.str "/claim/cut.py" 488)]⟩))) :: (nat_lit 210, (fO (.type "function") "_law_web" (G.top 28) (.str "law_farhail_k35_fewest_told" 436) (.ref 209))) :: (nat_lit 211, (ob (.type "tuple") (.seq ⟨[]⟩ 0))) :: (nat_lit 213, (ob (.type "tuple") (.seq ⟨[(.str "_law_web_here" 493),(.str "_law_found" 494),(.str "_law_place" 495),(.str "_law_row" 496),(.str "_law_step" 497),(.str "_law_one" 498),(.str "_law_other" 499)]⟩ 0))) :: (nat_lit 214, (ob (.type "tuple") (.seq ⟨[]⟩ 0))) :: (nat_lit 216, (ob (.type "code") (.fields ⟨[(.str "_law_table" 490),(.str "_law_table" 491),(.str "/claim/cut.py" 492),(.int 164 0),(.int 1 0),(.int 0 0),(.int 0 0),(.int 3 0),(.ref 211),(.bool .true),(.int 181 0),(.ref 212),.none,(.ref 213),(.ref 214),(.ref 215),(.int 500 0),(.int 164 0),(.str "/claim/cut.py" 501)]⟩))) :: (nat_lit 217, (fO (.type "function") "_law_table" (G.top 29) (.str "law_farhail_k35_fewest_told" 436) (.ref 216))) :: (nat_lit 218, (ob (.type "tuple") (.seq ⟨[]⟩ 0))) :: (nat_lit 220, (ob (.type "tuple") (.seq ⟨[(.str "_law_web_here" 506),(.str "_law_kind" 507),(.str "_law_found" 508)]⟩ 0))) :: (nat_lit 221, (ob (.type "tuple") (.seq ⟨[]⟩ 0))) :: (nat_lit 223, (ob (.type "code") (.fields ⟨[(.str "_law_things" 503),(.str "_law_things" 504),(.str "/claim/cut.py" 505),(.int 177 0),(.int 2 0),(.int 0 0),(.int 0 0),(.int 3 0),(.ref 218),(.bool .true),(.int 181 0),(.ref 219),.none,(.ref 220),(.ref 221),(.ref 222),(.int 509 0),(.int 177 0),(.str "/claim/cut.py" 510)]⟩))) :: (nat_lit 224, (fO (.type "function") "_law_things" (G.top 30) (.str "law_farhail_k35_fewest_told" 436) (.ref 223))) :: (nat_lit 225, (ob (.type "tuple") (.seq ⟨[]⟩ 0))) :: (nat_lit 228, (ob (.type "code") (.fields ⟨[(.str "_law_far" 512),(.str "_law_far" 513),(.str "/claim/cut.py" 514),(.int 182 0),(.int 3 0),(.int 0 0),(.int 0 0),(.int 3 0),(.ref 225),(.bool .true),(.int 181 0),(.ref 226),.none,.none,.none,(.ref 227),(.int 515 0),(.int 182 0),(.str "/claim/cut.py" 516)]⟩))) :: (nat_lit 229, (fO (.type "function") "_law_far" (G.top 31) (.str "law_farhail_k35_fewest_told" 436) (.ref 228))) :: (nat_lit 230, (ob (.type "tuple") (.seq ⟨[]⟩ 0))) :: (nat_lit 233, (ob (.type "code") (.fields ⟨[(.str "_law_parters" 518),(.str "_law_parters" 519),(.str "/claim/cut.py" 520),(.int 186 0),(.int 3 0),(.int 0 0),(.int 0 0),(.int 3 0),(.ref 230),(.bool .true),(.int 181 0),(.ref 231),.none,.none,.none,(.ref 232),(.int 521 0),(.int 186 0),(.str "/claim/cut.py" 522)]⟩))) :: (nat_lit 234, (fO (.type "function") "_law_parters" (G.top 32) (.str "law_farhail_k35_fewest_told" 436) (.ref 233))) :: (nat_lit 235, (ob (.type "tuple") (.seq ⟨[]⟩ 0))) :: (nat_lit 237, (ob (.type "tuple") (.seq ⟨[(.str "_law_web_here" 527),(.str "_law_kind" 528),(.str "_law_fars" 529),(.str "_law_some" 530),(.str "_law_found" 531),(.str "_law_k" 532),(.str "_law_other" 533)]⟩ 0))) :: (nat_lit 238, (ob (.type "tuple") (.seq ⟨[]⟩ 0))) :: (nat_lit 240, (ob (.type "code") (.fields ⟨[(.str "_law_parted" 524),(.str "_law_parted" 525),(.str "/claim/cut.py" 526),(.int 188 0),(.int 2 0),(.int 0 0),(.int 0 0),(.int 3 0),(.ref 235),(.bool .true),(.int 181 0),(.ref 236),.none,(.ref 237),(.ref 238),(.ref 239),(.int 534 0),(.int 188 0),(.str "/claim/cut.py" 535)]⟩))) :: (nat_lit 241, (fO (.type "function") "_law_parted" (G.top 33) (.str "law_farhail_k35_fewest_told" 436) (.ref 240))) :: (nat_lit 242, (ob (.type "tuple") (.seq ⟨[]⟩ 0))) :: (nat_lit 245, (ob (.type "code") (.fields ⟨[(.str "_law_fewest" 537),(.str "_law_fewest" 538),(.str "/claim/cut.py" 539),(.int 196 0),(.int 3 0),(.int 0 0),(.int 0 0),(.int 3 0),(.ref 242),(.bool .true),(.int 181 0),(.ref 243),.none,.none,.none,(.ref 244),(.int 540 0),(.int 196 0),(.str "/claim/cut.py" 541)]⟩))) :: (nat_lit 246, (fO (.type "function") "_law_fewest" (G.top 34) (.str "law_farhail_k35_fewest_told" 436) (.ref 245))) :: (nat_lit 247, (ob (.type "tuple") (.seq ⟨[]⟩ 0))) :: (nat_lit 250, (ob (.type "code") (.fields ⟨[(.str "_law_right" 543),(.str "_law_right" 544),(.str "/claim/cut.py" 545),(.int 211 0),(.int 4 0),(.int 0 0),(.int 0 0),(.int 3 0),(.ref 247),(.bool .true),(.int 181 0),(.ref 248),.none,.none,.none,(.ref 249),(.int 546 0),(.int 211 0),(.str "/claim/cut.py" 547)]⟩))) :: (nat_lit 251, (fO (.type "function") "_law_right" (G.top 35) (.str "law_farhail_k35_fewest_told" 436) (.ref 250))) :: (nat_lit 252, (ob (.type "tuple") (.seq ⟨[]⟩ 0))) :: (nat_lit 254, (ob (.type "tuple") (.seq ⟨[(.str "_law_web_here" 552),(.str "_law_kind" 553),(.str "_law_strength" 554),(.str "_law_caught" 555),(.str "_law_e" 556)]⟩ 0))) :: (nat_lit 255, (ob (.type "tuple") (.seq ⟨[]⟩ 0))) :: (nat_lit 257, (ob (.type "code") (.fields ⟨[(.str "_law_refused" 549),(.str "_law_refused" 550),(.str "/claim/cut.py" 551),(.int 231 0),(.int 3 0),(.int 0 0),(.int 0 0),(.int 3 0),(.ref 252),(.bool .true),(.int 181 0),(.ref 253),.none,(.ref 254),(.ref 255),(.ref 256),(.int 557 0),(.int 231 0),(.str "/claim/cut.py" 558)]⟩))) :: (nat_lit 258, (fO (.type "function") "_law_refused" (G.top 36) (.str "law_farhail_k35_fewest_told" 436) (.ref 257))) :: (nat_lit 259, (ob (.type "tuple") (.seq ⟨[]⟩ 0))) :: (nat_lit 261, (ob (.type "tuple") (.seq ⟨[(.str "_law_script" 563),(.str "_law_purse_here" 564),(.str "_law_kind" 565),(.str "_law_strength" 566),(.str "_law_least" 567),(.str "_law_most" 568),(.str "_law_web_here" 569),(.str "_law_pairs_here" 570),(.str "_law_found" 571),(.str "_law_kept" 572)]⟩ 0))) :: (nat_lit 262, (ob (.type "tuple") (.seq ⟨[]⟩ 0))) :: (nat_lit 264, (ob (.type "code") (.fields ⟨[(.str "law" 560),(.str "law" 561),(.str "/claim/cut.py" 562),(.int 239 0),(.int 1 0),(.int 0 0),(.int 0 0),(.int 3 0),(.ref 259),(.bool .true),(.int 181 0),(.ref 260),.none,(.ref 261),(.ref 262),(.ref 263),(.int 573 0),(.int 239 0),(.str "/claim/cut.py" 574)]⟩))) :: (nat_lit 265, (fO (.type "function") "law" (G.top 37) (.str "law_farhail_k35_fewest_told" 436) (.ref 264))) :: []
noncomputable abbrev as : List PySem.Addr := nat_lit 2 :: nat_lit 3 :: nat_lit 15 :: nat_lit 22 :: nat_lit 23 :: nat_lit 24 :: nat_lit 25 :: nat_lit 28 :: nat_lit 35 :: nat_lit 36 :: nat_lit 37 :: nat_lit 40 :: nat_lit 47 :: nat_lit 48 :: nat_lit 49 :: nat_lit 52 :: nat_lit 59 :: nat_lit 60 :: nat_lit 61 :: nat_lit 64 :: nat_lit 71 :: nat_lit 72 :: nat_lit 73 :: nat_lit 76 :: nat_lit 79 :: nat_lit 80 :: nat_lit 81 :: nat_lit 83 :: nat_lit 84 :: nat_lit 86 :: nat_lit 87 :: nat_lit 88 :: nat_lit 90 :: nat_lit 91 :: nat_lit 93 :: nat_lit 94 :: nat_lit 95 :: nat_lit 97 :: nat_lit 98 :: nat_lit 100 :: nat_lit 101 :: nat_lit 102 :: nat_lit 104 :: nat_lit 105 :: nat_lit 107 :: nat_lit 108 :: nat_lit 109 :: nat_lit 112 :: nat_lit 113 :: nat_lit 114 :: nat_lit 116 :: nat_lit 117 :: nat_lit 119 :: nat_lit 120 :: nat_lit 121 :: nat_lit 124 :: nat_lit 125 :: nat_lit 126 :: nat_lit 128 :: nat_lit 129 :: nat_lit 131 :: nat_lit 132 :: nat_lit 133 :: nat_lit 136 :: nat_lit 137 :: nat_lit 138 :: nat_lit 141 :: nat_lit 142 :: nat_lit 150 :: nat_lit 152 :: nat_lit 153 :: nat_lit 155 :: nat_lit 156 :: nat_lit 157 :: nat_lit 159 :: nat_lit 160 :: nat_lit 162 :: nat_lit 163 :: nat_lit 164 :: nat_lit 165 :: nat_lit 166 :: nat_lit 167 :: nat_lit 168 :: nat_lit 171 :: nat_lit 173 :: nat_lit 174 :: nat_lit 176 :: nat_lit 177 :: nat_lit 178 :: nat_lit 180 :: nat_lit 181 :: nat_lit 183 :: nat_lit 184 :: nat_lit 185 :: nat_lit 187 :: nat_lit 188 :: nat_lit 190 :: nat_lit 191 :: nat_lit 192 :: nat_lit 194 :: nat_lit 195 :: nat_lit 197 :: nat_lit 198 :: nat_lit 199 :: nat_lit 202 :: nat_lit 203 :: nat_lit 204 :: nat_lit 206 :: nat_lit 207 :: nat_lit 209 :: nat_lit 210 :: nat_lit 211 :: nat_lit 213 :: nat_lit 214 :: nat_lit 216 :: nat_lit 217 :: nat_lit 218 :: nat_lit 220 :: nat_lit 221 :: nat_lit 223 :: nat_lit 224 :: nat_lit 225 :: nat_lit 228 :: nat_lit 229 :: nat_lit 230 :: nat_lit 233 :: nat_lit 234 :: nat_lit 235 :: nat_lit 237 :: nat_lit 238 :: nat_lit 240 :: nat_lit 241 :: nat_lit 242 :: nat_lit 245 :: nat_lit 246 :: nat_lit 247 :: nat_lit 250 :: nat_lit 251 :: nat_lit 252 :: nat_lit 254 :: nat_lit 255 :: nat_lit 257 :: nat_lit 258 :: nat_lit 259 :: nat_lit 261 :: nat_lit 262 :: nat_lit 264 :: nat_lit 265 :: []
noncomputable def view : PySem.Program := { PySem.Challenge.pw_farhail_k35_fewest_told with main := { PySem.Challenge.pw_farhail_k35_fewest_told.main with body := [G.top 37] } }
noncomputable def loose : List PySem.Str := [a1, a3, a4, a5, a6, a7, a8, a9, a10, a11, a12, a13, a14, a15, a16, a17, a18, a19, a20, a21, a22, a23, a24, a25, a26, a27, a28, a29, a30, a31, a32, a33]
noncomputable def the : PySem.DefRec := ⟨"law", L2.defArgs (G.top 37), L2.defBody (G.top 37), L2.defScope (G.top 37), (.mk 239 0 257 94)⟩
noncomputable abbrev N : Nat := 4438
theorem as_eq : ∀ P, as = (K P).map (·.1) := fun P => by kernel_rfl
noncomputable abbrev hook : PySem.W.Hook := PySem.W.kHook K as as_eq
noncomputable abbrev Xt : PySem.Shared → Bool := fun s => PySem.W.xlAt view [] s && PySem.W.recOk PySem.Challenge.rw_farhail_k35_fewest_told.row.toRowW.records s
noncomputable abbrev mods := PySem.importedModules PySem.Challenge.pw_farhail_k35_fewest_told.main.body
theorem look1 (w : PySem.World) : (fun os : PySem.OsState => PySem.W.staticsOk mods (PySem.W.boot_heap w.params) (hF w.params) && PySem.W.namesBound PySem.Challenge.pw_farhail_k35_fewest_told (hF w.params) && PySem.W.gensDone (SF w os) && PySem.W.laidKept (PySem.W.boot_heap w.params) (hF w.params)) = fun _ => true := by kernel_rfl
theorem look3 (w : PySem.World) : (fun os => hook.obs (SF w os)) = fun _ => hook.val w := by kernel_rfl
theorem look2 (w : PySem.World) : (fun os => PySem.W.openSeen view loose mods Xt true (SF w os)) = fun _ => PySem.W.openGood view loose := by kernel_rfl
theorem left : PySem.W.LeftO PySem.Challenge.rw_farhail_k35_fewest_told.row.toRowW.prog view loose Xt hook.obs hook.val N :=
  PySem.W.LeftO.of_pieces opens size run (by decide +kernel) fun w => funext fun os => Prod.ext (congrFun (look1 w) os) (Prod.ext (congrFun (look2 w) os) (congrFun (look3 w) os))
open PySem PySem.W PyProof.Rows in
set_option maxHeartbeats 0 in
theorem whole (hc : WalkO view loose (XL view []) (PySem.W.kHook K as as_eq).says PySem.Challenge.rw_farhail_k35_fewest_told.row.toRowW the [] (fun f vs => PySem.call f vs)) : PySem.Challenge.rw_farhail_k35_fewest_told.Holds := by
  w_on; o_law
  refine PySem.W.holds_open (r := PySem.Challenge.rw_farhail_k35_fewest_told.row) (q := view) (loose := loose) (Xt := Xt) (XP := PySem.W.XL view []) (Yf := hook.obs) (Ya := hook.val) (YP := hook.says) (d := the) (kwd := []) (N := N) left hook.of hook.keeps (fun s e => xl_of s (Bool.and_eq_true_iff.mp e).1) XL.keeps (by kernel_rfl) (by kernel_rfl) (by kernel_rfl) (fun s e => recFacts_of (Bool.and_eq_true_iff.mp e).2) (by rfl) (by first | assumption | decide +kernel) (by decide +kernel) ⟨rfl, rfl, rfl, rfl, rfl, by decide +kernel⟩ ?hw hc
  case hw => w_witness2
end HD
namespace G
open PySem L2 Z
open Rep (rep)
theorem us1 : ∀ {us : List Value}, us.length = 1 → ∃ a0, us = [a0]
  | [a0], _ => ⟨a0, rfl⟩
theorem us2 : ∀ {us : List Value}, us.length = 2 → ∃ a0 a1, us = [a0, a1]
  | [a0, a1], _ => ⟨a0, a1, rfl⟩
theorem us3 : ∀ {us : List Value}, us.length = 3 → ∃ a0 a1 a2, us = [a0, a1, a2]
  | [a0, a1, a2], _ => ⟨a0, a1, a2, rfl⟩
theorem us4 : ∀ {us : List Value}, us.length = 4 → ∃ a0 a1 a2 a3, us = [a0, a1, a2, a3]
  | [a0, a1, a2, a3], _ => ⟨a0, a1, a2, a3, rfl⟩
theorem dn_mk {K : Fg} {h : Heap} {mg : Str → Option Value} (X : K.In h) (G : h.Ns mainGlobals mg) {x y : Str} {st : Stmt} {ps : List Str} {f : Addr} {od an : Option Addr} {sl : Array (Option Value)} {oc kV dc pm cd ct : Value}
    (a : PySem.W.nsIn K mainGlobals x = some (some (.ref f))) (l : K.lookup f = some ⟨oc, od, .func (PySem.W.fnOf y y (defArgs st) (defBody st) (defScope st) .none kV dc pm an cd ct), sl⟩) (c : PySem.W.codeIn K cd y = true) (k : PySem.W.keepIn K (.ref f) = true)
    (b : ∀ (kV doc pm : Value) (an : Option Addr) (cdv ct : Value) (us : List Value), us.length = ps.length → bindArgs (PySem.W.fnOf y y (defArgs st) (defBody st) (defScope st) .none kV doc pm an cdv ct) ⟨us, []⟩ = pure (ps.zip us)) :
    Dn K mg x y st ps f (PySem.W.fnOf y y (defArgs st) (defBody st) (defScope st) .none kV dc pm an cd ct) := ⟨fun_mk l c k, PySem.W.mg_of X G a, (fun_mk l c k).binds b⟩
theorem all_mk {l : PySem.W.OpenLaw} {w : World} {K : PySem.W.Frag} {h : Heap} {mg : Str → Option Value} {fa : Addr} (X : K.In h) (G : h.Ns mainGlobals mg) (hfa : mg "law" = some (.ref fa))
    {f7 : Addr} {od7 an7 : Option Addr} {sl7 : Array (Option Value)} {oc7 kV7 dc7 pm7 cd7 ct7 : Value}
    {f8 : Addr} {od8 an8 : Option Addr} {sl8 : Array (Option Value)} {oc8 kV8 dc8 pm8 cd8 ct8 : Value}
    {f9 : Addr} {od9 an9 : Option Addr} {sl9 : Array (Option Value)} {oc9 kV9 dc9 pm9 cd9 ct9 : Value}
    {f10 : Addr} {od10 an10 : Option Addr} {sl10 : Array (Option Value)} {oc10 kV10 dc10 pm10 cd10 ct10 : Value}
    {f12 : Addr} {od12 an12 : Option Addr} {sl12 : Array (Option Value)} {oc12 kV12 dc12 pm12 cd12 ct12 : Value}
    {f15 : Addr} {od15 an15 : Option Addr} {sl15 : Array (Option Value)} {oc15 kV15 dc15 pm15 cd15 ct15 : Value}
    {f16 : Addr} {od16 an16 : Option Addr} {sl16 : Array (Option Value)} {oc16 kV16 dc16 pm16 cd16 ct16 : Value}
    {f17 : Addr} {od17 an17 : Option Addr} {sl17 : Array (Option Value)} {oc17 kV17 dc17 pm17 cd17 ct17 : Value}
    {f18 : Addr} {od18 an18 : Option Addr} {sl18 : Array (Option Value)} {oc18 kV18 dc18 pm18 cd18 ct18 : Value}
    {f19 : Addr} {od19 an19 : Option Addr} {sl19 : Array (Option Value)} {oc19 kV19 dc19 pm19 cd19 ct19 : Value}
    {f20 : Addr} {od20 an20 : Option Addr} {sl20 : Array (Option Value)} {oc20 kV20 dc20 pm20 cd20 ct20 : Value}
    {f22 : Addr} {od22 an22 : Option Addr} {sl22 : Array (Option Value)} {oc22 kV22 dc22 pm22 cd22 ct22 : Value}
    {f24 : Addr} {od24 an24 : Option Addr} {sl24 : Array (Option Value)} {oc24 kV24 dc24 pm24 cd24 ct24 : Value}
    {f25 : Addr} {od25 an25 : Option Addr} {sl25 : Array (Option Value)} {oc25 kV25 dc25 pm25 cd25 ct25 : Value}
    {f26 : Addr} {od26 an26 : Option Addr} {sl26 : Array (Option Value)} {oc26 kV26 dc26 pm26 cd26 ct26 : Value}
    {f27 : Addr} {od27 an27 : Option Addr} {sl27 : Array (Option Value)} {oc27 kV27 dc27 pm27 cd27 ct27 : Value}
    {f28 : Addr} {od28 an28 : Option Addr} {sl28 : Array (Option Value)} {oc28 kV28 dc28 pm28 cd28 ct28 : Value}
    {f29 : Addr} {od29 an29 : Option Addr} {sl29 : Array (Option Value)} {oc29 kV29 dc29 pm29 cd29 ct29 : Value}
    {f30 : Addr} {od30 an30 : Option Addr} {sl30 : Array (Option Value)} {oc30 kV30 dc30 pm30 cd30 ct30 : Value}
    {f31 : Addr} {od31 an31 : Option Addr} {sl31 : Array (Option Value)} {oc31 kV31 dc31 pm31 cd31 ct31 : Value}
    {f32 : Addr} {od32 an32 : Option Addr} {sl32 : Array (Option Value)} {oc32 kV32 dc32 pm32 cd32 ct32 : Value}
    {f33 : Addr} {od33 an33 : Option Addr} {sl33 : Array (Option Value)} {oc33 kV33 dc33 pm33 cd33 ct33 : Value}
    {f34 : Addr} {od34 an34 : Option Addr} {sl34 : Array (Option Value)} {oc34 kV34 dc34 pm34 cd34 ct34 : Value}
    {f35 : Addr} {od35 an35 : Option Addr} {sl35 : Array (Option Value)} {oc35 kV35 dc35 pm35 cd35 ct35 : Value}
    {f36 : Addr} {od36 an36 : Option Addr} {sl36 : Array (Option Value)} {oc36 kV36 dc36 pm36 cd36 ct36 : Value}
    {f37 : Addr} {od37 an37 : Option Addr} {sl37 : Array (Option Value)} {oc37 kV37 dc37 pm37 cd37 ct37 : Value}
    {f22000 : Addr} {od22000 an22000 : Option Addr} {sl22000 : Array (Option Value)} {oc22000 kV22000 dc22000 pm22000 cd22000 ct22000 : Value}
    {f22001 : Addr} {od22001 an22001 : Option Addr} {sl22001 : Array (Option Value)} {oc22001 kV22001 dc22001 pm22001 cd22001 ct22001 : Value}
    {g1 : Addr}
    {g3 : Addr}
    {g4 : Addr}
    {g5 : Addr}
    {g21 : Addr}
    {tk_MOST_SEARCHED : Tok}
    (a7 : PySem.W.nsIn K mainGlobals "near_lists" = some (some (.ref f7))) (l7 : K.lookup f7 = some ⟨oc7, od7, .func (PySem.W.fnOf "near_lists" "near_lists" (defArgs s_near_lists) (defBody s_near_lists) (defScope s_near_lists) .none kV7 dc7 pm7 an7 cd7 ct7), sl7⟩) (c7 : PySem.W.codeIn K cd7 "near_lists" = true) (k7 : PySem.W.keepIn K (.ref f7) = true)
    (a8 : PySem.W.nsIn K mainGlobals "fars_by" = some (some (.ref f8))) (l8 : K.lookup f8 = some ⟨oc8, od8, .func (PySem.W.fnOf "fars_by" "fars_by" (defArgs s_fars_by) (defBody s_fars_by) (defScope s_fars_by) .none kV8 dc8 pm8 an8 cd8 ct8), sl8⟩) (c8 : PySem.W.codeIn K cd8 "fars_by" = true) (k8 : PySem.W.keepIn K (.ref f8) = true)
    (a9 : PySem.W.nsIn K mainGlobals "place_asked" = some (some (.ref f9))) (l9 : K.lookup f9 = some ⟨oc9, od9, .func (PySem.W.fnOf "place_asked" "place_asked" (defArgs s_place_asked) (defBody s_place_asked) (defScope s_place_asked) .none kV9 dc9 pm9 an9 cd9 ct9), sl9⟩) (c9 : PySem.W.codeIn K cd9 "place_asked" = true) (k9 : PySem.W.keepIn K (.ref f9) = true)
    (a10 : PySem.W.nsIn K mainGlobals "fars_from" = some (some (.ref f10))) (l10 : K.lookup f10 = some ⟨oc10, od10, .func (PySem.W.fnOf "fars_from" "fars_from" (defArgs s_fars_from) (defBody s_fars_from) (defScope s_fars_from) .none kV10 dc10 pm10 an10 cd10 ct10), sl10⟩) (c10 : PySem.W.codeIn K cd10 "fars_from" = true) (k10 : PySem.W.keepIn K (.ref f10) = true)
    (a12 : PySem.W.nsIn K mainGlobals "things_of" = some (some (.ref f12))) (l12 : K.lookup f12 = some ⟨oc12, od12, .func (PySem.W.fnOf "things_of" "things_of" (defArgs s_things_of) (defBody s_things_of) (defScope s_things_of) .none kV12 dc12 pm12 an12 cd12 ct12), sl12⟩) (c12 : PySem.W.codeIn K cd12 "things_of" = true) (k12 : PySem.W.keepIn K (.ref f12) = true)
    (a15 : PySem.W.nsIn K mainGlobals "fars_of" = some (some (.ref f15))) (l15 : K.lookup f15 = some ⟨oc15, od15, .func (PySem.W.fnOf "fars_of" "fars_of" (defArgs s_fars_of) (defBody s_fars_of) (defScope s_fars_of) .none kV15 dc15 pm15 an15 cd15 ct15), sl15⟩) (c15 : PySem.W.codeIn K cd15 "fars_of" = true) (k15 : PySem.W.keepIn K (.ref f15) = true)
    (a16 : PySem.W.nsIn K mainGlobals "far_in" = some (some (.ref f16))) (l16 : K.lookup f16 = some ⟨oc16, od16, .func (PySem.W.fnOf "far_in" "far_in" (defArgs s_far_in) (defBody s_far_in) (defScope s_far_in) .none kV16 dc16 pm16 an16 cd16 ct16), sl16⟩) (c16 : PySem.W.codeIn K cd16 "far_in" = true) (k16 : PySem.W.keepIn K (.ref f16) = true)
    (a17 : PySem.W.nsIn K mainGlobals "parters_in" = some (some (.ref f17))) (l17 : K.lookup f17 = some ⟨oc17, od17, .func (PySem.W.fnOf "parters_in" "parters_in" (defArgs s_parters_in) (defBody s_parters_in) (defScope s_parters_in) .none kV17 dc17 pm17 an17 cd17 ct17), sl17⟩) (c17 : PySem.W.codeIn K cd17 "parters_in" = true) (k17 : PySem.W.keepIn K (.ref f17) = true)
    (a18 : PySem.W.nsIn K mainGlobals "pairs_of" = some (some (.ref f18))) (l18 : K.lookup f18 = some ⟨oc18, od18, .func (PySem.W.fnOf "pairs_of" "pairs_of" (defArgs s_pairs_of) (defBody s_pairs_of) (defScope s_pairs_of) .none kV18 dc18 pm18 an18 cd18 ct18), sl18⟩) (c18 : PySem.W.codeIn K cd18 "pairs_of" = true) (k18 : PySem.W.keepIn K (.ref f18) = true)
    (a19 : PySem.W.nsIn K mainGlobals "leanest_pairs" = some (some (.ref f19))) (l19 : K.lookup f19 = some ⟨oc19, od19, .func (PySem.W.fnOf "leanest_pairs" "leanest_pairs" (defArgs s_leanest_pairs) (defBody s_leanest_pairs) (defScope s_leanest_pairs) .none kV19 dc19 pm19 an19 cd19 ct19), sl19⟩) (c19 : PySem.W.codeIn K cd19 "leanest_pairs" = true) (k19 : PySem.W.keepIn K (.ref f19) = true)
    (a20 : PySem.W.nsIn K mainGlobals "too_seldom" = some (some (.ref f20))) (l20 : K.lookup f20 = some ⟨oc20, od20, .func (PySem.W.fnOf "too_seldom" "too_seldom" (defArgs s_too_seldom) (defBody s_too_seldom) (defScope s_too_seldom) .none kV20 dc20 pm20 an20 cd20 ct20), sl20⟩) (c20 : PySem.W.codeIn K cd20 "too_seldom" = true) (k20 : PySem.W.keepIn K (.ref f20) = true)
    (a22 : PySem.W.nsIn K mainGlobals "fewest_looks" = some (some (.ref f22))) (l22 : K.lookup f22 = some ⟨oc22, od22, .func (PySem.W.fnOf "fewest_looks" "fewest_looks" (defArgs s_fewest_looks) (defBody s_fewest_looks) (defScope s_fewest_looks) .none kV22 dc22 pm22 an22 cd22 ct22), sl22⟩) (c22 : PySem.W.codeIn K cd22 "fewest_looks" = true) (k22 : PySem.W.keepIn K (.ref f22) = true)
    (a24 : PySem.W.nsIn K mainGlobals "_law_purse" = some (some (.ref f24))) (l24 : K.lookup f24 = some ⟨oc24, od24, .func (PySem.W.fnOf "_law_purse" "_law_purse" (defArgs s_law_purse) (defBody s_law_purse) (defScope s_law_purse) .none kV24 dc24 pm24 an24 cd24 ct24), sl24⟩) (c24 : PySem.W.codeIn K cd24 "_law_purse" = true) (k24 : PySem.W.keepIn K (.ref f24) = true)
    (a25 : PySem.W.nsIn K mainGlobals "_law_take" = some (some (.ref f25))) (l25 : K.lookup f25 = some ⟨oc25, od25, .func (PySem.W.fnOf "_law_take" "_law_take" (defArgs s_law_take) (defBody s_law_take) (defScope s_law_take) .none kV25 dc25 pm25 an25 cd25 ct25), sl25⟩) (c25 : PySem.W.codeIn K cd25 "_law_take" = true) (k25 : PySem.W.keepIn K (.ref f25) = true)
    (a26 : PySem.W.nsIn K mainGlobals "_law_order" = some (some (.ref f26))) (l26 : K.lookup f26 = some ⟨oc26, od26, .func (PySem.W.fnOf "_law_order" "_law_order" (defArgs s_law_order) (defBody s_law_order) (defScope s_law_order) .none kV26 dc26 pm26 an26 cd26 ct26), sl26⟩) (c26 : PySem.W.codeIn K cd26 "_law_order" = true) (k26 : PySem.W.keepIn K (.ref f26) = true)
    (a27 : PySem.W.nsIn K mainGlobals "_law_pairs" = some (some (.ref f27))) (l27 : K.lookup f27 = some ⟨oc27, od27, .func (PySem.W.fnOf "_law_pairs" "_law_pairs" (defArgs s_law_pairs) (defBody s_law_pairs) (defScope s_law_pairs) .none kV27 dc27 pm27 an27 cd27 ct27), sl27⟩) (c27 : PySem.W.codeIn K cd27 "_law_pairs" = true) (k27 : PySem.W.keepIn K (.ref f27) = true)
    (a28 : PySem.W.nsIn K mainGlobals "_law_web" = some (some (.ref f28))) (l28 : K.lookup f28 = some ⟨oc28, od28, .func (PySem.W.fnOf "_law_web" "_law_web" (defArgs s_law_web) (defBody s_law_web) (defScope s_law_web) .none kV28 dc28 pm28 an28 cd28 ct28), sl28⟩) (c28 : PySem.W.codeIn K cd28 "_law_web" = true) (k28 : PySem.W.keepIn K (.ref f28) = true)
    (a29 : PySem.W.nsIn K mainGlobals "_law_table" = some (some (.ref f29))) (l29 : K.lookup f29 = some ⟨oc29, od29, .func (PySem.W.fnOf "_law_table" "_law_table" (defArgs s_law_table) (defBody s_law_table) (defScope s_law_table) .none kV29 dc29 pm29 an29 cd29 ct29), sl29⟩) (c29 : PySem.W.codeIn K cd29 "_law_table" = true) (k29 : PySem.W.keepIn K (.ref f29) = true)
    (a30 : PySem.W.nsIn K mainGlobals "_law_things" = some (some (.ref f30))) (l30 : K.lookup f30 = some ⟨oc30, od30, .func (PySem.W.fnOf "_law_things" "_law_things" (defArgs s_law_things) (defBody s_law_things) (defScope s_law_things) .none kV30 dc30 pm30 an30 cd30 ct30), sl30⟩) (c30 : PySem.W.codeIn K cd30 "_law_things" = true) (k30 : PySem.W.keepIn K (.ref f30) = true)
    (a31 : PySem.W.nsIn K mainGlobals "_law_far" = some (some (.ref f31))) (l31 : K.lookup f31 = some ⟨oc31, od31, .func (PySem.W.fnOf "_law_far" "_law_far" (defArgs s_law_far) (defBody s_law_far) (defScope s_law_far) .none kV31 dc31 pm31 an31 cd31 ct31), sl31⟩) (c31 : PySem.W.codeIn K cd31 "_law_far" = true) (k31 : PySem.W.keepIn K (.ref f31) = true)
    (a32 : PySem.W.nsIn K mainGlobals "_law_parters" = some (some (.ref f32))) (l32 : K.lookup f32 = some ⟨oc32, od32, .func (PySem.W.fnOf "_law_parters" "_law_parters" (defArgs s_law_parters) (defBody s_law_parters) (defScope s_law_parters) .none kV32 dc32 pm32 an32 cd32 ct32), sl32⟩) (c32 : PySem.W.codeIn K cd32 "_law_parters" = true) (k32 : PySem.W.keepIn K (.ref f32) = true)
    (a33 : PySem.W.nsIn K mainGlobals "_law_parted" = some (some (.ref f33))) (l33 : K.lookup f33 = some ⟨oc33, od33, .func (PySem.W.fnOf "_law_parted" "_law_parted" (defArgs s_law_parted) (defBody s_law_parted) (defScope s_law_parted) .none kV33 dc33 pm33 an33 cd33 ct33), sl33⟩) (c33 : PySem.W.codeIn K cd33 "_law_parted" = true) (k33 : PySem.W.keepIn K (.ref f33) = true)
    (a34 : PySem.W.nsIn K mainGlobals "_law_fewest" = some (some (.ref f34))) (l34 : K.lookup f34 = some ⟨oc34, od34, .func (PySem.W.fnOf "_law_fewest" "_law_fewest" (defArgs s_law_fewest) (defBody s_law_fewest) (defScope s_law_fewest) .none kV34 dc34 pm34 an34 cd34 ct34), sl34⟩) (c34 : PySem.W.codeIn K cd34 "_law_fewest" = true) (k34 : PySem.W.keepIn K (.ref f34) = true)
    (a35 : PySem.W.nsIn K mainGlobals "_law_right" = some (some (.ref f35))) (l35 : K.lookup f35 = some ⟨oc35, od35, .func (PySem.W.fnOf "_law_right" "_law_right" (defArgs s_law_right) (defBody s_law_right) (defScope s_law_right) .none kV35 dc35 pm35 an35 cd35 ct35), sl35⟩) (c35 : PySem.W.codeIn K cd35 "_law_right" = true) (k35 : PySem.W.keepIn K (.ref f35) = true)
    (a36 : PySem.W.nsIn K mainGlobals "_law_refused" = some (some (.ref f36))) (l36 : K.lookup f36 = some ⟨oc36, od36, .func (PySem.W.fnOf "_law_refused" "_law_refused" (defArgs s_law_refused) (defBody s_law_refused) (defScope s_law_refused) .none kV36 dc36 pm36 an36 cd36 ct36), sl36⟩) (c36 : PySem.W.codeIn K cd36 "_law_refused" = true) (k36 : PySem.W.keepIn K (.ref f36) = true)
    (a37 : PySem.W.nsIn K mainGlobals "law" = some (some (.ref f37))) (l37 : K.lookup f37 = some ⟨oc37, od37, .func (PySem.W.fnOf "law" "law" (defArgs s_law) (defBody s_law) (defScope s_law) .none kV37 dc37 pm37 an37 cd37 ct37), sl37⟩) (c37 : PySem.W.codeIn K cd37 "law" = true) (k37 : PySem.W.keepIn K (.ref f37) = true)
    (a22000 : PySem.W.findIn K (.ref g21) "__init__" = some (some (.ref f22000))) (i22000 : PySem.W.isFn K (.ref f22000) = true) (l22000 : K.lookup f22000 = some ⟨oc22000, od22000, .func (PySem.W.fnOf "__init__" "Search.__init__" (defArgs s_Search_init) (defBody s_Search_init) (defScope s_Search_init) .none kV22000 dc22000 pm22000 an22000 cd22000 ct22000), sl22000⟩) (c22000 : PySem.W.codeIn K cd22000 "Search.__init__" = true) (k22000 : PySem.W.keepIn K (.ref f22000) = true)
    (a22001 : PySem.W.findIn K (.ref g21) "tree_of" = some (some (.ref f22001))) (i22001 : PySem.W.isFn K (.ref f22001) = true) (l22001 : K.lookup f22001 = some ⟨oc22001, od22001, .func (PySem.W.fnOf "tree_of" "Search.tree_of" (defArgs s_Search_tree_of) (defBody s_Search_tree_of) (defScope s_Search_tree_of) .none kV22001 dc22001 pm22001 an22001 cd22001 ct22001), sl22001⟩) (c22001 : PySem.W.codeIn K cd22001 "Search.tree_of" = true) (k22001 : PySem.W.keepIn K (.ref f22001) = true)
    (ns_HailError : PySem.W.nsIn K mainGlobals "HailError" = some (some (.ref g1)))
    (ns_NoThing : PySem.W.nsIn K mainGlobals "NoThing" = some (some (.ref g3)))
    (ns_NoLooks : PySem.W.nsIn K mainGlobals "NoLooks" = some (some (.ref g4)))
    (ns_TooMany : PySem.W.nsIn K mainGlobals "TooMany" = some (some (.ref g5)))
    (ns_Search : PySem.W.nsIn K mainGlobals "Search" = some (some (.ref g21)))
    (xc_TooMany : PySem.W.excIn K g5 [.type "ValueError", .type "Exception", .type "BaseException", .type "object"] "ValueError.__new__" = true)
    (kp_TooMany : PySem.W.keepIn K (.ref g5) = true)
    (b_TooMany : PySem.W.subIn K (.ref g5) (.type "BaseException") = some true)
    (t_TooMany : PySem.W.typeIn K (.ref g5) = some (.type "type"))
    (hg_TooMany : PySem.W.findIn K (.ref g5) "__getattribute__" = some (some (.builtin "BaseException.__getattribute__")))
    (hk_TooMany : PySem.W.findIn K (.ref g5) "__getattr__" = some none)
    (hd_TooMany : PySem.W.hasDictIn K g5 = true)
    (ha_TooMany : PySem.W.findIn K (.ref g5) "__class__" = some (some (.builtin "object.__class__")))
    (hm_TooMany : PySem.W.mroIn K g5 (.type "object") = some true)
    (eh_TooMany : PySem.W.subIn K (.ref g5) (.ref g1) = some true)
    (ks_TooMany_NoLooks : PySem.W.subIn K (.ref g5) (.ref g4) = some false)
    (ne_TooMany_NoLooks : (Value.ref g5 == Value.ref g4) = false)
    (ks_TooMany_NoThing : PySem.W.subIn K (.ref g5) (.ref g3) = some false)
    (ne_TooMany_NoThing : (Value.ref g5 == Value.ref g3) = false)
    (ks_TooMany_TooMany : PySem.W.subIn K (.ref g5) (.ref g5) = some true)
    (ks_TooMany_ValueError : PySem.W.subIn K (.ref g5) (.type "ValueError") = some true)
    (ic_NoLooks : PySem.W.isClsIn K g4 = true)
    (tc_NoLooks : PySem.W.typeIn K (.ref g4) = some (.type "type"))
    (ic_NoThing : PySem.W.isClsIn K g3 = true)
    (tc_NoThing : PySem.W.typeIn K (.ref g3) = some (.type "type"))
    (ic_TooMany : PySem.W.isClsIn K g5 = true)
    (tc_TooMany : PySem.W.typeIn K (.ref g5) = some (.type "type"))
    (hb_HailError : PySem.W.subIn K (.ref g1) (.type "BaseException") = some true)
    (hh_HailError : PySem.W.hasDictIn K g1 = true)
    (ht_HailError : PySem.W.typeIn K (.ref g1) = some (.type "type"))
    (op_Search : PySem.W.plainGet K g21 Str.empty = true)
    (oh_Search : PySem.W.hasDictIn K g21 = true)
    (oo_Search : PySem.W.plainOver K g21 = true)
    (os_Search : PySem.W.findIn K (.ref g21) "__setattr__" = some (some (.builtin "object.__setattr__")))
    (om_Search : PySem.W.makesIn K g21 = true)
    (ok_Search : PySem.W.keepIn K (.ref g21) = true)
    (of_Search_pairs : PySem.W.findIn K (.ref g21) "pairs" = some none)
    (of_Search_strength : PySem.W.findIn K (.ref g21) "strength" = some none)
    (of_Search_many : PySem.W.findIn K (.ref g21) "many" = some none)
    (of_Search_looks : PySem.W.findIn K (.ref g21) "looks" = some none)
    (hn_ : PySem.W.specialIn K (.builtin "object.__class__") "__get__" = some (some (.builtin "getset_descriptor.__get__")))
    (ht_ : PySem.W.takesIn K (.builtin "object.__class__") = some true)
    (kc_MOST_SEARCHED : PySem.W.nsIn K mainGlobals "MOST_SEARCHED" = some (some (.int 8 tk_MOST_SEARCHED)))
    (z_ValueError : PySem.W.nsIn K mainGlobals "ValueError" = some none)
    (z_all : PySem.W.nsIn K mainGlobals "all" = some none)
    (z_bool : PySem.W.nsIn K mainGlobals "bool" = some none)
    (z_enumerate : PySem.W.nsIn K mainGlobals "enumerate" = some none)
    (z_int : PySem.W.nsIn K mainGlobals "int" = some none)
    (z_isinstance : PySem.W.nsIn K mainGlobals "isinstance" = some none)
    (z_len : PySem.W.nsIn K mainGlobals "len" = some none)
    (z_list : PySem.W.nsIn K mainGlobals "list" = some none)
    (z_max : PySem.W.nsIn K mainGlobals "max" = some none)
    (z_min : PySem.W.nsIn K mainGlobals "min" = some none)
    (z_range : PySem.W.nsIn K mainGlobals "range" = some none)
    (z_sorted : PySem.W.nsIn K mainGlobals "sorted" = some none)
    (z_sum : PySem.W.nsIn K mainGlobals "sum" = some none)
    (z_tuple : PySem.W.nsIn K mainGlobals "tuple" = some none) :
    ∃ fd : FuncData, (∀ (s : Shared) (v : Value), BindsTo s fd ⟨[v], []⟩ [("_law_script", v)]) ∧ ∀ base : Heap, K.In base → base.Ns mainGlobals mg → FnOk l.prog w K mg base CX0 25 fa fd ["_law_script"] (sp_law K) := by
  have e := hfa.symm.trans (PySem.W.mg_of X G a37)
  cases e
  let A : Nat → Addr := fun i => match i with | 7 => f7 | 8 => f8 | 9 => f9 | 10 => f10 | 12 => f12 | 15 => f15 | 16 => f16 | 17 => f17 | 18 => f18 | 19 => f19 | 20 => f20 | 22 => f22 | 24 => f24 | 25 => f25 | 26 => f26 | 27 => f27 | 28 => f28 | 29 => f29 | 30 => f30 | 31 => f31 | 32 => f32 | 33 => f33 | 34 => f34 | 35 => f35 | 36 => f36 | 37 => fa | 22000 => f22000 | 22001 => f22001 | 1 => g1 | 3 => g3 | 4 => g4 | 5 => g5 | 21 => g21 | _ => fa
  let FD : Nat → FuncData := fun i => match i with | 7 => (PySem.W.fnOf "near_lists" "near_lists" (defArgs s_near_lists) (defBody s_near_lists) (defScope s_near_lists) .none kV7 dc7 pm7 an7 cd7 ct7) | 8 => (PySem.W.fnOf "fars_by" "fars_by" (defArgs s_fars_by) (defBody s_fars_by) (defScope s_fars_by) .none kV8 dc8 pm8 an8 cd8 ct8) | 9 => (PySem.W.fnOf "place_asked" "place_asked" (defArgs s_place_asked) (defBody s_place_asked) (defScope s_place_asked) .none kV9 dc9 pm9 an9 cd9 ct9) | 10 => (PySem.W.fnOf "fars_from" "fars_from" (defArgs s_fars_from) (defBody s_fars_from) (defScope s_fars_from) .none kV10 dc10 pm10 an10 cd10 ct10) | 12 => (PySem.W.fnOf "things_of" "things_of" (defArgs s_things_of) (defBody s_things_of) (defScope s_things_of) .none kV12 dc12 pm12 an12 cd12 ct12) | 15 => (PySem.W.fnOf "fars_of" "fars_of" (defArgs s_fars_of) (defBody s_fars_of) (defScope s_fars_of) .none kV15 dc15 pm15 an15 cd15 ct15) | 16 => (PySem.W.fnOf "far_in" "far_in" (defArgs s_far_in) (defBody s_far_in) (defScope s_far_in) .none kV16 dc16 pm16 an16 cd16 ct16) | 17 => (PySem.W.fnOf "parters_in" "parters_in" (defArgs s_parters_in) (defBody s_parters_in) (defScope s_parters_in) .none kV17 dc17 pm17 an17 cd17 ct17) | 18 => (PySem.W.fnOf "pairs_of" "pairs_of" (defArgs s_pairs_of) (defBody s_pairs_of) (defScope s_pairs_of) .none kV18 dc18 pm18 an18 cd18 ct18) | 19 => (PySem.W.fnOf "leanest_pairs" "leanest_pairs" (defArgs s_leanest_pairs) (defBody s_leanest_pairs) (defScope s_leanest_pairs) .none kV19 dc19 pm19 an19 cd19 ct19) | 20 => (PySem.W.fnOf "too_seldom" "too_seldom" (defArgs s_too_seldom) (defBody s_too_seldom) (defScope s_too_seldom) .none kV20 dc20 pm20 an20 cd20 ct20) | 22 => (PySem.W.fnOf "fewest_looks" "fewest_looks" (defArgs s_fewest_looks) (defBody s_fewest_looks) (defScope s_fewest_looks) .none kV22 dc22 pm22 an22 cd22 ct22) | 24 => (PySem.W.fnOf "_law_purse" "_law_purse" (defArgs s_law_purse) (defBody s_law_purse) (defScope s_law_purse) .none kV24 dc24 pm24 an24 cd24 ct24) | 25 => (PySem.W.fnOf "_law_take" "_law_take" (defArgs s_law_take) (defBody s_law_take) (defScope s_law_take) .none kV25 dc25 pm25 an25 cd25 ct25) | 26 => (PySem.W.fnOf "_law_order" "_law_order" (defArgs s_law_order) (defBody s_law_order) (defScope s_law_order) .none kV26 dc26 pm26 an26 cd26 ct26) | 27 => (PySem.W.fnOf "_law_pairs" "_law_pairs" (defArgs s_law_pairs) (defBody s_law_pairs) (defScope s_law_pairs) .none kV27 dc27 pm27 an27 cd27 ct27) | 28 => (PySem.W.fnOf "_law_web" "_law_web" (defArgs s_law_web) (defBody s_law_web) (defScope s_law_web) .none kV28 dc28 pm28 an28 cd28 ct28) | 29 => (PySem.W.fnOf "_law_table" "_law_table" (defArgs s_law_table) (defBody s_law_table) (defScope s_law_table) .none kV29 dc29 pm29 an29 cd29 ct29) | 30 => (PySem.W.fnOf "_law_things" "_law_things" (defArgs s_law_things) (defBody s_law_things) (defScope s_law_things) .none kV30 dc30 pm30 an30 cd30 ct30) | 31 => (PySem.W.fnOf "_law_far" "_law_far" (defArgs s_law_far) (defBody s_law_far) (defScope s_law_far) .none kV31 dc31 pm31 an31 cd31 ct31) | 32 => (PySem.W.fnOf "_law_parters" "_law_parters" (defArgs s_law_parters) (defBody s_law_parters) (defScope s_law_parters) .none kV32 dc32 pm32 an32 cd32 ct32) | 33 => (PySem.W.fnOf "_law_parted" "_law_parted" (defArgs s_law_parted) (defBody s_law_parted) (defScope s_law_parted) .none kV33 dc33 pm33 an33 cd33 ct33) | 34 => (PySem.W.fnOf "_law_fewest" "_law_fewest" (defArgs s_law_fewest) (defBody s_law_fewest) (defScope s_law_fewest) .none kV34 dc34 pm34 an34 cd34 ct34) | 35 => (PySem.W.fnOf "_law_right" "_law_right" (defArgs s_law_right) (defBody s_law_right) (defScope s_law_right) .none kV35 dc35 pm35 an35 cd35 ct35) | 36 => (PySem.W.fnOf "_law_refused" "_law_refused" (defArgs s_law_refused) (defBody s_law_refused) (defScope s_law_refused) .none kV36 dc36 pm36 an36 cd36 ct36) | 37 => (PySem.W.fnOf "law" "law" (defArgs s_law) (defBody s_law) (defScope s_law) .none kV37 dc37 pm37 an37 cd37 ct37) | 22000 => (PySem.W.fnOf "__init__" "Search.__init__" (defArgs s_Search_init) (defBody s_Search_init) (defScope s_Search_init) .none kV22000 dc22000 pm22000 an22000 cd22000 ct22000) | 22001 => (PySem.W.fnOf "tree_of" "Search.tree_of" (defArgs s_Search_tree_of) (defBody s_Search_tree_of) (defScope s_Search_tree_of) .none kV22001 dc22001 pm22001 an22001 cd22001 ct22001) | _ => (PySem.W.fnOf "law" "law" (defArgs s_law) (defBody s_law) (defScope s_law) .none kV37 dc37 pm37 an37 cd37 ct37)
  have T : Tx K mg A FD := {
    d7 := dn_mk (st := s_near_lists) (ps := ["web"]) X G a7 l7 c7 k7 fun _ _ _ _ _ _ us hl => by (obtain ⟨_, rfl⟩ := us1 hl; rfl)
    d8 := dn_mk (st := s_fars_by) (ps := ["near", "place"]) X G a8 l8 c8 k8 fun _ _ _ _ _ _ us hl => by (obtain ⟨_, _, rfl⟩ := us2 hl; rfl)
    d9 := dn_mk (st := s_place_asked) (ps := ["web", "place"]) X G a9 l9 c9 k9 fun _ _ _ _ _ _ us hl => by (obtain ⟨_, _, rfl⟩ := us2 hl; rfl)
    d10 := dn_mk (st := s_fars_from) (ps := ["web", "place"]) X G a10 l10 c10 k10 fun _ _ _ _ _ _ us hl => by (obtain ⟨_, _, rfl⟩ := us2 hl; rfl)
    d12 := dn_mk (st := s_things_of) (ps := ["web", "kind"]) X G a12 l12 c12 k12 fun _ _ _ _ _ _ us hl => by (obtain ⟨_, _, rfl⟩ := us2 hl; rfl)
    d15 := dn_mk (st := s_fars_of) (ps := ["web"]) X G a15 l15 c15 k15 fun _ _ _ _ _ _ us hl => by (obtain ⟨_, rfl⟩ := us1 hl; rfl)
    d16 := dn_mk (st := s_far_in) (ps := ["fars", "thing"]) X G a16 l16 c16 k16 fun _ _ _ _ _ _ us hl => by (obtain ⟨_, _, rfl⟩ := us2 hl; rfl)
    d17 := dn_mk (st := s_parters_in) (ps := ["table", "one", "other"]) X G a17 l17 c17 k17 fun _ _ _ _ _ _ us hl => by (obtain ⟨_, _, _, rfl⟩ := us3 hl; rfl)
    d18 := dn_mk (st := s_pairs_of) (ps := ["web", "kind"]) X G a18 l18 c18 k18 fun _ _ _ _ _ _ us hl => by (obtain ⟨_, _, rfl⟩ := us2 hl; rfl)
    d19 := dn_mk (st := s_leanest_pairs) (ps := ["pairs"]) X G a19 l19 c19 k19 fun _ _ _ _ _ _ us hl => by (obtain ⟨_, rfl⟩ := us1 hl; rfl)
    d20 := dn_mk (st := s_too_seldom) (ps := ["pairs", "strength", "within"]) X G a20 l20 c20 k20 fun _ _ _ _ _ _ us hl => by (obtain ⟨_, _, _, rfl⟩ := us3 hl; rfl)
    d22 := dn_mk (st := s_fewest_looks) (ps := ["web", "kind", "strength"]) X G a22 l22 c22 k22 fun _ _ _ _ _ _ us hl => by (obtain ⟨_, _, _, rfl⟩ := us3 hl; rfl)
    d24 := dn_mk (st := s_law_purse) (ps := ["_law_script", "_law_k"]) X G a24 l24 c24 k24 fun _ _ _ _ _ _ us hl => by (obtain ⟨_, _, rfl⟩ := us2 hl; rfl)
    d25 := dn_mk (st := s_law_take) (ps := ["_law_purse_here", "_law_many"]) X G a25 l25 c25 k25 fun _ _ _ _ _ _ us hl => by (obtain ⟨_, _, rfl⟩ := us2 hl; rfl)
    d26 := dn_mk (st := s_law_order) (ps := ["_law_purse_here", "_law_many"]) X G a26 l26 c26 k26 fun _ _ _ _ _ _ us hl => by (obtain ⟨_, _, rfl⟩ := us2 hl; rfl)
    d27 := dn_mk (st := s_law_pairs) (ps := ["_law_purse_here", "_law_many", "_law_way"]) X G a27 l27 c27 k27 fun _ _ _ _ _ _ us hl => by (obtain ⟨_, _, _, rfl⟩ := us3 hl; rfl)
    d28 := dn_mk (st := s_law_web) (ps := ["_law_purse_here", "_law_least", "_law_most"]) X G a28 l28 c28 k28 fun _ _ _ _ _ _ us hl => by (obtain ⟨_, _, _, rfl⟩ := us3 hl; rfl)
    d29 := dn_mk (st := s_law_table) (ps := ["_law_web_here"]) X G a29 l29 c29 k29 fun _ _ _ _ _ _ us hl => by (obtain ⟨_, rfl⟩ := us1 hl; rfl)
    d30 := dn_mk (st := s_law_things) (ps := ["_law_web_here", "_law_kind"]) X G a30 l30 c30 k30 fun _ _ _ _ _ _ us hl => by (obtain ⟨_, _, rfl⟩ := us2 hl; rfl)
    d31 := dn_mk (st := s_law_far) (ps := ["_law_fars", "_law_look", "_law_thing"]) X G a31 l31 c31 k31 fun _ _ _ _ _ _ us hl => by (obtain ⟨_, _, _, rfl⟩ := us3 hl; rfl)
    d32 := dn_mk (st := s_law_parters) (ps := ["_law_fars", "_law_one", "_law_other"]) X G a32 l32 c32 k32 fun _ _ _ _ _ _ us hl => by (obtain ⟨_, _, _, rfl⟩ := us3 hl; rfl)
    d33 := dn_mk (st := s_law_parted) (ps := ["_law_web_here", "_law_kind"]) X G a33 l33 c33 k33 fun _ _ _ _ _ _ us hl => by (obtain ⟨_, _, rfl⟩ := us2 hl; rfl)
    d34 := dn_mk (st := s_law_fewest) (ps := ["_law_web_here", "_law_pairs_here", "_law_strength"]) X G a34 l34 c34 k34 fun _ _ _ _ _ _ us hl => by (obtain ⟨_, _, _, rfl⟩ := us3 hl; rfl)
    d35 := dn_mk (st := s_law_right) (ps := ["_law_web_here", "_law_pairs_here", "_law_strength", "_law_found"]) X G a35 l35 c35 k35 fun _ _ _ _ _ _ us hl => by (obtain ⟨_, _, _, _, rfl⟩ := us4 hl; rfl)
    d36 := dn_mk (st := s_law_refused) (ps := ["_law_web_here", "_law_kind", "_law_strength"]) X G a36 l36 c36 k36 fun _ _ _ _ _ _ us hl => by (obtain ⟨_, _, _, rfl⟩ := us3 hl; rfl)
    d37 := dn_mk (st := s_law) (ps := ["_law_script"]) X G a37 l37 c37 k37 fun _ _ _ _ _ _ us hl => by (obtain ⟨_, rfl⟩ := us1 hl; rfl)
    d22000 := ⟨fun_mk (st := s_Search_init) l22000 c22000 k22000, ⟨a22000, i22000, k22000⟩, (fun_mk (st := s_Search_init) l22000 c22000 k22000).binds (ps := ["self", "pairs", "strength", "many"]) fun _ _ _ _ _ _ us hl => by (obtain ⟨_, _, _, _, rfl⟩ := us4 hl; rfl)⟩
    d22001 := ⟨fun_mk (st := s_Search_tree_of) l22001 c22001 k22001, ⟨a22001, i22001, k22001⟩, (fun_mk (st := s_Search_tree_of) l22001 c22001 k22001).binds (ps := ["self", "within", "without"]) fun _ _ _ _ _ _ us hl => by (obtain ⟨_, _, _, rfl⟩ := us3 hl; rfl)⟩
    n_ValueError := PySem.W.mg_none_of X G z_ValueError
    n_all := PySem.W.mg_none_of X G z_all
    n_bool := PySem.W.mg_none_of X G z_bool
    n_enumerate := PySem.W.mg_none_of X G z_enumerate
    n_int := PySem.W.mg_none_of X G z_int
    n_isinstance := PySem.W.mg_none_of X G z_isinstance
    n_len := PySem.W.mg_none_of X G z_len
    n_list := PySem.W.mg_none_of X G z_list
    n_max := PySem.W.mg_none_of X G z_max
    n_min := PySem.W.mg_none_of X G z_min
    n_range := PySem.W.mg_none_of X G z_range
    n_sorted := PySem.W.mg_none_of X G z_sorted
    n_sum := PySem.W.mg_none_of X G z_sum
    n_tuple := PySem.W.mg_none_of X G z_tuple
    c_MOST_SEARCHED := ⟨_, PySem.W.mg_of X G kc_MOST_SEARCHED⟩
    cl_Search := ⟨op_Search, oh_Search, oo_Search, os_Search⟩
    nm_Search := ns_Search
    mg_Search := PySem.W.mg_of X G ns_Search
    mk_Search := ⟨om_Search, a22000, i22000, ok_Search⟩
    na_Search_pairs := of_Search_pairs
    na_Search_strength := of_Search_strength
    na_Search_many := of_Search_many
    na_Search_looks := of_Search_looks
    x_TooMany := ⟨ns_TooMany, PySem.W.mg_of X G ns_TooMany, xc_TooMany, kp_TooMany, b_TooMany, t_TooMany, ⟨hg_TooMany, hk_TooMany, b_TooMany, hd_TooMany, ha_TooMany, hn_, ht_, hm_TooMany⟩⟩
    g_HailError := PySem.W.mg_of X G ns_HailError
    g_NoLooks := PySem.W.mg_of X G ns_NoLooks
    g_NoThing := PySem.W.mg_of X G ns_NoThing
    g_TooMany := PySem.W.mg_of X G ns_TooMany
    eh_TooMany := PySem.W.exm_ref hb_HailError hh_HailError ht_HailError eh_TooMany
    kt_TooMany_NoLooks := kit_ref ic_NoLooks tc_NoLooks ks_TooMany_NoLooks (.inr ne_TooMany_NoLooks)
    kt_TooMany_NoThing := kit_ref ic_NoThing tc_NoThing ks_TooMany_NoThing (.inr ne_TooMany_NoThing)
    kt_TooMany_TooMany := kit_ref ic_TooMany tc_TooMany ks_TooMany_TooMany (.inl rfl)
    kt_TooMany_ValueError := kit_ty (by decide +kernel) ks_TooMany_ValueError }
  exact ⟨(PySem.W.fnOf "law" "law" (defArgs s_law) (defBody s_law) (defScope s_law) .none kV37 dc37 pm37 an37 cd37 ct37), fun s v => .of_eq rfl, fun base _ _ => ok_law (A := A) (FD := FD) T⟩
theorem walk {l : PySem.W.OpenLaw} {q : Program} {loose : List Str} {XP : (Str → Option Value) → Heap → Prop} {YP : World → Heap → Prop} {d : DefRec} {K : Params → PySem.W.Frag} (hn : l.most = some 63) (hdf : d.params.defaults = [])
    (hY : ∀ (w : World) (h : Heap), YP w h → (K w.params).In h)
    (F : ∀ (w : World) (mg : Str → Option Value) (fa : Addr) (h : Heap), (K w.params).In h → h.Ns mainGlobals mg → mg d.name = some (.ref fa) →
      ∃ fd : FuncData, (∀ (s : Shared) (u : Value), BindsTo s fd ⟨[u], []⟩ [("_law_script", u)]) ∧ ∀ base : Heap, (K w.params).In base → base.Ns mainGlobals mg → FnOk l.prog w (K w.params) mg base CX0 25 fa fd ["_law_script"] (sp_law (K w.params))) :
    PySem.W.WalkO q loose XP YP l.row.toRowW d [] (fun f vs => PySem.call f vs) :=
  L2.walk_of (n := 63) (k := 25) (x := "_law_script") (CX := fun _ => CX0) (sp := fun w => sp_law (K w.params)) hn (by decide) hdf ⟨rfl, by decide, by decide⟩ hY F
    (fun _ H a ns hl _ hS => ⟨H, [], .ref a, ⟨ns⟩, rfl, ⟨Same.refl _, (fun _ z => nomatch z), List.Pairwise.nil, (fun _ z => nomatch z)⟩, ⟨a, rfl, hS⟩, by rw [law_true ns hl]; exact fun v F2 H2 w s r => r⟩) fun _ _ _ _ _ z => z
end G
open PySem PySem.W PyProof.Rows
set_option maxRecDepth 100000 in
set_option maxHeartbeats 0 in
theorem PySem.Challenge.cw_farhail_k35_fewest_told_holds : PySem.Challenge.rw_farhail_k35_fewest_told.Holds := by
  refine HD.whole ?_
  k_fill
  refine G.walk (l := PySem.Challenge.rw_farhail_k35_fewest_told) rfl rfl (fun w h Y => PySem.W.kIn_of Y) ?F
  case F =>
    intro w mg fa h KX Gn hmg
    refine' G.all_mk KX Gn hmg ?a7 ?l7 ?c7 ?k7 ?a8 ?l8 ?c8 ?k8 ?a9 ?l9 ?c9 ?k9 ?a10 ?l10 ?c10 ?k10 ?a12 ?l12 ?c12 ?k12 ?a15 ?l15 ?c15 ?k15 ?a16 ?l16 ?c16 ?k16 ?a17 ?l17 ?c17 ?k17 ?a18 ?l18 ?c18 ?k18 ?a19 ?l19 ?c19 ?k19 ?a20 ?l20 ?c20 ?k20 ?a22 ?l22 ?c22 ?k22 ?a24 ?l24 ?c24 ?k24 ?a25 ?l25 ?c25 ?k25 ?a26 ?l26 ?c26 ?k26 ?a27 ?l27 ?c27 ?k27 ?a28 ?l28 ?c28 ?k28 ?a29 ?l29 ?c29 ?k29 ?a30 ?l30 ?c30 ?k30 ?a31 ?l31 ?c31 ?k31 ?a32 ?l32 ?c32 ?k32 ?a33 ?l33 ?c33 ?k33 ?a34 ?l34 ?c34 ?k34 ?a35 ?l35 ?c35 ?k35 ?a36 ?l36 ?c36 ?k36 ?a37 ?l37 ?c37 ?k37 ?a22000 ?i22000 ?l22000 ?c22000 ?k22000 ?a22001 ?i22001 ?l22001 ?c22001 ?k22001 ?ns_HailError ?ns_NoThing ?ns_NoLooks ?ns_TooMany ?ns_Search ?xc_TooMany ?kp_TooMany ?b_TooMany ?t_TooMany ?hg_TooMany ?hk_TooMany ?hd_TooMany ?ha_TooMany ?hm_TooMany ?eh_TooMany ?ks_TooMany_NoLooks ?ne_TooMany_NoLooks ?ks_TooMany_NoThing ?ne_TooMany_NoThing ?ks_TooMany_TooMany ?ks_TooMany_ValueError ?ic_NoLooks ?tc_NoLooks ?ic_NoThing ?tc_NoThing ?ic_TooMany ?tc_TooMany ?hb_HailError ?hh_HailError ?ht_HailError ?op_Search ?oh_Search ?oo_Search ?os_Search ?om_Search ?ok_Search ?of_Search_pairs ?of_Search_strength ?of_Search_many ?of_Search_looks ?hn_ ?ht_ ?kc_MOST_SEARCHED ?z_ValueError ?z_all ?z_bool ?z_enumerate ?z_int ?z_isinstance ?z_len ?z_list ?z_max ?z_min ?z_range ?z_sorted ?z_sum ?z_tuple
    (case a7 => k_is); (case l7 => k_is); (case c7 => k_is); (case k7 => k_is)
    (case a8 => k_is); (case l8 => k_is); (case c8 => k_is); (case k8 => k_is)
    (case a9 => k_is); (case l9 => k_is); (case c9 => k_is); (case k9 => k_is)
    (case a10 => k_is); (case l10 => k_is); (case c10 => k_is); (case k10 => k_is)
    (case a12 => k_is); (case l12 => k_is); (case c12 => k_is); (case k12 => k_is)
    (case a15 => k_is); (case l15 => k_is); (case c15 => k_is); (case k15 => k_is)
    (case a16 => k_is); (case l16 => k_is); (case c16 => k_is); (case k16 => k_is)
    (case a17 => k_is); (case l17 => k_is); (case c17 => k_is); (case k17 => k_is)
    (case a18 => k_is); (case l18 => k_is); (case c18 => k_is); (case k18 => k_is)
    (case a19 => k_is); (case l19 => k_is); (case c19 => k_is); (case k19 => k_is)
    (case a20 => k_is); (case l20 => k_is); (case c20 => k_is); (case k20 => k_is)
    (case a22 => k_is); (case l22 => k_is); (case c22 => k_is); (case k22 => k_is)
    (case a24 => k_is); (case l24 => k_is); (case c24 => k_is); (case k24 => k_is)
    (case a25 => k_is); (case l25 => k_is); (case c25 => k_is); (case k25 => k_is)
    (case a26 => k_is); (case l26 => k_is); (case c26 => k_is); (case k26 => k_is)
    (case a27 => k_is); (case l27 => k_is); (case c27 => k_is); (case k27 => k_is)
    (case a28 => k_is); (case l28 => k_is); (case c28 => k_is); (case k28 => k_is)
    (case a29 => k_is); (case l29 => k_is); (case c29 => k_is); (case k29 => k_is)
    (case a30 => k_is); (case l30 => k_is); (case c30 => k_is); (case k30 => k_is)
    (case a31 => k_is); (case l31 => k_is); (case c31 => k_is); (case k31 => k_is)
    (case a32 => k_is); (case l32 => k_is); (case c32 => k_is); (case k32 => k_is)
    (case a33 => k_is); (case l33 => k_is); (case c33 => k_is); (case k33 => k_is)
    (case a34 => k_is); (case l34 => k_is); (case c34 => k_is); (case k34 => k_is)
    (case a35 => k_is); (case l35 => k_is); (case c35 => k_is); (case k35 => k_is)
    (case a36 => k_is); (case l36 => k_is); (case c36 => k_is); (case k36 => k_is)
    (case a37 => k_is); (case l37 => k_is); (case c37 => k_is); (case k37 => k_is)
    (case ns_HailError => k_is)
    (case ns_NoThing => k_is)
    (case ns_NoLooks => k_is)
    (case ns_TooMany => k_is)
    (case ns_Search => k_is)
    (case a22000 => k_is); (case i22000 => k_is); (case l22000 => k_is); (case c22000 => k_is); (case k22000 => k_is)
    (case a22001 => k_is); (case i22001 => k_is); (case l22001 => k_is); (case c22001 => k_is); (case k22001 => k_is)
    (case xc_TooMany => k_exc)
    (case kp_TooMany => k_is)
    (case b_TooMany => k_is)
    (case t_TooMany => k_is)
    (case hg_TooMany => k_is)
    (case hk_TooMany => k_is)
    (case hd_TooMany => k_is)
    (case ha_TooMany => k_is)
    (case hm_TooMany => k_is)
    (case eh_TooMany => first | rfl | k_is)
    (case ks_TooMany_NoLooks => first | rfl | k_is)
    (case ne_TooMany_NoLooks => first | rfl | decide +kernel)
    (case ks_TooMany_NoThing => first | rfl | k_is)
    (case ne_TooMany_NoThing => first | rfl | decide +kernel)
    (case ks_TooMany_TooMany => first | rfl | k_is)
    (case ks_TooMany_ValueError => first | rfl | k_is)
    (case ic_NoLooks => k_is)
    (case tc_NoLooks => k_is)
    (case ic_NoThing => k_is)
    (case tc_NoThing => k_is)
    (case ic_TooMany => k_is)
    (case tc_TooMany => k_is)
    (case hb_HailError => k_is)
    (case hh_HailError => k_is)
    (case ht_HailError => k_is)
    (case op_Search => k_is)
    (case oh_Search => k_is)
    (case oo_Search => k_is)
    (case os_Search => k_is)
    (case om_Search => k_is)
    (case ok_Search => k_is)
    (case of_Search_pairs => k_is)
    (case of_Search_strength => k_is)
    (case of_Search_many => k_is)
    (case of_Search_looks => k_is)
    (case hn_ => k_is)
    (case ht_ => k_is)
    (case kc_MOST_SEARCHED => k_is)
    (case z_ValueError => k_is)
    (case z_all => k_is)
    (case z_bool => k_is)
    (case z_enumerate => k_is)
    (case z_int => k_is)
    (case z_isinstance => k_is)
    (case z_len => k_is)
    (case z_list => k_is)
    (case z_max => k_is)
    (case z_min => k_is)
    (case z_range => k_is)
    (case z_sorted => k_is)
    (case z_sum => k_is)
    (case z_tuple => k_is)
#print axioms PySem.Challenge.cw_farhail_k35_fewest_told_holds
