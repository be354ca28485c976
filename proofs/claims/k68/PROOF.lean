import PyProof.Rows.All
import Wide.All
import OpenK.AllK
import Wide.FinOn
import KE.KUnpackStar
import HandS.ForMost
import HandS.TupMul
import KE.KDictDisplayH
import PyProof.DictTable
import KE.KDictList
import KE.KItemsList
import HandS.Conv
import HandS.DictTup
import HandS.SortOrd
import HandS.SortRule
import HandS.Zip0
import HandS.Zip
import KE.KLam
import HandS.Lambda
import HandS.Nested
import HandS.More
import HandS.Defaults
import HandS.TupAny
import HandS.TupLen
import HandS.IsInst
import HandS.Deep
import HandS.Wide
import PySem.Challenge.RW_mildwarden_k68_whole_rows_of_watchers
import KE.KStateDown
import Lean
import HandS.ForExc
import HandS.Head0
import HandS.Head1
import HandS.Head2
import HandS.HeadEnd
import HandS.HeadHook1
import HandS.HeadHook2
import HandS.HeadHook3
import HandS.HeadHook4
import HandS.HeadWalk
set_option Elab.async false
set_option linter.all false
set_option maxRecDepth 100000
set_option maxHeartbeats 4000000
namespace Wr
/-! ### watchers as data: states, for each sign, for each deed (deed let by, state behind) -/
abbrev Tab := List (List (List (Nat × Nat)))
def cell (w : Tab) (k s d : Nat) : Nat × Nat := (((w.getD k []).getD s []).getD d (0, 0))
def ROk (D n : Nat) (r : List (Nat × Nat)) : Prop := r.length = D ∧ ∀ c ∈ r, c.1 < D ∧ c.2 < n
def SOk (S D n : Nat) (st : List (List (Nat × Nat))) : Prop := st.length = S ∧ ∀ r ∈ st, ROk D n r
def TOk (S D : Nat) (w : Tab) : Prop := 0 < w.length ∧ ∀ st ∈ w, SOk S D w.length st
theorem TOk.cel {S D : Nat} {w : Tab} (h : TOk S D w) {k s d : Nat} (hk : k < w.length) (hs : s < S) (hd : d < D) : ∃ st r, w[k]? = some st ∧ st[s]? = some r ∧ r[d]? = some (cell w k s d) ∧ (cell w k s d).1 < D ∧ (cell w k s d).2 < w.length := by
  have e1 := List.getElem?_eq_getElem hk
  have h1 := h.2 _ (List.getElem_mem hk)
  have hs' : s < (w[k]).length := by rw [h1.1]; exact hs
  have e2 := List.getElem?_eq_getElem hs'
  have h2 := h1.2 _ (List.getElem_mem hs')
  have hd' : d < (w[k][s]).length := by rw [h2.1]; exact hd
  have e3 := List.getElem?_eq_getElem hd'
  have h3 := h2.2 _ (List.getElem_mem hd')
  have ec : cell w k s d = w[k][s][d] := by
    unfold cell
    rw [List.getD_eq_getElem?_getD, List.getD_eq_getElem?_getD, List.getD_eq_getElem?_getD, e1, Option.getD_some, e2, Option.getD_some, e3]
    rfl
  rw [ec]
  exact ⟨_, _, e1, e2, e3, h3.1, h3.2⟩
/-! ### machines -/
structure Mach (α : Type) where
  init : α
  out : α → Nat → Nat → Nat
  nxt : α → Nat → Nat → α
section
variable {α : Type} [DecidableEq α]
def addOne (th : List α) (x : α) : List α := if x ∈ th then th else th ++ [x]
def addAll (th xs : List α) : List α := xs.foldl addOne th
def succ (M : Mach α) (D : Nat) (x : α) (s : Nat) : List α := (List.range D).map fun d => M.nxt x s d
def addSigns (M : Mach α) (D : Nat) (x : α) (th : List α) (n : Nat) : List α := (List.range n).foldl (fun th s => addAll th (succ M D x s)) th
/-- the things numbered when n of them have been followed -/
def things (M : Mach α) (S D : Nat) : Nat → List α
  | 0 => [M.init]
  | n + 1 => match (things M S D n)[n]? with
    | none => things M S D n
    | some x => addSigns M D x (things M S D n) S
theorem addOne_nodup {th : List α} {x : α} (h : th.Nodup) : (addOne th x).Nodup := by
  unfold addOne
  split
  · exact h
  · rename_i hx
    rw [List.nodup_append]
    exact ⟨h, List.nodup_cons.mpr ⟨by simp, List.nodup_nil⟩, fun a ha b hb e => by
      have : b = x := by simpa using hb
      subst this
      subst e
      exact hx ha⟩
theorem addOne_pre {th : List α} {x : α} : th <+: addOne th x := by
  unfold addOne
  split
  · exact List.prefix_refl _
  · exact List.prefix_append _ _
theorem addOne_mem {th : List α} {x : α} : x ∈ addOne th x := by
  unfold addOne
  split
  · assumption
  · simp
theorem of_addOne {th : List α} {x y : α} (h : y ∈ addOne th x) : y ∈ th ∨ y = x := by
  unfold addOne at h
  split at h
  · exact .inl h
  · rcases List.mem_append.mp h with h | h
    · exact .inl h
    · exact .inr (by simpa using h)
theorem addAll_nodup : ∀ {xs th : List α}, th.Nodup → (addAll th xs).Nodup
  | [], _, h => h
  | x :: r, th, h => addAll_nodup (xs := r) (th := addOne th x) (addOne_nodup h)
theorem addAll_pre : ∀ {xs th : List α}, th <+: addAll th xs
  | [], _ => List.prefix_refl _
  | _ :: _, _ => List.IsPrefix.trans addOne_pre addAll_pre
theorem addAll_mem : ∀ {xs th : List α} {x : α}, x ∈ xs → x ∈ addAll th xs
  | y :: r, th, x, h => by
    show x ∈ addAll (addOne th y) r
    rcases List.mem_cons.mp h with h | h
    · subst h
      exact addAll_pre.subset addOne_mem
    · exact addAll_mem h
theorem of_addAll : ∀ {xs th : List α} {y : α}, y ∈ addAll th xs → y ∈ th ∨ y ∈ xs
  | [], _, _, h => .inl h
  | x :: r, th, y, h => by
    rcases of_addAll (xs := r) (th := addOne th x) h with h | h
    · rcases of_addOne h with h | h
      · exact .inl h
      · exact .inr (by simp [h])
    · exact .inr (List.mem_cons_of_mem _ h)
theorem addSigns_succ {M : Mach α} {D : Nat} {x : α} {th : List α} {n : Nat} : addSigns M D x th (n + 1) = addAll (addSigns M D x th n) (succ M D x n) := by
  unfold addSigns
  rw [List.range_succ, List.foldl_append]
  rfl
theorem addSigns_nodup {M : Mach α} {D : Nat} {x : α} {th : List α} (h : th.Nodup) : ∀ n, (addSigns M D x th n).Nodup
  | 0 => h
  | n + 1 => by
    rw [addSigns_succ]
    exact addAll_nodup (addSigns_nodup h n)
theorem addSigns_pre {M : Mach α} {D : Nat} {x : α} {th : List α} : ∀ n, th <+: addSigns M D x th n
  | 0 => List.prefix_refl _
  | n + 1 => by
    rw [addSigns_succ]
    exact (addSigns_pre n).trans addAll_pre
theorem addSigns_mem {M : Mach α} {D : Nat} {x : α} {th : List α} {s d : Nat} (hd : d < D) : ∀ {n}, s < n → M.nxt x s d ∈ addSigns M D x th n
  | n + 1, h => by
    rw [addSigns_succ]
    by_cases e : s = n
    · subst e
      exact addAll_mem (List.mem_map.mpr ⟨d, List.mem_range.mpr hd, rfl⟩)
    · exact addAll_pre.subset (addSigns_mem hd (by omega))
theorem of_addSigns {M : Mach α} {D : Nat} {x y : α} {th : List α} : ∀ {n}, y ∈ addSigns M D x th n → y ∈ th ∨ ∃ s d, s < n ∧ d < D ∧ y = M.nxt x s d
  | 0, h => .inl h
  | n + 1, h => by
    rw [addSigns_succ] at h
    rcases of_addAll h with h | h
    · rcases of_addSigns h with h | ⟨s, d, h1, h2, h3⟩
      · exact .inl h
      · exact .inr ⟨s, d, by omega, h2, h3⟩
    · obtain ⟨d, hd, e⟩ := List.mem_map.mp h
      exact .inr ⟨n, d, by omega, List.mem_range.mp hd, e.symm⟩
theorem things_succ {M : Mach α} {S D n : Nat} {x : α} (h : (things M S D n)[n]? = some x) : things M S D (n + 1) = addSigns M D x (things M S D n) S := by
  show (match (things M S D n)[n]? with | none => things M S D n | some x => addSigns M D x (things M S D n) S) = _
  rw [h]
theorem things_stop {M : Mach α} {S D n : Nat} (h : (things M S D n)[n]? = none) : things M S D (n + 1) = things M S D n := by
  show (match (things M S D n)[n]? with | none => things M S D n | some x => addSigns M D x (things M S D n) S) = _
  rw [h]
theorem things_nodup {M : Mach α} {S D : Nat} : ∀ n, (things M S D n).Nodup
  | 0 => List.nodup_cons.mpr ⟨by simp, List.nodup_nil⟩
  | n + 1 => by
    cases h : (things M S D n)[n]? with
    | none => rw [things_stop h]; exact things_nodup n
    | some x => rw [things_succ h]; exact addSigns_nodup (things_nodup n) S
theorem things_pre1 {M : Mach α} {S D : Nat} (n : Nat) : things M S D n <+: things M S D (n + 1) := by
  cases h : (things M S D n)[n]? with
  | none => rw [things_stop h]; exact List.prefix_refl _
  | some x => rw [things_succ h]; exact addSigns_pre S
theorem things_pre {M : Mach α} {S D : Nat} {n : Nat} : ∀ m, things M S D n <+: things M S D (n + m)
  | 0 => List.prefix_refl _
  | m + 1 => (things_pre m).trans (things_pre1 (n + m))
theorem things_stay {M : Mach α} {S D n : Nat} (h : (things M S D n).length ≤ n) : ∀ m, things M S D (n + m) = things M S D n
  | 0 => rfl
  | m + 1 => by
    have ih := things_stay h m
    rw [← Nat.add_assoc, things_stop, ih]
    rw [ih]
    exact List.getElem?_eq_none (by omega)
theorem things_inv {M : Mach α} {S D : Nat} {P : α → Prop} (h0 : P M.init) (hs : ∀ x s d, P x → s < S → d < D → P (M.nxt x s d)) : ∀ n, ∀ x ∈ things M S D n, P x
  | 0, x, h => by
    have : x = M.init := by simpa [things] using h
    rw [this]; exact h0
  | n + 1, x, h => by
    cases e : (things M S D n)[n]? with
    | none => rw [things_stop e] at h; exact things_inv h0 hs n x h
    | some y =>
      rw [things_succ e] at h
      rcases of_addSigns h with h | ⟨s, d, h1, h2, rfl⟩
      · exact things_inv h0 hs n x h
      · exact hs y s d (things_inv h0 hs n y (List.mem_of_getElem? e)) h1 h2
/-- where it has stopped, all that comes is there -/
theorem things_closed {M : Mach α} {S D n : Nat} {i s d : Nat} {x : α} (hi : (things M S D n)[i]? = some x) (hn : i < n) (hs : s < S) (hd : d < D) : M.nxt x s d ∈ things M S D n := by
  have h1 : (things M S D i)[i]? = some x ∨ (things M S D i)[i]? = none := by
    cases e : (things M S D i)[i]? with
    | none => exact .inr rfl
    | some y =>
      have p := things_pre (M := M) (S := S) (D := D) (n := i) (n - i)
      rw [show i + (n - i) = n by omega] at p
      have := List.prefix_iff_getElem?.mp p i (List.getElem?_eq_some_iff.mp e).1
      rw [hi] at this
      rw [(List.getElem?_eq_some_iff.mp e).2] at this
      exact .inl this.symm
  rcases h1 with h1 | h1
  · have p := things_pre (M := M) (S := S) (D := D) (n := i + 1) (n - (i + 1))
    rw [show i + 1 + (n - (i + 1)) = n by omega] at p
    refine p.subset ?_
    rw [things_succ h1]
    exact addSigns_mem hd hs
  · have st := things_stay (M := M) (S := S) (D := D) (n := i) (List.getElem?_eq_none_iff.mp h1) (n - i)
    rw [show i + (n - i) = n by omega] at st
    rw [st, h1] at hi
    cases hi
/-! ### counting -/
theorem nodup_below : ∀ (B : Nat) (l : List Nat), l.Nodup → (∀ x ∈ l, x < B) → l.length ≤ B
  | 0, [], _, _ => Nat.le_refl _
  | 0, x :: _, _, h => absurd (h x (by simp)) (by omega)
  | B + 1, l, nd, h => by
    have ih := nodup_below B (l.erase B) (nd.sublist List.erase_sublist) fun x hx => by
      have h1 := h x (List.mem_of_mem_erase hx)
      have h2 : x ≠ B := fun e => by
        subst e
        exact (List.Nodup.not_mem_erase nd) hx
      omega
    have := List.length_erase (a := B) (l := l)
    split at this <;> omega
theorem bound_by {l : List α} (nd : l.Nodup) {f : α → Nat} {B : Nat} (hB : ∀ x ∈ l, f x < B) (inj : ∀ x ∈ l, ∀ y ∈ l, f x = f y → x = y) : l.length ≤ B := by
  have h := nodup_below B (l.map f) (by
    rw [List.Nodup, List.pairwise_map]
    exact List.Pairwise.imp_of_mem (fun {a b} ha hb hne e => hne (inj a ha b hb e)) nd) (fun x hx => by
    obtain ⟨y, hy, rfl⟩ := List.mem_map.mp hx
    exact hB y hy)
  simpa using h
/-! ### the numbered watcher -/
def num (th : List α) (x : α) : Nat := th.idxOf x
def canon (M : Mach α) (S D N : Nat) : Tab :=
  (things M S D N).map fun x => (List.range S).map fun s => (List.range D).map fun d => (M.out x s d, num (things M S D N) (M.nxt x s d))
theorem num_get {th : List α} {x : α} (h : x ∈ th) : th[num th x]? = some x := by
  unfold num
  have hl := List.idxOf_lt_length_of_mem h
  rw [List.getElem?_eq_getElem hl]
  congr 1
  exact List.getElem_idxOf hl
theorem num_at {th : List α} {x : α} {i : Nat} (nd : th.Nodup) (h : th[i]? = some x) : num th x = i := by
  have h1 := num_get (List.mem_of_getElem? h)
  obtain ⟨a, ha⟩ := List.getElem?_eq_some_iff.mp h1
  obtain ⟨b, hb⟩ := List.getElem?_eq_some_iff.mp h
  exact (List.getElem_inj nd).mp (ha.trans hb.symm)
theorem num_pre {th th' : List α} {x : α} (p : th <+: th') (h : x ∈ th) : num th' x = num th x := by
  obtain ⟨r, rfl⟩ := p
  unfold num
  rw [List.idxOf_append]
  exact if_pos h
theorem canon_len {M : Mach α} {S D N : Nat} : (canon M S D N).length = (things M S D N).length := by simp [canon]
theorem getD_get {β : Type} {l : List β} {i : Nat} {x z : β} (h : l[i]? = some x) : l.getD i z = x := by
  rw [List.getD_eq_getElem?_getD, h]; rfl
theorem canon_cell {M : Mach α} {S D N i s d : Nat} {x : α} (hi : (things M S D N)[i]? = some x) (hs : s < S) (hd : d < D) : cell (canon M S D N) i s d = (M.out x s d, num (things M S D N) (M.nxt x s d)) := by
  have e1 : (canon M S D N)[i]? = some ((List.range S).map fun s => (List.range D).map fun d => (M.out x s d, num (things M S D N) (M.nxt x s d))) := by
    unfold canon
    rw [List.getElem?_map, hi]; rfl
  unfold cell
  rw [getD_get e1]
  have e2 : ((List.range S).map fun s => (List.range D).map fun d => (M.out x s d, num (things M S D N) (M.nxt x s d)))[s]? = some ((List.range D).map fun d => (M.out x s d, num (things M S D N) (M.nxt x s d))) := by
    rw [List.getElem?_map, List.getElem?_range hs]; rfl
  rw [getD_get e2]
  refine getD_get ?_
  rw [List.getElem?_map, List.getElem?_range hd]; rfl
end
/-! ### two machines that do the same -/
section
variable {α β : Type} [DecidableEq α] [DecidableEq β]
/-- R says which states are the same one -/
structure Sim (M : Mach α) (M' : Mach β) (S D : Nat) (R : α → β → Prop) : Prop where
  init : R M.init M'.init
  out : ∀ x y s d, R x y → s < S → d < D → M.out x s d = M'.out y s d
  nxt : ∀ x y s d, R x y → s < S → d < D → R (M.nxt x s d) (M'.nxt y s d)
  inj : ∀ x y x' y', R x y → R x' y' → (x = x' ↔ y = y')
inductive All2 (R : α → β → Prop) : List α → List β → Prop
  | nil : All2 R [] []
  | cons {a b l m} : R a b → All2 R l m → All2 R (a :: l) (b :: m)
theorem All2.len {R : α → β → Prop} {l : List α} {m : List β} (h : All2 R l m) : l.length = m.length := by
  induction h with
  | nil => rfl
  | cons _ _ ih => simp [ih]
theorem All2.app {R : α → β → Prop} {l l' : List α} {m m' : List β} (h : All2 R l m) (h' : All2 R l' m') : All2 R (l ++ l') (m ++ m') := by
  induction h with
  | nil => exact h'
  | cons r _ ih => exact .cons r ih
theorem All2.get {R : α → β → Prop} {l : List α} {m : List β} (h : All2 R l m) : ∀ {i : Nat} {x : α}, l[i]? = some x → ∃ y, m[i]? = some y ∧ R x y := by
  induction h with
  | nil => intro i x e; simp at e
  | cons r _ ih =>
    intro i x e
    cases i with
    | zero => simp at e; subst e; exact ⟨_, rfl, r⟩
    | succ i => exact ih (by simpa using e)
theorem All2.none {R : α → β → Prop} {l : List α} {m : List β} (h : All2 R l m) {i : Nat} (e : l[i]? = none) : m[i]? = none := by
  have := h.len
  have h1 := List.getElem?_eq_none_iff.mp e
  exact List.getElem?_eq_none_iff.mpr (by omega)
variable {M : Mach α} {M' : Mach β} {S D : Nat} {R : α → β → Prop}
theorem All2.mem (inj : ∀ x y x' y', R x y → R x' y' → (x = x' ↔ y = y')) {l : List α} {m : List β} (h : All2 R l m) {x : α} {y : β} (r : R x y) : x ∈ l ↔ y ∈ m := by
  induction h with
  | nil => simp
  | cons q _ ih =>
    rw [List.mem_cons, List.mem_cons, ih]
    have := inj _ _ _ _ r q
    rw [this]
theorem All2.idx (inj : ∀ x y x' y', R x y → R x' y' → (x = x' ↔ y = y')) {l : List α} {m : List β} (h : All2 R l m) {x : α} {y : β} (r : R x y) : num l x = num m y := by
  unfold num
  induction h with
  | nil => rfl
  | @cons a b l m q _ ih =>
    rw [List.idxOf_cons, List.idxOf_cons, ih]
    have e := inj _ _ _ _ q r
    by_cases c : a = x
    · have c' : b = y := e.mp c
      simp [c, c']
    · have c' : ¬ b = y := fun z => c (e.mpr z)
      have h1 : (a == x) = false := by simp [c]
      have h2 : (b == y) = false := by simp [c']
      rw [h1, h2]
theorem addOne_sim (inj : ∀ x y x' y', R x y → R x' y' → (x = x' ↔ y = y')) {l : List α} {m : List β} (h : All2 R l m) {x : α} {y : β} (r : R x y) : All2 R (addOne l x) (addOne m y) := by
  unfold addOne
  have e := h.mem inj r
  by_cases c : x ∈ l
  · rw [if_pos c, if_pos (e.mp c)]; exact h
  · rw [if_neg c, if_neg (fun z => c (e.mpr z))]; exact h.app (.cons r .nil)
theorem addAll_sim (inj : ∀ x y x' y', R x y → R x' y' → (x = x' ↔ y = y')) {xs : List α} {ys : List β} (q : All2 R xs ys) : ∀ {l : List α} {m : List β}, All2 R l m → All2 R (addAll l xs) (addAll m ys) := by
  induction q with
  | nil => intro l m h; exact h
  | cons r _ ih => intro l m h; exact ih (addOne_sim inj h r)
theorem all2_map {ι : Type} {f : ι → α} {g : ι → β} : ∀ (l : List ι), (∀ i ∈ l, R (f i) (g i)) → All2 R (l.map f) (l.map g)
  | [], _ => .nil
  | i :: r, h => .cons (h i (by simp)) (all2_map r fun j hj => h j (by simp [hj]))
theorem addSigns_sim (C : Sim M M' S D R) {x : α} {y : β} (r : R x y) {l : List α} {m : List β} (h : All2 R l m) : ∀ n, n ≤ S → All2 R (addSigns M D x l n) (addSigns M' D y m n)
  | 0, _ => h
  | n + 1, hn => by
    rw [addSigns_succ, addSigns_succ]
    exact addAll_sim C.inj (all2_map _ fun d hd => C.nxt x y n d r (by omega) (List.mem_range.mp hd)) (addSigns_sim C r h n (by omega))
theorem things_sim (C : Sim M M' S D R) : ∀ n, All2 R (things M S D n) (things M' S D n)
  | 0 => .cons C.init .nil
  | n + 1 => by
    have ih := things_sim C n
    cases e : (things M S D n)[n]? with
    | none => rw [things_stop e, things_stop (ih.none e)]; exact ih
    | some x =>
      obtain ⟨y, e', r⟩ := ih.get e
      rw [things_succ e, things_succ e']
      exact addSigns_sim C r ih S (Nat.le_refl _)
theorem map_all2 {γ : Type} {f : α → γ} {g : β → γ} {l : List α} {m : List β} (h : All2 R l m) (e : ∀ x y, R x y → f x = g y) : l.map f = m.map g := by
  induction h with
  | nil => rfl
  | cons r _ ih => rw [List.map_cons, List.map_cons, e _ _ r, ih]
theorem canon_sim (C : Sim M M' S D R) (N : Nat) : canon M S D N = canon M' S D N := by
  unfold canon
  have h := things_sim C N
  refine map_all2 h fun x y r => ?_
  refine List.map_congr_left fun s hs => List.map_congr_left fun d hd => ?_
  have hs := List.mem_range.mp hs
  have hd := List.mem_range.mp hd
  rw [C.out x y s d r hs hd, h.idx C.inj (C.nxt x y s d r hs hd)]
end

/-! ### a row of watchers as a machine -/
def letOn : List Tab → List Nat → Nat → Nat → Nat × List Nat
  | [], _, _, d => (d, [])
  | _ :: _, [], _, d => (d, [])
  | w :: ws, k :: ks, s, d => ((letOn ws ks s (cell w k s d).1).1, (cell w k s d).2 :: (letOn ws ks s (cell w k s d).1).2)
def mach (ws : List Tab) : Mach (List Nat) := ⟨List.replicate ws.length 0, fun ks s d => (letOn ws ks s d).1, fun ks s d => (letOn ws ks s d).2⟩
/-- states of a row -/
inductive KOk : List Tab → List Nat → Prop
  | nil : KOk [] []
  | cons {w ws k ks} : k < w.length → KOk ws ks → KOk (w :: ws) (k :: ks)
theorem KOk.len {ws : List Tab} {ks : List Nat} (h : KOk ws ks) : ks.length = ws.length := by
  induction h with
  | nil => rfl
  | cons _ _ ih => simp [ih]
theorem letOn_ok {S D : Nat} {ws : List Tab} {ks : List Nat} (h : KOk ws ks) : (∀ w ∈ ws, TOk S D w) → ∀ {s d : Nat}, s < S → d < D → (letOn ws ks s d).1 < D ∧ KOk ws (letOn ws ks s d).2 := by
  induction h with
  | nil => intro _ s d _ hd; exact ⟨hd, .nil⟩
  | @cons w ws k ks hk _ ih =>
    intro hw s d hs hd
    obtain ⟨_, _, _, _, _, h1, h2⟩ := (hw w (by simp)).cel hk hs hd
    obtain ⟨q1, q2⟩ := ih (fun w hw' => hw w (by simp [hw'])) hs h1
    exact ⟨q1, .cons h2 q2⟩
theorem kok_init {S D : Nat} : ∀ {ws : List Tab}, (∀ w ∈ ws, TOk S D w) → KOk ws (List.replicate ws.length 0)
  | [], _ => .nil
  | w :: ws, h => by
    show KOk (w :: ws) (List.replicate (ws.length + 1) 0)
    rw [List.replicate_succ]
    exact .cons (h w (by simp)).1 (kok_init fun w hw => h w (by simp [hw]))
def prodL : List Tab → Nat
  | [] => 1
  | w :: ws => w.length * prodL ws
def enc : List Tab → List Nat → Nat
  | w :: ws, k :: ks => k + w.length * enc ws ks
  | _, _ => 0
theorem enc_lt {ws : List Tab} {ks : List Nat} (h : KOk ws ks) : enc ws ks < prodL ws := by
  induction h with
  | nil => decide
  | @cons w ws k ks hk _ ih =>
    show k + w.length * enc ws ks < w.length * prodL ws
    have h1 : enc ws ks + 1 ≤ prodL ws := ih
    have h2 := Nat.mul_le_mul_left w.length h1
    rw [Nat.mul_add, Nat.mul_one] at h2
    omega
theorem enc_inj {ws : List Tab} {ks : List Nat} (h : KOk ws ks) : ∀ {ms : List Nat}, KOk ws ms → enc ws ks = enc ws ms → ks = ms := by
  induction h with
  | nil => intro ms h' _; cases h'; rfl
  | @cons w ws k ks hk _ ih =>
    intro ms h' e
    cases h' with
    | @cons _ _ m ms hm h' =>
      have e : k + w.length * enc ws ks = m + w.length * enc ws ms := e
      have e1 : (k + w.length * enc ws ks) % w.length = (m + w.length * enc ws ms) % w.length := by rw [e]
      rw [Nat.add_mul_mod_self_left, Nat.add_mul_mod_self_left, Nat.mod_eq_of_lt hk, Nat.mod_eq_of_lt hm] at e1
      subst e1
      have e2 : w.length * enc ws ks = w.length * enc ws ms := by omega
      rw [ih h' (Nat.eq_of_mul_eq_mul_left (by omega) e2)]
section
variable {S D : Nat} {ws : List Tab}
theorem row_kok (hw : ∀ w ∈ ws, TOk S D w) (n : Nat) : ∀ x ∈ things (mach ws) S D n, KOk ws x :=
  things_inv (kok_init hw) (fun x s d hx hs hd => (letOn_ok hx hw hs hd).2) n
theorem row_len (hw : ∀ w ∈ ws, TOk S D w) (n : Nat) : (things (mach ws) S D n).length ≤ prodL ws :=
  bound_by (things_nodup n) (fun x hx => enc_lt (row_kok hw n x hx)) fun x hx y hy e => enc_inj (row_kok hw n x hx) (row_kok hw n y hy) e
@[irreducible] def cap : Nat := 100
theorem cap_eq : cap = 100 := by with_unfolding_all rfl
def T (S D : Nat) (ws : List Tab) : List (List Nat) := things (mach ws) S D cap
def rowOf (S D : Nat) (ws : List Tab) : Tab := canon (mach ws) S D cap
theorem T_ne : (T S D ws)[0]? = some (List.replicate ws.length 0) := by
  have p := things_pre (M := mach ws) (S := S) (D := D) (n := 0) cap
  rw [Nat.zero_add] at p
  have := List.prefix_iff_getElem?.mp p 0 (by show 0 < 1; decide)
  exact this
theorem T_len (hw : ∀ w ∈ ws, TOk S D w) : (T S D ws).length ≤ prodL ws := row_len hw cap
theorem T_kok (hw : ∀ w ∈ ws, TOk S D w) {i : Nat} {x : List Nat} (h : (T S D ws)[i]? = some x) : KOk ws x := row_kok hw cap x (List.mem_of_getElem? h)
theorem T_closed (hw : ∀ w ∈ ws, TOk S D w) (hp : prodL ws ≤ 100) {i s d : Nat} {x : List Nat} (hi : (T S D ws)[i]? = some x) (hs : s < S) (hd : d < D) : (letOn ws x s d).2 ∈ T S D ws :=
  things_closed (M := mach ws) hi (by
    have h1 := (List.getElem?_eq_some_iff.mp hi).1
    have h2 := T_len (S := S) (D := D) hw
    have h3 := cap_eq
    omega) hs hd
theorem T_nodup : (T S D ws).Nodup := things_nodup cap
theorem row_cell {i s d : Nat} {x : List Nat} (hi : (T S D ws)[i]? = some x) (hs : s < S) (hd : d < D) : cell (rowOf S D ws) i s d = ((letOn ws x s d).1, num (T S D ws) (letOn ws x s d).2) := canon_cell (M := mach ws) hi hs hd
theorem row_length : (rowOf S D ws).length = (T S D ws).length := canon_len
theorem row_ok (hw : ∀ w ∈ ws, TOk S D w) (hp : prodL ws ≤ 100) : TOk S D (rowOf S D ws) := by
  refine ⟨?_, fun st hst => ?_⟩
  · rw [row_length]
    exact (List.getElem?_eq_some_iff.mp (T_ne (S := S) (D := D) (ws := ws))).1
  · obtain ⟨x, hx, rfl⟩ := List.mem_map.mp hst
    refine ⟨by simp, fun r hr => ?_⟩
    obtain ⟨s, hs, rfl⟩ := List.mem_map.mp hr
    refine ⟨by simp, fun c hc => ?_⟩
    obtain ⟨d, hd, rfl⟩ := List.mem_map.mp hc
    have hs := List.mem_range.mp hs
    have hd := List.mem_range.mp hd
    obtain ⟨i, hi⟩ := List.mem_iff_getElem?.mp hx
    refine ⟨(letOn_ok (T_kok hw hi) hw hs hd).1, ?_⟩
    rw [row_length]
    exact (List.getElem?_eq_some_iff.mp (num_get (T_closed hw hp hi hs hd))).1
end
/-! ### rows of rows -/
theorem letOn_app : ∀ {ws vs : List Tab} {a b : List Nat} {s d : Nat}, a.length = ws.length → letOn (ws ++ vs) (a ++ b) s d = ((letOn vs b s (letOn ws a s d).1).1, (letOn ws a s d).2 ++ (letOn vs b s (letOn ws a s d).1).2)
  | [], vs, [], b, s, d, _ => rfl
  | w :: ws, vs, k :: a, b, s, d, h => by
    have ih := letOn_app (ws := ws) (vs := vs) (a := a) (b := b) (s := s) (d := (cell w k s d).1) (by simpa using h)
    show ((letOn (ws ++ vs) (a ++ b) s (cell w k s d).1).1, (cell w k s d).2 :: (letOn (ws ++ vs) (a ++ b) s (cell w k s d).1).2) = _
    rw [ih]
    rfl
theorem letOn_len : ∀ {ws : List Tab} {a : List Nat} {s d : Nat}, a.length = ws.length → (letOn ws a s d).2.length = ws.length
  | [], _, _, _, _ => rfl
  | w :: ws, k :: a, s, d, h => by
    show (letOn ws a s (cell w k s d).1).2.length + 1 = ws.length + 1
    rw [letOn_len (by simpa using h)]
section
variable {S D : Nat} {pre mid post : List Tab}
/-- l is a row's states, the middle ones by their number -/
def RR (S D : Nat) (pre mid post : List Tab) (l l' : List Nat) : Prop := ∃ a k b t, l = a ++ k :: b ∧ l' = a ++ (t ++ b) ∧ (T S D mid)[k]? = some t ∧ KOk pre a ∧ KOk post b
theorem app_inj {a a' b b' : List Nat} (h : a ++ b = a' ++ b') (e : a.length = a'.length) : a = a' ∧ b = b' := List.append_inj h e
theorem rr_sim (h1 : ∀ w ∈ pre, TOk S D w) (h2 : ∀ w ∈ mid, TOk S D w) (h3 : ∀ w ∈ post, TOk S D w) (hp : prodL mid ≤ 100) :
    Sim (mach (pre ++ rowOf S D mid :: post)) (mach (pre ++ (mid ++ post))) S D (RR S D pre mid post) := by
  have key : ∀ {a b t : List Nat} {k s d : Nat}, (T S D mid)[k]? = some t → KOk pre a → KOk post b → s < S → d < D →
      letOn (pre ++ rowOf S D mid :: post) (a ++ k :: b) s d = ((letOn post b s (letOn mid t s (letOn pre a s d).1).1).1, (letOn pre a s d).2 ++ num (T S D mid) (letOn mid t s (letOn pre a s d).1).2 :: (letOn post b s (letOn mid t s (letOn pre a s d).1).1).2) ∧
      letOn (pre ++ (mid ++ post)) (a ++ (t ++ b)) s d = ((letOn post b s (letOn mid t s (letOn pre a s d).1).1).1, (letOn pre a s d).2 ++ ((letOn mid t s (letOn pre a s d).1).2 ++ (letOn post b s (letOn mid t s (letOn pre a s d).1).1).2)) := by
    intro a b t k s d ht ha hb hs hd
    have hd1 := (letOn_ok ha h1 hs hd).1
    constructor
    · rw [letOn_app ha.len]
      show ((letOn post b s (cell (rowOf S D mid) k s (letOn pre a s d).1).1).1, (letOn pre a s d).2 ++ ((cell (rowOf S D mid) k s (letOn pre a s d).1).2 :: (letOn post b s (cell (rowOf S D mid) k s (letOn pre a s d).1).1).2)) = _
      rw [row_cell ht hs hd1]
    · rw [letOn_app ha.len, letOn_app (T_kok h2 ht).len]
  refine ⟨?_, ?_, ?_, ?_⟩
  · refine ⟨List.replicate pre.length 0, 0, List.replicate post.length 0, List.replicate mid.length 0, ?_, ?_, T_ne, kok_init h1, kok_init h3⟩
    · show List.replicate (pre ++ rowOf S D mid :: post).length 0 = _
      rw [List.length_append, List.length_cons, List.replicate_append_replicate.symm, List.replicate_succ]
    · show List.replicate (pre ++ (mid ++ post)).length 0 = _
      rw [List.length_append, List.length_append, ← List.replicate_append_replicate, ← List.replicate_append_replicate]
  · rintro x y s d ⟨a, k, b, t, rfl, rfl, ht, ha, hb⟩ hs hd
    obtain ⟨e1, e2⟩ := key ht ha hb hs hd
    show (letOn _ _ s d).1 = (letOn _ _ s d).1
    rw [e1, e2]
  · rintro x y s d ⟨a, k, b, t, rfl, rfl, ht, ha, hb⟩ hs hd
    obtain ⟨e1, e2⟩ := key ht ha hb hs hd
    show RR S D pre mid post (letOn _ _ s d).2 (letOn _ _ s d).2
    rw [e1, e2]
    obtain ⟨q1, q2⟩ := letOn_ok ha h1 hs hd
    obtain ⟨q3, q4⟩ := letOn_ok (T_kok h2 ht) h2 hs q1
    exact ⟨_, _, _, _, rfl, rfl, num_get (T_closed h2 hp ht hs q1), q2, (letOn_ok hb h3 hs q3).2⟩
  · rintro x y x' y' ⟨a, k, b, t, rfl, rfl, ht, ha, hb⟩ ⟨a', k', b', t', rfl, rfl, ht', ha', hb'⟩
    have la : a.length = a'.length := ha.len.trans ha'.len.symm
    have lt : t.length = t'.length := (T_kok h2 ht).len.trans (T_kok h2 ht').len.symm
    constructor
    · intro e
      obtain ⟨e1, e2⟩ := app_inj e la
      injection e2 with e3 e4
      subst e1 e3 e4
      rw [ht] at ht'
      cases ht'
      rfl
    · intro e
      obtain ⟨e1, e2⟩ := app_inj e la
      obtain ⟨e3, e4⟩ := app_inj e2 lt
      subst e1 e3 e4
      have : k = k' := by
        have n1 := num_at T_nodup ht
        have n2 := num_at T_nodup ht'
        omega
      rw [this]
theorem row_row (h1 : ∀ w ∈ pre, TOk S D w) (h2 : ∀ w ∈ mid, TOk S D w) (h3 : ∀ w ∈ post, TOk S D w) (hp : prodL mid ≤ 100) : rowOf S D (pre ++ rowOf S D mid :: post) = rowOf S D (pre ++ (mid ++ post)) := canon_sim (rr_sim h1 h2 h3 hp) cap
end
/-- lets all by -/
def calm (S D : Nat) : Tab := [List.replicate S ((List.range D).map fun d => (d, 0))]
theorem calm_cell {S D s d : Nat} (hs : s < S) (hd : d < D) : cell (calm S D) 0 s d = (d, 0) := by
  unfold cell calm
  have e1 : (List.replicate S ((List.range D).map fun d => (d, 0)))[s]? = some ((List.range D).map fun d => (d, 0)) := by
    rw [List.getElem?_replicate, if_pos hs]
  rw [show ([List.replicate S ((List.range D).map fun d => (d, 0))] : Tab).getD 0 [] = List.replicate S ((List.range D).map fun d => (d, 0)) from rfl, getD_get e1]
  refine getD_get ?_
  rw [List.getElem?_map, List.getElem?_range hd]; rfl
theorem calm_ok (S D : Nat) : TOk S D (calm S D) := by
  refine ⟨by show 0 < 1; decide, fun st hst => ?_⟩
  have e : st = List.replicate S ((List.range D).map fun d => (d, 0)) := by simpa [calm] using hst
  subst e
  refine ⟨by simp, fun r hr => ?_⟩
  have e := (List.mem_replicate.mp hr).2
  subst e
  refine ⟨by simp, fun c hc => ?_⟩
  obtain ⟨d, hd, rfl⟩ := List.mem_map.mp hc
  exact ⟨List.mem_range.mp hd, by show 0 < 1; decide⟩
section
variable {S D : Nat} {ws : List Tab}
theorem calm_front (hw : ∀ w ∈ ws, TOk S D w) : rowOf S D (calm S D :: ws) = rowOf S D ws := by
  refine canon_sim (R := fun l l' => l = 0 :: l' ∧ KOk ws l') ⟨⟨rfl, kok_init hw⟩, ?_, ?_, ?_⟩ cap
  · rintro x y s d ⟨rfl, hy⟩ hs hd
    show (letOn ws y s (cell (calm S D) 0 s d).1).1 = (letOn ws y s d).1
    rw [calm_cell hs hd]
  · rintro x y s d ⟨rfl, hy⟩ hs hd
    show ((cell (calm S D) 0 s d).2 :: (letOn ws y s (cell (calm S D) 0 s d).1).2) = 0 :: (letOn ws y s d).2 ∧ KOk ws (letOn ws y s d).2
    rw [calm_cell hs hd]
    exact ⟨rfl, (letOn_ok hy hw hs hd).2⟩
  · rintro x y x' y' ⟨rfl, _⟩ ⟨rfl, _⟩
    simp
theorem calm_back (hw : ∀ w ∈ ws, TOk S D w) : rowOf S D (ws ++ [calm S D]) = rowOf S D ws := by
  have key : ∀ {y : List Nat} {s d : Nat}, KOk ws y → s < S → d < D → letOn (ws ++ [calm S D]) (y ++ [0]) s d = ((letOn ws y s d).1, (letOn ws y s d).2 ++ [0]) := by
    intro y s d hy hs hd
    rw [letOn_app hy.len]
    have hd1 := (letOn_ok hy hw hs hd).1
    show ((cell (calm S D) 0 s (letOn ws y s d).1).1, (letOn ws y s d).2 ++ [(cell (calm S D) 0 s (letOn ws y s d).1).2]) = _
    rw [calm_cell hs hd1]
  refine canon_sim (R := fun l l' => l = l' ++ [0] ∧ KOk ws l') ⟨⟨?_, kok_init hw⟩, ?_, ?_, ?_⟩ cap
  · show List.replicate (ws ++ [calm S D]).length 0 = List.replicate ws.length 0 ++ [0]
    rw [List.length_append, ← List.replicate_append_replicate]; rfl
  · rintro x y s d ⟨rfl, hy⟩ hs hd
    show (letOn _ _ s d).1 = (letOn _ _ s d).1
    rw [key hy hs hd]
  · rintro x y s d ⟨rfl, hy⟩ hs hd
    show (letOn _ _ s d).2 = (letOn _ _ s d).2 ++ [0] ∧ _
    rw [key hy hs hd]
    exact ⟨rfl, (letOn_ok hy hw hs hd).2⟩
  · rintro x y x' y' ⟨rfl, _⟩ ⟨rfl, _⟩
    simp
end
/-! ### runs mended -/
def mend (w : Tab) : Nat → List (Nat × Nat) → List (Nat × Nat)
  | _, [] => []
  | k, (s, d) :: r => (s, (cell w k s d).1) :: mend w (cell w k s d).2 r
def mendL (ws : List Tab) : List Nat → List (Nat × Nat) → List (Nat × Nat)
  | _, [] => []
  | ks, (s, d) :: r => (s, (letOn ws ks s d).1) :: mendL ws (letOn ws ks s d).2 r
def RunOk (S D : Nat) (run : List (Nat × Nat)) : Prop := ∀ p ∈ run, p.1 < S ∧ p.2 < D
theorem mend_ok {S D : Nat} {w : Tab} (hw : TOk S D w) : ∀ {run : List (Nat × Nat)} {k : Nat}, k < w.length → RunOk S D run → RunOk S D (mend w k run)
  | [], _, _, _ => fun p hp => by cases hp
  | (s, d) :: r, k, hk, h => fun p hp => by
    obtain ⟨hs, hd⟩ := h (s, d) (by simp)
    obtain ⟨_, _, _, _, _, h1, h2⟩ := hw.cel hk hs hd
    rcases List.mem_cons.mp hp with rfl | hp
    · exact ⟨hs, h1⟩
    · exact mend_ok hw h2 (fun q hq => h q (by simp [hq])) p hp
theorem mendL_nil : ∀ {run : List (Nat × Nat)} {ks : List Nat}, mendL [] ks run = run
  | [], _ => rfl
  | (s, d) :: r, ks => by
    show (s, d) :: mendL [] [] r = _
    rw [mendL_nil]
theorem mendL_cons {w : Tab} {ws : List Tab} : ∀ {run : List (Nat × Nat)} {k : Nat} {ks : List Nat}, mendL (w :: ws) (k :: ks) run = mendL ws ks (mend w k run)
  | [], _, _ => rfl
  | (s, d) :: r, k, ks => by
    show (s, (letOn ws ks s (cell w k s d).1).1) :: mendL (w :: ws) ((cell w k s d).2 :: (letOn ws ks s (cell w k s d).1).2) r = _
    rw [mendL_cons]
    rfl
def mendAll (ws : List Tab) (run : List (Nat × Nat)) : List (Nat × Nat) := ws.foldl (fun due w => mend w 0 due) run
theorem mendL_all : ∀ {ws : List Tab} {run : List (Nat × Nat)}, mendL ws (List.replicate ws.length 0) run = mendAll ws run
  | [], run => mendL_nil
  | w :: ws, run => by
    show mendL (w :: ws) (List.replicate (ws.length + 1) 0) run = mendAll ws (mend w 0 run)
    rw [List.replicate_succ, mendL_cons, mendL_all]
section
variable {S D : Nat} {ws : List Tab}
theorem mend_row_at (hw : ∀ w ∈ ws, TOk S D w) (hp : prodL ws ≤ 100) : ∀ {run : List (Nat × Nat)} {i : Nat} {x : List Nat}, (T S D ws)[i]? = some x → RunOk S D run → mend (rowOf S D ws) i run = mendL ws x run
  | [], _, _, _, _ => rfl
  | (s, d) :: r, i, x, hi, h => by
    obtain ⟨hs, hd⟩ := h (s, d) (by simp)
    show (s, (cell (rowOf S D ws) i s d).1) :: mend (rowOf S D ws) (cell (rowOf S D ws) i s d).2 r = (s, (letOn ws x s d).1) :: mendL ws (letOn ws x s d).2 r
    rw [row_cell hi hs hd, mend_row_at hw hp (num_get (T_closed hw hp hi hs hd)) fun q hq => h q (by simp [hq])]
theorem mend_row (hw : ∀ w ∈ ws, TOk S D w) (hp : prodL ws ≤ 100) {run : List (Nat × Nat)} (h : RunOk S D run) : mend (rowOf S D ws) 0 run = mendAll ws run := by
  rw [mend_row_at hw hp T_ne h, mendL_all]
end
/-! ### the row's last watcher keeps -/
abbrev Say := List (List (List (Option Nat)))
def room (R : Say) (r s g : Nat) : Option Nat := ((R.getD r []).getD s []).getD g none
/-- kp: which room each state of the last watcher stands for -/
structure Keeps (S D : Nat) (R : Say) (w : Tab) (kp : List Nat) : Prop where
  len : kp.length = w.length
  zero : kp[0]? = some 0
  step : ∀ (k s d r : Nat), kp[k]? = some r → s < S → d < D → ∃ r', room R r s (cell w k s d).1 = some r' ∧ kp[(cell w k s d).2]? = some r'
/-- a state of the row and a room belong together -/
def Tog (S D : Nat) (ws : List Tab) (kp : List Nat) (i r : Nat) : Prop := ∃ x k, (T S D ws)[i]? = some (x ++ [k]) ∧ kp[k]? = some r
section
variable {S D : Nat} {ws : List Tab} {w : Tab} {R : Say} {kp : List Nat}
theorem letOn_last {x : List Nat} {k s d : Nat} (h : x.length = ws.length) : letOn (ws ++ [w]) (x ++ [k]) s d = ((cell w k s (letOn ws x s d).1).1, (letOn ws x s d).2 ++ [(cell w k s (letOn ws x s d).1).2]) := letOn_app h
theorem tog0 (hk : Keeps S D R w kp) : Tog S D (ws ++ [w]) kp 0 0 := by
  refine ⟨List.replicate ws.length 0, 0, ?_, hk.zero⟩
  rw [T_ne, List.length_append, ← List.replicate_append_replicate]
  rfl
theorem kok_split : ∀ {ws vs : List Tab} {a b : List Nat}, a.length = ws.length → KOk (ws ++ vs) (a ++ b) → KOk ws a ∧ KOk vs b
  | [], _, [], _, _, h => ⟨.nil, h⟩
  | w :: ws, vs, k :: a, b, e, h => by
    cases h with
    | cons h1 h2 =>
      obtain ⟨q1, q2⟩ := kok_split (by simpa using e) h2
      exact ⟨.cons h1 q1, q2⟩
theorem tog_step (hw : ∀ v ∈ ws ++ [w], TOk S D v) (hp : prodL (ws ++ [w]) ≤ 100) (hk : Keeps S D R w kp) {i r s d : Nat} (t : Tog S D (ws ++ [w]) kp i r) (hs : s < S) (hd : d < D) :
    ∃ r', room R r s (cell (rowOf S D (ws ++ [w])) i s d).1 = some r' ∧ Tog S D (ws ++ [w]) kp (cell (rowOf S D (ws ++ [w])) i s d).2 r' := by
  obtain ⟨x, k, hi, hkr⟩ := t
  have hx : x.length = ws.length := by
    have := (T_kok hw hi).len
    simp at this
    exact this
  obtain ⟨k1, k2⟩ := kok_split hx (T_kok hw hi)
  have hd1 := (letOn_ok k1 (fun v hv => hw v (by simp [hv])) hs hd).1
  obtain ⟨r', e1, e2⟩ := hk.step k s _ r hkr hs hd1
  have hc := T_closed hw hp hi hs hd
  rw [row_cell hi hs hd]
  rw [letOn_last hx] at hc ⊢
  exact ⟨r', e1, _, _, num_get hc, e2⟩
theorem tog_lt (t : Tog S D ws kp i r) : i < (rowOf S D ws).length := by
  obtain ⟨x, k, hi, _⟩ := t
  rw [row_length]
  exact (List.getElem?_eq_some_iff.mp hi).1
end
end Wr
namespace Wr
/-- the state behind i steps -/
def stAt (w : Tab) (k : Nat) (run : List (Nat × Nat)) (i : Nat) : Nat := (run.take i).foldl (fun k p => (cell w k p.1 p.2).2) k
theorem stAt_zero {w : Tab} {k : Nat} {run : List (Nat × Nat)} : stAt w k run 0 = k := rfl
theorem stAt_succ {w : Tab} {k : Nat} {run : List (Nat × Nat)} {i s d : Nat} (h : run[i]? = some (s, d)) : stAt w k run (i + 1) = (cell w (stAt w k run i) s d).2 := by
  unfold stAt
  rw [List.take_add_one, h, List.foldl_append]
  rfl
theorem mend_len {w : Tab} : ∀ {run : List (Nat × Nat)} {k : Nat}, (mend w k run).length = run.length
  | [], _ => rfl
  | (s, d) :: r, k => by
    show (mend w _ r).length + 1 = r.length + 1
    rw [mend_len]
theorem mend_get {w : Tab} : ∀ {run : List (Nat × Nat)} {k i s d : Nat}, run[i]? = some (s, d) → (mend w k run)[i]? = some (s, (cell w (stAt w k run i) s d).1)
  | [], _, _, _, _, h => by simp at h
  | (s', d') :: r, k, 0, s, d, h => by
    obtain ⟨rfl, rfl⟩ : s' = s ∧ d' = d := by simpa using h
    rfl
  | (s', d') :: r, k, i + 1, s, d, h => by
    have h' : r[i]? = some (s, d) := by simpa using h
    show (mend w (cell w k s' d').2 r)[i]? = _
    rw [mend_get h']
    rfl
theorem mend_take {w : Tab} {run : List (Nat × Nat)} {k i s d : Nat} (h : run[i]? = some (s, d)) : (mend w k run).take (i + 1) = (mend w k run).take i ++ [(s, (cell w (stAt w k run i) s d).1)] := by
  rw [List.take_add_one, mend_get h]
  rfl
theorem stAt_lt {S D : Nat} {w : Tab} (hw : TOk S D w) {k : Nat} (hk : k < w.length) {run : List (Nat × Nat)} (hr : RunOk S D run) : ∀ {i : Nat}, i ≤ run.length → stAt w k run i < w.length
  | 0, _ => hk
  | i + 1, h => by
    have hi : run[i]? = some (run[i]'(by omega)) := List.getElem?_eq_getElem (by omega)
    obtain ⟨h1, h2⟩ := hr _ (List.getElem_mem (by omega : i < run.length))
    rw [stAt_succ (s := (run[i]'(by omega)).1) (d := (run[i]'(by omega)).2) hi]
    obtain ⟨_, _, _, _, _, _, q⟩ := hw.cel (stAt_lt hw hk hr (by omega : i ≤ run.length)) h1 h2
    exact q
theorem num_new {α : Type} [DecidableEq α] {cur : List α} {x : α} (h : x ∉ cur) : num (cur ++ [x]) x = cur.length := by
  unfold num
  rw [List.idxOf_append, if_neg h]
  simp
/-- all steps, sign by sign -/
def allS (S D : Nat) : List (Nat × Nat) := (List.range S).flatMap fun s => (List.range D).map fun d => (s, d)
theorem allS_succ {S D : Nat} : allS (S + 1) D = allS S D ++ (List.range D).map fun d => (S, d) := by
  unfold allS
  rw [List.range_succ, List.flatMap_append]
  simp
theorem mem_allS {S D : Nat} {p : Nat × Nat} : p ∈ allS S D ↔ p.1 < S ∧ p.2 < D := by
  unfold allS
  simp only [List.mem_flatMap, List.mem_range, List.mem_map]
  constructor
  · rintro ⟨s, hs, d, hd, rfl⟩; exact ⟨hs, hd⟩
  · rintro ⟨hs, hd⟩; exact ⟨p.1, hs, p.2, hd, rfl⟩
theorem allS_len {S D : Nat} : (allS S D).length = S * D := by
  induction S with
  | zero => simp [allS]
  | succ S ih => rw [allS_succ, List.length_append, ih]; simp [Nat.succ_mul]
/-! ### the row's walk through its watchers -/
/-- the deed and the states behind the first i watchers -/
def letTo (ws : List Tab) (ks : List Nat) (s d i : Nat) : Nat × List Nat := letOn (ws.take i) (ks.take i) s d
theorem letTo_succ {ws : List Tab} {ks : List Nat} {s d i k : Nat} {w : Tab} (hl : ks.length = ws.length) (hw : ws[i]? = some w) (hk : ks[i]? = some k) : letTo ws ks s d (i + 1) = ((cell w k s (letTo ws ks s d i).1).1, (letTo ws ks s d i).2 ++ [(cell w k s (letTo ws ks s d i).1).2]) := by
  unfold letTo
  rw [List.take_add_one, List.take_add_one, hw, hk]
  have hi := (List.getElem?_eq_some_iff.mp hw).1
  exact letOn_last (by rw [List.length_take, List.length_take]; omega)
theorem letTo_all {ws : List Tab} {ks : List Nat} {s d : Nat} (hl : ks.length = ws.length) : letTo ws ks s d ws.length = letOn ws ks s d := by
  unfold letTo
  rw [List.take_of_length_le (Nat.le_refl _), List.take_of_length_le (by omega)]
theorem kok_at {ws : List Tab} {ks : List Nat} (h : KOk ws ks) : ∀ {i : Nat} {w : Tab} {k : Nat}, ws[i]? = some w → ks[i]? = some k → k < w.length := by
  induction h with
  | nil => intro i w k h; simp at h
  | cons h1 h2 ih =>
    intro i w k a b
    cases i with
    | zero =>
      simp at a b
      subst a b
      exact h1
    | succ i => exact ih (by simpa using a) (by simpa using b)
theorem kok_take {ws : List Tab} {ks : List Nat} (h : KOk ws ks) : ∀ i, KOk (ws.take i) (ks.take i) := by
  induction h with
  | nil => intro i; rw [List.take_nil, List.take_nil]; exact .nil
  | cons h1 h2 ih =>
    intro i
    cases i with
    | zero => exact .nil
    | succ i => exact .cons h1 (ih i)
theorem letTo_lt {S D : Nat} {ws : List Tab} {ks : List Nat} (h : KOk ws ks) (hw : ∀ w ∈ ws, TOk S D w) {s d : Nat} (hs : s < S) (hd : d < D) (i : Nat) : (letTo ws ks s d i).1 < D :=
  (letOn_ok (kok_take h i) (fun w h' => hw w (List.mem_of_mem_take h')) hs hd).1
end Wr
namespace Wr
section
variable {S D : Nat} {ws : List Tab}
theorem addAll_snoc {α : Type} [DecidableEq α] {th xs : List α} {y : α} : addAll th (xs ++ [y]) = addOne (addAll th xs) y := by
  unfold addAll
  rw [List.foldl_append]
  rfl
theorem addSigns_le {α : Type} [DecidableEq α] {M : Mach α} {D : Nat} {x : α} {th : List α} {s : Nat} : ∀ m, addSigns M D x th s <+: addSigns M D x th (s + m)
  | 0 => List.prefix_refl _
  | m + 1 => by
    have h := addSigns_le (M := M) (D := D) (x := x) (th := th) (s := s) m
    rw [← Nat.add_assoc, addSigns_succ]
    exact h.trans addAll_pre
theorem pre_T {n : Nat} (hn : n ≤ 100) : things (mach ws) S D n <+: T S D ws := by
  have h := things_pre (M := mach ws) (S := S) (D := D) (n := n) (100 - n)
  have e : n + (100 - n) = cap := by rw [cap_eq]; omega
  rw [e] at h
  exact h
theorem stop_T {n : Nat} (hn : n ≤ 100) (h : (things (mach ws) S D n).length ≤ n) : T S D ws = things (mach ws) S D n := by
  have h := things_stay h (100 - n)
  have e : n + (100 - n) = cap := by rw [cap_eq]; omega
  rw [e] at h
  exact h
/-- the numbers of what follows x -/
def nrow (S D : Nat) (ws : List Tab) (x : List Nat) : List (List Nat) := (List.range S).map fun s => (List.range D).map fun d => num (T S D ws) (letOn ws x s d).2
def rowsTo (S D : Nat) (ws : List Tab) (n : Nat) : List (List (List Nat)) := ((T S D ws).take n).map (nrow S D ws)
theorem rowsTo_succ {n : Nat} {x : List Nat} (h : (T S D ws)[n]? = some x) : rowsTo S D ws (n + 1) = rowsTo S D ws n ++ [nrow S D ws x] := by
  unfold rowsTo
  rw [List.take_add_one, h, List.map_append]
  rfl
theorem pre_get {α : Type} {l m : List α} (p : l <+: m) {i : Nat} {x : α} (h : l[i]? = some x) : m[i]? = some x := by
  obtain ⟨t, rfl⟩ := p
  rw [List.getElem?_append_left (List.getElem?_eq_some_iff.mp h).1]
  exact h
theorem sign_pre {n s : Nat} {x : List Nat} (hn : n < 100) (hx : (things (mach ws) S D n)[n]? = some x) (hs : s ≤ S) : addSigns (mach ws) D x (things (mach ws) S D n) s <+: T S D ws := by
  have h := addSigns_le (M := mach ws) (D := D) (x := x) (th := things (mach ws) S D n) (s := s) (S - s)
  rw [show s + (S - s) = S by omega, ← things_succ hx] at h
  exact h.trans (pre_T hn)
theorem addAll_take {α : Type} [DecidableEq α] {th xs : List α} {i : Nat} : addAll th (xs.take i) <+: addAll th xs := by
  conv => rhs; rw [← List.take_append_drop i xs]
  unfold addAll
  rw [List.foldl_append]
  exact addAll_pre
end
end Wr
namespace Wr
section
variable {S D : Nat} {ws : List Tab}
theorem rowsTo_len {n : Nat} (h : n ≤ (T S D ws).length) : (rowsTo S D ws n).length = n := by
  unfold rowsTo
  rw [List.length_map, List.length_take]
  omega
theorem rowsTo_all {n : Nat} (h : (T S D ws).length ≤ n) : rowsTo S D ws n = (T S D ws).map (nrow S D ws) := by
  unfold rowsTo
  rw [List.take_of_length_le h]
end
end Wr
namespace Wr
section
variable {S D : Nat} {ws : List Tab}
def trow1 (S D : Nat) (ws : List Tab) (x : List Nat) (s : Nat) : List (Nat × Nat) := (List.range D).map fun d => ((letOn ws x s d).1, num (T S D ws) (letOn ws x s d).2)
def trow (S D : Nat) (ws : List Tab) (x : List Nat) : List (List (Nat × Nat)) := (List.range S).map (trow1 S D ws x)
theorem row_get {i : Nat} {x : List Nat} (h : (T S D ws)[i]? = some x) : (rowOf S D ws)[i]? = some (trow S D ws x) := by
  unfold rowOf canon
  rw [List.getElem?_map]
  show Option.map _ (T S D ws)[i]? = _
  rw [h]
  rfl
end
end Wr
namespace Wr
/-- which pairs may come together: from each every step goes on, to one of them -/
structure Sd (S D : Nat) (x : Tab) (R : Say) (G : Nat → Nat → Prop) : Prop where
  zero : G 0 0
  lt : ∀ i r, G i r → i < x.length ∧ r < R.length
  step : ∀ i r s d, G i r → s < S → d < D → ∃ r', room R r s (cell x i s d).1 = some r' ∧ G (cell x i s d).2 r'
/-- the pair behind a step -/
def nxtP (x : Tab) (R : Say) (p t : Nat × Nat) : Nat × Nat := ((cell x p.1 t.1 t.2).2, (room R p.2 t.1 (cell x p.1 t.1 t.2).1).getD 0)
theorem Sd.nxt {S D : Nat} {x : Tab} {R : Say} {G : Nat → Nat → Prop} (h : Sd S D x R G) {p t : Nat × Nat} (g : G p.1 p.2) (hs : t.1 < S) (hd : t.2 < D) : G (nxtP x R p t).1 (nxtP x R p t).2 ∧ room R p.2 t.1 (cell x p.1 t.1 t.2).1 = some (nxtP x R p t).2 := by
  obtain ⟨r', e, g'⟩ := h.step _ _ _ _ g hs hd
  unfold nxtP
  rw [e]
  exact ⟨g', rfl⟩
/-- what is found behind the first j steps from p -/
def addSteps (x : Tab) (R : Say) (p : Nat × Nat) (wl : List (Nat × Nat)) (ts : List (Nat × Nat)) : List (Nat × Nat) := addAll wl (ts.map (nxtP x R p))
/-- where searched stands -/
structure Srch (S D : Nat) (x : Tab) (R : Say) (G : Nat → Nat → Prop) (n : Nat) (wl : List (Nat × Nat)) : Prop where
  zero : (0, 0) ∈ wl
  nd : wl.Nodup
  good : ∀ p ∈ wl, G p.1 p.2
  done : ∀ (i : Nat) (p : Nat × Nat), i < n → wl[i]? = some p → ∀ t ∈ allS S D, nxtP x R p t ∈ wl
theorem srch0 {S D : Nat} {x : Tab} {R : Say} {G : Nat → Nat → Prop} (h : Sd S D x R G) : Srch S D x R G 0 [(0, 0)] :=
  ⟨by simp, by simp, fun p hp => by
    have : p = (0, 0) := by simpa using hp
    subst this
    exact h.zero, fun i p hi => absurd hi (Nat.not_lt_zero i)⟩
theorem addSteps_good {S D : Nat} {x : Tab} {R : Say} {G : Nat → Nat → Prop} (h : Sd S D x R G) {wl : List (Nat × Nat)} {p : Nat × Nat} (hp : G p.1 p.2) (hw : ∀ q ∈ wl, G q.1 q.2) {ts : List (Nat × Nat)} (ht : ∀ t ∈ ts, t.1 < S ∧ t.2 < D) : ∀ q ∈ addSteps x R p wl ts, G q.1 q.2 := fun q hq => by
  rcases of_addAll hq with hq | hq
  · exact hw q hq
  · obtain ⟨t, h1, rfl⟩ := List.mem_map.mp hq
    exact (h.nxt hp (ht t h1).1 (ht t h1).2).1
theorem srch_step {S D : Nat} {x : Tab} {R : Say} {G : Nat → Nat → Prop} (h : Sd S D x R G) {n : Nat} {wl : List (Nat × Nat)} {p : Nat × Nat} (W : Srch S D x R G n wl) (hp : wl[n]? = some p) : Srch S D x R G (n + 1) (addSteps x R p wl (allS S D)) := by
  have pre : wl <+: addSteps x R p wl (allS S D) := addAll_pre
  refine ⟨pre.subset W.zero, addAll_nodup W.nd, addSteps_good h (W.good p (List.mem_of_getElem? hp)) W.good fun t ht => mem_allS.mp ht, fun i q hi hq t ht => ?_⟩
  have hn : n < wl.length := (List.getElem?_eq_some_iff.mp hp).1
  have hq' : wl[i]? = some q := by
    have h1 : wl[i]? = some (wl[i]'(by omega)) := List.getElem?_eq_getElem (by omega)
    have h2 := pre_get pre h1
    rw [hq] at h2
    rw [h1, Option.some.inj h2]
  by_cases e : i < n
  · exact pre.subset (W.done i q e hq' t ht)
  · obtain rfl : i = n := by omega
    rw [hp] at hq'
    cases hq'
    exact addAll_mem (List.mem_map.mpr ⟨t, ht, rfl⟩)
theorem pairs_len {x : Tab} {R : Say} {wl : List (Nat × Nat)} (nd : wl.Nodup) (h : ∀ p ∈ wl, p.1 < x.length ∧ p.2 < R.length) : wl.length ≤ x.length * R.length := by
  refine bound_by nd (f := fun p => p.1 * R.length + p.2) (fun p hp => ?_) fun p hp q hq e => ?_
  · obtain ⟨h1, h2⟩ := h p hp
    have : (p.1 + 1) * R.length ≤ x.length * R.length := Nat.mul_le_mul_right _ h1
    rw [Nat.succ_mul] at this
    omega
  · obtain ⟨_, h2⟩ := h p hp
    obtain ⟨_, h4⟩ := h q hq
    have e' : R.length * p.1 + p.2 = R.length * q.1 + q.2 := by
      have : p.1 * R.length + p.2 = q.1 * R.length + q.2 := e
      rw [Nat.mul_comm, this, Nat.mul_comm]
    have hm : p.2 = q.2 := by
      have := congrArg (· % R.length) e'
      simp only [Nat.mul_add_mod, Nat.mod_eq_of_lt h2, Nat.mod_eq_of_lt h4] at this
      exact this
    have hd : R.length * p.1 = R.length * q.1 := by omega
    have := Nat.eq_of_mul_eq_mul_left (by omega : 0 < R.length) hd
    exact Prod.ext this hm
/-- the pairs that searched hands back -/
structure Found (S D : Nat) (x : Tab) (R : Say) (ps : List (Nat × Nat)) : Prop where
  zero : (0, 0) ∈ ps
  lt : ∀ p ∈ ps, p.1 < x.length ∧ p.2 < R.length
  step : ∀ p ∈ ps, ∀ t ∈ allS S D, room R p.2 t.1 (cell x p.1 t.1 t.2).1 = some (nxtP x R p t).2 ∧ nxtP x R p t ∈ ps
theorem found_of {S D : Nat} {x : Tab} {R : Say} {G : Nat → Nat → Prop} (h : Sd S D x R G) {n : Nat} {wl ps : List (Nat × Nat)} (W : Srch S D x R G n wl) (hn : wl.length ≤ n) (hp : ps.Perm wl) : Found S D x R ps := by
  refine ⟨hp.mem_iff.mpr W.zero, fun p q => h.lt _ _ (W.good p (hp.mem_iff.mp q)), fun p q t ht => ?_⟩
  have q' := hp.mem_iff.mp q
  obtain ⟨i, hi⟩ := List.mem_iff_getElem?.mp q'
  have hi' := (List.getElem?_eq_some_iff.mp hi).1
  obtain ⟨hs, hd⟩ := mem_allS.mp ht
  exact ⟨(h.nxt (W.good p q') hs hd).2, hp.mem_iff.mpr (W.done i p (by omega) hi t ht)⟩
end Wr
namespace Wr
theorem addSteps_snoc {x : Tab} {R : Say} {p t : Nat × Nat} {wl ts : List (Nat × Nat)} : addSteps x R p wl (ts ++ [t]) = addOne (addSteps x R p wl ts) (nxtP x R p t) := by
  unfold addSteps
  rw [List.map_append]
  exact addAll_snoc
theorem addSteps_pre {x : Tab} {R : Say} {p : Nat × Nat} {wl ts : List (Nat × Nat)} : wl <+: addSteps x R p wl ts := addAll_pre
theorem addSteps_nodup {x : Tab} {R : Say} {p : Nat × Nat} {wl ts : List (Nat × Nat)} (h : wl.Nodup) : (addSteps x R p wl ts).Nodup := addAll_nodup h
end Wr
namespace Wr
def inKs (o : Option Nat) (ks : List Nat) : Bool := match o with
  | none => false
  | some r => decide (r ∈ ks)
def heldB (S D : Nat) (R : Say) (ks : List Nat) (r : Nat) : Bool := (List.range S).all fun s => (List.range D).any fun g => inKs (room R r s g) ks
def keptN (S D : Nat) (R : Say) : Nat → List Nat
  | 0 => List.range R.length
  | i + 1 => (keptN S D R i).filter fun r => heldB S D R (keptN S D R i) r
def keptL (S D : Nat) (R : Say) : List Nat := keptN S D R R.length
section
variable {S D : Nat} {R : Say}
theorem keptN_sub : ∀ i, (keptN S D R i).Sublist (List.range R.length)
  | 0 => List.Sublist.refl _
  | i + 1 => List.filter_sublist.trans (keptN_sub i)
theorem keptN_fix : ∀ i, (∀ r ∈ keptN S D R i, heldB S D R (keptN S D R i) r = true) ∨ (keptN S D R i).length + i ≤ R.length
  | 0 => .inr (by simp [keptN])
  | i + 1 => by
    rcases keptN_fix i with h | h
    · have e : keptN S D R (i + 1) = keptN S D R i := List.filter_eq_self.mpr h
      rw [e]
      exact .inl h
    · by_cases hf : ∀ r ∈ keptN S D R i, heldB S D R (keptN S D R i) r = true
      · have e : keptN S D R (i + 1) = keptN S D R i := List.filter_eq_self.mpr hf
        rw [e]
        exact .inl hf
      · refine .inr ?_
        have hl : (keptN S D R (i + 1)).length ≤ (keptN S D R i).length := List.length_filter_le _ _
        have hne : (keptN S D R (i + 1)).length ≠ (keptN S D R i).length := fun e => hf (List.filter_eq_self.mp (List.filter_sublist.eq_of_length e))
        omega
theorem kept_fix : ∀ r ∈ keptL S D R, heldB S D R (keptL S D R) r = true := by
  rcases keptN_fix (S := S) (D := D) (R := R) R.length with h | h
  · exact h
  · intro r hr
    have : (keptL S D R).length = 0 := by unfold keptL; omega
    rw [List.length_eq_zero_iff.mp this] at hr
    cases hr
theorem kept_sub : (keptL S D R).Sublist (List.range R.length) := keptN_sub _
theorem kept_lt {r : Nat} (h : r ∈ keptL S D R) : r < R.length := List.mem_range.mp (kept_sub.subset h)
theorem kept_nodup : (keptL S D R).Nodup := kept_sub.nodup List.nodup_range
theorem kept_len : (keptL S D R).length ≤ R.length := by
  have := (kept_sub (S := S) (D := D) (R := R)).length_le
  rwa [List.length_range] at this
theorem kept_zero (h : 0 ∈ keptL S D R) : (keptL S D R)[0]? = some 0 := by
  have hs : (keptL S D R).Pairwise (· < ·) := List.Pairwise.sublist kept_sub List.pairwise_lt_range
  cases e : keptL S D R with
  | nil => rw [e] at h; cases h
  | cons x r =>
    rw [e] at h hs
    rcases List.mem_cons.mp h with h | h
    · rw [← h]; rfl
    · have := List.rel_of_pairwise_cons hs h
      omega
theorem held_all {ks : List Nat} {r : Nat} (h : heldB S D R ks r = true) {s : Nat} (hs : s < S) : ∃ g, g < D ∧ ∃ r', room R r s g = some r' ∧ r' ∈ ks := by
  unfold heldB at h
  rw [List.all_eq_true] at h
  have := h s (List.mem_range.mpr hs)
  rw [List.any_eq_true] at this
  obtain ⟨g, hg, hk⟩ := this
  refine ⟨g, List.mem_range.mp hg, ?_⟩
  unfold inKs at hk
  cases e : room R r s g with
  | none => rw [e] at hk; cases hk
  | some r' => rw [e] at hk; exact ⟨r', rfl, of_decide_eq_true hk⟩
/-- where nothing is lost all rooms are kept -/
theorem kept_full (hD : 1 ≤ D) (h : ∀ r s g, r < R.length → s < S → g < D → ∃ r', room R r s g = some r' ∧ r' < R.length) : keptL S D R = List.range R.length := by
  have all : ∀ i, keptN S D R i = List.range R.length := by
    intro i
    induction i with
    | zero => rfl
    | succ i ih =>
      show (keptN S D R i).filter _ = _
      rw [ih]
      refine List.filter_eq_self.mpr fun r hr => ?_
      unfold heldB
      rw [List.all_eq_true]
      intro s hs
      rw [List.any_eq_true]
      obtain ⟨r', e1, e2⟩ := h r s 0 (List.mem_range.mp hr) (List.mem_range.mp hs) hD
      refine ⟨0, List.mem_range.mpr hD, ?_⟩
      unfold inKs
      rw [e1]
      exact decide_eq_true (List.mem_range.mpr e2)
  exact all _
end
/-! ### unbroken -/
def unb (R : Say) : Say := R.map fun x => x.map fun r => r.map fun o => some (o.getD 0)
end Wr
namespace Wr
section
variable {S D : Nat} {R : Say} {ks : List Nat}
/-- a cell of the warden that keeps: room r, sign s -/
def CellK (D : Nat) (R : Say) (ks : List Nat) (r s : Nat) (c : Nat × Nat) : Prop := c.1 < D ∧ c.2 < ks.length ∧ ∃ r', room R r s c.1 = some r' ∧ ks[c.2]? = some r'
def RowK (D : Nat) (R : Say) (ks : List Nat) (r s n : Nat) (row : List (Nat × Nat)) : Prop := row.length = n ∧ ∀ c ∈ row, CellK D R ks r s c
def StK (D : Nat) (R : Say) (ks : List Nat) (r n : Nat) (st : List (List (Nat × Nat))) : Prop := st.length = n ∧ ∀ (s : Nat) (row : List (Nat × Nat)), st[s]? = some row → RowK D R ks r s D row
def TabK (S D : Nat) (R : Say) (ks : List Nat) (n : Nat) (w : Tab) : Prop := w.length = n ∧ ∀ (k : Nat) (st : List (List (Nat × Nat))), w[k]? = some st → ∃ r, ks[k]? = some r ∧ StK D R ks r S st
theorem rowK_snoc {r s n : Nat} {row : List (Nat × Nat)} {c : Nat × Nat} (h : RowK D R ks r s n row) (hc : CellK D R ks r s c) : RowK D R ks r s (n + 1) (row ++ [c]) := by
  refine ⟨by rw [List.length_append, h.1]; rfl, fun x hx => ?_⟩
  rcases List.mem_append.mp hx with hx | hx
  · exact h.2 x hx
  · have : x = c := by simpa using hx
    rw [this]; exact hc
theorem get_snoc {α : Type} {l : List α} {x y : α} {i : Nat} (h : (l ++ [x])[i]? = some y) : l[i]? = some y ∨ (i = l.length ∧ y = x) := by
  by_cases hi : i < l.length
  · rw [List.getElem?_append_left hi] at h; exact .inl h
  · rw [List.getElem?_append_right (by omega)] at h
    have h0 : i - l.length = 0 := by
      have := (List.getElem?_eq_some_iff.mp h).1
      simp at this
      omega
    rw [h0] at h
    simp at h
    exact .inr ⟨by omega, h.symm⟩
theorem stK_snoc {r n : Nat} {st : List (List (Nat × Nat))} {row : List (Nat × Nat)} (h : StK D R ks r n st) (hr : RowK D R ks r n D row) : StK D R ks r (n + 1) (st ++ [row]) := by
  refine ⟨by rw [List.length_append, h.1]; rfl, fun s x hx => ?_⟩
  rcases get_snoc hx with hx | ⟨e1, e2⟩
  · exact h.2 s x hx
  · rw [e1, e2, h.1]; exact hr
theorem tabK_snoc {n r : Nat} {w : Tab} {st : List (List (Nat × Nat))} (h : TabK S D R ks n w) (hr : ks[n]? = some r) (hs : StK D R ks r S st) : TabK S D R ks (n + 1) (w ++ [st]) := by
  refine ⟨by rw [List.length_append, h.1]; rfl, fun k x hx => ?_⟩
  rcases get_snoc hx with hx | ⟨e1, e2⟩
  · exact h.2 k x hx
  · rw [e1, e2, h.1]; exact ⟨r, hr, hs⟩
theorem tabK_ok {w : Tab} (h : TabK S D R ks ks.length w) (h0 : 0 < ks.length) : TOk S D w := by
  refine ⟨by rw [h.1]; exact h0, fun st hst => ?_⟩
  obtain ⟨k, hk⟩ := List.mem_iff_getElem?.mp hst
  obtain ⟨r, _, h1, h2⟩ := h.2 k st hk
  refine ⟨h1, fun row hrow => ?_⟩
  obtain ⟨s, hs⟩ := List.mem_iff_getElem?.mp hrow
  obtain ⟨h3, h4⟩ := h2 s row hs
  refine ⟨h3, fun c hc => ?_⟩
  obtain ⟨a, b, _⟩ := h4 c hc
  exact ⟨a, by rw [h.1]; exact b⟩
theorem tabK_keeps {w : Tab} (h : TabK S D R ks ks.length w) (hz : ks[0]? = some 0) : Keeps S D R w ks := by
  have h0 := (List.getElem?_eq_some_iff.mp hz).1
  have hw := tabK_ok h h0
  refine ⟨h.1.symm, hz, fun k s d r hk hs hd => ?_⟩
  have hkl := (List.getElem?_eq_some_iff.mp hk).1
  obtain ⟨st, row, e1, e2, e3, _, _⟩ := hw.cel (k := k) (s := s) (d := d) (by rw [h.1]; exact hkl) hs hd
  obtain ⟨r2, hr2, h1, h2⟩ := h.2 k st e1
  rw [hk] at hr2
  cases hr2
  obtain ⟨_, _, r', a, b⟩ := (h2 s row e2).2 _ (List.mem_of_getElem? e3)
  exact ⟨r', a, b⟩
end
end Wr
namespace Wr
section
variable {S D : Nat} {ws pre mid post : List Tab}
theorem prodL_app : ∀ {a b : List Tab}, prodL (a ++ b) = prodL a * prodL b
  | [], b => by simp [prodL]
  | w :: a, b => by
    show w.length * prodL (a ++ b) = w.length * prodL a * prodL b
    rw [prodL_app, Nat.mul_assoc]
theorem prodL_le : ∀ {ws : List Tab}, (∀ w ∈ ws, w.length ≤ 4) → prodL ws ≤ 4 ^ ws.length
  | [], _ => Nat.le_refl _
  | w :: r, h => by
    show w.length * prodL r ≤ 4 ^ (r.length + 1)
    rw [Nat.pow_succ, Nat.mul_comm]
    exact Nat.mul_le_mul (prodL_le fun x hx => h x (by simp [hx])) (h w (by simp))
/-- the wardens of the law -/
structure Wd (S D : Nat) (ws : List Tab) : Prop where
  ok : ∀ w ∈ ws, TOk S D w ∧ w.length ≤ 4
  l1 : 1 ≤ ws.length
  l3 : ws.length ≤ 3
/-- what in_a_row takes -/
structure Rwc (S D : Nat) (ws : List Tab) : Prop where
  ok : ∀ w ∈ ws, TOk S D w ∧ w.length ≤ 100
  l1 : 1 ≤ ws.length
  l4 : ws.length ≤ 4
  pr : prodL ws ≤ 100
theorem pow_mono4 {n : Nat} (h : n ≤ 3) : 4 ^ n ≤ 64 := Nat.le_trans (Nat.pow_le_pow_right (by decide) h) (by decide)
theorem Wd.pr (h : Wd S D ws) : prodL ws ≤ 64 := Nat.le_trans (prodL_le fun w hw => (h.ok w hw).2) (pow_mono4 h.l3)
theorem Wd.rwc (h : Wd S D ws) : Rwc S D ws := ⟨fun w hw => ⟨(h.ok w hw).1, Nat.le_trans (h.ok w hw).2 (by decide)⟩, h.l1, Nat.le_trans h.l3 (by decide), Nat.le_trans h.pr (by decide)⟩
theorem Wd.sub {vs : List Tab} (h : Wd S D ws) (hs : ∀ w ∈ vs, w ∈ ws) (l1 : 1 ≤ vs.length) (l3 : vs.length ≤ ws.length) : Wd S D vs := ⟨fun w hw => h.ok w (hs w hw), l1, Nat.le_trans l3 h.l3⟩
theorem rowOf_len (hm : ∀ w ∈ mid, TOk S D w) : (rowOf S D mid).length ≤ prodL mid := by
  rw [row_length]
  exact T_len hm
theorem mid_go (h : Wd S D ws) (e : pre ++ (mid ++ post) = ws) (hm : 1 ≤ mid.length) : Rwc S D (pre ++ rowOf S D mid :: post) ∧ rowOf S D (pre ++ rowOf S D mid :: post) = rowOf S D ws := by
  subst e
  have h1 : ∀ w ∈ pre, TOk S D w ∧ w.length ≤ 4 := fun w hw => h.ok w (by simp [hw])
  have h2 : ∀ w ∈ mid, TOk S D w ∧ w.length ≤ 4 := fun w hw => h.ok w (by simp [hw])
  have h3 : ∀ w ∈ post, TOk S D w ∧ w.length ≤ 4 := fun w hw => h.ok w (by simp [hw])
  have hl := h.l3
  rw [List.length_append, List.length_append] at hl
  have hpm : prodL mid ≤ 64 := Nat.le_trans (prodL_le fun w hw => (h2 w hw).2) (pow_mono4 (by omega))
  have hr := rowOf_len (S := S) (D := D) fun w hw => (h2 w hw).1
  have hpr : prodL (pre ++ rowOf S D mid :: post) ≤ 64 := by
    refine Nat.le_trans ?_ h.pr
    rw [prodL_app, prodL_app, prodL_app]
    refine Nat.mul_le_mul_left _ ?_
    show (rowOf S D mid).length * prodL post ≤ prodL mid * prodL post
    exact Nat.mul_le_mul_right _ hr
  refine ⟨⟨fun w hw => ?_, by rw [List.length_append, List.length_cons]; omega, by rw [List.length_append, List.length_cons]; omega, Nat.le_trans hpr (by decide)⟩, row_row (fun w hw => (h1 w hw).1) (fun w hw => (h2 w hw).1) (fun w hw => (h3 w hw).1) (Nat.le_trans hpm (by decide))⟩
  rcases List.mem_append.mp hw with hw | hw
  · exact ⟨(h1 w hw).1, Nat.le_trans (h1 w hw).2 (by decide)⟩
  · rcases List.mem_cons.mp hw with rfl | hw
    · exact ⟨row_ok (fun w hw => (h2 w hw).1) (Nat.le_trans hpm (by decide)), Nat.le_trans hr (Nat.le_trans hpm (by decide))⟩
    · exact ⟨(h3 w hw).1, Nat.le_trans (h3 w hw).2 (by decide)⟩
theorem calm_rwc1 (h : Wd S D ws) : Rwc S D (calm S D :: ws) := by
  have hp := h.pr
  refine ⟨fun w hw => ?_, by simp, by have := h.l3; simp; omega, ?_⟩
  · rcases List.mem_cons.mp hw with rfl | hw
    · exact ⟨calm_ok S D, by simp [calm]⟩
    · exact ⟨(h.ok w hw).1, Nat.le_trans (h.ok w hw).2 (by decide)⟩
  · show (calm S D).length * prodL ws ≤ 100
    have : (calm S D).length = 1 := by simp [calm]
    rw [this]
    omega
theorem calm_rwc2 (h : Wd S D ws) : Rwc S D (ws ++ [calm S D]) := by
  have hp := h.pr
  refine ⟨fun w hw => ?_, by simp, by have := h.l3; simp; omega, ?_⟩
  · rcases List.mem_append.mp hw with hw | hw
    · exact ⟨(h.ok w hw).1, Nat.le_trans (h.ok w hw).2 (by decide)⟩
    · have : w = calm S D := by simpa using hw
      subst this
      exact ⟨calm_ok S D, by simp [calm]⟩
  · rw [prodL_app]
    have : prodL [calm S D] = 1 := by simp [prodL, calm]
    rw [this]
    omega
theorem Wd.row (h : Wd S D ws) : TOk S D (rowOf S D ws) ∧ (rowOf S D ws).length ≤ 64 := ⟨row_ok (fun w hw => (h.ok w hw).1) (Nat.le_trans h.pr (by decide)), Nat.le_trans (rowOf_len fun w hw => (h.ok w hw).1) h.pr⟩
/-- the row is sound for what its last one keeps -/
theorem row_sd {w : Tab} {R : Say} {kp : List Nat} (h : Wd S D (pre ++ [w])) (hk : Keeps S D R w kp) (hl : ∀ r ∈ kp, r < R.length) : Sd S D (rowOf S D (pre ++ [w])) R (Tog S D (pre ++ [w]) kp) := by
  refine ⟨tog0 hk, fun i r t => ⟨tog_lt t, ?_⟩, fun i r s d t hs hd => tog_step (fun v hv => (h.ok v hv).1) (Nat.le_trans h.pr (by decide)) hk t hs hd⟩
  obtain ⟨x, k, _, e⟩ := t
  exact hl r (List.mem_of_getElem? e)
end
end Wr
namespace Wr
section
variable {S D : Nat} {ws : List Tab} {run : List (Nat × Nat)}
theorem mendAll_succ {i : Nat} {w : Tab} (h : ws[i]? = some w) : mendAll (ws.take (i + 1)) run = mend w 0 (mendAll (ws.take i) run) := by
  unfold mendAll
  rw [List.take_add_one, h, List.foldl_append]
  rfl
theorem mendAll_ok (hw : ∀ w ∈ ws, TOk S D w) (h : RunOk S D run) : ∀ i, RunOk S D (mendAll (ws.take i) run) ∧ (mendAll (ws.take i) run).length = run.length
  | 0 => ⟨h, rfl⟩
  | i + 1 => by
    obtain ⟨a, b⟩ := mendAll_ok hw h i
    cases e : ws[i]? with
    | none =>
      have e1 : ws.take (i + 1) = ws.take i := by rw [List.take_add_one, e]; simp
      rw [e1]
      exact ⟨a, b⟩
    | some w =>
      rw [mendAll_succ e]
      exact ⟨mend_ok (hw w (List.mem_of_getElem? e)) (hw w (List.mem_of_getElem? e)).1 a, by rw [mend_len]; exact b⟩
end
end Wr
namespace Wx
open PySem PySem.Spec PyProof.Rows L2
/-! ### powers of any size -/
def CPowW (i j : Int) : Prop := 0 ≤ j ∧ (Builtin.Int.intBits i : Int) * j ≤ 2 ^ 27
section
variable {X : Cx}
theorem op_powW : OpR X (binaryOp .Pow) (rI CPowW fun i j => .int (i ^ j.toNat)) := opI fun _ _ _ _ _ _ _ hc q => pow_int hc.1 hc.2 q
end
/-! ### a tuple taken once -/
theorem tuple_mul1 (l : Addr) (items : Array Value) (n : Nat) (sl : Array (Option Value)) (dd : Option Addr) (x : Int) (u : Tok) (hx : x = 1) :
    Meets (Builtin.«tuple.__mul__» ⟨[.ref l, .int x u], []⟩) (fun _ R s => s.heap.get? l = some { cls := .type "tuple", dict := dd, data := .seq items n, slots := sl } ∧
      R (.ok (.ret (Value.ref l))) s) :=
  .of_wp fun prog w A R s h => by
    obtain ⟨hp, g, d, tk, os⟩ := s
    obtain ⟨hl, h⟩ := h
    have f1 := AutoSeq1.idx_int
    have c0 : (decide (x < -(2 ^ 63)) || decide (x ≥ 2 ^ 63)) = false := by
      rw [decide_eq_false (by omega), decide_eq_false (by omega)] <;> rfl
    have c1 : (items.isEmpty || x == 1) = true := by rw [hx]; simp
    wp_walk using wpAny_loadPart' hl
    repeat (first
      | (refine wpAny_ite_false (decide_eq_false (by rw [c0]; exact Bool.false_ne_true)) ?_; wp_walk using wpAny_loadPart' hl)
      | (refine wpAny_ite_true (decide_eq_true c1) ?_; wp_walk using wpAny_loadPart' hl))
    exact ⟨_, rfl, h⟩
def rRep1 (K : PySem.W.Frag) : R2 := fun x y H Q => ∃ l xs, x = .ref l ∧ y = .int 1 ∧ SqT K H l xs ∧ Q (.ref l) H
section
variable {X : Cx}
theorem op_rep1 : OpR X (binaryOp .Mult) (rRep1 X.K) := by
  intro pins s σ H x y v u Q I rx ry h
  obtain ⟨l, xs, rfl, rfl, hT, q⟩ := h
  cases rx
  obtain ⟨t, rfl⟩ := ry
  obtain ⟨its, r, ⟨⟨cls, dd, data, sl⟩, ho, hc, n, hd⟩, hs⟩ := I.tuple hT
  simp only at hc hd
  subst hc hd
  refine wpAny_binaryOp_repeat_ref (T := "tuple") (U := "int") (by decide) ⟨_, ho, rfl⟩ (fun s' => typeIs_int s' 1 t) noFill_tuple_mul F.fills_int_mul F.slot_int_rmul repeat_tuple F.slot_int_index.lookup
    (call_meets F.slot_int_rmul (typeIs_int s 1 t) F.entry_int_rmul (F.args_int_rmul_2 _ _) (int_rmul_tuple 1 t l its.toArray n dd sl)
      ⟨ho, rfl, ⟨_, ho, rfl⟩, call_meets F.slot_tuple_mul ⟨_, ho, rfl⟩ F.entry_tuple_mul (F.args_tuple_mul_2 _ _) (tuple_mul1 l its.toArray n sl dd 1 t rfl) ⟨ho, ?_⟩⟩)
  exact ⟨.ref l, H, I, rfl, q⟩
/-- a tuple taken k times, k from 1 to 1000 -/
def rRepA (K : PySem.W.Frag) : R2 := fun x y H Q => rRep1 K x y H Q ∨ rRepT K x y H Q
theorem op_repA : OpR X (binaryOp .Mult) (rRepA X.K) := by
  intro pins s σ H x y v u Q I rx ry h
  rcases h with h | h
  · exact op_rep1 pins s σ H x y v u Q I rx ry h
  · exact op_repT pins s σ H x y v u Q I rx ry h
end
/-! ### first, *others = a tuple -/
section
variable {prog : Program} {w : World} {A : Around} {E : Value → Shared → Prop} {s : Shared}
theorem star_items {l : Addr} {items : Array Value} {n i : Nat} {Q : List Value → Shared → Prop} (hl : IsTup s.heap l items) (hh : A.handled = none) (hi : i < n) (hn : n ≤ items.size + 1) (hz : items.size ≤ 16384)
    (h : ∀ (h' : Heap) (tk : Nat), (∀ b o, s.heap.get? b = some o → h'.get? b = some o) →
      Q (items.toList.take i ++ [.ref h'.objs.size] ++ (items.toList.drop i).drop (items.size + 1 - n)) { s with heap := h'.push { cls := .type "list", data := .seq ((items.toList.drop i).take (items.size + 1 - n)).toArray }, toks := tk }) :
    wpAny (model prog w) A (unpackItems (.ref l) n (some i)) Q E s := by
  have hlt : l ≠ s.heap.objs.size := by obtain ⟨o, ho, _⟩ := hl; exact Nat.ne_of_lt (Heap.lt_size ho)
  have hll : l < s.heap.objs.size := by obtain ⟨o, ho, _⟩ := hl; exact Heap.lt_size ho
  unfold unpackItems
  refine wpAny_bind ?_
  unfold notIterableAtAll
  refine wpAny_bind (wpAny_specialOf hl.typeIs slot_tuple_iter.lookup ?_)
  refine wpAny_pure ?_
  simp only [Bool.false_eq_true, if_false]
  refine wpAny_bind (wpAny_holding (iter_tuple hl ?_))
  refine wpAny_bind (wpAny_holding (draw_tuple hlt i 0 _ _ ⟨_, Heap.get?_push_size _ rfl, rfl, rfl⟩ (hl.push _) (by omega) fun h₁ hit₁ hs₁ => ?_))
  have hl₁ : IsTup h₁ l items := (hl.push _).extBut hs₁.extBut hlt
  rw [Nat.zero_add] at hit₁
  have hit₁' := hit₁
  obtain ⟨oi, hoi, _⟩ := hit₁'
  have hl₁' := hl₁
  obtain ⟨ol, hol, _⟩ := hl₁'
  rw [List.drop_zero]
  have hfl : (items.toList.take i).length = i := by rw [List.length_take, Array.length_toList]; omega
  rw [if_neg (show ¬ ((items.toList.take i).length < i) by rw [hfl]; omega)]
  refine wpAny_bind (wpAny_holding (PySem.W.kun_collect (s := { s with heap := h₁ }) (T := "tuple_iterator") (.inr (.inr (.inr rfl))) (Walks.tuple (A := A.in1) hh s.heap.objs.size l hlt items) (fun j u st => st.1.typeIs) (k := i) (by omega) ⟨hit₁, hl₁⟩ (Heap.lt_size hoi) (Heap.lt_size hol) (fun h₂ tk hk => ?_) (by rw [sizeLine_eq]; omega)))
  have hrl : (items.toList.drop i).length = items.size - i := by rw [List.length_drop, Array.length_toList]
  have hmid : (items.toList.drop i).length - (n - 1 - i) = items.size + 1 - n := by rw [hrl]; omega
  show wpAny _ _ (if (items.toList.drop i).length < n - 1 - i then _ else _) _ _ _
  rw [if_neg (by rw [hrl]; omega)]
  show wpAny _ _ (newList ((items.toList.drop i).take ((items.toList.drop i).length - (n - 1 - i))) >>= fun d => pure (items.toList.take i ++ [d] ++ (items.toList.drop i).drop ((items.toList.drop i).length - (n - 1 - i)))) _ _ _
  rw [hmid]
  have he : ∀ b o, s.heap.get? b = some o → h₂.get? b = some o := fun b o e => hk b o (Nat.ne_of_lt (Heap.lt_size e)) (hs₁.extBut b o (Nat.ne_of_lt (Heap.lt_size e)) (Heap.get?_push_of_some _ e))
  exact wpAny_bind (wpAny_newList (s := { s with heap := h₂, toks := tk }) (wpAny_pure (h h₂ tk he)) (by rw [List.length_take, hrl, sizeLine_eq]; omega))
end
/-- x, *y = t: the first item to x, a new list of the others to y -/
def gStar (K : PySem.W.Frag) (t : TGs) : TG := fun v σ H Q => ∃ a x xs, v = .ref a ∧ SqT K H a (x :: xs) ∧ xs.length ≤ 1000 ∧ ∀ p, H p = none → t [x, .ref p] σ (upd H p (.lst xs)) Q
section
variable {X : Cx} {pos : Pos}
theorem pg_star {es : List Expr} {k : Nat} {t : TGs} (hc : X.calm = true) (h : PGs X es t) (hn : (assignEach es X.env).length = 2 := by rfl) (hst : (assignEach es X.env).findIdx? (·.1) = some 1 := by rfl) : PG X (.Tuple es k pos) (gStar X.K t) := by
  refine ⟨fun pins s σ H v u Q I r hw => ?_⟩
  obtain ⟨a, x, xs, e1, hq, hl, hw⟩ := hw
  subst e1
  cases r
  obtain ⟨its, rv, ht, hz⟩ := I.tuple hq
  cases rv with
  | @cons _ u0 _ us rx rr =>
    have el := rr.length
    rw [assign_Tuple]
    refine wpAny_bind (wpAny_standAt ?_)
    unfold unpack
    rw [hn, hst]
    refine wpAny_bind (wpAny_holding (star_items ht (I.ok.hd hc) (by omega) (by simp) (by simp; omega) fun h' tk kp => ?_))
    have I2 : Inv X pins σ H { s with heap := h', toks := tk } := I.kept kp
    have nP := I2.hok.fresh (Nat.le_refl h'.objs.size)
    have ez : (u0 :: us).toArray.size + 1 - 2 = us.length := by simp
    rw [ez]
    have I3 : Inv X pins σ (upd H h'.objs.size (.lst xs)) { s with heap := h'.push { cls := .type "list", data := .seq (((u0 :: us).toArray.toList.drop 1).take us.length).toArray }, toks := tk } := by
      refine I2.laid (t' := tk) (fun b o e => Heap.get?_push_of_some _ e) (Nat.le_refl _) ⟨by rw [sizeLine_eq]; omega, us, 0, rr, ?_⟩
      have e : ((u0 :: us).toArray.toList.drop 1).take us.length = us := by simp
      rw [e]
      exact Heap.get?_push_size _ rfl
    have el2 : (u0 :: us).toArray.toList.take 1 ++ [Value.ref h'.objs.size] ++ ((u0 :: us).toArray.toList.drop 1).drop us.length = [u0, Value.ref h'.objs.size] := by simp
    rw [el2]
    exact h.run pins _ σ _ [x, .ref h'.objs.size] _ Q I3 (.cons rx (.cons rfl .nil)) (hw _ nP)
/-- in such a target: t1, *t2 -/
theorem pgs_star {e : Expr} {p : Pos} {es : List Expr} {t : TG} {u : TGs} (h1 : PG X e t) (h2 : PGs X es u)
    (hs : (assignEach (.Starred e p :: es) X.env).map (·.2) = assign e X.env :: (assignEach es X.env).map (·.2) := by rfl) : PGs X (.Starred e p :: es) (gCons t u) := by
  refine ⟨fun pins s σ H vs us Q I r h => ?_⟩
  obtain ⟨v, vr, e1, h⟩ := h
  subst e1
  cases r with
  | cons r rr =>
    rw [hs]
    refine assignInOrder_cons (thn (h1.run pins s σ H _ _ _ I r h) fun _ s1 ⟨σ1, H1, I1, q1⟩ => ?_)
    exact h2.run pins s1 σ1 H1 _ _ Q I1 rr q1
end
/-! ### {k: v}, k a tuple -/
def tDispT (tk tv : TE) : TE := fun σ H Q => ∀ p, H p = none → tk σ (upd H p (.dT [])) fun x H1 => tv σ H1 fun y H2 => H2 p = some (.dT []) ∧ ∃ (k : List Key) (b : Addr), x = .ref b ∧ H2 b = some (.tup (k.map kV)) ∧ Q (.ref p) (upd H2 p (.dT [(k, y)]))
section
variable {X : Cx} {pos : Pos}
theorem pe_dispT {ek ev : Expr} {tk tv : TE} (hu : X.A.units + 1 < cLine) (hk : PE X ek tk) (hv : PE X ev tv) : PE X (.Dict [some ek] [ev] pos) (tDispT tk tv) := by
  refine ⟨fun pins s σ H Q I q => ?_⟩
  have hn := I.hok.fresh (Nat.le_refl s.heap.objs.size)
  have I1 := I.laid (a := s.heap.objs.size) (o := .dT []) (h' := s.heap.push { cls := .type "dict", data := .dict #[] }) (t' := s.toks) (fun _ _ q => Heap.get?_push_of_some _ q) (Nat.le_refl _) (dt_empty s.heap I.big)
  rw [arm_eval_Dict, zip_pairTrees [some ek] [ev] X.env pos rfl rfl, dictDisplay_pairs (pairTrees [some ek] [ev] X.env pos) (fun z => nomatch z) (by show 1 < 17; decide)]
  refine wpAny_bind (wpAny_standAt (wpAny_bind (wpAny_subDictH (knd := tupleKind (mixKind X.prog X.w)) (Q := fun d s' => wpAny (model X.prog X.w) X.A (pure (Value.ref d)) (EP X pins σ Q) X.xe s') (by show X.A.units < cLine; omega) (by show 1 ≤ 15; decide) ?_)))
  refine pairTrees_cons_walk (thn (hk.run pins _ σ _ _ I1 (q _ hn)) fun u s1 ⟨x, H1, I2, rx, q1⟩ => thn (hv.run pins s1 σ H1 _ I2 q1) fun w2 s2 ⟨y, H2, I3, ry, q2⟩ => pairTrees_nil_walk ?_)
  obtain ⟨eP, k, b, ex, eb, q3⟩ := q2
  subst ex
  cases (show u = Value.ref b from rx)
  obtain ⟨z, hd, xs, rel, dd⟩ := dt_of I3.hok eP
  cases rel
  refine ⟨[(k, b, w2)], ⟨rfl, rfl, key_of I3.hok eb, trivial⟩, dd, fun h' tk' dd' hs => wpAny_pure ⟨.ref s.heap.objs.size, _, ?_, rfl, q3⟩⟩
  obtain ⟨o, es, ep, ho, h2, h3, h4, _, h5⟩ := dd'
  refine d_write I3 (by rw [eP]; exact True.intro) hs ⟨o, ho⟩ ⟨by show 1 ≤ sizeLine; decide, hd, _, .cons ⟨rfl, ?_, ry⟩ .nil, o, es, ep, ho, h2, h3, h4, h5⟩
  rw [upd_ne (ne_of eb eP (fun z => nomatch z))]
  exact eb
end
end Wx
namespace Wk
open PySem PySem.Spec PyProof.Rows PySem.Calls L2
theorem LiI_ix {α β : Type} {F : α → β → Prop} : ∀ {xs : List α} {ys : List β}, Paired F xs ys → ∀ {x : α}, x ∈ xs → ∃ (j : Nat) (y : β), xs[j]? = some x ∧ ys[j]? = some y ∧ F x y
  | _, _, .cons h t, x, hx => by
    rcases List.mem_cons.mp hx with e | hx
    · rw [e]
      exact ⟨0, _, rfl, rfl, h⟩
    · obtain ⟨j, y, e1, e2, e3⟩ := LiI_ix t hx
      exact ⟨j + 1, y, e1, e2, e3⟩
section
variable {prog : Program} {w : World} {A : Around} {E : Value → Shared → Prop} {s : Shared}
theorem meetsKeys {d : Addr} {es : Array DictEntry} {ep : Nat} (hd : (d == sysModules) = false) :
    MeetsIn prog w (Builtin.«dict.keys» ⟨[.ref d], []⟩) (fun _ R s => DT.Raw s.heap d es ep ∧
      R (.ok (.ret (.ref s.heap.objs.size))) { s with heap := s.heap.push { cls := .type "dict_keys", data := .fields #[.ref d] } }) :=
  .of_wp fun A R s ⟨hm, h⟩ => by
    unfold Builtin.«dict.keys»
    refine wpAny_bind ?_
    unfold Builtin.Dict.noArgs
    refine wpAny_bind (wpAny_notOrdered_dict hm.typeIs ?_)
    show wpAny _ _ (pure d) _ _ s
    refine wpAny_pure ?_
    show wpAny _ _ (Builtin.Dict.showsAll d >>= _) _ _ s
    unfold Builtin.Dict.showsAll
    rw [if_neg (by rw [hd]; exact Bool.false_ne_true)]
    refine wpAny_bind (wpAny_pure ?_)
    exact wpAny_bind (wpAny_newObj_type (wpAny_pure ⟨_, rfl, h⟩))
theorem callKeys {d : Addr} {es : Array DictEntry} {ep : Nat} {Q : Value → Shared → Prop} (hd : (d == sysModules) = false) (hm : DT.Raw s.heap d es ep)
    (h : Q (.ref s.heap.objs.size) { s with heap := s.heap.push { cls := .type "dict_keys", data := .fields #[.ref d] } }) : wpAny (model prog w) A (call (.builtin "dict.keys") [.ref d]) Q E s :=
  call_meetsIn PySem.F.slot_dict_keys hm.typeIs PySem.F.entry_dict_keys (PySem.F.args_dict_keys_1 _) (meetsKeys (es := es) (ep := ep) hd) ⟨hm, h⟩
theorem iterKeys {v d : Addr} {es : Array DictEntry} {ep : Nat} {Q : Value → Shared → Prop} (hv : PySem.W.KdlKeysView s.heap v d) (hm : DT.Raw s.heap d es ep)
    (hQ : Q (.ref s.heap.objs.size) { s with heap := s.heap.push { cls := .type "dict_keyiterator", data := .fields #[.ref d, .int 0 0, .int es.size 0, .int ep 0] } }) :
    wpAny (model prog w) A (pyIter (.ref v)) Q E s := by
  obtain ⟨ov, hov, hcv, hdv⟩ := id hv
  obtain ⟨o, ho, hc, hdat⟩ := id hm
  refine wpAny_pyIter_slot hv.typeIs PySem.W.kdl_slot_keys_iter (wpAny_call_entry PySem.W.kdl_slot_keys_iter hv.typeIs PySem.W.kdl_entry_keys_iter ?_ (PySem.W.kdl_args_keys_iter _))
  unfold Builtin.«dict_keys.__iter__»
  refine wpAny_bind (wpAny_pure ?_)
  refine wpAny_bind ?_
  unfold Builtin.Dict_items.dictOf
  refine wpAny_bind (wpAny_field hov hdv (x := .ref d) rfl (wpAny_pure ?_))
  refine wpAny_bind ?_
  unfold Builtin.Dict_items.newIterator
  refine wpAny_bind (wpAny_dictEntries ho hdat ?_)
  refine wpAny_bind (wpAny_dictEpoch ho hdat ?_)
  have hown : Builtin.Dict_items.ownsTuple "dict_keyiterator" = false := by decide
  simp only [hown, Bool.false_eq_true, if_false]
  refine wpAny_newObj_type (wpAny_pure ⟨_, rfl, "dict_keyiterator", _, ⟨_, Heap.get?_push_size _ rfl, rfl⟩, PySem.F.slot_dict_keyiterator_next.lookup, ?_⟩)
  simpa [rawInt] using hQ
def srcKeys {r d : Addr} {o : Obj} {es : Array DictEntry} {ep : Nat} (hne : r ≠ d) (hx : o.ExactDict) (hd : o.data = .dict es ep) :
    PySem.W.KdlSrc prog w "dict_keys" r d es.size (fun i v => ∃ en : DictEntry, es[i]? = some en ∧ v = en.key) (fun h => PySem.W.KdlKeysView h r d ∧ h.get? d = some o) where
  type := fun _ hm => hm.1.typeIs
  there := fun _ hm => ⟨by obtain ⟨o', ho, _⟩ := hm.1; exact Heap.lt_size ho, Heap.lt_size hm.2⟩
  keep := fun _ _ hm hk => ⟨by obtain ⟨o', ho, r⟩ := hm.1; exact ⟨o', hk _ (.inl rfl) _ ho, r⟩, hk d (.inr rfl) _ hm.2⟩
  notList := by decide
  notTuple := by decide
  hint := fun _ _ s _ hm hq => PySem.W.kdl_hint_keys (s := s) hm.1.typeIs hq
  iter := fun _ s hh hm => ⟨_, _, (fun _ _ hq => iterKeys hm.1 ⟨o, hm.2, hx, hd⟩ hq), walks_raw hh _ d (Nat.ne_of_lt (Heap.lt_size hm.2)) hd, ⟨⟨_, Heap.get?_push_size _ rfl, rfl, rfl⟩, Heap.get?_push_of_some _ hm.2⟩⟩
/-- the keys of the dict behind the view, in a list -/
theorem collectKeys {r d : Addr} {o : Obj} {es : Array DictEntry} {ep : Nat} {R : List Value → Shared → Prop} (hh : A.handled = none) (hv : PySem.W.KdlKeysView s.heap r d) (ho : s.heap.get? d = some o) (hne : r ≠ d) (hx : o.ExactDict) (hd : o.data = .dict es ep) (hn : es.size ≤ sizeLine)
    (h : ∀ (h' : Heap) (tk : Nat), (∀ b o, s.heap.get? b = some o → h'.get? b = some o) → s.heap.objs.size < h'.objs.size → R (es.toList.map (·.key)) { s with heap := h', toks := tk }) :
    wpAny (model prog w) A (collect (.ref r)) R E s := by
  have K := srcKeys (prog := prog) (w := w) hne hx hd
  have hr : r < s.heap.objs.size := by obtain ⟨o', h1, _⟩ := hv; exact Heap.lt_size h1
  have hdl : d < s.heap.objs.size := Heap.lt_size ho
  unfold collect
  refine wpAny_bind (wpAny_runValue (codeAny_builtin entry_proto_collect' ?_))
  rw [Around.under_plainId PySem.F.plain_proto_collect _]
  show wpAny _ A.in1 (newList [] >>= fun l => again (.builtin "list.__iadd__" ⟨[l, .ref r], []⟩)) _ _ s
  refine wpAny_bind (wpAny_newObj_type ?_)
  refine wpAny_pure ⟨plainId_quiet PySem.F.plain_list_iadd _, codeAny_builtin entry_list_iadd' ?_⟩
  rw [Around.under_plainId PySem.F.plain_list_iadd _]
  have hS₁ : (s.heap.push { cls := .type "list", data := .seq ([] : List Value).toArray }).get? s.heap.objs.size = some { cls := .type "list", data := .seq #[] } := Heap.get?_push_size _ rfl
  show wpAny _ A.in1 (Builtin.List.listExtendWith (.ref s.heap.objs.size) (.ref r) (.ref s.heap.objs.size)) _ _ _
  have eqv : ∀ (acc' : Array Value), ItemsOf (fun i v => ∃ en : DictEntry, es[i]? = some en ∧ v = en.key) acc' es.size → acc'.toList = es.toList.map (·.key) := fun acc' it => by
    apply List.ext_getElem?
    intro j
    rw [List.getElem?_map]
    cases hj : acc'.toList[j]? with
    | none =>
      have h1 := List.getElem?_eq_none_iff.mp hj
      rw [Array.length_toList, it.1] at h1
      rw [List.getElem?_eq_none (by rw [Array.length_toList]; exact h1)]
      rfl
    | some v =>
      obtain ⟨en, hen, hv⟩ := it.2 j v (by rw [← Array.getElem?_toList]; exact hj)
      rw [Array.getElem?_toList, hen, hv]
      rfl
  have key := PySem.W.kdl_extend (A := A) (s := { s with heap := s.heap.push { cls := .type "list", data := .seq ([] : List Value).toArray } })
    (R := fun (q : Result) (s' : Shared) => ∃ (h' : Heap) (tk : Nat) (acc' : Array Value) (c' : Nat), q = .ok (.ret (.ref s.heap.objs.size)) ∧ s' = { s with heap := h', toks := tk } ∧
      (∀ b o, s.heap.get? b = some o → h'.get? b = some o) ∧ h'.get? s.heap.objs.size = some { cls := .type "list", dict := none, data := .seq acc' c', slots := #[] } ∧ acc'.toList = es.toList.map (·.key))
    K hh ⟨by obtain ⟨o', h1, r⟩ := hv; exact ⟨o', Heap.get?_push_of_some _ h1, r⟩, Heap.get?_push_of_some _ ho⟩ s.heap.objs.size (Nat.ne_of_gt hr) (Nat.ne_of_gt hdl) (.ref s.heap.objs.size) 0 hS₁
    (fun h' tk acc' c' hk hS' hacc => ⟨h', tk, acc', c', rfl, rfl, fun b o e => hk b o (Nat.ne_of_lt (Heap.lt_size e)) (Heap.get?_push_of_some _ e), hS', eqv acc' hacc⟩) hn
  refine wpAny_mono key (fun fin s' x => ?_) fun e s' x => ?_
  · cases fin with
    | done f =>
      obtain ⟨h', tk, acc', c', e, rfl, hk, hS', hacc⟩ := x
      cases e
      show wpAny _ A (load s.heap.objs.size >>= _) _ _ _
      refine wpAny_bind (wpAny_load hS' ?_)
      refine wpAny_pure ?_
      show R acc'.toList _
      rw [hacc]
      exact h h' tk hk (Heap.lt_size hS')
    | again c₁ =>
      refine ⟨x.1, codeAny_mono x.2 fun q s₂ y => ?_⟩
      obtain ⟨h', tk, acc', c', rfl, rfl, hk, hS', hacc⟩ := y
      show wpAny _ A (load s.heap.objs.size >>= _) _ _ _
      refine wpAny_bind (wpAny_load hS' ?_)
      refine wpAny_pure ?_
      show R acc'.toList _
      rw [hacc]
      exact h h' tk hk (Heap.lt_size hS')
  · obtain ⟨_, _, _, _, e', _⟩ := x
    cases e'
/-- sorted(d.keys()), the keys pairs of ints -/
theorem sortedKeys {r d : Addr} {o : Obj} {es : Array DictEntry} {ep : Nat} {k : Value → Int × Int} {Q : Value → Shared → Prop} (hh : A.handled = none) (hv : PySem.W.KdlKeysView s.heap r d) (ho : s.heap.get? d = some o) (hne : r ≠ d) (hx : o.ExactDict) (hd : o.data = .dict es ep) (hn : es.size ≤ sizeLine)
    (hp : ∀ v ∈ es.toList.map (·.key), Srt.IsPair s.heap v (k v).1 (k v).2)
    (h : ∀ (h' : Heap) (d' : Addr) (tk : Nat) (out : List Value), SrtO.Srtd (fun v u => SrtO.lexB (k v) (k u)) out → SrtO.Stb (fun v u => SrtO.lexB (k v) (k u)) out (es.toList.map (·.key)) → (∀ b o, s.heap.get? b = some o → h'.get? b = some o) → s.heap.objs.size ≤ d' → (∃ n, h'.get? d' = some (PyProof.Rows.seqObj "list" out.toArray n)) → Q (.ref d') { s with heap := h', toks := tk }) :
    wpAny (model prog w) A (call (.builtin "sorted") [.ref r]) Q E s := by
  refine Calls.call_function_entry kind_sorted plain_sorted PyProof.Rows.entry_sorted (args_sorted1 _) ?_
  unfold Builtin.«sorted»
  refine wpAny_bind (m := checkCount "sorted" 1 1 _) (wpAny_pure ?_)
  have hz : (es.toList.map (·.key)).length ≤ sizeLine := by rw [List.length_map, Array.length_toList]; exact hn
  refine wpAny_bind (collectKeys (A := A.in1) hh hv ho hne hx hd hn fun h₁ tk hk hlt => ?_)
  refine wpAny_bind (wpAny_newList ?_ hz)
  have hoL : (h₁.push { cls := .type "list", data := .seq (es.toList.map (·.key)).toArray }).get? h₁.objs.size = some (PyProof.Rows.seqObj "list" (es.toList.map (·.key)).toArray 0) := Heap.get?_push_size _ rfl
  refine wpAny_bind (wpAny_holding (wpAny_call_entry PyProof.Rows.slot_list_sort ⟨_, hoL, rfl⟩ PyProof.Rows.entry_list_sort (SrtO.list_sort_ord (SrtO.swo_lex k) hoL hz (fun h2 => ?_) fun out hs hb => ⟨_, rfl, ?_⟩) (args_list_sort _)))
  · refine SrtO.pairs_sortableO (by omega) (fun v hm => (hp v hm).keeps fun b o' e _ => Heap.get?_push_of_some _ (hk b o' e)) fun o' e => ?_
    have e' : some o' = some (PyProof.Rows.seqObj "list" (es.toList.map (·.key)).toArray 0) := e.symm.trans hoL
    cases e'
    intro c
    exact absurd (Value.type.inj c) (by decide)
  · refine wpAny_pure ⟨_, rfl, ?_⟩
    obtain ⟨e, hH⟩ := sortedHeap_at (out := out.toArray) hoL
    refine h _ _ _ out hs hb (fun b o' e' => ?_) (Nat.le_of_lt hlt) ⟨e, hH⟩
    have h1 := hk b o' e'
    rw [sortedHeap_old (Nat.ne_of_lt (Heap.lt_size h1)) (Heap.lt_size (Heap.get?_push_of_some _ h1))]
    exact Heap.get?_push_of_some _ h1
end
/-- the view d.keys() at p -/
def keysO (p d : Addr) : HO := .ext fun h => PySem.W.KdlKeysView h p d
theorem keysO_ok {P : Program} {w : World} {H : Hp} {h : Heap} {p d : Addr} (e : h.get? p = some { cls := .type "dict_keys", data := .fields #[.ref d] }) : ObjOk P w H h p (keysO p d) :=
  ⟨⟨_, e, rfl, rfl⟩, ⟨_, e⟩, fun h1 h2 x k => let ⟨o, ho, r⟩ := x; ⟨o, k o ho, r⟩⟩
section
variable {X : Cx}
def rKeysT : V → List V → Hp → VK → Prop := fun x xs H Q => ∃ (a : Addr) (kvs : List (List L2.Key × V)), x = .ref a ∧ xs = [] ∧ H a = some (.dT kvs) ∧ ∀ p, H p = none → Q (.ref p) (upd H p (keysO p a))
theorem mt_keysT : MtR X "dict.keys" rKeysT := by
  intro pins s σ H x xs v us Q I rx rxs h
  obtain ⟨a, kvs, rfl, rfl, ha, q⟩ := h
  cases rx
  cases rxs
  obtain ⟨z, hd, xs', rel, o, es, ep, ho, hx, hdat, _⟩ := dt_of I.hok ha
  refine callKeys (es := es) (ep := ep) hd ⟨o, ho, hx, hdat⟩ ?_
  have hf : H s.heap.objs.size = none := I.hok.fresh (Nat.le_refl _)
  exact ⟨.ref s.heap.objs.size, upd H s.heap.objs.size (keysO s.heap.objs.size a), I.laid (t' := s.toks) (fun b u e => Heap.get?_push_of_some _ e) (Nat.le_refl _) (keysO_ok (Heap.get?_push_size _ rfl)), rfl, q _ hf⟩
def pairK (q : Int × Int) : List L2.Key := [Sum.inl q.1, Sum.inl q.2]
/-- which pair stands at a value -/
def pairAt (H : Hp) : V → Int × Int
  | .ref b => match H b with
    | some (.tup [.int i, .int j]) => (i, j)
    | _ => (0, 0)
  | _ => (0, 0)
/-- sorted(d.keys()), the keys pairs of ints that rise already -/
def rSortK : List V → Hp → VK → Prop := fun vs H Q => ∃ (p d : Addr) (kvs : List (List L2.Key × V)) (ps : List (Int × Int)), vs = [.ref p] ∧ H p = some (keysO p d) ∧ H d = some (.dT kvs) ∧ kvs.map (·.1) = ps.map pairK ∧ SrtO.Srtd SrtO.lexB ps ∧
  ∀ (bs : List Addr) (q : Addr), H q = none → Paired (fun b z => H b = some (.tup [.int z.1, .int z.2])) bs ps → Q (.ref q) (upd H q (.lst (bs.map V.ref)))
theorem kt_pairs {H : Hp} : ∀ {kvs : List (List L2.Key × V)} {xs : List (List L2.Key × Addr × Value)} {ps : List (Int × Int)}, KT H kvs xs → kvs.map (·.1) = ps.map pairK → Paired (fun (b : Addr) (z : Int × Int) => H b = some (.tup [.int z.1, .int z.2])) (xs.map fun x => x.2.1) ps
  | _, _, [], .nil, _ => .nil
  | _, _, _ :: _, .nil, h => by simp at h
  | _, _, [], .cons _ _, h => by simp at h
  | _, _, q :: ps, .cons h t, e => by
    rw [List.map_cons, List.map_cons] at e
    injection e with e1 e2
    refine .cons ?_ (kt_pairs t e2)
    have := h.2.1
    rw [e1] at this
    exact this
theorem pairAt_of {H : Hp} {b : Addr} {z : Int × Int} (h : H b = some (.tup [.int z.1, .int z.2])) : pairAt H (.ref b) = z := by
  show (match H b with
    | some (.tup [.int i, .int j]) => (i, j)
    | _ => ((0, 0) : Int × Int)) = z
  rw [h]
theorem srtd_refs {H : Hp} : ∀ {bs : List Addr} {ps : List (Int × Int)}, Paired (fun (b : Addr) (z : Int × Int) => H b = some (.tup [.int z.1, .int z.2])) bs ps → SrtO.Srtd SrtO.lexB ps → SrtO.Srtd (fun v u => SrtO.lexB (pairAt H (backV v)) (pairAt H (backV u))) (bs.map Value.ref)
  | _, _, .nil, _ => List.Pairwise.nil
  | _, _, .cons h t, q => by
    obtain ⟨q1, q2⟩ := List.pairwise_cons.mp q
    refine List.pairwise_cons.mpr ⟨fun u hu => ?_, srtd_refs t q2⟩
    obtain ⟨b, hb, rfl⟩ := List.mem_map.mp hu
    obtain ⟨j, y, e1, e2, e3⟩ := LiI_ix t hb
    show SrtO.lexB (pairAt H (.ref b)) (pairAt H (.ref _)) = false
    rw [pairAt_of e3, pairAt_of h]
    exact q1 y (List.mem_of_getElem? e2)
theorem cr_sortK (hc : X.calm = true) : CallR X (.builtin "sorted") rSortK := by
  intro pins s σ H xs us Q I r h
  obtain ⟨p, d, kvs, ps, rfl, hp, hd, hk, hs, q⟩ := h
  obtain rfl := Vals.ref1 r
  have view : PySem.W.KdlKeysView s.heap p d := (show ObjOk X.prog X.w H s.heap p (keysO p d) from I.hok p _ hp).1
  obtain ⟨z, hd0, xs', rel, o, es, ep, ho, hx, hdat, hes, his, hn⟩ := dt_of I.hok hd
  have l1 : kvs.length = xs'.length := Paired.length rel
  have l2 : es.size = xs'.length := size_of_entries hes
  have hP := kt_pairs rel hk
  have ek : es.toList.map (·.key) = (xs'.map fun x => x.2.1).map Value.ref := by
    rw [hes, List.map_map, List.map_map]
    rfl
  have ne : p ≠ d := ne_of hp hd (fun z => by unfold keysO at z; cases z)
  refine sortedKeys (k := fun u => pairAt H (backV u)) (I.ok.hd hc) view ho ne hx hdat (by omega) (fun v hv => ?_) fun h' d' tk out h1 h2 kp hd' hn' => ?_
  · rw [ek] at hv
    obtain ⟨b, hb, rfl⟩ := List.mem_map.mp hv
    obtain ⟨j, y, e1, e2, e3⟩ := LiI_ix hP hb
    obtain ⟨_, its2, r2, o2, ho2, hc2, n2, hd2⟩ := I.hok _ _ e3
    obtain ⟨u1, u2, rfl, ri, rj⟩ := vals2 r2
    obtain ⟨t1, rfl⟩ := ri
    obtain ⟨t2, rfl⟩ := rj
    have e : pairAt H (backV (Value.ref b)) = y := pairAt_of e3
    show Srt.IsPair s.heap (.ref b) (pairAt H (backV (Value.ref b))).1 (pairAt H (backV (Value.ref b))).2
    rw [e]
    exact ⟨b, o2, t1, t2, n2, rfl, ho2, hc2, hd2⟩
  · rw [ek] at h2
    have eo : out = (xs'.map fun x => x.2.1).map Value.ref := SrtO.stb_uniq (SrtO.swo_lex fun u => pairAt H (backV u)) h1 (srtd_refs hP hs) h2
    subst eo
    obtain ⟨n, hn'⟩ := hn'
    refine ⟨.ref d', upd H d' (.lst ((xs'.map fun x => x.2.1).map V.ref)), I.laid (t' := tk) kp hd' ⟨?_, _, n, vals_refs _, hn'⟩, rfl, q _ d' (I.hok.fresh hd') hP⟩
    rw [List.length_map, List.length_map]
    omega
end
end Wk
namespace Wz
open PySem PySem.Calls RZ
section
variable {prog : Program} {w : World} {A : Around} {E : Value → Shared → Prop} {s : Shared}
/-! ### zip of a list and a tuple: the pair that was handed out is gone -/
theorem next_item {z TI TO i1 i2 l1 l2 : Addr} {k1 k2 : Nat} {xs ys : Array Value} {x y a b : Value} {Q : Value → Shared → Prop} (D : ZipApart z TI TO i1 i2 l1 l2)
    (hz : IsZip s.heap z TI TO .none) (hTI : IsPair s.heap TI (.ref i1) (.ref i2)) (hTO : IsPair s.heap TO a b)
    (h1 : s.heap.IsListIter i1 l1 k1) (h2 : s.heap.IsTupleIter i2 l2 k2) (hl1 : s.heap.IsList l1 xs) (hl2 : s.heap.IsTuple l2 ys) (hx : xs[k1]? = some x) (hy : ys[k2]? = some y)
    (hQ : ∀ h', IsZip h' z TI TO (rawInt s.heap.objs.size) → IsPair h' TO x y → h'.IsListIter i1 l1 (k1 + 1) → h'.IsTupleIter i2 l2 (k2 + 1) → IsPair h' s.heap.objs.size x y → h'.objs.size = s.heap.objs.size + 1 →
      (∀ c o, c ≠ z → c ≠ TO → c ≠ i1 → c ≠ i2 → s.heap.get? c = some o → h'.get? c = some o) → Q (.ref s.heap.objs.size) { s with heap := h' }) :
    wpAny (model prog w) A (Builtin.«zip.__next__» ⟨[.ref z], []⟩) (fun fin s' => ∃ v, fin = .done (.ret v) ∧ Q v s') E s := by
  show wpAny _ _ (field (.ref z) 2 >>= _) _ _ _
  refine wpAny_bind (wpAny_field hz rfl (x := .bool false) rfl ?_)
  show wpAny _ _ (field (.ref z) 3 >>= _) _ _ _
  refine wpAny_bind (wpAny_field hz rfl (x := .ref TI) rfl ?_)
  refine wpAny_bind (wpAny_seqItems hTI rfl ?_)
  show wpAny _ _ (Builtin.SmallTypes.ownedTupleIsFree (.ref z) >>= _) _ _ _
  refine wpAny_bind ?_
  unfold Builtin.SmallTypes.ownedTupleIsFree
  refine wpAny_bind (wpAny_field hz rfl (x := .none) rfl (wpAny_pure ?_))
  simp only [if_true]
  refine wpAny_bind (wpAny_rule ?_)
  refine wpAny_bind (wpAny_field hz rfl (x := .ref TO) rfl ?_)
  refine wpAny_bind (wpAny_setField_rec hz (by simp) fun h₁ hz₁ hs₁ => ?_)
  replace hz₁ : IsZip h₁ z TI TO .ellipsis := hz₁
  refine wpAny_bind ?_
  simp only [List.zipIdx_cons, List.zipIdx_nil, List.forIn_cons, List.forIn_nil]

  refine wpAny_bind (wpAny_bind (wpAny_onRaise ?_))
  show wpAny _ _ (Builtin.SmallTypes.nextOf (.ref i1) >>= _) _ _ _
  refine wpAny_bind (wpAny_nextOf_list_item (h1.extBut hs₁.extBut D.i1z) (hl1.extBut hs₁.extBut D.l1z) hx fun h₂ h1₂ hs₂ => wpAny_pure ?_)
  have hTO₂ : IsPair h₂ TO a b := hs₂.extBut _ _ D.TOi1 (hs₁.extBut _ _ D.TOz hTO)
  refine wpAny_bind (wpAny_seqItems hTO₂ rfl ?_)
  refine wpAny_bind (wpAny_updateSeq_pair hTO₂ fun h₃ hTO₃ hs₃ => ?_)
  replace hTO₃ : IsPair h₃ TO x b := hTO₃
  refine wpAny_bind (wpAny_letGo (wpAny_pure ?_))

  refine wpAny_bind (wpAny_bind (wpAny_onRaise ?_))
  show wpAny _ _ (Builtin.SmallTypes.nextOf (.ref i2) >>= _) _ _ _
  refine wpAny_bind (nextOf_tuple_item (((h2.extBut hs₁.extBut D.i2z).extBut hs₂.extBut D.i12.symm).extBut hs₃.extBut D.TOi2.symm)
    (((hl2.extBut hs₁.extBut D.l2z).extBut hs₂.extBut D.l2i1).extBut hs₃.extBut D.l2TO) hy fun h₄ h2₄ hs₄ => wpAny_pure ?_)
  have hTO₄ : IsPair h₄ TO x b := hs₄.extBut _ _ D.TOi2 hTO₃
  refine wpAny_bind (wpAny_seqItems hTO₄ rfl ?_)
  refine wpAny_bind (wpAny_updateSeq_pair hTO₄ fun h₅ hTO₅ hs₅ => ?_)
  replace hTO₅ : IsPair h₅ TO x y := hTO₅
  refine wpAny_bind (wpAny_letGo (wpAny_pure (wpAny_pure ?_)))

  refine wpAny_bind (wpAny_seqItems hTO₅ rfl ?_)
  refine wpAny_bind (wpAny_newTuple ?_)
  have hsz : h₅.objs.size = s.heap.objs.size := by rw [hs₅.1, hs₄.1, hs₃.1, hs₂.1, hs₁.1]
  have hz₅ : IsZip h₅ z TI TO .ellipsis := hs₅.extBut _ _ D.TOz.symm (hs₄.extBut _ _ D.i2z.symm (hs₃.extBut _ _ D.TOz.symm (hs₂.extBut _ _ D.i1z.symm hz₁)))
  have hk₅ : ∀ c o, c ≠ z → c ≠ TO → c ≠ i1 → c ≠ i2 → s.heap.get? c = some o → h₅.get? c = some o := fun c o c1 c2 c3 c4 e =>
    hs₅.extBut _ _ c2 (hs₄.extBut _ _ c4 (hs₃.extBut _ _ c2 (hs₂.extBut _ _ c3 (hs₁.extBut _ _ c1 e))))
  have h1₅ : h₅.IsListIter i1 l1 (k1 + 1) := ((h1₂.extBut hs₃.extBut D.TOi1.symm).extBut hs₄.extBut D.i12).extBut hs₅.extBut D.TOi1.symm
  have h2₅ : h₅.IsTupleIter i2 l2 (k2 + 1) := h2₄.extBut hs₅.extBut D.TOi2.symm
  have hzlt : z < h₅.objs.size := Heap.lt_size hz₅
  show wpAny _ _ (Builtin.SmallTypes.ownedTupleHandOut (.ref z) (.ref h₅.objs.size) >>= _) _ _ _
  refine wpAny_bind ?_
  unfold Builtin.SmallTypes.ownedTupleHandOut
  have hz₆ : IsZip (h₅.push { cls := .type "tuple", data := .seq #[x, y] }) z TI TO .ellipsis := Heap.get?_push_of_some _ hz₅
  refine wpAny_bind (wpAny_setField_rec hz₆ (by simp) fun h₇ hz₇ hs₇ => ?_)
  replace hz₇ : IsZip h₇ z TI TO (rawInt h₅.objs.size) := hz₇
  refine wpAny_setField_rec hz₇ (by simp) fun h₈ hz₈ hs₈ => ?_
  replace hz₈ : IsZip h₈ z TI TO (rawInt h₅.objs.size) := hz₈
  have up : ∀ c o, c ≠ z → h₅.get? c = some o → h₈.get? c = some o := fun c o c1 e => hs₈.extBut _ _ c1 (hs₇.extBut _ _ c1 (Heap.get?_push_of_some _ e))
  have hT₈ : IsPair h₈ h₅.objs.size x y := hs₈.extBut _ _ (Nat.ne_of_gt hzlt) (hs₇.extBut _ _ (Nat.ne_of_gt hzlt) (Heap.get?_push_size _ rfl))
  have hz8 : h₈.objs.size = h₅.objs.size + 1 := by rw [hs₈.1, hs₇.1, Heap.size_push]
  rw [hsz] at hz₈ hT₈ hz8
  refine wpAny_pure ⟨_, rfl, ?_⟩
  show Q (.ref h₅.objs.size) _
  rw [hsz]
  exact hQ h₈ hz₈ (up _ _ D.TOz hTO₅) (h1₅.at fun o e => up _ o D.i1z e) (h2₅.at fun o e => up _ o D.i2z e) hT₈ hz8 fun c o c1 c2 c3 c4 e => up c o c1 (hk₅ c o c1 c2 c3 c4 e)
/-- the zip object whose handed-out tuple at a lives -/
abbrev IsZipO (h : Heap) (z TI TO a : Addr) (f : Bool) : Prop :=
  h.get? z = some { cls := .type "zip", dict := none, data := .fields #[rawInt a, .bool f, .bool false, .ref TI, .ref TO], slots := #[] }
theorem out_item {z TI TO i1 i2 l1 l2 a : Addr} {f : Bool} {oa : Obj} {k1 k2 : Nat} {xs ys : Array Value} {x y : Value} {Q : Value → Shared → Prop} (D : ZipApart z TI TO i1 i2 l1 l2)
    (hz : IsZipO s.heap z TI TO a f) (ha : s.heap.get? a = some oa) (haz : a ≠ z) (hTI : IsPair s.heap TI (.ref i1) (.ref i2))
    (h1 : s.heap.IsListIter i1 l1 k1) (h2 : s.heap.IsTupleIter i2 l2 k2) (hl1 : s.heap.IsList l1 xs) (hl2 : s.heap.IsTuple l2 ys) (hx : xs[k1]? = some x) (hy : ys[k2]? = some y)
    (hQ : ∀ h', IsZipO h' z TI TO a true → h'.IsListIter i1 l1 (k1 + 1) → h'.IsTupleIter i2 l2 (k2 + 1) → IsPair h' s.heap.objs.size x y → h'.objs.size = s.heap.objs.size + 1 →
      (∀ c o, c ≠ z → c ≠ i1 → c ≠ i2 → s.heap.get? c = some o → h'.get? c = some o) → Q (.ref s.heap.objs.size) { s with heap := h' }) :
    wpAny (model prog w) A (Builtin.«zip.__next__» ⟨[.ref z], []⟩) (fun fin s' => ∃ v, fin = .done (.ret v) ∧ Q v s') E s := by
  show wpAny _ _ (field (.ref z) 2 >>= _) _ _ _
  refine wpAny_bind (wpAny_field hz rfl (x := .bool false) rfl ?_)
  show wpAny _ _ (field (.ref z) 3 >>= _) _ _ _
  refine wpAny_bind (wpAny_field hz rfl (x := .ref TI) rfl ?_)
  refine wpAny_bind (wpAny_seqItems hTI rfl ?_)
  show wpAny _ _ (Builtin.SmallTypes.ownedTupleIsFree (.ref z) >>= _) _ _ _
  refine wpAny_bind ?_
  unfold Builtin.SmallTypes.ownedTupleIsFree
  refine wpAny_bind (wpAny_field hz rfl (x := rawInt a) rfl ?_)
  show wpAny _ _ (loadIfAlive ((a : Int).toNat) >>= _) _ _ _
  rw [Int.toNat_natCast]
  refine wpAny_bind (PySem.W.kdx_alive ha ?_)
  simp only [Option.isNone_some, Bool.false_eq_true, if_false]
  refine wpAny_bind (wpAny_field hz rfl (x := .bool f) rfl ?_)
  cases f with
  | true =>
    simp only [bne_self_eq_false, Bool.false_eq_true, if_false]
    refine wpAny_pure ?_
    have hz₁ := hz
    have hs₁ : Heap.SameBut z s.heap s.heap := Heap.SameBut.refl _ _
    simp only [List.forIn_toArray, List.forIn_cons, List.forIn_nil]
    refine wpAny_bind (wpAny_bind (wpAny_bind (wpAny_holding ?_)))
    show wpAny _ _ (Builtin.SmallTypes.nextOf (.ref i1) >>= fun v => pure (some v)) _ _ _
    refine wpAny_bind (wpAny_nextOf_list_item (s := s) (h1.extBut hs₁.extBut D.i1z) (hl1.extBut hs₁.extBut D.l1z) hx fun h₂ h1₂ hs₂ => wpAny_pure ?_)
    refine wpAny_pure ?_
    refine wpAny_bind (wpAny_bind (wpAny_holding ?_))
    show wpAny _ _ (Builtin.SmallTypes.nextOf (.ref i2) >>= fun v => pure (some v)) _ _ _
    refine wpAny_bind (nextOf_tuple_item (s := { s with heap := h₂ }) ((h2.extBut hs₁.extBut D.i2z).extBut hs₂.extBut D.i12.symm) ((hl2.extBut hs₁.extBut D.l2z).extBut hs₂.extBut D.l2i1) hy fun h₃ h2₃ hs₃ => wpAny_pure ?_)
    refine wpAny_pure (wpAny_pure ?_)
    have hsz : h₃.objs.size = s.heap.objs.size := by rw [hs₃.1, hs₂.1, hs₁.1]
    refine wpAny_bind (wpAny_newTuple ?_ (by show 2 ≤ sizeLine; decide))
    refine wpAny_pure ⟨_, rfl, ?_⟩
    have e0 : ({ s with heap := h₃ } : Shared).heap.objs.size = s.heap.objs.size := hsz
    have z3 : IsZipO h₃ z TI TO a true := hs₃.extBut _ _ D.i2z.symm (hs₂.extBut _ _ D.i1z.symm hz₁)
    have hT : (h₃.push { cls := .type "tuple", data := .seq #[x, y] }).get? h₃.objs.size = some { cls := .type "tuple", data := .seq #[x, y] } := Heap.get?_push_size _ rfl
    rw [hsz] at hT
    show Q (.ref h₃.objs.size) _
    rw [hsz]
    exact hQ _ (Heap.get?_push_of_some _ z3) ((h1₂.extBut hs₃.extBut D.i12).at fun o e => Heap.get?_push_of_some _ e) (h2₃.at fun o e => Heap.get?_push_of_some _ e) hT (by rw [Heap.size_push, hsz])
      fun c o c1 c2 c3 e => Heap.get?_push_of_some _ (hs₃.extBut _ _ c3 (hs₂.extBut _ _ c2 (hs₁.extBut _ _ c1 e)))
  | false =>
    refine wpAny_ite_split (fun _ => ?_) (fun hab => absurd (by decide) hab)
    refine wpAny_bind (wpAny_setField_rec hz (by simp) fun h₁ hz₁ hs₁ => ?_)
    replace hz₁ : IsZipO h₁ z TI TO a true := hz₁
    refine wpAny_pure ?_
    simp only [Bool.false_eq_true, if_false, List.forIn_toArray, List.forIn_cons, List.forIn_nil]
    refine wpAny_bind (wpAny_bind (wpAny_bind (wpAny_holding ?_)))
    show wpAny _ _ (Builtin.SmallTypes.nextOf (.ref i1) >>= fun v => pure (some v)) _ _ _
    refine wpAny_bind (wpAny_nextOf_list_item (s := { s with heap := h₁ }) (h1.extBut hs₁.extBut D.i1z) (hl1.extBut hs₁.extBut D.l1z) hx fun h₂ h1₂ hs₂ => wpAny_pure ?_)
    refine wpAny_pure ?_
    refine wpAny_bind (wpAny_bind (wpAny_holding ?_))
    show wpAny _ _ (Builtin.SmallTypes.nextOf (.ref i2) >>= fun v => pure (some v)) _ _ _
    refine wpAny_bind (nextOf_tuple_item (s := { s with heap := h₂ }) ((h2.extBut hs₁.extBut D.i2z).extBut hs₂.extBut D.i12.symm) ((hl2.extBut hs₁.extBut D.l2z).extBut hs₂.extBut D.l2i1) hy fun h₃ h2₃ hs₃ => wpAny_pure ?_)
    refine wpAny_pure (wpAny_pure ?_)
    have hsz : h₃.objs.size = s.heap.objs.size := by rw [hs₃.1, hs₂.1, hs₁.1]
    refine wpAny_bind (wpAny_newTuple ?_ (by show 2 ≤ sizeLine; decide))
    refine wpAny_pure ⟨_, rfl, ?_⟩
    have e0 : ({ s with heap := h₃ } : Shared).heap.objs.size = s.heap.objs.size := hsz
    have z3 : IsZipO h₃ z TI TO a true := hs₃.extBut _ _ D.i2z.symm (hs₂.extBut _ _ D.i1z.symm hz₁)
    have hT : (h₃.push { cls := .type "tuple", data := .seq #[x, y] }).get? h₃.objs.size = some { cls := .type "tuple", data := .seq #[x, y] } := Heap.get?_push_size _ rfl
    rw [hsz] at hT
    show Q (.ref h₃.objs.size) _
    rw [hsz]
    exact hQ _ (Heap.get?_push_of_some _ z3) ((h1₂.extBut hs₃.extBut D.i12).at fun o e => Heap.get?_push_of_some _ e) (h2₃.at fun o e => Heap.get?_push_of_some _ e) hT (by rw [Heap.size_push, hsz])
      fun c o c1 c2 c3 e => Heap.get?_push_of_some _ (hs₃.extBut _ _ c3 (hs₂.extBut _ _ c2 (hs₁.extBut _ _ c1 e)))
theorem out_end {z TI TO i1 i2 l1 l2 a : Addr} {f : Bool} {oa : Obj} {k1 k2 : Nat} {xs ys : Array Value} {Q : PySem.Fin → Shared → Prop} (hh : A.handled = none) (D : ZipApart z TI TO i1 i2 l1 l2)
    (hz : IsZipO s.heap z TI TO a f) (ha : s.heap.get? a = some oa) (haz : a ≠ z) (hTI : IsPair s.heap TI (.ref i1) (.ref i2))
    (h1 : s.heap.IsListIter i1 l1 k1) (h2 : s.heap.IsTupleIter i2 l2 k2) (hl1 : s.heap.IsList l1 xs) (hl2 : s.heap.IsTuple l2 ys) (hend : xs[k1]? = none ∨ ys[k2]? = none)
    (hE : ∀ (h' : Heap) (e : Addr), (∀ c o, c ≠ z → c ≠ i1 → c ≠ i2 → s.heap.get? c = some o → h'.get? c = some o) → (∃ o, h'.get? e = some o ∧ o.cls = .type "StopIteration") → E (.ref e) { s with heap := h' }) :
    wpAny (model prog w) A (Builtin.«zip.__next__» ⟨[.ref z], []⟩) Q E s := by
  show wpAny _ _ (field (.ref z) 2 >>= _) _ _ _
  refine wpAny_bind (wpAny_field hz rfl (x := .bool false) rfl ?_)
  show wpAny _ _ (field (.ref z) 3 >>= _) _ _ _
  refine wpAny_bind (wpAny_field hz rfl (x := .ref TI) rfl ?_)
  refine wpAny_bind (wpAny_seqItems hTI rfl ?_)
  show wpAny _ _ (Builtin.SmallTypes.ownedTupleIsFree (.ref z) >>= _) _ _ _
  refine wpAny_bind ?_
  unfold Builtin.SmallTypes.ownedTupleIsFree
  refine wpAny_bind (wpAny_field hz rfl (x := rawInt a) rfl ?_)
  show wpAny _ _ (loadIfAlive ((a : Int).toNat) >>= _) _ _ _
  rw [Int.toNat_natCast]
  refine wpAny_bind (PySem.W.kdx_alive ha ?_)
  simp only [Option.isNone_some, Bool.false_eq_true, if_false]
  refine wpAny_bind (wpAny_field hz rfl (x := .bool f) rfl ?_)
  cases f with
  | true =>
    simp only [bne_self_eq_false, Bool.false_eq_true, if_false]
    refine wpAny_pure ?_
    have hs₁ : Heap.SameBut z s.heap s.heap := Heap.SameBut.refl _ _
    simp only [List.forIn_toArray, List.forIn_cons, List.forIn_nil]
    refine wpAny_bind (wpAny_bind (wpAny_bind (wpAny_holding ?_)))
    show wpAny _ _ (Builtin.SmallTypes.nextOf (.ref i1) >>= fun v => pure (some v)) _ _ _
    cases hx : xs[k1]? with
    | none =>
      refine wpAny_bind (wpAny_nextOf_list_end (s := s) hh (h1.extBut hs₁.extBut D.i1z) (hl1.extBut hs₁.extBut D.l1z) hx fun h₂ e hs₂ he => ?_)
      exact hE h₂ e (fun c o c1 c3 _ q => hs₂ _ _ c3 (hs₁.extBut _ _ c1 q)) he
    | some x =>
      have hy : ys[k2]? = none := by
        rcases hend with h | h
        · rw [hx] at h; cases h
        · exact h
      refine wpAny_bind (wpAny_nextOf_list_item (s := s) (h1.extBut hs₁.extBut D.i1z) (hl1.extBut hs₁.extBut D.l1z) hx fun h₂ h1₂ hs₂ => wpAny_pure ?_)
      refine wpAny_pure ?_
      refine wpAny_bind (wpAny_bind (wpAny_holding ?_))
      show wpAny _ _ (Builtin.SmallTypes.nextOf (.ref i2) >>= fun v => pure (some v)) _ _ _
      refine wpAny_bind (nextOf_tuple_end (s := { s with heap := h₂ }) hh ((h2.extBut hs₁.extBut D.i2z).extBut hs₂.extBut D.i12.symm) ((hl2.extBut hs₁.extBut D.l2z).extBut hs₂.extBut D.l2i1) hy fun h₃ e hs₃ he => ?_)
      exact hE h₃ e (fun c o c1 c3 c4 q => hs₃ _ _ c4 (hs₂.extBut _ _ c3 (hs₁.extBut _ _ c1 q))) he
  | false =>
    refine wpAny_ite_split (fun _ => ?_) (fun hab => absurd (by decide) hab)
    refine wpAny_bind (wpAny_setField_rec hz (by simp) fun h₁ hz₁ hs₁ => ?_)
    refine wpAny_pure ?_
    simp only [Bool.false_eq_true, if_false, List.forIn_toArray, List.forIn_cons, List.forIn_nil]
    refine wpAny_bind (wpAny_bind (wpAny_bind (wpAny_holding ?_)))
    show wpAny _ _ (Builtin.SmallTypes.nextOf (.ref i1) >>= fun v => pure (some v)) _ _ _
    cases hx : xs[k1]? with
    | none =>
      refine wpAny_bind (wpAny_nextOf_list_end (s := { s with heap := h₁ }) hh (h1.extBut hs₁.extBut D.i1z) (hl1.extBut hs₁.extBut D.l1z) hx fun h₂ e hs₂ he => ?_)
      exact hE h₂ e (fun c o c1 c3 _ q => hs₂ _ _ c3 (hs₁.extBut _ _ c1 q)) he
    | some x =>
      have hy : ys[k2]? = none := by
        rcases hend with h | h
        · rw [hx] at h; cases h
        · exact h
      refine wpAny_bind (wpAny_nextOf_list_item (s := { s with heap := h₁ }) (h1.extBut hs₁.extBut D.i1z) (hl1.extBut hs₁.extBut D.l1z) hx fun h₂ h1₂ hs₂ => wpAny_pure ?_)
      refine wpAny_pure ?_
      refine wpAny_bind (wpAny_bind (wpAny_holding ?_))
      show wpAny _ _ (Builtin.SmallTypes.nextOf (.ref i2) >>= fun v => pure (some v)) _ _ _
      refine wpAny_bind (nextOf_tuple_end (s := { s with heap := h₂ }) hh ((h2.extBut hs₁.extBut D.i2z).extBut hs₂.extBut D.i12.symm) ((hl2.extBut hs₁.extBut D.l2z).extBut hs₂.extBut D.l2i1) hy fun h₃ e hs₃ he => ?_)
      exact hE h₃ e (fun c o c1 c3 c4 q => hs₃ _ _ c4 (hs₂.extBut _ _ c3 (hs₁.extBut _ _ c1 q))) he
theorem next_end {z TI TO i1 i2 l1 l2 : Addr} {k1 k2 : Nat} {xs ys : Array Value} {a b : Value} {Q : PySem.Fin → Shared → Prop} (hh : A.handled = none) (D : ZipApart z TI TO i1 i2 l1 l2)
    (hz : IsZip s.heap z TI TO .none) (hTI : IsPair s.heap TI (.ref i1) (.ref i2)) (hTO : IsPair s.heap TO a b)
    (h1 : s.heap.IsListIter i1 l1 k1) (h2 : s.heap.IsTupleIter i2 l2 k2) (hl1 : s.heap.IsList l1 xs) (hl2 : s.heap.IsTuple l2 ys) (hend : xs[k1]? = none ∨ ys[k2]? = none)
    (hE : ∀ (h' : Heap) (e : Addr), (∀ c o, c ≠ z → c ≠ TO → c ≠ i1 → c ≠ i2 → s.heap.get? c = some o → h'.get? c = some o) → (∃ o, h'.get? e = some o ∧ o.cls = .type "StopIteration") → E (.ref e) { s with heap := h' }) :
    wpAny (model prog w) A (Builtin.«zip.__next__» ⟨[.ref z], []⟩) Q E s := by
  show wpAny _ _ (field (.ref z) 2 >>= _) _ _ _
  refine wpAny_bind (wpAny_field hz rfl (x := .bool false) rfl ?_)
  show wpAny _ _ (field (.ref z) 3 >>= _) _ _ _
  refine wpAny_bind (wpAny_field hz rfl (x := .ref TI) rfl ?_)
  refine wpAny_bind (wpAny_seqItems hTI rfl ?_)
  show wpAny _ _ (Builtin.SmallTypes.ownedTupleIsFree (.ref z) >>= _) _ _ _
  refine wpAny_bind ?_
  unfold Builtin.SmallTypes.ownedTupleIsFree
  refine wpAny_bind (wpAny_field hz rfl (x := .none) rfl (wpAny_pure ?_))
  simp only [if_true]
  refine wpAny_bind (wpAny_rule ?_)
  refine wpAny_bind (wpAny_field hz rfl (x := .ref TO) rfl ?_)
  refine wpAny_bind (wpAny_setField_rec hz (by simp) fun h₁ hz₁ hs₁ => ?_)
  replace hz₁ : IsZip h₁ z TI TO .ellipsis := hz₁
  refine wpAny_bind ?_
  simp only [List.zipIdx_cons, List.zipIdx_nil, List.forIn_cons, List.forIn_nil]
  refine wpAny_bind (wpAny_bind (wpAny_onRaise ?_))
  show wpAny _ _ (Builtin.SmallTypes.nextOf (.ref i1) >>= _) _ _ _
  cases hx : xs[k1]? with
  | none =>
    refine wpAny_bind (wpAny_nextOf_list_end hh (h1.extBut hs₁.extBut D.i1z) (hl1.extBut hs₁.extBut D.l1z) hx fun h₂ e hs₂ he => ?_)
    obtain ⟨oe, hoe, hce⟩ := he
    have hz₂ : IsZip h₂ z TI TO .ellipsis := hs₂ _ _ D.i1z.symm hz₁
    have hez : e ≠ z := fun x => by subst x; rw [hz₂] at hoe; cases hoe; simp at hce
    refine wpAny_setField_rec hz₂ (by simp) fun h₃ _ hs₃ => hE h₃ e (fun c o c1 _ c3 _ x => hs₃.extBut _ _ c1 (hs₂ _ _ c3 (hs₁.extBut _ _ c1 x))) ⟨oe, hs₃.extBut _ _ hez hoe, hce⟩
  | some x =>
    have hy : ys[k2]? = none := by rcases hend with h | h; rw [hx] at h; cases h; exact h
    refine wpAny_bind (wpAny_nextOf_list_item (h1.extBut hs₁.extBut D.i1z) (hl1.extBut hs₁.extBut D.l1z) hx fun h₂ h1₂ hs₂ => wpAny_pure ?_)
    have hTO₂ : IsPair h₂ TO a b := hs₂.extBut _ _ D.TOi1 (hs₁.extBut _ _ D.TOz hTO)
    refine wpAny_bind (wpAny_seqItems hTO₂ rfl ?_)
    refine wpAny_bind (wpAny_updateSeq_pair hTO₂ fun h₃ hTO₃ hs₃ => ?_)
    refine wpAny_bind (wpAny_letGo (wpAny_pure ?_))
    refine wpAny_bind (wpAny_bind (wpAny_onRaise ?_))
    show wpAny _ _ (Builtin.SmallTypes.nextOf (.ref i2) >>= _) _ _ _
    refine wpAny_bind (nextOf_tuple_end hh (((h2.extBut hs₁.extBut D.i2z).extBut hs₂.extBut D.i12.symm).extBut hs₃.extBut D.TOi2.symm)
      (((hl2.extBut hs₁.extBut D.l2z).extBut hs₂.extBut D.l2i1).extBut hs₃.extBut D.l2TO) hy fun h₄ e hs₄ he => ?_)
    obtain ⟨oe, hoe, hce⟩ := he
    have hz₄ : IsZip h₄ z TI TO .ellipsis := hs₄ _ _ D.i2z.symm (hs₃.extBut _ _ D.TOz.symm (hs₂.extBut _ _ D.i1z.symm hz₁))
    have hez : e ≠ z := fun x => by subst x; rw [hz₄] at hoe; cases hoe; simp at hce
    refine wpAny_setField_rec hz₄ (by simp) fun h₅ _ hs₅ => hE h₅ e (fun c o c1 c2 c3 c4 x => hs₅.extBut _ _ c1 (hs₄ _ _ c4 (hs₃.extBut _ _ c2 (hs₂.extBut _ _ c3 (hs₁.extBut _ _ c1 x))))) ⟨oe, hs₅.extBut _ _ hez hoe, hce⟩
/-! ### the zip object's own state -/
structure St (h : Heap) (z TI TO i1 i2 l1 l2 S : Addr) (k : Nat) : Prop where
  z : IsZip h z TI TO .none ∨ ∃ a f oa, IsZipO h z TI TO a f ∧ h.get? a = some oa ∧ a ≠ z ∧ a ≠ S
  TI : IsPair h TI (.ref i1) (.ref i2)
  TO : ∃ x y, IsPair h TO x y
  i1 : h.IsListIter i1 l1 k
  i2 : h.IsTupleIter i2 l2 k
theorem St.keep {h h' : Heap} {z TI TO i1 i2 l1 l2 S : Addr} {k : Nat} (x : St h z TI TO i1 i2 l1 l2 S k) (hk : ∀ b o, b ≠ S → h.get? b = some o → h'.get? b = some o) (n1 : z ≠ S) (n2 : TI ≠ S) (n3 : TO ≠ S) (n4 : i1 ≠ S) (n5 : i2 ≠ S) : St h' z TI TO i1 i2 l1 l2 S k := by
  refine ⟨?_, hk _ _ n2 x.TI, ?_, x.i1.at fun o e => hk _ o n4 e, x.i2.at fun o e => hk _ o n5 e⟩
  · rcases x.z with e | ⟨a, f, oa, e, ha, c1, c2⟩
    · exact .inl (hk _ _ n1 e)
    · exact .inr ⟨a, f, oa, hk _ _ n1 e, hk _ _ c2 ha, c1, c2⟩
  · obtain ⟨u, v, e⟩ := x.TO
    exact ⟨u, v, hk _ _ n3 e⟩
theorem zip_item {z TI TO i1 i2 l1 l2 S : Addr} {k : Nat} {xs ys : Array Value} {x y : Value} {Q : Option Value → Shared → Prop} (D : ZipApart z TI TO i1 i2 l1 l2) (st : St s.heap z TI TO i1 i2 l1 l2 S k) (hS : S < s.heap.objs.size)
    (hl1 : s.heap.IsList l1 xs) (hl2 : s.heap.IsTuple l2 ys) (hx : xs[k]? = some x) (hy : ys[k]? = some y)
    (hQ : ∀ h', St h' z TI TO i1 i2 l1 l2 S (k + 1) → IsPair h' s.heap.objs.size x y → h'.objs.size = s.heap.objs.size + 1 →
      (∀ c o, c ≠ z → c ≠ TO → c ≠ i1 → c ≠ i2 → s.heap.get? c = some o → h'.get? c = some o) → Q (some (.ref s.heap.objs.size)) { s with heap := h' }) :
    wpAny (model prog w) A (pyNext (.ref z)) Q E s := by
  obtain ⟨hz, hTI, ⟨u, v, hTO⟩, h1, h2⟩ := st
  rcases hz with hz | ⟨a, f, oa, hz, ha, c1, c2⟩
  · have hT : s.TypeIs (.ref z) "zip" := ⟨_, hz, rfl⟩
    unfold pyNext
    refine wpAny_bind (wpAny_attempt (wpAny_callSpecial?_slot (name := Str.ofString "__next__") hT F.slot_zip_next
      (wpAny_call_entry F.slot_zip_next hT F.entry_zip_next
        (next_item D hz hTI hTO h1 h2 hl1 hl2 hx hy fun h' a1 a2 a3 a4 a5 a6 a7 => wpAny_pure (hQ h' ⟨.inr ⟨_, _, _, a1, a5, Nat.ne_of_gt (Heap.lt_size hz), Nat.ne_of_gt hS⟩, a7 _ _ D.TIz D.TITO D.TIi1 D.TIi2 hTI, ⟨_, _, a2⟩, a3, a4⟩ a5 a6 a7)) (F.args_zip_next_1 _))))
  · have hT : s.TypeIs (.ref z) "zip" := ⟨_, hz, rfl⟩
    unfold pyNext
    refine wpAny_bind (wpAny_attempt (wpAny_callSpecial?_slot (name := Str.ofString "__next__") hT F.slot_zip_next
      (wpAny_call_entry F.slot_zip_next hT F.entry_zip_next
        (out_item D hz ha c1 hTI h1 h2 hl1 hl2 hx hy fun h' a1 a3 a4 a5 a6 a7 => wpAny_pure (hQ h' ⟨.inr ?_, a7 _ _ D.TIz D.TIi1 D.TIi2 hTI, ⟨_, _, a7 _ _ D.TOz D.TOi1 D.TOi2 hTO⟩, a3, a4⟩ a5 a6 fun c o q1 _ q3 q4 e => a7 c o q1 q3 q4 e)) (F.args_zip_next_1 _))))
    by_cases e1 : a = i1
    · obtain ⟨o', q, _⟩ := a3
      exact ⟨a, true, o', a1, by rw [e1]; exact q, c1, c2⟩
    · by_cases e2 : a = i2
      · obtain ⟨o', q, _⟩ := a4
        exact ⟨a, true, o', a1, by rw [e2]; exact q, c1, c2⟩
      · exact ⟨a, true, oa, a1, a7 _ _ c1 e1 e2 ha, c1, c2⟩
theorem zip_end {z TI TO i1 i2 l1 l2 S : Addr} {k : Nat} {xs ys : Array Value} {Q : Option Value → Shared → Prop} (hh : A.handled = none) (D : ZipApart z TI TO i1 i2 l1 l2) (st : St s.heap z TI TO i1 i2 l1 l2 S k)
    (hl1 : s.heap.IsList l1 xs) (hl2 : s.heap.IsTuple l2 ys) (hend : xs[k]? = none ∨ ys[k]? = none)
    (hQ : ∀ h', (∀ c o, c ≠ z → c ≠ TO → c ≠ i1 → c ≠ i2 → s.heap.get? c = some o → h'.get? c = some o) → Q none { s with heap := h' }) :
    wpAny (model prog w) A (pyNext (.ref z)) Q E s := by
  obtain ⟨hz, hTI, ⟨u, v, hTO⟩, h1, h2⟩ := st
  rcases hz with hz | ⟨a, f, oa, hz, ha, c1, c2⟩
  · have hT : s.TypeIs (.ref z) "zip" := ⟨_, hz, rfl⟩
    unfold pyNext
    refine wpAny_bind (wpAny_attempt (wpAny_callSpecial?_slot (name := Str.ofString "__next__") hT F.slot_zip_next
      (wpAny_call_entry F.slot_zip_next hT F.entry_zip_next (next_end hh D hz hTI hTO h1 h2 hl1 hl2 hend fun h' e hk he => ?_) (F.args_zip_next_1 _))))
    obtain ⟨o, ho, hc⟩ := he
    refine wpAny_bind (wpAny_isInstance (T := "StopIteration") (b := true) ⟨o, ho, hc⟩ isSubtype_stop ?_)
    exact wpAny_pure (hQ _ hk)
  · have hT : s.TypeIs (.ref z) "zip" := ⟨_, hz, rfl⟩
    unfold pyNext
    refine wpAny_bind (wpAny_attempt (wpAny_callSpecial?_slot (name := Str.ofString "__next__") hT F.slot_zip_next
      (wpAny_call_entry F.slot_zip_next hT F.entry_zip_next (out_end hh D hz ha c1 hTI h1 h2 hl1 hl2 hend fun h' e hk he => ?_) (F.args_zip_next_1 _))))
    obtain ⟨o, ho, hc⟩ := he
    refine wpAny_bind (wpAny_isInstance (T := "StopIteration") (b := true) ⟨o, ho, hc⟩ isSubtype_stop ?_)
    exact wpAny_pure (hQ _ fun c o q1 _ q3 q4 e => hk c o q1 q3 q4 e)
end
theorem no_len : typeLookup (.type "zip") "__len__" = pure none := by rw [typeLookup_type, builtinLookup_eq_fast]; kernel_rfl
theorem no_hint : typeLookup (.type "zip") "__length_hint__" = pure none := by rw [typeLookup_type, builtinLookup_eq_fast]; kernel_rfl
section
variable {prog : Program} {w : World} {A : Around} {E : Value → Shared → Prop} {s : Shared} {R : Result → Shared → Prop}
theorem hint_zip {r : Addr} {Q : Bool → Shared → Prop} (hT : s.TypeIs (.ref r) "zip") (h : Q true s) : wpAny (model prog w) A (Builtin.List.listLengthHint (.ref r)) Q E s := by
  unfold Builtin.List.listLengthHint
  refine wpAny_bind (wpAny_specialOf hT no_len ?_)
  refine wpAny_ite_split (fun hab => absurd hab (by decide)) (fun _ => ?_)
  refine wpAny_ite_split (fun hab => absurd hab (by decide)) (fun _ => ?_)
  refine wpAny_bind (wpAny_specialOf hT no_hint ?_)
  exact wpAny_pure h
/-- pairs made one after another -/
structure Gd (xs ys : Array Value) (lo : Addr) (h : Heap) (as : List Addr) : Prop where
  rise : as.Pairwise (· < ·)
  above : ∀ a ∈ as, lo < a
  pairs : ∀ (j : Nat) (a : Addr), as[j]? = some a → ∃ x y, xs[j]? = some x ∧ ys[j]? = some y ∧ IsPair h a x y
theorem Gd.there {xs ys : Array Value} {lo : Addr} {h : Heap} {as : List Addr} (g : Gd xs ys lo h as) {a : Addr} (ha : a ∈ as) : a < h.objs.size := by
  obtain ⟨j, hj⟩ := List.mem_iff_getElem?.mp ha
  obtain ⟨_, _, _, _, e⟩ := g.pairs j a hj
  exact Heap.lt_size e
theorem zloop {S z TI TO i1 i2 l1 l2 lo : Addr} {xs ys : Array Value} (hh : A.handled = none) (D : ZipApart z TI TO i1 i2 l1 l2) (nz : z ≠ S) (nTI : TI ≠ S) (nTO : TO ≠ S) (n1 : i1 ≠ S) (n2 : i2 ≠ S) (m1 : l1 ≠ S) (m2 : l2 ≠ S)
    (lz : z ≤ lo) (lTO : TO ≤ lo) (li1 : i1 ≤ lo) (li2 : i2 ≤ lo) (lS : S ≤ lo) (hxy : xs.size = ys.size) (hn : xs.size ≤ sizeLine) (res : Value) {h₁ : Heap}
    (hR : ∀ (h' : Heap) (tk : Nat) (acc : Array Value) (c : Nat) (as : List Addr), (∀ b o, b ≠ S → b ≠ z → b ≠ TO → b ≠ i1 → b ≠ i2 → h₁.get? b = some o → h'.get? b = some o) → h'.get? S = some { cls := .type "list", dict := none, data := .seq acc c, slots := #[] } → as.length = xs.size → Gd xs ys lo h' as →
      acc.toList = as.map Value.ref → R (.ok (.ret res)) { s with heap := h', toks := tk }) :
    ∀ (k i : Nat) (h : Heap) (tk c : Nat) (acc : Array Value) (as : List Addr), xs.size - i = k → i ≤ xs.size → St h z TI TO i1 i2 l1 l2 S i → h.IsList l1 xs → h.IsTuple l2 ys → (∀ b o, b ≠ S → b ≠ z → b ≠ TO → b ≠ i1 → b ≠ i2 → h₁.get? b = some o → h.get? b = some o) →
      h.get? S = some { cls := .type "list", dict := none, data := .seq acc c, slots := #[] } → acc.toList = as.map Value.ref → as.length = i → Gd xs ys lo h as → lo < h.objs.size →
      codeAny (model prog w) A (.builtin "list.extend.loop" ⟨[.ref S, .ref z, res], []⟩) R { s with heap := h, toks := tk } := by
  intro k
  induction k with
  | zero =>
    intro i h tk c acc as hk hi hst hl1 hl2 hkeep hS hacc hal hG hIs
    have hin : i = xs.size := by omega
    refine codeAny_builtin PySem.F.entry_extend_loop ?_
    rw [Around.under_plainId PySem.F.plain_extend_loop _]
    show wpAny _ A.in1 (pyNext (.ref z) >>= _) _ _ _
    refine wpAny_bind (zip_end (s := { s with heap := h, toks := tk }) (A := A.in1) hh D hst hl1 hl2 (.inl (Array.getElem?_eq_none (by omega))) fun h' he => ?_)
    refine wpAny_pure (hR h' tk acc c as (fun b o h1 h2 h3 h4 h5 e => he b o h2 h3 h4 h5 (hkeep b o h1 h2 h3 h4 h5 e)) (he S _ nz.symm nTO.symm n1.symm n2.symm hS) (by omega) ⟨hG.rise, hG.above, fun j a hj => ?_⟩ hacc)
    obtain ⟨x, y, e1, e2, e3⟩ := hG.pairs j a hj
    have hab := hG.above a (List.mem_of_getElem? hj)
    exact ⟨x, y, e1, e2, he a _ (Nat.ne_of_gt (Nat.lt_of_le_of_lt lz hab)) (Nat.ne_of_gt (Nat.lt_of_le_of_lt lTO hab)) (Nat.ne_of_gt (Nat.lt_of_le_of_lt li1 hab)) (Nat.ne_of_gt (Nat.lt_of_le_of_lt li2 hab)) e3⟩
  | succ k ih =>
    intro i h tk c acc as hk hi hst hl1 hl2 hkeep hS hacc hal hG hIs
    have hlt : i < xs.size := by omega
    have hx : xs[i]? = some xs[i] := Array.getElem?_eq_getElem hlt
    have hy : ys[i]? = some (ys[i]'(by omega)) := Array.getElem?_eq_getElem (by omega)
    have hsz : acc.size = i := by rw [← Array.length_toList, hacc, List.length_map, hal]
    have hSl : S < h.objs.size := Heap.lt_size hS
    refine codeAny_builtin PySem.F.entry_extend_loop ?_
    rw [Around.under_plainId PySem.F.plain_extend_loop _]
    show wpAny _ A.in1 (pyNext (.ref z) >>= _) _ _ _
    refine wpAny_bind (zip_item (s := { s with heap := h, toks := tk }) (S := S) D hst hSl hl1 hl2 hx hy fun h' hst' ht hz hkp => ?_)
    dsimp only at ht hz hkp ⊢
    have hS' := hkp S _ nz.symm nTO.symm n1.symm n2.symm hS
    have up : ∀ b o, b ≠ S → h'.get? b = some o → (h'.update S (Obj.mapSeq (·.push (Value.ref h.objs.size)))).get? b = some o := fun b o hb e => (Heap.get?_update_other _ _ (Ne.symm hb)).trans e
    show wpAny _ A.in1 (updateSeq S (·.push (Value.ref h.objs.size)) >>= _) _ _ _
    refine wpAny_bind ?_
    refine wpAny_updateSeq hS' rfl (wpAny_pure ⟨plainId_quiet PySem.F.plain_extend_loop _, ih (i + 1) _ tk _ (acc.push (Value.ref h.objs.size)) (as ++ [h.objs.size]) (by omega) hlt (hst'.keep up nz nTI nTO n1 n2)
      (hl1.at fun o e => up l1 o m1 (hkp l1 o D.l1z D.l1TO D.l1i1 D.l1i2 e)) ?_
      (fun b o h1 h2 h3 h4 h5 e => up b o h1 (hkp b o h2 h3 h4 h5 (hkeep b o h1 h2 h3 h4 h5 e))) (Heap.get?_update_self _ hS' rfl) (by rw [Array.toList_push, hacc, List.map_append]; rfl) (by rw [List.length_append, hal]; rfl) ⟨?_, ?_, ?_⟩ ?_⟩) (by rw [hsz]; omega) (by show (acc.push (Value.ref h.objs.size)).size ≤ sizeLine + 1; rw [Array.size_push, hsz]; omega)
    · obtain ⟨o2, q1, q2⟩ := hl2
      exact ⟨o2, up l2 o2 m2 (hkp l2 o2 D.l2z D.l2TO D.l2i1 D.l2i2 q1), q2⟩
    · refine List.pairwise_append.mpr ⟨hG.rise, List.pairwise_singleton _ _, fun a ha b hb => ?_⟩
      rw [List.mem_singleton.mp hb]
      exact hG.there ha
    · intro a ha
      rcases List.mem_append.mp ha with ha | ha
      · exact hG.above a ha
      · rw [List.mem_singleton.mp ha]; exact hIs
    · intro j b hj
      rcases Nat.lt_trichotomy j as.length with h1 | h1 | h1
      · rw [List.getElem?_append_left h1] at hj
        obtain ⟨x', y', e1, e2, e3⟩ := hG.pairs j b hj
        have hb := hG.above b (List.mem_of_getElem? hj)
        exact ⟨x', y', e1, e2, up b _ (Nat.ne_of_gt (Nat.lt_of_le_of_lt lS hb)) (hkp b _ (Nat.ne_of_gt (Nat.lt_of_le_of_lt lz hb)) (Nat.ne_of_gt (Nat.lt_of_le_of_lt lTO hb)) (Nat.ne_of_gt (Nat.lt_of_le_of_lt li1 hb)) (Nat.ne_of_gt (Nat.lt_of_le_of_lt li2 hb)) e3)⟩
      · subst h1
        have hb : h.objs.size = b := by simpa using hj
        subst hb
        exact ⟨xs[i], ys[i]'(by omega), by rw [hal]; exact hx, by rw [hal]; exact hy, up _ _ (Nat.ne_of_gt hSl) ht⟩
      · have hnone : (as ++ [h.objs.size])[j]? = none := List.getElem?_eq_none (by rw [List.length_append, List.length_singleton]; omega)
        rw [hnone] at hj; cases hj
    · have e : (h'.update S (Obj.mapSeq (·.push (Value.ref h.objs.size)))).get? h.objs.size = _ := up _ _ (Nat.ne_of_gt hSl) ht
      exact Nat.lt_trans hIs (Heap.lt_size e)
/-- list(z), z a zip of a list and a tuple of one length that was just made -/
theorem list_zip {z TI TO i1 i2 l1 l2 : Addr} {xs ys : Array Value} {Q : Value → Shared → Prop} (hh : A.handled = none) (D : ZipApart z TI TO i1 i2 l1 l2)
    (hz : IsZip s.heap z TI TO .none) (hTI : IsPair s.heap TI (.ref i1) (.ref i2)) (hTO : IsPair s.heap TO .none .none) (h1 : s.heap.IsListIter i1 l1 0) (h2 : s.heap.IsTupleIter i2 l2 0) (hl1 : s.heap.IsList l1 xs) (hl2 : s.heap.IsTuple l2 ys)
    (hxy : xs.size = ys.size) (hn : xs.size ≤ sizeLine)
    (hQ : ∀ (h' : Heap) (tk : Nat) (acc : Array Value) (c : Nat) (as : List Addr), (∀ b o, b ≠ z → b ≠ TO → b ≠ i1 → b ≠ i2 → s.heap.get? b = some o → h'.get? b = some o) → h'.get? s.heap.objs.size = some { cls := .type "list", dict := none, data := .seq acc c, slots := #[] } → as.length = xs.size →
      Gd xs ys s.heap.objs.size h' as → acc.toList = as.map Value.ref → Q (.ref s.heap.objs.size) { s with heap := h', toks := tk }) :
    wpAny (model prog w) A (call (.type "list") [.ref z]) Q E s := by
  have ltz := Heap.lt_size hz
  have ltTI := Heap.lt_size hTI
  have ltTO := Heap.lt_size hTO
  have lt1 : i1 < s.heap.objs.size := by obtain ⟨_, e, _⟩ := h1; exact Heap.lt_size e
  have lt2 : i2 < s.heap.objs.size := by obtain ⟨_, e, _⟩ := h2; exact Heap.lt_size e
  have ltl1 : l1 < s.heap.objs.size := by obtain ⟨_, e, _⟩ := hl1; exact Heap.lt_size e
  have ltl2 : l2 < s.heap.objs.size := by obtain ⟨_, e, _⟩ := hl2; exact Heap.lt_size e
  refine callType_codes (Q₁ := fun obj s₁ => obj = .ref s.heap.objs.size ∧ s₁ = { s with heap := s.heap.push { cls := .type "list", data := .seq #[] } }) PySem.F.called_list (PySem.F.typeCall_list_1 _) PySem.F.entry_list_init
    (code_list_new _ ⟨rfl, rfl⟩) fun obj s₁ h₁ => ?_
  obtain ⟨rfl, rfl⟩ := h₁
  have hS : (s.heap.push { cls := .type "list", data := .seq #[] }).get? s.heap.objs.size = some { cls := .type "list", data := .seq #[] } := Heap.get?_push_size _ rfl
  refine ⟨⟨_, hS, rfl⟩, PySem.F.args_list_init_2 _ _, ?_⟩
  show wpAny _ _ (do let old ← Builtin.List.listItems (.ref s.heap.objs.size); Builtin.List.listUpdate (.ref s.heap.objs.size) (fun _ => #[]); letGo old.toList.reverse; Builtin.List.listExtendWith (.ref s.heap.objs.size) (.ref z) .none) _ _ _
  refine wpAny_bind ?_
  unfold Builtin.List.listItems
  refine wpAny_bind (wpAny_seqItems hS rfl (wpAny_pure ?_))
  show wpAny _ _ (updateSeq s.heap.objs.size (fun _ => #[]) >>= fun _ => letGo (#[] : Array Value).toList.reverse >>= fun _ => Builtin.List.listExtendWith (.ref s.heap.objs.size) (.ref z) .none) _ _ _
  refine wpAny_bind (wpAny_updateSeq hS rfl ?_)
  have hS₂ := Heap.get?_update_self (Obj.mapSeq (fun _ => (#[] : Array Value))) hS rfl
  generalize hg : (s.heap.push { cls := .type "list", data := .seq #[] }).update s.heap.objs.size (Obj.mapSeq (fun _ => (#[] : Array Value))) = g at hS₂ ⊢
  have oth : ∀ b o, s.heap.get? b = some o → g.get? b = some o := fun b o e => by
    rw [← hg]
    exact (Heap.get?_update_other _ _ (Ne.symm (Nat.ne_of_lt (Heap.lt_size e)))).trans (Heap.get?_push_of_some _ e)
  refine wpAny_bind (wpAny_letGo ?_)
  unfold Builtin.List.listExtendWith
  have hTz : Shared.TypeIs { s with heap := g } (.ref z) "zip" := ⟨_, oth _ _ hz, rfl⟩
  refine wpAny_bind (wpAny_typeOf (T := "zip") hTz ?_)
  have q1 : Builtin.List.listSameRef (.ref s.heap.objs.size) (.ref z) = false := by simp [Builtin.List.listSameRef, Nat.ne_of_gt ltz]
  have q2 : (Value.type "zip" == Value.type "list") = false := by decide
  have q3 : (Value.type "zip" == Value.type "tuple") = false := by decide
  simp only [q1, q2, q3, Bool.or_false, Bool.false_eq_true, if_false]
  refine wpAny_bind (wpAny_pyIter_zip (s := { s with heap := g }) (oth _ _ hz) ?_)
  refine wpAny_bind (wpAny_holding (hint_zip (s := { s with heap := g }) hTz ?_))
  simp only [Bool.true_or, if_true]
  refine wpAny_bind (wpAny_rule ?_)
  refine wpAny_bind ?_
  show wpAny _ _ (updateSeq s.heap.objs.size (·.push .none) >>= fun _ => updateSeq s.heap.objs.size (·.pop)) _ _ _
  refine wpAny_bind (wpAny_updateSeq hS₂ rfl ?_)
  have hS₃ := Heap.get?_update_self (Obj.mapSeq (·.push Value.none)) hS₂ rfl
  refine wpAny_updateSeq (hz := by seq_fits) hS₃ rfl ?_
  have hS₄ := Heap.get?_update_self (Obj.mapSeq (·.pop)) hS₃ rfl
  have oth2 : ∀ b o, s.heap.get? b = some o → ((g.update s.heap.objs.size (Obj.mapSeq (·.push Value.none))).update s.heap.objs.size (Obj.mapSeq (·.pop))).get? b = some o := fun b o e =>
    (Heap.get?_update_other _ _ (Ne.symm (Nat.ne_of_lt (Heap.lt_size e)))).trans ((Heap.get?_update_other _ _ (Ne.symm (Nat.ne_of_lt (Heap.lt_size e)))).trans (oth b o e))
  refine wpAny_pure ⟨plainId_quiet PySem.F.plain_extend_loop _, ?_⟩
  refine zloop (s := s) (h₁ := s.heap) (lo := s.heap.objs.size) (xs := xs) (ys := ys) (A := A.in1) hh D (Nat.ne_of_lt ltz) (Nat.ne_of_lt ltTI) (Nat.ne_of_lt ltTO) (Nat.ne_of_lt lt1) (Nat.ne_of_lt lt2) (Nat.ne_of_lt ltl1) (Nat.ne_of_lt ltl2) (Nat.le_of_lt ltz) (Nat.le_of_lt ltTO) (Nat.le_of_lt lt1) (Nat.le_of_lt lt2) (Nat.le_refl _) hxy hn .none
    (fun h' tk acc c as hk hS' hl hG hacc => ⟨rfl, hQ h' tk acc c as (fun b o c1 c2 c3 c4 e => hk b o (Nat.ne_of_lt (Heap.lt_size e)) c1 c2 c3 c4 e) hS' hl hG hacc⟩)
    xs.size 0 _ _ _ #[] [] (Nat.sub_zero _) (Nat.zero_le _) ⟨.inl (oth2 _ _ hz), oth2 _ _ hTI, ⟨_, _, oth2 _ _ hTO⟩, h1.at fun o e => oth2 _ o e, h2.at fun o e => oth2 _ o e⟩ (hl1.at fun o e => oth2 _ o e) ?_ (fun b o _ _ _ _ _ e => oth2 b o e) hS₄ rfl rfl
    ⟨List.Pairwise.nil, (fun _ ha => nomatch ha), (fun j a hj => by simp at hj)⟩ (Heap.lt_size hS₄)
  obtain ⟨o2, e1, e2⟩ := hl2
  exact ⟨o2, oth2 _ _ e1, e2⟩
end
/-! ### the call zip(a list, a tuple) -/
abbrev zH1 (h : Heap) (l1 : Addr) : Heap := h.push { cls := .type "list_iterator", data := .fields #[.ref l1, .int 0 0] }
abbrev zH2 (h : Heap) (l1 l2 : Addr) : Heap := (zH1 h l1).push { cls := .type "tuple_iterator", data := .fields #[.ref l2, .int 0 0] }
abbrev zH3 (h : Heap) (l1 l2 : Addr) : Heap := (zH2 h l1 l2).push { cls := .type "tuple", data := .seq #[.ref h.objs.size, .ref (zH1 h l1).objs.size] }
abbrev zH4 (h : Heap) (l1 l2 : Addr) : Heap := (zH3 h l1 l2).push { cls := .type "tuple", data := .seq #[.none, .none] }
abbrev zH5 (h : Heap) (l1 l2 : Addr) : Heap := (zH4 h l1 l2).push { cls := .type "zip", data := .fields #[.none, .bool false, .bool false, .ref (zH2 h l1 l2).objs.size, .ref (zH3 h l1 l2).objs.size] }
theorem meets_zip_new (l1 l2 : Addr) (xs ys : Array Value) :
    Meets (Builtin.«zip.__new__» ⟨[.type "zip", .ref l1, .ref l2], []⟩) (fun _ R s => s.heap.IsList l1 xs ∧ s.heap.IsTuple l2 ys ∧
      R (.ok (.ret (.ref (zH4 s.heap l1 l2).objs.size))) { s with heap := zH5 s.heap l1 l2 }) :=
  .of_wp fun prog w A R s h => by
    obtain ⟨hp, g, d, tk, os⟩ := s; obtain ⟨hl1, hl2, h⟩ := h
    have hsub := sub_zip
    have hL1 : Heap.IsList (Shared.heap ⟨hp, g, d, tk, os⟩) l1 xs := hl1
    have hL2 : Heap.IsTuple (Shared.heap ⟨hp.push { cls := .type "list_iterator", data := .fields #[.ref l1, .int 0 0] }, g, d, tk, os⟩) l2 ys := Heap.IsTuple.push hl2 _
    wp_walk using wpAny_pyIter_list hL1, wpAny_pyIter_tuple hL2
    exact ⟨_, rfl, h⟩
section
variable {prog : Program} {w : World} {A : Around} {E : Value → Shared → Prop} {s : Shared}
theorem call_zip {l1 l2 : Addr} {xs ys : Array Value} {Q : Value → Shared → Prop} (hl1 : s.heap.IsList l1 xs) (hl2 : s.heap.IsTuple l2 ys)
    (h : ∀ (h' : Heap), IsZip h' (s.heap.objs.size + 4) (s.heap.objs.size + 2) (s.heap.objs.size + 3) .none → IsPair h' (s.heap.objs.size + 2) (.ref s.heap.objs.size) (.ref (s.heap.objs.size + 1)) →
      IsPair h' (s.heap.objs.size + 3) .none .none → h'.IsListIter s.heap.objs.size l1 0 → h'.IsTupleIter (s.heap.objs.size + 1) l2 0 → h'.objs.size = s.heap.objs.size + 5 →
      (∀ c o, s.heap.get? c = some o → h'.get? c = some o) → Q (.ref (s.heap.objs.size + 4)) { s with heap := h' }) :
    wpAny (model prog w) A (call (.type "zip") [.ref l1, .ref l2]) Q E s := by
  refine callType_new F.called_zip (by decide) (F.typeCall_zip_2 _ _) (F.newCall_zip_2 _ _) (fun obj => F.args_object_init_3 obj _ _) F.entry_zip_new
    (meets_zip_new l1 l2 xs ys) ⟨hl1, hl2, ?_⟩
  have z1 : (zH1 s.heap l1).objs.size = s.heap.objs.size + 1 := Heap.size_push ..
  have z2 : (zH2 s.heap l1 l2).objs.size = s.heap.objs.size + 2 := by rw [Heap.size_push, z1]
  have z3 : (zH3 s.heap l1 l2).objs.size = s.heap.objs.size + 3 := by rw [Heap.size_push, z2]
  have z4 : (zH4 s.heap l1 l2).objs.size = s.heap.objs.size + 4 := by rw [Heap.size_push, z3]
  have z5 : (zH5 s.heap l1 l2).objs.size = s.heap.objs.size + 5 := by rw [Heap.size_push, z4]
  have g5 : (zH5 s.heap l1 l2).get? (zH4 s.heap l1 l2).objs.size = some _ := Heap.get?_push_size _ rfl
  have g4 : (zH5 s.heap l1 l2).get? (zH3 s.heap l1 l2).objs.size = some _ := Heap.get?_push_of_some _ (Heap.get?_push_size _ rfl)
  have g3 : (zH5 s.heap l1 l2).get? (zH2 s.heap l1 l2).objs.size = some _ := Heap.get?_push_of_some _ (Heap.get?_push_of_some _ (Heap.get?_push_size _ rfl))
  have g2 : (zH5 s.heap l1 l2).get? (zH1 s.heap l1).objs.size = some _ := Heap.get?_push_of_some _ (Heap.get?_push_of_some _ (Heap.get?_push_of_some _ (Heap.get?_push_size _ rfl)))
  have g1 : (zH5 s.heap l1 l2).get? s.heap.objs.size = some _ := Heap.get?_push_of_some _ (Heap.get?_push_of_some _ (Heap.get?_push_of_some _ (Heap.get?_push_of_some _ (Heap.get?_push_size _ rfl))))
  show _ ∧ _
  rw [z2, z3, z4] at g5
  rw [z1, z2] at g3
  rw [z3] at g4
  rw [z1] at g2
  rw [z4]
  exact ⟨⟨_, g5, rfl⟩, h _ g5 g3 g4 ⟨_, g1, rfl, rfl⟩ ⟨_, g2, rfl, rfl⟩ z5 fun c o x =>
    Heap.get?_push_of_some _ (Heap.get?_push_of_some _ (Heap.get?_push_of_some _ (Heap.get?_push_of_some _ (Heap.get?_push_of_some _ x))))⟩
end
/-! ### as a rule of the layer -/
open PySem.Spec PyProof.Rows L2
/-- the tuples tracked at their addresses -/
def putP : Hp → List Addr → List (V × V) → Hp
  | H, a :: as, p :: kvs => putP (upd H a (.tup [p.1, p.2])) as kvs
  | H, _, _ => H
theorem putP_off {b : Addr} : ∀ (as : List Addr) (kvs : List (V × V)) (H : Hp), b ∉ as → putP H as kvs b = H b
  | [], _, _, _ => rfl
  | _ :: _, [], _, _ => rfl
  | a :: as, p :: kvs, H, h => by
    show putP (upd H a (.tup [p.1, p.2])) as kvs b = H b
    rw [putP_off as kvs _ (fun z => h (List.mem_cons_of_mem _ z)), upd_ne (fun z => h (by rw [z]; exact List.mem_cons_self))]
theorem putP_at : ∀ (as : List Addr) (kvs : List (V × V)) (H : Hp), as.length = kvs.length → as.Nodup → Paired (fun (t : Addr) (p : V × V) => putP H as kvs t = some (.tup [p.1, p.2])) as kvs
  | [], [], _, _, _ => .nil
  | [], _ :: _, _, h, _ => by cases h
  | _ :: _, [], _, h, _ => by cases h
  | a :: as, p :: kvs, H, h, hn => by
    have hn' := List.nodup_cons.mp hn
    have ih := putP_at as kvs (upd H a (.tup [p.1, p.2])) (Nat.succ.inj h) hn'.2
    refine .cons ?_ ih
    show putP (upd H a (.tup [p.1, p.2])) as kvs a = some (.tup [p.1, p.2])
    rw [putP_off as kvs _ hn'.1, upd_same]
theorem vals_refs : ∀ as : List Addr, Vals (as.map V.ref) (as.map Value.ref)
  | [] => .nil
  | _ :: as => .cons rfl (vals_refs as)
theorem paired_ix {α β : Type} {F : α → β → Prop} : ∀ {xs : List α} {ys : List β}, Paired F xs ys → ∀ {x : α}, x ∈ xs → ∃ (j : Nat) (y : β), xs[j]? = some x ∧ ys[j]? = some y ∧ F x y
  | _, _, .cons h t, x, hx => by
    rcases List.mem_cons.mp hx with e | hx
    · rw [e]
      exact ⟨0, _, rfl, rfl, h⟩
    · obtain ⟨j, y, e1, e2, e3⟩ := paired_ix t hx
      exact ⟨j + 1, y, e1, e2, e3⟩
def tListZip (K : PySem.W.Frag) (t : TA) : TE := fun σ H Q => t σ H fun vs H1 => ∃ (a b : Addr) (xs ys : List V), vs = [.ref a, .ref b] ∧ SqL K H1 a xs ∧ SqT K H1 b ys ∧ xs.length = ys.length ∧
  ∀ (H' : Hp) (p : Addr) (ts : List Addr), (∀ b o, H1 b = some o → H' b = some o) → H1 p = none → H' p = some (.lst (ts.map V.ref)) → Paired (fun (t : Addr) (q : V × V) => H' t = some (.tup [q.1, q.2])) ts (xs.zip ys) → Q (.ref p) H'
section
variable {X : Cx}
theorem zip_laid {pins : List (Addr × Obj)} {σ : L2.St} {H : Hp} {s : Shared} {h' : Heap} {tk : Nat} {xs ys : List V} {us ws : List Value} {acc : Array Value} {c : Nat} {as : List Addr} {lo : Addr} (I : Inv X pins σ H s) (hlo : s.heap.objs.size ≤ lo) (rx : Vals xs us) (ry : Vals ys ws) (hxy : xs.length = ys.length) (hz : xs.length ≤ sizeLine)
    (hk : ∀ b o, s.heap.get? b = some o → h'.get? b = some o) (hS : h'.get? lo = some { cls := .type "list", dict := none, data := .seq acc c, slots := #[] }) (hl : as.length = xs.length) (hG : Gd us.toArray ws.toArray lo h' as) (hacc : acc.toList = as.map Value.ref) :
    ∃ H' : Hp, (∀ b o, H b = some o → H' b = some o) ∧ H lo = none ∧ H' lo = some (.lst (as.map V.ref)) ∧ Paired (fun (t : Addr) (q : V × V) => H' t = some (.tup [q.1, q.2])) as (xs.zip ys) ∧ Inv X pins σ H' { s with heap := h', toks := tk } := by
  have hzl : (xs.zip ys).length = xs.length := by rw [List.length_zip]; omega
  have hSn : lo ∉ as := fun z => Nat.lt_irrefl _ (hG.above _ z)
  have nd : as.Nodup := List.Pairwise.imp (fun {a b} (h : a < b) => Nat.ne_of_lt h) hG.rise
  have new : ∀ t ∈ as, H t = none := fun t ht => I.hok.fresh (Nat.le_trans hlo (Nat.le_of_lt (hG.above t ht)))
  have newS : H lo = none := I.hok.fresh hlo
  have atP := putP_at as (xs.zip ys) (upd H lo (.lst (as.map V.ref))) (by omega) nd
  have off : ∀ b, b ∉ as → b ≠ lo → putP (upd H lo (.lst (as.map V.ref))) as (xs.zip ys) b = H b := fun b h1 h2 => by rw [putP_off as _ _ h1, upd_ne h2]
  have low : ∀ b o, s.heap.get? b = some o → b ∉ as ∧ b ≠ lo := fun b o e => ⟨fun z => absurd (Nat.lt_of_lt_of_le (Heap.lt_size e) hlo) (Nat.not_lt.mpr (Nat.le_of_lt (hG.above b z))), Nat.ne_of_lt (Nat.lt_of_lt_of_le (Heap.lt_size e) hlo)⟩
  have kp : ∀ b u, H b = some u → (putP (upd H lo (.lst (as.map V.ref))) as (xs.zip ys)) b = some u := fun b u e => by
    rw [off b (fun z => by rw [new b z] at e; cases e) (fun z => by rw [z, newS] at e; cases e)]
    exact e
  have eS : putP (upd H lo (.lst (as.map V.ref))) as (xs.zip ys) lo = some (.lst (as.map V.ref)) := by rw [putP_off as _ _ hSn, upd_same]
  refine ⟨putP (upd H lo (.lst (as.map V.ref))) as (xs.zip ys), kp, newS, eS, atP, ?_⟩
  refine I.call' (ch := []) rfl ⟨fun b o q _ _ _ => hk b o q, fun b o q _ _ _ => ⟨o.slots, hk b o q⟩, fun b o q n _ => ?_, fun b o q _ => ⟨o, hk b o q⟩, fun b xs q => kp b _ q, fun b o u q => kp b _ q, fun b ps q => ⟨#[], by rw [kp b _ q]; simp⟩⟩ (fun b u q => ?_) I.bare fun b z => by simp at z
  · obtain ⟨z1, z2⟩ := low b o q
    rw [off b z1 z2]
    exact n
  · by_cases hb : b ∈ as
    · obtain ⟨j, pk, e1, e2, e3⟩ := paired_ix atP hb
      rw [e3] at q
      cases q
      obtain ⟨x', y', f1, f2, f3⟩ := hG.pairs j b e1
      obtain ⟨g1, g2⟩ := List.getElem?_zip_eq_some.mp (show (xs.zip ys)[j]? = some (pk.1, pk.2) from e2)
      obtain ⟨u1, k1, k2⟩ := rx.get g1
      obtain ⟨u2, k3, k4⟩ := ry.get g2
      have f1' : us[j]? = some x' := by simpa using f1
      have f2' : ws[j]? = some y' := by simpa using f2
      rw [k1] at f1'
      rw [k3] at f2'
      cases f1'
      cases f2'
      exact ⟨by show 2 ≤ sizeLine; decide, [x', y'], .cons k2 (.cons k4 .nil), ⟨_, f3, rfl, _, rfl⟩⟩
    · by_cases hb2 : b = lo
      · rw [hb2] at q ⊢
        rw [eS] at q
        cases q
        refine ⟨by rw [List.length_map]; omega, acc.toList, c, by rw [hacc]; exact vals_refs as, ?_⟩
        rw [Array.toArray_toList]
        exact hS
      · rw [off b hb hb2] at q
        exact (I.hok b u q).stay (fun d v _ y => hk d v y) (fun d y => kp d _ y) fun d xs y => kp d _ y
/-- list(zip(e, e2)), e a list, e2 a tuple of as many -/
theorem pe_listZip {e e2 : Expr} {t : TA} {p p2 pos pos2 : Pos} (hc : X.calm = true) (hg : Gl X "list") (hm : X.mg "list" = none) (hg2 : Gl X "zip") (hm2 : X.mg "zip" = none) (ha : PA X [e, e2] t)
    (hs : starEach [e, e2] X.env = (false, eval e X.env) :: starEach [e2] X.env := by rfl) (hpl : (backTo pos2 (starEach [e2] X.env)).any (·.1) = false := by rfl)
    (hst : starEach [.Call (.Name "zip" p2) [e, e2] [] pos2] X.env = (false, eval (.Call (.Name "zip" p2) [e, e2] [] pos2) X.env) :: starEach [] X.env := by rfl) :
    PE X (.Call (.Name "list" p) [.Call (.Name "zip" p2) [e, e2] [] pos2] [] pos) (tListZip X.K t) := by
  refine ⟨fun pins s σ H Q I hq => ?_⟩
  refine wpAny_Call_Name_kw (ld_blt I hg hm boot_list ?_)
  refine PyProof.Rows.callWith_type1 ?_ hst rfl
  rw [hst]
  show wpAny _ _ (spliced ((false, eval (.Call (.Name "zip" p2) [e, e2] [] pos2) X.env) :: backTo pos (starEach [] X.env))) _ _ s
  refine Calls.spliced_cons ?_
  refine Call_ (ld_blt I hg2 hm2 PyProof.Rows.boot_zip (PyProof.Rows.callWith_type1 (thn (ha.run pos2 pins s σ H _ I hq) fun us s1 ⟨vs, H1, I1, r1, q1⟩ => ?_) hs hpl))
  obtain ⟨a, b, xs, ys, ex, hqx, hqy, hxy, q⟩ := q1
  subst ex
  cases r1 with
  | cons r rr =>
    cases rr with
    | cons r' rr =>
      cases rr
      cases r
      cases r'
      obtain ⟨its, rv, p1, z1⟩ := I1.list hqx
      obtain ⟨its2, rv2, p2', _⟩ := I1.tuple hqy
      obtain ⟨o2, ho2, hc2⟩ := id p2'
      have l1 := rv.length
      have l2 := rv2.length
      refine call_zip p1.isList (show s1.heap.IsTuple b its2.toArray from p2') fun h' hz hTI hTO h1 h2 hsz hk => Calls.spliced_nil ?_
      have D := PySem.W.ktu_apart s1.heap.objs.size a b p1.lt (Heap.lt_size ho2)
      refine list_zip (s := { s1 with heap := h' }) (xs := its.toArray) (ys := its2.toArray) (I1.ok.hd hc) D hz hTI hTO h1 h2 (p1.isList.at fun o e => hk _ o e) ⟨o2, hk _ _ ho2, hc2⟩ (by simp; omega) (by simp; omega) fun h'' tk acc c as hk2 hS hl hG hacc => ?_
      obtain ⟨H', k1, k2, k3, k4, J⟩ := zip_laid (tk := tk) (lo := h'.objs.size) I1 (by omega) rv rv2 hxy (by omega) (fun b o e => hk2 b o (Nat.ne_of_lt (Nat.lt_of_lt_of_le (Heap.lt_size e) (Nat.le_add_right _ _))) (Nat.ne_of_lt (Nat.lt_of_lt_of_le (Heap.lt_size e) (Nat.le_add_right _ _))) (Nat.ne_of_lt (Heap.lt_size e)) (Nat.ne_of_lt (Nat.lt_of_lt_of_le (Heap.lt_size e) (Nat.le_add_right _ _))) (hk b o e)) hS (by rw [hl]; simp; omega) hG hacc
      exact ⟨.ref h'.objs.size, H', J, rfl, q H' _ as k1 k2 k3 k4⟩
end
end Wz
namespace Wc
open PySem PySem.Spec PyProof.Rows L2 LamX NdefX
/-! ### an object known exactly; made known, forgotten -/
def ObjO (c : Addr) (o : Obj) : HO := .ext fun h => h.get? c = some o
theorem objO_ne {c : Addr} {o : Obj} {u : HO} (h : ∀ φ, u ≠ .ext φ) : ObjO c o ≠ u := fun z => h _ z.symm
theorem objO_ok {P : Program} {w : World} {H : Hp} {h : Heap} {c : Addr} {o : Obj} (e : h.get? c = some o) : ObjOk P w H h c (ObjO c o) := ⟨e, ⟨o, e⟩, fun _ _ x k => k _ x⟩
def drop (H : Hp) (c : Addr) : Hp := fun b => if b = c then none else H b
theorem drop_same {H : Hp} {c : Addr} : drop H c c = none := by unfold drop; rw [if_pos rfl]
theorem drop_ne {H : Hp} {b c : Addr} (h : b ≠ c) : drop H c b = H b := by unfold drop; rw [if_neg h]
theorem of_drop {H : Hp} {b c : Addr} {o : HO} (h : drop H c b = some o) : b ≠ c ∧ H b = some o := by
  unfold drop at h
  by_cases e : b = c
  · rw [if_pos e] at h; cases h
  · rw [if_neg e] at h; exact ⟨e, h⟩
section
variable {P : Program} {w : World} {K : PySem.W.Frag} {mg : Str → Option Value} {base : Heap} {A : Around} {outer : List Env} {s s' : Shared} {H : Hp} {c : Addr} {o : Obj}
theorem env0_track (e : Env0 P w K mg base A outer s H) (hn : H c = none) (ho : s.heap.get? c = some o) (hf : c ∉ frs outer) (hb : base.get? c = none) : Env0 P w K mg base A outer s (upd H c (ObjO c o)) := by
  refine ⟨e.frames, e.mod, fun b ob q => ?_, e.bsz, e.funs, fun b hb' => ?_, fun b u q => ?_, e.bare⟩
  · have hbc : b ≠ c := fun z => by rw [z, hb] at q; cases q
    rw [upd_ne hbc]
    exact e.bs b ob q
  · rw [upd_ne (fun z => hf (by rw [← z]; exact hb'))]
    exact e.frf b hb'
  · by_cases hbc : b = c
    · subst hbc
      rw [upd_same] at q
      cases q
      exact objO_ok ho
    · rw [upd_ne hbc] at q
      exact (e.hok b u q).stay (fun d v _ x => x) (fun d x => by rw [upd_ne (ne_of_none x hn)]; exact x) fun d xs x => by rw [upd_ne (ne_of_none x hn)]; exact x
theorem env0_drop (e : Env0 P w K mg base A outer s H) (hc : H c = some (ObjO c o)) : Env0 P w K mg base A outer s (drop H c) := by
  refine ⟨e.frames, e.mod, fun b ob q => ⟨(e.bs b ob q).1, ?_⟩, e.bsz, e.funs, fun b hb' => ?_, fun b u q => ?_, e.bare⟩
  · by_cases hbc : b = c
    · rw [hbc, drop_same]
    · rw [drop_ne hbc]
      exact (e.bs b ob q).2
  · by_cases hbc : b = c
    · rw [hbc, drop_same]
    · rw [drop_ne hbc]
      exact e.frf b hb'
  · obtain ⟨hbc, q⟩ := of_drop q
    exact (e.hok b u q).stay (fun d v _ x => x) (fun d x => by rw [drop_ne (ne_of x hc (fun z => objO_ne (fun φ => by intro y; cases y) z.symm))]; exact x) fun d xs x => by rw [drop_ne (ne_of x hc (fun z => objO_ne (fun φ => by intro y; cases y) z.symm))]; exact x
theorem ce_track {Q : VK} {u : Value} (hn : H c = none) (h : CE outer P w (upd H c (ObjO c o)) s (fun r H2 => H2 c = some (ObjO c o) ∧ Q r (drop H2 c)) u s') (ho : s.heap.get? c = some o) : CE outer P w H s Q u s' := by
  obtain ⟨v, H', os, bare, un, hok, r, hc, q⟩ := h
  have oc : s'.heap.get? c = some o := (hok c _ hc).1
  have nz : ∀ b u, H b = some u → b ≠ c := fun b u e => ne_of_none e hn
  refine ⟨v, drop H' c, os, bare, ⟨fun b ob e n hb hx => ?_, fun b ob e n hb hx => ?_, fun b ob e n hx => ?_, un.there, fun b xs e => ?_, fun b ob xs e => ?_, fun b ps e => ?_⟩, fun b u e => ?_, r, q⟩
  · by_cases hbc : b = c
    · subst hbc
      rw [ho] at e
      cases e
      exact oc
    · exact un.keep b ob e (by rw [upd_ne hbc]; exact n) hb hx
  · by_cases hbc : b = c
    · subst hbc
      rw [ho] at e
      cases e
      exact ⟨o.slots, oc⟩
    · exact un.slot b ob e (by rw [upd_ne hbc]; exact n) hb hx
  · by_cases hbc : b = c
    · rw [hbc, drop_same]
    · rw [drop_ne hbc]
      exact un.free b ob e (by rw [upd_ne hbc]; exact n) hx
  · rw [drop_ne (nz b _ e)]
    exact un.tups b xs (by rw [upd_ne (nz b _ e)]; exact e)
  · rw [drop_ne (nz b _ e)]
    exact un.frzs b ob xs (by rw [upd_ne (nz b _ e)]; exact e)
  · rw [drop_ne (nz b _ e)]
    exact un.tbls b ps (by rw [upd_ne (nz b _ e)]; exact e)
  · obtain ⟨hbc, e⟩ := of_drop e
    exact (hok b u e).stay (fun d v _ x => x) (fun d x => by rw [drop_ne (ne_of x hc (fun z => objO_ne (fun φ => by intro y; cases y) z.symm))]; exact x) fun d xs x => by rw [drop_ne (ne_of x hc (fun z => objO_ne (fun φ => by intro y; cases y) z.symm))]; exact x
theorem ce_drop {Q : VK} {u : Value} (hc : H c = some (ObjO c o)) (ho : s.heap.get? c = some o) (hf : c ∉ frs outer) (h : CE outer P w (drop H c) s (fun r H2 => H2 c = none → Q r (upd H2 c (ObjO c o))) u s') : CE outer P w H s Q u s' := by
  obtain ⟨v, H', os, bare, un, hok, r, q⟩ := h
  have oc : s'.heap.get? c = some o := un.keep c o ho drop_same hf (by simp)
  have nc : H' c = none := un.free c o ho drop_same (by simp)
  have nz : ∀ b u, H b = some u → (∀ φ, u ≠ .ext φ) → b ≠ c := fun b u e n => ne_of e hc (fun z => n _ z)
  have nn : ∀ b, H b = none → b ≠ c := fun b n z => by rw [z, hc] at n; cases n
  refine ⟨v, upd H' c (ObjO c o), os, bare, ⟨fun b ob e n hb hx => ?_, fun b ob e n hb hx => ?_, fun b ob e n hx => ?_, un.there, fun b xs e => ?_, fun b ob xs e => ?_, fun b ps e => ?_⟩, fun b u e => ?_, r, q nc⟩
  · exact un.keep b ob e (by rw [drop_ne (nn b n)]; exact n) hb hx
  · exact un.slot b ob e (by rw [drop_ne (nn b n)]; exact n) hb hx
  · rw [upd_ne (nn b n)]
    exact un.free b ob e (by rw [drop_ne (nn b n)]; exact n) hx
  · have hbc := nz b _ e (fun φ => by intro y; cases y)
    rw [upd_ne hbc]
    exact un.tups b xs (by rw [drop_ne hbc]; exact e)
  · have hbc := nz b _ e (fun φ => by intro y; cases y)
    rw [upd_ne hbc]
    exact un.frzs b ob xs (by rw [drop_ne hbc]; exact e)
  · have hbc := nz b _ e (fun φ => by intro y; cases y)
    rw [upd_ne hbc]
    exact un.tbls b ps (by rw [drop_ne hbc]; exact e)
  · by_cases hbc : b = c
    · subst hbc
      rw [upd_same] at e
      cases e
      exact objO_ok oc
    · rw [upd_ne hbc] at e
      exact (hok b u e).stay (fun d v _ x => x) (fun d x => by rw [upd_ne (ne_of_none x nc)]; exact x) fun d xs x => by rw [upd_ne (ne_of_none x nc)]; exact x
end
/-! ### a function with one captured name is called -/
theorem cellsAt1 {y : Str} {c : Addr} {o : Obj} {u : Value} {v : V} {h : Heap} {H : Hp} (hn : H c = none) (ho : h.get? c = some o) (hd : o.data = .cell (some u)) (r : RelV v u) : CellsAt [(y, c)] [y] [some v] h H := by
  have one : ∀ z c', List.lookup z [(y, c)] = some c' → z = y ∧ c' = c := fun z c' e => by
    rw [List.lookup_cons] at e
    cases hz : z == y with
    | true => rw [hz] at e; exact ⟨beq_iff_eq.mp hz, (Option.some.inj e).symm⟩
    | false => rw [hz] at e; cases e
  refine ⟨rfl, fun z c' e => ?_, fun z z' c' e1 e2 => (one z c' e1).1.trans (one z' c' e2).1.symm, fun i z e => ?_⟩
  · rw [(one z c' e).2]
    exact ⟨hn, some u, o, ho, hd⟩
  · cases i with
    | zero =>
      have ez : y = z := by simpa using e
      subst ez
      refine ⟨c, by rw [List.lookup_cons, beq_self_eq_true], fun v' ev => ?_⟩
      have : v = v' := by simpa using ev
      subst this
      exact ⟨u, r, o, ho, hd⟩
    | succ i => simp at e
section
variable {X : Cx} {pins : List (Addr × Obj)} {σ : L2.St} {H : Hp} {s : Shared}
theorem run_clo {Q : VK} {f c : Addr} {F : NF} {y : Str} {o : Obj} {u : Value} {v : V} {k : Nat} {ps : List Str} {sp : List (Option V) → Sp} {us : List Value} {vs : List V} (Fn : NOk X.prog X.w X.K X.mg X.base CX0 k f F ps [y] sp) (hcl : F.cl = [(y, c)]) (hr : Room k X.A) (I : Inv X pins σ H s)
    (hf : H f = some (FnO f F)) (hcd : H F.c = some (CodeO F.c F.qual)) (hc : H c = some (ObjO c o)) (hd : o.data = .cell (some u)) (rv : RelV v u) (r : Vals vs us) (q : sp [some v] vs (drop H c) (fun r H2 => H2 c = none → Q r (upd H2 c (ObjO c o))) E0) :
    wpAny (model X.prog X.w) X.A (call (.ref f) us) (EP X pins σ Q) X.xe s := by
  have ho : s.heap.get? c = some o := (I.hok c _ hc).1
  have nf : f ≠ c := fun z => by
    obtain ⟨od, sl, doc, pm, ctv, e⟩ := fnO_at I.hok hf
    rw [z, ho] at e
    rw [Option.some.inj e] at hd
    cases hd
  have ncd : F.c ≠ c := fun z => by
    obtain ⟨oc, vs', t, h1, h2, _⟩ := (I.hok F.c _ hcd).1
    rw [z, ho] at h1
    rw [Option.some.inj h1, h2] at hd
    cases hd
  have hfr : c ∉ frs X.stack := fun z => by
    have := I.stkFree c z
    rw [hc] at this
    cases this
  have e0 := env0_drop I.env0 hc
  refine wpAny_call (codeAny_mono (Fn.run X.A X.stack s (drop H c) us vs [some v] _ E0 hr e0 (by rw [drop_ne nf]; exact hf) (by rw [drop_ne ncd]; exact hcd) (by rw [hcl]; exact cellsAt1 drop_same ho hd rv) r q) fun r s' hq => ?_)
  cases r with
  | error e => exact False.elim hq
  | ok fl =>
    cases fl with
    | ret u' => exact I.after (ce_drop hc ho hfr hq)
    | next => exact False.elim hq
    | brk => exact False.elim hq
    | cont => exact False.elim hq
/-- f(e, ..), f a name that holds a function of the form mk c c', its one captured cell c known -/
def tClo (mk : Addr → Addr → NF) (i : Nat) (sp : List (Option V) → Sp) (t : TA) : TE := fun σ H Q => ∃ (f c c' : Addr) (o : Obj) (u : Value) (v : V), σ[i]? = some (some (.ref f)) ∧ o.data = .cell (some u) ∧ RelV v u ∧ H f = some (FnO f (mk c c')) ∧
  t σ H fun vs H1 => H1 f = some (FnO f (mk c c')) ∧ H1 (mk c c').c = some (CodeO (mk c c').c (mk c c').qual) ∧ H1 c = some (ObjO c o) ∧ sp [some v] vs (drop H1 c) (fun r H2 => H2 c = none → Q r (upd H2 c (ObjO c o))) E0
theorem pe_clo {mk : Addr → Addr → NF} {k i : Nat} {x y : Str} {ps : List Str} {sp : List (Option V) → Sp} {e : Expr} {es : List Expr} {t : TA} {p pos : Pos} (Fn : ∀ f c c', NOk X.prog X.w X.K X.mg X.base CX0 k f (mk c c') ps [y] sp) (hcl : ∀ c c', (mk c c').cl = [(y, c)]) (hr : Room k X.A) (hN : X.N[i]? = some x) (hv : Vis X.env.scope x) (ha : PA X (e :: es) t)
    (hd : (x == ("__debug__" : Str)) = false := by decide) (hcd : (x == ("__classdict__" : Str)) = false := by decide)
    (he : starEach (e :: es) X.env = (false, eval e X.env) :: starEach es X.env := by rfl) (hpl : (backTo pos (starEach es X.env)).any (·.1) = false := by rfl) :
    PE X (.Call (.Name x p) (e :: es) [] pos) (tClo mk i sp t) := by
  refine ⟨fun pins s σ H Q I h => ?_⟩
  obtain ⟨f, c, c', o, u, v, hs, hod, rv, hf, ht⟩ := h
  refine wpAny_Call_Name_kw (thn ((pe_var (pos := p) hN hv hd hcd).run pins s σ H (fun v H1 => v = .ref f ∧ H1 = H) I ⟨.ref f, hs, rfl, rfl⟩) fun w' s1 ⟨v1, H1, I1, r1, q1⟩ => ?_)
  obtain ⟨ev, eH⟩ := q1
  subst ev
  rw [eH] at I1
  obtain rfl : w' = Value.ref f := r1
  refine PySem.W.callWith_F (first := []) (fnAt_of I1 hf) (thn (ha.run pos pins s1 σ H _ I1 ht) fun us s2 ⟨vs, H2, I2, r, h1, h2, h3, q⟩ => ⟨fnAt_of I2 h1, ?_⟩) he hpl
  exact run_clo (Fn f c c') (hcl c c') hr I2 h1 h2 h3 hod rv r q
/-- a def is called; the running frame's cell of the name y, at slot i, is known to the callee -/
def tCallC (X : Cx) (y : Str) (i : Nat) (sp : Sp) (t : TA) : TE := fun σ H Q => ∃ v, σ[i]? = some (some v) ∧ t σ H fun vs H1 => ∀ (c : Addr) (o : Obj) (u : Value), X.env.cells.lookup y = some c → o.data = .cell (some u) → RelV v u → H1 c = none →
  sp vs (upd H1 c (ObjO c o)) (fun r H2 => H2 c = some (ObjO c o) ∧ Q r (drop H2 c)) E0
theorem pe_callC {k i : Nat} {f : Addr} {fd : FuncData} {ps : List Str} {sp : Sp} {x y : Str} {e : Expr} {es : List Expr} {t : TA} {p pos : Pos} (F : FnOk X.prog X.w X.K X.mg X.base CX0 k f fd ps sp) (hr : Room k X.A) (hg : Gl X x) (hm : X.mg x = some (.ref f)) (hk : PySem.W.keepIn X.K (.ref f) = true) (hb : Binds X.K fd ps [])
    (hN : X.N[i]? = some y) (hy : X.env.scope.names.lookup y = some .cell) (hfn : X.fn y = true) (hst : X.stack = X.env :: X.outer) (hfl : X.env.frame = some X.env.locals) (ha : PA X (e :: es) t)
    (hdb : (x == ("__debug__" : Str)) = false := by decide) (he : starEach (e :: es) X.env = (false, eval e X.env) :: starEach es X.env := by rfl) (hpl : (backTo pos (starEach es X.env)).any (·.1) = false := by rfl) :
    PE X (.Call (.Name x p) (e :: es) [] pos) (tCallC X y i sp t) := by
  refine ⟨fun pins s σ H Q I h => ?_⟩
  obtain ⟨v, hσ, h⟩ := h
  refine wpAny_Call_Name_kw (ld_glob I hg hm ?_ hdb)
  refine PySem.W.callWith_K (h₀ := X.base) I.ok.mod.kin hk (thn (ha.run pos pins s σ H _ I h) fun us s1 ⟨vs, H1, I1, r, q⟩ => ⟨I1.kIn, ?_⟩) he hpl
  obtain ⟨m, hn, hl⟩ := I1.loc
  obtain ⟨u, rv, lk⟩ := hl i y v hN hσ (.inr (.inl hy))
  rcases lk with ⟨z, _⟩ | ⟨_, c, hc, o, ho, hod⟩
  · have z' : X.env.scope.names.lookup y = some .local := z
    rw [hy] at z'
    cases z'
  · have hfree : H1 c = none := I1.freeC y c hc
    have hab := I1.ok.cab y c hfn hc
    have hfr : c ∉ frs X.stack := fun z => by
      rcases List.mem_cons.mp (I1.stkSub c z) with e | e
      · exact I1.cne y c hc e
      · obtain ⟨_, o', ho', _⟩ := I1.ok.funs.mem e
        exact absurd (Nat.lt_of_lt_of_le (Heap.lt_size ho') hab) (Nat.lt_irrefl _)
    have hbn : X.base.get? c = none := Heap.get?_none_of_le (Nat.le_trans I1.ok.bsz hab)
    have q' := q c o u hc hod rv hfree
    have e0 := env0_track I1.env0 hfree ho hfr hbn
    have r2 : Vals (vs ++ []) (us ++ []) := r.append .nil
    rw [List.append_nil, List.append_nil] at r2
    have hlen : us.length = ps.length := by rw [← r2.length]; exact F.len _ _ _ _ q'
    have hB := hb s1 us I1.kIn (by rw [List.append_nil]; exact hlen)
    rw [List.append_nil] at hB
    refine wpAny_call (codeAny_mono (F.run X.A X.stack s1 (upd H1 c (ObjO c o)) ⟨us, []⟩ us vs _ E0 hr e0 hB r2 q') fun r s' hq => ?_)
    cases r with
    | error e => exact False.elim hq
    | ok fl =>
      cases fl with
      | ret u' => exact I1.after (ce_track hfree hq ho)
      | next => exact False.elim hq
      | brk => exact False.elim hq
      | cont => exact False.elim hq
end
/-! ### lambdas -/
structure LF where
  qual : Str
  params : Arguments
  body : Expr
  scope : Scope
  cl : List (Str × Addr)
  c : Addr
abbrev LF.fd (F : LF) (pm ctv : Value) : FuncData := PySem.W.kla_fn "<lambda>" F.qual F.params F.body F.scope F.cl pm (.ref F.c) ctv
def LamO (f : Addr) (F : LF) : HO := .ext fun h => ∃ (od : Option Addr) (sl : Array (Option Value)) (pm ctv : Value), h.get? f = some (⟨.type "function", od, .func (F.fd pm ctv), sl⟩ : Obj)
theorem lamO_at {P : Program} {w : World} {H : Hp} {h : Heap} {f : Addr} {F : LF} (hok : HOk P w H h) (e : H f = some (LamO f F)) : ∃ (od : Option Addr) (sl : Array (Option Value)) (pm ctv : Value), h.get? f = some (⟨.type "function", od, .func (F.fd pm ctv), sl⟩ : Obj) := by
  obtain ⟨z, _, _⟩ := hok f _ e
  exact z
section
variable {X : Cx} {pins : List (Addr × Obj)} {σ : L2.St} {H : Hp} {s : Shared}
theorem inv_lam {F : LF} {h' : Heap} {t' : Nat} {pm ctv : Value} (I : Inv X pins σ H { s with heap := h', toks := t' }) :
    Inv X pins σ (upd H h'.objs.size (LamO h'.objs.size F)) { s with heap := h'.push { cls := .type "function", data := .func (F.fd pm ctv) }, toks := t' } := by
  refine I.laid (a := h'.objs.size) (t' := t') (fun b u e => Heap.get?_push_of_some _ e) (Nat.le_refl _) ?_
  have e : (h'.push ({ cls := .type "function", data := .func (F.fd pm ctv) } : Obj)).get? h'.objs.size = some ({ cls := .type "function", data := .func (F.fd pm ctv) } : Obj) := Heap.get?_push_size _ rfl
  exact ⟨⟨_, _, pm, ctv, e⟩, ⟨_, e⟩, fun h1 h2 ⟨od, sl, p, t, z⟩ st => ⟨od, sl, p, t, st _ z⟩⟩
/-- a lambda is made: its code object is new, or found in the table; the function is known from now on -/
theorem lam_make {T : List (Addr × Str)} {c P : Addr} {params : Arguments} {body : Expr} {scope : Scope} {pos : Pos} {E : Value → Shared → Prop} {Q : Value → Shared → Prop} (I : Inv X pins σ H s) (TB : TabB X.base X.mg c P) (hcode : X.env.code = .ref c)
    (hm : (P, X.env.qual ++ "<lambda>") ∈ T) (hu : ∀ p ∈ T, p.1 = P → p.2 = X.env.qual ++ "<lambda>") (hT : Tabs T H) (hdef : defaultsOf params X.env = ([], [])) (hfree : ∀ y ∈ scope.names, y.2 = .free → ∃ c, X.env.cells.lookup y.1 = some c)
    (h : ∀ (f c' : Addr) (H1 : Hp) (s' : Shared), Inv X pins σ H1 s' → ExtN H H1 → Tabs T H1 → H f = none → H1 f = some (LamO f ⟨X.env.qual ++ "<lambda>", params, body, scope, cloFrom X.env.cells scope.names [], c'⟩) → H1 c' = some (CodeO c' (X.env.qual ++ "<lambda>")) → Q (.ref f) s') :
    wpAny (model X.prog X.w) X.A (eval (.Lambda params body scope pos) X.env) Q E s := by
  obtain ⟨ps, hP, ht, ha⟩ := hT _ hm
  refine PySem.W.kla_eval hdef ?_
  have bP : s.heap.BuiltinsAt X.mg P := TB.bm.keeps I.bk
  have hP' : s.heap.get? P = some { cls := .none, data := .fields ps } := I.hok P _ hP
  have fin : ∀ (H1 : Hp) (h' : Heap) (tk : Nat) (c' : Addr) (ctv : Value), Inv X pins σ H1 { s with heap := h', toks := tk } → s.heap.objs.size ≤ h'.objs.size → ExtN H H1 → Tabs T H1 → H1 c' = some (CodeO c' (X.env.qual ++ "<lambda>")) →
      Q (.ref h'.objs.size) { s with heap := h'.push (PySem.W.kla_obj "<lambda>" (X.env.qual ++ "<lambda>") params body scope (cloFrom X.env.cells scope.names []) ((X.mg "__name__").getD .none) c' ctv), toks := tk } := by
    intro H1 h' tk c' ctv J hsz eN T1 hc'
    have nF : H1 h'.objs.size = none := J.hok.fresh (Nat.le_refl _)
    have J2 := inv_lam (F := ⟨X.env.qual ++ "<lambda>", params, body, scope, cloFrom X.env.cells scope.names [], c'⟩) (pm := (X.mg "__name__").getD .none) (ctv := ctv) J
    refine h h'.objs.size c' _ _ J2 (fun b u e n => ?_) (fun p hp => (T1 p hp).ext fun b u e => ?_) (I.hok.fresh hsz) upd_same ?_
    · have e1 := eN b u e n
      rw [upd_ne (ne_of_none e1 nF)]
      exact e1
    · rw [upd_ne (ne_of_none e nF)]
      exact e
    · rw [upd_ne (ne_of_none hc' nF)]
      exact hc'
  cases hc : codeAmong pos ps.toList with
  | none =>
    refine PySem.W.kla_makeFunction (mg := X.mg) (c := c) (P := P) (ps := ps) (closure_ok hfree) I.ok.glob (I.mod.glob.keeps I.bk) hcode (TB.code.keeps I.bk) hP' ht hc TB.gP bP fun c' ctv h' tk hx hge hlt hrec htb => ?_
    obtain ⟨c2, oc, vs, t, e2, hoc, hd, hv⟩ := hrec
    cases e2
    have nC : H c' = none := I.hok.fresh hge
    have J := inv_table (t' := tk) (more := #[rawInt pos.line, rawInt pos.col, .ref c']) (h' := h') I hP (fun b o hb e => hx b o hb e) htb hge ⟨oc, vs, t, hoc, hd, hv⟩
    have hE : ExtN H (upd (upd H P (.tbl (ps ++ #[rawInt pos.line, rawInt pos.col, .ref c']))) c' (CodeO c' (X.env.qual ++ "<lambda>"))) := fun b o e n => by
      rw [upd_ne (ne_of_none e nC), upd_ne (fun z => n ps (Option.some.inj (e.symm.trans (by rw [z]; exact hP))))]
      exact e
    have eL : (ps ++ #[rawInt pos.line, rawInt pos.col, .ref c']).toList = ps.toList ++ [rawInt pos.line, rawInt pos.col, .ref c'] := by simp
    refine fin _ h' tk c' ctv J (Nat.le_trans hge (Nat.le_of_lt hlt)) hE (fun p hp => ?_) upd_same
    by_cases hb : p.1 = P
    · rw [hu p hp hb, hb]
      refine ⟨_, by rw [upd_ne (ne_of_none hP nC), upd_same], by rw [eL]; exact PySem.TriplesOk_snoc _ _ _ _ ht, fun p' cv hcv => ?_⟩
      rw [eL] at hcv
      rcases among_app _ ht hcv with z | z
      · obtain ⟨c0, e1, e2⟩ := ha p' cv z
        exact ⟨c0, e1, hE _ _ e2 codeO_ne⟩
      · exact ⟨c', z, upd_same⟩
    · obtain ⟨ps', a1, a2, a3⟩ := hT p hp
      refine ⟨ps', by rw [upd_ne (ne_of_none a1 nC), upd_ne hb]; exact a1, a2, fun p' cv hcv => ?_⟩
      obtain ⟨c0, e1, e2⟩ := a3 p' cv hcv
      exact ⟨c0, e1, hE _ _ e2 codeO_ne⟩
  | some cv =>
    obtain ⟨c', e, hco⟩ := ha pos cv hc
    subst e
    refine PySem.W.kla_makeFunctionHit (mg := X.mg) (c := c) (P := P) (ps := ps) (closure_ok hfree) I.ok.glob (I.mod.glob.keeps I.bk) hcode (TB.code.keeps I.bk) hP' ht hc bP fun ctv h' tk hx hsz => ?_
    exact fin H h' tk c' ctv (I.kept hx) hsz (ExtN.refl H) hT hco
end
abbrev envL (F : LF) (f L : Addr) : Env := PySem.W.envX F.qual F.scope L f (.ref F.c) F.cl
/-- the context of a lambda's body -/
def lcx (CX : CXT) (P : Program) (w : World) (K : PySem.W.Frag) (mg : Str → Option Value) (base : Heap) (N : List Str) (F : LF) (f : Addr) (A : Around) (outer : List Env) (s : Shared) (H : Hp) (E : XK) : Cx where
  prog := P
  w := w
  K := K
  mg := mg
  base := base
  A := A.deeper (envL F f s.heap.objs.size)
  N := N
  s_0 := s
  H_0 := H
  env := envL F f s.heap.objs.size
  outer := outer
  stack := envL F f s.heap.objs.size :: outer
  ex := []
  calm := true
  fn := fun _ => false
  pn := []
  xe := fun e s' => wpAny (model P w) (A.deeper (envL F f s.heap.objs.size)) (leaving (envL F f s.heap.objs.size) e) (fun _ s'' => CX outer H s E e s'') (fun e' s'' => CX outer H s E e' s'') s'
/-- a lambda's context is a nested def's -/
def LF.nf (F : LF) : NF := ⟨"<lambda>", F.qual, F.params, [], F.scope, F.cl, F.c⟩
theorem lcx_eq {CX : CXT} {P : Program} {w : World} {K : PySem.W.Frag} {mg : Str → Option Value} {base : Heap} {N : List Str} {F : LF} {f : Addr} {A : Around} {outer : List Env} {s : Shared} {H : Hp} {E : XK} :
    lcx CX P w K mg base N F f A outer s H E = ncx CX P w K mg base N F.nf f A outer s H E := rfl
structure LOk (P : Program) (w : World) (K : PySem.W.Frag) (mg : Str → Option Value) (base : Heap) (k : Nat) (f : Addr) (F : LF) (ps fr : List Str) (sp : List (Option V) → Sp) : Prop where
  len : ∀ ws vs H Q E, sp ws vs H Q E → vs.length = ps.length
  run : ∀ (A : Around) (outer : List Env) (s : Shared) (H : Hp) (us : List Value) (vs : List V) (ws : List (Option V)) (Q : VK) (E : XK), Room k A → Env0 P w K mg base A outer s H → H f = some (LamO f F) → H F.c = some (CodeO F.c F.qual) →
    CellsAt F.cl fr ws s.heap H → Vals vs us → sp ws vs H Q E → codeAny (model P w) A (.call (.ref f) ⟨us, []⟩) (CR CX0 outer P w H s Q E) s
section
variable {P : Program} {w : World} {K : PySem.W.Frag} {mg : Str → Option Value} {base : Heap} {N ps fr : List Str} {F : LF} {f : Addr} {k j : Nat} {sp : List (Option V) → Sp}
/-- THE RULE: a lambda by its body -/
theorem lok_of (S : NScope N ps fr F.scope) (hb : ∀ (pm ctv : Value) (us : List Value), us.length = ps.length → bindArgs (F.fd pm ctv) ⟨us, []⟩ = pure (ps.zip us)) (len : ∀ ws vs H Q E, sp ws vs H Q E → vs.length = ps.length)
    (hbody : ∀ (A : Around) (outer : List Env) (s : Shared) (H : Hp) (vs : List V) (ws : List (Option V)) (Q : VK) (E : XK), Room k (A.deeper (envL F f s.heap.objs.size)) → ws.length = fr.length → sp ws vs H Q E →
      ∃ t, PE (ncx CX0 P w K mg base N F.nf f A outer s H E).nox F.body t ∧ t (startF N vs ws) H Q) :
    LOk P w K mg base (k + 1) f F ps fr sp := by
  refine ⟨len, fun A outer s H us vs ws Q E hr e0 hf hc C r hsp => ?_⟩
  have hl := len _ _ _ _ _ hsp
  have lim : s.heap.NoLimit := e0.mod.nolimit.keeps fun b o e => (e0.bs b o e).1
  obtain ⟨od, sl, pm, ctv, ho⟩ := lamO_at e0.hok hf
  refine PySem.W.kla_callFunE hr.depth ho rfl S.co S.gen rfl (codeO_at e0.hok hc) ?_
  rw [hb pm ctv us (by rw [← r.length]; exact hl)]
  refine wpAny_pure (wpAny_newFunctionEnv S.nocell (fun ⟨n, _⟩ hy => S.par n (List.of_mem_zip hy).1) (fun h₁ hns hsb => ⟨lim.fresh _ hsb, ?_⟩) S.kind)
  show codeAny _ _ (.expr F.body (envL F f s.heap.objs.size)) _ _
  have kp : ∀ b o, s.heap.get? b = some o → h₁.get? b = some o := fun b o e => hsb.extBut b o (Nat.ne_of_lt (Heap.lt_size e)) (Heap.get?_push_of_some _ e)
  obtain ⟨t, ht, hq⟩ := hbody A outer s H vs ws Q E (hr.deeper _) C.len hsp
  have I : Inv (ncx CX0 P w K mg base N F.nf f A outer s H E) [] (startF N vs ws) H { s with heap := h₁, toks := s.toks + (ps.zip us).length } := inv_startN (F := F.nf) S hr.hd e0 hl r C hns kp
  refine PySem.W.kla_codeExpr (wpAny_mono (ht.nox.run [] _ (startF N vs ws) H Q I hq) (fun v s' hs => ?_) fun e s' hs => hs)
  obtain ⟨v', H', J, rv, q⟩ := hs
  exact ⟨v', H', J.os, J.bare, J.base, J.hok, rv, q⟩
end
section
variable {X : Cx} {pins : List (Addr × Obj)} {σ : L2.St} {H : Hp} {s : Shared}
theorem run_cloL {Q : VK} {f c : Addr} {F : LF} {y : Str} {o : Obj} {u : Value} {v : V} {k : Nat} {ps : List Str} {sp : List (Option V) → Sp} {us : List Value} {vs : List V} (Fn : LOk X.prog X.w X.K X.mg X.base k f F ps [y] sp) (hcl : F.cl = [(y, c)]) (hr : Room k X.A) (I : Inv X pins σ H s)
    (hf : H f = some (LamO f F)) (hcd : H F.c = some (CodeO F.c F.qual)) (hc : H c = some (ObjO c o)) (hd : o.data = .cell (some u)) (rv : RelV v u) (r : Vals vs us) (q : sp [some v] vs (drop H c) (fun r H2 => H2 c = none → Q r (upd H2 c (ObjO c o))) E0) :
    wpAny (model X.prog X.w) X.A (call (.ref f) us) (EP X pins σ Q) X.xe s := by
  have ho : s.heap.get? c = some o := (I.hok c _ hc).1
  have nf : f ≠ c := fun z => by
    obtain ⟨od, sl, pm, ctv, e⟩ := lamO_at I.hok hf
    rw [z, ho] at e
    rw [Option.some.inj e] at hd
    cases hd
  have ncd : F.c ≠ c := fun z => by
    obtain ⟨oc, vs', t, h1, h2, _⟩ := (I.hok F.c _ hcd).1
    rw [z, ho] at h1
    rw [Option.some.inj h1, h2] at hd
    cases hd
  have hfr : c ∉ frs X.stack := fun z => by
    have := I.stkFree c z
    rw [hc] at this
    cases this
  have e0 := env0_drop I.env0 hc
  refine wpAny_call (codeAny_mono (Fn.run X.A X.stack s (drop H c) us vs [some v] _ E0 hr e0 (by rw [drop_ne nf]; exact hf) (by rw [drop_ne ncd]; exact hcd) (by rw [hcl]; exact cellsAt1 drop_same ho hd rv) r q) fun r s' hq => ?_)
  cases r with
  | error e => exact False.elim hq
  | ok fl =>
    cases fl with
    | ret u' => exact I.after (ce_drop hc ho hfr hq)
    | next => exact False.elim hq
    | brk => exact False.elim hq
    | cont => exact False.elim hq
theorem fnAt_lam {f : Addr} {F : LF} (I : Inv X pins σ H s) (e : H f = some (LamO f F)) : PySem.W.FnAt f s.heap := by
  obtain ⟨od, sl, pm, ctv, ho⟩ := lamO_at I.hok e
  exact ⟨_, od, _, sl, ho⟩
def tCloL (mk : Addr → Addr → LF) (i : Nat) (sp : List (Option V) → Sp) (t : TA) : TE := fun σ H Q => ∃ (f c c' : Addr) (o : Obj) (u : Value) (v : V), σ[i]? = some (some (.ref f)) ∧ o.data = .cell (some u) ∧ RelV v u ∧ H f = some (LamO f (mk c c')) ∧
  t σ H fun vs H1 => H1 f = some (LamO f (mk c c')) ∧ H1 (mk c c').c = some (CodeO (mk c c').c (mk c c').qual) ∧ H1 c = some (ObjO c o) ∧ sp [some v] vs (drop H1 c) (fun r H2 => H2 c = none → Q r (upd H2 c (ObjO c o))) E0
theorem pe_cloL {mk : Addr → Addr → LF} {k i : Nat} {x y : Str} {ps : List Str} {sp : List (Option V) → Sp} {e : Expr} {es : List Expr} {t : TA} {p pos : Pos} (Fn : ∀ f c c', LOk X.prog X.w X.K X.mg X.base k f (mk c c') ps [y] sp) (hcl : ∀ c c', (mk c c').cl = [(y, c)]) (hr : Room k X.A) (hN : X.N[i]? = some x) (hv : Vis X.env.scope x) (ha : PA X (e :: es) t)
    (hd : (x == ("__debug__" : Str)) = false := by decide) (hcd : (x == ("__classdict__" : Str)) = false := by decide)
    (he : starEach (e :: es) X.env = (false, eval e X.env) :: starEach es X.env := by rfl) (hpl : (backTo pos (starEach es X.env)).any (·.1) = false := by rfl) :
    PE X (.Call (.Name x p) (e :: es) [] pos) (tCloL mk i sp t) := by
  refine ⟨fun pins s σ H Q I h => ?_⟩
  obtain ⟨f, c, c', o, u, v, hs, hod, rv, hf, ht⟩ := h
  refine wpAny_Call_Name_kw (thn ((pe_var (pos := p) hN hv hd hcd).run pins s σ H (fun v H1 => v = .ref f ∧ H1 = H) I ⟨.ref f, hs, rfl, rfl⟩) fun w' s1 ⟨v1, H1, I1, r1, q1⟩ => ?_)
  obtain ⟨ev, eH⟩ := q1
  subst ev
  rw [eH] at I1
  obtain rfl : w' = Value.ref f := r1
  refine PySem.W.callWith_F (first := []) (fnAt_lam I1 hf) (thn (ha.run pos pins s1 σ H _ I1 ht) fun us s2 ⟨vs, H2, I2, r, h1, h2, h3, q⟩ => ⟨fnAt_lam I2 h1, ?_⟩) he hpl
  exact run_cloL (Fn f c c') (hcl c c') hr I2 h1 h2 h3 hod rv r q
end
/-! ### a def that hands back a lambda -/
/-- as fn_of, the end told of the state -/
theorem fn_ofG {P : Program} {w : World} {K : PySem.W.Frag} {mg : Str → Option Value} {base : Heap} {k : Nat} {f : Addr} {name qual : Str} {params : Arguments} {body : List Stmt} {scope : Scope} {dV kV doc pm cdv ct oc : Value} {an od : Option Addr}
    {osl : Array (Option Value)} {N ps : List Str} {sp : Sp} (lk : K.lookup f = some ⟨oc, od, .func (PySem.W.fnOf name qual params body scope dV kV doc pm an cdv ct), osl⟩) (hcd : PySem.W.codeIn K cdv qual = true) (S : FnScope N ps scope)
    (len : ∀ vs H Q E, sp vs H Q E → vs.length = ps.length)
    (hbody : ∀ (A : Around) (outer : List Env) (s s1 : Shared) (H : Hp) (vs : List V) (Q : VK) (E : XK), Room k (A.deeper (envOfC qual scope s.heap.objs.size f cdv)) → sp vs H Q E → Inv (cxOf CX0 P w K mg base N qual scope f cdv A outer s H E) [] (start N vs) H s1 →
      wpAny (model P w) (A.deeper (envOfC qual scope s.heap.objs.size f cdv)) (execs body (envOfC qual scope s.heap.objs.size f cdv)) (fun fl s' => ∃ u, fl = .ret u ∧ CE outer P w H s Q u s') (fun _ _ => False) s1) :
    FnOk P w K mg base CX0 (k + 1) f (PySem.W.fnOf name qual params body scope dV kV doc pm an cdv ct) ps sp := by
  refine ⟨len, fun A outer s H args us vs Q E hr e0 hb r hsp => ?_⟩
  have hl := len _ _ _ _ hsp
  have KX : K.In s.heap := e0.mod.kin.keeps fun b o e => (e0.bs b o e).1
  have lim : s.heap.NoLimit := e0.mod.nolimit.keeps fun b o e => (e0.bs b o e).1
  have hkind : ∀ y ∈ ps.zip us, scope.names.lookup y.1 = some .local ∨ (scope.names.lookup y.1 = some .cell ∧ ((cellsFrom (s.heap.objs.size + 1) scope.names []).lookup y.1).isSome = true) := fun ⟨n, v⟩ hy => by
    rcases S.par n (List.of_mem_zip hy).1 with q | q
    · exact .inl q
    · exact .inr ⟨q, PySem.W.cellsFrom_some _ _ _ (.inl q)⟩
  refine codeAny_call_function hr.depth (KX _ _ lk) rfl S.co S.gen rfl (PySem.W.codeRec_of KX hcd) (hb _ _ _ _ ?_)
  refine wpAny_newFunctionEnv_cells S.kind hkind fun env he s1 x => ?_
  subst he
  refine ⟨lim.keeps x.toInCall.keep, codeAny_func ?_⟩
  have I : Inv (cxOf CX0 P w K mg base N qual scope f cdv A outer s H E) [] (start N vs) H s1 := inv_start S hr.hd e0 hl r x
  refine wpAny_mono (hbody A outer s s1 H vs Q E (hr.deeper _) hsp I) (fun fl s' hs => ?_) fun e s' hs => hs.elim
  obtain ⟨u, rfl, h⟩ := hs
  exact h
/-- from a body's end: its own cell c is known to the caller -/
theorem ce_cell {X : Cx} {pins : List (Addr × Obj)} {σ : L2.St} {H' : Hp} {s' : Shared} {Q : VK} {u : Value} {v : V} {y : Str} {c : Addr} {o : Obj} (I : Inv X pins σ H' s') (hex : X.ex = []) (hfn : X.fn y = true) (hc : X.env.cells.lookup y = some c) (ho : s'.heap.get? c = some o) (r : RelV v u) (q : Q v (upd H' c (ObjO c o))) :
    CE X.outer X.prog X.w X.H_0 X.s_0 Q u s' := by
  have hab := I.ok.cab y c hfn hc
  have hn : H' c = none := I.freeC y c hc
  have ne : ∀ b ob, X.s_0.heap.get? b = some ob → b ≠ c := fun b ob e => Nat.ne_of_lt (Nat.lt_of_lt_of_le (Heap.lt_size e) hab)
  refine ⟨v, upd H' c (ObjO c o), I.os, I.bare, ⟨fun b ob e n hb hx => ?_, fun b ob e n hb hx => ?_, fun b ob e n hx => ?_, fun b ob e hx => ?_, fun b xs e => ?_, fun b ob xs e => ?_, fun b ps e => ?_⟩, fun b w e => ?_, r, q⟩
  · exact I.base.keep b ob e n hb (by rw [hex]; simp)
  · exact I.base.slot b ob e n hb (by rw [hex]; simp)
  · rw [upd_ne (ne b ob e)]
    exact I.base.free b ob e n (by rw [hex]; simp)
  · exact I.base.there b ob e (by rw [hex]; simp)
  · have := I.base.tups b xs e
    rw [upd_ne (ne_of_none this hn)]
    exact this
  · have := I.base.frzs b ob xs e
    rw [upd_ne (ne_of_none this hn)]
    exact this
  · obtain ⟨more, this⟩ := I.base.tbls b ps e
    exact ⟨more, by rw [upd_ne (ne_of_none this hn)]; exact this⟩
  · by_cases hb : b = c
    · subst hb
      rw [upd_same] at e
      cases e
      exact objO_ok ho
    · rw [upd_ne hb] at e
      exact (I.hok b w e).stay (fun d v _ x => x) (fun d x => by rw [upd_ne (ne_of_none x hn)]; exact x) fun d xs x => by rw [upd_ne (ne_of_none x hn)]; exact x
end Wc
namespace Wa
open PySem PySem.Spec PyProof.Rows L2
/-! ### the text -/
def top (i : Nat) : Stmt := PySem.Challenge.pw_mildwarden_k68_whole_rows_of_watchers.main.body.getD i (.Pass ⟨0, 0, 0, 0⟩)
abbrev s_is_whole : Stmt := top 14
abbrev s_is_below : Stmt := top 15
abbrev s_is_count : Stmt := top 16
abbrev s_is_row : Stmt := top 17
abbrev s_is_room : Stmt := top 18
abbrev s_is_saying : Stmt := top 19
abbrev s_are_steps : Stmt := top 20
abbrev s_need_saying : Stmt := top 21
abbrev s_need_counts : Stmt := top 22
abbrev s_need_run : Stmt := top 23
abbrev s_need_alike : Stmt := top 24
abbrev s_is_price : Stmt := top 27
abbrev s_are_prices : Stmt := top 28
abbrev s_need_prices : Stmt := top 29
abbrev s_cost : Stmt := top 30
abbrev s_first_come : Stmt := top 32
abbrev s_need_row_alike : Stmt := top 33
abbrev s_is_cell : Stmt := top 35
abbrev s_is_state : Stmt := top 36
abbrev s_is_watcher : Stmt := top 37
abbrev s_need_watcher : Stmt := top 38
abbrev s_letting : Stmt := top 39
abbrev s_steps_by : Stmt := top 40
abbrev s_mended : Stmt := top 41
abbrev s_need_all : Stmt := top 45
abbrev s_stepped : Stmt := top 46
abbrev s_all_steps : Stmt := top 47
abbrev s_led_back : Stmt := top 48
abbrev s_searched : Stmt := top 49
abbrev s_unsound_by : Stmt := top 50
abbrev s_sound_or_breaks : Stmt := top 51
abbrev s_let_on : Stmt := top 53
abbrev s_in_a_row : Stmt := top 54
abbrev s_law_pot : Stmt := top 56
abbrev s_law_take : Stmt := top 57
abbrev s_law_whole : Stmt := top 58
abbrev s_law_ringed : Stmt := top 59
abbrev s_law_cost : Stmt := top 60
abbrev s_law_answers : Stmt := top 61
abbrev s_law_held : Stmt := top 62
abbrev s_law_kept : Stmt := top 63
abbrev s_law_keeping : Stmt := top 64
abbrev s_law_mended : Stmt := top 65
abbrev s_law_warden : Stmt := top 66
abbrev s_law_unbroken : Stmt := top 67
abbrev s_law_sound_pairs : Stmt := top 68
abbrev s_law_run_on : Stmt := top 69
abbrev s_law : Stmt := top 70
abbrev N_is_whole : List Str := ["thing"]
theorem sc_is_whole : FnScope N_is_whole ["thing"] (defScope s_is_whole) := ⟨rfl, rfl, rfl, by decide +kernel, rfl, by decide +kernel, by decide +kernel⟩
abbrev N_is_below : List Str := ["thing", "most"]
theorem sc_is_below : FnScope N_is_below ["thing", "most"] (defScope s_is_below) := ⟨rfl, rfl, rfl, by decide +kernel, rfl, by decide +kernel, by decide +kernel⟩
abbrev N_is_count : List Str := ["thing"]
theorem sc_is_count : FnScope N_is_count ["thing"] (defScope s_is_count) := ⟨rfl, rfl, rfl, by decide +kernel, rfl, by decide +kernel, by decide +kernel⟩
abbrev N_is_row : List Str := ["thing", "many"]
theorem sc_is_row : FnScope N_is_row ["thing", "many"] (defScope s_is_row) := ⟨rfl, rfl, rfl, by decide +kernel, rfl, by decide +kernel, by decide +kernel⟩
abbrev N_is_room : List Str := ["thing", "signs", "deeds", "many", "row", "behind"]
theorem sc_is_room : FnScope N_is_room ["thing", "signs", "deeds", "many"] (defScope s_is_room) := ⟨rfl, rfl, rfl, by decide +kernel, rfl, by decide +kernel, by decide +kernel⟩
abbrev N_is_saying : List Str := ["thing", "signs", "deeds", "rooms", "room"]
theorem sc_is_saying : FnScope N_is_saying ["thing"] (defScope s_is_saying) := ⟨rfl, rfl, rfl, by decide +kernel, rfl, by decide +kernel, by decide +kernel⟩
abbrev N_are_steps : List Str := ["thing", "signs", "deeds", "step"]
theorem sc_are_steps : FnScope N_are_steps ["thing", "signs", "deeds"] (defScope s_are_steps) := ⟨rfl, rfl, rfl, by decide +kernel, rfl, by decide +kernel, by decide +kernel⟩
abbrev N_need_saying : List Str := ["thing"]
theorem sc_need_saying : FnScope N_need_saying ["thing"] (defScope s_need_saying) := ⟨rfl, rfl, rfl, by decide +kernel, rfl, by decide +kernel, by decide +kernel⟩
abbrev N_need_counts : List Str := ["signs", "deeds"]
theorem sc_need_counts : FnScope N_need_counts ["signs", "deeds"] (defScope s_need_counts) := ⟨rfl, rfl, rfl, by decide +kernel, rfl, by decide +kernel, by decide +kernel⟩
abbrev N_need_run : List Str := ["thing", "signs", "deeds"]
theorem sc_need_run : FnScope N_need_run ["thing", "signs", "deeds"] (defScope s_need_run) := ⟨rfl, rfl, rfl, by decide +kernel, rfl, by decide +kernel, by decide +kernel⟩
abbrev N_need_alike : List Str := ["one", "other"]
theorem sc_need_alike : FnScope N_need_alike ["one", "other"] (defScope s_need_alike) := ⟨rfl, rfl, rfl, by decide +kernel, rfl, by decide +kernel, by decide +kernel⟩
abbrev N_is_price : List Str := ["thing", "own"]
theorem sc_is_price : FnScope N_is_price ["thing", "own"] (defScope s_is_price) := ⟨rfl, rfl, rfl, by decide +kernel, rfl, by decide +kernel, by decide +kernel⟩
abbrev N_are_prices : List Str := ["deeds", "thing", "wanted", "row", "given", "price"]
theorem sc_are_prices : FnScope N_are_prices ["deeds", "thing"] (defScope s_are_prices) := ⟨rfl, rfl, rfl, by decide +kernel, rfl, by decide +kernel, by decide +kernel⟩
abbrev N_need_prices : List Str := ["deeds", "prices"]
theorem sc_need_prices : FnScope N_need_prices ["deeds", "prices"] (defScope s_need_prices) := ⟨rfl, rfl, rfl, by decide +kernel, rfl, by decide +kernel, by decide +kernel⟩
abbrev N_cost : List Str := ["prices", "wanted", "given"]
theorem sc_cost : FnScope N_cost ["prices", "wanted", "given"] (defScope s_cost) := ⟨rfl, rfl, rfl, by decide +kernel, rfl, by decide +kernel, by decide +kernel⟩
abbrev N_first_come : List Str := ["signs", "deeds", "begin", "follow", "things", "numbers", "table", "rows", "sign", "row", "thing", "deed"]
theorem sc_first_come : FnScope N_first_come ["signs", "deeds", "begin", "follow"] (defScope s_first_come) := ⟨rfl, rfl, rfl, by decide +kernel, rfl, by decide +kernel, by decide +kernel⟩
abbrev N_need_row_alike : List Str := ["things", "first", "others", "other"]
theorem sc_need_row_alike : FnScope N_need_row_alike ["things"] (defScope s_need_row_alike) := ⟨rfl, rfl, rfl, by decide +kernel, rfl, by decide +kernel, by decide +kernel⟩
abbrev N_is_cell : List Str := ["thing", "deeds", "many"]
theorem sc_is_cell : FnScope N_is_cell ["thing", "deeds", "many"] (defScope s_is_cell) := ⟨rfl, rfl, rfl, by decide +kernel, rfl, by decide +kernel, by decide +kernel⟩
abbrev N_is_state : List Str := ["thing", "signs", "deeds", "many", "row", "cell"]
theorem sc_is_state : FnScope N_is_state ["thing", "signs", "deeds", "many"] (defScope s_is_state) := ⟨rfl, rfl, rfl, by decide +kernel, rfl, by decide +kernel, by decide +kernel⟩
abbrev N_is_watcher : List Str := ["thing", "signs", "deeds", "states", "state"]
theorem sc_is_watcher : FnScope N_is_watcher ["thing"] (defScope s_is_watcher) := ⟨rfl, rfl, rfl, by decide +kernel, rfl, by decide +kernel, by decide +kernel⟩
abbrev N_need_watcher : List Str := ["thing"]
theorem sc_need_watcher : FnScope N_need_watcher ["thing"] (defScope s_need_watcher) := ⟨rfl, rfl, rfl, by decide +kernel, rfl, by decide +kernel, by decide +kernel⟩
abbrev N_letting : List Str := ["signs", "deeds", "row", "deed"]
theorem sc_letting : FnScope N_letting ["signs", "deeds"] (defScope s_letting) := ⟨rfl, rfl, rfl, by decide +kernel, rfl, by decide +kernel, by decide +kernel⟩
abbrev N_steps_by : List Str := ["watcher", "run", "state", "found", "sign", "wanted", "given"]
theorem sc_steps_by : FnScope N_steps_by ["watcher", "run"] (defScope s_steps_by) := ⟨rfl, rfl, rfl, by decide +kernel, rfl, by decide +kernel, by decide +kernel⟩
abbrev N_mended : List Str := ["watcher", "run", "sign", "wanted", "given", "state"]
theorem sc_mended : FnScope N_mended ["watcher", "run"] (defScope s_mended) := ⟨rfl, rfl, rfl, by decide +kernel, rfl, by decide +kernel, by decide +kernel⟩
abbrev N_need_all : List Str := ["saying", "watcher", "prices"]
theorem sc_need_all : FnScope N_need_all ["saying", "watcher", "prices"] (defScope s_need_all) := ⟨rfl, rfl, rfl, by decide +kernel, rfl, by decide +kernel, by decide +kernel⟩
abbrev N_stepped : List Str := ["saying", "watcher", "pair", "step", "state", "room", "sign", "wanted", "given", "behind", "come"]
theorem sc_stepped : FnScope N_stepped ["saying", "watcher", "pair", "step"] (defScope s_stepped) := ⟨rfl, rfl, rfl, by decide +kernel, rfl, by decide +kernel, by decide +kernel⟩
abbrev N_all_steps : List Str := ["saying", "sign", "deed"]
theorem sc_all_steps : FnScope N_all_steps ["saying"] (defScope s_all_steps) := ⟨rfl, rfl, rfl, by decide +kernel, rfl, by decide +kernel, by decide +kernel⟩
abbrev N_led_back : List Str := ["ahead", "pair", "step", "found"]
theorem sc_led_back : FnScope N_led_back ["ahead", "pair", "step"] (defScope s_led_back) := ⟨rfl, rfl, rfl, by decide +kernel, rfl, by decide +kernel, by decide +kernel⟩
abbrev N_searched : List Str := ["saying", "watcher", "is_wrong", "ahead", "waiting", "at", "pair", "step", "given", "come"]
theorem sc_searched : FnScope N_searched ["saying", "watcher", "is_wrong"] (defScope s_searched) := ⟨rfl, rfl, rfl, by decide +kernel, rfl, by decide +kernel, by decide +kernel⟩
abbrev N_unsound_by : List Str := ["prices"]
theorem sc_unsound_by : FnScope N_unsound_by ["prices"] (defScope s_unsound_by) := ⟨rfl, rfl, rfl, by decide +kernel, rfl, by decide +kernel, by decide +kernel⟩
abbrev N_sound_or_breaks : List Str := ["saying", "watcher", "prices", "pairs", "run"]
theorem sc_sound_or_breaks : FnScope N_sound_or_breaks ["saying", "watcher", "prices"] (defScope s_sound_or_breaks) := ⟨rfl, rfl, rfl, by decide +kernel, rfl, by decide +kernel, by decide +kernel⟩
abbrev N_let_on : List Str := ["watchers", "states", "sign", "deed", "behind", "watcher", "state", "after"]
theorem sc_let_on : FnScope N_let_on ["watchers", "states", "sign", "deed"] (defScope s_let_on) := ⟨rfl, rfl, rfl, by decide +kernel, rfl, by decide +kernel, by decide +kernel⟩
abbrev N_in_a_row : List Str := ["watchers", "signs", "deeds", "rows", "follow", "states", "table", "told", "state", "behind", "sign", "some", "watcher", "deed"]
theorem sc_in_a_row : FnScope N_in_a_row ["watchers"] (defScope s_in_a_row) := ⟨rfl, rfl, rfl, by decide +kernel, rfl, by decide +kernel, by decide +kernel⟩
abbrev N_law_pot : List Str := ["script", "k", "cell"]
theorem sc_law_pot : FnScope N_law_pot ["script", "k"] (defScope s_law_pot) := ⟨rfl, rfl, rfl, by decide +kernel, rfl, by decide +kernel, by decide +kernel⟩
abbrev N_law_take : List Str := ["pot", "many", "found", "one", "other"]
theorem sc_law_take : FnScope N_law_take ["pot", "many"] (defScope s_law_take) := ⟨rfl, rfl, rfl, by decide +kernel, rfl, by decide +kernel, by decide +kernel⟩
abbrev N_law_whole : List Str := ["found"]
theorem sc_law_whole : FnScope N_law_whole ["found"] (defScope s_law_whole) := ⟨rfl, rfl, rfl, by decide +kernel, rfl, by decide +kernel, by decide +kernel⟩
abbrev N_law_ringed : List Str := ["script", "first", "pot", "signs", "deeds", "most", "rooms", "back", "ring", "rate", "s", "d", "on", "table", "room", "own", "rows", "row", "to"]
theorem sc_law_ringed : FnScope N_law_ringed ["script", "first", "pot", "signs", "deeds", "most"] (defScope s_law_ringed) := ⟨rfl, rfl, rfl, by decide +kernel, rfl, by decide +kernel, by decide +kernel⟩
abbrev N_law_cost : List Str := ["fees", "wanted", "given"]
theorem sc_law_cost : FnScope N_law_cost ["fees", "wanted", "given"] (defScope s_law_cost) := ⟨rfl, rfl, rfl, by decide +kernel, rfl, by decide +kernel, by decide +kernel⟩
abbrev N_law_answers : List Str := ["fees", "deeds", "wanted", "given"]
theorem sc_law_answers : FnScope N_law_answers ["fees", "deeds", "wanted"] (defScope s_law_answers) := ⟨rfl, rfl, rfl, by decide +kernel, rfl, by decide +kernel, by decide +kernel⟩
abbrev N_law_held : List Str := ["saying", "fees", "rooms", "room", "signs", "deeds", "table", "sign", "wanted", "given"]
theorem sc_law_held : FnScope N_law_held ["saying", "fees", "rooms", "room"] (defScope s_law_held) := ⟨rfl, rfl, rfl, by decide +kernel, rfl, by decide +kernel, by decide +kernel⟩
abbrev N_law_kept : List Str := ["saying", "fees", "rooms", "turn", "room"]
theorem sc_law_kept : FnScope N_law_kept ["saying", "fees"] (defScope s_law_kept) := ⟨rfl, rfl, rfl, by decide +kernel, rfl, by decide +kernel, by decide +kernel⟩
abbrev N_law_keeping : List Str := ["pot", "saying", "fees", "kept", "signs", "deeds", "table", "states", "room", "rows", "sign", "row", "wanted", "given", "some"]
theorem sc_law_keeping : FnScope N_law_keeping ["pot", "saying", "fees", "kept"] (defScope s_law_keeping) := ⟨rfl, rfl, rfl, by decide +kernel, rfl, by decide +kernel, by decide +kernel⟩
abbrev N_law_mended : List Str := ["watcher", "run", "state", "found", "sign", "wanted", "given"]
theorem sc_law_mended : FnScope N_law_mended ["watcher", "run"] (defScope s_law_mended) := ⟨rfl, rfl, rfl, by decide +kernel, rfl, by decide +kernel, by decide +kernel⟩
abbrev N_law_warden : List Str := ["script", "first", "pot", "signs", "deeds", "most", "states", "back", "ring", "rate", "s", "d", "on", "table", "state", "own", "rows", "row", "to"]
theorem sc_law_warden : FnScope N_law_warden ["script", "first", "pot", "signs", "deeds", "most"] (defScope s_law_warden) := ⟨rfl, rfl, rfl, by decide +kernel, rfl, by decide +kernel, by decide +kernel⟩
abbrev N_law_unbroken : List Str := ["saying", "signs", "deeds", "rooms", "table", "room", "row", "to"]
theorem sc_law_unbroken : FnScope N_law_unbroken ["saying"] (defScope s_law_unbroken) := ⟨rfl, rfl, rfl, by decide +kernel, rfl, by decide +kernel, by decide +kernel⟩
abbrev N_law_sound_pairs : List Str := ["saying", "warden", "pairs", "among", "pair", "state", "room", "sign", "deed", "given", "after"]
theorem sc_law_sound_pairs : FnScope N_law_sound_pairs ["saying", "warden", "pairs"] (defScope s_law_sound_pairs) := ⟨rfl, rfl, rfl, by decide +kernel, rfl, by decide +kernel, by decide +kernel⟩
abbrev N_law_run_on : List Str := ["script", "begin", "signs", "deeds", "run", "k", "pot", "turn"]
theorem sc_law_run_on : FnScope N_law_run_on ["script", "begin", "signs", "deeds"] (defScope s_law_run_on) := ⟨rfl, rfl, rfl, by decide +kernel, rfl, by decide +kernel, by decide +kernel⟩
abbrev N_law : List Str := ["script", "pot", "signs", "deeds", "wardens", "k", "saying", "row", "run", "due", "one", "found", "first", "last", "rows", "calm"]
theorem sc_law : FnScope N_law ["script"] (defScope s_law) := ⟨rfl, rfl, rfl, by decide +kernel, rfl, by decide +kernel, by decide +kernel⟩
/-! ### a def that keeps its promise, as its callers know it -/
def Cal (P : Program) (w : World) (K : PySem.W.Frag) (mg : Str → Option Value) (base : Heap) (k : Nat) (x : Str) (ps : List Str) (sp : Sp) : Prop :=
  ∃ (f : Addr) (fd : FuncData), mg x = some (.ref f) ∧ PySem.W.keepIn K (.ref f) = true ∧ Binds K fd ps [] ∧ FnOk P w K mg base CX0 k f fd ps sp
theorem Cal.mono {P : Program} {w : World} {K : PySem.W.Frag} {mg : Str → Option Value} {base : Heap} {j k : Nat} {x : Str} {ps : List Str} {sp : Sp} (c : Cal P w K mg base j x ps sp) (h : j ≤ k) : Cal P w K mg base k x ps sp := by
  obtain ⟨f, fd, h1, h2, h3, h4⟩ := c
  exact ⟨f, fd, h1, h2, h3, h4.mono h⟩
theorem pe_cal {X : Cx} {k : Nat} {x : Str} {ps : List Str} {sp : Sp} {e : Expr} {es : List Expr} {t : TA} {p pos : Pos} (c : Cal X.prog X.w X.K X.mg X.base k x ps sp) (hr : Room k X.A) (hg : Gl X x) (ha : PA X (e :: es) t)
    (hdb : (x == ("__debug__" : Str)) = false := by decide) (he : starEach (e :: es) X.env = (false, eval e X.env) :: starEach es X.env := by rfl) (hpl : (backTo pos (starEach es X.env)).any (·.1) = false := by rfl) :
    PE X (.Call (.Name x p) (e :: es) [] pos) (tCall sp [] E0 t) := by
  obtain ⟨f, fd, h1, h2, h3, h4⟩ := c
  exact pe_call h4 hr hg h1 h2 h3 .nil pass0 ha hdb he hpl
/-- a def as it stands behind the top -/
def Df (K : PySem.W.Frag) (mg : Str → Option Value) (x : Str) (st : Stmt) : Prop := ∃ (f : Addr) (fd : FuncData), mg x = some (.ref f) ∧ FunD K x x (defArgs st) (defBody st) (defScope st) [] [] f fd
section
variable {P : Program} {w : World} {K : PySem.W.Frag} {mg : Str → Option Value} {base : Heap}
theorem Df.cal {x : Str} {st : Stmt} {N ps : List Str} {k : Nat} {sp : Sp} (D : Df K mg x st) (S : FnScope N ps (defScope st))
    (hb : ∀ (kV doc pm : Value) (an : Option Addr) (cdv ct : Value) (us : List Value), us.length = ps.length → bindArgs (PySem.W.fnOf x x (defArgs st) (defBody st) (defScope st) .none kV doc pm an cdv ct) ⟨us, []⟩ = pure (ps.zip us))
    (len : ∀ vs H Q E, sp vs H Q E → vs.length = ps.length)
    (hbody : ∀ (f : Addr) (cdv : Value) (A : Around) (outer : List Env) (s : Shared) (H : Hp) (vs : List V) (Q : VK) (E : XK), Room k (A.deeper (envOfC x (defScope st) s.heap.objs.size f cdv)) → sp vs H Q E →
      ∃ t, PSs (cxOf CX0 P w K mg base N x (defScope st) f cdv A outer s H E).nox (defBody st) t ∧ t { nx := fun _ H' => Q .non H', rt := Q } (start N vs) H) : Cal P w K mg base (k + 1) x ps sp := by
  obtain ⟨f, fd, hm, F⟩ := D
  refine ⟨f, fd, hm, F.kp, F.bindsN hb, F.ok S len fun cdv A outer s H vs Q E hr h => ?_⟩
  obtain ⟨t, h1, h2⟩ := hbody f cdv A outer s H vs Q E hr h
  exact ⟨t, h1.nox, h2⟩
end
/-- all but the tables stay -/
abbrev Ext := LamX.ExtN
theorem Ext.new {H : Hp} {p : Addr} {o : HO} (h : H p = none) : Ext H (upd H p o) := fun b u e _ => by
  rw [upd_ne (ne_of_none e h)]
  exact e
theorem Ext.rfl' {H : Hp} : Ext H H := LamX.ExtN.refl H
/-- the tuples stay -/
def Tst (H H' : Hp) : Prop := ∀ b xs, H b = some (.tup xs) → H' b = some (.tup xs)
theorem Tst.rfl' {H : Hp} : Tst H H := fun _ _ e => e
theorem Tst.trans {H H1 H2 : Hp} (a : Tst H H1) (b : Tst H1 H2) : Tst H H2 := fun c xs e => b c xs (a c xs e)
theorem tst_same {H H' : Hp} (e : Same H H') : Tst H H' := fun b _ q => e b _ q
theorem tst_ext {H H' : Hp} (e : Ext H H') : Tst H H' := fun b _ q => e b _ q (fun _ z => by cases z)
theorem tst_new {H : Hp} {p : Addr} {o : HO} (h : H p = none) : Tst H (upd H p o) := fun b u e => by
  rw [upd_ne (ne_of_none e h)]
  exact e
theorem tst_upd {H : Hp} {p : Addr} {o u : HO} (h : H p = some u) (hu : ∀ xs, u ≠ .tup xs) : Tst H (upd H p o) := fun b xs e => by
  rw [upd_ne (fun z => by rw [z, h] at e; exact hu _ (Option.some.inj e))]
  exact e
theorem tst_lst {H : Hp} {p : Addr} {o : HO} {ys : List V} (h : H p = some (.lst ys)) : Tst H (upd H p o) := tst_upd h (fun _ z => by cases z)
theorem same_rfl {H : Hp} : Same H H := fun _ _ e => e
theorem same_new {H : Hp} {p : Addr} {o : HO} (h : H p = none) : Same H (upd H p o) := fun b u e => by
  rw [upd_ne (ne_of_none e h)]
  exact e
theorem same_tr {H H1 H2 : Hp} (a : Same H H1) (b : Same H1 H2) : Same H H2 := fun c o e => b c o (a c o e)
/-- what is kept through a store at an address that was free at first -/
theorem same_upd' {H H1 : Hp} {p : Addr} {o : HO} (a : Same H H1) (h : H p = none) : Same H (upd H1 p o) := fun b u e => by
  rw [upd_ne (ne_of_none e h)]
  exact a b u e
theorem ext_same {H H' : Hp} (e : Same H H') : Ext H H' := fun b u q _ => e b u q
/-! ### data -/
/-- a tuple of things -/
def Tp {β : Type} (R : Hp → V → β → Prop) (H : Hp) (v : V) (xs : List β) : Prop := ∃ (a : Addr) (vs : List V), v = .ref a ∧ H a = some (.tup vs) ∧ Paired (R H) vs xs
def Mo {β : Type} (R : Hp → V → β → Prop) : Prop := ∀ (H H' : Hp) (v : V) (x : β), Tst H H' → R H v x → R H' v x
theorem Mo.ap {β : Type} {R : Hp → V → β → Prop} (m : Mo R) {H H' : Hp} {v : V} {x : β} (e : Tst H H') (h : R H v x) : R H' v x := m H H' v x e h
theorem Paired.imp {α β : Type} {F G : α → β → Prop} (h : ∀ a b, F a b → G a b) : ∀ {l : List α} {m : List β}, Paired F l m → Paired G l m
  | _, _, .nil => .nil
  | _, _, .cons r t => .cons (h _ _ r) (Paired.imp h t)
theorem Paired.at {α β : Type} {F : α → β → Prop} : ∀ {l : List α} {m : List β} {i : Nat} {y : β}, Paired F l m → m[i]? = some y → ∃ x, l[i]? = some x ∧ F x y
  | _, _, _, _, .nil, h => by simp at h
  | _, _, 0, _, .cons r _, h => by
    simp at h
    subst h
    exact ⟨_, rfl, r⟩
  | _, _, i + 1, _, .cons _ t, h => Paired.at (i := i) t (by simpa using h)
theorem Paired.at' {α β : Type} {F : α → β → Prop} : ∀ {l : List α} {m : List β} {i : Nat} {x : α}, Paired F l m → l[i]? = some x → ∃ y, m[i]? = some y ∧ F x y
  | _, _, _, _, .nil, h => by simp at h
  | _, _, 0, _, .cons r _, h => by
    simp at h
    subst h
    exact ⟨_, rfl, r⟩
  | _, _, i + 1, _, .cons _ t, h => Paired.at' (i := i) t (by simpa using h)
theorem Paired.len {α β : Type} {F : α → β → Prop} : ∀ {l : List α} {m : List β}, Paired F l m → l.length = m.length
  | _, _, .nil => rfl
  | _, _, .cons _ t => by rw [List.length_cons, List.length_cons, Paired.len t]
theorem Paired.snoc' {α β : Type} {F : α → β → Prop} {a : α} {b : β} : ∀ {l : List α} {m : List β}, Paired F l m → F a b → Paired F (l ++ [a]) (m ++ [b])
  | _, _, .nil, h => .cons h .nil
  | _, _, .cons r t, h => .cons r (Paired.snoc' t h)
theorem Tp.mo {β : Type} {R : Hp → V → β → Prop} (m : Mo R) : Mo (Tp R) := fun _ _ _ _ e ⟨a, vs, h1, h2, h3⟩ => ⟨a, vs, h1, e _ _ h2, Paired.imp (fun _ _ r => m.ap e r) h3⟩
/-- an int that is a Nat -/
def NV (_ : Hp) (v : V) (n : Nat) : Prop := v = .int n
theorem NV.mo : Mo NV := fun _ _ _ _ _ h => h
/-- None or such an int -/
def OV (_ : Hp) (v : V) (n : Option Nat) : Prop := v = match n with | none => .non | some k => .int k
theorem OV.mo : Mo OV := fun _ _ _ _ _ h => h
/-- a pair of such ints -/
def PV (H : Hp) (v : V) (c : Nat × Nat) : Prop := ∃ a : Addr, v = .ref a ∧ H a = some (.tup [.int c.1, .int c.2])
theorem PV.mo : Mo PV := fun _ _ _ _ e ⟨a, h1, h2⟩ => ⟨a, h1, e _ _ h2⟩
abbrev RowV := Tp PV
abbrev StV := Tp RowV
abbrev StsV := Tp StV
theorem RowV.mo : Mo RowV := Tp.mo PV.mo
theorem StV.mo : Mo StV := Tp.mo RowV.mo
theorem StsV.mo : Mo StsV := Tp.mo StV.mo
abbrev SRowV := Tp OV
abbrev SStV := Tp SRowV
abbrev SStsV := Tp SStV
theorem SRowV.mo : Mo SRowV := Tp.mo OV.mo
theorem SStV.mo : Mo SStV := Tp.mo SRowV.mo
theorem SStsV.mo : Mo SStsV := Tp.mo SStV.mo
/-- a watcher, a saying -/
def WatV (S D : Nat) (H : Hp) (v : V) (w : Wr.Tab) : Prop := ∃ (a : Addr) (x : V), v = .ref a ∧ H a = some (.tup [.int S, .int D, x]) ∧ StsV H x w
theorem WatV.mo {S D : Nat} : Mo (WatV S D) := fun _ _ _ _ e ⟨a, x, h1, h2, h3⟩ => ⟨a, x, h1, e _ _ h2, StsV.mo.ap e h3⟩
def SayV (S D : Nat) (H : Hp) (v : V) (w : Wr.Say) : Prop := ∃ (a : Addr) (x : V), v = .ref a ∧ H a = some (.tup [.int S, .int D, x]) ∧ SStsV H x w
theorem SayV.mo {S D : Nat} : Mo (SayV S D) := fun _ _ _ _ e ⟨a, x, h1, h2, h3⟩ => ⟨a, x, h1, e _ _ h2, SStsV.mo.ap e h3⟩
abbrev RunV := Tp PV
theorem RunV.mo : Mo RunV := Tp.mo PV.mo
theorem isTup {K : PySem.W.Frag} {H : Hp} {a : Addr} {xs : List V} (h : H a = some (.tup xs)) : SqT K H a xs := .inl (.inl h)
theorem isLst {K : PySem.W.Frag} {H : Hp} {a : Addr} {xs : List V} (h : H a = some (.lst xs)) : SqL K H a xs := .inl (.inl h)
/-! ### comprehensions -/
theorem lcT {β : Type} {R : Hp → V → β → Prop} (mo : Mo R) {K : PySem.W.Frag} {a : Addr} {xs : List V} {ys : List β} {g : TG} {tt : TT} {te : TE} {vs : List Nat} {σ : L2.St} {H1 : Hp} {D : Addr} {Qd : Hp → Prop} (hD : H1 D = none) (ha : H1 a = some (.tup xs)) (hl : ys.length = xs.length) (hz : xs.length < sizeLine)
    (hs : ∀ (i : Nat) (x : V) (y : β) (H : Hp) (Q : V → Hp → Prop) (Q' : Hp → Prop), xs[i]? = some x → ys[i]? = some y → Same H1 H → (∀ v H4, Same H H4 → R H4 v y → Q v H4) → g x (wipe σ vs) H fun σ2 H2 => wipe σ2 vs = wipe σ vs ∧ tt σ2 H2 fun b H3 =>
      if b = true then te σ2 H3 Q else Q' H3) (hd : ∀ H acc, Same H1 H → H D = some (.lst acc) → Paired (R H) acc ys → Qd H) :
    ∃ W : Nat → Nat → Hp → Prop, (∃ m, W 0 m (upd H1 D (.lst []))) ∧ ∀ i m H, W i m H →
      ((Itt K a).stop i H ∧ Qd H) ∨ ((Itt K a).go i H ∧ ∃ Nx : Hp → Prop, (∀ H', Nx H' → ∃ m', m' < m ∧ W (i + 1) m' H') ∧ ∀ x H', (Itt K a).yld i H x H' → g x (wipe σ vs) H' fun σ2 H2 => wipe σ2 vs = wipe σ vs ∧ tt σ2 H2 fun b H3 =>
        if b = true then te σ2 H3 fun y H4 => ∃ acc, H4 D = some (.lst acc) ∧ acc.length < sizeLine ∧ Nx (upd H4 D (.lst (acc ++ [y]))) else Nx H3) := by
  refine lc_tup (K := K) (xs := xs) (fun i H => Same H1 H ∧ ∃ acc, H D = some (.lst acc) ∧ Paired (R H) acc (ys.take i)) ⟨same_new hD, [], upd_same, by rw [List.take_zero]; exact .nil⟩ (fun i H _ h => isTup (h.1 _ _ ha)) (fun i x H hx h => ?_) (fun H h => ?_)
  · obtain ⟨s, acc, hA, hP⟩ := h
    have hi : i < xs.length := (List.getElem?_eq_some_iff.mp hx).1
    have hy : ys[i]? = some (ys[i]'(by omega)) := List.getElem?_eq_getElem (by omega)
    refine hs i x _ H _ _ hx hy s fun v H4 s4 r => ?_
    have hA4 := s4 _ _ hA
    have t4 : Tst H4 (upd H4 D (.lst (acc ++ [v]))) := tst_lst hA4
    refine ⟨acc, hA4, ?_, same_upd' (same_tr s s4) hD, acc ++ [v], upd_same, ?_⟩
    · have := Paired.len hP
      rw [List.length_take] at this
      omega
    · rw [List.take_add_one, hy]
      exact Paired.snoc' (Paired.imp (fun _ _ q => mo.ap t4 (mo.ap (tst_same s4) q)) hP) (mo.ap t4 r)
  · obtain ⟨s, acc, hA, hP⟩ := h
    rw [List.take_of_length_le (by omega)] at hP
    exact hd H acc s hA hP
theorem lcR {β : Type} {R : Hp → V → β → Prop} (mo : Mo R) {n : Nat} {ys : List β} {g : TG} {tt : TT} {te : TE} {vs : List Nat} {σ : L2.St} {H1 : Hp} {D : Addr} {Qd : Hp → Prop} (hD : H1 D = none) (hl : ys.length = n) (hz : n < sizeLine)
    (hs : ∀ (i : Nat) (y : β) (H : Hp) (Q : V → Hp → Prop) (Q' : Hp → Prop), i < n → ys[i]? = some y → Same H1 H → (∀ v H4, Same H H4 → R H4 v y → Q v H4) → g (.int (0 + i)) (wipe σ vs) H fun σ2 H2 => wipe σ2 vs = wipe σ vs ∧ tt σ2 H2 fun b H3 =>
      if b = true then te σ2 H3 Q else Q' H3) (hd : ∀ H acc, Same H1 H → H D = some (.lst acc) → Paired (R H) acc ys → Qd H) :
    ∃ W : Nat → Nat → Hp → Prop, (∃ m, W 0 m (upd H1 D (.lst []))) ∧ ∀ i m H, W i m H →
      ((Itr 0 n).stop i H ∧ Qd H) ∨ ((Itr 0 n).go i H ∧ ∃ Nx : Hp → Prop, (∀ H', Nx H' → ∃ m', m' < m ∧ W (i + 1) m' H') ∧ ∀ x H', (Itr 0 n).yld i H x H' → g x (wipe σ vs) H' fun σ2 H2 => wipe σ2 vs = wipe σ vs ∧ tt σ2 H2 fun b H3 =>
        if b = true then te σ2 H3 fun y H4 => ∃ acc, H4 D = some (.lst acc) ∧ acc.length < sizeLine ∧ Nx (upd H4 D (.lst (acc ++ [y]))) else Nx H3) := by
  refine lc_range (lo := 0) (n := n) (fun i H => Same H1 H ∧ ∃ acc, H D = some (.lst acc) ∧ Paired (R H) acc (ys.take i)) ⟨same_new hD, [], upd_same, by rw [List.take_zero]; exact .nil⟩ (fun i H hi h => ?_) (fun H h => ?_)
  · obtain ⟨s, acc, hA, hP⟩ := h
    have hy : ys[i]? = some (ys[i]'(by omega)) := List.getElem?_eq_getElem (by omega)
    refine hs i _ H _ _ hi hy s fun v H4 s4 r => ?_
    have hA4 := s4 _ _ hA
    have t4 : Tst H4 (upd H4 D (.lst (acc ++ [v]))) := tst_lst hA4
    refine ⟨acc, hA4, ?_, same_upd' (same_tr s s4) hD, acc ++ [v], upd_same, ?_⟩
    · have := Paired.len hP
      rw [List.length_take] at this
      omega
    · rw [List.take_add_one, hy]
      exact Paired.snoc' (Paired.imp (fun _ _ q => mo.ap t4 (mo.ap (tst_same s4) q)) hP) (mo.ap t4 r)
  · obtain ⟨s, acc, hA, hP⟩ := h
    rw [List.take_of_length_le (by omega)] at hP
    exact hd H acc s hA hP
theorem lcL {β : Type} {R : Hp → V → β → Prop} (mo : Mo R) {K : PySem.W.Frag} {a : Addr} {xs : List V} {ys : List β} {g : TG} {tt : TT} {te : TE} {vs : List Nat} {σ : L2.St} {H1 : Hp} {D : Addr} {Qd : Hp → Prop} (hD : H1 D = none) (ha : H1 a = some (.lst xs)) (hl : ys.length = xs.length) (hz : xs.length < sizeLine)
    (hs : ∀ (i : Nat) (x : V) (y : β) (H : Hp) (Q : V → Hp → Prop) (Q' : Hp → Prop), xs[i]? = some x → ys[i]? = some y → Same H1 H → (∀ v H4, Same H H4 → R H4 v y → Q v H4) → g x (wipe σ vs) H fun σ2 H2 => wipe σ2 vs = wipe σ vs ∧ tt σ2 H2 fun b H3 =>
      if b = true then te σ2 H3 Q else Q' H3) (hd : ∀ H acc, Same H1 H → H D = some (.lst acc) → Paired (R H) acc ys → Qd H) :
    ∃ W : Nat → Nat → Hp → Prop, (∃ m, W 0 m (upd H1 D (.lst []))) ∧ ∀ i m H, W i m H →
      ((Itl K a).stop i H ∧ Qd H) ∨ ((Itl K a).go i H ∧ ∃ Nx : Hp → Prop, (∀ H', Nx H' → ∃ m', m' < m ∧ W (i + 1) m' H') ∧ ∀ x H', (Itl K a).yld i H x H' → g x (wipe σ vs) H' fun σ2 H2 => wipe σ2 vs = wipe σ vs ∧ tt σ2 H2 fun b H3 =>
        if b = true then te σ2 H3 fun y H4 => ∃ acc, H4 D = some (.lst acc) ∧ acc.length < sizeLine ∧ Nx (upd H4 D (.lst (acc ++ [y]))) else Nx H3) := by
  refine lc_list (K := K) (xs := xs) (fun i H => Same H1 H ∧ ∃ acc, H D = some (.lst acc) ∧ Paired (R H) acc (ys.take i)) ⟨same_new hD, [], upd_same, by rw [List.take_zero]; exact .nil⟩ (fun i H _ h => isLst (h.1 _ _ ha)) (fun i x H hx h => ?_) (fun H h => ?_)
  · obtain ⟨s, acc, hA, hP⟩ := h
    have hi : i < xs.length := (List.getElem?_eq_some_iff.mp hx).1
    have hy : ys[i]? = some (ys[i]'(by omega)) := List.getElem?_eq_getElem (by omega)
    refine hs i x _ H _ _ hx hy s fun v H4 s4 r => ?_
    have hA4 := s4 _ _ hA
    have t4 : Tst H4 (upd H4 D (.lst (acc ++ [v]))) := tst_lst hA4
    refine ⟨acc, hA4, ?_, same_upd' (same_tr s s4) hD, acc ++ [v], upd_same, ?_⟩
    · have := Paired.len hP
      rw [List.length_take] at this
      omega
    · rw [List.take_add_one, hy]
      exact Paired.snoc' (Paired.imp (fun _ _ q => mo.ap t4 (mo.ap (tst_same s4) q)) hP) (mo.ap t4 r)
  · obtain ⟨s, acc, hA, hP⟩ := h
    rw [List.take_of_length_le (by omega)] at hP
    exact hd H acc s hA hP
/-- the value true, as all(..) counts it -/
def TrueV (_ : Hp) (v : V) (_ : Unit) : Prop := v = .bl true
theorem TrueV.mo : Mo TrueV := fun _ _ _ _ _ h => h
theorem trueV_list : ∀ {acc : List V} {us : List Unit} {H : Hp}, Paired (TrueV H) acc us → acc = (List.replicate us.length true).map V.bl
  | _, _, _, .nil => rfl
  | _, _, _, .cons (b := _) h t => by
    have h : _ = V.bl true := h
    rw [h, trueV_list t]
    rfl
theorem all_true (n : Nat) : (List.replicate n true).all id = true := by
  induction n with
  | zero => rfl
  | succ n ih => rw [List.replicate_succ, List.all_cons, ih]; rfl
end Wa
namespace Wa
open PySem PySem.Spec PyProof.Rows L2 Wx Wk Wz
/-! ### rules for within a comprehension (the written part by name) -/
section
variable {X : Cx} {K : PySem.W.Frag}
theorem len_K (e : X.K = K) : CallR X (.builtin "len") (fun xs H Q => ∃ p ys, xs = [.ref p] ∧ (SqL K H p ys ∨ SqT K H p ys) ∧ Q (.int ys.length) H) := e ▸ call_len_seq
theorem tup_K (e : X.K = K) : CallR X (.type "tuple") (fun xs H Q => ∃ p ys, xs = [.ref p] ∧ ((SqL K H p ys ∧ ∀ l, H l = none → Q (.ref l) (upd H l (.tup ys))) ∨ (SqT K H p ys ∧ Q (.ref p) H))) := e ▸ call_tuple_of
theorem ixt_K (e : X.K = K) : IxR X (rIxT K) := e ▸ ix_tup
theorem ixl_K (e : X.K = K) : IxR X (rIxL K) := e ▸ ix_list
theorem in_K (e : X.K = K) : OpR X (compareOp .In) (rIn K false) := e ▸ op_in_seq
theorem pit_K {tg l : Expr} {tl : TE} (e : X.K = K) (hl : PE X l tl) : PI X tg l (iTup K tl) := e ▸ pi_tup hl
theorem pil_K {tg l : Expr} {tl : TE} (e : X.K = K) (hl : PE X l tl) : PI X tg l (iList K tl) := e ▸ pi_list hl
theorem pgt_K {es : List Expr} {k : Nat} {t : TGs} {n : Nat} {pos : Pos} (e : X.K = K) (hc : X.calm = true) (h : PGs X es t)
    (hn : (assignEach es X.env).length = n := by rfl) (hst : (assignEach es X.env).findIdx? (·.1) = none := by rfl) : PG X (.Tuple es k pos) (gTup K n t) := e ▸ pg_tup hc h hn hst
end
/-- what the top left, as the walks want it -/
structure Tx (K : PySem.W.Frag) (mg : Str → Option Value) : Prop where
  z_isinstance : mg "isinstance" = none
  z_int : mg "int" = none
  z_bool : mg "bool" = none
  z_tuple : mg "tuple" = none
  z_len : mg "len" = none
  z_all : mg "all" = none
  z_any : mg "any" = none
  z_range : mg "range" = none
  z_list : mg "list" = none
  z_sorted : mg "sorted" = none
  z_zip : mg "zip" = none
  z_abs : mg "abs" = none
  z_max : mg "max" = none
  z_min : mg "min" = none
  g_MOST : ∃ t, mg "MOST" = some (.int 100 t)
  g_WIDE : ∃ t, mg "WIDE" = some (.int 9 t)
  g_SOUND : ∃ t, mg "SOUND" = some (.str "sound" t)
  d_is_whole : Df K mg "is_whole" s_is_whole
  d_is_below : Df K mg "is_below" s_is_below
  d_is_count : Df K mg "is_count" s_is_count
  d_is_row : Df K mg "is_row" s_is_row
  d_is_room : Df K mg "is_room" s_is_room
  d_is_saying : Df K mg "is_saying" s_is_saying
  d_are_steps : Df K mg "are_steps" s_are_steps
  d_need_saying : Df K mg "need_saying" s_need_saying
  d_need_counts : Df K mg "need_counts" s_need_counts
  d_need_run : Df K mg "need_run" s_need_run
  d_need_alike : Df K mg "need_alike" s_need_alike
  d_is_price : Df K mg "is_price" s_is_price
  d_are_prices : Df K mg "are_prices" s_are_prices
  d_need_prices : Df K mg "need_prices" s_need_prices
  d_cost : Df K mg "cost" s_cost
  d_first_come : Df K mg "first_come" s_first_come
  d_need_row_alike : Df K mg "need_row_alike" s_need_row_alike
  d_is_cell : Df K mg "is_cell" s_is_cell
  d_is_state : Df K mg "is_state" s_is_state
  d_is_watcher : Df K mg "is_watcher" s_is_watcher
  d_need_watcher : Df K mg "need_watcher" s_need_watcher
  d_letting : Df K mg "letting" s_letting
  d_steps_by : Df K mg "steps_by" s_steps_by
  d_mended : Df K mg "mended" s_mended
  d_need_all : Df K mg "need_all" s_need_all
  d_stepped : Df K mg "stepped" s_stepped
  d_all_steps : Df K mg "all_steps" s_all_steps
  d_led_back : Df K mg "led_back" s_led_back
  d_searched : Df K mg "searched" s_searched
  d_unsound_by : Df K mg "unsound_by" s_unsound_by
  d_sound_or_breaks : ∃ (f : Addr) (fd : FuncData), mg "sound_or_breaks" = some (.ref f) ∧ FunD K "sound_or_breaks" "sound_or_breaks" (defArgs s_sound_or_breaks) (defBody s_sound_or_breaks) (defScope s_sound_or_breaks) [] [("prices", .non)] f fd
  d_let_on : Df K mg "let_on" s_let_on
  d_in_a_row : Df K mg "in_a_row" s_in_a_row
  d_law_pot : Df K mg "_law_pot" s_law_pot
  d_law_take : Df K mg "_law_take" s_law_take
  d_law_whole : Df K mg "_law_whole" s_law_whole
  d_law_ringed : Df K mg "_law_ringed" s_law_ringed
  d_law_cost : Df K mg "_law_cost" s_law_cost
  d_law_answers : Df K mg "_law_answers" s_law_answers
  d_law_held : Df K mg "_law_held" s_law_held
  d_law_kept : Df K mg "_law_kept" s_law_kept
  d_law_keeping : Df K mg "_law_keeping" s_law_keeping
  d_law_mended : Df K mg "_law_mended" s_law_mended
  d_law_warden : Df K mg "_law_warden" s_law_warden
  d_law_unbroken : Df K mg "_law_unbroken" s_law_unbroken
  d_law_sound_pairs : Df K mg "_law_sound_pairs" s_law_sound_pairs
  d_law_run_on : Df K mg "_law_run_on" s_law_run_on
  d_law : Df K mg "law" s_law
section
variable {P : Program} {w : World} {K : PySem.W.Frag} {mg : Str → Option Value} {base : Heap}
theorem blT {p : Prop} [Decidable p] {Q : VK} {H : Hp} (h : p) (q : Q (.bl true) H) : Q (.bl (decide p)) H := by
  rw [decide_eq_true h]
  exact q
theorem blF {p : Prop} [Decidable p] {Q : VK} {H : Hp} (h : ¬ p) (q : Q (.bl false) H) : Q (.bl (decide p)) H := by
  rw [decide_eq_false h]
  exact q
theorem iteD {p A B : Prop} [Decidable p] (h : p) (a : A) : if decide p = true then A else B := by
  rw [decide_eq_true h]
  exact a
theorem iteN {p A B : Prop} [Decidable p] (h : ¬ p) (b : B) : if decide p = true then A else B := by
  rw [decide_eq_false h]
  exact b
def sp_is_whole : Sp := fun vs H Q _ => ∃ i : Int, vs = [.int i] ∧ Q (.bl true) H
theorem cal_is_whole (T : Tx K mg) : Cal P w K mg base 1 "is_whole" ["thing"] sp_is_whole := by
  refine T.d_is_whole.cal sc_is_whole (fun _ _ _ _ _ _ us hl => match us, hl with | [_], _ => rfl) (fun vs H Q E h => ?_) fun f cdv A outer s H vs Q E hr h => ?_
  · obtain ⟨i, rfl, _⟩ := h; rfl
  obtain ⟨i, rfl, q⟩ := h
  refine ⟨_, (pss_one (ps_ret (pe_and (pe_callB call_isi (by rfl) T.z_isinstance boot_isinstance (pa_cons (pv 0) (pa_cons (pe_bltn (v := .ty "int") (by rfl) T.z_int boot_int rfl) pa_nil))) (pe_one (pe_not (pe_callB call_isi (by rfl) T.z_isinstance boot_isinstance (pa_cons (pv 0) (pa_cons (pe_bltn (v := .ty "bool") (by rfl) T.z_bool boot_bool rfl) pa_nil)))))))), ?_⟩
  refine ⟨_, rfl, .int i, .ty "int", .type "int", .type "int", true, rfl, .ty _, .base (.int _), kit_ty (by decide +kernel), true, rfl, iteT ?_⟩
  exact ⟨_, rfl, .int i, .ty "bool", .type "int", .type "bool", false, rfl, .ty _, .base (.int _), kit_ty (by decide +kernel), false, rfl, q⟩
def sp_is_below : Sp := fun vs H Q _ => ∃ i j : Int, vs = [.int i, .int j] ∧ 0 ≤ i ∧ i < j ∧ Q (.bl true) H
theorem cal_is_below (T : Tx K mg) : Cal P w K mg base 2 "is_below" ["thing", "most"] sp_is_below := by
  refine T.d_is_below.cal sc_is_below (fun _ _ _ _ _ _ us hl => match us, hl with | [_, _], _ => rfl) (fun vs H Q E h => ?_) fun f cdv A outer s H vs Q E hr h => ?_
  · obtain ⟨i, j, rfl, _⟩ := h; rfl
  obtain ⟨i, j, rfl, h0, h1, q⟩ := h
  refine ⟨_, (pss_one (ps_ret (pe_and (pe_cal (cal_is_whole T) (hr.mono (by decide)) (by rfl) (pa_cons (pv 0) pa_nil)) (pe_one (pe_chain op_le op_lt pe_int (pv 0) (pv 1)))))), ?_⟩
  exact ⟨_, rfl, i, rfl, _, rfl, iteT ⟨_, rfl, _, _, rfl, rfl, _, rfl, iteD h0 ⟨_, rfl, _, _, rfl, rfl, blT h1 q⟩⟩⟩
def sp_is_count : Sp := fun vs H Q _ => ∃ i : Int, vs = [.int i] ∧ 1 ≤ i ∧ i ≤ 9 ∧ Q (.bl true) H
theorem cal_is_count (T : Tx K mg) : Cal P w K mg base 2 "is_count" ["thing"] sp_is_count := by
  refine T.d_is_count.cal sc_is_count (fun _ _ _ _ _ _ us hl => match us, hl with | [_], _ => rfl) (fun vs H Q E h => ?_) fun f cdv A outer s H vs Q E hr h => ?_
  · obtain ⟨i, rfl, _⟩ := h; rfl
  obtain ⟨i, rfl, h0, h1, q⟩ := h
  refine ⟨_, (pss_one (ps_ret (pe_and (pe_cal (cal_is_whole T) (hr.mono (by decide)) (by rfl) (pa_cons (pv 0) pa_nil)) (pe_one (pe_chain op_le op_le pe_int (pv 0) (pe_glob (v := .int 9) (by rfl) T.g_WIDE.choose_spec ⟨_, rfl⟩)))))), ?_⟩
  exact ⟨_, rfl, i, rfl, _, rfl, iteT ⟨_, rfl, _, _, rfl, rfl, _, rfl, iteD h0 ⟨_, _, rfl, rfl, blT h1 q⟩⟩⟩
def sp_is_row : Sp := fun vs H Q _ => ∃ (a : Addr) (xs : List V) (n : Nat), vs = [.ref a, .int n] ∧ H a = some (.tup xs) ∧ xs.length = n ∧ Q (.bl true) H
theorem cal_is_row (T : Tx K mg) : Cal P w K mg base 1 "is_row" ["thing", "many"] sp_is_row := by
  refine T.d_is_row.cal sc_is_row (fun _ _ _ _ _ _ us hl => match us, hl with | [_, _], _ => rfl) (fun vs H Q E h => ?_) fun f cdv A outer s H vs Q E hr h => ?_
  · obtain ⟨i, j, n, rfl, _⟩ := h; rfl
  obtain ⟨a, xs, n, rfl, ha, hn, q⟩ := h
  refine ⟨_, (pss_one (ps_ret (pe_and (pe_callB call_isi (by rfl) T.z_isinstance boot_isinstance (pa_cons (pv 0) (pa_cons (pe_bltn (v := .ty "tuple") (by rfl) T.z_tuple boot_tuple rfl) pa_nil))) (pe_one (pe_cmpR op_eq (pe_callB call_len_seq (by rfl) T.z_len PySem.boot_len (pa_cons (pv 0) pa_nil)) (pv 1) (nomark _)))))), ?_⟩
  refine ⟨_, rfl, .ref a, .ty "tuple", .type "tuple", .type "tuple", true, rfl, .ty _, .base (.tup ha), kit_ty (by decide +kernel), true, rfl, iteT ?_⟩
  exact ⟨_, rfl, a, xs, rfl, .inr (isTup ha), _, rfl, rfl, blT (by rw [hn]) q⟩
/-- a room, as is_room wants it -/
def RoomOk (D R : Nat) (x : List (List (Option Nat))) : Prop := ∀ r ∈ x, r.length = D ∧ ∀ t ∈ r, ∀ k, t = some k → k < R
def sp_is_room : Sp := fun vs H Q _ => ∃ (S D R : Nat) (v : V) (x : List (List (Option Nat))), vs = [v, .int S, .int D, .int R] ∧ SStV H v x ∧ x.length = S ∧ RoomOk D R x ∧ Q (.bl true) H
theorem cal_is_room (T : Tx K mg) : Cal P w K mg base 3 "is_room" ["thing", "signs", "deeds", "many"] sp_is_room := by
  refine T.d_is_room.cal sc_is_room (fun _ _ _ _ _ _ us hl => match us, hl with | [_, _, _, _], _ => rfl) (fun vs H Q E h => ?_) fun f cdv A outer s H vs Q E hr h => ?_
  · obtain ⟨S, D, R, v, x, rfl, _⟩ := h; rfl
  obtain ⟨S, D, R, v, x, rfl, ⟨a, rs, rfl, ha, hp⟩, hS, hx, q⟩ := h
  refine ⟨_, (pss_cons (ps_if (pt_not (pt_val (pe_cal (cal_is_row T) (hr.mono (by decide)) (by rfl) (pa_cons (pv 0) (pa_cons (pv 1) pa_nil))))) (pss_one (ps_ret pe_bl)) pss_nil)
    (pss_cons (ps_for PassesOwn.never rfl (pi_tup (pv 0)) (pg_name (i := 4) sc_is_room.nd rfl (Or.inl rfl))
      (pss_cons (ps_if (pt_not (pt_val (pe_cal (cal_is_row T) (hr.mono (by decide)) (by rfl) (pa_cons (pv 4) (pa_cons (pv 2) pa_nil))))) (pss_one (ps_ret pe_bl)) pss_nil)
    (pss_one (ps_for PassesOwn.never rfl (pi_tup (pv 4)) (pg_name (i := 5) sc_is_room.nd rfl (Or.inl rfl))
      (pss_one (ps_if (PW.pt (pw_and (pt_cmp (pc_notN (pv 5)) rfl) (pw_and1 (pt_not (pt_val (pe_cal (cal_is_below T) (hr.mono (by decide)) (by rfl) (pa_cons (pv 5) (pa_cons (pv 3) pa_nil)))))))) (pss_one (ps_ret pe_bl)) pss_nil))))))
    (pss_one (ps_ret pe_bl)))), ?_⟩
  refine ⟨_, rfl, _, rfl, a, rs, S, rfl, ha, by rw [Paired.len hp]; exact hS, true, rfl, iteF ?_⟩
  refine ⟨_, rfl, a, rfl, ⟨_, isTup ha⟩, for_tup (xs := rs) (fun i σ H' => H' = H ∧ ∃ y4 y5, σ = [some (.ref a), some (.int S), some (.int D), some (.int R), y4, y5]) ⟨rfl, _, _, rfl⟩ (fun i σ H' _ h => by rw [h.1]; exact isTup ha) (fun i r σ H' hr h => ?_) (fun σ H' h => ?_)⟩
  · obtain ⟨rfl, y4, y5, rfl⟩ := h
    obtain ⟨ro, hro, ⟨b, cs, rfl, hb, hq⟩⟩ := Paired.at' hp hr
    have hok := hx ro (List.mem_of_getElem? hro)
    refine ⟨_, rfl, _, rfl, b, cs, D, rfl, hb, by rw [Paired.len hq]; exact hok.1, true, rfl, iteF ?_⟩
    refine ⟨_, rfl, b, rfl, ⟨_, isTup hb⟩, for_tup (xs := cs) (fun j σ H1 => H1 = H' ∧ ∃ y5, σ = [some (.ref a), some (.int S), some (.int D), some (.int R), some (.ref b), y5]) ⟨rfl, _, rfl⟩ (fun j σ H1 _ h => by rw [h.1]; exact isTup hb) (fun j c σ H1 hc h => ?_) (fun σ H1 h => ?_)⟩
    · obtain ⟨rfl, y5, rfl⟩ := h
      obtain ⟨o, ho, hv⟩ := Paired.at' hq hc
      cases o with
      | none =>
        cases (show c = .non from hv)
        exact ⟨_, rfl, false, rfl, iteF (iteF ⟨rfl, _, rfl⟩)⟩
      | some k =>
        cases (show c = .int k from hv)
        have hk : k < R := hok.2 _ (List.mem_of_getElem? ho) k rfl
        exact ⟨_, rfl, true, rfl, iteT ⟨_, rfl, _, rfl, k, R, rfl, by omega, by omega, true, rfl, iteF ⟨rfl, _, rfl⟩⟩⟩
    · obtain ⟨rfl, y5, rfl⟩ := h
      exact ⟨rfl, _, _, rfl⟩
  · obtain ⟨rfl, y4, y5, rfl⟩ := h
    exact q
end
end Wa
namespace Wa
open PySem PySem.Spec PyProof.Rows L2 Wx Wk Wz
section
variable {P : Program} {w : World} {K : PySem.W.Frag} {mg : Str → Option Value} {base : Heap}
/-- all([..]) of values that are true -/
theorem all_of {K : PySem.W.Frag} {H : Hp} {D : Addr} {acc : List V} {us : List Unit} {Q : VK} (hD : H D = some (.lst acc)) (hp : Paired (TrueV H) acc us) (q : Q (.bl true) H) : rAll K [.ref D] H Q := by
  refine ⟨D, List.replicate us.length true, rfl, ?_, ?_⟩
  · rw [← trueV_list hp]
    exact isLst hD
  · rw [all_true]
    exact q
def SayOk (S D : Nat) (R : Wr.Say) : Prop := 1 ≤ R.length ∧ R.length ≤ 100 ∧ ∀ x ∈ R, x.length = S ∧ RoomOk D R.length x
def CntOk (S D : Nat) : Prop := 1 ≤ S ∧ S ≤ 9 ∧ 1 ≤ D ∧ D ≤ 9
def sp_is_saying : Sp := fun vs H Q _ => ∃ (S D : Nat) (v : V) (R : Wr.Say), vs = [v] ∧ SayV S D H v R ∧ CntOk S D ∧ SayOk S D R ∧ ∀ H', Same H H' → Q (.bl true) H'
theorem cal_is_saying (T : Tx K mg) : Cal P w K mg base 4 "is_saying" ["thing"] sp_is_saying := by
  refine T.d_is_saying.cal sc_is_saying (fun _ _ _ _ _ _ us hl => match us, hl with | [_], _ => rfl) (fun vs H Q E h => ?_) fun f cdv A outer s H vs Q E hr h => ?_
  · obtain ⟨S, D, v, R, rfl, _⟩ := h; rfl
  obtain ⟨S, D, v, R, rfl, ⟨a, y, rfl, ha, b, rs, rfl, hb, hp⟩, ⟨s1, s9, d1, d9⟩, ⟨r1, r100, hR⟩, q⟩ := h
  refine ⟨_, (pss_cons (ps_if (pt_not (pt_val (pe_cal (cal_is_row T) (hr.mono (by decide)) (by rfl) (pa_cons (pv 0) (pa_cons pe_int pa_nil))))) (pss_one (ps_ret pe_bl)) pss_nil)
    (pss_cons (ps_asg (pv 0) (pg_tup rfl (pgs_cons (pg_name (i := 1) sc_is_saying.nd rfl (Or.inr rfl)) (pgs_cons (pg_name (i := 2) sc_is_saying.nd rfl (Or.inr rfl)) (pgs_cons (pg_name (i := 3) sc_is_saying.nd rfl (Or.inr rfl)) pgs_nil)))))
    (pss_cons (ps_if (PW.pt (pw_or (pt_not (pt_val (pe_cal (cal_is_count T) (hr.mono (by decide)) (by rfl) (pa_cons (pv 1) pa_nil)))) (pw_or (pt_not (pt_val (pe_cal (cal_is_count T) (hr.mono (by decide)) (by rfl) (pa_cons (pv 2) pa_nil)))) (pw_or1 (pt_not (pt_val (pe_callB call_isi (by rfl) T.z_isinstance boot_isinstance (pa_cons (pv 3) (pa_cons (pe_bltn (v := .ty "tuple") (by rfl) T.z_tuple boot_tuple rfl) pa_nil))))))))) (pss_one (ps_ret pe_bl)) pss_nil)
    (pss_one (ps_ret (pe_and (pe_chain op_le op_le pe_int (pe_callB call_len_seq (by rfl) T.z_len PySem.boot_len (pa_cons (pv 3) pa_nil)) (pe_glob (v := .int 100) (by rfl) T.g_MOST.choose_spec ⟨_, rfl⟩)) (pe_one (pe_callB (cr_all rfl) (by rfl) T.z_all boot_all (pa_cons (pe_lc (own := [("room", 4)]) (g := (gName 4)) rfl sc_is_saying.nd (pi_tup (pv 3)) (blkOk_by (own := [("room", 4)]) (N := N_is_saying) (sc := defScope s_is_saying) (by decide +kernel)) (fun _ _ _ _ _ => (pg_name (i := 4) sc_is_saying.nd rfl (Or.inl rfl))) (fun _ _ _ _ _ => pts_nil) (fun _ _ _ _ _ => (pe_cal (cal_is_room T) (hr.mono (by decide)) (by rfl) (pa_cons (pv 4) (pa_cons (pv 1) (pa_cons (pv 2) (pa_cons (pe_callB (len_K (K := K) rfl) (by rfl) T.z_len PySem.boot_len (pa_cons (pv 3) pa_nil)) pa_nil))))))) pa_nil))))))))), ?_⟩
  have hlen : rs.length = R.length := Paired.len hp
  refine ⟨_, rfl, a, _, 3, rfl, ha, rfl, true, rfl, iteF ?_⟩
  refine ⟨_, rfl, a, _, rfl, isTup ha, rfl, _, _, rfl, _, _, rfl, _, _, rfl, rfl, ?_⟩
  refine ⟨_, rfl, S, rfl, by omega, by omega, true, rfl, iteF ⟨_, rfl, D, rfl, by omega, by omega, true, rfl, iteF ⟨_, rfl, .ref b, .ty "tuple", .type "tuple", .type "tuple", true, rfl, .ty _, .base (.tup hb), kit_ty (by decide +kernel), true, rfl, iteF ?_⟩⟩⟩
  refine ⟨_, rfl, b, rs, rfl, .inr (isTup hb), _, _, rfl, rfl, _, rfl, iteD (by omega) ⟨_, _, rfl, rfl, _, rfl, iteD (by omega) ?_⟩⟩
  refine ⟨_, rfl, b, rfl, ⟨_, isTup hb⟩, fun L hL => lcT (R := TrueV) (ys := rs.map fun _ => ()) TrueV.mo hL hb (by simp) (small1000 (by omega)) (fun i r _ H1 Q' Q'' hr _ s1 qq => ?_) (fun H1 acc s1 hA hP => ?_)⟩
  · obtain ⟨x, hx, hv⟩ := Paired.at' hp hr
    refine ⟨rfl, _, rfl, _, rfl, _, rfl, _, rfl, b, rs, rfl, .inr (isTup (s1 _ _ hb)), S, D, rs.length, r, x, rfl, SStV.mo.ap (tst_same s1) hv, (hR x (List.mem_of_getElem? hx)).1, ?_, qq _ _ same_rfl rfl⟩
    rw [hlen]
    exact (hR x (List.mem_of_getElem? hx)).2
  · exact all_of hA hP (q _ s1)
def sp_are_steps : Sp := fun vs H Q _ => ∃ (S D : Nat) (v : V) (run : List (Nat × Nat)), vs = [v, .int S, .int D] ∧ RunV H v run ∧ Wr.RunOk S D run ∧ Q (.bl true) H
theorem cal_are_steps (T : Tx K mg) : Cal P w K mg base 3 "are_steps" ["thing", "signs", "deeds"] sp_are_steps := by
  refine T.d_are_steps.cal sc_are_steps (fun _ _ _ _ _ _ us hl => match us, hl with | [_, _, _], _ => rfl) (fun vs H Q E h => ?_) fun f cdv A outer s H vs Q E hr h => ?_
  · obtain ⟨S, D, v, R, rfl, _⟩ := h; rfl
  obtain ⟨S, D, v, run, rfl, ⟨a, xs, rfl, ha, hp⟩, hok, q⟩ := h
  refine ⟨_, (pss_cons (ps_if (pt_not (pt_val (pe_callB call_isi (by rfl) T.z_isinstance boot_isinstance (pa_cons (pv 0) (pa_cons (pe_bltn (v := .ty "tuple") (by rfl) T.z_tuple boot_tuple rfl) pa_nil))))) (pss_one (ps_ret pe_bl)) pss_nil)
    (pss_cons (ps_for PassesOwn.never rfl (pi_tup (pv 0)) (pg_name (i := 3) sc_are_steps.nd rfl (Or.inl rfl))
      (pss_one (ps_if (PW.pt (pw_or (pt_not (pt_val (pe_cal (cal_is_row T) (hr.mono (by decide)) (by rfl) (pa_cons (pv 3) (pa_cons pe_int pa_nil))))) (pw_or (pt_not (pt_val (pe_cal (cal_is_below T) (hr.mono (by decide)) (by rfl) (pa_cons (pe_ix ix_tup (pv 3) pe_int (fun _ _ => rfl)) (pa_cons (pv 1) pa_nil))))) (pw_or1 (pt_not (pt_val (pe_cal (cal_is_below T) (hr.mono (by decide)) (by rfl) (pa_cons (pe_ix ix_tup (pv 3) pe_int (fun _ _ => rfl)) (pa_cons (pv 2) pa_nil))))))))) (pss_one (ps_ret pe_bl)) pss_nil)))
    (pss_one (ps_ret pe_bl)))), ?_⟩
  refine ⟨_, rfl, .ref a, .ty "tuple", .type "tuple", .type "tuple", true, rfl, .ty _, .base (.tup ha), kit_ty (by decide +kernel), true, rfl, iteF ?_⟩
  refine ⟨_, rfl, a, rfl, ⟨_, isTup ha⟩, for_tup (xs := xs) (fun i σ H' => H' = H ∧ ∃ y3, σ = [some (.ref a), some (.int S), some (.int D), y3]) ⟨rfl, _, rfl⟩ (fun i σ H' _ h => by rw [h.1]; exact isTup ha) (fun i r σ H' hr h => ?_) (fun σ H' h => ?_)⟩
  · obtain ⟨rfl, y3, rfl⟩ := h
    obtain ⟨p, hpp, ⟨b, rfl, hb⟩⟩ := Paired.at' hp hr
    obtain ⟨o1, o2⟩ := hok p (List.mem_of_getElem? hpp)
    refine ⟨_, rfl, b, _, 2, rfl, hb, rfl, true, rfl, iteF ⟨_, rfl, b, _, (0 : Nat), _, rfl, rfl, isTup hb, atI_nat rfl, _, rfl, _, _, rfl, by omega, by omega, true, rfl, iteF ⟨_, rfl, b, _, (1 : Nat), _, rfl, rfl, isTup hb, atI_nat rfl, _, rfl, _, _, rfl, by omega, by omega, true, rfl, iteF ?_⟩⟩⟩
    exact ⟨rfl, _, rfl⟩
  · obtain ⟨rfl, y3, rfl⟩ := h
    exact q
def sp_need_saying : Sp := fun vs H Q _ => ∃ (S D : Nat) (v : V) (R : Wr.Say), vs = [v] ∧ SayV S D H v R ∧ CntOk S D ∧ SayOk S D R ∧ ∀ H', Same H H' → Q .non H'
theorem cal_need_saying (T : Tx K mg) : Cal P w K mg base 5 "need_saying" ["thing"] sp_need_saying := by
  refine T.d_need_saying.cal sc_need_saying (fun _ _ _ _ _ _ us hl => match us, hl with | [_], _ => rfl) (fun vs H Q E h => ?_) fun f cdv A outer s H vs Q E hr h => ?_
  · obtain ⟨S, D, v, R, rfl, _⟩ := h; rfl
  obtain ⟨S, D, v, R, rfl, h1, h2, h3, q⟩ := h
  refine ⟨_, (pss_one (ps_if (pt_not (pt_val (pe_cal (cal_is_saying T) (hr.mono (by decide)) (by rfl) (pa_cons (pv 0) pa_nil)))) (pss_one ps_never) pss_nil)), ?_⟩
  exact ⟨_, rfl, S, D, v, R, rfl, h1, h2, h3, fun H' s' => ⟨true, rfl, iteF (q _ s')⟩⟩
def sp_need_counts : Sp := fun vs H Q _ => ∃ (S D : Nat), vs = [.int S, .int D] ∧ CntOk S D ∧ Q .non H
theorem cal_need_counts (T : Tx K mg) : Cal P w K mg base 3 "need_counts" ["signs", "deeds"] sp_need_counts := by
  refine T.d_need_counts.cal sc_need_counts (fun _ _ _ _ _ _ us hl => match us, hl with | [_, _], _ => rfl) (fun vs H Q E h => ?_) fun f cdv A outer s H vs Q E hr h => ?_
  · obtain ⟨S, D, rfl, _⟩ := h; rfl
  obtain ⟨S, D, rfl, ⟨s1, s9, d1, d9⟩, q⟩ := h
  refine ⟨_, (pss_one (ps_if (PW.pt (pw_or (pt_not (pt_val (pe_cal (cal_is_count T) (hr.mono (by decide)) (by rfl) (pa_cons (pv 0) pa_nil)))) (pw_or1 (pt_not (pt_val (pe_cal (cal_is_count T) (hr.mono (by decide)) (by rfl) (pa_cons (pv 1) pa_nil))))))) (pss_one ps_never) pss_nil)), ?_⟩
  exact ⟨_, rfl, S, rfl, by omega, by omega, true, rfl, iteF ⟨_, rfl, D, rfl, by omega, by omega, true, rfl, iteF q⟩⟩
def sp_need_run : Sp := fun vs H Q _ => ∃ (S D : Nat) (v : V) (run : List (Nat × Nat)), vs = [v, .int S, .int D] ∧ RunV H v run ∧ Wr.RunOk S D run ∧ Q .non H
theorem cal_need_run (T : Tx K mg) : Cal P w K mg base 4 "need_run" ["thing", "signs", "deeds"] sp_need_run := by
  refine T.d_need_run.cal sc_need_run (fun _ _ _ _ _ _ us hl => match us, hl with | [_, _, _], _ => rfl) (fun vs H Q E h => ?_) fun f cdv A outer s H vs Q E hr h => ?_
  · obtain ⟨S, D, v, R, rfl, _⟩ := h; rfl
  obtain ⟨S, D, v, run, rfl, h1, h2, q⟩ := h
  refine ⟨_, (pss_one (ps_if (pt_not (pt_val (pe_cal (cal_are_steps T) (hr.mono (by decide)) (by rfl) (pa_cons (pv 0) (pa_cons (pv 1) (pa_cons (pv 2) pa_nil)))))) (pss_one ps_never) pss_nil)), ?_⟩
  exact ⟨_, rfl, _, rfl, _, rfl, S, D, v, run, rfl, h1, h2, true, rfl, iteF q⟩
def sp_need_alike : Sp := fun vs H Q _ => ∃ (S D : Nat) (a b : Addr) (x y : V), vs = [.ref a, .ref b] ∧ H a = some (.tup [.int S, .int D, x]) ∧ H b = some (.tup [.int S, .int D, y]) ∧ Q .non H
theorem cal_need_alike (T : Tx K mg) : Cal P w K mg base 1 "need_alike" ["one", "other"] sp_need_alike := by
  refine T.d_need_alike.cal sc_need_alike (fun _ _ _ _ _ _ us hl => match us, hl with | [_, _], _ => rfl) (fun vs H Q E h => ?_) fun f cdv A outer s H vs Q E hr h => ?_
  · obtain ⟨S, D, a, b, x, y, rfl, _⟩ := h; rfl
  obtain ⟨S, D, a, b, x, y, rfl, ha, hb, q⟩ := h
  refine ⟨_, (pss_one (ps_if (PW.pt (pw_or (pt_cmpR op_ne (pe_ix ix_tup (pv 0) pe_int (fun _ _ => rfl)) (pe_ix ix_tup (pv 1) pe_int (fun _ _ => rfl)) (nomark _)) (pw_or1 (pt_cmpR op_ne (pe_ix ix_tup (pv 0) pe_int (fun _ _ => rfl)) (pe_ix ix_tup (pv 1) pe_int (fun _ _ => rfl)) (nomark _))))) (pss_one ps_never) pss_nil)), ?_⟩
  refine ⟨_, rfl, a, _, (0 : Nat), _, rfl, rfl, isTup ha, atI_nat rfl, _, rfl, b, _, (0 : Nat), _, rfl, rfl, isTup hb, atI_nat rfl, rfl, false, by simp, iteF ?_⟩
  exact ⟨_, rfl, a, _, (1 : Nat), _, rfl, rfl, isTup ha, atI_nat rfl, _, rfl, b, _, (1 : Nat), _, rfl, rfl, isTup hb, atI_nat rfl, rfl, false, by simp, iteF q⟩
def sp_are_prices : Sp := fun vs H Q _ => ∃ (D : V), vs = [D, .non] ∧ Q (.bl true) H
theorem cal_are_prices (T : Tx K mg) : Cal P w K mg base 1 "are_prices" ["deeds", "thing"] sp_are_prices := by
  refine T.d_are_prices.cal sc_are_prices (fun _ _ _ _ _ _ us hl => match us, hl with | [_, _], _ => rfl) (fun vs H Q E h => ?_) fun f cdv A outer s H vs Q E hr h => ?_
  · obtain ⟨D, rfl, _⟩ := h; rfl
  obtain ⟨D, rfl, q⟩ := h
  refine ⟨_, (pss_cons (ps_if (pt_cmp (pc_isN (pv 1)) rfl) (pss_one (ps_ret pe_bl)) pss_nil) pss_never), ?_⟩
  exact ⟨_, rfl, true, rfl, iteT q⟩
def sp_need_prices : Sp := fun vs H Q _ => ∃ (D : V), vs = [D, .non] ∧ Q .non H
theorem cal_need_prices (T : Tx K mg) : Cal P w K mg base 2 "need_prices" ["deeds", "prices"] sp_need_prices := by
  refine T.d_need_prices.cal sc_need_prices (fun _ _ _ _ _ _ us hl => match us, hl with | [_, _], _ => rfl) (fun vs H Q E h => ?_) fun f cdv A outer s H vs Q E hr h => ?_
  · obtain ⟨D, rfl, _⟩ := h; rfl
  obtain ⟨D, rfl, q⟩ := h
  refine ⟨_, (pss_one (ps_if (pt_not (pt_val (pe_cal (cal_are_prices T) (hr.mono (by decide)) (by rfl) (pa_cons (pv 0) (pa_cons (pv 1) pa_nil))))) (pss_one ps_never) pss_nil)), ?_⟩
  exact ⟨_, rfl, _, rfl, _, rfl, true, rfl, iteF q⟩
def sp_cost : Sp := fun vs H Q _ => ∃ (i j : Int), vs = [.non, .int i, .int j] ∧ Q (.int (if j = i then 0 else 1)) H
theorem cal_cost (T : Tx K mg) : Cal P w K mg base 1 "cost" ["prices", "wanted", "given"] sp_cost := by
  refine T.d_cost.cal sc_cost (fun _ _ _ _ _ _ us hl => match us, hl with | [_, _, _], _ => rfl) (fun vs H Q E h => ?_) fun f cdv A outer s H vs Q E hr h => ?_
  · obtain ⟨i, j, rfl, _⟩ := h; rfl
  obtain ⟨i, j, rfl, q⟩ := h
  refine ⟨_, (pss_cons (ps_if (pt_cmp (pc_isN (pv 0)) rfl) (pss_one (ps_ret (pe_ifExp (pt_cmpR op_eq (pv 2) (pv 1) (nomark _)) pe_int pe_int))) pss_nil) pss_never), ?_⟩
  refine ⟨_, rfl, true, rfl, iteT ⟨_, rfl, _, rfl, rfl, _, rfl, ?_⟩⟩
  by_cases e : j = i
  · rw [if_pos e] at q
    exact iteD (by rw [e]) q
  · rw [if_neg e] at q
    exact iteN (fun z => e (V.int.inj z)) q
end
end Wa
namespace Wa
open PySem PySem.Spec PyProof.Rows L2 Wx Wk Wz
section
variable {P : Program} {w : World} {K : PySem.W.Frag} {mg : Str → Option Value} {base : Heap}
theorem all_lst {K : PySem.W.Frag} {H : Hp} {D : Addr} {acc : List V} {us : List Unit} (hD : H D = some (.lst acc)) (hp : Paired (TrueV H) acc us) : SqL K H D ((List.replicate us.length true).map V.bl) := by
  rw [← trueV_list hp]
  exact isLst hD
theorem Paired.rep {α β : Type} {F : α → β → Prop} {a : α} {b : β} (h : F a b) : ∀ n, Paired F (List.replicate n a) (List.replicate n b)
  | 0 => .nil
  | n + 1 => .cons h (Paired.rep h n)
theorem rep_one {α : Type} {x : α} : ∀ n, (List.replicate n [x]).flatten = List.replicate n x
  | 0 => rfl
  | n + 1 => by rw [List.replicate_succ, List.flatten_cons, rep_one n]; rfl
/-- a watcher's cell as it lies -/
theorem wat_cell {S D : Nat} {H : Hp} {v : V} {w : Wr.Tab} (hv : WatV S D H v w) (hw : Wr.TOk S D w) {k s d : Nat} (hk : k < w.length) (hs : s < S) (hd : d < D) :
    ∃ a b c e g sts rows cells, v = .ref a ∧ H a = some (.tup [.int S, .int D, .ref b]) ∧ H b = some (.tup sts) ∧ sts[k]? = some (.ref c) ∧ H c = some (.tup rows) ∧ rows[s]? = some (.ref e) ∧ H e = some (.tup cells) ∧ cells[d]? = some (.ref g) ∧
      H g = some (.tup [.int (Wr.cell w k s d).1, .int (Wr.cell w k s d).2]) ∧ (Wr.cell w k s d).1 < D ∧ (Wr.cell w k s d).2 < w.length := by
  obtain ⟨st, r, e1, e2, e3, l1, l2⟩ := hw.cel hk hs hd
  obtain ⟨a, x, rfl, ha, b, sts, rfl, hb, hp⟩ := hv
  obtain ⟨x1, g1, c, rows, rfl, hc, hp1⟩ := Paired.at hp e1
  obtain ⟨x2, g2, e, cells, rfl, he, hp2⟩ := Paired.at hp1 e2
  obtain ⟨x3, g3, g, rfl, hg⟩ := Paired.at hp2 e3
  exact ⟨a, b, c, e, g, sts, rows, cells, rfl, ha, hb, g1, hc, g2, he, g3, hg, l1, l2⟩
/-- a saying's entry as it lies -/
theorem say_cell {S D : Nat} {H : Hp} {v : V} {R : Wr.Say} (hv : SayV S D H v R) {r s g : Nat} {x : List (List (Option Nat))} {y : List (Option Nat)} {o : Option Nat} (hx : R[r]? = some x) (hy : x[s]? = some y) (ho : y[g]? = some o) :
    ∃ a b c e rs rows cells u, v = .ref a ∧ H a = some (.tup [.int S, .int D, .ref b]) ∧ H b = some (.tup rs) ∧ rs[r]? = some (.ref c) ∧ H c = some (.tup rows) ∧ rows[s]? = some (.ref e) ∧ H e = some (.tup cells) ∧ cells[g]? = some u ∧ OV H u o := by
  obtain ⟨a, z, rfl, ha, b, rs, rfl, hb, hp⟩ := hv
  obtain ⟨x1, g1, c, rows, rfl, hc, hp1⟩ := Paired.at hp hx
  obtain ⟨x2, g2, e, cells, rfl, he, hp2⟩ := Paired.at hp1 hy
  obtain ⟨x3, g3, hu⟩ := Paired.at hp2 ho
  exact ⟨a, b, c, e, rs, rows, cells, x3, rfl, ha, hb, g1, hc, g2, he, g3, hu⟩
theorem room_of {R : Wr.Say} {r s g : Nat} {x : List (List (Option Nat))} {y : List (Option Nat)} {o : Option Nat} (hx : R[r]? = some x) (hy : x[s]? = some y) (ho : y[g]? = some o) : Wr.room R r s g = o := by
  unfold Wr.room
  rw [List.getD_eq_getElem?_getD, List.getD_eq_getElem?_getD, List.getD_eq_getElem?_getD, hx, Option.getD_some, hy, Option.getD_some, ho, Option.getD_some]
theorem say_get {S D : Nat} {R : Wr.Say} (hR : SayOk S D R) {r s g : Nat} (hr : r < R.length) (hs : s < S) (hg : g < D) : ∃ x y, R[r]? = some x ∧ x[s]? = some y ∧ y[g]? = some (Wr.room R r s g) := by
  have e1 := List.getElem?_eq_getElem hr
  obtain ⟨l1, ok⟩ := hR.2.2 _ (List.getElem_mem hr)
  have hs' : s < (R[r]).length := by omega
  have e2 := List.getElem?_eq_getElem hs'
  have l2 := (ok _ (List.getElem_mem hs')).1
  have hg' : g < (R[r][s]).length := by omega
  have e3 := List.getElem?_eq_getElem hg'
  refine ⟨_, _, e1, e2, ?_⟩
  rw [room_of e1 e2 e3]
  exact e3
theorem room_lt {S D : Nat} {R : Wr.Say} (hR : SayOk S D R) {r s g r' : Nat} (hr : r < R.length) (hs : s < S) (hg : g < D) (h : Wr.room R r s g = some r') : r' < R.length := by
  obtain ⟨x, y, e1, e2, e3⟩ := say_get hR hr hs hg
  exact ((hR.2.2 _ (List.mem_of_getElem? e1)).2 _ (List.mem_of_getElem? e2)).2 _ (List.mem_of_getElem? e3) _ h
def sp_is_cell : Sp := fun vs H Q _ => ∃ (D n : Nat) (v : V) (c : Nat × Nat), vs = [v, .int D, .int n] ∧ PV H v c ∧ c.1 < D ∧ c.2 < n ∧ Q (.bl true) H
theorem cal_is_cell (T : Tx K mg) : Cal P w K mg base 3 "is_cell" ["thing", "deeds", "many"] sp_is_cell := by
  refine T.d_is_cell.cal sc_is_cell (fun _ _ _ _ _ _ us hl => match us, hl with | [_, _, _], _ => rfl) (fun vs H Q E h => ?_) fun f cdv A outer s H vs Q E hr h => ?_
  · obtain ⟨D, n, v, c, rfl, _⟩ := h; rfl
  obtain ⟨D, n, v, c, rfl, ⟨b, rfl, hb⟩, h1, h2, q⟩ := h
  refine ⟨_, (pss_one (ps_ret (pe_and (pe_cal (cal_is_row T) (hr.mono (by decide)) (by rfl) (pa_cons (pv 0) (pa_cons pe_int pa_nil))) (pe_and (pe_cal (cal_is_below T) (hr.mono (by decide)) (by rfl) (pa_cons (pe_ix ix_tup (pv 0) pe_int (fun _ _ => rfl)) (pa_cons (pv 1) pa_nil))) (pe_one (pe_cal (cal_is_below T) (hr.mono (by decide)) (by rfl) (pa_cons (pe_ix ix_tup (pv 0) pe_int (fun _ _ => rfl)) (pa_cons (pv 2) pa_nil)))))))), ?_⟩
  exact ⟨_, rfl, b, _, 2, rfl, hb, rfl, true, rfl, iteT ⟨_, rfl, b, _, (0 : Nat), _, rfl, rfl, isTup hb, atI_nat rfl, _, rfl, _, _, rfl, by omega, by omega, true, rfl, iteT ⟨_, rfl, b, _, (1 : Nat), _, rfl, rfl, isTup hb, atI_nat rfl, _, rfl, _, _, rfl, by omega, by omega, q⟩⟩⟩
def sp_is_state : Sp := fun vs H Q _ => ∃ (S D n : Nat) (v : V) (st : List (List (Nat × Nat))), vs = [v, .int S, .int D, .int n] ∧ StV H v st ∧ Wr.SOk S D n st ∧ D ≤ 9 ∧ ∀ H', Same H H' → Q (.bl true) H'
theorem cal_is_state (T : Tx K mg) : Cal P w K mg base 4 "is_state" ["thing", "signs", "deeds", "many"] sp_is_state := by
  refine T.d_is_state.cal sc_is_state (fun _ _ _ _ _ _ us hl => match us, hl with | [_, _, _, _], _ => rfl) (fun vs H Q E h => ?_) fun f cdv A outer s H vs Q E hr h => ?_
  · obtain ⟨S, D, n, v, st, rfl, _⟩ := h; rfl
  obtain ⟨S, D, n, v, st, rfl, ⟨a, rs, rfl, ha, hp⟩, ⟨hS, hok⟩, hD, q⟩ := h
  refine ⟨_, (pss_cons (ps_if (pt_not (pt_val (pe_cal (cal_is_row T) (hr.mono (by decide)) (by rfl) (pa_cons (pv 0) (pa_cons (pv 1) pa_nil))))) (pss_one (ps_ret pe_bl)) pss_nil)
    (pss_cons (ps_for PassesOwn.never rfl (pi_tup (pv 0)) (pg_name (i := 4) sc_is_state.nd rfl (Or.inl rfl))
      (pss_one (ps_if (PW.pt (pw_or (pt_not (pt_val (pe_cal (cal_is_row T) (hr.mono (by decide)) (by rfl) (pa_cons (pv 4) (pa_cons (pv 2) pa_nil))))) (pw_or1 (pt_not (pt_val (pe_callB (cr_all rfl) (by rfl) T.z_all boot_all (pa_cons (pe_lc (own := [("cell", 5)]) (g := (gName 5)) rfl sc_is_state.nd (pi_tup (pv 4)) (blkOk_by (own := [("cell", 5)]) (N := N_is_state) (sc := defScope s_is_state) (by decide +kernel)) (fun _ _ _ _ _ => (pg_name (i := 5) sc_is_state.nd rfl (Or.inl rfl))) (fun _ _ _ _ _ => pts_nil) (fun _ _ _ _ _ => (pe_cal (cal_is_cell T) (hr.mono (by decide)) (by rfl) (pa_cons (pv 5) (pa_cons (pv 2) (pa_cons (pv 3) pa_nil)))))) pa_nil))))))) (pss_one (ps_ret pe_bl)) pss_nil)))
    (pss_one (ps_ret pe_bl)))), ?_⟩
  refine ⟨_, rfl, _, rfl, a, rs, S, rfl, ha, by rw [Paired.len hp]; exact hS, true, rfl, iteF ?_⟩
  refine ⟨_, rfl, a, rfl, ⟨_, isTup ha⟩, for_tup (xs := rs) (fun i σ H' => Same H H' ∧ ∃ y4 y5, σ = [some (.ref a), some (.int S), some (.int D), some (.int n), y4, y5]) ⟨same_rfl, _, _, rfl⟩ (fun i σ H' _ h => isTup (h.1 _ _ ha)) (fun i r σ H' hr h => ?_) (fun σ H' h => ?_)⟩
  · obtain ⟨s0, y4, y5, rfl⟩ := h
    obtain ⟨ro, hro, ⟨b, cs, rfl, hb, hq⟩⟩ := Paired.at' hp hr
    obtain ⟨hl, hc⟩ := hok ro (List.mem_of_getElem? hro)
    have hlen : cs.length = D := by rw [Paired.len hq]; exact hl
    have hb' := s0 _ _ hb
    refine ⟨_, rfl, _, rfl, b, cs, D, rfl, hb', hlen, true, rfl, iteF ?_⟩
    refine ⟨_, rfl, b, rfl, ⟨_, isTup hb'⟩, fun L hL => lcT (R := TrueV) (ys := cs.map fun _ => ()) TrueV.mo hL hb' (by simp) (small1000 (by omega)) (fun i r _ H1 Q' Q'' hr _ s1 qq => ?_) (fun H1 acc s1 hA hP => ?_)⟩
    · obtain ⟨x, hx, hv⟩ := Paired.at' hq hr
      obtain ⟨k1, k2⟩ := hc x (List.mem_of_getElem? hx)
      exact ⟨rfl, _, rfl, _, rfl, _, rfl, D, n, r, x, rfl, PV.mo.ap (tst_same (same_tr s0 s1)) hv, k1, k2, qq _ _ same_rfl rfl⟩
    · exact ⟨L, _, rfl, all_lst hA hP, true, congrArg V.bl (all_true _), iteF ⟨same_tr s0 s1, _, _, rfl⟩⟩
  · obtain ⟨s0, y4, y5, rfl⟩ := h
    exact q _ s0
def sp_is_watcher : Sp := fun vs H Q _ => ∃ (S D : Nat) (v : V) (x : Wr.Tab), vs = [v] ∧ WatV S D H v x ∧ CntOk S D ∧ Wr.TOk S D x ∧ x.length ≤ 100 ∧ ∀ H', Same H H' → Q (.bl true) H'
theorem cal_is_watcher (T : Tx K mg) : Cal P w K mg base 5 "is_watcher" ["thing"] sp_is_watcher := by
  refine T.d_is_watcher.cal sc_is_watcher (fun _ _ _ _ _ _ us hl => match us, hl with | [_], _ => rfl) (fun vs H Q E h => ?_) fun f cdv A outer s H vs Q E hr h => ?_
  · obtain ⟨S, D, v, R, rfl, _⟩ := h; rfl
  obtain ⟨S, D, v, R, rfl, ⟨a, y, rfl, ha, b, rs, rfl, hb, hp⟩, ⟨s1, s9, d1, d9⟩, ⟨r1, hR⟩, r100, q⟩ := h
  refine ⟨_, (pss_cons (ps_if (pt_not (pt_val (pe_cal (cal_is_row T) (hr.mono (by decide)) (by rfl) (pa_cons (pv 0) (pa_cons pe_int pa_nil))))) (pss_one (ps_ret pe_bl)) pss_nil)
    (pss_cons (ps_asg (pv 0) (pg_tup rfl (pgs_cons (pg_name (i := 1) sc_is_watcher.nd rfl (Or.inr rfl)) (pgs_cons (pg_name (i := 2) sc_is_watcher.nd rfl (Or.inr rfl)) (pgs_cons (pg_name (i := 3) sc_is_watcher.nd rfl (Or.inr rfl)) pgs_nil)))))
    (pss_cons (ps_if (PW.pt (pw_or (pt_not (pt_val (pe_cal (cal_is_count T) (hr.mono (by decide)) (by rfl) (pa_cons (pv 1) pa_nil)))) (pw_or (pt_not (pt_val (pe_cal (cal_is_count T) (hr.mono (by decide)) (by rfl) (pa_cons (pv 2) pa_nil)))) (pw_or1 (pt_not (pt_val (pe_callB call_isi (by rfl) T.z_isinstance boot_isinstance (pa_cons (pv 3) (pa_cons (pe_bltn (v := .ty "tuple") (by rfl) T.z_tuple boot_tuple rfl) pa_nil))))))))) (pss_one (ps_ret pe_bl)) pss_nil)
    (pss_one (ps_ret (pe_and (pe_chain op_le op_le pe_int (pe_callB call_len_seq (by rfl) T.z_len PySem.boot_len (pa_cons (pv 3) pa_nil)) (pe_glob (v := .int 100) (by rfl) T.g_MOST.choose_spec ⟨_, rfl⟩)) (pe_one (pe_callB (cr_all rfl) (by rfl) T.z_all boot_all (pa_cons (pe_lc (own := [("state", 4)]) (g := (gName 4)) rfl sc_is_watcher.nd (pi_tup (pv 3)) (blkOk_by (own := [("state", 4)]) (N := N_is_watcher) (sc := defScope s_is_watcher) (by decide +kernel)) (fun _ _ _ _ _ => (pg_name (i := 4) sc_is_watcher.nd rfl (Or.inl rfl))) (fun _ _ _ _ _ => pts_nil) (fun _ _ _ _ _ => (pe_cal (cal_is_state T) (hr.mono (by decide)) (by rfl) (pa_cons (pv 4) (pa_cons (pv 1) (pa_cons (pv 2) (pa_cons (pe_callB (len_K (K := K) rfl) (by rfl) T.z_len PySem.boot_len (pa_cons (pv 3) pa_nil)) pa_nil))))))) pa_nil))))))))), ?_⟩
  have hlen : rs.length = R.length := Paired.len hp
  refine ⟨_, rfl, a, _, 3, rfl, ha, rfl, true, rfl, iteF ?_⟩
  refine ⟨_, rfl, a, _, rfl, isTup ha, rfl, _, _, rfl, _, _, rfl, _, _, rfl, rfl, ?_⟩
  refine ⟨_, rfl, S, rfl, by omega, by omega, true, rfl, iteF ⟨_, rfl, D, rfl, by omega, by omega, true, rfl, iteF ⟨_, rfl, .ref b, .ty "tuple", .type "tuple", .type "tuple", true, rfl, .ty _, .base (.tup hb), kit_ty (by decide +kernel), true, rfl, iteF ?_⟩⟩⟩
  refine ⟨_, rfl, b, rs, rfl, .inr (isTup hb), _, _, rfl, rfl, _, rfl, iteD (by omega) ⟨_, _, rfl, rfl, _, rfl, iteD (by omega) ?_⟩⟩
  refine ⟨_, rfl, b, rfl, ⟨_, isTup hb⟩, fun L hL => lcT (R := TrueV) (ys := rs.map fun _ => ()) TrueV.mo hL hb (by simp) (small1000 (by omega)) (fun i r _ H1 Q' Q'' hr _ s1 qq => ?_) (fun H1 acc s1 hA hP => ?_)⟩
  · obtain ⟨x, hx, hv⟩ := Paired.at' hp hr
    refine ⟨rfl, _, rfl, _, rfl, _, rfl, _, rfl, b, rs, rfl, .inr (isTup (s1 _ _ hb)), S, D, rs.length, r, x, rfl, StV.mo.ap (tst_same s1) hv, ?_, d9, fun H2 s2 => qq _ _ s2 rfl⟩
    rw [hlen]
    exact hR x (List.mem_of_getElem? hx)
  · exact all_of hA hP (q _ s1)
def sp_need_watcher : Sp := fun vs H Q _ => ∃ (S D : Nat) (v : V) (x : Wr.Tab), vs = [v] ∧ WatV S D H v x ∧ CntOk S D ∧ Wr.TOk S D x ∧ x.length ≤ 100 ∧ ∀ H', Same H H' → Q .non H'
theorem cal_need_watcher (T : Tx K mg) : Cal P w K mg base 6 "need_watcher" ["thing"] sp_need_watcher := by
  refine T.d_need_watcher.cal sc_need_watcher (fun _ _ _ _ _ _ us hl => match us, hl with | [_], _ => rfl) (fun vs H Q E h => ?_) fun f cdv A outer s H vs Q E hr h => ?_
  · obtain ⟨S, D, v, R, rfl, _⟩ := h; rfl
  obtain ⟨S, D, v, R, rfl, h1, h2, h3, h4, q⟩ := h
  refine ⟨_, (pss_one (ps_if (pt_not (pt_val (pe_cal (cal_is_watcher T) (hr.mono (by decide)) (by rfl) (pa_cons (pv 0) pa_nil)))) (pss_one ps_never) pss_nil)), ?_⟩
  exact ⟨_, rfl, S, D, v, R, rfl, h1, h2, h3, h4, fun H' s' => ⟨true, rfl, iteF (q _ s')⟩⟩
def sp_letting : Sp := fun vs H Q _ => ∃ (S D : Nat), vs = [.int S, .int D] ∧ CntOk S D ∧ ∀ H' v', Same H H' → WatV S D H' v' (Wr.calm S D) → Q v' H'
theorem cal_letting (T : Tx K mg) : Cal P w K mg base 4 "letting" ["signs", "deeds"] sp_letting := by
  refine T.d_letting.cal sc_letting (fun _ _ _ _ _ _ us hl => match us, hl with | [_, _], _ => rfl) (fun vs H Q E h => ?_) fun f cdv A outer s H vs Q E hr h => ?_
  · obtain ⟨S, D, rfl, _⟩ := h; rfl
  obtain ⟨S, D, rfl, cnt, q⟩ := h
  refine ⟨_, (pss_cons (ps_expr (pe_cal (cal_need_counts T) (hr.mono (by decide)) (by rfl) (pa_cons (pv 0) (pa_cons (pv 1) pa_nil))))
    (pss_cons (ps_set (i := 2) sc_letting.nd rfl (Or.inl rfl) (pe_callTy call_tuple_of (by rfl) T.z_tuple boot_tuple (pa_cons (pe_lc (own := [("deed", 3)]) (g := (gName 3)) rfl sc_letting.nd (pi_range1 (by rfl) T.z_range (pa_cons (pv 1) pa_nil)) (blkOk_by (own := [("deed", 3)]) (N := N_letting) (sc := defScope s_letting) (by decide +kernel)) (fun _ _ _ _ _ => (pg_name (i := 3) sc_letting.nd rfl (Or.inl rfl))) (fun _ _ _ _ _ => pts_nil) (fun _ _ _ _ _ => (pe_tup (pa_cons (pv 3) (pa_cons pe_int pa_nil))))) pa_nil)))
    (pss_one (ps_ret (pe_tup (pa_cons (pv 0) (pa_cons (pv 1) (pa_cons (pe_tup (pa_cons (pe_op op_repA (pe_tup (pa_cons (pv 2) pa_nil)) (pv 0)) pa_nil)) pa_nil)))))))), ?_⟩
  refine ⟨_, rfl, _, rfl, S, D, rfl, cnt, ?_⟩
  obtain ⟨s1, s9, d1, d9⟩ := cnt
  refine ⟨_, rfl, D, rfl, by omega, by omega, fun L hL => lcR (n := D) (R := PV) (ys := (List.range D).map fun d => (d, 0)) PV.mo hL (by simp) (small1000 (by omega)) (fun i y H1 Q' Q'' hi hy s1 qq => ?_) (fun H1 acc s1 hA hP => ?_)⟩
  · refine ⟨rfl, _, rfl, by show 2 ≤ sizeLine; decide, fun t ht => qq _ _ (same_new ht) ⟨t, rfl, ?_⟩⟩
    rw [upd_same]
    rw [List.getElem?_map, List.getElem?_range hi] at hy
    cases hy
    simp
  · refine ⟨L, acc, rfl, .inl ⟨isLst hA, fun l hl => ?_⟩⟩
    have sl : Same H1 (upd H1 l (.tup acc)) := same_new hl
    have hrow : RowV (upd H1 l (.tup acc)) (.ref l) ((List.range D).map fun d => (d, 0)) := ⟨l, acc, rfl, upd_same, Paired.imp (fun _ _ r => PV.mo.ap (tst_same sl) r) hP⟩
    refine ⟨_, rfl, _, rfl, _, rfl, by show 1 ≤ sizeLine; decide, fun t ht => ⟨_, rfl, ?_⟩⟩
    have st : Same (upd H1 l (.tup acc)) (upd (upd H1 l (.tup acc)) t (.tup [.ref l])) := same_new ht
    -- the tuple times signs
    have fin : ∀ (H4 : Hp) (p t2 t3 : Addr), Same (upd (upd H1 l (.tup acc)) t (.tup [.ref l])) H4 → H4 p = some (.tup (List.replicate S (.ref l))) → H4 t2 = none → (upd H4 t2 (.tup [.ref p])) t3 = none → Q (.ref t3) (upd (upd H4 t2 (.tup [.ref p])) t3 (.tup [.int S, .int D, .ref t2])) := fun H4 p t2 t3 e4 hp4 ht2 ht3 => by
      have e5 : Same H4 (upd H4 t2 (.tup [.ref p])) := same_new ht2
      have e6 : Same (upd H4 t2 (.tup [.ref p])) (upd (upd H4 t2 (.tup [.ref p])) t3 (.tup [.int S, .int D, .ref t2])) := same_new ht3
      have e16 := same_tr st (same_tr e4 (same_tr e5 e6))
      refine q _ _ (same_tr s1 (same_tr sl e16)) ⟨t3, .ref t2, rfl, upd_same, t2, [.ref p], rfl, e6 _ _ upd_same, .cons ⟨p, List.replicate S (.ref l), rfl, e6 _ _ (e5 _ _ hp4), ?_⟩ .nil⟩
      have hrow' := RowV.mo.ap (tst_same e16) hrow
      exact Paired.rep hrow' S
    by_cases h1 : S = 1
    · subst h1
      refine .inl ⟨t, _, rfl, rfl, isTup upd_same, ?_⟩
      exact ⟨by show 1 ≤ sizeLine; decide, fun t2 ht2 => ⟨by show 3 ≤ sizeLine; decide, fun t3 ht3 => fin _ t t2 t3 same_rfl upd_same ht2 ht3⟩⟩
    · refine .inr ⟨t, S, _, rfl, rfl, isTup upd_same, by simp, by omega, by omega, by simp, fun p hp => ?_⟩
      refine ⟨by show 1 ≤ sizeLine; decide, fun t2 ht2 => ⟨by show 3 ≤ sizeLine; decide, fun t3 ht3 => fin _ p t2 t3 (same_new hp) ?_ ht2 ht3⟩⟩
      rw [upd_same, rep_one]
      simp
def sp_need_all : Sp := fun vs H Q _ => ∃ (S D : Nat) (v v' : V) (R : Wr.Say) (x : Wr.Tab), vs = [v, v', .non] ∧ SayV S D H v R ∧ WatV S D H v' x ∧ CntOk S D ∧ SayOk S D R ∧ Wr.TOk S D x ∧ x.length ≤ 100 ∧ ∀ H', Same H H' → Q .non H'
theorem cal_need_all (T : Tx K mg) : Cal P w K mg base 7 "need_all" ["saying", "watcher", "prices"] sp_need_all := by
  refine T.d_need_all.cal sc_need_all (fun _ _ _ _ _ _ us hl => match us, hl with | [_, _, _], _ => rfl) (fun vs H Q E h => ?_) fun f cdv A outer s H vs Q E hr h => ?_
  · obtain ⟨S, D, v, v', R, x, rfl, _⟩ := h; rfl
  obtain ⟨S, D, v, v', R, x, rfl, h1, h2, h3, h4, h5, h6, q⟩ := h
  refine ⟨_, (pss_cons (ps_expr (pe_cal (cal_need_saying T) (hr.mono (by decide)) (by rfl) (pa_cons (pv 0) pa_nil)))
    (pss_cons (ps_expr (pe_cal (cal_need_prices T) (hr.mono (by decide)) (by rfl) (pa_cons (pe_ix ix_tup (pv 0) pe_int (fun _ _ => rfl)) (pa_cons (pv 2) pa_nil))))
    (pss_cons (ps_expr (pe_cal (cal_need_watcher T) (hr.mono (by decide)) (by rfl) (pa_cons (pv 1) pa_nil)))
    (pss_one (ps_expr (pe_cal (cal_need_alike T) (hr.mono (by decide)) (by rfl) (pa_cons (pv 0) (pa_cons (pv 1) pa_nil)))))))), ?_⟩
  refine ⟨_, rfl, S, D, v, R, rfl, h1, h3, h4, fun H1 e1 => ?_⟩
  obtain ⟨a, y, rfl, ha, hy⟩ := SayV.mo.ap (tst_same e1) h1
  refine ⟨_, rfl, a, _, (1 : Nat), _, rfl, rfl, isTup ha, atI_nat rfl, _, rfl, _, rfl, ?_⟩
  have h2' := WatV.mo.ap (tst_same e1) h2
  refine ⟨_, rfl, S, D, v', x, rfl, h2', h3, h5, h6, fun H2 e2 => ?_⟩
  obtain ⟨b, z, rfl, hb, hz⟩ := WatV.mo.ap (tst_same e2) h2'
  exact ⟨_, rfl, _, rfl, S, D, a, b, y, z, rfl, e2 _ _ ha, hb, q _ (same_tr e1 e2)⟩
end
end Wa
namespace Wa
open PySem PySem.Spec PyProof.Rows L2 Wx Wk Wz
section
variable {P : Program} {w : World} {K : PySem.W.Frag} {mg : Str → Option Value} {base : Heap}
/-- a step as steps_by tells it: what mended makes of it -/
def QV (H : Hp) (v : V) (q : Nat × Nat) : Prop := ∃ (a : Addr) (x y : V), v = .ref a ∧ H a = some (.tup [.int q.1, x, .int q.2, y])
theorem QV.mo : Mo QV := fun _ _ _ _ e ⟨a, x, y, h1, h2⟩ => ⟨a, x, y, h1, e _ _ h2⟩
def sp_steps_by : Sp := fun vs H Q _ => ∃ (S D : Nat) (v r : V) (x : Wr.Tab) (run : List (Nat × Nat)), vs = [v, r] ∧ WatV S D H v x ∧ Wr.TOk S D x ∧ RunV H r run ∧ Wr.RunOk S D run ∧ run.length ≤ 1000 ∧
  ∀ H' p acc, Same H H' → H p = none → H' p = some (.lst acc) → Paired (QV H') acc (Wr.mend x 0 run) → Q (.ref p) H'
theorem cal_steps_by (T : Tx K mg) : Cal P w K mg base 1 "steps_by" ["watcher", "run"] sp_steps_by := by
  refine T.d_steps_by.cal sc_steps_by (fun _ _ _ _ _ _ us hl => match us, hl with | [_, _], _ => rfl) (fun vs H Q E h => ?_) fun f cdv A outer s H vs Q E hr h => ?_
  · obtain ⟨S, D, v, r, x, run, rfl, _⟩ := h; rfl
  obtain ⟨S, D, v, r, x, run, rfl, hw, hx, ⟨ra, rs, rfl, hra, hp⟩, hrun, hlen, q⟩ := h
  refine ⟨_, (pss_cons (ps_set (i := 2) sc_steps_by.nd rfl (Or.inl rfl) pe_int)
    (pss_cons (ps_set (i := 3) sc_steps_by.nd rfl (Or.inl rfl) (pe_lst pa_nil))
    (pss_cons (ps_for PassesOwn.never rfl (pi_tup (pv 1)) (pg_tup rfl (pgs_cons (pg_name (i := 4) sc_steps_by.nd rfl (Or.inl rfl)) (pgs_cons (pg_name (i := 5) sc_steps_by.nd rfl (Or.inl rfl)) pgs_nil)))
      (pss_cons (ps_asg (pe_ix ix_tup (pe_ix ix_tup (pe_ix ix_tup (pe_ix ix_tup (pv 0) pe_int (fun _ _ => rfl)) (pv 2) (fun _ _ => rfl)) (pv 4) (fun _ _ => rfl)) (pv 5) (fun _ _ => rfl)) (pg_tup rfl (pgs_cons (pg_name (i := 6) sc_steps_by.nd rfl (Or.inl rfl)) (pgs_cons (pg_name (i := 2) sc_steps_by.nd rfl (Or.inl rfl)) pgs_nil))))
    (pss_one (ps_expr (pe_bm PySem.F.plainAttrs_list PySem.F.slot_list_append PySem.F.type_list_append mt_append (pv 3) (pa_cons (pe_tup (pa_cons (pv 4) (pa_cons (pv 5) (pa_cons (pv 6) (pa_cons (pv 2) pa_nil))))) pa_nil))))))
    (pss_one (ps_ret (pv 3)))))), ?_⟩
  refine ⟨by show 0 ≤ sizeLine; decide, fun L hL => ?_⟩
  have e0 : Same H (upd H L (.lst [])) := same_new hL
  refine ⟨_, rfl, ra, rfl, ⟨_, isTup (e0 _ _ hra)⟩, for_tup (xs := rs) (fun i σ H' => Same H H' ∧ ∃ acc y4 y5 y6, σ = [some v, some (.ref ra), some (.int (Wr.stAt x 0 run i)), some (.ref L), y4, y5, y6] ∧ H' L = some (.lst acc) ∧ Paired (QV H') acc ((Wr.mend x 0 run).take i))
    ⟨e0, [], _, _, _, rfl, upd_same, by rw [List.take_zero]; exact .nil⟩ (fun i σ H' _ h => isTup (h.1 _ _ hra)) (fun i r σ H' hr h => ?_) (fun σ H' h => ?_)⟩
  · obtain ⟨s0, acc, y4, y5, y6, rfl, hA, hP⟩ := h
    obtain ⟨⟨s, d⟩, hsd, ⟨b, rfl, hb⟩⟩ := Paired.at' hp hr
    obtain ⟨hs, hd⟩ := hrun _ (List.mem_of_getElem? hsd)
    have hi : i < run.length := (List.getElem?_eq_some_iff.mp hsd).1
    have hk := Wr.stAt_lt hx hx.1 hrun (i := i) (by omega)
    obtain ⟨a, b1, c, e, g, sts, rows, cells, rfl, h1, h2, g1, h3, g2, h4, g3, h5, l1, l2⟩ := wat_cell (WatV.mo.ap (tst_same s0) hw) hx hk hs hd
    refine ⟨b, _, rfl, isTup (s0 _ _ hb), rfl, _, _, rfl, _, _, rfl, rfl, ?_⟩
    refine ⟨_, rfl, a, _, (2 : Nat), _, rfl, rfl, isTup h1, atI_nat rfl, _, rfl, b1, _, Wr.stAt x 0 run i, _, rfl, rfl, isTup h2, atI_nat g1, _, rfl, c, _, s, _, rfl, rfl, isTup h3, atI_nat g2, _, rfl, e, _, d, _, rfl, rfl, isTup h4, atI_nat g3, ?_⟩
    refine ⟨g, _, rfl, isTup h5, rfl, _, _, rfl, _, _, rfl, rfl, ?_⟩
    refine ⟨_, rfl, .inl ⟨rfl, _, isLst hA⟩, _, rfl, _, rfl, _, rfl, _, rfl, by show 4 ≤ sizeLine; decide, fun t ht => ?_⟩
    have s1 : Same H' (upd H' t (.tup [.int s, .int d, .int (Wr.cell x (Wr.stAt x 0 run i) s d).1, .int (Wr.cell x (Wr.stAt x 0 run i) s d).2])) := same_new ht
    have hA1 := s1 _ _ hA
    have hPl := Paired.len hP
    rw [List.length_take] at hPl
    refine ⟨L, acc, _, rfl, rfl, hA1, small1000 (by omega), ?_⟩
    have t2 := tst_lst (o := .lst (acc ++ [V.ref t])) hA1
    refine ⟨same_upd' (same_tr s0 s1) hL, acc ++ [.ref t], some (.int s), some (.int d), some (.int (Wr.cell x (Wr.stAt x 0 run i) s d).1), by rw [Wr.stAt_succ hsd]; rfl, upd_same, ?_⟩
    · rw [Wr.mend_take hsd]
      refine Paired.snoc' (Paired.imp (fun _ _ r => QV.mo.ap t2 (QV.mo.ap (tst_same s1) r)) hP) (QV.mo.ap t2 ⟨t, _, _, rfl, upd_same⟩)
  · obtain ⟨s0, acc, y4, y5, y6, rfl, hA, hP⟩ := h
    refine ⟨_, rfl, q H' L acc s0 hL hA ?_⟩
    rw [List.take_of_length_le (by rw [Wr.mend_len, ← Paired.len hp]; exact Nat.le_refl _)] at hP
    exact hP
def sp_mended : Sp := fun vs H Q _ => ∃ (S D : Nat) (v r : V) (x : Wr.Tab) (run : List (Nat × Nat)), vs = [v, r] ∧ WatV S D H v x ∧ CntOk S D ∧ Wr.TOk S D x ∧ x.length ≤ 100 ∧ RunV H r run ∧ Wr.RunOk S D run ∧ run.length ≤ 1000 ∧
  ∀ H' v', Same H H' → RunV H' v' (Wr.mend x 0 run) → Q v' H'
theorem cal_mended (T : Tx K mg) : Cal P w K mg base 7 "mended" ["watcher", "run"] sp_mended := by
  refine T.d_mended.cal sc_mended (fun _ _ _ _ _ _ us hl => match us, hl with | [_, _], _ => rfl) (fun vs H Q E h => ?_) fun f cdv A outer s H vs Q E hr h => ?_
  · obtain ⟨S, D, v, r, x, run, rfl, _⟩ := h; rfl
  obtain ⟨S, D, v, r, x, run, rfl, hw, hc, hx, h100, hr', hrun, hlen, q⟩ := h
  refine ⟨_, (pss_cons (ps_expr (pe_cal (cal_need_watcher T) (hr.mono (by decide)) (by rfl) (pa_cons (pv 0) pa_nil)))
    (pss_cons (ps_expr (pe_cal (cal_need_run T) (hr.mono (by decide)) (by rfl) (pa_cons (pv 1) (pa_cons (pe_ix ix_tup (pv 0) pe_int (fun _ _ => rfl)) (pa_cons (pe_ix ix_tup (pv 0) pe_int (fun _ _ => rfl)) pa_nil)))))
    (pss_one (ps_ret (pe_callTy call_tuple_of (by rfl) T.z_tuple boot_tuple (pa_cons (pe_lc (own := [("sign", 2), ("wanted", 3), ("given", 4), ("state", 5)]) rfl sc_mended.nd (pi_list (pe_cal (cal_steps_by T) (hr.mono (by decide)) (by rfl) (pa_cons (pv 0) (pa_cons (pv 1) pa_nil)))) (blkOk_by (own := [("sign", 2), ("wanted", 3), ("given", 4), ("state", 5)]) (N := N_mended) (sc := defScope s_mended) (by decide +kernel)) (fun _ _ _ _ _ => (pgt_K (K := K) (n := 4) rfl rfl (pgs_cons (pg_name (i := 2) sc_mended.nd rfl (Or.inl rfl)) (pgs_cons (pg_name (i := 3) sc_mended.nd rfl (Or.inl rfl)) (pgs_cons (pg_name (i := 4) sc_mended.nd rfl (Or.inl rfl)) (pgs_cons (pg_name (i := 5) sc_mended.nd rfl (Or.inl rfl)) pgs_nil)))))) (fun _ _ _ _ _ => pts_nil) (fun _ _ _ _ _ => (pe_tup (pa_cons (pv 2) (pa_cons (pv 4) pa_nil))))) pa_nil)))))), ?_⟩
  refine ⟨_, rfl, S, D, _, x, rfl, hw, hc, hx, h100, fun H1 s1 => ?_⟩
  have hw1 := WatV.mo.ap (tst_same s1) hw
  have hr1 := RunV.mo.ap (tst_same s1) hr'
  obtain ⟨a, y, rfl, ha, _⟩ := id hw1
  refine ⟨_, rfl, _, rfl, a, _, (0 : Nat), _, rfl, rfl, isTup ha, atI_nat rfl, _, rfl, a, _, (1 : Nat), _, rfl, rfl, isTup ha, atI_nat rfl, S, D, _, run, rfl, hr1, hrun, ?_⟩
  refine ⟨_, rfl, _, rfl, S, D, _, _, x, run, rfl, hw1, hx, hr1, hrun, hlen, fun H2 p acc s2 hp hA hP => ?_⟩
  have hl : acc.length = run.length := by rw [Paired.len hP, Wr.mend_len]
  refine ⟨p, rfl, ⟨_, isLst hA⟩, fun L hL => lcL (R := PV) (ys := Wr.mend x 0 run) PV.mo hL hA (Paired.len hP).symm (small1000 (by omega)) (fun i u y H3 Q' Q'' hu hy s3 qq => ?_) (fun H3 acc3 s3 hA3 hP3 => ?_)⟩
  · obtain ⟨z, hz, ⟨b, x1, y1, rfl, hb⟩⟩ := Paired.at' hP hu
    have : z = y := Option.some.inj (hz.symm.trans hy)
    subst this
    refine ⟨b, _, rfl, isTup (s3 _ _ hb), rfl, _, _, rfl, _, _, rfl, _, _, rfl, _, _, rfl, rfl, rfl, _, rfl, _, rfl, by show 2 ≤ sizeLine; decide, fun t ht => qq _ _ (same_new ht) ⟨t, rfl, upd_same⟩⟩
  · refine ⟨L, acc3, rfl, .inl ⟨isLst hA3, fun l hl => ?_⟩⟩
    have sl : Same H3 (upd H3 l (.tup acc3)) := same_new hl
    exact q _ _ (same_tr s1 (same_tr s2 (same_tr s3 sl))) ⟨l, acc3, rfl, upd_same, Paired.imp (fun _ _ r => PV.mo.ap (tst_same sl) r) hP3⟩
def sp_law_mended : Sp := fun vs H Q _ => ∃ (S D : Nat) (v r : V) (x : Wr.Tab) (run : List (Nat × Nat)), vs = [v, r] ∧ WatV S D H v x ∧ Wr.TOk S D x ∧ RunV H r run ∧ Wr.RunOk S D run ∧ run.length ≤ 1000 ∧
  ∀ H' v', Same H H' → RunV H' v' (Wr.mend x 0 run) → Q v' H'
theorem cal_law_mended (T : Tx K mg) : Cal P w K mg base 1 "_law_mended" ["watcher", "run"] sp_law_mended := by
  refine T.d_law_mended.cal sc_law_mended (fun _ _ _ _ _ _ us hl => match us, hl with | [_, _], _ => rfl) (fun vs H Q E h => ?_) fun f cdv A outer s H vs Q E hr h => ?_
  · obtain ⟨S, D, v, r, x, run, rfl, _⟩ := h; rfl
  obtain ⟨S, D, v, r, x, run, rfl, hw, hx, ⟨ra, rs, rfl, hra, hp⟩, hrun, hlen, q⟩ := h
  refine ⟨_, (pss_cons (ps_set (i := 2) sc_law_mended.nd rfl (Or.inl rfl) pe_int)
    (pss_cons (ps_set (i := 3) sc_law_mended.nd rfl (Or.inl rfl) (pe_lst pa_nil))
    (pss_cons (ps_for PassesOwn.never rfl (pi_tup (pv 1)) (pg_tup rfl (pgs_cons (pg_name (i := 4) sc_law_mended.nd rfl (Or.inl rfl)) (pgs_cons (pg_name (i := 5) sc_law_mended.nd rfl (Or.inl rfl)) pgs_nil)))
      (pss_cons (ps_asg (pe_ix ix_tup (pe_ix ix_tup (pe_ix ix_tup (pe_ix ix_tup (pv 0) pe_int (fun _ _ => rfl)) (pv 2) (fun _ _ => rfl)) (pv 4) (fun _ _ => rfl)) (pv 5) (fun _ _ => rfl)) (pg_tup rfl (pgs_cons (pg_name (i := 6) sc_law_mended.nd rfl (Or.inl rfl)) (pgs_cons (pg_name (i := 2) sc_law_mended.nd rfl (Or.inl rfl)) pgs_nil))))
    (pss_one (ps_expr (pe_bm PySem.F.plainAttrs_list PySem.F.slot_list_append PySem.F.type_list_append mt_append (pv 3) (pa_cons (pe_tup (pa_cons (pv 4) (pa_cons (pv 6) pa_nil))) pa_nil))))))
    (pss_one (ps_ret (pe_callTy call_tuple_of (by rfl) T.z_tuple boot_tuple (pa_cons (pv 3) pa_nil))))))), ?_⟩
  refine ⟨by show 0 ≤ sizeLine; decide, fun L hL => ?_⟩
  have e0 : Same H (upd H L (.lst [])) := same_new hL
  refine ⟨_, rfl, ra, rfl, ⟨_, isTup (e0 _ _ hra)⟩, for_tup (xs := rs) (fun i σ H' => Same H H' ∧ ∃ acc y4 y5 y6, σ = [some v, some (.ref ra), some (.int (Wr.stAt x 0 run i)), some (.ref L), y4, y5, y6] ∧ H' L = some (.lst acc) ∧ Paired (PV H') acc ((Wr.mend x 0 run).take i))
    ⟨e0, [], _, _, _, rfl, upd_same, by rw [List.take_zero]; exact .nil⟩ (fun i σ H' _ h => isTup (h.1 _ _ hra)) (fun i r σ H' hr h => ?_) (fun σ H' h => ?_)⟩
  · obtain ⟨s0, acc, y4, y5, y6, rfl, hA, hP⟩ := h
    obtain ⟨⟨s, d⟩, hsd, ⟨b, rfl, hb⟩⟩ := Paired.at' hp hr
    obtain ⟨hs, hd⟩ := hrun _ (List.mem_of_getElem? hsd)
    have hi : i < run.length := (List.getElem?_eq_some_iff.mp hsd).1
    have hk := Wr.stAt_lt hx hx.1 hrun (i := i) (by omega)
    obtain ⟨a, b1, c, e, g, sts, rows, cells, rfl, h1, h2, g1, h3, g2, h4, g3, h5, l1, l2⟩ := wat_cell (WatV.mo.ap (tst_same s0) hw) hx hk hs hd
    refine ⟨b, _, rfl, isTup (s0 _ _ hb), rfl, _, _, rfl, _, _, rfl, rfl, ?_⟩
    refine ⟨_, rfl, a, _, (2 : Nat), _, rfl, rfl, isTup h1, atI_nat rfl, _, rfl, b1, _, Wr.stAt x 0 run i, _, rfl, rfl, isTup h2, atI_nat g1, _, rfl, c, _, s, _, rfl, rfl, isTup h3, atI_nat g2, _, rfl, e, _, d, _, rfl, rfl, isTup h4, atI_nat g3, ?_⟩
    refine ⟨g, _, rfl, isTup h5, rfl, _, _, rfl, _, _, rfl, rfl, ?_⟩
    refine ⟨_, rfl, .inl ⟨rfl, _, isLst hA⟩, _, rfl, _, rfl, by show 2 ≤ sizeLine; decide, fun t ht => ?_⟩
    have s1 : Same H' (upd H' t (.tup [.int s, .int (Wr.cell x (Wr.stAt x 0 run i) s d).1])) := same_new ht
    have hA1 := s1 _ _ hA
    have hPl := Paired.len hP
    rw [List.length_take] at hPl
    refine ⟨L, acc, _, rfl, rfl, hA1, small1000 (by omega), ?_⟩
    have t2 := tst_lst (o := .lst (acc ++ [V.ref t])) hA1
    refine ⟨same_upd' (same_tr s0 s1) hL, acc ++ [.ref t], some (.int s), some (.int d), some (.int (Wr.cell x (Wr.stAt x 0 run i) s d).1), by rw [Wr.stAt_succ hsd]; rfl, upd_same, ?_⟩
    · rw [Wr.mend_take hsd]
      refine Paired.snoc' (Paired.imp (fun _ _ r => PV.mo.ap t2 (PV.mo.ap (tst_same s1) r)) hP) (PV.mo.ap t2 ⟨t, rfl, upd_same⟩)
  · obtain ⟨s0, acc, y4, y5, y6, rfl, hA, hP⟩ := h
    rw [List.take_of_length_le (by rw [Wr.mend_len, ← Paired.len hp]; exact Nat.le_refl _)] at hP
    refine ⟨_, rfl, L, acc, rfl, .inl ⟨isLst hA, fun l hl => ?_⟩⟩
    have sl : Same H' (upd H' l (.tup acc)) := same_new hl
    exact q _ _ (same_tr s0 sl) ⟨l, acc, rfl, upd_same, Paired.imp (fun _ _ r => PV.mo.ap (tst_same sl) r) hP⟩
def sp_stepped : Sp := fun vs H Q _ => ∃ (S D : Nat) (vs' vw vp vt : V) (R : Wr.Say) (x : Wr.Tab) (p t : Nat × Nat) (r' : Nat), vs = [vs', vw, vp, vt] ∧ SayV S D H vs' R ∧ SayOk S D R ∧ WatV S D H vw x ∧ Wr.TOk S D x ∧ PV H vp p ∧ PV H vt t ∧
  p.1 < x.length ∧ p.2 < R.length ∧ t.1 < S ∧ t.2 < D ∧ Wr.room R p.2 t.1 (Wr.cell x p.1 t.1 t.2).1 = some r' ∧
  ∀ H' a b, Same H H' → H' a = some (.tup [.int (Wr.cell x p.1 t.1 t.2).1, .ref b]) → H' b = some (.tup [.int (Wr.cell x p.1 t.1 t.2).2, .int r']) → Q (.ref a) H'
theorem cal_stepped (T : Tx K mg) : Cal P w K mg base 1 "stepped" ["saying", "watcher", "pair", "step"] sp_stepped := by
  refine T.d_stepped.cal sc_stepped (fun _ _ _ _ _ _ us hl => match us, hl with | [_, _, _, _], _ => rfl) (fun vs H Q E h => ?_) fun f cdv A outer s H vs Q E hr h => ?_
  · obtain ⟨S, D, vs', vw, vp, vt, R, x, p, t, r', rfl, _⟩ := h; rfl
  obtain ⟨S, D, vs', vw, vp, vt, R, x, ⟨i, r⟩, ⟨s, d⟩, r', rfl, hv, hR, hw, hx, ⟨pa, rfl, hpa⟩, ⟨ta, rfl, hta⟩, hi, hr, hs, hd, hroom, q⟩ := h
  refine ⟨_, (pss_cons (ps_asg (pv 2) (pg_tup rfl (pgs_cons (pg_name (i := 4) sc_stepped.nd rfl (Or.inl rfl)) (pgs_cons (pg_name (i := 5) sc_stepped.nd rfl (Or.inl rfl)) pgs_nil))))
    (pss_cons (ps_asg (pv 3) (pg_tup rfl (pgs_cons (pg_name (i := 6) sc_stepped.nd rfl (Or.inl rfl)) (pgs_cons (pg_name (i := 7) sc_stepped.nd rfl (Or.inl rfl)) pgs_nil))))
    (pss_cons (ps_asg (pe_ix ix_tup (pe_ix ix_tup (pe_ix ix_tup (pe_ix ix_tup (pv 1) pe_int (fun _ _ => rfl)) (pv 4) (fun _ _ => rfl)) (pv 6) (fun _ _ => rfl)) (pv 7) (fun _ _ => rfl)) (pg_tup rfl (pgs_cons (pg_name (i := 8) sc_stepped.nd rfl (Or.inl rfl)) (pgs_cons (pg_name (i := 9) sc_stepped.nd rfl (Or.inl rfl)) pgs_nil))))
    (pss_cons (ps_set (i := 10) sc_stepped.nd rfl (Or.inl rfl) (pe_ix ix_tup (pe_ix ix_tup (pe_ix ix_tup (pe_ix ix_tup (pv 0) pe_int (fun _ _ => rfl)) (pv 5) (fun _ _ => rfl)) (pv 6) (fun _ _ => rfl)) (pv 8) (fun _ _ => rfl)))
    (pss_one (ps_ret (pe_tup (pa_cons (pv 8) (pa_cons (pe_ifExp (pt_cmp (pc_isN (pv 10)) rfl) pe_non (pe_tup (pa_cons (pv 9) (pa_cons (pv 10) pa_nil)))) pa_nil))))))))), ?_⟩
  obtain ⟨a, b1, c, e, g, sts, rows, cells, rfl, h1, h2, g1, h3, g2, h4, g3, h5, l1, l2⟩ := wat_cell hw hx hi hs hd
  obtain ⟨X, Y, j1, j2, j3⟩ := say_get hR hr hs l1
  rw [hroom] at j3
  obtain ⟨a', b', c', e', rs', rows', cells', u, rfl, k1, k2, f1, k3, f2, k4, f3, hu⟩ := say_cell hv j1 j2 j3
  cases (show u = .int r' from hu)
  refine ⟨_, rfl, pa, _, rfl, isTup hpa, rfl, _, _, rfl, _, _, rfl, rfl, ?_⟩
  refine ⟨_, rfl, ta, _, rfl, isTup hta, rfl, _, _, rfl, _, _, rfl, rfl, ?_⟩
  refine ⟨_, rfl, a, _, (2 : Nat), _, rfl, rfl, isTup h1, atI_nat rfl, _, rfl, b1, _, i, _, rfl, rfl, isTup h2, atI_nat g1, _, rfl, c, _, s, _, rfl, rfl, isTup h3, atI_nat g2, _, rfl, e, _, d, _, rfl, rfl, isTup h4, atI_nat g3, ?_⟩
  refine ⟨g, _, rfl, isTup h5, rfl, _, _, rfl, _, _, rfl, rfl, ?_⟩
  refine ⟨_, rfl, a', _, (2 : Nat), _, rfl, rfl, isTup k1, atI_nat rfl, _, rfl, b', _, r, _, rfl, rfl, isTup k2, atI_nat f1, _, rfl, c', _, s, _, rfl, rfl, isTup k3, atI_nat f2, _, rfl, e', _, (Wr.cell x i s d).1, _, rfl, rfl, isTup k4, atI_nat f3, ?_⟩
  refine ⟨_, rfl, _, rfl, false, rfl, iteF ⟨_, rfl, _, rfl, by show 2 ≤ sizeLine; decide, fun t1 ht1 => ⟨by show 2 ≤ sizeLine; decide, fun t2 ht2 => ?_⟩⟩⟩
  exact q _ t2 t1 (same_tr (same_new ht1) (same_new ht2)) upd_same (by rw [upd_ne (fun z => by rw [← z, upd_same] at ht2; cases ht2), upd_same])
end
end Wa
namespace Wa
open PySem PySem.Spec PyProof.Rows L2 Wx Wk Wz RZ
section
variable {P : Program} {w : World} {K : PySem.W.Frag} {mg : Str → Option Value} {base : Heap}
def sp_all_steps : Sp := fun vs H Q _ => ∃ (S D : Nat) (a : Addr) (x : V), vs = [.ref a] ∧ H a = some (.tup [.int S, .int D, x]) ∧ CntOk S D ∧
  ∀ H' p acc, Same H H' → H p = none → H' p = some (.lst acc) → Paired (PV H') acc (Wr.allS S D) → Q (.ref p) H'
theorem cal_all_steps (T : Tx K mg) : Cal P w K mg base 1 "all_steps" ["saying"] sp_all_steps := by
  refine T.d_all_steps.cal sc_all_steps (fun _ _ _ _ _ _ us hl => match us, hl with | [_], _ => rfl) (fun vs H Q E h => ?_) fun f cdv A outer s H vs Q E hr h => ?_
  · obtain ⟨S, D, a, x, rfl, _⟩ := h; rfl
  obtain ⟨S, D, a, x, rfl, ha, ⟨s1, s9, d1, d9⟩, q⟩ := h
  refine ⟨_, (pss_one (ps_ret (pe_lc2 (own := [("sign", 1), ("deed", 2)]) (vs1 := [2]) rfl sc_all_steps.nd (pi_range1 (by rfl) T.z_range (pa_cons (pe_ix ix_tup (pv 0) pe_int (fun _ _ => rfl)) pa_nil)) (blkOk_by (own := [("sign", 1), ("deed", 2)]) (N := N_all_steps) (sc := defScope s_all_steps) (by decide +kernel)) (by decide) (fun _ _ _ _ _ => (pg_name (i := 1) sc_all_steps.nd rfl (Or.inl rfl))) (fun _ _ _ _ _ => pts_nil) (fun _ _ _ _ _ => (pi_range1 (by rfl) T.z_range (pa_cons (pe_ix (ixt_K (K := K) rfl) (pv 0) pe_int (fun _ _ => rfl)) pa_nil))) (fun _ _ _ _ _ => (pg_name (i := 2) sc_all_steps.nd rfl (Or.inl rfl))) (fun _ _ _ _ _ => pts_nil) (fun _ _ _ _ _ => (pe_tup (pa_cons (pv 1) (pa_cons (pv 2) pa_nil))))))), ?_⟩
  refine ⟨_, rfl, a, _, (0 : Nat), _, rfl, rfl, isTup ha, atI_nat rfl, S, rfl, by omega, by omega, fun L hL => ?_⟩
  refine ⟨fun i m H' => m = S - i ∧ i ≤ S ∧ Same H H' ∧ ∃ acc, H' L = some (.lst acc) ∧ Paired (PV H') acc (Wr.allS i D), ⟨S, rfl, Nat.zero_le _, same_new hL, [], upd_same, .nil⟩, ?_⟩
  rintro i m H' ⟨rfl, hi, s0, acc, hA, hP⟩
  by_cases hlt : i < S
  · refine .inr ⟨hlt, fun H' => Same H H' ∧ ∃ acc, H' L = some (.lst acc) ∧ Paired (PV H') acc (Wr.allS (i + 1) D), fun H2 h2 => ⟨S - (i + 1), by omega, rfl, hlt, h2⟩, fun x H2 y => ?_⟩
    obtain ⟨e, y⟩ := y
    subst e y
    refine ⟨rfl, _, rfl, a, _, (1 : Nat), _, rfl, rfl, isTup (s0 _ _ ha), atI_nat rfl, D, rfl, by omega, by omega, ?_⟩
    refine ⟨fun j m H3 => m = D - j ∧ j ≤ D ∧ Same H H3 ∧ ∃ acc, H3 L = some (.lst acc) ∧ Paired (PV H3) acc (Wr.allS i D ++ (List.range j).map fun d => (i, d)), ⟨D, rfl, Nat.zero_le _, s0, acc, hA, by simpa using hP⟩, ?_⟩
    rintro j m H3 ⟨rfl, hj, s3, acc3, hA3, hP3⟩
    by_cases hlt2 : j < D
    · refine .inr ⟨hlt2, fun H3 => Same H H3 ∧ ∃ acc, H3 L = some (.lst acc) ∧ Paired (PV H3) acc (Wr.allS i D ++ (List.range (j + 1)).map fun d => (i, d)), fun H4 h4 => ⟨D - (j + 1), by omega, rfl, hlt2, h4⟩, fun x H4 y => ?_⟩
      obtain ⟨e, y⟩ := y
      subst e y
      refine ⟨rfl, _, rfl, _, rfl, by show 2 ≤ sizeLine; decide, fun t ht => ?_⟩
      have st : Same H4 (upd H4 t (.tup [.int (0 + i), .int (0 + j)])) := same_new ht
      have hA4 := st _ _ hA3
      have t2 := tst_lst (o := .lst (acc3 ++ [V.ref t])) hA4
      have hl := Paired.len hP3
      rw [List.length_append, Wr.allS_len, List.length_map, List.length_range] at hl
      have hm : i * D ≤ 9 * 9 := Nat.mul_le_mul (by omega) d9
      refine ⟨acc3, hA4, small1000 (by omega), same_upd' (same_tr s3 st) hL, acc3 ++ [.ref t], upd_same, ?_⟩
      rw [List.range_succ, List.map_append, ← List.append_assoc]
      refine Paired.snoc' (Paired.imp (fun _ _ r => PV.mo.ap t2 (PV.mo.ap (tst_same st) r)) hP3) (PV.mo.ap t2 ⟨t, rfl, ?_⟩)
      rw [upd_same]
      simp
    · have e : j = D := by omega
      subst e
      refine .inl ⟨Nat.le_refl _, s3, acc3, hA3, ?_⟩
      rw [Wr.allS_succ]
      exact hP3
  · have e : i = S := by omega
    subst e
    exact .inl ⟨Nat.le_refl _, q H' L acc s0 hL hA hP⟩
def sp_need_row_alike : Sp := fun vs H Q _ => ∃ (S D : Nat) (a : Addr) (wvs : List V) (ws : List Wr.Tab), vs = [.ref a] ∧ H a = some (.tup wvs) ∧ Paired (WatV S D H) wvs ws ∧ wvs ≠ [] ∧ wvs.length ≤ 4 ∧ ∀ H', Same H H' → Q .non H'
theorem cal_need_row_alike (T : Tx K mg) : Cal P w K mg base 2 "need_row_alike" ["things"] sp_need_row_alike := by
  refine T.d_need_row_alike.cal sc_need_row_alike (fun _ _ _ _ _ _ us hl => match us, hl with | [_], _ => rfl) (fun vs H Q E h => ?_) fun f cdv A outer s H vs Q E hr h => ?_
  · obtain ⟨S, D, a, x, ws, rfl, _⟩ := h; rfl
  obtain ⟨S, D, a, wvs, ws, rfl, ha, hp, hne, h4, q⟩ := h
  refine ⟨_, (pss_cons (ps_asg (pv 0) (pg_star rfl (pgs_cons (pg_name (i := 1) sc_need_row_alike.nd rfl (Or.inl rfl)) (pgs_star (pg_name (i := 2) sc_need_row_alike.nd rfl (Or.inl rfl)) pgs_nil))))
    (pss_one (ps_for PassesOwn.never rfl (pi_list (pv 2)) (pg_name (i := 3) sc_need_row_alike.nd rfl (Or.inl rfl))
      (pss_one (ps_expr (pe_cal (cal_need_alike T) (hr.mono (by decide)) (by rfl) (pa_cons (pv 1) (pa_cons (pv 3) pa_nil)))))))), ?_⟩
  obtain ⟨v0, wr, rfl⟩ : ∃ v0 wr, wvs = v0 :: wr := by
    cases wvs with
    | nil => exact absurd rfl hne
    | cons x r => exact ⟨x, r, rfl⟩
  obtain ⟨y0, yr, rfl⟩ : ∃ y0 yr, ws = y0 :: yr := by
    cases hp with
    | cons _ _ => exact ⟨_, _, rfl⟩
  obtain ⟨x1, e1, a1, z1, rfl, ha1, _⟩ := Paired.at (i := 0) hp rfl
  cases e1
  refine ⟨_, rfl, a, _, wr, rfl, isTup ha, by simp at h4; omega, fun p hp' => ⟨_, _, rfl, _, _, rfl, rfl, ?_⟩⟩
  have e0 : Same H (upd H p (.lst wr)) := same_new hp'
  refine ⟨_, rfl, p, rfl, ⟨_, isLst upd_same⟩, for_list (xs := wr) (fun i σ H' => H' = upd H p (.lst wr) ∧ ∃ y3, σ = [some (.ref a), some (.ref a1), some (.ref p), y3]) ⟨rfl, _, rfl⟩ (fun i σ H' _ h => by rw [h.1]; exact isLst upd_same) (fun i r σ H' hr h => ?_) (fun σ H' h => ?_)⟩
  · obtain ⟨rfl, y3, rfl⟩ := h
    obtain ⟨x2, hx2, a2, z2, rfl, ha2, _⟩ := Paired.at' (i := i + 1) hp (by simpa using hr)
    exact ⟨_, rfl, _, rfl, S, D, a1, a2, z1, z2, rfl, e0 _ _ ha1, e0 _ _ ha2, rfl, _, rfl⟩
  · obtain ⟨rfl, y3, rfl⟩ := h
    exact q _ e0
/-- ints that are Nats -/
def KsV (H : Hp) (v : V) (ks : List Nat) : Prop := ∃ a : Addr, v = .ref a ∧ H a = some (.tup (ks.map fun (k : Nat) => V.int k))
theorem KsV.mo : Mo KsV := fun _ _ _ _ e ⟨a, h1, h2⟩ => ⟨a, h1, e _ _ h2⟩
def sp_let_on : Sp := fun vs H Q _ => ∃ (S D : Nat) (a : Addr) (wvs : List V) (ws : List Wr.Tab) (v : V) (ks : List Nat) (s d : Nat), vs = [.ref a, v, .int s, .int d] ∧ H a = some (.tup wvs) ∧ Paired (WatV S D H) wvs ws ∧ (∀ w ∈ ws, Wr.TOk S D w) ∧ KsV H v ks ∧ Wr.KOk ws ks ∧ ws.length ≤ 4 ∧ s < S ∧ d < D ∧
  ∀ H' p v', Same H H' → H' p = some (.tup [.int (Wr.letOn ws ks s d).1, v']) → KsV H' v' (Wr.letOn ws ks s d).2 → Q (.ref p) H'
theorem cal_let_on (T : Tx K mg) : Cal P w K mg base 1 "let_on" ["watchers", "states", "sign", "deed"] sp_let_on := by
  refine T.d_let_on.cal sc_let_on (fun _ _ _ _ _ _ us hl => match us, hl with | [_, _, _, _], _ => rfl) (fun vs H Q E h => ?_) fun f cdv A outer s H vs Q E hr h => ?_
  · obtain ⟨S, D, a, wvs, ws, v, ks, s, d, rfl, _⟩ := h; rfl
  obtain ⟨S, D, a, wvs, ws, v, ks, s, d, rfl, ha, hp, hok, ⟨b, rfl, hb⟩, hk, h4, hs, hd, q⟩ := h
  refine ⟨_, (pss_cons (ps_set (i := 4) sc_let_on.nd rfl (Or.inl rfl) (pe_lst pa_nil))
    (pss_cons (ps_for PassesOwn.never rfl (pi_zipA (by rfl) T.z_zip (pa_cons (pv 0) (pa_cons (pv 1) pa_nil))) (pg_tup rfl (pgs_cons (pg_name (i := 5) sc_let_on.nd rfl (Or.inl rfl)) (pgs_cons (pg_name (i := 6) sc_let_on.nd rfl (Or.inl rfl)) pgs_nil)))
      (pss_cons (ps_asg (pe_ix ix_tup (pe_ix ix_tup (pe_ix ix_tup (pe_ix ix_tup (pv 5) pe_int (fun _ _ => rfl)) (pv 6) (fun _ _ => rfl)) (pv 2) (fun _ _ => rfl)) (pv 3) (fun _ _ => rfl)) (pg_tup rfl (pgs_cons (pg_name (i := 3) sc_let_on.nd rfl (Or.inl rfl)) (pgs_cons (pg_name (i := 7) sc_let_on.nd rfl (Or.inl rfl)) pgs_nil))))
    (pss_one (ps_expr (pe_bm PySem.F.plainAttrs_list PySem.F.slot_list_append PySem.F.type_list_append mt_append (pv 4) (pa_cons (pv 7) pa_nil))))))
    (pss_one (ps_ret (pe_tup (pa_cons (pv 3) (pa_cons (pe_callTy call_tuple_of (by rfl) T.z_tuple boot_tuple (pa_cons (pv 4) pa_nil)) pa_nil))))))), ?_⟩
  refine ⟨by show 0 ≤ sizeLine; decide, fun L hL => ?_⟩
  have e0 : Same H (upd H L (.lst [])) := same_new hL
  have hlen : wvs.length = ws.length := Paired.len hp
  have hkl := hk.len
  refine ⟨_, rfl, _, rfl, a, b, wvs, _, rfl, .inr ⟨isTup (e0 _ _ ha), isTup (e0 _ _ hb), for_zipT (by simp; omega) (fun i σ H' => Same H H' ∧ ∃ y5 y6 y7, σ = [some (.ref a), some (.ref b), some (.int s), some (.int (Wr.letTo ws ks s d i).1), some (.ref L), y5, y6, y7] ∧ H' L = some (.lst ((Wr.letTo ws ks s d i).2.map fun (k : Nat) => V.int k)))
    ⟨e0, _, _, _, rfl, upd_same⟩ (fun i σ H' h => ⟨isTup (h.1 _ _ ha), isTup (h.1 _ _ hb)⟩) (fun i x y t σ H' hx hy h ht => ?_) (fun σ H' h => ?_)⟩⟩
  · obtain ⟨s0, y5, y6, y7, rfl, hA⟩ := h
    have st : Same H' (upd H' t (.tup [x, y])) := same_new ht
    have s1 := same_tr s0 st
    obtain ⟨w', hw', hv⟩ := Paired.at' hp hx
    obtain ⟨k, hk', rfl⟩ : ∃ k, ks[i]? = some k ∧ y = .int k := by
      rw [List.getElem?_map] at hy
      cases e : ks[i]? with
      | none => rw [e] at hy; cases hy
      | some k => rw [e] at hy; exact ⟨k, rfl, (Option.some.inj hy).symm⟩
    have hw'' := hok w' (List.mem_of_getElem? hw')
    obtain ⟨a1, b1, c, e, g, sts, rows, cells, rfl, h1, h2, g1, h3, g2, h4', g3, h5, l1, l2⟩ := wat_cell (WatV.mo.ap (tst_same s1) hv) hw'' (Wr.kok_at hk hw' hk') hs (Wr.letTo_lt hk hok hs hd i)
    refine ⟨t, _, rfl, isTup upd_same, rfl, _, _, rfl, _, _, rfl, rfl, ?_⟩
    refine ⟨_, rfl, a1, _, (2 : Nat), _, rfl, rfl, isTup h1, atI_nat rfl, _, rfl, b1, _, k, _, rfl, rfl, isTup h2, atI_nat g1, _, rfl, c, _, s, _, rfl, rfl, isTup h3, atI_nat g2, _, rfl, e, _, (Wr.letTo ws ks s d i).1, _, rfl, rfl, isTup h4', atI_nat g3, ?_⟩
    refine ⟨g, _, rfl, isTup h5, rfl, _, _, rfl, _, _, rfl, rfl, ?_⟩
    have hA1 := st _ _ hA
    have hi := (List.getElem?_eq_some_iff.mp hw').1
    refine ⟨_, rfl, .inl ⟨rfl, _, isLst hA1⟩, _, rfl, L, _, _, rfl, rfl, hA1, small1000 ?_, ?_⟩
    · rw [List.length_map]
      have := Wr.letOn_len (ws := ws.take i) (a := ks.take i) (s := s) (d := d) (by rw [List.length_take, List.length_take]; omega)
      rw [List.length_take] at this
      show (Wr.letOn (ws.take i) (ks.take i) s d).2.length ≤ 1000
      omega
    · refine ⟨same_upd' s1 hL, some (.ref a1), some (.int k), some (.int (Wr.cell w' k s (Wr.letTo ws ks s d i).1).2), ?_, ?_⟩
      · rw [Wr.letTo_succ hkl hw' hk']; rfl
      · rw [upd_same, Wr.letTo_succ hkl hw' hk']
        simp
  · obtain ⟨s0, y5, y6, y7, rfl, hA⟩ := h
    rw [hlen, Wr.letTo_all hkl] at *
    refine ⟨_, rfl, _, rfl, L, _, rfl, .inl ⟨isLst hA, fun l hl => ⟨by show 2 ≤ sizeLine; decide, fun t ht => ?_⟩⟩⟩
    exact q _ t _ (same_tr s0 (same_tr (same_new hl) (same_new ht))) upd_same ⟨l, rfl, by rw [upd_ne (fun z => by rw [← z, upd_same] at ht; cases ht), upd_same]⟩
end
end Wa
namespace Wa
open PySem PySem.Spec PyProof.Rows L2 Wx Wk Wz Wc RZ NdefX LamX
/-! ### the def within in_a_row -/
abbrev s_follow : Stmt := (defBody s_in_a_row).getD 4 (.Pass ⟨0, 0, 0, 0⟩)
abbrev N_follow : List Str := ["at", "sign", "deed", "watchers"]
abbrev mkF (c c' : Addr) : NF := NF.of s_follow "follow" "in_a_row.<locals>.follow" [("watchers", c)] c'
theorem sc_follow0 : NScope N_follow ["at", "sign", "deed"] ["watchers"] (C8.fnScope s_follow) := nscope_by (by decide +kernel)
theorem sc_follow (c c' : Addr) : NScope N_follow ["at", "sign", "deed"] ["watchers"] (mkF c c').scope := sc_follow0
section
variable {P : Program} {w : World} {K : PySem.W.Frag} {mg : Str → Option Value} {base : Heap}
/-- the row of watchers as it lies at a -/
def RowAt (S D : Nat) (H : Hp) (a : Addr) (ws : List Wr.Tab) : Prop := ∃ wvs, H a = some (.tup wvs) ∧ Paired (WatV S D H) wvs ws
theorem RowAt.mo {S D : Nat} {H H' : Hp} {a : Addr} {ws : List Wr.Tab} (e : Tst H H') : RowAt S D H a ws → RowAt S D H' a ws := fun ⟨wvs, h1, h2⟩ => ⟨wvs, e _ _ h1, Paired.imp (fun _ _ r => WatV.mo.ap e r) h2⟩
def sp_follow : List (Option V) → Sp := fun ws vs H Q _ => ∃ (S D : Nat) (a : Addr) (wl : List Wr.Tab) (v : V) (ks : List Nat) (s d : Nat), ws = [some (.ref a)] ∧ vs = [v, .int s, .int d] ∧ RowAt S D H a wl ∧ (∀ w ∈ wl, Wr.TOk S D w) ∧ KsV H v ks ∧ Wr.KOk wl ks ∧ wl.length ≤ 4 ∧ s < S ∧ d < D ∧
  ∀ H' v', Same H H' → KsV H' v' (Wr.letOn wl ks s d).2 → Q v' H'
theorem nok_follow (T : Tx K mg) (f c c' : Addr) : NOk P w K mg base CX0 2 f (mkF c c') ["at", "sign", "deed"] ["watchers"] sp_follow := by
  refine nok_of (sc_follow c c') (fun _ _ _ us hl => match us, hl with | [_, _, _], _ => rfl) (fun ws vs H Q E h => ?_) fun A outer s H vs ws Q E hr _ _ _ h => ?_
  · obtain ⟨S, D, a, wl, v, ks, s, d, _, rfl, _⟩ := h; rfl
  obtain ⟨S, D, a, wl, v, ks, s, d, rfl, rfl, ⟨wvs, ha, hp⟩, hok, hv, hk, h4, hs, hd, q⟩ := h
  refine ⟨_, (show PSs (ncx CX0 P w K mg base N_follow (mkF c c') f A outer _ H E).nox (mkF c c').body _ from
    (pss_one (ps_ret (pe_ix ix_tup (pe_cal (cal_let_on T) (hr.mono (by decide)) (by rfl) (pa_cons (pv 3) (pa_cons (pv 0) (pa_cons (pv 1) (pa_cons (pv 2) pa_nil))))) pe_int (fun _ _ => rfl))))).nox, ?_⟩
  refine ⟨_, rfl, _, rfl, _, rfl, _, rfl, S, D, a, wvs, wl, v, ks, s, d, rfl, ha, hp, hok, hv, hk, h4, hs, hd, fun H' p v' s' hp' hv' => ?_⟩
  exact ⟨p, _, (1 : Nat), _, rfl, rfl, isTup hp', atI_nat rfl, q _ _ s' hv'⟩
/-! ### first_come -/
/-- the function that is followed, as first_come knows it -/
structure Fol (S D : Nat) (H : Hp) (f a : Addr) (ws : List Wr.Tab) : Prop where
  ex : ∃ (c c' : Addr) (o : Obj) (u : Value), H f = some (FnO f (mkF c c')) ∧ H c' = some (CodeO c' "in_a_row.<locals>.follow") ∧ H c = some (ObjO c o) ∧ o.data = .cell (some u) ∧ RelV (.ref a) u
  row : RowAt S D H a ws
theorem Fol.mo {S D : Nat} {H H' : Hp} {f a : Addr} {ws : List Wr.Tab} (F : Fol S D H f a ws) (e : Same H H') : Fol S D H' f a ws := by
  obtain ⟨⟨c, c', o, u, h1, h2, h3, h4, h5⟩, r⟩ := F
  exact ⟨⟨c, c', o, u, e _ _ h1, e _ _ h2, e _ _ h3, h4, h5⟩, r.mo (tst_same e)⟩
def kk (ks : List Nat) : List Key := ks.map fun (k : Nat) => (Sum.inl (k : Int) : Key)
theorem kk_inj : ∀ {a b : List Nat}, kk a = kk b → a = b
  | [], [], _ => rfl
  | [], _ :: _, h => by cases h
  | _ :: _, [], h => by cases h
  | x :: a, y :: b, h => by
    have h1 : (Sum.inl (x : Int) : Key) = Sum.inl (y : Int) := (List.cons.inj h).1
    have h2 := kk_inj (List.cons.inj h).2
    have h3 : (x : Int) = (y : Int) := Sum.inl.inj h1
    rw [h2, Int.ofNat.inj h3]
theorem kk_V (ks : List Nat) : (kk ks).map kV = ks.map fun (k : Nat) => V.int k := by
  induction ks with
  | nil => rfl
  | cons k r ih =>
    show kV (Sum.inl (k : Int)) :: (kk r).map kV = _
    rw [ih]
    rfl
/-- the numbers given so far -/
def NumD (kvs : List (List Key × V)) (cur : List (List Nat)) : Prop := kvs.length = cur.length ∧ ∀ ks, valV kvs (kk ks) = if ks ∈ cur then some (.int (Wr.num cur ks)) else none
theorem num_old {cur : List (List Nat)} {ks ms : List Nat} (h : ks ∈ cur) : Wr.num (cur ++ [ms]) ks = Wr.num cur ks := Wr.num_pre (List.prefix_append _ _) h
theorem numD_new {kvs : List (List Key × V)} {cur : List (List Nat)} {ks : List Nat} (h : NumD kvs cur) (hn : ks ∉ cur) : NumD (putK kvs (kk ks) (.int cur.length)) (cur ++ [ks]) := by
  have hv : valV kvs (kk ks) = none := by rw [h.2, if_neg hn]
  refine ⟨by rw [putK_new _ hv, List.length_append, List.length_append, h.1]; rfl, fun ms => ?_⟩
  rw [valV_put]
  by_cases e : ms = ks
  · subst e
    rw [if_pos rfl, if_pos (by simp), Wr.num_new hn]
  · rw [if_neg (fun z => e (kk_inj z)), h.2]
    by_cases hm : ms ∈ cur
    · rw [if_pos hm, if_pos (by simp [hm]), num_old hm]
    · rw [if_neg hm, if_neg (by simp [hm, e])]
abbrev NRow := Tp (Tp NV)
theorem NRow.mo : Mo NRow := Tp.mo (Tp.mo NV.mo)
/-- where first_come stands: things cur, the rows tn told -/
structure Fcs (H0 : Hp) (lt nd tb : Addr) (cur : List (List Nat)) (tn : List (List (List Nat))) (H : Hp) : Prop where
  same : Same H0 H
  lt : ∃ tvs, H lt = some (.lst tvs) ∧ Paired (KsV H) tvs cur
  nd : ∃ kvs, H nd = some (.dT kvs) ∧ NumD kvs cur
  tb : ∃ rvs, H tb = some (.lst rvs) ∧ Paired (NRow H) rvs tn
structure Apart (H0 : Hp) (lt nd tb : Addr) : Prop where
  l : H0 lt = none
  n : H0 nd = none
  t : H0 tb = none
  ln : lt ≠ nd
  lt' : lt ≠ tb
  nt : nd ≠ tb
section
variable {H0 H H' : Hp} {lt nd tb p : Addr} {cur : List (List Nat)} {tn : List (List (List Nat))}
theorem Fcs.mo (F : Fcs H0 lt nd tb cur tn H) (e : Same H H') : Fcs H0 lt nd tb cur tn H' := by
  obtain ⟨s, ⟨tvs, a1, a2⟩, ⟨kvs, b1, b2⟩, ⟨rvs, c1, c2⟩⟩ := F
  exact ⟨same_tr s e, ⟨tvs, e _ _ a1, Paired.imp (fun _ _ r => KsV.mo.ap (tst_same e) r) a2⟩, ⟨kvs, e _ _ b1, b2⟩, ⟨rvs, e _ _ c1, Paired.imp (fun _ _ r => NRow.mo.ap (tst_same e) r) c2⟩⟩
/-- a list elsewhere is written -/
theorem Fcs.off (F : Fcs H0 lt nd tb cur tn H) {xs ys : List V} (h0 : H0 p = none) (hp : H p = some (.lst xs)) (h1 : p ≠ lt) (h2 : p ≠ tb) : Fcs H0 lt nd tb cur tn (upd H p (.lst ys)) := by
  obtain ⟨s, ⟨tvs, a1, a2⟩, ⟨kvs, b1, b2⟩, ⟨rvs, c1, c2⟩⟩ := F
  have t := tst_lst (o := .lst ys) hp
  refine ⟨same_upd' s h0, ⟨tvs, by rw [upd_ne h1.symm]; exact a1, Paired.imp (fun _ _ r => KsV.mo.ap t r) a2⟩, ⟨kvs, ?_, b2⟩, ⟨rvs, by rw [upd_ne h2.symm]; exact c1, Paired.imp (fun _ _ r => NRow.mo.ap t r) c2⟩⟩
  rw [upd_ne (ne_of b1 hp (by intro z; cases z))]
  exact b1
end
end
end Wa
namespace Wa
open PySem PySem.Spec PyProof.Rows L2 Wx Wk Wz Wc RZ NdefX LamX
section
variable {P : Program} {w : World} {K : PySem.W.Frag} {mg : Str → Option Value} {base : Heap}
theorem tst_drop {H : Hp} {c : Addr} {o : Obj} (h : H c = some (ObjO c o)) : Tst H (drop H c) := fun b xs e => by
  rw [drop_ne (ne_of e h (fun z => objO_ne (fun φ => by intro y; cases y) z.symm))]
  exact e
theorem tst_undrop {H : Hp} {c : Addr} {o : HO} (h : H c = none) : Tst H (upd H c o) := tst_new h
theorem same_undrop {H H4 : Hp} {c : Addr} {o : Obj} (h : H c = some (ObjO c o)) (s : Same (drop H c) H4) : Same H (upd H4 c (ObjO c o)) := fun b u e => by
  by_cases hb : b = c
  · subst hb
    rw [upd_same, ← h]
    exact e
  · rw [upd_ne hb]
    exact s b u (by rw [drop_ne hb]; exact e)
section
variable {H0 H : Hp} {lt nd tb : Addr} {cur : List (List Nat)} {tn : List (List (List Nat))}
/-- a thing is numbered -/
theorem Fcs.add (F : Fcs H0 lt nd tb cur tn H) (A : Apart H0 lt nd tb) {tvs : List V} {kvs : List (List Key × V)} {v : V} {ks : List Nat} (h1 : H lt = some (.lst tvs)) (h2 : H nd = some (.dT kvs)) (hv : KsV H v ks) (hn : ks ∉ cur) :
    Fcs H0 lt nd tb (cur ++ [ks]) tn (upd (upd H nd (.dT (putK kvs (kk ks) (.int tvs.length)))) lt (.lst (tvs ++ [v]))) := by
  obtain ⟨s, ⟨tvs', a1, a2⟩, ⟨kvs', b1, b2⟩, ⟨rvs, c1, c2⟩⟩ := F
  cases h1.symm.trans a1
  cases h2.symm.trans b1
  have t1 : Tst H (upd H nd (.dT (putK kvs (kk ks) (.int tvs.length)))) := tst_upd h2 (fun _ z => by cases z)
  have h1' : (upd H nd (.dT (putK kvs (kk ks) (.int tvs.length)))) lt = some (.lst tvs) := by rw [upd_ne A.ln]; exact h1
  have t2 := tst_lst (o := .lst (tvs ++ [v])) h1'
  have t := t1.trans t2
  refine ⟨same_upd' (same_upd' s A.n) A.l, ⟨_, upd_same, Paired.snoc' (Paired.imp (fun _ _ r => KsV.mo.ap t r) a2) (KsV.mo.ap t hv)⟩, ⟨_, by rw [upd_ne A.ln.symm, upd_same], ?_⟩, ⟨rvs, by rw [upd_ne A.lt'.symm, upd_ne A.nt.symm]; exact c1, Paired.imp (fun _ _ r => NRow.mo.ap t r) c2⟩⟩
  rw [show (tvs.length : Int) = (cur.length : Int) by rw [Paired.len a2]]
  exact numD_new b2 hn
/-- a row is told -/
theorem Fcs.tell (F : Fcs H0 lt nd tb cur tn H) (A : Apart H0 lt nd tb) {rvs : List V} {v : V} {r : List (List Nat)} (h1 : H tb = some (.lst rvs)) (hv : NRow H v r) : Fcs H0 lt nd tb cur (tn ++ [r]) (upd H tb (.lst (rvs ++ [v]))) := by
  obtain ⟨s, ⟨tvs, a1, a2⟩, ⟨kvs, b1, b2⟩, ⟨rvs', c1, c2⟩⟩ := F
  cases h1.symm.trans c1
  have t := tst_lst (o := .lst (rvs ++ [v])) h1
  exact ⟨same_upd' s A.t, ⟨tvs, by rw [upd_ne A.lt']; exact a1, Paired.imp (fun _ _ r => KsV.mo.ap t r) a2⟩, ⟨kvs, by rw [upd_ne A.nt]; exact b1, b2⟩, ⟨_, upd_same, Paired.snoc' (Paired.imp (fun _ _ r => NRow.mo.ap t r) c2) (NRow.mo.ap t hv)⟩⟩
end
def sp_first_come : Sp := fun vs H Q _ => ∃ (S D : Nat) (v0 : V) (f a : Addr) (ws : List Wr.Tab), vs = [.int S, .int D, v0, .ref f] ∧ CntOk S D ∧ KsV H v0 (List.replicate ws.length 0) ∧ Fol S D H f a ws ∧ (∀ w ∈ ws, Wr.TOk S D w) ∧ ws.length ≤ 4 ∧ Wr.prodL ws ≤ 100 ∧
  ∀ H' p q1 q2, Same H H' → H' p = some (.tup [q1, q2]) → Tp KsV H' q1 (Wr.T S D ws) → Tp NRow H' q2 ((Wr.T S D ws).map (Wr.nrow S D ws)) → Q (.ref p) H'
theorem cal_first_come (T : Tx K mg) : Cal P w K mg base 3 "first_come" ["signs", "deeds", "begin", "follow"] sp_first_come := by
  refine T.d_first_come.cal sc_first_come (fun _ _ _ _ _ _ us hl => match us, hl with | [_, _, _, _], _ => rfl) (fun vs H Q E h => ?_) fun f cdv A outer s H vs Q E hr h => ?_
  · obtain ⟨S, D, v0, f, a, ws, rfl, _⟩ := h; rfl
  obtain ⟨S, D, v0, f, a, ws, rfl, ⟨s1, s9, d1, d9⟩, hv0, hF, hok, h4, hp, q⟩ := h
  refine ⟨_, (pss_cons (ps_set (i := 4) sc_first_come.nd rfl (Or.inr rfl) (pe_lst (pa_cons (pv 2) pa_nil)))
    (pss_cons (ps_set (i := 5) sc_first_come.nd rfl (Or.inr rfl) (pe_dispT (hu_of hr) (pv 2) pe_int))
    (pss_cons (ps_set (i := 6) sc_first_come.nd rfl (Or.inr rfl) (pe_lst pa_nil))
    (pss_cons (ps_while PassesOwn.never (pt_cmpR op_lt (pe_callB call_len_seq (by rfl) T.z_len PySem.boot_len (pa_cons (pv 6) pa_nil)) (pe_callB call_len_seq (by rfl) T.z_len PySem.boot_len (pa_cons (pv 4) pa_nil)) (nomark _))
      (pss_cons (ps_set (i := 7) sc_first_come.nd rfl (Or.inl rfl) (pe_lst pa_nil))
    (pss_cons (ps_for PassesOwn.never rfl (pi_range1 (by rfl) T.z_range (pa_cons (pv 0) pa_nil)) (pg_name (i := 8) sc_first_come.nd rfl (Or.inr rfl))
      (pss_cons (ps_setLc (i := 9) (own := [("deed", 11)]) (g := (gName 11)) rfl sc_first_come.nd rfl rfl (sw_true rfl rfl rfl (by decide +kernel)) (pi_range1 (by rfl) T.z_range (pa_cons (pv 1) pa_nil)) (blkOk_by (own := [("deed", 11)]) (N := N_first_come) (sc := defScope s_first_come) (by decide +kernel)) (fun _ _ _ _ _ => (pg_name (i := 11) sc_first_come.nd rfl (Or.inl rfl))) (fun _ _ _ _ _ => pts_nil) (fun _ _ _ _ _ => (pe_clo (mk := mkF) (i := 3) (sp := sp_follow) (nok_follow T) (fun _ _ => rfl) (hr.mono (by decide)) rfl (by first | exact Or.inl rfl | exact Or.inr (Or.inl rfl) | exact Or.inr (Or.inr rfl)) (pa_cons (pe_ix (ixl_K (K := K) rfl) (pv 4) (pe_callB (len_K (K := K) rfl) (by rfl) T.z_len PySem.boot_len (pa_cons (pv 6) pa_nil)) (fun _ _ => rfl)) (pa_cons (pv 8) (pa_cons (pv 11) pa_nil))))))
    (pss_cons (ps_for PassesOwn.never rfl (pi_list (pv 9)) (pg_name (i := 10) sc_first_come.nd rfl (Or.inl rfl))
      (pss_one (ps_if (PW.pt (pw_and (pt_cmp (pc_notN (pv 10)) rfl) (pw_and1 (pt_cmp (pc_dnotin (hu_of hr) (pv 10) (pv 5)) (by with_unfolding_all rfl))))) (pss_cons (ps_dput (hu_of hr) (pv 5) (pv 10) (pe_callB call_len_seq (by rfl) T.z_len PySem.boot_len (pa_cons (pv 4) pa_nil)) rfl)
    (pss_one (ps_expr (pe_bm PySem.F.plainAttrs_list PySem.F.slot_list_append PySem.F.type_list_append mt_append (pv 4) (pa_cons (pv 10) pa_nil))))) pss_nil)))
    (pss_cons (ps_if (pt_cmpR op_gt (pe_callB call_len_seq (by rfl) T.z_len PySem.boot_len (pa_cons (pv 4) pa_nil)) (pe_glob (v := .int 100) (by rfl) T.g_MOST.choose_spec ⟨_, rfl⟩) (nomark _)) (pss_one ps_never) pss_nil)
    (pss_one (ps_expr (pe_bm PySem.F.plainAttrs_list PySem.F.slot_list_append PySem.F.type_list_append mt_append (pv 7) (pa_cons (pe_callTy call_tuple_of (by rfl) T.z_tuple boot_tuple (pa_cons (pe_lc (own := [("thing", 10)]) (g := (gName 10)) rfl sc_first_come.nd (pi_list (pv 9)) (blkOk_by (own := [("thing", 10)]) (N := N_first_come) (sc := defScope s_first_come) (by decide +kernel)) (fun _ _ _ _ _ => (pg_name (i := 10) sc_first_come.nd rfl (Or.inl rfl))) (fun _ _ _ _ _ => pts_nil) (fun _ _ _ _ _ => (pe_ifExp (pt_cmp (pc_isN (pv 10)) rfl) pe_non (pe_dget (hu_of hr) (pv 5) (pv 10) (fun _ _ => rfl))))) pa_nil)) pa_nil))))))))
    (pss_one (ps_expr (pe_bm PySem.F.plainAttrs_list PySem.F.slot_list_append PySem.F.type_list_append mt_append (pv 6) (pa_cons (pe_callTy call_tuple_of (by rfl) T.z_tuple boot_tuple (pa_cons (pv 7) pa_nil)) pa_nil)))))))
    (pss_one (ps_ret (pe_tup (pa_cons (pe_callTy call_tuple_of (by rfl) T.z_tuple boot_tuple (pa_cons (pv 4) pa_nil)) (pa_cons (pe_callTy call_tuple_of (by rfl) T.z_tuple boot_tuple (pa_cons (pv 6) pa_nil)) pa_nil))))))))), ?_⟩
  obtain ⟨a0, rfl, ha0⟩ := hv0
  -- things, numbers, table
  refine ⟨_, rfl, by show 1 ≤ sizeLine; decide, fun lt hlt => ?_⟩
  have e1 : Same H (upd H lt (.lst [.ref a0])) := same_new hlt
  intro nd hnd
  have e2 : Same (upd H lt (.lst [.ref a0])) (upd (upd H lt (.lst [.ref a0])) nd (.dT [])) := same_new hnd
  have hnl : lt ≠ nd := ne_of_none upd_same hnd
  refine ⟨_, rfl, upd_same, kk (List.replicate ws.length 0), a0, rfl, by rw [kk_V]; exact e2 _ _ (e1 _ _ ha0), ?_⟩
  refine ⟨by show 0 ≤ sizeLine; decide, fun tb htb => ?_⟩
  have F0 : Fcs H lt nd tb (Wr.things (Wr.mach ws) S D 0) (Wr.rowsTo S D ws 0) (upd (upd (upd (upd H lt (.lst [.ref a0])) nd (.dT [])) nd (.dT [(kk (List.replicate ws.length 0), .int 0)])) tb (.lst [])) := by
    rw [upd_upd] at htb ⊢
    have s3 : Same (upd H lt (.lst [.ref a0])) (upd (upd H lt (.lst [.ref a0])) nd (.dT [(kk (List.replicate ws.length 0), .int 0)])) := same_new hnd
    have s4 : Same (upd (upd H lt (.lst [.ref a0])) nd (.dT [(kk (List.replicate ws.length 0), .int 0)])) (upd (upd (upd H lt (.lst [.ref a0])) nd (.dT [(kk (List.replicate ws.length 0), .int 0)])) tb (.lst [])) := same_new htb
    refine ⟨same_tr e1 (same_tr s3 s4), ⟨[.ref a0], s4 _ _ (s3 _ _ upd_same), .cons ⟨a0, rfl, s4 _ _ (s3 _ _ (e1 _ _ ha0))⟩ .nil⟩, ⟨[(kk (List.replicate ws.length 0), .int 0)], s4 _ _ upd_same, rfl, fun ks => ?_⟩, ⟨[], upd_same, .nil⟩⟩
    by_cases e : ks = List.replicate ws.length 0
    · subst e
      rw [valV_pos rfl, if_pos (by simp [Wr.things, Wr.mach]), show Wr.num (Wr.things (Wr.mach ws) S D 0) (List.replicate ws.length 0) = 0 from Wr.num_at (i := 0) (Wr.things_nodup 0) rfl]
      rfl
    · rw [valV_neg (fun z => e (kk_inj z).symm), valV_nil, if_neg (by simpa [Wr.things, Wr.mach] using e)]
  have hAp : Apart H lt nd tb := by
    rw [upd_upd] at htb
    have k1 : (upd H lt (.lst [.ref a0])) tb = none := upd_none htb
    exact ⟨hlt, upd_none hnd, upd_none k1, hnl, ne_of_none (by rw [upd_ne hnl, upd_same]) htb, ne_of_none upd_same htb⟩
  clear htb hnl e2 e1 hnd
  refine ⟨fun m σ H' => ∃ n, m = 100 - n ∧ n ≤ 100 ∧ n ≤ (Wr.things (Wr.mach ws) S D n).length ∧ Fcs H lt nd tb (Wr.things (Wr.mach ws) S D n) (Wr.rowsTo S D ws n) H' ∧ ∃ y7 y8 y9 y10 y11, σ = [some (.int S), some (.int D), some (.ref a0), some (.ref f), some (.ref lt), some (.ref nd), some (.ref tb), y7, y8, y9, y10, y11],
    ⟨100, 0, rfl, by omega, Nat.zero_le _, F0, _, _, _, _, _, rfl⟩, ?_⟩
  clear F0
  rintro m σ H' ⟨n, rfl, hn, hnl, F, y7, y8, y9, y10, y11, rfl⟩
  obtain ⟨tvs, ht1, ht2⟩ := F.lt
  obtain ⟨rvs, hr1, hr2⟩ := F.tb
  have hcT : (Wr.things (Wr.mach ws) S D n) <+: Wr.T S D ws := Wr.pre_T hn
  have hTl : n ≤ (Wr.T S D ws).length := Nat.le_trans hnl hcT.length_le
  have hT100 : (Wr.T S D ws).length ≤ 100 := Nat.le_trans (Wr.T_len hok) hp
  have hlr : rvs.length = n := by rw [Paired.len hr2, Wr.rowsTo_len hTl]
  have hlt' : tvs.length = (Wr.things (Wr.mach ws) S D n).length := Paired.len ht2
  refine ⟨_, rfl, tb, rvs, rfl, .inl (isLst hr1), _, rfl, lt, tvs, rfl, .inl (isLst ht1), _, _, rfl, rfl, _, rfl, ite2 (fun hgo => ?_) (fun hst => ?_)⟩
  · -- a turn: the thing number n is followed
    have hgo : n < (Wr.things (Wr.mach ws) S D n).length := by
      have := of_decide_eq_true hgo
      omega
    have hn1 : n < 100 := by
      have := hcT.length_le
      omega
    obtain ⟨x, hx⟩ : ∃ x, (Wr.things (Wr.mach ws) S D n)[n]? = some x := ⟨_, List.getElem?_eq_getElem hgo⟩
    have hxT := Wr.pre_get hcT hx
    have hxk := Wr.T_kok hok hxT
    have hrow : (Wr.nrow S D ws x).length = S := by simp [Wr.nrow]
    refine ⟨fun σ' H' => ∃ n', n' = n + 1 ∧ n' ≤ 100 ∧ n' ≤ (Wr.things (Wr.mach ws) S D n').length ∧ Fcs H lt nd tb (Wr.things (Wr.mach ws) S D n') (Wr.rowsTo S D ws n') H' ∧ ∃ y7 y8 y9 y10 y11, σ' = [some (.int S), some (.int D), some (.ref a0), some (.ref f), some (.ref lt), some (.ref nd), some (.ref tb), y7, y8, y9, y10, y11],
      fun σ' H' h => by
        obtain ⟨n', rfl, h1, h2, h3, h4⟩ := h
        exact ⟨100 - (n + 1), by omega, n + 1, rfl, h1, h2, h3, h4⟩, ?_⟩
    refine ⟨by show 0 ≤ sizeLine; decide, fun rw hrw => ?_⟩
    have F1 := F.mo (same_new (o := .lst []) hrw)
    have hrw0 : H rw = none := by
      cases e : H rw with
      | none => rfl
      | some u => rw [F.same _ _ e] at hrw; cases hrw
    have hrl : rw ≠ lt := (ne_of_none ht1 hrw).symm
    have hrt : rw ≠ tb := (ne_of_none hr1 hrw).symm
    refine ⟨_, rfl, S, rfl, by omega, by omega, for_range (lo := 0) (n := S) (fun s σ H2 => Fcs H lt nd tb (Wr.addSigns (Wr.mach ws) D x (Wr.things (Wr.mach ws) S D n) s) (Wr.rowsTo S D ws n) H2 ∧ (∃ rws, H2 rw = some (.lst rws) ∧ Paired (Tp NV H2) rws ((Wr.nrow S D ws x).take s)) ∧
        ∃ y8 y9 y10 y11, σ = [some (.int S), some (.int D), some (.ref a0), some (.ref f), some (.ref lt), some (.ref nd), some (.ref tb), some (.ref rw), y8, y9, y10, y11])
      ⟨F1, ⟨[], upd_same, by rw [List.take_zero]; exact .nil⟩, _, _, _, _, rfl⟩ (fun s σ H2 hs h => ?_) (fun σ H2 h => ?_)⟩
    · clear F1
      obtain ⟨F2, ⟨rws, hw1, hw2⟩, z8, z9, z10, z11, rfl⟩ := h
      obtain ⟨tvs2, g1, g2⟩ := F2.lt
      obtain ⟨rvs2, g3, g4⟩ := F2.tb
      have hlr2 : rvs2.length = n := by rw [Paired.len g4, Wr.rowsTo_len hTl]
      obtain ⟨vx, hvx, hkx⟩ := Paired.at g2 (Wr.pre_get (Wr.addSigns_pre s) hx)
      -- the row of what follows
      refine ⟨_, rfl, D, rfl, by omega, by omega, fun L hL => lcR (n := D) (R := KsV) (ys := Wr.succ (Wr.mach ws) D x s) KsV.mo hL (by simp [Wr.succ]) (small1000 (by omega)) (fun i y H3 Q' Q'' hi hy s3 qq => ?_) (fun H3 acc s3 hA hP => ?_)⟩
      · have F3 := F2.mo s3
        obtain ⟨⟨c, c', o, u, k1, k2, k3, k4, k5⟩, hra⟩ := hF.mo F3.same
        refine ⟨rfl, f, c, c', o, u, .ref a, rfl, k4, k5, k1, ?_⟩
        refine ⟨_, rfl, _, rfl, tb, rvs2, rfl, .inl (isLst (s3 _ _ g3)), lt, tvs2, (rvs2.length : Int), vx, rfl, rfl, isLst (s3 _ _ g1), atI_nat (by rw [hlr2]; exact hvx), _, rfl, _, rfl, k1, k2, k3, ?_⟩
        have td := tst_drop k3
        refine ⟨S, D, a, ws, vx, x, s, i, rfl, by simp, hra.mo td, hok, KsV.mo.ap td (KsV.mo.ap (tst_same s3) hkx), hxk, h4, hs, hi, fun H4 v' s4 hv' hc4 => qq _ _ (same_undrop k3 s4) ?_⟩
        have hyy : y = (Wr.letOn ws x s i).2 := by
          unfold Wr.succ at hy
          rw [List.getElem?_map, List.getElem?_range hi] at hy
          exact (Option.some.inj hy).symm
        rw [hyy]
        exact KsV.mo.ap (tst_undrop hc4) hv'
      · have F3 := F2.mo s3
        have hLl : L ≠ lt := (ne_of_none g1 hL).symm
        have hLt : L ≠ tb := (ne_of_none g3 hL).symm
        have hLr : L ≠ rw := (ne_of_none hw1 hL).symm
        have hL0 : H L = none := by
          cases e : H L with
          | none => rfl
          | some u => rw [F2.same _ _ e] at hL; cases hL
        -- the new ones are numbered
        refine ⟨_, rfl, L, rfl, ⟨_, isLst hA⟩, for_list (xs := acc) (fun i σ H4 => Fcs H lt nd tb (Wr.addAll (Wr.addSigns (Wr.mach ws) D x (Wr.things (Wr.mach ws) S D n) s) ((Wr.succ (Wr.mach ws) D x s).take i)) (Wr.rowsTo S D ws n) H4 ∧
            H4 rw = some (.lst rws) ∧ Paired (Tp NV H4) rws ((Wr.nrow S D ws x).take s) ∧ H4 L = some (.lst acc) ∧ Paired (KsV H4) acc (Wr.succ (Wr.mach ws) D x s) ∧
            ∃ z10, σ = [some (.int S), some (.int D), some (.ref a0), some (.ref f), some (.ref lt), some (.ref nd), some (.ref tb), some (.ref rw), some (.int (0 + s)), some (.ref L), z10, z11])
          ⟨by rw [List.take_zero]; exact F3, s3 _ _ hw1, Paired.imp (fun _ _ r => (Tp.mo NV.mo).ap (tst_same s3) r) hw2, hA, hP, _, rfl⟩ (fun i σ H4 _ h => isLst h.2.2.2.1) (fun i v σ H4 hv h => ?_) (fun σ H4 h => ?_)⟩
        · obtain ⟨F4, w1, w2, w3, w4, z10', rfl⟩ := h
          obtain ⟨ks, hks, b, rfl, hb⟩ := Paired.at' w4 hv
          obtain ⟨tvs4, b1, b2⟩ := F4.lt
          obtain ⟨kvs4, b3, b4⟩ := F4.nd
          have hb' : H4 b = some (.tup ((kk ks).map kV)) := by rw [kk_V]; exact hb
          have hc4 : Wr.addAll (Wr.addSigns (Wr.mach ws) D x (Wr.things (Wr.mach ws) S D n) s) ((Wr.succ (Wr.mach ws) D x s).take i) <+: Wr.T S D ws := by
            refine List.IsPrefix.trans Wr.addAll_take ?_
            rw [← Wr.addSigns_succ]
            exact Wr.sign_pre hn1 hx hs
          have hl4 := hc4.length_le
          have enext : Wr.addAll (Wr.addSigns (Wr.mach ws) D x (Wr.things (Wr.mach ws) S D n) s) ((Wr.succ (Wr.mach ws) D x s).take (i + 1)) = Wr.addOne (Wr.addAll (Wr.addSigns (Wr.mach ws) D x (Wr.things (Wr.mach ws) S D n) s) ((Wr.succ (Wr.mach ws) D x s).take i)) ks := by
            rw [List.take_add_one, hks]
            exact Wr.addAll_snoc
          refine ⟨_, rfl, true, rfl, iteT ⟨_, rfl, _, rfl, nd, _, rfl, DGet.t b3 hb', _, rfl, ?_⟩⟩
          by_cases hin : ks ∈ Wr.addAll (Wr.addSigns (Wr.mach ws) D x (Wr.things (Wr.mach ws) S D n) s) ((Wr.succ (Wr.mach ws) D x s).take i)
          · rw [b4.2, if_pos hin]
            refine iteF ⟨?_, w1, w2, w3, w4, _, rfl⟩
            rw [enext, show ∀ th : List (List Nat), ks ∈ th → Wr.addOne th ks = th from fun th h => if_pos h]
            · exact F4
            · exact hin
          · rw [b4.2, if_neg hin]
            refine iteT ?_
            refine ⟨_, rfl, lt, tvs4, rfl, .inl (isLst b1), _, rfl, _, rfl, nd, _, rfl, DPut.t b3 hb' (by rw [b4.1]; exact small1000 (by omega)), ?_⟩
            have F5 := F4.add hAp b1 b3 ⟨b, rfl, hb⟩ hin
            have t1 : Tst H4 (upd H4 nd (.dT (putK kvs4 (kk ks) (.int tvs4.length)))) := tst_upd b3 (fun _ z => by cases z)
            have h1' : (upd H4 nd (.dT (putK kvs4 (kk ks) (.int tvs4.length)))) lt = some (.lst tvs4) := by rw [upd_ne hAp.ln]; exact b1
            have t2 := tst_lst (o := .lst (tvs4 ++ [.ref b])) h1'
            have tt := t1.trans t2
            have hrn : rw ≠ nd := ne_of w1 b3 (by intro z; cases z)
            have hLn : L ≠ nd := ne_of w3 b3 (by intro z; cases z)
            refine ⟨_, rfl, .inl ⟨rfl, _, isLst h1'⟩, _, rfl, lt, _, _, rfl, rfl, h1', by rw [Paired.len b2]; exact small1000 (by omega), ?_⟩
            refine ⟨?_, by rw [upd_ne hrl, upd_ne hrn]; exact w1, Paired.imp (fun _ _ r => (Tp.mo NV.mo).ap tt r) w2, by rw [upd_ne hLl, upd_ne hLn]; exact w3, Paired.imp (fun _ _ r => KsV.mo.ap tt r) w4, _, rfl⟩
            rw [enext, show ∀ th : List (List Nat), ks ∉ th → Wr.addOne th ks = th ++ [ks] from fun th h => if_neg h]
            · exact F5
            · exact hin
        · obtain ⟨F4, w1, w2, w3, w4, z10', rfl⟩ := h
          have hla : acc.length = D := by rw [Paired.len w4]; simp [Wr.succ]
          rw [List.take_of_length_le (by simp [Wr.succ, hla])] at F4
          rw [← Wr.addSigns_succ] at F4
          have hc5 := Wr.sign_pre (s := s + 1) hn1 hx hs
          have hl5 := hc5.length_le
          obtain ⟨tvs4, b1, b2⟩ := F4.lt
          have hlt4 := Paired.len b2
          -- if len(things) > MOST
          refine ⟨_, rfl, lt, tvs4, rfl, .inl (isLst b1), _, _, rfl, rfl, _, rfl, iteN (by omega) ?_⟩
          -- rows.append(tuple([..]))
          refine ⟨_, rfl, .inl ⟨rfl, _, isLst w1⟩, _, rfl, L, rfl, ⟨_, isLst w3⟩, fun L2 hL2 => lcL (R := NV) (ys := (Wr.succ (Wr.mach ws) D x s).map fun ks => Wr.num (Wr.T S D ws) ks) NV.mo hL2 w3 (by simp [Wr.succ, hla]) (small1000 (by omega)) (fun j v y H5 Q' Q'' hv hy s5 qq => ?_) (fun H5 acc5 s5 hA5 hP5 => ?_)⟩
          · obtain ⟨ks, hks, b, rfl, hb⟩ := Paired.at' w4 hv
            have F5 := F4.mo s5
            obtain ⟨kvs5, b3, b4⟩ := F5.nd
            have hb' : H5 b = some (.tup ((kk ks).map kV)) := by rw [kk_V]; exact s5 _ _ hb
            have hmem : ks ∈ Wr.addSigns (Wr.mach ws) D x (Wr.things (Wr.mach ws) S D n) (s + 1) := by
              rw [Wr.addSigns_succ]
              exact Wr.addAll_mem (List.mem_of_getElem? hks)
            have hval : valV kvs5 (kk ks) = some (.int (Wr.num (Wr.T S D ws) ks)) := by
              rw [b4.2, if_pos hmem, Wr.num_pre hc5 hmem]
            have hy' : y = Wr.num (Wr.T S D ws) ks := by
              rw [List.getElem?_map, hks] at hy
              exact (Option.some.inj hy).symm
            refine ⟨rfl, _, rfl, false, rfl, iteF ⟨_, rfl, _, rfl, nd, .int (Wr.num (Wr.T S D ws) ks), rfl, ?_, qq _ _ same_rfl ?_⟩⟩
            · rw [← hval]
              exact DGet.t b3 hb'
            · rw [hy']
              rfl
          · refine ⟨L2, acc5, rfl, .inl ⟨isLst hA5, fun l hl => ?_⟩⟩
            have j0 : Same H5 (upd H5 l (.tup acc5)) := same_new hl
            have j1 : Same H4 (upd H5 l (.tup acc5)) := same_tr s5 j0
            have w1' := j1 _ _ w1
            have hlw : rws.length = s := by
              rw [Paired.len w2, List.length_take, hrow]
              omega
            refine ⟨rw, rws, _, rfl, rfl, w1', small1000 (by omega), ?_⟩
            have t2 := tst_lst (o := .lst (rws ++ [.ref l])) w1'
            refine ⟨(F4.mo j1).off hrw0 w1' hrl hrt, ⟨_, upd_same, ?_⟩, _, _, _, _, rfl⟩
            have hg : (Wr.nrow S D ws x)[s]? = some ((List.range D).map fun d => Wr.num (Wr.T S D ws) (Wr.letOn ws x s d).2) := by
              unfold Wr.nrow
              rw [List.getElem?_map, List.getElem?_range hs]
              rfl
            rw [List.take_add_one, hg]
            refine Paired.snoc' (Paired.imp (fun _ _ r => (Tp.mo NV.mo).ap t2 ((Tp.mo NV.mo).ap (tst_same j1) r)) w2) ((Tp.mo NV.mo).ap t2 ⟨l, acc5, rfl, upd_same, ?_⟩)
            have e : ((Wr.succ (Wr.mach ws) D x s).map fun ks => Wr.num (Wr.T S D ws) ks) = (List.range D).map fun d => Wr.num (Wr.T S D ws) (Wr.letOn ws x s d).2 := by
              unfold Wr.succ
              rw [List.map_map]
              rfl
            rw [← e]
            exact Paired.imp (fun _ _ r => r) hP5
    · obtain ⟨F2, ⟨rws, hw1, hw2⟩, z8, z9, z10, z11, rfl⟩ := h
      rw [← Wr.things_succ hx] at F2
      rw [List.take_of_length_le (by omega)] at hw2
      obtain ⟨rvs2, g3, g4⟩ := F2.tb
      have hlr2 : rvs2.length = n := by rw [Paired.len g4, Wr.rowsTo_len hTl]
      refine ⟨_, rfl, .inl ⟨rfl, _, isLst g3⟩, _, rfl, rw, rws, rfl, .inl ⟨isLst hw1, fun l hl => ?_⟩⟩
      have j1 : Same H2 (upd H2 l (.tup rws)) := same_new hl
      have g3' := j1 _ _ g3
      refine ⟨tb, rvs2, _, rfl, rfl, g3', small1000 (by omega), ?_⟩
      have F3 := (F2.mo j1).tell hAp g3' (v := .ref l) (r := Wr.nrow S D ws x) ⟨l, rws, rfl, upd_same, Paired.imp (fun _ _ r => (Tp.mo NV.mo).ap (tst_same j1) r) hw2⟩
      rw [← Wr.rowsTo_succ hxT] at F3
      refine ⟨n + 1, rfl, by omega, ?_, F3, _, _, _, _, _, rfl⟩
      have := (Wr.things_pre1 (M := Wr.mach ws) (S := S) (D := D) n).length_le
      omega
  · -- the end
    have hst : (Wr.things (Wr.mach ws) S D n).length ≤ n := by
      rcases Nat.lt_or_ge n (Wr.things (Wr.mach ws) S D n).length with h | h
      · exact absurd (decide_eq_true (by omega)) hst
      · exact h
    have eT := Wr.stop_T hn hst
    refine ⟨_, rfl, lt, tvs, rfl, .inl ⟨isLst ht1, fun l1 hl1 => ?_⟩⟩
    have j1 : Same H' (upd H' l1 (.tup tvs)) := same_new hl1
    refine ⟨_, rfl, tb, rvs, rfl, .inl ⟨isLst (j1 _ _ hr1), fun l2 hl2 => ?_⟩⟩
    have j2 : Same (upd H' l1 (.tup tvs)) (upd (upd H' l1 (.tup tvs)) l2 (.tup rvs)) := same_new hl2
    refine ⟨by show 2 ≤ sizeLine; decide, fun l3 hl3 => ?_⟩
    have j3 : Same (upd (upd H' l1 (.tup tvs)) l2 (.tup rvs)) (upd (upd (upd H' l1 (.tup tvs)) l2 (.tup rvs)) l3 (.tup [.ref l1, .ref l2])) := same_new hl3
    have j := same_tr j1 (same_tr j2 j3)
    refine q _ l3 _ _ (same_tr F.same j) upd_same ⟨l1, tvs, rfl, j3 _ _ (j2 _ _ upd_same), ?_⟩ ⟨l2, rvs, rfl, j3 _ _ upd_same, ?_⟩
    · rw [eT]
      exact Paired.imp (fun _ _ r => KsV.mo.ap (tst_same j) r) ht2
    · rw [← Wr.rowsTo_all (n := n) (by rw [eT]; exact hst)]
      exact Paired.imp (fun _ _ r => NRow.mo.ap (tst_same j) r) hr2
end
end Wa
namespace Wa
open PySem PySem.Spec PyProof.Rows L2 Wx Wk Wz Wc RZ NdefX LamX
def nmF : Nat → Nat → Str := fun _ _ => "in_a_row.<locals>.follow"
def nmL : Nat → Nat → Str := fun _ _ => "unsound_by.<locals>.<lambda>"
def TT (P1 P2 : Addr) : List NTab := [(P1, nmF), (P2, nmL)]
theorem hfree_follow : ∀ y ∈ (C8.fnScope s_follow).names, y.2 = .free → (defScope s_in_a_row).names.lookup y.1 = some .cell ∨ (defScope s_in_a_row).names.lookup y.1 = some .free := by decide +kernel
/-- a def of the top whose code object has a table of its own -/
def OwnD (K : PySem.W.Frag) (mg : Str → Option Value) (base : Heap) (x : Str) (st : Stmt) (P : Addr) : Prop :=
  ∃ (f : Addr) (fd : FuncData) (c : Addr), mg x = some (.ref f) ∧ FunD K x x (defArgs st) (defBody st) (defScope st) [] [] f fd ∧ fd.code = .ref c ∧ TabB base mg c P
structure Ty (K : PySem.W.Frag) (mg : Str → Option Value) (base : Heap) (P1 P2 : Addr) : Prop where
  t : Tx K mg
  o1 : OwnD K mg base "in_a_row" s_in_a_row P1
  o2 : OwnD K mg base "unsound_by" s_unsound_by P2
  ne : P1 ≠ P2
theorem TT_hu {P1 P2 : Addr} (h : P1 ≠ P2) : ∀ p ∈ TT P1 P2, p.1 = P1 → p.2 = nmF := fun p hp e => by
  rcases List.mem_cons.mp hp with rfl | hp
  · rfl
  · have : p = ((P2, nmL) : NTab) := by simpa using hp
    subst this
    exact absurd e.symm h
section
variable {P : Program} {w : World} {K : PySem.W.Frag} {mg : Str → Option Value} {base : Heap}
theorem OwnD.cal {x : Str} {st : Stmt} {N ps : List Str} {k : Nat} {sp : Sp} {P1 : Addr} (D : OwnD K mg base x st P1) (S : FnScope N ps (defScope st))
    (hb : ∀ (kV doc pm : Value) (an : Option Addr) (cdv ct : Value) (us : List Value), us.length = ps.length → bindArgs (PySem.W.fnOf x x (defArgs st) (defBody st) (defScope st) .none kV doc pm an cdv ct) ⟨us, []⟩ = pure (ps.zip us))
    (len : ∀ vs H Q E, sp vs H Q E → vs.length = ps.length)
    (hbody : ∀ (f c : Addr) (A : Around) (outer : List Env) (s : Shared) (H : Hp) (vs : List V) (Q : VK) (E : XK), TabB base mg c P1 → Room k (A.deeper (envOfC x (defScope st) s.heap.objs.size f (.ref c))) → sp vs H Q E →
      ∃ t, PSs (cxOf CX0 P w K mg base N x (defScope st) f (.ref c) A outer s H E).nox (defBody st) t ∧ t { nx := fun _ H' => Q .non H', rt := Q } (start N vs) H) : Cal P w K mg base (k + 1) x ps sp := by
  obtain ⟨f, fd, c, hm, F, hc, TB⟩ := D
  refine ⟨f, fd, hm, F.kp, F.bindsN hb, ?_⟩
  obtain ⟨oc, od, dV, kV, doc, pm, an, cdv, ct, osl, rfl, lk, hcd, _, _⟩ := F.ex
  obtain rfl : cdv = .ref c := hc
  refine fn_of lk hcd S len fun A outer s H vs Q E hr h => ?_
  obtain ⟨t, h1, h2⟩ := hbody f c A outer s H vs Q E TB hr h
  exact ⟨t, h1.nox, h2⟩
theorem repA_of {K : PySem.W.Frag} {H : Hp} {t : Addr} {v : V} {n : Nat} {Q : VK} (ht : H t = some (.tup [v])) (h1 : 1 ≤ n) (h9 : n ≤ 9) (q : ∀ H' p, Same H H' → H' p = some (.tup (List.replicate n v)) → Q (.ref p) H') : rRepA K (.ref t) (.int n) H Q := by
  by_cases e : n = 1
  · subst e
    exact .inl ⟨t, _, rfl, rfl, isTup ht, q H t same_rfl ht⟩
  · refine .inr ⟨t, n, _, rfl, rfl, isTup ht, by simp, by omega, by omega, by simp, fun p hp => ?_⟩
    refine q _ p (same_new hp) ?_
    rw [upd_same, rep_one]
    simp
theorem zipPV {H : Hp} : ∀ {ts : List Addr} {xs ys : List V} {as bs : List Nat}, Paired (fun (t : Addr) (q : V × V) => H t = some (.tup [q.1, q.2])) ts (xs.zip ys) → Paired (NV H) xs as → Paired (NV H) ys bs → Paired (PV H) (ts.map V.ref) (as.zip bs)
  | _, [], _, _, _, h, .nil, _ => by
    cases h
    exact .nil
  | _, _ :: _, [], _, _, h, .cons _ _, .nil => by
    cases h
    exact .nil
  | _, _ :: _, _ :: _, _, _, .cons h t, .cons a p, .cons b r => by
    have a' : _ = V.int _ := a
    have b' : _ = V.int _ := b
    refine .cons ⟨_, rfl, ?_⟩ (zipPV t p r)
    rw [h]
    rw [a', b']
def sp_in_a_row (P1 P2 : Addr) : Sp := fun vs H Q _ => ∃ (S D : Nat) (a : Addr) (ws : List Wr.Tab), vs = [.ref a] ∧ CntOk S D ∧ RowAt S D H a ws ∧ (∀ w ∈ ws, Wr.TOk S D w ∧ w.length ≤ 100) ∧ 1 ≤ ws.length ∧ ws.length ≤ 4 ∧ Wr.prodL ws ≤ 100 ∧ TabsN (TT P1 P2) H ∧
  ∀ H' v, Ext H H' → TabsN (TT P1 P2) H' → WatV S D H' v (Wr.rowOf S D ws) → Q v H'
theorem cal_in_a_row {P1 P2 : Addr} (Y : Ty K mg base P1 P2) : Cal P w K mg base 6 "in_a_row" ["watchers"] (sp_in_a_row P1 P2) := by
  have T := Y.t
  have hu := TT_hu Y.ne
  obtain ⟨ff, ffd, fm, fk, fb, fo⟩ := cal_first_come (P := P) (w := w) (base := base) T
  refine Y.o1.cal sc_in_a_row (fun _ _ _ _ _ _ us hl => match us, hl with | [_], _ => rfl) (fun vs H Q E h => ?_) fun f c A outer s H vs Q E TB hr h => ?_
  · obtain ⟨S, D, a, ws, rfl, _⟩ := h; rfl
  obtain ⟨S, D, a, ws, rfl, cnt, hrow, hok, h1, h4, hp, hT, q⟩ := h
  refine ⟨_, (pss_cons (ps_if (PW.pt (pw_or (pt_not (pt_val (pe_callB call_isi (by rfl) T.z_isinstance boot_isinstance (pa_cons (pv 0) (pa_cons (pe_bltn (v := .ty "tuple") (by rfl) T.z_tuple boot_tuple rfl) pa_nil))))) (pw_or1 (pt_not (pt_chain op_le op_le pe_int (pe_callB call_len_seq (by rfl) T.z_len PySem.boot_len (pa_cons (pv 0) pa_nil)) pe_int))))) (pss_one ps_never) pss_nil)
    (pss_cons (ps_if (pt_not (pt_val (pe_callB (cr_all rfl) (by rfl) T.z_all boot_all (pa_cons (pe_lc (own := [("watcher", 12)]) (g := (gName 12)) rfl sc_in_a_row.nd (pi_tup (pv 0)) (blkOk_by (own := [("watcher", 12)]) (N := N_in_a_row) (sc := defScope s_in_a_row) (by decide +kernel)) (fun _ _ _ _ _ => (pg_name (i := 12) sc_in_a_row.nd rfl (Or.inl rfl))) (fun _ _ _ _ _ => pts_nil) (fun _ _ _ _ _ => (pe_cal (cal_is_watcher T) (hr.mono (by decide)) (by rfl) (pa_cons (pv 12) pa_nil)))) pa_nil)))) (pss_one ps_never) pss_nil)
    (pss_cons (ps_expr (pe_cal (cal_need_row_alike T) (hr.mono (by decide)) (by rfl) (pa_cons (pv 0) pa_nil)))
    (pss_cons (ps_asg (pe_ix ix_tup (pv 0) pe_int (fun _ _ => rfl)) (pg_tup rfl (pgs_cons (pg_name (i := 1) sc_in_a_row.nd rfl (Or.inl rfl)) (pgs_cons (pg_name (i := 2) sc_in_a_row.nd rfl (Or.inl rfl)) (pgs_cons (pg_name (i := 3) sc_in_a_row.nd rfl (Or.inl rfl)) pgs_nil)))))
    (pss_cons (ps_ndefMS (st := s_follow) (T := TT P1 P2) (nm := nmF) (i := 4) rfl TB rfl (by simp [TT]) rfl hu hfree_follow rfl rfl rfl sc_in_a_row.nd rfl (Or.inl rfl) (Or.inr rfl))
    (pss_cons (ps_asg (pe_callC (y := "watchers") (i := 0) fo (hr.mono (by decide)) (by rfl) fm fk fb rfl rfl rfl rfl rfl (pa_cons (pv 1) (pa_cons (pv 2) (pa_cons (pe_op op_repA (pe_tup (pa_cons pe_int pa_nil)) (pe_callB call_len_seq (by rfl) T.z_len PySem.boot_len (pa_cons (pv 0) pa_nil))) (pa_cons (pv 4) pa_nil))))) (pg_tup rfl (pgs_cons (pg_name (i := 5) sc_in_a_row.nd rfl (Or.inl rfl)) (pgs_cons (pg_name (i := 6) sc_in_a_row.nd rfl (Or.inl rfl)) pgs_nil))))
    (pss_cons (ps_set (i := 7) sc_in_a_row.nd rfl (Or.inl rfl) (pe_lst pa_nil))
    (pss_cons (ps_for PassesOwn.never rfl (pi_zipA (by rfl) T.z_zip (pa_cons (pv 5) (pa_cons (pv 6) pa_nil))) (pg_tup rfl (pgs_cons (pg_name (i := 8) sc_in_a_row.nd rfl (Or.inr rfl)) (pgs_cons (pg_name (i := 9) sc_in_a_row.nd rfl (Or.inl rfl)) pgs_nil)))
      (pss_cons (ps_set (i := 3) sc_in_a_row.nd rfl (Or.inl rfl) (pe_lst pa_nil))
    (pss_cons (ps_for PassesOwn.never rfl (pi_range1 (by rfl) T.z_range (pa_cons (pv 1) pa_nil)) (pg_name (i := 10) sc_in_a_row.nd rfl (Or.inr rfl))
      (pss_cons (ps_setLc (i := 11) (own := [("deed", 13)]) (g := (gName 13)) rfl sc_in_a_row.nd rfl rfl (sw_true rfl rfl rfl (by decide +kernel)) (pi_range1 (by rfl) T.z_range (pa_cons (pv 2) pa_nil)) (blkOk_by (own := [("deed", 13)]) (N := N_in_a_row) (sc := defScope s_in_a_row) (by decide +kernel)) (fun _ _ _ _ _ => (pg_name (i := 13) sc_in_a_row.nd rfl (Or.inl rfl))) (fun _ _ _ _ _ => pts_nil) (fun _ _ _ _ _ => (pe_ix (ixt_K (K := K) rfl) (pe_cal (cal_let_on T) (hr.mono (by decide)) (by rfl) (pa_cons (pv 0) (pa_cons (pv 8) (pa_cons (pv 10) (pa_cons (pv 13) pa_nil))))) pe_int (fun _ _ => rfl))))
    (pss_one (ps_expr (pe_bm PySem.F.plainAttrs_list PySem.F.slot_list_append PySem.F.type_list_append mt_append (pv 3) (pa_cons (pe_callTy call_tuple_of (by rfl) T.z_tuple boot_tuple (pa_cons (pe_listZip rfl (by rfl) T.z_list (by rfl) T.z_zip (pa_cons (pv 11) (pa_cons (pe_ix ix_tup (pv 9) (pv 10) (fun _ _ => rfl)) pa_nil))) pa_nil)) pa_nil))))))
    (pss_one (ps_expr (pe_bm PySem.F.plainAttrs_list PySem.F.slot_list_append PySem.F.type_list_append mt_append (pv 7) (pa_cons (pe_callTy call_tuple_of (by rfl) T.z_tuple boot_tuple (pa_cons (pv 3) pa_nil)) pa_nil)))))))
    (pss_one (ps_ret (pe_tup (pa_cons (pv 1) (pa_cons (pv 2) (pa_cons (pe_callTy call_tuple_of (by rfl) T.z_tuple boot_tuple (pa_cons (pv 7) pa_nil)) pa_nil)))))))))))))), ?_⟩
  obtain ⟨s1, s9, d1, d9⟩ := id cnt
  have hok' : ∀ w ∈ ws, Wr.TOk S D w := fun w hw => (hok w hw).1
  obtain ⟨wvs, ha, hwp⟩ := id hrow
  have hlen : wvs.length = ws.length := Paired.len hwp
  -- the two tests
  refine ⟨_, rfl, .ref a, .ty "tuple", .type "tuple", .type "tuple", true, rfl, .ty _, .base (.tup ha), kit_ty (by decide +kernel), true, rfl, iteF ?_⟩
  refine ⟨_, rfl, a, wvs, rfl, .inr (isTup ha), _, _, rfl, rfl, true, congrArg V.bl (decide_eq_true (by omega)), iteT ⟨_, _, rfl, rfl, true, congrArg V.bl (decide_eq_true (by omega)), iteF ?_⟩⟩
  refine ⟨_, rfl, a, rfl, ⟨_, isTup ha⟩, fun L hL => lcT (R := TrueV) (ys := wvs.map fun _ => ()) TrueV.mo hL ha (by simp) (small1000 (by omega)) (fun i r _ H1 Q' Q'' hr _ s1 qq => ?_) (fun H1 acc s1 hA hP => ?_)⟩
  · obtain ⟨x, hx, hv⟩ := Paired.at' hwp hr
    obtain ⟨o1, o2⟩ := hok x (List.mem_of_getElem? hx)
    exact ⟨rfl, _, rfl, S, D, r, x, rfl, WatV.mo.ap (tst_same s1) hv, cnt, o1, o2, fun H2 s2 => qq _ _ s2 rfl⟩
  refine ⟨L, _, rfl, all_lst hA hP, true, congrArg V.bl (all_true _), iteF ?_⟩
  have hrow1 := hrow.mo (tst_same s1)
  obtain ⟨wvs1, ha1, hwp1⟩ := id hrow1
  refine ⟨_, rfl, S, D, a, wvs1, ws, rfl, ha1, hwp1, fun z => ?_, by rw [Paired.len hwp1]; exact h4, fun H2 e2 => ?_⟩
  · rw [z] at hwp1
    cases hwp1
    simp at h1
  have hrow2 := hrow1.mo (tst_same e2)
  obtain ⟨wvs2, ha2, hwp2⟩ := id hrow2
  have hl2 : wvs2.length = ws.length := Paired.len hwp2
  obtain ⟨w0, hw0⟩ : ∃ w0, ws[0]? = some w0 := ⟨_, List.getElem?_eq_getElem (by omega)⟩
  obtain ⟨x0, hx0, b0, z0, rfl, hb0, _⟩ := Paired.at hwp2 hw0
  refine ⟨_, rfl, a, wvs2, (0 : Nat), _, rfl, rfl, isTup ha2, atI_nat hx0, b0, _, rfl, isTup hb0, rfl, _, _, rfl, _, _, rfl, _, _, rfl, rfl, ?_⟩
  -- def follow
  have hT2 : TabsN (TT P1 P2) H2 := hT.ext fun b o e => e2 _ _ (s1 _ _ e)
  refine ⟨hT2, fun f' c' H3 e3 _ hT3 hf0 hf hc' => ?_⟩
  have hrow3 := hrow2.mo (tst_ext e3)
  obtain ⟨wvs3, ha3, hwp3⟩ := id hrow3
  have hl3 : wvs3.length = ws.length := Paired.len hwp3
  have e03 : Ext H H3 := (ext_same (same_tr s1 e2)).trans e3
  -- first_come
  refine ⟨_, rfl, _, rfl, _, rfl, by show 1 ≤ sizeLine; decide, fun t ht => ⟨_, rfl, a, wvs3, rfl, .inr (isTup (same_new ht _ _ ha3)), repA_of upd_same (by omega) (by omega) fun H4 p s4 hp4 => ⟨_, rfl, fun cc o u hcc hod hru hcn => ?_⟩⟩⟩
  have s34 : Same H3 H4 := same_tr (same_new ht) s4
  rw [hl3] at hp4
  have s5 : Same H4 (upd H4 cc (ObjO cc o)) := same_new hcn
  have s35 := same_tr s34 s5
  refine ⟨S, D, .ref p, f', a, ws, rfl, cnt, ⟨p, rfl, ?_⟩, ⟨⟨cc, c', o, u, ?_, s35 _ _ hc', upd_same, hod, hru⟩, hrow3.mo (tst_same s35)⟩, hok', h4, hp, fun H6 pp q1 q2 s6 hpp hq1 hq2 => ⟨s6 _ _ upd_same, ?_⟩⟩
  · rw [s5 _ _ hp4]
    simp
  · refine s35 _ _ ?_
    obtain rfl : _ = cc := Option.some.inj (show some _ = some cc from hcc)
    exact hf
  -- behind the call: the cell is forgotten
  have hcc6 := s6 _ _ upd_same
  have td := tst_drop hcc6
  have s3d : Same H3 (drop H6 cc) := fun b u' e => by
    have e4 := s34 _ _ e
    rw [drop_ne (ne_of_none e4 hcn)]
    exact s6 _ _ (s5 _ _ e4)
  have hpp' := td _ _ hpp
  have hq1' := (Tp.mo KsV.mo).ap td hq1
  have hq2' := (Tp.mo NRow.mo).ap td hq2
  clear hq1 hq2 hpp hcc6 td s6 s35 s5 s34 hp4 s4 ht
  generalize drop H6 cc = H7 at *
  refine ⟨pp, _, rfl, isTup hpp', rfl, _, _, rfl, _, _, rfl, rfl, ?_⟩
  have e07 : Ext H H7 := e03.trans (ext_same s3d)
  have hT7 : TabsN (TT P1 P2) H7 := hT3.ext s3d
  have hrow7 := hrow3.mo (tst_same s3d)
  obtain ⟨t1, xs1, rfl, ht1, hp1⟩ := hq1'
  obtain ⟨t2, xs2, rfl, ht2, hp2⟩ := hq2'
  have hl12 : xs1.length = xs2.length := by rw [Paired.len hp1, Paired.len hp2, List.length_map]
  have hT100 : (Wr.T S D ws).length ≤ 100 := Nat.le_trans (Wr.T_len hok') hp
  have hlx : xs1.length = (Wr.T S D ws).length := Paired.len hp1
  have hrl : (Wr.rowOf S D ws).length = xs1.length := by rw [Wr.row_length, hlx]
  -- told = []
  refine ⟨by show 0 ≤ sizeLine; decide, fun told htold => ?_⟩
  have s8 : Same H7 (upd H7 told (.lst [])) := same_new htold
  refine ⟨_, rfl, _, rfl, t1, t2, xs1, xs2, rfl, .inr ⟨isTup (s8 _ _ ht1), isTup (s8 _ _ ht2), for_zipT hl12 (fun i σ H' => Same H7 H' ∧ (∃ acc, H' told = some (.lst acc) ∧ Paired (StV H') acc ((Wr.rowOf S D ws).take i)) ∧ ∃ y3 y8 y9 y10 y11, σ = [some (.ref a), some (.int S), some (.int D), y3, some (.ref f'), some (.ref t1), some (.ref t2), some (.ref told), y8, y9, y10, y11, none, none])
    ⟨s8, ⟨[], upd_same, by rw [List.take_zero]; exact .nil⟩, _, _, _, _, _, rfl⟩ (fun i σ H' h => ⟨isTup (h.1 _ _ ht1), isTup (h.1 _ _ ht2)⟩) (fun i x y t σ H' hx hy h ht => ?_) (fun σ H' h => ?_)⟩⟩
  · obtain ⟨s9', ⟨acc, hA9, hP9⟩, y3, y8, y9, y10, y11, rfl⟩ := h
    have st : Same H' (upd H' t (.tup [x, y])) := same_new ht
    have s10 := same_tr s9' st
    obtain ⟨xi, hxi, hkx⟩ := Paired.at' hp1 hx
    obtain ⟨ri, hri, u2, cs2, rfl, hu2, hpu2⟩ := Paired.at' hp2 hy
    have hri' : ri = Wr.nrow S D ws xi := by
      rw [List.getElem?_map, hxi] at hri
      exact (Option.some.inj hri).symm
    subst hri'
    have hxk := Wr.T_kok hok' hxi
    refine ⟨t, _, rfl, isTup upd_same, rfl, _, _, rfl, _, _, rfl, rfl, ?_⟩
    have hA8 := st _ _ hA9
    have hP8 := Paired.imp (fun _ _ r => StV.mo.ap (tst_same st) r) hP9
    clear hA9 hP9
    generalize upd H' t (.tup [x, .ref u2]) = H8 at *
    have htn : H7 told = none := htold
    refine ⟨by show 0 ≤ sizeLine; decide, fun rw hrw => ?_⟩
    have sr : Same H8 (upd H8 rw (.lst [])) := same_new hrw
    have hrt : rw ≠ told := (ne_of_none hA8 hrw).symm
    refine ⟨_, rfl, S, rfl, by omega, by omega, for_range (lo := 0) (n := S) (fun s σ H9 => Same H8 H9 ∧ (∃ rws, H9 rw = some (.lst rws) ∧ Paired (RowV H9) rws ((Wr.trow S D ws xi).take s)) ∧ ∃ y10 y11, σ = [some (.ref a), some (.int S), some (.int D), some (.ref rw), some (.ref f'), some (.ref t1), some (.ref t2), some (.ref told), some x, some (.ref u2), y10, y11, none, none])
      ⟨sr, ⟨[], upd_same, by rw [List.take_zero]; exact .nil⟩, _, _, rfl⟩ (fun s σ H9 hs h => ?_) (fun σ H9 h => ?_)⟩
    · obtain ⟨s11, ⟨rws, hw1, hw2⟩, y10, y11, rfl⟩ := h
      have sA := same_tr s10 s11
      refine ⟨_, rfl, D, rfl, by omega, by omega, fun L hL => lcR (n := D) (R := NV) (ys := (List.range D).map fun d => (Wr.letOn ws xi s d).1) NV.mo hL (by simp) (small1000 (by omega)) (fun j z H10 Q' Q'' hj hz s12 qq => ?_) (fun H10 acc10 s12 hA10 hP10 => ?_)⟩
      · have sB := same_tr sA s12
        obtain ⟨wvs8, ha8, hwp8⟩ := hrow7.mo (tst_same sB)
        refine ⟨rfl, _, rfl, _, rfl, _, rfl, _, rfl, S, D, a, wvs8, ws, x, xi, s, j, by simp, ha8, hwp8, hok', KsV.mo.ap (tst_same sB) hkx, hxk, h4, hs, hj, fun H11 p11 v11 s13 hp11 _ => ?_⟩
        refine ⟨p11, _, (0 : Nat), _, rfl, rfl, isTup hp11, atI_nat rfl, qq _ _ s13 ?_⟩
        rw [List.getElem?_map, List.getElem?_range hj] at hz
        rw [← Option.some.inj hz]
        rfl
      · have sB := same_tr sA s12
        have hw1' := s12 _ _ hw1
        have hns : (Wr.nrow S D ws xi)[s]? = some ((List.range D).map fun d => Wr.num (Wr.T S D ws) (Wr.letOn ws xi s d).2) := by
          unfold Wr.nrow
          rw [List.getElem?_map, List.getElem?_range hs]
          rfl
        obtain ⟨vb, hvb, u3, ys, rfl, hu3, hpy⟩ := Paired.at hpu2 hns
        have hla : acc10.length = D := by rw [Paired.len hP10]; simp
        have hly : ys.length = D := by rw [Paired.len hpy]; simp
        have hlw : rws.length = s := by rw [Paired.len hw2, List.length_take]; simp [Wr.trow]; omega
        refine ⟨_, rfl, .inl ⟨rfl, _, isLst hw1'⟩, _, rfl, _, rfl, _, rfl, u2, cs2, (0 + (s : Int)), _, rfl, rfl, isTup (sB _ _ hu2), by rw [Int.zero_add]; exact atI_nat hvb, ?_⟩
        refine ⟨L, u3, acc10, ys, rfl, isLst hA10, isTup (sB _ _ hu3), by omega, fun H11 p11 ts s13 hpn hp11 hts => ?_⟩
        refine ⟨p11, _, rfl, .inl ⟨isLst hp11, fun l hl => ?_⟩⟩
        have j1 : Same H11 (upd H11 l (.tup (ts.map V.ref))) := same_new hl
        have j2 : Same H10 (upd H11 l (.tup (ts.map V.ref))) := same_tr s13 j1
        have hw2' := j2 _ _ hw1'
        refine ⟨rw, rws, _, rfl, rfl, hw2', small1000 (by omega), ?_⟩
        have t2 := tst_lst (o := .lst (rws ++ [.ref l])) hw2'
        refine ⟨same_upd' (same_tr s11 (same_tr s12 j2)) hrw, ⟨_, upd_same, ?_⟩, _, _, rfl⟩
        have hts' : (Wr.trow S D ws xi)[s]? = some (Wr.trow1 S D ws xi s) := by
          unfold Wr.trow
          rw [List.getElem?_map, List.getElem?_range hs]
          rfl
        rw [List.take_add_one, hts']
        refine Paired.snoc' (Paired.imp (fun _ _ r => RowV.mo.ap t2 (RowV.mo.ap (tst_same (same_tr s12 j2)) r)) hw2) (RowV.mo.ap t2 ⟨l, _, rfl, upd_same, ?_⟩)
        refine Paired.imp (fun _ _ r => PV.mo.ap (tst_same j1) r) ?_
        have := zipPV (H := H11) hts (Paired.imp (fun _ _ r => r) hP10) (Paired.imp (fun _ _ r => r) hpy)
        rw [List.zip_map'] at this
        exact this
    · obtain ⟨s11, ⟨rws, hw1, hw2⟩, y10, y11, rfl⟩ := h
      rw [List.take_of_length_le (by simp [Wr.trow])] at hw2
      have hA11 := s11 _ _ hA8
      refine ⟨_, rfl, .inl ⟨rfl, _, isLst hA11⟩, _, rfl, rw, rws, rfl, .inl ⟨isLst hw1, fun l hl => ?_⟩⟩
      have j1 : Same H9 (upd H9 l (.tup rws)) := same_new hl
      have hA12 := j1 _ _ hA11
      have hi : i < xs1.length := (List.getElem?_eq_some_iff.mp hx).1
      have hla : acc.length = i := by rw [Paired.len hP8, List.length_take]; omega
      refine ⟨told, acc, _, rfl, rfl, hA12, small1000 (by omega), ?_⟩
      have t2 := tst_lst (o := .lst (acc ++ [.ref l])) hA12
      refine ⟨same_upd' (same_tr s10 (same_tr s11 j1)) htn, ⟨_, upd_same, ?_⟩, _, _, _, _, _, rfl⟩
      rw [List.take_add_one, Wr.row_get hxi]
      exact Paired.snoc' (Paired.imp (fun _ _ r => StV.mo.ap t2 (StV.mo.ap (tst_same (same_tr s11 j1)) r)) hP8) (StV.mo.ap t2 ⟨l, rws, rfl, upd_same, Paired.imp (fun _ _ r => RowV.mo.ap (tst_same j1) r) hw2⟩)
  · obtain ⟨s9', ⟨acc, hA9, hP9⟩, y3, y8, y9, y10, y11, rfl⟩ := h
    rw [List.take_of_length_le (by omega)] at hP9
    refine ⟨_, rfl, _, rfl, _, rfl, told, acc, rfl, .inl ⟨isLst hA9, fun l hl => ⟨by show 3 ≤ sizeLine; decide, fun r hr => ?_⟩⟩⟩
    have j1 : Same H' (upd H' l (.tup acc)) := same_new hl
    have j2 : Same (upd H' l (.tup acc)) (upd (upd H' l (.tup acc)) r (.tup [.int S, .int D, .ref l])) := same_new hr
    have j := same_tr s9' (same_tr j1 j2)
    exact q _ _ (e07.trans (ext_same j)) (hT7.ext j) ⟨r, .ref l, rfl, upd_same, l, acc, rfl, j2 _ _ upd_same, Paired.imp (fun _ _ r => StV.mo.ap (tst_same (same_tr j1 j2)) r) hP9⟩
end
end Wa
namespace Wa
open PySem PySem.Spec PyProof.Rows L2 Wx Wk Wz Wc RZ NdefX LamX
/-! ### the lambda within unsound_by -/
def lamOf : Stmt → Option (Arguments × Expr × Scope)
  | .Return (some (.Lambda p b s _)) _ => some (p, b, s)
  | _ => none
abbrev s_lam : Stmt := (defBody s_unsound_by).getD 0 (.Pass ⟨0, 0, 0, 0⟩)
abbrev lamP : Arguments := ((lamOf s_lam).getD (defArgs s_unsound_by, .Constant .none 0 ⟨0, 0, 0, 0⟩, defScope s_unsound_by)).1
abbrev lamB : Expr := ((lamOf s_lam).getD (defArgs s_unsound_by, .Constant .none 0 ⟨0, 0, 0, 0⟩, defScope s_unsound_by)).2.1
abbrev lamS : Scope := ((lamOf s_lam).getD (defArgs s_unsound_by, .Constant .none 0 ⟨0, 0, 0, 0⟩, defScope s_unsound_by)).2.2
abbrev N_lam : List Str := ["pair", "step", "given", "come", "prices"]
abbrev mkL (c c' : Addr) : LF := ⟨"unsound_by.<locals>.<lambda>", lamP, lamB, lamS, [("prices", c)], c'⟩
theorem sc_lam0 : NScope N_lam ["pair", "step", "given", "come"] ["prices"] lamS := nscope_by (by decide +kernel)
theorem hfree_lam : ∀ y ∈ lamS.names, y.2 = .free → (defScope s_unsound_by).names.lookup y.1 = some .cell ∨ (defScope s_unsound_by).names.lookup y.1 = some .free := by decide +kernel
section
variable {P : Program} {w : World} {K : PySem.W.Frag} {mg : Str → Option Value} {base : Heap}
def sp_wrong : List (Option V) → Sp := fun ws vs H Q _ => ∃ (p c : V) (t c' : Addr) (g s d : Int), ws = [some .non] ∧ vs = [p, .ref t, .int g, .ref c'] ∧ H t = some (.tup [.int s, .int d]) ∧ Q (.bl false) H
theorem lok_wrong (T : Tx K mg) (f c c' : Addr) : LOk P w K mg base 2 f (mkL c c') ["pair", "step", "given", "come"] ["prices"] sp_wrong := by
  refine lok_of (N := N_lam) sc_lam0 (fun _ _ us hl => match us, hl with | [_, _, _, _], _ => rfl) (fun ws vs H Q E h => ?_) fun A outer s H vs ws Q E hr _ h => ?_
  · obtain ⟨p, c, t, c', g, s, d, _, rfl, _⟩ := h; rfl
  obtain ⟨p, c1, t, c2, g, s1, d, rfl, rfl, ht, q⟩ := h
  refine ⟨_, (show PE (ncx CX0 P w K mg base N_lam (mkL c c').nf f A outer _ H E).nox lamB _ from
    (pe_or (pe_cmp (pc_isN (pv 3)) rfl) (pe_one (pe_cmp (pc_isN (pe_cal (cal_cost T) (hr.mono (by decide)) (by rfl) (pa_cons (pv 4) (pa_cons (pe_ix ix_tup (pv 1) pe_int (fun _ _ => rfl)) (pa_cons (pv 2) pa_nil))))) rfl)))), ?_⟩
  exact ⟨_, rfl, false, rfl, iteF ⟨_, rfl, _, rfl, t, _, (1 : Nat), _, rfl, rfl, isTup ht, atI_nat rfl, _, rfl, d, g, rfl, q⟩⟩
/-- the lambda as it is known behind unsound_by(None) -/
def LamAt (H : Hp) (f : Addr) : Prop := ∃ (c c' : Addr) (o : Obj) (u : Value), H f = some (LamO f (mkL c c')) ∧ H c' = some (CodeO c' "unsound_by.<locals>.<lambda>") ∧ H c = some (ObjO c o) ∧ o.data = .cell (some u) ∧ RelV .non u
theorem LamAt.mo {H H' : Hp} {f : Addr} (e : Same H H') : LamAt H f → LamAt H' f := fun ⟨c, c', o, u, h1, h2, h3, h4, h5⟩ => ⟨c, c', o, u, e _ _ h1, e _ _ h2, e _ _ h3, h4, h5⟩
def TL (P1 P2 : Addr) : List (Addr × Str) := [(P1, "in_a_row.<locals>.follow"), (P2, "unsound_by.<locals>.<lambda>")]
theorem tl_to {P1 P2 : Addr} {H : Hp} (h : TabsN (TT P1 P2) H) : Tabs (TL P1 P2) H := fun p hp => by
  rcases List.mem_cons.mp hp with rfl | hp
  · exact h (P1, nmF) (by simp [TT])
  · have : p = ((P2, "unsound_by.<locals>.<lambda>") : Addr × Str) := by simpa using hp
    subst this
    exact h (P2, nmL) (by simp [TT])
theorem tl_of {P1 P2 : Addr} {H : Hp} (h : Tabs (TL P1 P2) H) : TabsN (TT P1 P2) H := fun p hp => by
  rcases List.mem_cons.mp hp with rfl | hp
  · exact h (P1, "in_a_row.<locals>.follow") (by simp [TL])
  · have : p = ((P2, nmL) : NTab) := by simpa using hp
    subst this
    exact h (P2, "unsound_by.<locals>.<lambda>") (by simp [TL])
theorem TL_hu {P1 P2 : Addr} (h : P1 ≠ P2) : ∀ p ∈ TL P1 P2, p.1 = P2 → p.2 = "unsound_by.<locals>.<lambda>" := fun p hp e => by
  rcases List.mem_cons.mp hp with rfl | hp
  · exact absurd e h
  · have : p = ((P2, "unsound_by.<locals>.<lambda>") : Addr × Str) := by simpa using hp
    rw [this]
def sp_unsound_by (P1 P2 : Addr) : Sp := fun vs H Q _ => vs = [.non] ∧ TabsN (TT P1 P2) H ∧ ∀ H' f, Ext H H' → TabsN (TT P1 P2) H' → LamAt H' f → Q (.ref f) H'
theorem cal_unsound_by {P1 P2 : Addr} (Y : Ty K mg base P1 P2) : Cal P w K mg base 1 "unsound_by" ["prices"] (sp_unsound_by P1 P2) := by
  obtain ⟨f, fd, c, hm, F, hc, TB⟩ := Y.o2
  refine ⟨f, fd, hm, F.kp, F.bindsN (ps := ["prices"]) (fun _ _ _ _ _ _ us hl => match us, hl with | [_], _ => rfl), ?_⟩
  obtain ⟨oc, od, dV, kV', doc, pm, an, cdv, ct, osl, rfl, lk, hcd, _, _⟩ := F.ex
  obtain rfl : cdv = .ref c := hc
  refine fn_ofG (N := N_unsound_by) lk hcd sc_unsound_by (fun vs H Q E h => ?_) fun A outer s s1 H vs Q E hr h I => ?_
  · obtain ⟨rfl, _⟩ := h; rfl
  obtain ⟨rfl, hT, q⟩ := h
  refine wpAny_execs_cons (wpAny_Return_some ?_)
  refine lam_make (T := TL P1 P2) I TB rfl (by simp [TL]; exact Or.inr rfl) (TL_hu Y.ne) (tl_to hT) rfl (fun y hy e => ?_) fun f' c' H1 s' I1 eN T1 hf0 hf hc' => ?_
  · exact (hfree_lam y hy e).elim (fun z => I.ok.has _ (.inl z)) fun z => I.ok.has _ (.inr z)
  · obtain ⟨m, hn, hl⟩ := I1.loc
    obtain ⟨u, rv, lkk⟩ := hl 0 "prices" .non rfl rfl (Or.inr (Or.inl rfl))
    rcases lkk with ⟨z, _⟩ | ⟨_, cc, hcc, o, ho, hod⟩
    · cases (show some NameKind.cell = some NameKind.local from z)
    · have hcn : H1 cc = none := I1.freeC _ cc hcc
      have su : Same H1 (upd H1 cc (ObjO cc o)) := same_new hcn
      refine ⟨_, rfl, ce_cell I1 rfl (y := "prices") rfl hcc ho (v := .ref f') rfl (q _ f' (eN.trans (ext_same su)) ((tl_of T1).ext su) ⟨cc, c', o, u, su _ _ ?_, su _ _ hc', upd_same, hod, rv⟩)⟩
      obtain rfl : _ = cc := Option.some.inj (show some _ = some cc from hcc)
      exact hf
end
end Wa
namespace Wa
open PySem PySem.Spec PyProof.Rows L2 Wx Wk Wz Wc RZ NdefX LamX
theorem pe_nev {X : Cx} {e : Expr} : PE X e (fun _ _ _ => False) := ⟨fun _ _ _ _ _ _ h => h.elim⟩
theorem undrop_eq {H : Hp} {c : Addr} {o : Obj} (h : H c = some (ObjO c o)) : upd (drop H c) c (ObjO c o) = H := by
  funext b
  by_cases e : b = c
  · subst e
    rw [upd_same, h]
  · rw [upd_ne e, drop_ne e]
/-- a pair as a key -/
def kp (p : Nat × Nat) : List Key := [Sum.inl (p.1 : Int), Sum.inl (p.2 : Int)]
theorem kp_inj {p q : Nat × Nat} (h : kp p = kp q) : p = q := by
  have h1 : (Sum.inl (p.1 : Int) : Key) = Sum.inl (q.1 : Int) := (List.cons.inj h).1
  have h2 : (Sum.inl (p.2 : Int) : Key) = Sum.inl (q.2 : Int) := (List.cons.inj (List.cons.inj h).2).1
  exact Prod.ext (Int.ofNat.inj (Sum.inl.inj h1)) (Int.ofNat.inj (Sum.inl.inj h2))
/-- the pairs that a dict has -/
def HasD (kvs : List (List Key × V)) (wl : List (Nat × Nat)) : Prop := kvs.length = wl.length ∧ ∀ p, (valV kvs (kp p)).isSome = decide (p ∈ wl)
theorem hasD_new {kvs : List (List Key × V)} {wl : List (Nat × Nat)} {p : Nat × Nat} {v : V} (h : HasD kvs wl) (hn : p ∉ wl) : HasD (putK kvs (kp p) v) (wl ++ [p]) := by
  have hv : valV kvs (kp p) = none := by
    have := h.2 p
    rw [decide_eq_false hn] at this
    cases e : valV kvs (kp p) with
    | none => rfl
    | some _ => rw [e] at this; cases this
  refine ⟨by rw [putK_new _ hv, List.length_append, List.length_append, h.1]; rfl, fun q => ?_⟩
  rw [valV_put]
  by_cases e : q = p
  · subst e
    rw [if_pos rfl, decide_eq_true (by simp)]
    rfl
  · rw [if_neg (fun z => e (kp_inj z)), h.2]
    by_cases hm : q ∈ wl
    · rw [decide_eq_true hm, decide_eq_true (by simp [hm])]
    · rw [decide_eq_false hm, decide_eq_false (by simp [hm, e])]
structure SrH (H0 : Hp) (nd lw : Addr) (wl : List (Nat × Nat)) (H : Hp) : Prop where
  same : Same H0 H
  nd : ∃ kvs, H nd = some (.dT kvs) ∧ HasD kvs wl
  lw : ∃ vs, H lw = some (.lst vs) ∧ Paired (PV H) vs wl
section
variable {H0 H H' : Hp} {nd lw : Addr} {wl : List (Nat × Nat)}
theorem SrH.mo (F : SrH H0 nd lw wl H) (e : Same H H') : SrH H0 nd lw wl H' := by
  obtain ⟨s, ⟨kvs, b1, b2⟩, ⟨vs, a1, a2⟩⟩ := F
  exact ⟨same_tr s e, ⟨kvs, e _ _ b1, b2⟩, ⟨vs, e _ _ a1, Paired.imp (fun _ _ r => PV.mo.ap (tst_same e) r) a2⟩⟩
theorem SrH.add (F : SrH H0 nd lw wl H) (n0 : H0 nd = none) (l0 : H0 lw = none) (hnl : nd ≠ lw) {kvs : List (List Key × V)} {vs : List V} {u v : V} {p : Nat × Nat} (h1 : H nd = some (.dT kvs)) (h2 : H lw = some (.lst vs)) (hv : PV H v p) (hn : p ∉ wl) :
    SrH H0 nd lw (wl ++ [p]) (upd (upd H nd (.dT (putK kvs (kp p) u))) lw (.lst (vs ++ [v]))) := by
  obtain ⟨s, ⟨kvs', b1, b2⟩, ⟨vs', a1, a2⟩⟩ := F
  cases h1.symm.trans b1
  cases h2.symm.trans a1
  have t1 : Tst H (upd H nd (.dT (putK kvs (kp p) u))) := tst_upd h1 (fun _ z => by cases z)
  have h1' : (upd H nd (.dT (putK kvs (kp p) u))) lw = some (.lst vs) := by rw [upd_ne hnl.symm]; exact h2
  have t2 := tst_lst (o := .lst (vs ++ [v])) h1'
  have t := t1.trans t2
  exact ⟨same_upd' (same_upd' s n0) l0, ⟨_, by rw [upd_ne hnl, upd_same], hasD_new b2 hn⟩, ⟨_, upd_same, Paired.snoc' (Paired.imp (fun _ _ r => PV.mo.ap t r) a2) (PV.mo.ap t hv)⟩⟩
end
/-- the pairs as ints -/
def toI (p : Nat × Nat) : Int × Int := ((p.1 : Int), (p.2 : Int))
def knOf (H : Hp) (v : V) : Nat × Nat := ((pairAt H v).1.toNat, (pairAt H v).2.toNat)
theorem pairAt_of {H : Hp} {v : V} {p : Nat × Nat} (h : PV H v p) : pairAt H v = toI p := by
  obtain ⟨t, rfl, ht⟩ := h
  show (match H t with | some (.tup [.int i, .int j]) => (i, j) | _ => (0, 0)) = _
  rw [ht]
  rfl
theorem kn_of {H : Hp} {v : V} {p : Nat × Nat} (h : PV H v p) : knOf H v = p := by
  unfold knOf
  rw [pairAt_of h]
  rfl
theorem kn_all {H : Hp} : ∀ {vs : List V} {wl : List (Nat × Nat)}, Paired (PV H) vs wl → wl = vs.map (knOf H)
  | _, _, .nil => rfl
  | _, _, .cons h t => by rw [List.map_cons, kn_of h, ← kn_all t]
theorem paired_map {α β : Type} {F : α → β → Prop} {f : α → β} : ∀ {l : List α}, (∀ x ∈ l, F x (f x)) → Paired F l (l.map f)
  | [], _ => .nil
  | x :: r, h => .cons (h x (by simp)) (paired_map fun y hy => h y (by simp [hy]))
def FoundV (S D : Nat) (x : Wr.Tab) (R : Wr.Say) (H : Hp) (v : V) : Prop := ∃ ps, Tp PV H v ps ∧ SrtO.Srtd SrtO.lexB (ps.map toI) ∧ ps.Nodup ∧ Wr.Found S D x R ps
section
variable {P : Program} {w : World} {K : PySem.W.Frag} {mg : Str → Option Value} {base : Heap}
def sp_searched : Sp := fun vs H Q _ => ∃ (S D : Nat) (sv wv : V) (f : Addr) (R : Wr.Say) (x : Wr.Tab) (G : Nat → Nat → Prop), vs = [sv, wv, .ref f] ∧ CntOk S D ∧ SayV S D H sv R ∧ SayOk S D R ∧ WatV S D H wv x ∧ Wr.TOk S D x ∧ x.length * R.length ≤ 1000 ∧ LamAt H f ∧ Wr.Sd S D x R G ∧
  ∀ H' p b, Same H H' → H' p = some (.tup [.ref b, .non]) → FoundV S D x R H' (.ref b) → Q (.ref p) H'
theorem cal_searched (T : Tx K mg) : Cal P w K mg base 3 "searched" ["saying", "watcher", "is_wrong"] sp_searched := by
  refine T.d_searched.cal sc_searched (fun _ _ _ _ _ _ us hl => match us, hl with | [_, _, _], _ => rfl) (fun vs H Q E h => ?_) fun f cdv A outer s H vs Q E hr h => ?_
  · obtain ⟨S, D, sv, wv, f, R, x, G, rfl, _⟩ := h; rfl
  obtain ⟨S, D, sv, wv, f, R, x, G, rfl, cnt, hsv, hR, hwv, hx, hsz, hF, hG, q⟩ := h
  refine ⟨_, (pss_cons (ps_set (i := 3) sc_searched.nd rfl (Or.inl rfl) (pe_dispT (hu_of hr) (pe_tup (pa_cons pe_int (pa_cons pe_int pa_nil))) pe_non))
    (pss_cons (ps_set (i := 4) sc_searched.nd rfl (Or.inl rfl) (pe_lst (pa_cons (pe_tup (pa_cons pe_int (pa_cons pe_int pa_nil))) pa_nil)))
    (pss_cons (ps_set (i := 5) sc_searched.nd rfl (Or.inl rfl) pe_int)
    (pss_cons (ps_while PassesOwn.never (pt_cmpR op_lt (pv 5) (pe_callB call_len_seq (by rfl) T.z_len PySem.boot_len (pa_cons (pv 4) pa_nil)) (nomark _))
      (pss_cons (ps_set (i := 6) sc_searched.nd rfl (Or.inl rfl) (pe_ix ix_list (pv 4) (pv 5) (fun _ _ => rfl)))
    (pss_cons (ps_aug (i := 5) sc_searched.nd rfl (.inl rfl) pe_int ip_add)
    (pss_one (ps_for PassesOwn.never rfl (pi_list (pe_cal (cal_all_steps T) (hr.mono (by decide)) (by rfl) (pa_cons (pv 0) pa_nil))) (pg_name (i := 7) sc_searched.nd rfl (Or.inl rfl))
      (pss_cons (ps_asg (pe_cal (cal_stepped T) (hr.mono (by decide)) (by rfl) (pa_cons (pv 0) (pa_cons (pv 1) (pa_cons (pv 6) (pa_cons (pv 7) pa_nil))))) (pg_tup rfl (pgs_cons (pg_name (i := 8) sc_searched.nd rfl (Or.inl rfl)) (pgs_cons (pg_name (i := 9) sc_searched.nd rfl (Or.inl rfl)) pgs_nil))))
    (pss_cons (ps_if (pt_val (pe_cloL (mk := mkL) (i := 2) (sp := sp_wrong) (lok_wrong T) (fun _ _ => rfl) (hr.mono (by decide)) rfl (by first | exact Or.inl rfl | exact Or.inr (Or.inl rfl) | exact Or.inr (Or.inr rfl)) (pa_cons (pv 6) (pa_cons (pv 7) (pa_cons (pv 8) (pa_cons (pv 9) pa_nil)))))) (pss_one ps_never) pss_nil)
    (pss_one (ps_if (PW.pt (pw_and (pt_cmp (pc_notN (pv 9)) rfl) (pw_and1 (pt_cmp (pc_dnotin (hu_of hr) (pv 9) (pv 3)) (by with_unfolding_all rfl))))) (pss_cons (ps_dput (hu_of hr) (pv 3) (pv 9) (pe_tup (pa_cons (pv 6) (pa_cons (pv 7) pa_nil))) rfl)
    (pss_one (ps_expr (pe_bm PySem.F.plainAttrs_list PySem.F.slot_list_append PySem.F.type_list_append mt_append (pv 4) (pa_cons (pv 9) pa_nil))))) pss_nil)))))))))
    (pss_one (ps_ret (pe_tup (pa_cons (pe_callTy call_tuple_of (by rfl) T.z_tuple boot_tuple (pa_cons (pe_callB cr_sortedPO (by rfl) T.z_sorted boot_sorted (pa_cons (pv 4) pa_nil)) pa_nil)) (pa_cons pe_non pa_nil))))))))), ?_⟩
  -- ahead, waiting
  intro nd hnd
  have e1 : Same H (upd H nd (.dT [])) := same_new hnd
  refine ⟨by show 2 ≤ sizeLine; decide, fun t ht => ⟨same_new ht _ _ upd_same, kp (0, 0), t, rfl, upd_same, ?_⟩⟩
  refine ⟨by show 2 ≤ sizeLine; decide, fun t2 ht2 => ⟨by show 1 ≤ sizeLine; decide, fun lw hlw => ?_⟩⟩
  have F0 : SrH H nd lw [(0, 0)] (upd (upd (upd (upd (upd H nd (.dT [])) t (.tup [.int 0, .int 0])) nd (.dT [(kp (0, 0), .non)])) t2 (.tup [.int 0, .int 0])) lw (.lst [.ref t2])) := by
    have k1 : (upd H nd (.dT [])) nd = some (.dT []) := upd_same
    have k2 : (upd (upd H nd (.dT [])) t (.tup [.int 0, .int 0])) nd = some (.dT []) := same_new ht _ _ k1
    have j1 := same_upd' (o := .dT [(kp (0, 0), .non)]) (same_tr e1 (same_new (o := .tup [.int 0, .int 0]) ht)) hnd
    have j2 := same_tr j1 (same_new (o := .tup [.int 0, .int 0]) ht2)
    have j3 := same_new (o := .lst [.ref t2]) hlw
    refine ⟨same_tr j2 j3, ⟨_, j3 _ _ (same_new ht2 _ _ upd_same), rfl, fun p => ?_⟩, ⟨_, upd_same, .cons ⟨t2, rfl, j3 _ _ upd_same⟩ .nil⟩⟩
    by_cases e : p = (0, 0)
    · subst e
      rw [valV_pos rfl, decide_eq_true (by simp)]
      rfl
    · rw [valV_neg (fun z => e (kp_inj z).symm), valV_nil, decide_eq_false (by simpa using e)]
      rfl
  have hnl : nd ≠ lw := ne_of_none (same_new ht2 _ _ upd_same) hlw
  have hl0 : H lw = none := upd_none (upd_none (upd_none (upd_none hlw)))
  clear ht ht2 hlw e1
  refine ⟨fun m σ H' => ∃ n wl, m = x.length * R.length - n ∧ n ≤ wl.length ∧ Wr.Srch S D x R G n wl ∧ SrH H nd lw wl H' ∧ ∃ y6 y7 y8 y9, σ = [some sv, some wv, some (.ref f), some (.ref nd), some (.ref lw), some (.int n), y6, y7, y8, y9],
    ⟨_, 0, _, rfl, Nat.zero_le _, Wr.srch0 hG, F0, _, _, _, _, rfl⟩, ?_⟩
  clear F0
  rintro m σ H' ⟨n, wl, rfl, hn, W, F, y6, y7, y8, y9, rfl⟩
  obtain ⟨vs, hv1, hv2⟩ := F.lw
  have hvl : vs.length = wl.length := Paired.len hv2
  have hwl : wl.length ≤ x.length * R.length := Wr.pairs_len W.nd fun p hp => hG.lt _ _ (W.good p hp)
  refine ⟨_, rfl, _, rfl, lw, vs, rfl, .inl (isLst hv1), _, _, rfl, rfl, _, rfl, ite2 (fun hgo => ?_) (fun hst => ?_)⟩
  · have hgo : n < wl.length := by
      have := of_decide_eq_true hgo
      omega
    obtain ⟨p, hp⟩ : ∃ p, wl[n]? = some p := ⟨_, List.getElem?_eq_getElem hgo⟩
    obtain ⟨v, hv, hpv⟩ := Paired.at hv2 hp
    have hpG := W.good p (List.mem_of_getElem? hp)
    obtain ⟨hp1, hp2⟩ := hG.lt _ _ hpG
    have W' := Wr.srch_step hG W hp
    have hlen' := Wr.pairs_len W'.nd fun p hp => hG.lt _ _ (W'.good p hp)
    refine ⟨fun σ' H' => ∃ n' wl, n' = n + 1 ∧ n' ≤ wl.length ∧ Wr.Srch S D x R G n' wl ∧ SrH H nd lw wl H' ∧ ∃ y6 y7 y8 y9, σ' = [some sv, some wv, some (.ref f), some (.ref nd), some (.ref lw), some (.int n'), y6, y7, y8, y9], fun σ' H' h => by
      obtain ⟨n', wl', rfl, h1, h2, h3, h4⟩ := h
      exact ⟨x.length * R.length - (n + 1), by omega, n + 1, wl', rfl, h1, h2, h3, h4⟩, ?_⟩
    refine ⟨_, rfl, _, rfl, lw, vs, n, v, rfl, rfl, isLst hv1, atI_nat hv, ?_⟩
    refine ⟨_, rfl, _, _, rfl, rfl, ?_⟩
    have hsv1 := SayV.mo.ap (tst_same F.same) hsv
    obtain ⟨sa, sx, rfl, hsa, _⟩ := id hsv1
    refine ⟨_, rfl, S, D, sa, sx, rfl, hsa, cnt, fun H5 p5 acc s5 hp5 hA hP => ?_⟩
    have F5 := F.mo s5
    obtain ⟨kvs0, hk0, _⟩ := F.nd
    have n5a : nd ≠ p5 := ne_of_none hk0 hp5
    have n5b : lw ≠ p5 := ne_of_none hv1 hp5
    refine ⟨p5, rfl, ⟨_, isLst hA⟩, for_list (xs := acc) (fun j σ H6 => SrH H nd lw (Wr.addSteps x R p wl ((Wr.allS S D).take j)) H6 ∧ H6 p5 = some (.lst acc) ∧ Paired (PV H6) acc (Wr.allS S D) ∧ PV H6 v p ∧ ∃ y7 y8 y9, σ = [some (.ref sa), some wv, some (.ref f), some (.ref nd), some (.ref lw), some (.int (n + 1)), some v, y7, y8, y9])
      ⟨by rw [List.take_zero]; exact F5, hA, hP, PV.mo.ap (tst_same s5) hpv, _, _, _, rfl⟩ (fun j σ H6 _ h => isLst h.2.1) (fun j tv σ H6 htv h => ?_) (fun σ H6 h => ?_)⟩
    · obtain ⟨F6, hA6, hP6, hpv6, y7, y8, y9, rfl⟩ := h
      obtain ⟨td, htd, htv'⟩ := Paired.at' hP6 htv
      have hmem := List.mem_of_getElem? htd
      obtain ⟨hs, hd⟩ := Wr.mem_allS.mp hmem
      obtain ⟨_, hroom⟩ := hG.nxt (t := td) hpG hs hd
      have hsv6 := SayV.mo.ap (tst_same F6.same) hsv
      have hwv6 := WatV.mo.ap (tst_same F6.same) hwv
      refine ⟨_, rfl, _, rfl, _, rfl, _, rfl, S, D, _, wv, v, tv, R, x, p, td, _, rfl, hsv6, hR, hwv6, hx, hpv6, htv', hp1, hp2, hs, hd, hroom, fun H7 a7 b7 s7 ha7 hb7 => ?_⟩
      refine ⟨a7, _, rfl, isTup ha7, rfl, _, _, rfl, _, _, rfl, rfl, ?_⟩
      have F7 := F6.mo s7
      have hA7 := s7 _ _ hA6
      have hP7 := Paired.imp (fun _ _ r => PV.mo.ap (tst_same s7) r) hP6
      have hpv7 := PV.mo.ap (tst_same s7) hpv6
      obtain ⟨tva, rfl, htva⟩ := PV.mo.ap (tst_same s7) htv'
      -- is_wrong(..)
      obtain ⟨c, c', o, u, k1, k2, k3, k4, k5⟩ := hF.mo F7.same
      have td3 := tst_drop k3
      refine ⟨f, c, c', o, u, .non, rfl, k4, k5, k1, _, rfl, _, rfl, _, rfl, _, rfl, k1, k2, k3, v, v, tva, b7, _, td.1, td.2, rfl, rfl, td3 _ _ htva, fun _ => ⟨false, rfl, iteF ?_⟩⟩
      rw [undrop_eq k3]
      -- come
      obtain ⟨kvs, b1, b2⟩ := F7.nd
      obtain ⟨vs7, a1, a2⟩ := F7.lw
      have enext : Wr.addSteps x R p wl ((Wr.allS S D).take (j + 1)) = Wr.addOne (Wr.addSteps x R p wl ((Wr.allS S D).take j)) (Wr.nxtP x R p td) := by
        rw [List.take_add_one, htd]
        exact Wr.addSteps_snoc
      have hkey : H7 b7 = some (.tup ((kp (Wr.nxtP x R p td)).map kV)) := hb7
      have hnd7 := Wr.addSteps_nodup (x := x) (R := R) (p := p) (ts := (Wr.allS S D).take j) W.nd
      have hgood7 := Wr.addSteps_good hG (p := p) hpG W.good (ts := (Wr.allS S D).take j) fun t ht => Wr.mem_allS.mp (List.mem_of_mem_take ht)
      have hl7 := Wr.pairs_len hnd7 fun q hq => hG.lt _ _ (hgood7 q hq)
      refine ⟨_, rfl, true, rfl, iteT ⟨_, rfl, _, rfl, nd, _, rfl, DGet.t b1 hkey, _, rfl, ?_⟩⟩
      by_cases hin : Wr.nxtP x R p td ∈ Wr.addSteps x R p wl ((Wr.allS S D).take j)
      · rw [b2.2, decide_eq_true hin]
        refine iteF ⟨?_, hA7, hP7, hpv7, _, _, _, rfl⟩
        rw [enext, show ∀ th : List (Nat × Nat), Wr.nxtP x R p td ∈ th → Wr.addOne th (Wr.nxtP x R p td) = th from fun th h => if_pos h]
        · exact F7
        · exact hin
      · rw [b2.2, decide_eq_false hin]
        refine iteT ?_
        refine ⟨_, rfl, _, rfl, by show 2 ≤ sizeLine; decide, fun t ht => ?_⟩
        have st := same_new (o := .tup [v, .ref tva]) ht
        have F8 := F7.mo st
        refine ⟨_, rfl, _, rfl, nd, _, rfl, DPut.t (st _ _ b1) (st _ _ hkey) (by rw [b2.1]; exact small1000 (by omega)), ?_⟩
        have F9 := F8.add (u := .ref t) hnd hl0 hnl (st _ _ b1) (st _ _ a1) ⟨b7, rfl, st _ _ hb7⟩ hin
        have t1 : Tst (upd H7 t (.tup [v, .ref tva])) (upd (upd H7 t (.tup [v, .ref tva])) nd (.dT (putK kvs (kp (Wr.nxtP x R p td)) (.ref t)))) := tst_upd (st _ _ b1) (fun _ z => by cases z)
        have h1' : (upd (upd H7 t (.tup [v, .ref tva])) nd (.dT (putK kvs (kp (Wr.nxtP x R p td)) (.ref t)))) lw = some (.lst vs7) := by rw [upd_ne hnl.symm]; exact st _ _ a1
        have t2 := tst_lst (o := .lst (vs7 ++ [.ref b7])) h1'
        have tt := (tst_same st).trans (t1.trans t2)
        refine ⟨_, rfl, .inl ⟨rfl, _, isLst h1'⟩, _, rfl, lw, _, _, rfl, rfl, h1', by rw [Paired.len a2]; exact small1000 (by omega), ?_⟩
        refine ⟨?_, by rw [upd_ne n5b.symm, upd_ne n5a.symm]; exact st _ _ hA7, Paired.imp (fun _ _ r => PV.mo.ap tt r) hP7, PV.mo.ap tt hpv7, _, _, _, rfl⟩
        rw [enext, show ∀ th : List (Nat × Nat), Wr.nxtP x R p td ∉ th → Wr.addOne th (Wr.nxtP x R p td) = th ++ [Wr.nxtP x R p td] from fun th h => if_neg h]
        · exact F9
        · exact hin
    · obtain ⟨F6, hA6, hP6, hpv6, y7, y8, y9, rfl⟩ := h
      rw [List.take_of_length_le (by rw [← Paired.len hP6]; exact Nat.le_refl _)] at F6
      refine ⟨n + 1, _, rfl, ?_, W', F6, _, _, _, _, rfl⟩
      have := (Wr.addSteps_pre (x := x) (R := R) (p := p) (wl := wl) (ts := Wr.allS S D)).length_le
      omega
  · have hst : wl.length ≤ n := by
      rcases Nat.lt_or_ge n wl.length with h | h
      · exact absurd (decide_eq_true (by omega)) hst
      · exact h
    refine ⟨_, rfl, lw, vs, pairAt H', rfl, isLst hv1, fun y hy => ?_, fun ys l hS hStb hl => ?_⟩
    · obtain ⟨i, hi⟩ := List.mem_iff_getElem?.mp hy
      obtain ⟨p, _, hp⟩ := Paired.at' hv2 hi
      obtain ⟨t, rfl, ht⟩ := id hp
      exact ⟨t, rfl, by rw [pairAt_of hp]; exact ht⟩
    · have e1 : wl = vs.map (knOf H') := kn_all hv2
      have hperm : (ys.map (knOf H')).Perm wl := by
        rw [e1]
        exact hStb.perm.map _
      have hys : ∀ y ∈ ys, PV H' y (knOf H' y) := fun y hy => by
        obtain ⟨i, hi⟩ := List.mem_iff_getElem?.mp (hStb.perm.mem_iff.mp hy)
        obtain ⟨p, _, hp⟩ := Paired.at' hv2 hi
        rw [kn_of hp]
        exact hp
      have j1 : Same H' (upd H' l (.lst ys)) := same_new hl
      refine ⟨l, ys, rfl, .inl ⟨isLst upd_same, fun l2 hl2 => ?_⟩⟩
      have j2 : Same (upd H' l (.lst ys)) (upd (upd H' l (.lst ys)) l2 (.tup ys)) := same_new hl2
      refine ⟨by show 2 ≤ sizeLine; decide, fun r hr => ?_⟩
      have j3 := same_new (o := .tup [.ref l2, .non]) hr
      have jj := same_tr j1 (same_tr j2 j3)
      refine q _ r l2 (same_tr F.same jj) upd_same ⟨ys.map (knOf H'), ⟨l2, ys, rfl, j3 _ _ upd_same, paired_map fun y hy => PV.mo.ap (tst_same jj) (hys y hy)⟩, ?_, hperm.nodup_iff.mpr W.nd, Wr.found_of hG W hst hperm⟩
      have e2 : (ys.map (knOf H')).map toI = ys.map (pairAt H') := by
        rw [List.map_map]
        refine List.map_congr_left fun y hy => ?_
        show toI (knOf H' y) = pairAt H' y
        rw [pairAt_of (hys y hy)]
      rw [e2]
      exact List.pairwise_map.mpr hS
end
end Wa
namespace Wa
open PySem PySem.Spec PyProof.Rows L2 Wx Wk Wz Wc RZ NdefX LamX
/-- a def with one default that no call gives -/
def CalD (P : Program) (w : World) (K : PySem.W.Frag) (mg : Str → Option Value) (base : Heap) (k : Nat) (x : Str) (ps : List Str) (d : V) (sp : Sp) : Prop :=
  ∃ (f : Addr) (fd : FuncData) (ds : List Value), mg x = some (.ref f) ∧ PySem.W.keepIn K (.ref f) = true ∧ Vals [d] ds ∧ L2.Binds K fd ps ds ∧ FnOk P w K mg base CX0 k f fd ps sp
theorem pe_calD {X : Cx} {k : Nat} {x : Str} {ps : List Str} {d : V} {sp : Sp} {e : Expr} {es : List Expr} {t : TA} {p pos : Pos} (c : CalD X.prog X.w X.K X.mg X.base k x ps d sp) (hr : Room k X.A) (hg : Gl X x) (ha : PA X (e :: es) t)
    (hdb : (x == ("__debug__" : Str)) = false := by decide) (he : starEach (e :: es) X.env = (false, eval e X.env) :: starEach es X.env := by rfl) (hpl : (backTo pos (starEach es X.env)).any (·.1) = false := by rfl) :
    PE X (.Call (.Name x p) (e :: es) [] pos) (tCall sp [d] E0 t) := by
  obtain ⟨f, fd, ds, h1, h2, h3, h4, h5⟩ := c
  exact pe_call h5 hr hg h1 h2 h4 h3 pass0 ha hdb he hpl
section
variable {P : Program} {w : World} {K : PySem.W.Frag} {mg : Str → Option Value} {base : Heap}
def sp_sound_or_breaks (P1 P2 : Addr) : Sp := fun vs H Q _ => ∃ (S D : Nat) (sv wv : V) (R : Wr.Say) (x : Wr.Tab) (G : Nat → Nat → Prop), vs = [sv, wv, .non] ∧ CntOk S D ∧ SayV S D H sv R ∧ SayOk S D R ∧ WatV S D H wv x ∧ Wr.TOk S D x ∧ x.length ≤ 100 ∧ x.length * R.length ≤ 1000 ∧ Wr.Sd S D x R G ∧ TabsN (TT P1 P2) H ∧
  ∀ H' p v, Ext H H' → TabsN (TT P1 P2) H' → H' p = some (.tup [.str "sound", v]) → FoundV S D x R H' v → Q (.ref p) H'
theorem cal_sound_or_breaks {P1 P2 : Addr} (Y : Ty K mg base P1 P2) : CalD P w K mg base 8 "sound_or_breaks" ["saying", "watcher", "prices"] .non (sp_sound_or_breaks P1 P2) := by
  have T := Y.t
  obtain ⟨f, fd, hm, F⟩ := T.d_sound_or_breaks
  obtain ⟨ds, hds, hb⟩ := F.binds0 (ps := ["saying", "watcher", "prices"]) 2 (by simp) rfl fun D doc pm an cdv ct us ks h1 h2 => match us, h1, ks, h2 with | [_, _], _, [_], _ => ⟨_, _, _, _, _, _, rfl, rfl, rfl⟩
  refine ⟨f, fd, ds, hm, F.kp, hds, hb, F.ok sc_sound_or_breaks (fun vs H Q E h => ?_) fun cdv A outer s H vs Q E hr h => ?_⟩
  · obtain ⟨S, D, sv, wv, R, x, G, rfl, _⟩ := h; rfl
  obtain ⟨S, D, sv, wv, R, x, G, rfl, cnt, hsv, hR, hwv, hx, h100, hsz, hG, hT, q⟩ := h
  refine ⟨_, PSs.nox (X := cxOf CX0 P w K mg base N_sound_or_breaks "sound_or_breaks" (defScope s_sound_or_breaks) f cdv A outer s H E) ((pss_cons (ps_expr (pe_cal (cal_need_all T) (hr.mono (by decide)) (by rfl) (pa_cons (pv 0) (pa_cons (pv 1) (pa_cons (pv 2) pa_nil)))))
    (pss_cons (ps_asg (pe_cal (cal_searched T) (hr.mono (by decide)) (by rfl) (pa_cons (pv 0) (pa_cons (pv 1) (pa_cons (pe_cal (cal_unsound_by Y) (hr.mono (by decide)) (by rfl) (pa_cons (pv 2) pa_nil)) pa_nil)))) (pg_tup rfl (pgs_cons (pg_name (i := 3) sc_sound_or_breaks.nd rfl (Or.inl rfl)) (pgs_cons (pg_name (i := 4) sc_sound_or_breaks.nd rfl (Or.inl rfl)) pgs_nil))))
    (pss_one (ps_ret (pe_ifExp (pt_cmp (pc_isN (pv 4)) rfl) (pe_tup (pa_cons (pe_glob (v := .str "sound") (by rfl) T.g_SOUND.choose_spec ⟨_, rfl⟩) (pa_cons (pv 3) pa_nil))) pe_nev)))))), ?_⟩
  refine ⟨_, rfl, _, rfl, _, rfl, S, D, sv, wv, R, x, rfl, hsv, hwv, cnt, hR, hx, h100, fun H1 s1 => ?_⟩
  have hT1 : TabsN (TT P1 P2) H1 := hT.ext s1
  refine ⟨_, rfl, _, rfl, _, rfl, rfl, hT1, fun H2 f2 e2 hT2 hL => ?_⟩
  have t2 := (tst_same s1).trans (tst_ext e2)
  refine ⟨S, D, sv, wv, f2, R, x, G, rfl, cnt, SayV.mo.ap t2 hsv, hR, WatV.mo.ap t2 hwv, hx, hsz, hL, hG, fun H3 p b s3 hp hF => ?_⟩
  refine ⟨p, _, rfl, isTup hp, rfl, _, _, rfl, _, _, rfl, rfl, ?_⟩
  refine ⟨_, rfl, true, rfl, iteT ⟨_, rfl, by show 2 ≤ sizeLine; decide, fun r hr' => ?_⟩⟩
  have s4 := same_new (o := .tup [.str "sound", .ref b]) hr'
  obtain ⟨ps, h1, h2, h3, h4⟩ := hF
  exact q _ r _ ((ext_same s1).trans (e2.trans (ext_same (same_tr s3 s4)))) (hT2.ext (same_tr s3 s4)) upd_same ⟨ps, (Tp.mo PV.mo).ap (tst_same s4) h1, h2, h3, h4⟩
end
end Wa
namespace Wa
open PySem PySem.Spec PyProof.Rows L2 Wx Wk Wz Wc RZ NdefX LamX
/-! ### pots -/
/-- a pot whose count is at most c -/
def PotV (c : Nat) (H : Hp) (p : Addr) : Prop := ∃ a b n : Int, H p = some (.lst [.int a, .int b, .int n]) ∧ 0 ≤ a ∧ 0 ≤ b ∧ b < 2305843009213693951 ∧ 0 ≤ n ∧ n ≤ c
theorem PotV.keep {c : Nat} {H H' : Hp} {p : Addr} (h : PotV c H p) (e : ∀ u, H p = some u → H' p = some u) : PotV c H' p := by
  obtain ⟨a, b, n, h1, h2⟩ := h
  exact ⟨a, b, n, e _ h1, h2⟩
theorem PotV.le {c d : Nat} {H : Hp} {p : Addr} (h : PotV c H p) (e : c ≤ d) : PotV d H p := by
  obtain ⟨a, b, n, h1, h2, h3, h4, h5, h6⟩ := h
  exact ⟨a, b, n, h1, h2, h3, h4, h5, by omega⟩
/-- all but the object at p stay -/
def Ex1 (p : Addr) (H H' : Hp) : Prop := ∀ b u, b ≠ p → H b = some u → H' b = some u
theorem Ex1.rfl' {p : Addr} {H : Hp} : Ex1 p H H := fun _ _ _ e => e
theorem Ex1.tr {p : Addr} {H H1 H2 : Hp} (a : Ex1 p H H1) (b : Ex1 p H1 H2) : Ex1 p H H2 := fun c u n e => b c u n (a c u n e)
theorem Ex1.of {p : Addr} {H H' : Hp} (e : Same H H') : Ex1 p H H' := fun b u _ q => e b u q
theorem Ex1.off {p q : Addr} {H H1 H2 : Hp} (a : Ex1 p H H1) (hq : H q = none) (e : ∀ b, b ≠ q → H2 b = H1 b) : Ex1 p H H2 := fun b u n z => by
  rw [e b (ne_of_none z hq)]
  exact a b u n z
theorem Ex1.own {p : Addr} {H H1 H2 : Hp} (a : Ex1 p H H1) (e : ∀ b, b ≠ p → H2 b = H1 b) : Ex1 p H H2 := fun b u n z => by
  rw [e b n]
  exact a b u n z
theorem Ex1.upd {p q : Addr} {H H1 : Hp} {o : HO} (a : Ex1 p H H1) (hq : H q = none) : Ex1 p H (upd H1 q o) := fun b u n z => by
  rw [upd_ne (ne_of_none z hq)]
  exact a b u n z
theorem Ex1.tst {p : Addr} {c : Nat} {H H' : Hp} (a : Ex1 p H H') (h : PotV c H p) : Tst H H' := fun b xs e => by
  obtain ⟨x, y, n, h1, _⟩ := h
  exact a b _ (ne_of e h1 (by intro z; cases z)) e
theorem tst_eqv {p : Addr} {xs : List V} {H H' : Hp} (h : H p = some (.lst xs)) (e : ∀ b, b ≠ p → H' b = H b) : Tst H H' := fun b ys z => by
  rw [e b (ne_of z h (by intro z; cases z))]
  exact z
theorem PotV.lst {c : Nat} {H : Hp} {p : Addr} (h : PotV c H p) : ∃ xs, H p = some (.lst xs) := by
  obtain ⟨a, b, n, h1, _⟩ := h
  exact ⟨_, h1⟩
/-- the script, whatever becomes of p -/
def ScrV (K : PySem.W.Frag) (p : Addr) (H : Hp) (a : Addr) (ns : List Int) : Prop := ∀ H', Ex1 p H H' → SqL K H' a (ns.map V.int)
theorem ScrV.mo {K : PySem.W.Frag} {p a : Addr} {H H' : Hp} {ns : List Int} (h : ScrV K p H a ns) (e : Ex1 p H H') : ScrV K p H' a ns := fun H2 e2 => h H2 (e.tr e2)
theorem ScrV.here {K : PySem.W.Frag} {p a : Addr} {H : Hp} {ns : List Int} (h : ScrV K p H a ns) : SqL K H a (ns.map V.int) := h H Ex1.rfl'
theorem ScrV.of {K : PySem.W.Frag} {p a : Addr} {H H1 : Hp} {ns : List Int} (h : SqL K H a (ns.map V.int)) (hp : H p = none) (e : Same H H1) : ScrV K p H1 a ns := fun H' e1 => by
  rcases h with h | h
  · refine .inl ?_
    rcases h with h | ⟨o, h⟩
    · exact .inl (e1 _ _ (ne_of_none h hp) (e _ _ h))
    · exact .inr ⟨o, e1 _ _ (ne_of_none h hp) (e _ _ h)⟩
  · exact .inr h
theorem pow_le_bits {i : Int} {j : Int} (h1 : -(2 ^ 64) < i) (h2 : i < 2 ^ 64) (h3 : 0 ≤ j) (h4 : j ≤ 1000) : CPowW i j := by
  refine ⟨h3, ?_⟩
  have h := intBits_le_64 h1 h2
  have : (Builtin.Int.intBits i : Int) * j ≤ 64 * 1000 := Int.mul_le_mul (by omega) h4 h3 (by omega)
  omega
section
variable {P : Program} {w : World} {K : PySem.W.Frag} {mg : Str → Option Value} {base : Heap}
def sp_law_pot (K : PySem.W.Frag) : Sp := fun vs H Q _ => ∃ (a : Addr) (ns : List Int) (k : Nat), vs = [.ref a, .int k] ∧ SqL K H a (ns.map V.int) ∧ k ≤ 1000 ∧ ∀ H' p, Same H H' → H p = none → PotV 0 H' p → Q (.ref p) H'
theorem small01 (b : Bool) : -(2 ^ 64) < (if b = true then (1 : Int) else 0) ∧ (if b = true then (1 : Int) else 0) < 2 ^ 64 := by cases b <;> decide
theorem big_pos : (0 : Int) < (10 ^ (60 : Int).toNat) ^ (10 : Int).toNat := by decide +kernel
theorem bits_big : CPowW (10 ^ (60 : Int).toNat) 10 := ⟨by decide, by decide +kernel⟩
theorem cal_law_pot (T : Tx K mg) : Cal P w K mg base 1 "_law_pot" ["script", "k"] (sp_law_pot K) := by
  refine T.d_law_pot.cal sc_law_pot (fun _ _ _ _ _ _ us hl => match us, hl with | [_, _], _ => rfl) (fun vs H Q E h => ?_) fun f cdv A outer s H vs Q E hr h => ?_
  · obtain ⟨a, ns, k, rfl, _⟩ := h; rfl
  obtain ⟨a, ns, k, rfl, hS, hk, q⟩ := h
  refine ⟨_, (pss_cons (ps_set (i := 2) sc_law_pot.nd rfl (Or.inl rfl) pe_int)
    (pss_cons (ps_if (pt_cmpR op_lt (pv 1) (pe_callB call_len_seq (by rfl) T.z_len PySem.boot_len (pa_cons (pv 0) pa_nil)) (nomark _)) (pss_one (ps_set (i := 2) sc_law_pot.nd rfl (Or.inl rfl) (pe_op op_mod (pe_callB call_abs (by rfl) T.z_abs boot_abs (pa_cons (pe_ix ix_list (pv 0) (pv 1) (fun _ _ => rfl)) pa_nil)) (pe_op op_powW (pe_op op_powW pe_int pe_int) pe_int)))) pss_nil)
    (pss_one (ps_ret (pe_lst (pa_cons (pe_op op_mul (pv 2) (pe_callTy call_int1 (by rfl) T.z_int boot_int (pa_cons (pe_cmpR op_ge (pv 2) (pe_op op_powW pe_int pe_int) (nomark _)) pa_nil))) (pa_cons (pe_op op_mod (pe_op op_powW (pe_op op_add (pe_op op_add (pe_op op_mod (pv 2) pe_int) (pe_op op_mul pe_int (pv 1))) pe_int) pe_int) pe_int) (pa_cons pe_int pa_nil)))))))), ?_⟩
  -- the end, by the cell
  have fin : ∀ (cell : Int), 0 ≤ cell → ∀ p, H p = none → Q (.ref p) (upd H p (.lst [.int (cell * (if decide (cell ≥ 10 ^ (18 : Int).toNat) = true then 1 else 0)), .int ((cell % 2147483629 + 7919 * (k : Int) + 1) ^ (5 : Int).toNat % 2305843009213693951), .int 0])) := fun cell hc p hp => by
    refine q _ p (same_new hp) hp ⟨_, _, _, upd_same, ?_, Int.emod_nonneg _ (by decide), Int.emod_lt_of_pos _ (by decide), Int.le_refl _, Int.le_refl _⟩
    by_cases e : cell ≥ 10 ^ (18 : Int).toNat
    · rw [decide_eq_true e, if_pos rfl]
      omega
    · rw [decide_eq_false e, if_neg (by decide)]
      omega
  have rest : ∀ (cell : Int), 0 ≤ cell → CPowW (cell % 2147483629 + 7919 * (k : Int) + 1) 5 := fun cell hc => by
    have h1 := Int.emod_nonneg cell (by decide : (2147483629 : Int) ≠ 0)
    have h2 := Int.emod_lt_of_pos cell (by decide : (0 : Int) < 2147483629)
    exact pow_le_bits (by omega) (by omega) (by decide) (by decide)
  refine ⟨_, rfl, _, rfl, a, _, rfl, .inl hS, _, _, rfl, rfl, _, rfl, ite2 (fun hlt => ?_) (fun hge => ?_)⟩
  · have hlt : k < ns.length := by
      have := of_decide_eq_true hlt
      rw [List.length_map] at this
      omega
    obtain ⟨z, hz⟩ : ∃ z, ns[k]? = some z := ⟨_, List.getElem?_eq_getElem hlt⟩
    have hz' : (ns.map V.int)[k]? = some (.int z) := by rw [List.getElem?_map, hz]; rfl
    refine ⟨_, rfl, _, rfl, a, _, (k : Int), _, rfl, rfl, hS, atI_nat hz', z, rfl, ?_⟩
    refine ⟨_, _, rfl, rfl, ⟨by decide, by decide +kernel⟩, _, _, rfl, rfl, bits_big, _, _, rfl, rfl, big_pos, ?_⟩
    have hc : 0 ≤ (if z < 0 then -z else z) % (10 ^ (60 : Int).toNat) ^ (10 : Int).toNat := Int.emod_nonneg _ (Int.ne_of_gt big_pos)
    refine ⟨_, rfl, _, rfl, _, _, rfl, rfl, ⟨by decide, by decide +kernel⟩, _, _, rfl, rfl, .inr ⟨_, rfl, _, _, rfl, rfl, .inr (small01 _), ?_⟩⟩
    refine ⟨_, rfl, _, _, rfl, rfl, by show (0 : Int) < 2147483629; decide, _, rfl, _, _, rfl, rfl, .inl (by decide), _, _, rfl, rfl, _, _, rfl, rfl, _, _, rfl, rfl, rest _ hc, _, _, rfl, rfl, by show (0 : Int) < 2305843009213693951; decide, by show 3 ≤ sizeLine; decide, fun p hp => ?_⟩
    exact fin _ hc p hp
  · refine ⟨_, rfl, _, rfl, _, _, rfl, rfl, ⟨by decide, by decide +kernel⟩, _, _, rfl, rfl, .inr ⟨_, rfl, _, _, rfl, rfl, .inr (small01 _), ?_⟩⟩
    refine ⟨_, rfl, _, _, rfl, rfl, by show (0 : Int) < 2147483629; decide, _, rfl, _, _, rfl, rfl, .inl (by decide), _, _, rfl, rfl, _, _, rfl, rfl, _, _, rfl, rfl, rest 0 (Int.le_refl _), _, _, rfl, rfl, by show (0 : Int) < 2305843009213693951; decide, by show 3 ≤ sizeLine; decide, fun p hp => ?_⟩
    exact fin 0 (Int.le_refl _) p hp
def sp_law_take : Sp := fun vs H Q _ => ∃ (p : Addr) (m c : Nat), vs = [.ref p, .int m] ∧ PotV c H p ∧ 1 ≤ m ∧ m < 1073741824 ∧ c ≤ 1000000 ∧ ∀ H' (r : Nat), r < m → PotV (c + 1) H' p → (∀ b, b ≠ p → H' b = H b) → Q (.int r) H'
theorem cal_law_take (T : Tx K mg) : Cal P w K mg base 1 "_law_take" ["pot", "many"] sp_law_take := by
  refine T.d_law_take.cal sc_law_take (fun _ _ _ _ _ _ us hl => match us, hl with | [_, _], _ => rfl) (fun vs H Q E h => ?_) fun f cdv A outer s H vs Q E hr h => ?_
  · obtain ⟨p, m, c, rfl, _⟩ := h; rfl
  obtain ⟨p, m, c, rfl, ⟨a, b, n, hp, h1, h2, h3, h4, h5⟩, hm1, hm2, hc, q⟩ := h
  refine ⟨_, (pss_cons (ps_if (pt_cmpR op_gt (pe_ix ix_list (pv 0) pe_int (fun _ _ => rfl)) pe_int (nomark _)) (pss_cons (ps_set (i := 2) sc_law_take.nd rfl (Or.inl rfl) (pe_op op_mod (pe_ix ix_list (pv 0) pe_int (fun _ _ => rfl)) (pv 1)))
    (pss_cons (ps_asg (pe_op op_fdiv (pe_ix ix_list (pv 0) pe_int (fun _ _ => rfl)) (pv 1)) (pg_sub (pv 0) pe_int set_list))
    (pss_one (ps_ret (pv 2))))) pss_nil)
    (pss_cons (ps_asg (pe_op op_add (pe_ix ix_list (pv 0) pe_int (fun _ _ => rfl)) pe_int) (pg_sub (pv 0) pe_int set_list))
    (pss_cons (ps_set (i := 3) sc_law_take.nd rfl (Or.inl rfl) (pe_op op_mod (pe_op op_powW (pe_op op_add (pe_ix ix_list (pv 0) pe_int (fun _ _ => rfl)) (pe_op op_mul pe_int (pe_ix ix_list (pv 0) pe_int (fun _ _ => rfl)))) pe_int) pe_int))
    (pss_cons (ps_set (i := 4) sc_law_take.nd rfl (Or.inl rfl) (pe_op op_mod (pe_op op_powW (pe_op op_add (pe_op op_add (pv 3) (pe_op op_mod (pe_ix ix_list (pv 0) pe_int (fun _ _ => rfl)) pe_int)) (pe_op op_mul pe_int (pe_ix ix_list (pv 0) pe_int (fun _ _ => rfl)))) pe_int) pe_int))
    (pss_one (ps_ret (pe_op op_mod (pe_op op_fdiv (pv 4) pe_int) (pv 1)))))))), ?_⟩
  have hmp : (0 : Int) < m := by omega
  have hend : ∀ (x : Int), ∃ r : Nat, x % m = r ∧ r < m := fun x => by
    have e1 := Int.emod_nonneg x (Int.ne_of_gt hmp)
    have e2 := Int.emod_lt_of_pos x hmp
    exact ⟨(x % m).toNat, by omega, by omega⟩
  refine ⟨_, rfl, p, _, (0 : Nat), _, rfl, rfl, isLst hp, atI_nat rfl, _, _, rfl, rfl, _, rfl, ite2 (fun hgo => ?_) (fun hno => ?_)⟩
  · obtain ⟨r, er, hr'⟩ := hend a
    refine ⟨_, rfl, p, _, (0 : Nat), _, rfl, rfl, isLst hp, atI_nat rfl, _, rfl, _, _, rfl, rfl, hmp, ?_⟩
    refine ⟨_, rfl, p, _, (0 : Nat), _, rfl, rfl, isLst hp, atI_nat rfl, _, rfl, _, _, rfl, rfl, ⟨hmp, by omega⟩, ?_⟩
    refine ⟨_, rfl, p, _, (0 : Int), 0, rfl, rfl, hp, rfl, ?_⟩
    refine ⟨_, rfl, ?_⟩
    show Q (.int (a % m)) _
    rw [er]
    exact q _ r hr' ⟨a / m, b, n, upd_same, Int.ediv_nonneg h1 (by omega), h2, h3, h4, by omega⟩ fun b' hb' => upd_ne hb'
  · refine ⟨_, rfl, p, _, (2 : Nat), _, rfl, rfl, isLst hp, atI_nat rfl, _, _, rfl, rfl, ?_⟩
    refine ⟨_, rfl, p, _, (2 : Int), 2, rfl, rfl, hp, rfl, ?_⟩
    have hp2 : (upd H p (.lst [.int a, .int b, .int (n + 1)])) p = some (.lst [.int a, .int b, .int (n + 1)]) := upd_same
    have hn : 0 ≤ n + 1 := by omega
    have hn2 : n + 1 ≤ 1000001 := by omega
    have b1 : -(2 ^ 64) < b + 104729 * (n + 1) ∧ b + 104729 * (n + 1) < 2 ^ 64 := by omega
    refine ⟨_, rfl, p, _, (1 : Nat), _, rfl, rfl, isLst hp2, atI_nat rfl, _, rfl, p, _, (2 : Nat), _, rfl, rfl, isLst hp2, atI_nat rfl, _, _, rfl, rfl, .inl (by decide), _, _, rfl, rfl, _, _, rfl, rfl, pow_le_bits b1.1 b1.2 (by decide) (by decide), _, _, rfl, rfl, by show (0 : Int) < 2305843009213693921; decide, ?_⟩
    have o1 := Int.emod_nonneg ((b + 104729 * (n + 1)) ^ (3 : Int).toNat) (by decide : (2305843009213693921 : Int) ≠ 0)
    have o2 := Int.emod_lt_of_pos ((b + 104729 * (n + 1)) ^ (3 : Int).toNat) (by decide : (0 : Int) < 2305843009213693921)
    have o3 := Int.emod_nonneg b (by decide : (65537 : Int) ≠ 0)
    have o4 := Int.emod_lt_of_pos b (by decide : (0 : Int) < 65537)
    have b2 : ∀ one : Int, 0 ≤ one → one < 2305843009213693921 → CPowW (one + b % 65537 + 31 * (n + 1)) 5 := fun one h1 h2 => pow_le_bits (by omega) (by omega) (by decide) (by decide)
    refine ⟨_, rfl, _, rfl, p, _, (1 : Nat), _, rfl, rfl, isLst hp2, atI_nat rfl, _, _, rfl, rfl, by show (0 : Int) < 65537; decide, _, _, rfl, rfl, _, rfl, p, _, (2 : Nat), _, rfl, rfl, isLst hp2, atI_nat rfl, _, _, rfl, rfl, .inl (by decide), _, _, rfl, rfl, _, _, rfl, rfl, b2 _ o1 o2, _, _, rfl, rfl, by show (0 : Int) < 2305843009213693907; decide, ?_⟩
    refine ⟨_, rfl, _, _, rfl, rfl, ⟨by decide, by decide⟩, _, rfl, _, _, rfl, rfl, hmp, ?_⟩
    obtain ⟨r, er, hr'⟩ := hend (((((b + 104729 * (n + 1)) ^ (3 : Int).toNat % 2305843009213693921) + b % 65537 + 31 * (n + 1)) ^ (5 : Int).toNat % 2305843009213693907) / 1024)
    show Q (.int (((((b + 104729 * (n + 1)) ^ (3 : Int).toNat % 2305843009213693921) + b % 65537 + 31 * (n + 1)) ^ (5 : Int).toNat % 2305843009213693907) / 1024 % m)) _
    rw [er]
    exact q _ r hr' ⟨a, b, n + 1, hp2, h1, h2, h3, hn, by omega⟩ fun b' hb' => upd_ne hb'
end
end Wa
namespace Wa
open PySem PySem.Spec PyProof.Rows L2 Wx Wk Wz Wc RZ NdefX LamX
def intsOf (ks : List Nat) : List V := ks.map fun (k : Nat) => V.int k
theorem inV_ks {o : Option Nat} {v : V} {H : Hp} (hv : OV H v o) (ks : List Nat) : inV v (intsOf ks) = Wr.inKs o ks := by
  unfold OV at hv
  subst hv
  unfold inV intsOf Wr.inKs
  rw [List.any_map]
  cases o with
  | none =>
    show (List.any ks fun k => eqV (V.int k) V.non) = false
    rw [List.any_eq_false]
    intro x _
    exact Bool.false_ne_true
  | some r =>
    show (List.any ks fun k => eqV (V.int k) (V.int r)) = decide (r ∈ ks)
    by_cases h : r ∈ ks
    · rw [decide_eq_true h, List.any_eq_true]
      exact ⟨r, h, by simp [eqV]⟩
    · rw [decide_eq_false h, List.any_eq_false]
      intro x hx e
      have e' : eqV (V.int x) (V.int r) = true := e
      simp [eqV] at e'
      have : x = r := by omega
      exact h (this ▸ hx)
theorem flat_ints (ks : List Nat) : (intsOf ks).all flatV = true := by
  unfold intsOf
  rw [List.all_eq_true]
  intro x hx
  obtain ⟨k, _, rfl⟩ := List.mem_map.mp hx
  rfl
theorem flat_OV {o : Option Nat} {v : V} {H : Hp} (hv : OV H v o) : flatV v = true := by
  unfold OV at hv
  subst hv
  cases o <;> rfl
/-- a bool -/
def BlV (_ : Hp) (v : V) (b : Bool) : Prop := v = .bl b
theorem BlV.mo : Mo BlV := fun _ _ _ _ _ h => h
theorem blV_list : ∀ {acc : List V} {bs : List Bool} {H : Hp}, Paired (BlV H) acc bs → acc = bs.map V.bl
  | _, _, _, .nil => rfl
  | _, _, _, .cons h t => by
    have h : _ = V.bl _ := h
    rw [h, blV_list t]
    rfl
theorem nv_list : ∀ {acc : List V} {ks : List Nat} {H : Hp}, Paired (NV H) acc ks → acc = intsOf ks
  | _, _, _, .nil => rfl
  | _, _, _, .cons h t => by
    have h : _ = V.int _ := h
    rw [h, nv_list t]
    rfl
section
variable {P : Program} {w : World} {K : PySem.W.Frag} {mg : Str → Option Value} {base : Heap}
def sp_law_whole : Sp := fun vs H Q _ => ∃ i : Int, vs = [.int i] ∧ Q (.bl true) H
theorem cal_law_whole (T : Tx K mg) : Cal P w K mg base 1 "_law_whole" ["found"] sp_law_whole := by
  refine T.d_law_whole.cal sc_law_whole (fun _ _ _ _ _ _ us hl => match us, hl with | [_], _ => rfl) (fun vs H Q E h => ?_) fun f cdv A outer s H vs Q E hr h => ?_
  · obtain ⟨i, rfl, _⟩ := h; rfl
  obtain ⟨i, rfl, q⟩ := h
  refine ⟨_, (pss_one (ps_ret (pe_and (pe_callB call_isi (by rfl) T.z_isinstance boot_isinstance (pa_cons (pv 0) (pa_cons (pe_bltn (v := .ty "int") (by rfl) T.z_int boot_int rfl) pa_nil))) (pe_one (pe_not (pe_callB call_isi (by rfl) T.z_isinstance boot_isinstance (pa_cons (pv 0) (pa_cons (pe_bltn (v := .ty "bool") (by rfl) T.z_bool boot_bool rfl) pa_nil)))))))), ?_⟩
  refine ⟨_, rfl, .int i, .ty "int", .type "int", .type "int", true, rfl, .ty _, .base (.int _), kit_ty (by decide +kernel), true, rfl, iteT ?_⟩
  exact ⟨_, rfl, .int i, .ty "bool", .type "int", .type "bool", false, rfl, .ty _, .base (.int _), kit_ty (by decide +kernel), false, rfl, q⟩
def sp_law_cost : Sp := fun vs H Q _ => ∃ (i j : Int), vs = [.non, .int i, .int j] ∧ ∀ k : Int, Q (.int k) H
theorem cal_law_cost (T : Tx K mg) : Cal P w K mg base 1 "_law_cost" ["fees", "wanted", "given"] sp_law_cost := by
  refine T.d_law_cost.cal sc_law_cost (fun _ _ _ _ _ _ us hl => match us, hl with | [_, _, _], _ => rfl) (fun vs H Q E h => ?_) fun f cdv A outer s H vs Q E hr h => ?_
  · obtain ⟨i, j, rfl, _⟩ := h; rfl
  obtain ⟨i, j, rfl, q⟩ := h
  refine ⟨_, (pss_cons (ps_if (pt_cmpR op_eq (pv 1) (pv 2) (nomark _)) (pss_one (ps_ret pe_int)) pss_nil)
    (pss_cons (ps_if (pt_cmp (pc_isN (pv 0)) rfl) (pss_one (ps_ret pe_int)) pss_nil)
    (pss_one (ps_ret (pe_ix ix_tup (pe_ix ix_tup (pv 0) (pv 1) (fun _ _ => rfl)) (pv 2) (fun _ _ => rfl)))))), ?_⟩
  refine ⟨_, rfl, _, rfl, rfl, _, rfl, ite2 (fun e => ?_) (fun e => ?_)⟩
  · exact q 0
  · exact ⟨_, rfl, true, rfl, iteT (q 1)⟩
def sp_law_answers : Sp := fun vs H Q _ => ∃ (D : Nat) (j : Int), vs = [.non, .int D, .int j] ∧ 1 ≤ D ∧ D ≤ 9 ∧ ∀ H' p, Same H H' → H p = none → H' p = some (.lst (intsOf (List.range D))) → Q (.ref p) H'
theorem cal_law_answers (T : Tx K mg) : Cal P w K mg base 2 "_law_answers" ["fees", "deeds", "wanted"] sp_law_answers := by
  refine T.d_law_answers.cal sc_law_answers (fun _ _ _ _ _ _ us hl => match us, hl with | [_, _, _], _ => rfl) (fun vs H Q E h => ?_) fun f cdv A outer s H vs Q E hr h => ?_
  · obtain ⟨D, j, rfl, _⟩ := h; rfl
  obtain ⟨D, j, rfl, d1, d9, q⟩ := h
  refine ⟨_, (pss_one (ps_ret (pe_lc (own := [("given", 3)]) (g := (gName 3)) rfl sc_law_answers.nd (pi_range1 (by rfl) T.z_range (pa_cons (pv 1) pa_nil)) (blkOk_by (own := [("given", 3)]) (N := N_law_answers) (sc := defScope s_law_answers) (by decide +kernel)) (fun _ _ _ _ _ => (pg_name (i := 3) sc_law_answers.nd rfl (Or.inl rfl))) (fun _ _ _ _ _ => (pts_one (pt_cmp (pc_notN (pe_cal (cal_law_cost T) (hr.mono (by decide)) (by rfl) (pa_cons (pv 0) (pa_cons (pv 2) (pa_cons (pv 3) pa_nil))))) rfl))) (fun _ _ _ _ _ => (pv 3))))), ?_⟩
  refine ⟨_, rfl, D, rfl, by omega, by omega, fun L hL => lcR (n := D) (R := NV) (ys := List.range D) NV.mo hL (by simp) (small1000 (by omega)) (fun i y H1 Q' Q'' hi hy s1 qq => ?_) (fun H1 acc s1 hA hP => ?_)⟩
  · refine ⟨rfl, _, rfl, _, rfl, _, rfl, _, _, rfl, fun k => ⟨true, rfl, iteT ⟨_, rfl, qq _ _ same_rfl ?_⟩⟩⟩
    rw [List.getElem?_range hi] at hy
    rw [← Option.some.inj hy]
    show V.int (0 + (i : Int)) = V.int i
    rw [Int.zero_add]
  · refine q _ L s1 hL ?_
    rw [hA, nv_list hP]
def sp_law_held (K : PySem.W.Frag) : Sp := fun vs H Q _ => ∃ (S D : Nat) (sv : V) (R : Wr.Say) (a : Addr) (ks : List Nat) (r : Nat), vs = [sv, .non, .ref a, .int r] ∧ SayV S D H sv R ∧ CntOk S D ∧ SayOk S D R ∧ H a = some (.lst (intsOf ks)) ∧ r < R.length ∧ ∀ H', Same H H' → Q (.bl (Wr.heldB S D R ks r)) H'
theorem cal_law_held (T : Tx K mg) : Cal P w K mg base 3 "_law_held" ["saying", "fees", "rooms", "room"] (sp_law_held K) := by
  refine T.d_law_held.cal sc_law_held (fun _ _ _ _ _ _ us hl => match us, hl with | [_, _, _, _], _ => rfl) (fun vs H Q E h => ?_) fun f cdv A outer s H vs Q E hr h => ?_
  · obtain ⟨S, D, sv, R, a, ks, r, rfl, _⟩ := h; rfl
  obtain ⟨S, D, sv, R, a, ks, r, rfl, hsv, ⟨s1, s9, d1, d9⟩, hR, ha, hr', q⟩ := h
  refine ⟨_, (pss_cons (ps_asg (pv 0) (pg_tup rfl (pgs_cons (pg_name (i := 4) sc_law_held.nd rfl (Or.inl rfl)) (pgs_cons (pg_name (i := 5) sc_law_held.nd rfl (Or.inl rfl)) (pgs_cons (pg_name (i := 6) sc_law_held.nd rfl (Or.inr rfl)) pgs_nil)))))
    (pss_cons (ps_for PassesOwn.never rfl (pi_range1 (by rfl) T.z_range (pa_cons (pv 4) pa_nil)) (pg_name (i := 7) sc_law_held.nd rfl (Or.inr rfl))
      (pss_one (ps_for PassesOwn.never rfl (pi_range1 (by rfl) T.z_range (pa_cons (pv 5) pa_nil)) (pg_name (i := 8) sc_law_held.nd rfl (Or.inl rfl))
      (pss_one (ps_if (pt_not (pt_val (pe_callB (cr_any rfl) (by rfl) T.z_any boot_any (pa_cons (pe_lc (own := [("given", 9)]) (g := (gName 9)) rfl sc_law_held.nd (pi_list (pe_cal (cal_law_answers T) (hr.mono (by decide)) (by rfl) (pa_cons (pv 1) (pa_cons (pv 5) (pa_cons (pv 8) pa_nil))))) (blkOk_by (own := [("given", 9)]) (N := N_law_held) (sc := defScope s_law_held) (by decide +kernel)) (fun _ _ _ _ _ => (pg_name (i := 9) sc_law_held.nd rfl (Or.inl rfl))) (fun _ _ _ _ _ => pts_nil) (fun _ _ _ _ _ => (pe_cmpR (in_K (K := K) rfl) (pe_ix (ixt_K (K := K) rfl) (pe_ix (ixt_K (K := K) rfl) (pe_ix (ixt_K (K := K) rfl) (pv 6) (pv 3) (fun _ _ => rfl)) (pv 7) (fun _ _ => rfl)) (pv 9) (fun _ _ => rfl)) (pv 2) (by with_unfolding_all rfl)))) pa_nil)))) (pss_one (ps_ret pe_bl)) pss_nil)))))
    (pss_one (ps_ret pe_bl)))), ?_⟩
  obtain ⟨b, y, rfl, hb, hy⟩ := id hsv
  refine ⟨_, rfl, b, _, rfl, isTup hb, rfl, _, _, rfl, _, _, rfl, _, _, rfl, rfl, ?_⟩
  refine ⟨_, rfl, S, rfl, by omega, by omega, for_range (lo := 0) (n := S) (fun i σ H1 => Same H H1 ∧ (∀ s, s < i → (List.range D).any (fun g => Wr.inKs (Wr.room R r s g) ks) = true) ∧ ∃ y7 y8, σ = [some (.ref b), some .non, some (.ref a), some (.int r), some (.int S), some (.int D), some y, y7, y8, none])
    ⟨same_rfl, fun s hs => absurd hs (Nat.not_lt_zero s), _, _, rfl⟩ (fun i σ H1 hi h => ?_) (fun σ H1 h => ?_)⟩
  · obtain ⟨e1, hall, y7, y8, rfl⟩ := h
    refine ⟨_, rfl, D, rfl, by omega, by omega, for_range (lo := 0) (n := D) (fun j σ H2 => Same H H2 ∧ (0 < j → (List.range D).any (fun g => Wr.inKs (Wr.room R r i g) ks) = true) ∧ ∃ y8, σ = [some (.ref b), some .non, some (.ref a), some (.int r), some (.int S), some (.int D), some y, some (.int (0 + i)), y8, none])
      ⟨e1, fun z => absurd z (Nat.lt_irrefl 0), _, rfl⟩ (fun j σ H2 hj h => ?_) (fun σ H2 h => ?_)⟩
    · obtain ⟨e2, hj0, y8, rfl⟩ := h
      refine ⟨_, rfl, _, rfl, _, rfl, D, _, rfl, d1, d9, fun H3 p e3 hp0 hp => ?_⟩
      have e03 := same_tr e2 e3
      refine ⟨p, rfl, ⟨_, isLst hp⟩, fun L hL => lcL (R := BlV) (ys := (List.range D).map fun g => Wr.inKs (Wr.room R r i g) ks) BlV.mo hL hp (by simp [intsOf]) (small1000 (by simp [intsOf]; omega)) (fun g u z H4 Q' Q'' hu hz s4 qq => ?_) (fun H4 acc s4 hA hP => ?_)⟩
      · have e04 := same_tr e03 s4
        have hg : g < D := by
          have := (List.getElem?_eq_some_iff.mp hu).1
          simpa [intsOf] using this
        have hu' : u = .int g := by
          unfold intsOf at hu
          rw [List.getElem?_map, List.getElem?_range hg] at hu
          exact (Option.some.inj hu).symm
        subst hu'
        obtain ⟨X, Y, j1, j2, j3⟩ := say_get hR hr' hi hg
        obtain ⟨a', b', c', e', rs', rows', cells', u', q1, k1, k2, f1, k3, f2, k4, f3, hu⟩ := say_cell (SayV.mo.ap (tst_same e04) hsv) j1 j2 j3
        cases q1
        have hb4 := e04 _ _ hb
        rw [k1] at hb4
        cases hb4
        refine ⟨rfl, _, rfl, _, rfl, b', _, r, _, rfl, rfl, isTup k2, atI_nat f1, _, rfl, c', _, (0 + (i : Int)), _, rfl, rfl, isTup k3, by rw [Int.zero_add]; exact atI_nat f2, _, rfl, e', _, g, _, rfl, rfl, isTup k4, atI_nat f3, _, rfl, a, _, rfl, .inl (isLst (e04 _ _ ha)), flat_OV hu, flat_ints ks, qq _ _ same_rfl ?_⟩
        rw [inV_ks hu]
        rw [List.getElem?_map, List.getElem?_range hg] at hz
        rw [← Option.some.inj hz]
        rfl
      · have e04 := same_tr e03 s4
        have hany : (((List.range D).map fun g => Wr.inKs (Wr.room R r i g) ks).any id) = (List.range D).any fun g => Wr.inKs (Wr.room R r i g) ks := by
          rw [List.any_map]
          rfl
        cases e : (List.range D).any fun g => Wr.inKs (Wr.room R r i g) ks with
        | true =>
          refine ⟨L, (List.range D).map fun g => Wr.inKs (Wr.room R r i g) ks, rfl, by rw [← blV_list hP]; exact isLst hA, true, congrArg V.bl (hany.trans e), iteF ?_⟩
          exact ⟨e04, fun _ => rfl, _, rfl⟩
        | false =>
          refine ⟨L, (List.range D).map fun g => Wr.inKs (Wr.room R r i g) ks, rfl, by rw [← blV_list hP]; exact isLst hA, false, congrArg V.bl (hany.trans e), iteT ?_⟩
          have hh : Wr.heldB S D R ks r = false := by
            unfold Wr.heldB
            rw [List.all_eq_false]
            exact ⟨i, List.mem_range.mpr hi, by rw [e]; exact Bool.false_ne_true⟩
          have := q _ e04
          rw [hh] at this
          exact this
    · obtain ⟨e2, hj0, y8, rfl⟩ := h
      refine ⟨e2, fun s hs => ?_, _, _, rfl⟩
      by_cases e : s = i
      · subst e; exact hj0 (by omega)
      · exact hall s (by omega)
  · obtain ⟨e1, hall, y7, y8, rfl⟩ := h
    have : Wr.heldB S D R ks r = true := by
      unfold Wr.heldB
      rw [List.all_eq_true]
      exact fun s hs => hall s (List.mem_range.mp hs)
    have := q _ e1
    rw [‹Wr.heldB S D R ks r = true›] at this
    exact this
end
end Wa
namespace Wa
open PySem PySem.Spec PyProof.Rows L2 Wx Wk Wz Wc RZ NdefX LamX
section
variable {P : Program} {w : World} {K : PySem.W.Frag} {mg : Str → Option Value} {base : Heap}
def sp_law_kept : Sp := fun vs H Q _ => ∃ (S D : Nat) (sv : V) (R : Wr.Say), vs = [sv, .non] ∧ SayV S D H sv R ∧ CntOk S D ∧ SayOk S D R ∧ ∀ H' p, Same H H' → H p = none → H' p = some (.lst (intsOf (Wr.keptL S D R))) → Q (.ref p) H'
theorem cal_law_kept (T : Tx K mg) : Cal P w K mg base 4 "_law_kept" ["saying", "fees"] sp_law_kept := by
  refine T.d_law_kept.cal sc_law_kept (fun _ _ _ _ _ _ us hl => match us, hl with | [_, _], _ => rfl) (fun vs H Q E h => ?_) fun f cdv A outer s H vs Q E hr h => ?_
  · obtain ⟨S, D, sv, R, rfl, _⟩ := h; rfl
  obtain ⟨S, D, sv, R, rfl, hsv, cnt, hR, q⟩ := h
  refine ⟨_, (pss_cons (ps_set (i := 2) sc_law_kept.nd rfl (Or.inr rfl) (pe_listRg rfl (by rfl) T.z_list (prg_1 (by rfl) T.z_range (pe_callB call_len_seq (by rfl) T.z_len PySem.boot_len (pa_cons (pe_ix ix_tup (pv 0) pe_int (fun _ _ => rfl)) pa_nil)))))
    (pss_cons (ps_for PassesOwn.never rfl (pi_range1 (by rfl) T.z_range (pa_cons (pe_callB call_len_seq (by rfl) T.z_len PySem.boot_len (pa_cons (pe_ix ix_tup (pv 0) pe_int (fun _ _ => rfl)) pa_nil)) pa_nil)) (pg_name (i := 3) sc_law_kept.nd rfl (Or.inl rfl))
      (pss_one (ps_set (i := 2) sc_law_kept.nd rfl (Or.inr rfl) (pe_lc (own := [("room", 4)]) (g := (gName 4)) rfl sc_law_kept.nd (pi_list (pv 2)) (blkOk_by (own := [("room", 4)]) (N := N_law_kept) (sc := defScope s_law_kept) (by decide +kernel)) (fun _ _ _ _ _ => (pg_name (i := 4) sc_law_kept.nd rfl (Or.inl rfl))) (fun _ _ _ _ _ => (pts_one (pt_val (pe_cal (cal_law_held T) (hr.mono (by decide)) (by rfl) (pa_cons (pv 0) (pa_cons (pv 1) (pa_cons (pv 2) (pa_cons (pv 4) pa_nil)))))))) (fun _ _ _ _ _ => (pv 4))))))
    (pss_one (ps_ret (pv 2))))), ?_⟩
  obtain ⟨a, y, rfl, ha, b, rs, rfl, hb, hp⟩ := id hsv
  have hlen : rs.length = R.length := Paired.len hp
  have h100 := hR.2.1
  refine ⟨_, rfl, a, _, (2 : Nat), _, rfl, rfl, isTup ha, atI_nat rfl, b, rs, rfl, .inr (isTup hb), rs.length, rfl, RgOk.of_le (by omega) (by omega) (by omega) (by omega), fun q0 hq0 => ?_⟩
  have hrg : rgV 0 (rs.length : Int) = intsOf (Wr.keptN S D R 0) := by
    unfold rgV intsOf
    show _ = (List.range R.length).map _
    rw [← hlen]
    simp
  rw [hrg]
  have e0 : Same H (upd H q0 (.lst (intsOf (Wr.keptN S D R 0)))) := same_new hq0
  refine ⟨_, rfl, a, _, (2 : Nat), _, rfl, rfl, isTup (e0 _ _ ha), atI_nat rfl, b, rs, rfl, .inr (isTup (e0 _ _ hb)), rs.length, rfl, by omega, by omega, for_range (lo := 0) (n := rs.length) (fun i σ H1 => Same H H1 ∧ ∃ (p : Addr) (y3 : Option V), H p = none ∧ H1 p = some (.lst (intsOf (Wr.keptN S D R i))) ∧ σ = [some (.ref a), some .non, some (.ref p), y3, none])
    ⟨e0, q0, _, hq0, upd_same, rfl⟩ (fun i σ H1 hi h => ?_) (fun σ H1 h => ?_)⟩
  · obtain ⟨e1, p, y3, hp0, hp1, rfl⟩ := h
    have hsub := Wr.keptN_sub (S := S) (D := D) (R := R) i
    have hkl := hsub.length_le
    rw [List.length_range] at hkl
    have eqi : (intsOf (Wr.keptN S D R i)).length = (Wr.keptN S D R i).length := by simp [intsOf]
    refine ⟨_, rfl, p, rfl, ⟨_, isLst hp1⟩, fun L hL => lc_list (K := K) (xs := intsOf (Wr.keptN S D R i)) (fun j H2 => Same H1 H2 ∧ H2 L = some (.lst (intsOf (((Wr.keptN S D R i).take j).filter fun r => Wr.heldB S D R (Wr.keptN S D R i) r)))) ⟨same_new hL, by rw [upd_same, List.take_zero]; rfl⟩ (fun j H2 _ h => isLst (h.1 _ _ hp1)) (fun j u H2 hu h => ?_) (fun H2 h => ?_)⟩
    · obtain ⟨e2, hL2⟩ := h
      have hj : j < (Wr.keptN S D R i).length := by
        have := (List.getElem?_eq_some_iff.mp hu).1
        omega
      obtain ⟨r, hr'⟩ : ∃ r, (Wr.keptN S D R i)[j]? = some r := ⟨_, List.getElem?_eq_getElem hj⟩
      have hu' : u = .int r := by
        unfold intsOf at hu
        rw [List.getElem?_map, hr'] at hu
        exact (Option.some.inj hu).symm
      subst hu'
      have hrl : r < R.length := List.mem_range.mp (hsub.subset (List.mem_of_getElem? hr'))
      have e12 := same_tr e1 e2
      refine ⟨rfl, _, rfl, _, rfl, _, rfl, _, rfl, S, D, _, R, p, Wr.keptN S D R i, r, rfl, SayV.mo.ap (tst_same e12) hsv, cnt, hR, e2 _ _ hp1, hrl, fun H3 e3 => ⟨_, rfl, ?_⟩⟩
      have enext : ((Wr.keptN S D R i).take (j + 1)).filter (fun r => Wr.heldB S D R (Wr.keptN S D R i) r) = ((Wr.keptN S D R i).take j).filter (fun r => Wr.heldB S D R (Wr.keptN S D R i) r) ++ (if Wr.heldB S D R (Wr.keptN S D R i) r = true then [r] else []) := by
        rw [List.take_add_one, hr', List.filter_append]
        congr 1
        show List.filter _ [r] = _
        rw [List.filter_cons, List.filter_nil]
      have hL3 := e3 _ _ hL2
      cases hh : Wr.heldB S D R (Wr.keptN S D R i) r with
      | true =>
        rw [hh, if_pos rfl] at enext
        refine iteT ⟨_, rfl, _, hL3, small1000 ?_, same_upd' (same_tr e2 e3) hL, ?_⟩
        · have h1 := (List.filter_sublist (p := fun r => Wr.heldB S D R (Wr.keptN S D R i) r) (l := (Wr.keptN S D R i).take j)).length_le
          rw [List.length_take] at h1
          simp only [intsOf, List.length_map]
          omega
        · rw [upd_same, enext]
          simp [intsOf]
      | false =>
        rw [hh, if_neg Bool.false_ne_true, List.append_nil] at enext
        refine iteF ⟨same_tr e2 e3, ?_⟩
        rw [enext]
        exact hL3
    · obtain ⟨e2, hL2⟩ := h
      rw [eqi, List.take_of_length_le (Nat.le_refl _)] at hL2
      have hL0 : H L = none := by
        cases e : H L with
        | none => rfl
        | some u => rw [e1 _ _ e] at hL; cases hL
      exact ⟨same_tr e1 e2, L, _, hL0, hL2, rfl⟩
  · obtain ⟨e1, p, y3, hp0, hp1, rfl⟩ := h
    rw [hlen] at hp1
    exact ⟨_, rfl, q H1 p e1 hp0 hp1⟩
def sp_law_unbroken : Sp := fun vs H Q _ => ∃ (S D : Nat) (sv : V) (R : Wr.Say), vs = [sv] ∧ SayV S D H sv R ∧ CntOk S D ∧ SayOk S D R ∧ ∀ H' v, Same H H' → SayV S D H' v (Wr.unb R) → Q v H'
theorem cal_law_unbroken (T : Tx K mg) : Cal P w K mg base 1 "_law_unbroken" ["saying"] sp_law_unbroken := by
  refine T.d_law_unbroken.cal sc_law_unbroken (fun _ _ _ _ _ _ us hl => match us, hl with | [_], _ => rfl) (fun vs H Q E h => ?_) fun f cdv A outer s H vs Q E hr h => ?_
  · obtain ⟨S, D, sv, R, rfl, _⟩ := h; rfl
  obtain ⟨S, D, sv, R, rfl, hsv, ⟨s1, s9, d1, d9⟩, hR, q⟩ := h
  refine ⟨_, (pss_cons (ps_asg (pv 0) (pg_tup rfl (pgs_cons (pg_name (i := 1) sc_law_unbroken.nd rfl (Or.inl rfl)) (pgs_cons (pg_name (i := 2) sc_law_unbroken.nd rfl (Or.inl rfl)) (pgs_cons (pg_name (i := 3) sc_law_unbroken.nd rfl (Or.inl rfl)) pgs_nil)))))
    (pss_cons (ps_set (i := 4) sc_law_unbroken.nd rfl (Or.inl rfl) (pe_lst pa_nil))
    (pss_cons (ps_for PassesOwn.never rfl (pi_tup (pv 3)) (pg_name (i := 5) sc_law_unbroken.nd rfl (Or.inl rfl))
      (pss_one (ps_expr (pe_bm PySem.F.plainAttrs_list PySem.F.slot_list_append PySem.F.type_list_append mt_append (pv 4) (pa_cons (pe_callTy call_tuple_of (by rfl) T.z_tuple boot_tuple (pa_cons (pe_lc (own := [("row", 6)]) (g := (gName 6)) rfl sc_law_unbroken.nd (pi_tup (pv 5)) (blkOk_by (own := [("row", 6)]) (N := N_law_unbroken) (sc := defScope s_law_unbroken) (by decide +kernel)) (fun _ _ _ _ _ => (pg_name (i := 6) sc_law_unbroken.nd rfl (Or.inl rfl))) (fun _ _ _ _ _ => pts_nil) (fun _ _ _ _ _ => (pe_callTy (tup_K (K := K) rfl) (by rfl) T.z_tuple boot_tuple (pa_cons (pe_lc (own := [("to", 7)]) (g := (gName 7)) rfl sc_law_unbroken.nd (pit_K (K := K) rfl (pv 6)) (blkOk_by (own := [("to", 7)]) (N := N_law_unbroken) (sc := relS _ (defScope s_law_unbroken)) (by decide +kernel)) (fun _ _ _ _ _ => (pg_name (i := 7) sc_law_unbroken.nd rfl (Or.inl rfl))) (fun _ _ _ _ _ => pts_nil) (fun _ _ _ _ _ => (pe_ifExp (pt_cmp (pc_isN (pv 7)) rfl) pe_int (pv 7)))) pa_nil)))) pa_nil)) pa_nil)))))
    (pss_one (ps_ret (pe_tup (pa_cons (pv 1) (pa_cons (pv 2) (pa_cons (pe_callTy call_tuple_of (by rfl) T.z_tuple boot_tuple (pa_cons (pv 4) pa_nil)) pa_nil))))))))), ?_⟩
  obtain ⟨a, y, rfl, ha, b, rs, rfl, hb, hp⟩ := id hsv
  have hlen : rs.length = R.length := Paired.len hp
  refine ⟨_, rfl, a, _, rfl, isTup ha, rfl, _, _, rfl, _, _, rfl, _, _, rfl, rfl, ?_⟩
  refine ⟨by show 0 ≤ sizeLine; decide, fun T hT => ?_⟩
  have e0 : Same H (upd H T (.lst [])) := same_new hT
  refine ⟨_, rfl, b, rfl, ⟨_, isTup (e0 _ _ hb)⟩, for_tup (xs := rs) (fun i σ H1 => Same H H1 ∧ (∃ acc, H1 T = some (.lst acc) ∧ Paired (SStV H1) acc ((Wr.unb R).take i)) ∧ ∃ y5, σ = [some (.ref a), some (.int S), some (.int D), some (.ref b), some (.ref T), y5, none, none])
    ⟨e0, ⟨[], upd_same, by rw [List.take_zero]; exact .nil⟩, _, rfl⟩ (fun i σ H1 _ h => isTup (h.1 _ _ hb)) (fun i r σ H1 hr h => ?_) (fun σ H1 h => ?_)⟩
  · obtain ⟨e1, ⟨acc, hA, hP⟩, y5, rfl⟩ := h
    obtain ⟨x, hx, c, xs, rfl, hc, hq⟩ := Paired.at' hp hr
    obtain ⟨l1, ok1⟩ := hR.2.2 x (List.mem_of_getElem? hx)
    have hlx : xs.length = S := by rw [Paired.len hq]; exact l1
    have hc1 := e1 _ _ hc
    refine ⟨_, rfl, .inl ⟨rfl, _, isLst hA⟩, _, rfl, c, rfl, ⟨_, isTup hc1⟩, fun L hL => lcT (R := SRowV) (ys := x.map fun r => r.map fun o => some (o.getD 0)) SRowV.mo hL hc1 (by rw [List.length_map]; omega) (small1000 (by omega)) (fun j u z H2 Q' Q'' hu hz s2 qq => ?_) (fun H2 acc2 s2 hA2 hP2 => ?_)⟩
    · obtain ⟨row, hrow, d, ys, rfl, hd, hq2⟩ := Paired.at' hq hu
      obtain ⟨l2, ok2⟩ := ok1 row (List.mem_of_getElem? hrow)
      have hly : ys.length = D := by rw [Paired.len hq2]; exact l2
      have hd2 := s2 _ _ (e1 _ _ hd)
      refine ⟨rfl, _, rfl, d, rfl, ⟨_, isTup hd2⟩, fun L2 hL2 => lcT (R := OV) (ys := row.map fun o => some (o.getD 0)) OV.mo hL2 hd2 (by rw [List.length_map]; omega) (small1000 (by omega)) (fun g v o H3 Q3 Q4 hv ho s3 qq3 => ?_) (fun H3 acc3 s3 hA3 hP3 => ?_)⟩
      · obtain ⟨o', ho', hov⟩ := Paired.at' hq2 hv
        rw [List.getElem?_map, ho'] at ho
        have eo : some (o'.getD 0) = o := Option.some.inj ho
        subst eo
        cases o' with
        | none =>
          cases (show v = .non from hov)
          exact ⟨rfl, _, rfl, true, rfl, iteT (qq3 _ _ same_rfl rfl)⟩
        | some k =>
          cases (show v = .int k from hov)
          exact ⟨rfl, _, rfl, false, rfl, iteF ⟨_, rfl, qq3 _ _ same_rfl rfl⟩⟩
      · refine ⟨L2, acc3, rfl, .inl ⟨isLst hA3, fun l hl => qq _ _ (same_tr s3 (same_new hl)) ?_⟩⟩
        rw [List.getElem?_map, hrow] at hz
        rw [← Option.some.inj hz]
        exact ⟨l, acc3, rfl, upd_same, Paired.imp (fun _ _ r => r) hP3⟩
    · refine ⟨L, acc2, rfl, .inl ⟨isLst hA2, fun l hl => ?_⟩⟩
      have j1 : Same H2 (upd H2 l (.tup acc2)) := same_new hl
      have j2 := same_tr s2 j1
      have hA' := j2 _ _ hA
      have hla : acc.length = i := by
        rw [Paired.len hP, List.length_take]
        have := (List.getElem?_eq_some_iff.mp hx).1
        simp [Wr.unb]
        omega
      have := (List.getElem?_eq_some_iff.mp hx).1
      have h100 := hR.2.1
      refine ⟨T, acc, _, rfl, rfl, hA', small1000 (by omega), ?_⟩
      have t2 := tst_lst (o := .lst (acc ++ [.ref l])) hA'
      refine ⟨same_upd' (same_tr e1 j2) hT, ⟨_, upd_same, ?_⟩, _, rfl⟩
      have hu : (Wr.unb R)[i]? = some (x.map fun r => r.map fun o => some (o.getD 0)) := by
        unfold Wr.unb
        rw [List.getElem?_map, hx]
        rfl
      rw [List.take_add_one, hu]
      exact Paired.snoc' (Paired.imp (fun _ _ r => SStV.mo.ap t2 (SStV.mo.ap (tst_same j2) r)) hP) (SStV.mo.ap t2 ⟨l, acc2, rfl, upd_same, Paired.imp (fun _ _ r => SRowV.mo.ap (tst_same j1) r) hP2⟩)
  · obtain ⟨e1, ⟨acc, hA, hP⟩, y5, rfl⟩ := h
    rw [List.take_of_length_le (by simp [Wr.unb]; omega)] at hP
    refine ⟨_, rfl, _, rfl, _, rfl, T, acc, rfl, .inl ⟨isLst hA, fun l hl => ⟨by show 3 ≤ sizeLine; decide, fun r hr => ?_⟩⟩⟩
    have j1 : Same H1 (upd H1 l (.tup acc)) := same_new hl
    have j2 := same_new (o := .tup [.int S, .int D, .ref l]) hr
    exact q _ _ (same_tr e1 (same_tr j1 j2)) ⟨r, .ref l, rfl, upd_same, l, acc, rfl, j2 _ _ upd_same, Paired.imp (fun _ _ r => SStV.mo.ap (tst_same (same_tr j1 j2)) r) hP⟩
end
end Wa
namespace Wa
open PySem PySem.Spec PyProof.Rows L2 Wx Wk Wz Wc RZ NdefX LamX
theorem same_eqv {H H1 H2 : Hp} {o : Addr} (s : Same H H1) (ho : H o = none) (e : ∀ b, b ≠ o → H2 b = H1 b) : Same H H2 := fun b u z => by
  rw [e b (ne_of_none z ho)]
  exact s b u z
section
variable {P : Program} {w : World} {K : PySem.W.Frag} {mg : Str → Option Value} {base : Heap}
theorem rng_le (l : Int) (h1 : l ≤ 63) : 17 ≤ (if (if (63 : Int) < l then 63 else l) > 13 + 4 then (if (63 : Int) < l then 63 else l) else 13 + 4) ∧ (if (if (63 : Int) < l then 63 else l) > 13 + 4 then (if (63 : Int) < l then 63 else l) else 13 + 4) ≤ 63 := by
  by_cases h : (63 : Int) < l
  · omega
  · rw [if_neg h]
    by_cases h2 : l > 13 + 4
    · rw [if_pos h2]; omega
    · rw [if_neg h2]; omega
def sp_law_run_on (K : PySem.W.Frag) : Sp := fun vs H Q _ => ∃ (S D : Nat) (a : Addr) (ns : List Int), vs = [.ref a, .int 13, .int S, .int D] ∧ CntOk S D ∧ SqL K H a (ns.map V.int) ∧ ns.length ≤ 63 ∧ ∀ H' v run, Same H H' → RunV H' v run → Wr.RunOk S D run → run.length ≤ 1000 → Q v H'
theorem cal_law_run_on (T : Tx K mg) : Cal P w K mg base 2 "_law_run_on" ["script", "begin", "signs", "deeds"] (sp_law_run_on K) := by
  refine T.d_law_run_on.cal sc_law_run_on (fun _ _ _ _ _ _ us hl => match us, hl with | [_, _, _, _], _ => rfl) (fun vs H Q E h => ?_) fun f cdv A outer s H vs Q E hr h => ?_
  · obtain ⟨S, D, a, ns, rfl, _⟩ := h; rfl
  obtain ⟨S, D, a, ns, rfl, ⟨s1, s9, d1, d9⟩, hS, hn, q⟩ := h
  refine ⟨_, (pss_cons (ps_set (i := 4) sc_law_run_on.nd rfl (Or.inl rfl) (pe_lst pa_nil))
    (pss_cons (ps_for PassesOwn.never rfl (pi_range2 (by rfl) T.z_range (pa_cons (pv 1) (pa_cons (pe_callB (call_max2 rfl) (by rfl) T.z_max boot_max (pa_cons (pe_op op_add (pv 1) pe_int) (pa_cons (pe_callB (call_min2 rfl) (by rfl) T.z_min boot_min (pa_cons (pe_callB call_len_seq (by rfl) T.z_len PySem.boot_len (pa_cons (pv 0) pa_nil)) (pa_cons pe_int pa_nil))) pa_nil))) pa_nil))) (pg_name (i := 5) sc_law_run_on.nd rfl (Or.inl rfl))
      (pss_cons (ps_set (i := 6) sc_law_run_on.nd rfl (Or.inl rfl) (pe_cal (cal_law_pot T) (hr.mono (by decide)) (by rfl) (pa_cons (pv 0) (pa_cons (pv 5) pa_nil))))
    (pss_one (ps_for PassesOwn.never rfl (pi_range1 (by rfl) T.z_range (pa_cons pe_int pa_nil)) (pg_name (i := 7) sc_law_run_on.nd rfl (Or.inl rfl))
      (pss_one (ps_expr (pe_bm PySem.F.plainAttrs_list PySem.F.slot_list_append PySem.F.type_list_append mt_append (pv 4) (pa_cons (pe_tup (pa_cons (pe_cal (cal_law_take T) (hr.mono (by decide)) (by rfl) (pa_cons (pv 6) (pa_cons (pv 2) pa_nil))) (pa_cons (pe_cal (cal_law_take T) (hr.mono (by decide)) (by rfl) (pa_cons (pv 6) (pa_cons (pv 3) pa_nil))) pa_nil))) pa_nil))))))))
    (pss_one (ps_ret (pe_callTy call_tuple_of (by rfl) T.z_tuple boot_tuple (pa_cons (pv 4) pa_nil)))))), ?_⟩
  refine ⟨by show 0 ≤ sizeLine; decide, fun rl hrl => ?_⟩
  have e0 : Same H (upd H rl (.lst [])) := same_new hrl
  refine ⟨_, rfl, _, rfl, _, _, rfl, rfl, _, rfl, a, _, rfl, .inl (e0.seq hS), _, _, rfl, _, _, rfl, ?_⟩
  have hl : ((ns.map V.int).length : Int) ≤ 63 := by rw [List.length_map]; omega
  obtain ⟨hj1, hj2⟩ := rng_le _ hl
  refine ⟨_, _, rfl, ⟨by decide, by decide, by omega, by omega⟩, for_range (lo := 13) (fun i σ H1 => Same H H1 ∧ (∃ acc run, H1 rl = some (.lst acc) ∧ Paired (PV H1) acc run ∧ Wr.RunOk S D run ∧ run.length = 2 * i) ∧ ∃ y5 y6 y7, σ = [some (.ref a), some (.int 13), some (.int S), some (.int D), some (.ref rl), y5, y6, y7])
    ⟨e0, ⟨[], [], upd_same, .nil, fun p hp => by (cases hp), rfl⟩, _, _, _, rfl⟩ (fun i σ H1 hi h => ?_) (fun σ H1 h => ?_)⟩
  · have hi50 : i < 50 := by omega
    obtain ⟨e1, ⟨acc, run, hA, hP, hok, hrl'⟩, y5, y6, y7, rfl⟩ := h
    refine ⟨_, rfl, _, rfl, a, ns, 13 + i, by simp, e1.seq hS, by omega, fun H2 o e2 ho hpot => ?_⟩
    have e12 := same_tr e1 e2
    have ho0 : H o = none := by
      cases e : H o with
      | none => rfl
      | some u => rw [e1 _ _ e] at ho; cases ho
    have hro : rl ≠ o := ne_of_none hA ho
    refine ⟨2, rfl, by decide, by decide, for_range (lo := 0) (n := 2) (fun j σ H3 => Same H H3 ∧ PotV (2 * j) H3 o ∧ (∃ acc run, H3 rl = some (.lst acc) ∧ Paired (PV H3) acc run ∧ Wr.RunOk S D run ∧ run.length = 2 * i + j) ∧ ∃ y7, σ = [some (.ref a), some (.int 13), some (.int S), some (.int D), some (.ref rl), some (.int (13 + i)), some (.ref o), y7])
      ⟨e12, hpot, ⟨acc, run, e2 _ _ hA, Paired.imp (fun _ _ r => PV.mo.ap (tst_same e2) r) hP, hok, by omega⟩, _, rfl⟩ (fun j σ H3 hj h => ?_) (fun σ H3 h => ?_)⟩
    · obtain ⟨e3, hp3, ⟨acc3, run3, hA3, hP3, hok3, hl3⟩, y7, rfl⟩ := h
      refine ⟨_, rfl, .inl ⟨rfl, _, isLst hA3⟩, _, rfl, _, rfl, o, S, 2 * j, rfl, hp3, s1, by omega, by omega, fun H4 r1 hr1 hp4 q4 => ?_⟩
      refine ⟨_, rfl, _, rfl, o, D, 2 * j + 1, rfl, hp4, d1, by omega, by omega, fun H5 r2 hr2 hp5 q5 => ?_⟩
      obtain ⟨xs3, hx3⟩ := hp3.lst
      obtain ⟨xs4, hx4⟩ := hp4.lst
      have t35 := (tst_eqv hx3 q4).trans (tst_eqv hx4 q5)
      have e5 := same_eqv (same_eqv e3 ho0 q4) ho0 q5
      have hA5 : H5 rl = some (.lst acc3) := by rw [q5 _ hro, q4 _ hro]; exact hA3
      refine ⟨by show 2 ≤ sizeLine; decide, fun t ht => ?_⟩
      have st : Same H5 (upd H5 t (.tup [.int r1, .int r2])) := same_new ht
      have hA6 := st _ _ hA5
      refine ⟨rl, acc3, _, rfl, rfl, hA6, small1000 (by rw [Paired.len hP3]; omega), ?_⟩
      have t6 := tst_lst (o := .lst (acc3 ++ [.ref t])) hA6
      refine ⟨same_upd' (same_tr e5 st) hrl, ?_, ⟨_, run3 ++ [(r1, r2)], upd_same, Paired.snoc' (Paired.imp (fun _ _ r => PV.mo.ap (t35.trans ((tst_same st).trans t6)) r) hP3) (PV.mo.ap t6 ⟨t, rfl, upd_same⟩), fun p hp => ?_, by rw [List.length_append, hl3]; rfl⟩, _, rfl⟩
      · refine PotV.keep (show PotV (2 * (j + 1)) H5 o from hp5.le (by omega)) fun u hu => ?_
        rw [upd_ne hro.symm]
        exact st _ _ hu
      · rcases List.mem_append.mp hp with hp | hp
        · exact hok3 p hp
        · have : p = (r1, r2) := by simpa using hp
          subst this
          exact ⟨hr1, hr2⟩
    · obtain ⟨e3, hp3, ⟨acc3, run3, hA3, hP3, hok3, hl3⟩, y7, rfl⟩ := h
      exact ⟨e3, ⟨acc3, run3, hA3, hP3, hok3, by omega⟩, _, _, _, rfl⟩
  · obtain ⟨e1, ⟨acc, run, hA, hP, hok, hrl'⟩, y5, y6, y7, rfl⟩ := h
    refine ⟨_, rfl, rl, acc, rfl, .inl ⟨isLst hA, fun l hl => ?_⟩⟩
    have sl : Same H1 (upd H1 l (.tup acc)) := same_new hl
    exact q _ _ run (same_tr e1 sl) ⟨l, acc, rfl, upd_same, Paired.imp (fun _ _ r => PV.mo.ap (tst_same sl) r) hP⟩ hok (by omega)
end
end Wa
namespace Wa
open PySem PySem.Spec PyProof.Rows L2 Wx Wk Wz Wc RZ NdefX LamX
/-- a list of things -/
def LV {β : Type} (R : Hp → V → β → Prop) (H : Hp) (p : Addr) (ys : List β) : Prop := ∃ acc, H p = some (.lst acc) ∧ Paired (R H) acc ys
theorem LV.keep {β : Type} {R : Hp → V → β → Prop} (mo : Mo R) {H H' : Hp} {p : Addr} {ys : List β} (h : LV R H p ys) (t : Tst H H') (e : ∀ u, H p = some u → H' p = some u) : LV R H' p ys := by
  obtain ⟨acc, h1, h2⟩ := h
  exact ⟨acc, e _ h1, Paired.imp (fun _ _ r => mo.ap t r) h2⟩
theorem LV.same {β : Type} {R : Hp → V → β → Prop} (mo : Mo R) {H H' : Hp} {p : Addr} {ys : List β} (h : LV R H p ys) (s : Same H H') : LV R H' p ys := h.keep mo (tst_same s) fun u => s _ _
theorem LV.snoc {β : Type} {R : Hp → V → β → Prop} (mo : Mo R) {H : Hp} {p : Addr} {acc : List V} {v : V} {ys : List β} {y : β} (h1 : H p = some (.lst acc)) (h2 : Paired (R H) acc ys) (h : R H v y) : LV R (upd H p (.lst (acc ++ [v]))) p (ys ++ [y]) :=
  ⟨_, upd_same, Paired.snoc' (Paired.imp (fun _ _ r => mo.ap (tst_lst h1) r) h2) (mo.ap (tst_lst h1) h)⟩
theorem idx_ks {ks : List Nat} {r : Nat} (nd : ks.Nodup) (h : r ∈ ks) : ∃ j, ks[j]? = some r ∧ (intsOf ks)[j]? = some (.int r) ∧ eqV (.int r) (.int r) = true ∧ ∀ (m : Nat) (z : V), m < j → (intsOf ks)[m]? = some z → eqV z (.int r) = false := by
  obtain ⟨j, hj⟩ := List.mem_iff_getElem?.mp h
  refine ⟨j, hj, by unfold intsOf; rw [List.getElem?_map, hj]; rfl, by simp [eqV], fun m z hm hz => ?_⟩
  unfold intsOf at hz
  rw [List.getElem?_map] at hz
  cases e : ks[m]? with
  | none => rw [e] at hz; cases hz
  | some k =>
    rw [e] at hz
    have hz' : z = .int k := (Option.some.inj hz).symm
    subst hz'
    have hne : k ≠ r := fun z => by
      subst z
      have h1 := Wr.num_at nd e
      have h2 := Wr.num_at nd hj
      omega
    show ((k : Int) == (r : Int)) = false
    rw [beq_eq_false_iff_ne]
    omega
section
variable {P : Program} {w : World} {K : PySem.W.Frag} {mg : Str → Option Value} {base : Heap}
def sp_law_keeping : Sp := fun vs H Q _ => ∃ (S D c : Nat) (pot kl : Addr) (sv : V) (R : Wr.Say) (ks : List Nat), vs = [.ref pot, sv, .non, .ref kl] ∧ 1 ≤ S ∧ S ≤ 3 ∧ 1 ≤ D ∧ D ≤ 3 ∧ PotV c H pot ∧ c ≤ 1000 ∧ SayV S D H sv R ∧ SayOk S D R ∧ R.length ≤ 4 ∧ kl ≠ pot ∧ H kl = some (.lst (intsOf ks)) ∧ ks = Wr.keptL S D R ∧
  ∀ H' v w, Ex1 pot H H' → PotV (c + 40) H' pot → WatV S D H' v w → Wr.TabK S D R ks ks.length w → Q v H'
theorem cal_law_keeping (T : Tx K mg) : Cal P w K mg base 3 "_law_keeping" ["pot", "saying", "fees", "kept"] sp_law_keeping := by
  refine T.d_law_keeping.cal sc_law_keeping (fun _ _ _ _ _ _ us hl => match us, hl with | [_, _, _, _], _ => rfl) (fun vs H Q E h => ?_) fun f cdv A outer s H vs Q E hr h => ?_
  · obtain ⟨S, D, c, pot, kl, sv, R, ks, rfl, _⟩ := h; rfl
  obtain ⟨S, D, c, pot, kl, sv, R, ks, rfl, s1, s3, d1, d3, hpot, hc, hsv, hR, hR4, hne, hkl, hks, q⟩ := h
  refine ⟨_, (pss_cons (ps_asg (pv 1) (pg_tup rfl (pgs_cons (pg_name (i := 4) sc_law_keeping.nd rfl (Or.inl rfl)) (pgs_cons (pg_name (i := 5) sc_law_keeping.nd rfl (Or.inl rfl)) (pgs_cons (pg_name (i := 6) sc_law_keeping.nd rfl (Or.inr rfl)) pgs_nil)))))
    (pss_cons (ps_set (i := 7) sc_law_keeping.nd rfl (Or.inl rfl) (pe_lst pa_nil))
    (pss_cons (ps_for PassesOwn.never rfl (pi_list (pv 3)) (pg_name (i := 8) sc_law_keeping.nd rfl (Or.inr rfl))
      (pss_cons (ps_set (i := 9) sc_law_keeping.nd rfl (Or.inl rfl) (pe_lst pa_nil))
    (pss_cons (ps_for PassesOwn.never rfl (pi_range1 (by rfl) T.z_range (pa_cons (pv 4) pa_nil)) (pg_name (i := 10) sc_law_keeping.nd rfl (Or.inr rfl))
      (pss_cons (ps_set (i := 11) sc_law_keeping.nd rfl (Or.inl rfl) (pe_lst pa_nil))
    (pss_cons (ps_for PassesOwn.never rfl (pi_range1 (by rfl) T.z_range (pa_cons (pv 5) pa_nil)) (pg_name (i := 12) sc_law_keeping.nd rfl (Or.inl rfl))
      (pss_cons (ps_setLc (i := 14) (own := [("given", 13)]) (g := (gName 13)) rfl sc_law_keeping.nd rfl rfl (sw_true rfl rfl rfl (by decide +kernel)) (pi_list (pe_cal (cal_law_answers T) (hr.mono (by decide)) (by rfl) (pa_cons (pv 2) (pa_cons (pv 5) (pa_cons (pv 12) pa_nil))))) (blkOk_by (own := [("given", 13)]) (N := N_law_keeping) (sc := defScope s_law_keeping) (by decide +kernel)) (fun _ _ _ _ _ => (pg_name (i := 13) sc_law_keeping.nd rfl (Or.inl rfl))) (fun _ _ _ _ _ => (pts_one (pt_cmpR (in_K (K := K) rfl) (pe_ix (ixt_K (K := K) rfl) (pe_ix (ixt_K (K := K) rfl) (pe_ix (ixt_K (K := K) rfl) (pv 6) (pv 8) (fun _ _ => rfl)) (pv 10) (fun _ _ => rfl)) (pv 13) (fun _ _ => rfl)) (pv 3) (by with_unfolding_all rfl)))) (fun _ _ _ _ _ => (pv 13)))
    (pss_cons (ps_set (i := 13) sc_law_keeping.nd rfl (Or.inl rfl) (pe_ix ix_list (pv 14) (pe_cal (cal_law_take T) (hr.mono (by decide)) (by rfl) (pa_cons (pv 0) (pa_cons (pe_callB call_len_seq (by rfl) T.z_len PySem.boot_len (pa_cons (pv 14) pa_nil)) pa_nil))) (fun _ _ => rfl)))
    (pss_one (ps_expr (pe_bm PySem.F.plainAttrs_list PySem.F.slot_list_append PySem.F.type_list_append mt_append (pv 11) (pa_cons (pe_tup (pa_cons (pv 13) (pa_cons (pe_bm PySem.F.plainAttrs_list PySem.F.slot_list_index PySem.F.type_list_index mt_index (pv 3) (pa_cons (pe_ix ix_tup (pe_ix ix_tup (pe_ix ix_tup (pv 6) (pv 8) (fun _ _ => rfl)) (pv 10) (fun _ _ => rfl)) (pv 13) (fun _ _ => rfl)) pa_nil)) pa_nil))) pa_nil)))))))
    (pss_one (ps_expr (pe_bm PySem.F.plainAttrs_list PySem.F.slot_list_append PySem.F.type_list_append mt_append (pv 9) (pa_cons (pe_callTy call_tuple_of (by rfl) T.z_tuple boot_tuple (pa_cons (pv 11) pa_nil)) pa_nil)))))))
    (pss_one (ps_expr (pe_bm PySem.F.plainAttrs_list PySem.F.slot_list_append PySem.F.type_list_append mt_append (pv 7) (pa_cons (pe_callTy call_tuple_of (by rfl) T.z_tuple boot_tuple (pa_cons (pv 9) pa_nil)) pa_nil)))))))
    (pss_one (ps_ret (pe_tup (pa_cons (pv 4) (pa_cons (pv 5) (pa_cons (pe_callTy call_tuple_of (by rfl) T.z_tuple boot_tuple (pa_cons (pv 7) pa_nil)) pa_nil))))))))), ?_⟩
  obtain ⟨a, y, rfl, ha, hy⟩ := id hsv
  have hkn : ks.Nodup := by rw [hks]; exact Wr.kept_nodup
  have hk4 : ks.length ≤ 4 := by
    have := Wr.kept_len (S := S) (D := D) (R := R)
    rw [hks]; omega
  have hpx := hpot.lst
  refine ⟨_, rfl, a, _, rfl, isTup ha, rfl, _, _, rfl, _, _, rfl, _, _, rfl, rfl, ?_⟩
  refine ⟨by show 0 ≤ sizeLine; decide, fun T hT => ?_⟩
  have hTp : T ≠ pot := by
    obtain ⟨xs, hx⟩ := hpx
    exact (ne_of_none hx hT).symm
  have e0 : Same H (upd H T (.lst [])) := same_new hT
  refine ⟨_, rfl, kl, rfl, ⟨_, isLst (e0 _ _ hkl)⟩, for_list (xs := intsOf ks) (fun i σ H1 => Ex1 pot H H1 ∧ PotV (c + 9 * i) H1 pot ∧ (∃ w, LV StV H1 T w ∧ Wr.TabK S D R ks i w) ∧ ∃ y8 y9 y10 y11 y12 y13 y14, σ = [some (.ref pot), some (.ref a), some .non, some (.ref kl), some (.int S), some (.int D), some y, some (.ref T), y8, y9, y10, y11, y12, y13, y14])
    ⟨.of e0, hpot.keep fun u => e0 _ _, ⟨[], ⟨[], upd_same, .nil⟩, rfl, fun k st h => by simp at h⟩, _, _, _, _, _, _, _, rfl⟩ (fun i σ H1 _ h => isLst (h.1 _ _ hne hkl)) (fun i u σ H1 hu h => ?_) (fun σ H1 h => ?_)⟩
  · obtain ⟨e1, p1, ⟨w, hT1, hw⟩, y8, y9, y10, y11, y12, y13, y14, rfl⟩ := h
    obtain ⟨r, hr0, rfl⟩ : ∃ r, ks[i]? = some r ∧ u = .int r := by
      unfold intsOf at hu
      rw [List.getElem?_map] at hu
      cases e : ks[i]? with
      | none => rw [e] at hu; cases hu
      | some k => rw [e] at hu; exact ⟨k, rfl, (Option.some.inj hu).symm⟩
    have hi4 : i < 4 := by
      have := (List.getElem?_eq_some_iff.mp hr0).1
      omega
    have hrk : r ∈ Wr.keptL S D R := hks ▸ List.mem_of_getElem? hr0
    have hrR : r < R.length := Wr.kept_lt hrk
    have hheld := Wr.kept_fix r hrk
    rw [← hks] at hheld
    refine ⟨by show 0 ≤ sizeLine; decide, fun rows hrows => ?_⟩
    have hrp : rows ≠ pot := by
      obtain ⟨xs, hx⟩ := p1.lst
      exact (ne_of_none hx hrows).symm
    have hrT : rows ≠ T := by
      obtain ⟨xs, hx, _⟩ := hT1
      exact (ne_of_none hx hrows).symm
    have hr00 : ∀ b u, b ≠ pot → H b = some u → b ≠ rows := fun b u n z => ne_of_none (e1 b u n z) hrows
    have e2 : Same H1 (upd H1 rows (.lst [])) := same_new hrows
    refine ⟨_, rfl, S, rfl, by omega, by omega, for_range (lo := 0) (n := S) (fun s σ H2 => Ex1 pot H H2 ∧ PotV (c + 9 * i + 3 * s) H2 pot ∧ LV StV H2 T w ∧ (∃ st, LV RowV H2 rows st ∧ Wr.StK D R ks r s st) ∧ ∃ y10 y11 y12 y13 y14, σ = [some (.ref pot), some (.ref a), some .non, some (.ref kl), some (.int S), some (.int D), some y, some (.ref T), some (.int r), some (.ref rows), y10, y11, y12, y13, y14])
      ⟨e1.tr (.of e2), p1.keep fun u => e2 _ _, hT1.same StV.mo e2, ⟨[], ⟨[], upd_same, .nil⟩, rfl, fun k st h => by simp at h⟩, _, _, _, _, _, rfl⟩ (fun s σ H2 hs h => ?_) (fun σ H2 h => ?_)⟩
    · obtain ⟨f1, f2, f3, ⟨st, f4, f5⟩, z10, z11, z12, z13, z14, rfl⟩ := h
      refine ⟨by show 0 ≤ sizeLine; decide, fun row hrow => ?_⟩
      have hwp : row ≠ pot := by
        obtain ⟨xs, hx⟩ := f2.lst
        exact (ne_of_none hx hrow).symm
      have hwT : row ≠ T := by
        obtain ⟨xs, hx, _⟩ := f3
        exact (ne_of_none hx hrow).symm
      have hwr : row ≠ rows := by
        obtain ⟨xs, hx, _⟩ := f4
        exact (ne_of_none hx hrow).symm
      have hw00 : ∀ b u, b ≠ pot → H b = some u → b ≠ row := fun b u n z => ne_of_none (f1 b u n z) hrow
      have e3 : Same H2 (upd H2 row (.lst [])) := same_new hrow
      refine ⟨_, rfl, D, rfl, by omega, by omega, for_range (lo := 0) (n := D) (fun d σ H3 => Ex1 pot H H3 ∧ PotV (c + 9 * i + 3 * s + d) H3 pot ∧ LV StV H3 T w ∧ LV RowV H3 rows st ∧ (∃ ro, LV PV H3 row ro ∧ Wr.RowK D R ks r s d ro) ∧ ∃ y12 y13 y14, σ = [some (.ref pot), some (.ref a), some .non, some (.ref kl), some (.int S), some (.int D), some y, some (.ref T), some (.int r), some (.ref rows), some (.int (0 + s)), some (.ref row), y12, y13, y14])
        ⟨f1.tr (.of e3), f2.keep fun u => e3 _ _, f3.same StV.mo e3, f4.same RowV.mo e3, ⟨[], ⟨[], upd_same, .nil⟩, rfl, fun k h => by cases h⟩, _, _, _, rfl⟩ (fun d σ H3 hd h => ?_) (fun σ H3 h => ?_)⟩
      · obtain ⟨g1, g2, g3, g4, ⟨ro, g5, g6⟩, z12, z13, z14, rfl⟩ := h
        -- some
        refine ⟨_, rfl, _, rfl, _, rfl, D, _, rfl, d1, by omega, fun H4 p h4 hp0 hp => ?_⟩
        refine ⟨p, rfl, ⟨_, isLst hp⟩, fun L hL => lc_list (K := K) (xs := intsOf (List.range D)) (fun j H5 => Same H4 H5 ∧ H5 L = some (.lst (intsOf (((List.range D).take j).filter fun g => Wr.inKs (Wr.room R r s g) ks)))) ⟨same_new hL, by rw [upd_same, List.take_zero]; rfl⟩ (fun j H5 _ h => isLst (h.1 _ _ hp)) (fun j u H5 hu h => ?_) (fun H5 h => ?_)⟩
        · obtain ⟨h5, hL5⟩ := h
          have hj : j < D := by
            have := (List.getElem?_eq_some_iff.mp hu).1
            simpa [intsOf] using this
          have hu' : u = .int j := by
            unfold intsOf at hu
            rw [List.getElem?_map, List.getElem?_range hj] at hu
            exact (Option.some.inj hu).symm
          subst hu'
          have E5 : Ex1 pot H H5 := g1.tr (.of (same_tr h4 h5))
          obtain ⟨X, Y, j1, j2, j3⟩ := say_get hR hrR hs hj
          obtain ⟨a', b', c', e', rs', rows', cells', u', q1, k1, k2, x1, k3, x2, k4, x3, hu⟩ := say_cell (SayV.mo.ap (E5.tst hpot) hsv) j1 j2 j3
          cases q1
          have hb4 := E5.tst hpot _ _ ha
          rw [k1] at hb4
          cases hb4
          refine ⟨rfl, _, rfl, _, rfl, b', _, r, _, rfl, rfl, isTup k2, atI_nat x1, _, rfl, c', _, (0 + (s : Int)), _, rfl, rfl, isTup k3, by rw [Int.zero_add]; exact atI_nat x2, _, rfl, e', _, j, _, rfl, rfl, isTup k4, atI_nat x3, _, rfl, kl, _, rfl, .inl (isLst (E5 _ _ hne hkl)), flat_OV hu, flat_ints ks, Wr.inKs (Wr.room R r s j) ks, by rw [inV_ks hu]; rfl, ?_⟩
          have enext : ((List.range D).take (j + 1)).filter (fun g => Wr.inKs (Wr.room R r s g) ks) = ((List.range D).take j).filter (fun g => Wr.inKs (Wr.room R r s g) ks) ++ (if Wr.inKs (Wr.room R r s j) ks = true then [j] else []) := by
            rw [List.take_add_one, List.getElem?_range hj, List.filter_append]
            congr 1
            show List.filter _ [j] = _
            rw [List.filter_cons, List.filter_nil]
          cases hh : Wr.inKs (Wr.room R r s j) ks with
          | true =>
            rw [hh, if_pos rfl] at enext
            refine iteT ⟨_, rfl, _, hL5, small1000 ?_, same_upd' h5 hL, ?_⟩
            · have h1 := (List.filter_sublist (p := fun g => Wr.inKs (Wr.room R r s g) ks) (l := (List.range D).take j)).length_le
              rw [List.length_take, List.length_range] at h1
              simp only [intsOf, List.length_map]
              omega
            · rw [upd_same, enext]
              simp [intsOf]
          | false =>
            rw [hh, if_neg Bool.false_ne_true, List.append_nil] at enext
            refine iteF ⟨h5, ?_⟩
            rw [enext]
            exact hL5
        · obtain ⟨h5, hL5⟩ := h
          rw [List.take_of_length_le (by simp [intsOf])] at hL5
          have h35 := same_tr h4 h5
          obtain ⟨g0, hg0, r0, hr1, hr2⟩ := Wr.held_all hheld hs
          obtain ⟨fl, hfl⟩ : ∃ fl, fl = (List.range D).filter fun g => Wr.inKs (Wr.room R r s g) ks := ⟨_, rfl⟩
          rw [← hfl] at hL5
          have hfl0 : 1 ≤ fl.length := by
            have : g0 ∈ fl := by
              rw [hfl, List.mem_filter]
              refine ⟨List.mem_range.mpr hg0, ?_⟩
              unfold Wr.inKs
              rw [hr1]
              exact decide_eq_true hr2
            exact List.length_pos_of_mem this
          have hfl9 : fl.length ≤ 9 := by
            rw [hfl]
            have := List.length_filter_le (fun g => Wr.inKs (Wr.room R r s g) ks) (List.range D)
            rw [List.length_range] at this
            omega
          have hL3 : ∀ b u, H3 b = some u → b ≠ L := fun b u z => ne_of_none (h4 _ _ z) hL
          have hLp : L ≠ pot := by
            obtain ⟨xs, hx⟩ := g2.lst
            exact (hL3 _ _ hx).symm
          have eli : (intsOf fl).length = fl.length := by simp [intsOf]
          -- given = some[take]
          refine ⟨_, rfl, _, rfl, _, rfl, L, _, rfl, .inl (isLst hL5), pot, fl.length, c + 9 * i + 3 * s + d, congrArg (fun n : Nat => [V.ref pot, V.int (n : Int)]) eli, g2.keep (fun u => h35 _ _), hfl0, by omega, by omega, fun H6 r6 hr6 p6 q6 => ?_⟩
          obtain ⟨g, hg⟩ : ∃ g, fl[r6]? = some g := ⟨_, List.getElem?_eq_getElem hr6⟩
          have hL6 : H6 L = some (.lst (intsOf fl)) := by rw [q6 _ hLp]; exact hL5
          refine ⟨L, _, r6, .int g, rfl, rfl, isLst hL6, atI_nat (by unfold intsOf; rw [List.getElem?_map, hg]; rfl), ?_⟩
          have hgm := List.mem_of_getElem? hg
          rw [hfl, List.mem_filter] at hgm
          have hgD := List.mem_range.mp hgm.1
          obtain ⟨r7, hr7, hr7k⟩ : ∃ r', Wr.room R r s g = some r' ∧ r' ∈ ks := by
            have h := hgm.2
            cases e : Wr.room R r s g with
            | none => rw [e] at h; cases h
            | some k => rw [e] at h; exact ⟨k, rfl, of_decide_eq_true h⟩
          obtain ⟨xs2, hx2⟩ := g2.lst
          have t36 : Tst H3 H6 := (tst_same h35).trans (tst_eqv (h35 _ _ hx2) q6)
          have k36 : ∀ b u, b ≠ pot → H3 b = some u → H6 b = some u := fun b u n z => by rw [q6 _ n]; exact h35 _ _ z
          have E6 : Ex1 pot H H6 := fun b u n z => k36 _ _ n (g1 _ _ n z)
          have G3 := g3.keep StV.mo t36 fun u => k36 _ _ hTp
          have G4 := g4.keep RowV.mo t36 fun u => k36 _ _ hrp
          have G5 := g5.keep PV.mo t36 fun u => k36 _ _ hwp
          obtain ⟨racc, ra1, ra2⟩ := G5
          -- row.append((given, kept.index(..)))
          obtain ⟨X, Y, j1, j2, j3⟩ := say_get hR hrR hs hgD
          rw [hr7] at j3
          obtain ⟨a', b', c', e', rs', rows', cells', u', q1, k1, k2, x1, k3, x2, k4, x3, hu⟩ := say_cell (SayV.mo.ap (E6.tst hpot) hsv) j1 j2 j3
          cases q1
          have hb4 := E6.tst hpot _ _ ha
          rw [k1] at hb4
          cases hb4
          cases (show u' = .int r7 from hu)
          obtain ⟨jx, hjx, hjx2, hjx3, hjx4⟩ := idx_ks hkn hr7k
          refine ⟨_, rfl, .inl ⟨rfl, _, isLst ra1⟩, _, rfl, _, rfl, .inl ⟨rfl, _, isLst (E6 _ _ hne hkl)⟩, _, rfl, _, rfl, b', _, r, _, rfl, rfl, isTup k2, atI_nat x1, _, rfl, c', _, (0 + (s : Int)), _, rfl, rfl, isTup k3, by rw [Int.zero_add]; exact atI_nat x2, _, rfl, e', _, g, _, rfl, rfl, isTup k4, atI_nat x3, kl, _, .int r7, jx, .int r7, rfl, rfl, isLst (E6 _ _ hne hkl), rfl, flat_ints ks, hjx2, hjx3, hjx4, by show 2 ≤ sizeLine; decide, fun t ht => ?_⟩
          have st7 : Same H6 (upd H6 t (.tup [.int g, .int jx])) := same_new ht
          have ra3 := st7 _ _ ra1
          have hrl : racc.length = d := by rw [Paired.len ra2]; exact g6.1
          refine ⟨row, racc, _, rfl, rfl, ra3, small1000 (by omega), ?_⟩
          have t8 := tst_lst (o := .lst (racc ++ [.ref t])) ra3
          have k8 : ∀ b u, b ≠ row → H6 b = some u → (upd (upd H6 t (.tup [.int g, .int jx])) row (.lst (racc ++ [.ref t]))) b = some u := fun b u n z => by
            rw [upd_ne n]
            exact st7 _ _ z
          have tt := (tst_same st7).trans t8
          refine ⟨fun b u n z => k8 _ _ (hw00 b u n z) (E6 _ _ n z), p6.keep fun u => k8 _ _ hwp.symm, G3.keep StV.mo tt fun u => k8 _ _ hwT.symm, G4.keep RowV.mo tt fun u => k8 _ _ hwr.symm, ⟨ro ++ [(g, jx)], ?_, Wr.rowK_snoc g6 ⟨hgD, (List.getElem?_eq_some_iff.mp hjx).1, r7, hr7, hjx⟩⟩, _, _, _, rfl⟩
          exact LV.snoc PV.mo ra3 (Paired.imp (fun _ _ r => PV.mo.ap (tst_same st7) r) ra2) ⟨t, rfl, upd_same⟩
      · obtain ⟨g1, g2, g3, g4, ⟨ro, g5, g6⟩, z12, z13, z14, rfl⟩ := h
        obtain ⟨sacc, sa1, sa2⟩ := g4
        obtain ⟨racc, ra1, ra2⟩ := g5
        refine ⟨_, rfl, .inl ⟨rfl, _, isLst sa1⟩, _, rfl, row, racc, rfl, .inl ⟨isLst ra1, fun l hl => ?_⟩⟩
        have sl : Same H3 (upd H3 l (.tup racc)) := same_new hl
        have sa3 := sl _ _ sa1
        have hsl : sacc.length = s := by rw [Paired.len sa2]; exact f5.1
        refine ⟨rows, sacc, _, rfl, rfl, sa3, small1000 (by omega), ?_⟩
        have t8 := tst_lst (o := .lst (sacc ++ [.ref l])) sa3
        have k8 : ∀ b u, b ≠ rows → H3 b = some u → (upd (upd H3 l (.tup racc)) rows (.lst (sacc ++ [.ref l]))) b = some u := fun b u n z => by
          rw [upd_ne n]
          exact sl _ _ z
        have tt := (tst_same sl).trans t8
        refine ⟨fun b u n z => k8 _ _ (hr00 b u n z) (g1 _ _ n z), (g2.le (by omega)).keep fun u => k8 _ _ hrp.symm, g3.keep StV.mo tt fun u => k8 _ _ hrT.symm, ⟨st ++ [ro], ?_, Wr.stK_snoc f5 g6⟩, _, _, _, _, _, rfl⟩
        exact LV.snoc RowV.mo sa3 (Paired.imp (fun _ _ r => RowV.mo.ap (tst_same sl) r) sa2) ⟨l, racc, rfl, upd_same, Paired.imp (fun _ _ r => PV.mo.ap (tst_same sl) r) ra2⟩
    · obtain ⟨f1, f2, f3, ⟨st, f4, f5⟩, z10, z11, z12, z13, z14, rfl⟩ := h
      obtain ⟨tacc, ta1, ta2⟩ := f3
      obtain ⟨sacc, sa1, sa2⟩ := f4
      refine ⟨_, rfl, .inl ⟨rfl, _, isLst ta1⟩, _, rfl, rows, sacc, rfl, .inl ⟨isLst sa1, fun l hl => ?_⟩⟩
      have sl : Same H2 (upd H2 l (.tup sacc)) := same_new hl
      have ta3 := sl _ _ ta1
      have htl : tacc.length = i := by rw [Paired.len ta2]; exact hw.1
      refine ⟨T, tacc, _, rfl, rfl, ta3, small1000 (by omega), ?_⟩
      have t8 := tst_lst (o := .lst (tacc ++ [.ref l])) ta3
      have k8 : ∀ b u, b ≠ T → H2 b = some u → (upd (upd H2 l (.tup sacc)) T (.lst (tacc ++ [.ref l]))) b = some u := fun b u n z => by
        rw [upd_ne n]
        exact sl _ _ z
      refine ⟨fun b u n z => k8 _ _ (ne_of_none z hT) (f1 _ _ n z), (f2.le (by omega)).keep fun u => k8 _ _ hTp.symm, ⟨w ++ [st], ?_, Wr.tabK_snoc hw hr0 f5⟩, _, _, _, _, _, _, _, rfl⟩
      exact LV.snoc StV.mo ta3 (Paired.imp (fun _ _ r => StV.mo.ap (tst_same sl) r) ta2) ⟨l, sacc, rfl, upd_same, Paired.imp (fun _ _ r => RowV.mo.ap (tst_same sl) r) sa2⟩
  · obtain ⟨e1, p1, ⟨w, hT1, hw⟩, y8, y9, y10, y11, y12, y13, y14, rfl⟩ := h
    have eli : (intsOf ks).length = ks.length := by simp [intsOf]
    rw [eli] at hw p1
    obtain ⟨acc, hA, hP⟩ := hT1
    refine ⟨_, rfl, _, rfl, _, rfl, T, acc, rfl, .inl ⟨isLst hA, fun l hl => ⟨by show 3 ≤ sizeLine; decide, fun rr hrr => ?_⟩⟩⟩
    have j1 : Same H1 (upd H1 l (.tup acc)) := same_new hl
    have j2 := same_new (o := .tup [.int S, .int D, .ref l]) hrr
    have j := same_tr j1 j2
    exact q _ _ w (e1.tr (.of j)) ((p1.le (by omega)).keep fun u => j _ _) ⟨rr, .ref l, rfl, upd_same, l, acc, rfl, j2 _ _ upd_same, Paired.imp (fun _ _ r => StV.mo.ap (tst_same j) r) hP⟩ hw
end
end Wa
namespace Wa
open PySem PySem.Spec PyProof.Rows L2 Wx Wk Wz Wc RZ NdefX LamX
/-- a row of bits -/
def BitsV (pot : Addr) (H : Hp) (x : Addr) (D : Nat) : Prop := x ≠ pot ∧ ∃ bs : List Nat, H x = some (.lst (intsOf bs)) ∧ bs.length = D ∧ ∀ b ∈ bs, b < 2
def OnV (pot : Addr) (H : Hp) (o : Addr) (S D : Nat) : Prop := o ≠ pot ∧ ∃ os : List Addr, H o = some (.lst (os.map V.ref)) ∧ os.length = S ∧ ∀ x ∈ os, BitsV pot H x D
theorem BitsV.mo {pot x : Addr} {H H' : Hp} {D : Nat} (h : BitsV pot H x D) (e : Ex1 pot H H') : BitsV pot H' x D := by
  obtain ⟨n, bs, h1, h2⟩ := h
  exact ⟨n, bs, e _ _ n h1, h2⟩
theorem OnV.mo {pot o : Addr} {H H' : Hp} {S D : Nat} (h : OnV pot H o S D) (e : Ex1 pot H H') : OnV pot H' o S D := by
  obtain ⟨n, os, h1, h2, h3⟩ := h
  exact ⟨n, os, e _ _ n h1, h2, fun x hx => (h3 x hx).mo e⟩
theorem on_made {pot L : Addr} {S D c : Nat} {H : Hp} {Qd : Hp → Prop} {x0 x1 x5 x6 x7 x8 x9 x10 x11 x12 x13 x14 x15 x16 x17 x18 : Option V} (hL : H L = none) (s1 : 1 ≤ S) (s3 : S ≤ 3) (d1 : 1 ≤ D) (d3 : D ≤ 3) (hp : PotV c H pot) (hc : c ≤ 10000)
    (q : ∀ B, Ex1 pot H B → PotV (c + 9) B pot → OnV pot B L S D → Qd B) :
    ∃ W : Nat → Nat → Hp → Prop, (∃ m, W 0 m (upd H L (.lst []))) ∧ ∀ i m H', W i m H' →
      ((Itr 0 S).stop i H' ∧ Qd H') ∨ ((Itr 0 S).go i H' ∧ ∃ Nx : Hp → Prop, (∀ H', Nx H' → ∃ m', m' < m ∧ W (i + 1) m' H') ∧ ∀ x H2, (Itr 0 S).yld i H' x H2 → gName 10 x (wipe [x0, x1, some (.ref pot), some (.int S), some (.int D), x5, x6, x7, x8, x9, x10, x11, x12, x13, x14, x15, x16, x17, x18] [10]) H2 fun σ2 H2 =>
        wipe σ2 [10] = wipe [x0, x1, some (.ref pot), some (.int S), some (.int D), x5, x6, x7, x8, x9, x10, x11, x12, x13, x14, x15, x16, x17, x18] [10] ∧ tYes σ2 H2 fun b H3 =>
        if b = true then tLc (iRng1 (tCons (tVar 4) tNil)) (gName 11) tYes (tCall sp_law_take [] E0 (tCons (tVar 2) (tCons (tC (.int 2)) tNil))) [11] σ2 H3 fun y H4 => ∃ acc, H4 L = some (.lst acc) ∧ acc.length < sizeLine ∧ Nx (upd H4 L (.lst (acc ++ [y]))) else Nx H3) := by
  have hLp : L ≠ pot := by
    obtain ⟨xs, hx⟩ := hp.lst
    exact (ne_of_none hx hL).symm
  refine lc_range (lo := 0) (n := S) (fun s H1 => Ex1 pot H H1 ∧ PotV (c + 3 * s) H1 pot ∧ ∃ os : List Addr, H1 L = some (.lst (os.map V.ref)) ∧ os.length = s ∧ ∀ x ∈ os, x ≠ L ∧ BitsV pot H1 x D)
    ⟨.of (same_new hL), hp.keep fun u => same_new hL _ _, [], upd_same, rfl, fun x hx => by cases hx⟩ (fun s H1 hs h => ?_) (fun H1 h => ?_)
  · obtain ⟨e1, p1, os, h1, h2, h3⟩ := h
    refine ⟨rfl, _, rfl, D, rfl, by omega, by omega, fun L2 hL2 => ?_⟩
    have hL2p : L2 ≠ pot := by
      obtain ⟨xs, hx⟩ := p1.lst
      exact (ne_of_none hx hL2).symm
    have hL2L : L2 ≠ L := (ne_of_none h1 hL2).symm
    refine lc_range (lo := 0) (n := D) (fun d H2 => Ex1 pot H1 H2 ∧ PotV (c + 3 * s + d) H2 pot ∧ ∃ bs : List Nat, H2 L2 = some (.lst (intsOf bs)) ∧ bs.length = d ∧ ∀ b ∈ bs, b < 2)
      ⟨.of (same_new hL2), p1.keep fun u => same_new hL2 _ _, [], upd_same, rfl, fun x hx => by cases hx⟩ (fun d H2 hd h => ?_) (fun H2 h => ?_)
    · obtain ⟨e2, p2, bs, b1, b2, b3⟩ := h
      refine ⟨rfl, _, rfl, pot, 2, c + 3 * s + d, rfl, p2, by decide, by decide, by omega, fun H3 r hr p3 q3 => ?_⟩
      have b1' : H3 L2 = some (.lst (intsOf bs)) := by rw [q3 _ hL2p]; exact b1
      refine ⟨intsOf bs, b1', small1000 (by simp only [intsOf, List.length_map]; omega), (e2.own q3).upd hL2, p3.keep fun u z => by rw [upd_ne hL2p.symm]; exact z, bs ++ [r], ?_, by rw [List.length_append, b2]; rfl, fun b hb => ?_⟩
      · rw [upd_same]
        simp [intsOf]
      · rcases List.mem_append.mp hb with hb | hb
        · exact b3 b hb
        · have : b = r := by simpa using hb
          rw [this]; exact hr
    · obtain ⟨e2, p2, bs, b1, b2, b3⟩ := h
      have h1' := e2 _ _ hLp h1
      refine ⟨os.map V.ref, h1', small1000 (by rw [List.length_map]; omega), (e1.tr e2).upd hL, (p2.le (by omega)).keep fun u z => by rw [upd_ne hLp.symm]; exact z, os ++ [L2], ?_, by rw [List.length_append, h2]; rfl, fun x hx => ?_⟩
      · rw [upd_same]
        simp
      · have hk : ∀ y, y ≠ L → BitsV pot H2 y D → BitsV pot (upd H2 L (.lst (os.map V.ref ++ [.ref L2]))) y D := fun y hy ⟨n, bs', a1, a2⟩ => ⟨n, bs', by rw [upd_ne hy]; exact a1, a2⟩
        rcases List.mem_append.mp hx with hx | hx
        · obtain ⟨n1, n2⟩ := h3 x hx
          exact ⟨n1, hk x n1 (n2.mo e2)⟩
        · have : x = L2 := by simpa using hx
          subst this
          exact ⟨hL2L, hk _ hL2L ⟨hL2p, bs, b1, b2, b3⟩⟩
  · obtain ⟨e1, p1, os, h1, h2, h3⟩ := h
    exact q H1 e1 (p1.le (by omega)) ⟨hLp, os, h1, h2, fun x hx => (h3 x hx).2⟩
theorem pick2 {x y : V} (b : Bool) : ∃ v, atI [x, y] (if b = true then 1 else 0) = some v ∧ (v = x ∨ v = y) := by
  cases b with
  | true => exact ⟨y, atI_nat (j := 1) rfl, .inr rfl⟩
  | false => exact ⟨x, atI_nat (j := 0) rfl, .inl rfl⟩
theorem rate4 : ∀ r : Nat, r < 4 → ∃ k : Nat, ([V.int 3, .int 7, .int 30, .int (10 ^ (6 : Int).toNat)] : List V)[r]? = some (.int k) ∧ 1 ≤ k ∧ k < 1073741824
  | 0, _ => ⟨3, rfl, by decide, by decide⟩
  | 1, _ => ⟨7, rfl, by decide, by decide⟩
  | 2, _ => ⟨30, rfl, by decide, by decide⟩
  | 3, _ => ⟨1000000, rfl, by decide, by decide⟩
  | r + 4, h => absurd h (by omega)
theorem rate3 : ∀ r : Nat, r < 3 → ∃ k : Nat, ([V.int 1, .int 3, .int (10 ^ (6 : Int).toNat)] : List V)[r]? = some (.int k) ∧ 1 ≤ k ∧ k < 1073741824
  | 0, _ => ⟨1, rfl, by decide, by decide⟩
  | 1, _ => ⟨3, rfl, by decide, by decide⟩
  | 2, _ => ⟨1000000, rfl, by decide, by decide⟩
  | r + 3, h => absurd h (by omega)
/-- one of two -/
theorem two_at {x y : V} {r : Nat} (h : r < 2) : ∃ v, ([x, y] : List V)[r]? = some v ∧ (v = x ∨ v = y) := by
  match r, h with
  | 0, _ => exact ⟨x, rfl, .inl rfl⟩
  | 1, _ => exact ⟨y, rfl, .inr rfl⟩
  | r + 2, h => exact absurd h (by omega)
section
variable {P : Program} {w : World} {K : PySem.W.Frag} {mg : Str → Option Value} {base : Heap}
def sp_law_ringed (K : PySem.W.Frag) : Sp := fun vs H Q _ => ∃ (S D m c f0 : Nat) (a pot : Addr) (ns : List Int), vs = [.ref a, .int f0, .ref pot, .int S, .int D, .int m] ∧ 1 ≤ S ∧ S ≤ 3 ∧ 1 ≤ D ∧ D ≤ 3 ∧ 1 ≤ m ∧ m ≤ 4 ∧ PotV c H pot ∧ c ≤ 1000 ∧ f0 ≤ 100 ∧ ScrV K pot H a ns ∧
  ∀ H' v R, Ex1 pot H H' → PotV (c + 13) H' pot → SayV S D H' v R → SayOk S D R → R.length ≤ m → Q v H'
theorem cal_law_ringed (T : Tx K mg) : Cal P w K mg base 2 "_law_ringed" ["script", "first", "pot", "signs", "deeds", "most"] (sp_law_ringed K) := by
  refine T.d_law_ringed.cal sc_law_ringed (fun _ _ _ _ _ _ us hl => match us, hl with | [_, _, _, _, _, _], _ => rfl) (fun vs H Q E h => ?_) fun f cdv A outer s H vs Q E hr h => ?_
  · obtain ⟨S, D, m, c, f0, a, pot, ns, rfl, _⟩ := h; rfl
  obtain ⟨S, D, m, c, f0, a, pot, ns, rfl, s1, s3, d1, d3, m1, m4, hpot, hc, hf0, hscr, q⟩ := h
  refine ⟨_, (pss_cons (ps_set (i := 6) sc_law_ringed.nd rfl (Or.inl rfl) (pe_op op_add pe_int (pe_cal (cal_law_take T) (hr.mono (by decide)) (by rfl) (pa_cons (pv 2) (pa_cons (pv 5) pa_nil)))))
    (pss_cons (ps_set (i := 7) sc_law_ringed.nd rfl (Or.inl rfl) (pe_cal (cal_law_take T) (hr.mono (by decide)) (by rfl) (pa_cons (pv 2) (pa_cons (pv 6) pa_nil))))
    (pss_cons (ps_set (i := 8) sc_law_ringed.nd rfl (Or.inl rfl) (pe_cal (cal_law_take T) (hr.mono (by decide)) (by rfl) (pa_cons (pv 2) (pa_cons pe_int pa_nil))))
    (pss_cons (ps_set (i := 9) sc_law_ringed.nd rfl (Or.inl rfl) (pe_ix ix_list (pe_lst (pa_cons pe_int (pa_cons pe_int (pa_cons pe_int (pa_cons (pe_op op_powW pe_int pe_int) pa_nil))))) (pe_cal (cal_law_take T) (hr.mono (by decide)) (by rfl) (pa_cons (pv 2) (pa_cons pe_int pa_nil))) (fun _ _ => rfl)))
    (pss_cons (ps_setLc (i := 12) (own := [("s", 10)]) (g := (gName 10)) rfl sc_law_ringed.nd rfl rfl (sw_true rfl rfl rfl (by decide +kernel)) (pi_range1 (by rfl) T.z_range (pa_cons (pv 3) pa_nil)) (blkOk_by (own := [("s", 10)]) (N := N_law_ringed) (sc := defScope s_law_ringed) (by decide +kernel)) (fun _ _ _ _ _ => (pg_name (i := 10) sc_law_ringed.nd rfl (Or.inl rfl))) (fun _ _ _ _ _ => pts_nil) (fun _ _ _ _ _ => (pe_lc (own := [("d", 11)]) (g := (gName 11)) rfl sc_law_ringed.nd (pi_range1 (by rfl) T.z_range (pa_cons (pv 4) pa_nil)) (blkOk_by (own := [("d", 11)]) (N := N_law_ringed) (sc := relS _ (defScope s_law_ringed)) (by decide +kernel)) (fun _ _ _ _ _ => (pg_name (i := 11) sc_law_ringed.nd rfl (Or.inl rfl))) (fun _ _ _ _ _ => pts_nil) (fun _ _ _ _ _ => (pe_cal (cal_law_take T) (hr.mono (by decide)) (by rfl) (pa_cons (pv 2) (pa_cons pe_int pa_nil)))))))
    (pss_cons (ps_set (i := 13) sc_law_ringed.nd rfl (Or.inl rfl) (pe_lst pa_nil))
    (pss_cons (ps_for PassesOwn.never rfl (pi_range1 (by rfl) T.z_range (pa_cons (pv 6) pa_nil)) (pg_name (i := 14) sc_law_ringed.nd rfl (Or.inl rfl))
      (pss_cons (ps_set (i := 15) sc_law_ringed.nd rfl (Or.inl rfl) (pe_cal (cal_law_pot T) (hr.mono (by decide)) (by rfl) (pa_cons (pv 0) (pa_cons (pe_op op_add (pv 1) (pv 14)) pa_nil))))
    (pss_cons (ps_set (i := 16) sc_law_ringed.nd rfl (Or.inl rfl) (pe_lst pa_nil))
    (pss_cons (ps_for PassesOwn.never rfl (pi_range1 (by rfl) T.z_range (pa_cons (pv 3) pa_nil)) (pg_name (i := 10) sc_law_ringed.nd rfl (Or.inl rfl))
      (pss_cons (ps_set (i := 17) sc_law_ringed.nd rfl (Or.inl rfl) (pe_lst pa_nil))
    (pss_cons (ps_for PassesOwn.never rfl (pi_range1 (by rfl) T.z_range (pa_cons (pv 4) pa_nil)) (pg_name (i := 11) sc_law_ringed.nd rfl (Or.inl rfl))
      (pss_cons (ps_set (i := 18) sc_law_ringed.nd rfl (Or.inl rfl) (pe_ix ix_list (pe_lst (pa_cons (pe_cal (cal_law_take T) (hr.mono (by decide)) (by rfl) (pa_cons (pv 15) (pa_cons (pv 6) pa_nil))) (pa_cons (pe_op op_add (pv 14) (pe_ix ix_list (pe_ix ix_list (pv 12) (pv 10) (fun _ _ => rfl)) (pv 11) (fun _ _ => rfl))) pa_nil))) (pv 8) (fun _ _ => rfl)))
    (pss_cons (ps_if (pt_cmpR op_eq (pv 18) (pv 6) (nomark _)) (pss_one (ps_set (i := 18) sc_law_ringed.nd rfl (Or.inl rfl) (pv 7))) pss_nil)
    (pss_one (ps_expr (pe_bm PySem.F.plainAttrs_list PySem.F.slot_list_append PySem.F.type_list_append mt_append (pv 17) (pa_cons (pe_ix ix_list (pe_lst (pa_cons (pv 18) (pa_cons pe_non pa_nil))) (pe_callTy call_int1 (by rfl) T.z_int boot_int (pa_cons (pe_cmpR op_eq (pe_cal (cal_law_take T) (hr.mono (by decide)) (by rfl) (pa_cons (pv 15) (pa_cons (pv 9) pa_nil))) pe_int (nomark _)) pa_nil)) (fun _ _ => rfl)) pa_nil)))))))
    (pss_one (ps_expr (pe_bm PySem.F.plainAttrs_list PySem.F.slot_list_append PySem.F.type_list_append mt_append (pv 16) (pa_cons (pe_callTy call_tuple_of (by rfl) T.z_tuple boot_tuple (pa_cons (pv 17) pa_nil)) pa_nil)))))))
    (pss_one (ps_expr (pe_bm PySem.F.plainAttrs_list PySem.F.slot_list_append PySem.F.type_list_append mt_append (pv 13) (pa_cons (pe_callTy call_tuple_of (by rfl) T.z_tuple boot_tuple (pa_cons (pv 16) pa_nil)) pa_nil))))))))
    (pss_one (ps_ret (pe_tup (pa_cons (pv 3) (pa_cons (pv 4) (pa_cons (pe_callTy call_tuple_of (by rfl) T.z_tuple boot_tuple (pa_cons (pv 13) pa_nil)) pa_nil))))))))))))), ?_⟩
  refine ⟨_, rfl, _, rfl, pot, m, c, rfl, hpot, m1, by omega, by omega, fun H1 r1 hr1 p1 q1 => ⟨_, _, rfl, rfl, ?_⟩⟩
  refine ⟨_, rfl, _, rfl, pot, 1 + r1, c + 1, by simp, p1, by omega, by omega, by omega, fun H2 r2 hr2 p2 q2 => ?_⟩
  refine ⟨_, rfl, pot, 2, c + 2, rfl, p2, by omega, by omega, by omega, fun H3 r3 hr3 p3 q3 => ?_⟩
  refine ⟨_, _, rfl, rfl, ⟨by decide, by decide +kernel⟩, by show 4 ≤ sizeLine; decide, fun l hl => ?_⟩
  have e3 := same_new (o := .lst [.int 3, .int 7, .int 30, .int (10 ^ (6 : Int).toNat)]) hl
  have hlp : l ≠ pot := by
    obtain ⟨xs, hx⟩ := p3.lst
    exact (ne_of_none hx hl).symm
  refine ⟨_, rfl, pot, 4, c + 3, rfl, p3.keep fun u => e3 _ _, by omega, by omega, by omega, fun H4 r4 hr4 p4 q4 => ?_⟩
  obtain ⟨k, hk, hk1, hk2⟩ := rate4 r4 hr4
  refine ⟨l, _, r4, _, rfl, rfl, isLst (by rw [q4 _ hlp, upd_same]), atI_nat hk, ?_⟩
  have E4 : Ex1 pot H H4 := ((((Ex1.rfl'.own q1).own q2).own q3).tr (.of e3)).own q4
  refine ⟨_, rfl, S, rfl, by omega, by omega, fun o ho => on_made ho s1 s3 d1 d3 p4 (by omega) fun B eB pB hon => ?_⟩
  have EB := E4.tr eB
  have hsB := (hscr.mo EB).here
  have pB' : PotV (c + 13) B pot := pB.le (by omega)
  clear hscr E4 eB p1 p2 p3 p4 q1 q2 q3 q4 e3
  obtain ⟨hop, os, ho1, ho2, ho3⟩ := hon
  refine ⟨by show 0 ≤ sizeLine; decide, fun T hT => ?_⟩
  refine ⟨_, rfl, (1 + (r1 : Int)), rfl, by omega, by omega, for_range (lo := 0) (n := (1 + (r1 : Int)).toNat) (fun i σ H1 => Same B H1 ∧ (∃ R, LV SStV H1 T R ∧ R.length = i ∧ ∀ x ∈ R, x.length = S ∧ RoomOk D (1 + r1) x) ∧ ∃ y10 y11 y14 y15 y16 y17 y18, σ = [some (.ref a), some (.int f0), some (.ref pot), some (.int S), some (.int D), some (.int m), some (.int (1 + (r1 : Int))), some (.int r2), some (.int r3), some (.int k), y10, y11, some (.ref o), some (.ref T), y14, y15, y16, y17, y18])
    ⟨same_new hT, ⟨[], ⟨[], upd_same, .nil⟩, rfl, fun x hx => by cases hx⟩, _, _, _, _, _, _, _, rfl⟩ (fun i σ H1 hi h => ?_) (fun σ H1 h => ?_)⟩
  · obtain ⟨e1, ⟨R, hT1, hRl, hR⟩, y10, y11, y14, y15, y16, y17, y18, rfl⟩ := h
    -- own
    refine ⟨_, rfl, _, rfl, _, rfl, _, _, rfl, rfl, a, ns, f0 + i, by simp, e1.seq hsB, by omega, fun H2 ow e2 how0 how => ?_⟩
    have e12 := same_tr e1 e2
    have how1 : B ow = none := by
      cases e : B ow with
      | none => rfl
      | some u => rw [e1 _ _ e] at how0; cases how0
    have hT2 := hT1.same SStV.mo e2
    have hTw : T ≠ ow := by
      obtain ⟨xs, hx, _⟩ := hT1
      exact ne_of_none hx how0
    -- rows
    refine ⟨by show 0 ≤ sizeLine; decide, fun rows hrows => ?_⟩
    have hrw : rows ≠ ow := by
      obtain ⟨xs, hx⟩ := how.lst
      exact (ne_of_none hx hrows).symm
    have hrT : rows ≠ T := by
      obtain ⟨xs, hx, _⟩ := hT2
      exact (ne_of_none hx hrows).symm
    have hr00 : B rows = none := by
      cases e : B rows with
      | none => rfl
      | some u => rw [e12 _ _ e] at hrows; cases hrows
    have e3 := same_new (o := .lst []) hrows
    refine ⟨_, rfl, S, rfl, by omega, by omega, for_range (lo := 0) (n := S) (fun s σ H3 => Same B H3 ∧ PotV (6 * s) H3 ow ∧ LV SStV H3 T R ∧ (∃ st, LV SRowV H3 rows st ∧ st.length = s ∧ RoomOk D (1 + r1) st) ∧ ∃ y10 y11 y17 y18, σ = [some (.ref a), some (.int f0), some (.ref pot), some (.int S), some (.int D), some (.int m), some (.int (1 + (r1 : Int))), some (.int r2), some (.int r3), some (.int k), y10, y11, some (.ref o), some (.ref T), some (.int (0 + i)), some (.ref ow), some (.ref rows), y17, y18])
      ⟨same_tr e12 e3, how.keep fun u => e3 _ _, hT2.same SStV.mo e3, ⟨[], ⟨[], upd_same, .nil⟩, rfl, fun x hx => by cases hx⟩, _, _, _, _, rfl⟩ (fun s σ H3 hs h => ?_) (fun σ H3 h => ?_)⟩
    · obtain ⟨f1, f2, f3, ⟨st, f4, f5, f6⟩, z10, z11, z17, z18, rfl⟩ := h
      refine ⟨by show 0 ≤ sizeLine; decide, fun row hrow => ?_⟩
      have hww : row ≠ ow := by
        obtain ⟨xs, hx⟩ := f2.lst
        exact (ne_of_none hx hrow).symm
      have hwT : row ≠ T := by
        obtain ⟨xs, hx, _⟩ := f3
        exact (ne_of_none hx hrow).symm
      have hwr : row ≠ rows := by
        obtain ⟨xs, hx, _⟩ := f4
        exact (ne_of_none hx hrow).symm
      have hw00 : B row = none := by
        cases e : B row with
        | none => rfl
        | some u => rw [f1 _ _ e] at hrow; cases hrow
      have e4 := same_new (o := .lst []) hrow
      refine ⟨_, rfl, D, rfl, by omega, by omega, for_range (lo := 0) (n := D) (fun d σ H4 => Same B H4 ∧ PotV (6 * s + 2 * d) H4 ow ∧ LV SStV H4 T R ∧ LV SRowV H4 rows st ∧ (∃ ro, LV OV H4 row ro ∧ ro.length = d ∧ ∀ t ∈ ro, ∀ k, t = some k → k < 1 + r1) ∧ ∃ y11 y18, σ = [some (.ref a), some (.int f0), some (.ref pot), some (.int S), some (.int D), some (.int m), some (.int (1 + (r1 : Int))), some (.int r2), some (.int r3), some (.int k), some (.int (0 + s)), y11, some (.ref o), some (.ref T), some (.int (0 + i)), some (.ref ow), some (.ref rows), some (.ref row), y18])
        ⟨same_tr f1 e4, f2.keep fun u => e4 _ _, f3.same SStV.mo e4, f4.same SRowV.mo e4, ⟨[], ⟨[], upd_same, .nil⟩, rfl, fun x hx => by cases hx⟩, _, _, rfl⟩ (fun d σ H4 hd h => ?_) (fun σ H4 h => ?_)⟩
      · obtain ⟨g1, g2, g3, g4, ⟨ro, g5, g6, g7⟩, z11, z18, rfl⟩ := h
        obtain ⟨racc, ra1, ra2⟩ := g5
        -- to
        refine ⟨_, rfl, _, rfl, ow, 1 + r1, 6 * s + 2 * d, by simp, g2, by omega, by omega, by omega, fun H5 r5 hr5 p5 q5 => ?_⟩
        have E5 : Same B H5 := same_eqv g1 how1 q5
        have k45 : ∀ b u, b ≠ ow → H4 b = some u → H5 b = some u := fun b u n z => by rw [q5 _ n]; exact z
        have t45 : Tst H4 H5 := by
          obtain ⟨xs, hx⟩ := g2.lst
          exact tst_eqv hx q5
        obtain ⟨x, hx⟩ : ∃ x, os[s]? = some x := ⟨_, List.getElem?_eq_getElem (by omega)⟩
        obtain ⟨hxp, bs, hb1, hb2, hb3⟩ := ho3 x (List.mem_of_getElem? hx)
        obtain ⟨b, hb⟩ : ∃ b, bs[d]? = some b := ⟨_, List.getElem?_eq_getElem (by omega)⟩
        have hb2' := hb3 b (List.mem_of_getElem? hb)
        refine ⟨_, rfl, _, rfl, _, rfl, o, _, (0 + (s : Int)), .ref x, rfl, rfl, isLst (E5 _ _ ho1), by rw [Int.zero_add]; exact atI_nat (by rw [List.getElem?_map, hx]; rfl), _, rfl, x, _, (0 + (d : Int)), .int b, rfl, rfl, isLst (E5 _ _ hb1), by rw [Int.zero_add]; exact atI_nat (by unfold intsOf; rw [List.getElem?_map, hb]; rfl), _, _, rfl, rfl, by show 2 ≤ sizeLine; decide, fun l hl => ?_⟩
        have e6 := same_new (o := .lst [.int r5, .int (0 + (i : Int) + (b : Int))]) hl
        have hlw : l ≠ ow := by
          obtain ⟨xs, hx⟩ := p5.lst
          exact (ne_of_none hx hl).symm
        obtain ⟨v, hv, hv'⟩ := two_at (x := .int r5) (y := .int (0 + (i : Int) + (b : Int))) hr3
        refine ⟨_, rfl, l, _, r3, v, rfl, rfl, isLst upd_same, atI_nat hv, ?_⟩
        obtain ⟨z, rfl, hz⟩ : ∃ z : Nat, v = .int z ∧ z ≤ 1 + r1 := by
          rcases hv' with rfl | rfl
          · exact ⟨r5, rfl, by omega⟩
          · exact ⟨i + b, congrArg V.int (by omega), by omega⟩
        have ra5 := e6 _ _ (k45 _ _ hww ra1)
        have ra5' := k45 _ _ hww ra1
        have p6 := p5.keep fun u => e6 _ u
        -- if to == rooms
        refine ⟨_, rfl, _, rfl, rfl, _, rfl, ite2 (fun e => ⟨_, rfl, ?_⟩) (fun e => ?_)⟩
        · have hto : ∃ z' : Nat, V.int r2 = V.int z' ∧ z' < 1 + r1 := ⟨r2, rfl, hr2⟩
          obtain ⟨z', ez, hz'⟩ := hto
          refine ⟨_, rfl, .inl ⟨rfl, _, isLst ra5⟩, _, rfl, by show 2 ≤ sizeLine; decide, fun l2 hl2 => ?_⟩
          have e7 := same_new (o := .lst [.int r2, .non]) hl2
          have hl2w : l2 ≠ ow := by
            obtain ⟨xs, hx⟩ := p6.lst
            exact (ne_of_none hx hl2).symm
          refine ⟨_, rfl, _, rfl, ow, k, 6 * s + 2 * d + 1, rfl, p6.keep fun u => e7 _ _, hk1, hk2, by omega, fun H8 r8 hr8 p8 q8 => ⟨rfl, .inr ⟨_, rfl, ?_⟩⟩⟩
          obtain ⟨v2, hv2, hv3⟩ := pick2 (x := .int r2) (y := .non) (decide (V.int r8 = V.int 0))
          refine ⟨l2, _, _, v2, rfl, rfl, isLst (by rw [q8 _ hl2w, upd_same]), hv2, ?_⟩
          have k58 : ∀ b u, b ≠ ow → H5 b = some u → H8 b = some u := fun b u n z => by
            rw [q8 _ n]
            exact e7 _ _ (e6 _ _ z)
          have E8 : Same B H8 := same_eqv (same_tr E5 (same_tr e6 e7)) how1 q8
          obtain ⟨xw, hxw⟩ := p6.lst
          have t58 : Tst H5 H8 := (tst_same (same_tr e6 e7)).trans (tst_eqv (e7 _ _ hxw) q8)
          have ra8 := k58 _ _ hww ra5'
          have hrl : racc.length = d := by rw [Paired.len ra2]; exact g6
          refine ⟨row, racc, _, rfl, rfl, ra8, small1000 (by omega), ?_⟩
          have t9 := tst_lst (o := .lst (racc ++ [v2])) ra8
          have tt := (t45.trans t58).trans t9
          obtain ⟨o2, ho2', ho3'⟩ : ∃ o2 : Option Nat, OV H8 v2 o2 ∧ ∀ k, o2 = some k → k < 1 + r1 := by
            rcases hv3 with rfl | rfl
            · exact ⟨some z', ez, fun k hk => by cases hk; exact hz'⟩
            · exact ⟨none, rfl, fun k hk => by cases hk⟩
          refine ⟨same_upd' E8 hw00, (p8.le (by omega)).keep fun u z => by rw [upd_ne hww.symm]; exact z, g3.keep SStV.mo tt fun u z => by rw [upd_ne hwT.symm]; exact k58 _ _ hTw (k45 _ _ hTw z), g4.keep SRowV.mo tt fun u z => by rw [upd_ne hwr.symm]; exact k58 _ _ hrw (k45 _ _ hrw z), ⟨ro ++ [o2], ?_, by rw [List.length_append, g6]; rfl, fun t ht k hk => ?_⟩, _, _, rfl⟩
          · exact LV.snoc OV.mo ra8 (Paired.imp (fun _ _ r => OV.mo.ap (t45.trans t58) r) ra2) ho2'
          · rcases List.mem_append.mp ht with ht | ht
            · exact g7 t ht k hk
            · have : t = o2 := by simpa using ht
              subst this
              exact ho3' k hk
        · have hto : ∃ z' : Nat, V.int z = V.int z' ∧ z' < 1 + r1 := ⟨z, rfl, by
            have : z ≠ 1 + r1 := fun h => e (decide_eq_true (congrArg V.int (by omega)))
            omega⟩
          obtain ⟨z', ez, hz'⟩ := hto
          refine ⟨_, rfl, .inl ⟨rfl, _, isLst ra5⟩, _, rfl, by show 2 ≤ sizeLine; decide, fun l2 hl2 => ?_⟩
          have e7 := same_new (o := .lst [.int z, .non]) hl2
          have hl2w : l2 ≠ ow := by
            obtain ⟨xs, hx⟩ := p6.lst
            exact (ne_of_none hx hl2).symm
          refine ⟨_, rfl, _, rfl, ow, k, 6 * s + 2 * d + 1, rfl, p6.keep fun u => e7 _ _, hk1, hk2, by omega, fun H8 r8 hr8 p8 q8 => ⟨rfl, .inr ⟨_, rfl, ?_⟩⟩⟩
          obtain ⟨v2, hv2, hv3⟩ := pick2 (x := .int z) (y := .non) (decide (V.int r8 = V.int 0))
          refine ⟨l2, _, _, v2, rfl, rfl, isLst (by rw [q8 _ hl2w, upd_same]), hv2, ?_⟩
          have k58 : ∀ b u, b ≠ ow → H5 b = some u → H8 b = some u := fun b u n z => by
            rw [q8 _ n]
            exact e7 _ _ (e6 _ _ z)
          have E8 : Same B H8 := same_eqv (same_tr E5 (same_tr e6 e7)) how1 q8
          obtain ⟨xw, hxw⟩ := p6.lst
          have t58 : Tst H5 H8 := (tst_same (same_tr e6 e7)).trans (tst_eqv (e7 _ _ hxw) q8)
          have ra8 := k58 _ _ hww ra5'
          have hrl : racc.length = d := by rw [Paired.len ra2]; exact g6
          refine ⟨row, racc, _, rfl, rfl, ra8, small1000 (by omega), ?_⟩
          have t9 := tst_lst (o := .lst (racc ++ [v2])) ra8
          have tt := (t45.trans t58).trans t9
          obtain ⟨o2, ho2', ho3'⟩ : ∃ o2 : Option Nat, OV H8 v2 o2 ∧ ∀ k, o2 = some k → k < 1 + r1 := by
            rcases hv3 with rfl | rfl
            · exact ⟨some z', ez, fun k hk => by cases hk; exact hz'⟩
            · exact ⟨none, rfl, fun k hk => by cases hk⟩
          refine ⟨same_upd' E8 hw00, (p8.le (by omega)).keep fun u z => by rw [upd_ne hww.symm]; exact z, g3.keep SStV.mo tt fun u z => by rw [upd_ne hwT.symm]; exact k58 _ _ hTw (k45 _ _ hTw z), g4.keep SRowV.mo tt fun u z => by rw [upd_ne hwr.symm]; exact k58 _ _ hrw (k45 _ _ hrw z), ⟨ro ++ [o2], ?_, by rw [List.length_append, g6]; rfl, fun t ht k hk => ?_⟩, _, _, rfl⟩
          · exact LV.snoc OV.mo ra8 (Paired.imp (fun _ _ r => OV.mo.ap (t45.trans t58) r) ra2) ho2'
          · rcases List.mem_append.mp ht with ht | ht
            · exact g7 t ht k hk
            · have : t = o2 := by simpa using ht
              subst this
              exact ho3' k hk
      · obtain ⟨g1, g2, g3, g4, ⟨ro, g5, g6, g7⟩, z11, z18, rfl⟩ := h
        obtain ⟨sacc, sa1, sa2⟩ := g4
        obtain ⟨racc, ra1, ra2⟩ := g5
        refine ⟨_, rfl, .inl ⟨rfl, _, isLst sa1⟩, _, rfl, row, racc, rfl, .inl ⟨isLst ra1, fun l hl => ?_⟩⟩
        have sl : Same H4 (upd H4 l (.tup racc)) := same_new hl
        have sa3 := sl _ _ sa1
        have hsl : sacc.length = s := by rw [Paired.len sa2]; exact f5
        refine ⟨rows, sacc, _, rfl, rfl, sa3, small1000 (by omega), ?_⟩
        have t8 := tst_lst (o := .lst (sacc ++ [.ref l])) sa3
        have tt := (tst_same sl).trans t8
        refine ⟨same_upd' (same_tr g1 sl) hr00, (g2.le (by omega)).keep fun u z => by rw [upd_ne hrw.symm]; exact sl _ _ z, g3.keep SStV.mo tt fun u z => by rw [upd_ne hrT.symm]; exact sl _ _ z, ⟨st ++ [ro], ?_, by rw [List.length_append, f5]; rfl, fun x hx => ?_⟩, _, _, _, _, rfl⟩
        · exact LV.snoc SRowV.mo sa3 (Paired.imp (fun _ _ r => SRowV.mo.ap (tst_same sl) r) sa2) ⟨l, racc, rfl, upd_same, Paired.imp (fun _ _ r => OV.mo.ap (tst_same sl) r) ra2⟩
        · rcases List.mem_append.mp hx with hx | hx
          · exact f6 x hx
          · have : x = ro := by simpa using hx
            subst this
            exact ⟨g6, g7⟩
    · obtain ⟨f1, f2, f3, ⟨st, f4, f5, f6⟩, z10, z11, z17, z18, rfl⟩ := h
      obtain ⟨tacc, ta1, ta2⟩ := f3
      obtain ⟨sacc, sa1, sa2⟩ := f4
      refine ⟨_, rfl, .inl ⟨rfl, _, isLst ta1⟩, _, rfl, rows, sacc, rfl, .inl ⟨isLst sa1, fun l hl => ?_⟩⟩
      have sl : Same H3 (upd H3 l (.tup sacc)) := same_new hl
      have ta3 := sl _ _ ta1
      have htl : tacc.length = i := by rw [Paired.len ta2]; exact hRl
      refine ⟨T, tacc, _, rfl, rfl, ta3, small1000 (by omega), ?_⟩
      refine ⟨same_upd' (same_tr f1 sl) hT, ⟨R ++ [st], ?_, by rw [List.length_append, hRl]; rfl, fun x hx => ?_⟩, _, _, _, _, _, _, _, rfl⟩
      · exact LV.snoc SStV.mo ta3 (Paired.imp (fun _ _ r => SStV.mo.ap (tst_same sl) r) ta2) ⟨l, sacc, rfl, upd_same, Paired.imp (fun _ _ r => SRowV.mo.ap (tst_same sl) r) sa2⟩
      · rcases List.mem_append.mp hx with hx | hx
        · exact hR x hx
        · have : x = st := by simpa using hx
          subst this
          exact ⟨f5, f6⟩
  · obtain ⟨e1, ⟨R, hT1, hRl, hR⟩, y10, y11, y14, y15, y16, y17, y18, rfl⟩ := h
    have hRl' : R.length = 1 + r1 := by omega
    obtain ⟨acc, hA, hP⟩ := hT1
    refine ⟨_, rfl, _, rfl, _, rfl, T, acc, rfl, .inl ⟨isLst hA, fun l hl => ⟨by show 3 ≤ sizeLine; decide, fun rr hrr => ?_⟩⟩⟩
    have j1 : Same H1 (upd H1 l (.tup acc)) := same_new hl
    have j2 := same_new (o := .tup [.int S, .int D, .ref l]) hrr
    have j := same_tr j1 j2
    refine q _ _ R (EB.tr (.of (same_tr e1 j))) (pB'.keep fun u z => j _ _ (e1 _ _ z)) ⟨rr, .ref l, rfl, upd_same, l, acc, rfl, j2 _ _ upd_same, Paired.imp (fun _ _ r => SStV.mo.ap (tst_same j) r) hP⟩ ⟨by omega, by omega, fun x hx => ?_⟩ (by omega)
    rw [hRl']
    exact hR x hx
end
end Wa
namespace Wa
open PySem PySem.Spec PyProof.Rows L2 Wx Wk Wz Wc RZ NdefX LamX
section
variable {P : Program} {w : World} {K : PySem.W.Frag} {mg : Str → Option Value} {base : Heap}
def sp_law_warden (K : PySem.W.Frag) : Sp := fun vs H Q _ => ∃ (S D m c f0 : Nat) (a pot : Addr) (ns : List Int), vs = [.ref a, .int f0, .ref pot, .int S, .int D, .int m] ∧ 1 ≤ S ∧ S ≤ 3 ∧ 1 ≤ D ∧ D ≤ 3 ∧ 1 ≤ m ∧ m ≤ 4 ∧ PotV c H pot ∧ c ≤ 1000 ∧ f0 ≤ 100 ∧ ScrV K pot H a ns ∧
  ∀ H' v w, Ex1 pot H H' → PotV (c + 13) H' pot → WatV S D H' v w → Wr.TOk S D w → w.length ≤ m → Q v H'
theorem cal_law_warden (T : Tx K mg) : Cal P w K mg base 2 "_law_warden" ["script", "first", "pot", "signs", "deeds", "most"] (sp_law_warden K) := by
  refine T.d_law_warden.cal sc_law_warden (fun _ _ _ _ _ _ us hl => match us, hl with | [_, _, _, _, _, _], _ => rfl) (fun vs H Q E h => ?_) fun f cdv A outer s H vs Q E hr h => ?_
  · obtain ⟨S, D, m, c, f0, a, pot, ns, rfl, _⟩ := h; rfl
  obtain ⟨S, D, m, c, f0, a, pot, ns, rfl, s1, s3, d1, d3, m1, m4, hpot, hc, hf0, hscr, q⟩ := h
  refine ⟨_, (pss_cons (ps_set (i := 6) sc_law_warden.nd rfl (Or.inl rfl) (pe_op op_add pe_int (pe_cal (cal_law_take T) (hr.mono (by decide)) (by rfl) (pa_cons (pv 2) (pa_cons (pv 5) pa_nil)))))
    (pss_cons (ps_set (i := 7) sc_law_warden.nd rfl (Or.inl rfl) (pe_cal (cal_law_take T) (hr.mono (by decide)) (by rfl) (pa_cons (pv 2) (pa_cons (pv 6) pa_nil))))
    (pss_cons (ps_set (i := 8) sc_law_warden.nd rfl (Or.inl rfl) (pe_cal (cal_law_take T) (hr.mono (by decide)) (by rfl) (pa_cons (pv 2) (pa_cons pe_int pa_nil))))
    (pss_cons (ps_set (i := 9) sc_law_warden.nd rfl (Or.inl rfl) (pe_ix ix_list (pe_lst (pa_cons pe_int (pa_cons pe_int (pa_cons (pe_op op_powW pe_int pe_int) pa_nil)))) (pe_cal (cal_law_take T) (hr.mono (by decide)) (by rfl) (pa_cons (pv 2) (pa_cons pe_int pa_nil))) (fun _ _ => rfl)))
    (pss_cons (ps_setLc (i := 12) (own := [("s", 10)]) (g := (gName 10)) rfl sc_law_warden.nd rfl rfl (sw_true rfl rfl rfl (by decide +kernel)) (pi_range1 (by rfl) T.z_range (pa_cons (pv 3) pa_nil)) (blkOk_by (own := [("s", 10)]) (N := N_law_warden) (sc := defScope s_law_warden) (by decide +kernel)) (fun _ _ _ _ _ => (pg_name (i := 10) sc_law_warden.nd rfl (Or.inl rfl))) (fun _ _ _ _ _ => pts_nil) (fun _ _ _ _ _ => (pe_lc (own := [("d", 11)]) (g := (gName 11)) rfl sc_law_warden.nd (pi_range1 (by rfl) T.z_range (pa_cons (pv 4) pa_nil)) (blkOk_by (own := [("d", 11)]) (N := N_law_warden) (sc := relS _ (defScope s_law_warden)) (by decide +kernel)) (fun _ _ _ _ _ => (pg_name (i := 11) sc_law_warden.nd rfl (Or.inl rfl))) (fun _ _ _ _ _ => pts_nil) (fun _ _ _ _ _ => (pe_cal (cal_law_take T) (hr.mono (by decide)) (by rfl) (pa_cons (pv 2) (pa_cons pe_int pa_nil)))))))
    (pss_cons (ps_set (i := 13) sc_law_warden.nd rfl (Or.inl rfl) (pe_lst pa_nil))
    (pss_cons (ps_for PassesOwn.never rfl (pi_range1 (by rfl) T.z_range (pa_cons (pv 6) pa_nil)) (pg_name (i := 14) sc_law_warden.nd rfl (Or.inl rfl))
      (pss_cons (ps_set (i := 15) sc_law_warden.nd rfl (Or.inl rfl) (pe_cal (cal_law_pot T) (hr.mono (by decide)) (by rfl) (pa_cons (pv 0) (pa_cons (pe_op op_add (pv 1) (pv 14)) pa_nil))))
    (pss_cons (ps_set (i := 16) sc_law_warden.nd rfl (Or.inl rfl) (pe_lst pa_nil))
    (pss_cons (ps_for PassesOwn.never rfl (pi_range1 (by rfl) T.z_range (pa_cons (pv 3) pa_nil)) (pg_name (i := 10) sc_law_warden.nd rfl (Or.inl rfl))
      (pss_cons (ps_set (i := 17) sc_law_warden.nd rfl (Or.inl rfl) (pe_lst pa_nil))
    (pss_cons (ps_for PassesOwn.never rfl (pi_range1 (by rfl) T.z_range (pa_cons (pv 4) pa_nil)) (pg_name (i := 11) sc_law_warden.nd rfl (Or.inl rfl))
      (pss_cons (ps_set (i := 18) sc_law_warden.nd rfl (Or.inl rfl) (pe_ix ix_list (pe_lst (pa_cons (pe_cal (cal_law_take T) (hr.mono (by decide)) (by rfl) (pa_cons (pv 15) (pa_cons (pv 6) pa_nil))) (pa_cons (pe_op op_add (pv 14) (pe_ix ix_list (pe_ix ix_list (pv 12) (pv 10) (fun _ _ => rfl)) (pv 11) (fun _ _ => rfl))) pa_nil))) (pv 8) (fun _ _ => rfl)))
    (pss_cons (ps_if (pt_cmpR op_eq (pv 18) (pv 6) (nomark _)) (pss_one (ps_set (i := 18) sc_law_warden.nd rfl (Or.inl rfl) (pv 7))) pss_nil)
    (pss_one (ps_expr (pe_bm PySem.F.plainAttrs_list PySem.F.slot_list_append PySem.F.type_list_append mt_append (pv 17) (pa_cons (pe_tup (pa_cons (pe_ix ix_list (pe_lst (pa_cons (pv 11) (pa_cons (pe_cal (cal_law_take T) (hr.mono (by decide)) (by rfl) (pa_cons (pv 15) (pa_cons (pv 4) pa_nil))) pa_nil))) (pe_callTy call_int1 (by rfl) T.z_int boot_int (pa_cons (pe_cmpR op_eq (pe_cal (cal_law_take T) (hr.mono (by decide)) (by rfl) (pa_cons (pv 15) (pa_cons (pv 9) pa_nil))) pe_int (nomark _)) pa_nil)) (fun _ _ => rfl)) (pa_cons (pv 18) pa_nil))) pa_nil)))))))
    (pss_one (ps_expr (pe_bm PySem.F.plainAttrs_list PySem.F.slot_list_append PySem.F.type_list_append mt_append (pv 16) (pa_cons (pe_callTy call_tuple_of (by rfl) T.z_tuple boot_tuple (pa_cons (pv 17) pa_nil)) pa_nil)))))))
    (pss_one (ps_expr (pe_bm PySem.F.plainAttrs_list PySem.F.slot_list_append PySem.F.type_list_append mt_append (pv 13) (pa_cons (pe_callTy call_tuple_of (by rfl) T.z_tuple boot_tuple (pa_cons (pv 16) pa_nil)) pa_nil))))))))
    (pss_one (ps_ret (pe_tup (pa_cons (pv 3) (pa_cons (pv 4) (pa_cons (pe_callTy call_tuple_of (by rfl) T.z_tuple boot_tuple (pa_cons (pv 13) pa_nil)) pa_nil))))))))))))), ?_⟩
  refine ⟨_, rfl, _, rfl, pot, m, c, rfl, hpot, m1, by omega, by omega, fun H1 r1 hr1 p1 q1 => ⟨_, _, rfl, rfl, ?_⟩⟩
  refine ⟨_, rfl, _, rfl, pot, 1 + r1, c + 1, by simp, p1, by omega, by omega, by omega, fun H2 r2 hr2 p2 q2 => ?_⟩
  refine ⟨_, rfl, pot, 2, c + 2, rfl, p2, by omega, by omega, by omega, fun H3 r3 hr3 p3 q3 => ?_⟩
  refine ⟨_, _, rfl, rfl, ⟨by decide, by decide +kernel⟩, by show 3 ≤ sizeLine; decide, fun l hl => ?_⟩
  have e3 := same_new (o := .lst [.int 1, .int 3, .int (10 ^ (6 : Int).toNat)]) hl
  have hlp : l ≠ pot := by
    obtain ⟨xs, hx⟩ := p3.lst
    exact (ne_of_none hx hl).symm
  refine ⟨_, rfl, pot, 3, c + 3, rfl, p3.keep fun u => e3 _ _, by omega, by omega, by omega, fun H4 r4 hr4 p4 q4 => ?_⟩
  obtain ⟨k, hk, hk1, hk2⟩ := rate3 r4 hr4
  refine ⟨l, _, r4, _, rfl, rfl, isLst (by rw [q4 _ hlp, upd_same]), atI_nat hk, ?_⟩
  have E4 : Ex1 pot H H4 := ((((Ex1.rfl'.own q1).own q2).own q3).tr (.of e3)).own q4
  refine ⟨_, rfl, S, rfl, by omega, by omega, fun o ho => on_made ho s1 s3 d1 d3 p4 (by omega) fun B eB pB hon => ?_⟩
  have EB := E4.tr eB
  have hsB := (hscr.mo EB).here
  have pB' : PotV (c + 13) B pot := pB.le (by omega)
  clear hscr E4 eB p1 p2 p3 p4 q1 q2 q3 q4 e3
  obtain ⟨hop, os, ho1, ho2, ho3⟩ := hon
  refine ⟨by show 0 ≤ sizeLine; decide, fun T hT => ?_⟩
  refine ⟨_, rfl, (1 + (r1 : Int)), rfl, by omega, by omega, for_range (lo := 0) (n := (1 + (r1 : Int)).toNat) (fun i σ H1 => Same B H1 ∧ (∃ R, LV StV H1 T R ∧ R.length = i ∧ ∀ x ∈ R, Wr.SOk S D (1 + r1) x) ∧ ∃ y10 y11 y14 y15 y16 y17 y18, σ = [some (.ref a), some (.int f0), some (.ref pot), some (.int S), some (.int D), some (.int m), some (.int (1 + (r1 : Int))), some (.int r2), some (.int r3), some (.int k), y10, y11, some (.ref o), some (.ref T), y14, y15, y16, y17, y18])
    ⟨same_new hT, ⟨[], ⟨[], upd_same, .nil⟩, rfl, fun x hx => by cases hx⟩, _, _, _, _, _, _, _, rfl⟩ (fun i σ H1 hi h => ?_) (fun σ H1 h => ?_)⟩
  · obtain ⟨e1, ⟨R, hT1, hRl, hR⟩, y10, y11, y14, y15, y16, y17, y18, rfl⟩ := h
    -- own
    refine ⟨_, rfl, _, rfl, _, rfl, _, _, rfl, rfl, a, ns, f0 + i, by simp, e1.seq hsB, by omega, fun H2 ow e2 how0 how => ?_⟩
    have e12 := same_tr e1 e2
    have how1 : B ow = none := by
      cases e : B ow with
      | none => rfl
      | some u => rw [e1 _ _ e] at how0; cases how0
    have hT2 := hT1.same StV.mo e2
    have hTw : T ≠ ow := by
      obtain ⟨xs, hx, _⟩ := hT1
      exact ne_of_none hx how0
    -- rows
    refine ⟨by show 0 ≤ sizeLine; decide, fun rows hrows => ?_⟩
    have hrw : rows ≠ ow := by
      obtain ⟨xs, hx⟩ := how.lst
      exact (ne_of_none hx hrows).symm
    have hrT : rows ≠ T := by
      obtain ⟨xs, hx, _⟩ := hT2
      exact (ne_of_none hx hrows).symm
    have hr00 : B rows = none := by
      cases e : B rows with
      | none => rfl
      | some u => rw [e12 _ _ e] at hrows; cases hrows
    have e3 := same_new (o := .lst []) hrows
    refine ⟨_, rfl, S, rfl, by omega, by omega, for_range (lo := 0) (n := S) (fun s σ H3 => Same B H3 ∧ PotV (9 * s) H3 ow ∧ LV StV H3 T R ∧ (∃ st, LV RowV H3 rows st ∧ st.length = s ∧ (∀ r ∈ st, Wr.ROk D (1 + r1) r)) ∧ ∃ y10 y11 y17 y18, σ = [some (.ref a), some (.int f0), some (.ref pot), some (.int S), some (.int D), some (.int m), some (.int (1 + (r1 : Int))), some (.int r2), some (.int r3), some (.int k), y10, y11, some (.ref o), some (.ref T), some (.int (0 + i)), some (.ref ow), some (.ref rows), y17, y18])
      ⟨same_tr e12 e3, how.keep fun u => e3 _ _, hT2.same StV.mo e3, ⟨[], ⟨[], upd_same, .nil⟩, rfl, fun x hx => by cases hx⟩, _, _, _, _, rfl⟩ (fun s σ H3 hs h => ?_) (fun σ H3 h => ?_)⟩
    · obtain ⟨f1, f2, f3, ⟨st, f4, f5, f6⟩, z10, z11, z17, z18, rfl⟩ := h
      refine ⟨by show 0 ≤ sizeLine; decide, fun row hrow => ?_⟩
      have hww : row ≠ ow := by
        obtain ⟨xs, hx⟩ := f2.lst
        exact (ne_of_none hx hrow).symm
      have hwT : row ≠ T := by
        obtain ⟨xs, hx, _⟩ := f3
        exact (ne_of_none hx hrow).symm
      have hwr : row ≠ rows := by
        obtain ⟨xs, hx, _⟩ := f4
        exact (ne_of_none hx hrow).symm
      have hw00 : B row = none := by
        cases e : B row with
        | none => rfl
        | some u => rw [f1 _ _ e] at hrow; cases hrow
      have e4 := same_new (o := .lst []) hrow
      refine ⟨_, rfl, D, rfl, by omega, by omega, for_range (lo := 0) (n := D) (fun d σ H4 => Same B H4 ∧ PotV (9 * s + 3 * d) H4 ow ∧ LV StV H4 T R ∧ LV RowV H4 rows st ∧ (∃ ro, LV PV H4 row ro ∧ ro.length = d ∧ ∀ c ∈ ro, c.1 < D ∧ c.2 < 1 + r1) ∧ ∃ y11 y18, σ = [some (.ref a), some (.int f0), some (.ref pot), some (.int S), some (.int D), some (.int m), some (.int (1 + (r1 : Int))), some (.int r2), some (.int r3), some (.int k), some (.int (0 + s)), y11, some (.ref o), some (.ref T), some (.int (0 + i)), some (.ref ow), some (.ref rows), some (.ref row), y18])
        ⟨same_tr f1 e4, f2.keep fun u => e4 _ _, f3.same StV.mo e4, f4.same RowV.mo e4, ⟨[], ⟨[], upd_same, .nil⟩, rfl, fun x hx => by cases hx⟩, _, _, rfl⟩ (fun d σ H4 hd h => ?_) (fun σ H4 h => ?_)⟩
      · obtain ⟨g1, g2, g3, g4, ⟨ro, g5, g6, g7⟩, z11, z18, rfl⟩ := h
        obtain ⟨racc, ra1, ra2⟩ := g5
        -- to
        refine ⟨_, rfl, _, rfl, ow, 1 + r1, 9 * s + 3 * d, by simp, g2, by omega, by omega, by omega, fun H5 r5 hr5 p5 q5 => ?_⟩
        have E5 : Same B H5 := same_eqv g1 how1 q5
        have k45 : ∀ b u, b ≠ ow → H4 b = some u → H5 b = some u := fun b u n z => by rw [q5 _ n]; exact z
        have t45 : Tst H4 H5 := by
          obtain ⟨xs, hx⟩ := g2.lst
          exact tst_eqv hx q5
        obtain ⟨x, hx⟩ : ∃ x, os[s]? = some x := ⟨_, List.getElem?_eq_getElem (by omega)⟩
        obtain ⟨hxp, bs, hb1, hb2, hb3⟩ := ho3 x (List.mem_of_getElem? hx)
        obtain ⟨b, hb⟩ : ∃ b, bs[d]? = some b := ⟨_, List.getElem?_eq_getElem (by omega)⟩
        have hb2' := hb3 b (List.mem_of_getElem? hb)
        refine ⟨_, rfl, _, rfl, _, rfl, o, _, (0 + (s : Int)), .ref x, rfl, rfl, isLst (E5 _ _ ho1), by rw [Int.zero_add]; exact atI_nat (by rw [List.getElem?_map, hx]; rfl), _, rfl, x, _, (0 + (d : Int)), .int b, rfl, rfl, isLst (E5 _ _ hb1), by rw [Int.zero_add]; exact atI_nat (by unfold intsOf; rw [List.getElem?_map, hb]; rfl), _, _, rfl, rfl, by show 2 ≤ sizeLine; decide, fun l hl => ?_⟩
        have e6 := same_new (o := .lst [.int r5, .int (0 + (i : Int) + (b : Int))]) hl
        have hlw : l ≠ ow := by
          obtain ⟨xs, hx⟩ := p5.lst
          exact (ne_of_none hx hl).symm
        obtain ⟨v, hv, hv'⟩ := two_at (x := .int r5) (y := .int (0 + (i : Int) + (b : Int))) hr3
        refine ⟨_, rfl, l, _, r3, v, rfl, rfl, isLst upd_same, atI_nat hv, ?_⟩
        obtain ⟨z, rfl, hz⟩ : ∃ z : Nat, v = .int z ∧ z ≤ 1 + r1 := by
          rcases hv' with rfl | rfl
          · exact ⟨r5, rfl, by omega⟩
          · exact ⟨i + b, congrArg V.int (by omega), by omega⟩
        have ra5 := e6 _ _ (k45 _ _ hww ra1)
        have ra5' := k45 _ _ hww ra1
        have p6 := p5.keep fun u => e6 _ u
        -- if to == rooms
        refine ⟨_, rfl, _, rfl, rfl, _, rfl, ite2 (fun e => ⟨_, rfl, ?_⟩) (fun e => ?_)⟩
        · have hto : ∃ z' : Nat, V.int r2 = V.int z' ∧ z' < 1 + r1 := ⟨r2, rfl, hr2⟩
          obtain ⟨z', ez, hz'⟩ := hto
          refine ⟨_, rfl, .inl ⟨rfl, _, isLst ra5⟩, _, rfl, _, rfl, _, rfl, ow, D, 9 * s + 3 * d + 1, rfl, p6, d1, by omega, by omega, fun H7 r7 hr7 p7 q7 => ⟨by show 2 ≤ sizeLine; decide, fun l2 hl2 => ?_⟩⟩
          have e7 := same_new (o := .lst [.int (0 + (d : Int)), .int r7]) hl2
          have hl2w : l2 ≠ ow := by
            obtain ⟨xs, hx⟩ := p7.lst
            exact (ne_of_none hx hl2).symm
          refine ⟨_, rfl, _, rfl, ow, k, 9 * s + 3 * d + 2, rfl, p7.keep fun u => e7 _ _, hk1, hk2, by omega, fun H8 r8 hr8 p8 q8 => ⟨rfl, .inr ⟨_, rfl, ?_⟩⟩⟩
          obtain ⟨v2, hv2, hv3⟩ := pick2 (x := .int (0 + (d : Int))) (y := .int r7) (decide (V.int r8 = V.int 0))
          refine ⟨l2, _, _, v2, rfl, rfl, isLst (by rw [q8 _ hl2w, upd_same]), hv2, _, rfl, by show 2 ≤ sizeLine; decide, fun t ht => ?_⟩
          obtain ⟨g, rfl, hgD⟩ : ∃ g : Nat, v2 = .int g ∧ g < D := by
            rcases hv3 with rfl | rfl
            · exact ⟨d, congrArg V.int (by omega), hd⟩
            · exact ⟨r7, rfl, hr7⟩
          have k58 : ∀ b u, b ≠ ow → H5 b = some u → H8 b = some u := fun b u n z => by
            rw [q8 _ n]
            refine e7 _ _ ?_
            rw [q7 _ n]
            exact e6 _ _ z
          have E8 : Same B H8 := same_eqv (same_tr (same_eqv (same_tr E5 e6) how1 q7) e7) how1 q8
          obtain ⟨xw, hxw⟩ := p6.lst
          obtain ⟨xw2, hxw2⟩ := p7.lst
          have t58 : Tst H5 H8 := (tst_same e6).trans ((tst_eqv hxw q7).trans ((tst_same e7).trans (tst_eqv (e7 _ _ hxw2) q8)))
          have st := same_new (o := .tup [.int g, .int r2]) ht
          have ra8 := st _ _ (k58 _ _ hww ra5')
          have hrl : racc.length = d := by rw [Paired.len ra2]; exact g6
          refine ⟨row, racc, _, rfl, rfl, ra8, small1000 (by omega), ?_⟩
          have t9 := tst_lst (o := .lst (racc ++ [.ref t])) ra8
          have t48 := (t45.trans t58).trans (tst_same st)
          have tt := t48.trans t9
          refine ⟨same_upd' (same_tr E8 st) hw00, (p8.le (by omega)).keep fun u z => by rw [upd_ne hww.symm]; exact st _ _ z, g3.keep StV.mo tt fun u z => by rw [upd_ne hwT.symm]; exact st _ _ (k58 _ _ hTw (k45 _ _ hTw z)), g4.keep RowV.mo tt fun u z => by rw [upd_ne hwr.symm]; exact st _ _ (k58 _ _ hrw (k45 _ _ hrw z)), ⟨ro ++ [(g, z')], ?_, by rw [List.length_append, g6]; rfl, fun c hc => ?_⟩, _, _, rfl⟩
          · exact LV.snoc PV.mo ra8 (Paired.imp (fun _ _ r => PV.mo.ap t48 r) ra2) ⟨t, rfl, by rw [upd_same, ez]⟩
          · rcases List.mem_append.mp hc with hc | hc
            · exact g7 c hc
            · have : c = (g, z') := by simpa using hc
              subst this
              exact ⟨hgD, hz'⟩
        · have hto : ∃ z' : Nat, V.int z = V.int z' ∧ z' < 1 + r1 := ⟨z, rfl, by
            have : z ≠ 1 + r1 := fun h => e (decide_eq_true (congrArg V.int (by omega)))
            omega⟩
          obtain ⟨z', ez, hz'⟩ := hto
          refine ⟨_, rfl, .inl ⟨rfl, _, isLst ra5⟩, _, rfl, _, rfl, _, rfl, ow, D, 9 * s + 3 * d + 1, rfl, p6, d1, by omega, by omega, fun H7 r7 hr7 p7 q7 => ⟨by show 2 ≤ sizeLine; decide, fun l2 hl2 => ?_⟩⟩
          have e7 := same_new (o := .lst [.int (0 + (d : Int)), .int r7]) hl2
          have hl2w : l2 ≠ ow := by
            obtain ⟨xs, hx⟩ := p7.lst
            exact (ne_of_none hx hl2).symm
          refine ⟨_, rfl, _, rfl, ow, k, 9 * s + 3 * d + 2, rfl, p7.keep fun u => e7 _ _, hk1, hk2, by omega, fun H8 r8 hr8 p8 q8 => ⟨rfl, .inr ⟨_, rfl, ?_⟩⟩⟩
          obtain ⟨v2, hv2, hv3⟩ := pick2 (x := .int (0 + (d : Int))) (y := .int r7) (decide (V.int r8 = V.int 0))
          refine ⟨l2, _, _, v2, rfl, rfl, isLst (by rw [q8 _ hl2w, upd_same]), hv2, _, rfl, by show 2 ≤ sizeLine; decide, fun t ht => ?_⟩
          obtain ⟨g, rfl, hgD⟩ : ∃ g : Nat, v2 = .int g ∧ g < D := by
            rcases hv3 with rfl | rfl
            · exact ⟨d, congrArg V.int (by omega), hd⟩
            · exact ⟨r7, rfl, hr7⟩
          have k58 : ∀ b u, b ≠ ow → H5 b = some u → H8 b = some u := fun b u n z => by
            rw [q8 _ n]
            refine e7 _ _ ?_
            rw [q7 _ n]
            exact e6 _ _ z
          have E8 : Same B H8 := same_eqv (same_tr (same_eqv (same_tr E5 e6) how1 q7) e7) how1 q8
          obtain ⟨xw, hxw⟩ := p6.lst
          obtain ⟨xw2, hxw2⟩ := p7.lst
          have t58 : Tst H5 H8 := (tst_same e6).trans ((tst_eqv hxw q7).trans ((tst_same e7).trans (tst_eqv (e7 _ _ hxw2) q8)))
          have st := same_new (o := .tup [.int g, .int z]) ht
          have ra8 := st _ _ (k58 _ _ hww ra5')
          have hrl : racc.length = d := by rw [Paired.len ra2]; exact g6
          refine ⟨row, racc, _, rfl, rfl, ra8, small1000 (by omega), ?_⟩
          have t9 := tst_lst (o := .lst (racc ++ [.ref t])) ra8
          have t48 := (t45.trans t58).trans (tst_same st)
          have tt := t48.trans t9
          refine ⟨same_upd' (same_tr E8 st) hw00, (p8.le (by omega)).keep fun u z => by rw [upd_ne hww.symm]; exact st _ _ z, g3.keep StV.mo tt fun u z => by rw [upd_ne hwT.symm]; exact st _ _ (k58 _ _ hTw (k45 _ _ hTw z)), g4.keep RowV.mo tt fun u z => by rw [upd_ne hwr.symm]; exact st _ _ (k58 _ _ hrw (k45 _ _ hrw z)), ⟨ro ++ [(g, z')], ?_, by rw [List.length_append, g6]; rfl, fun c hc => ?_⟩, _, _, rfl⟩
          · exact LV.snoc PV.mo ra8 (Paired.imp (fun _ _ r => PV.mo.ap t48 r) ra2) ⟨t, rfl, by rw [upd_same, ez]⟩
          · rcases List.mem_append.mp hc with hc | hc
            · exact g7 c hc
            · have : c = (g, z') := by simpa using hc
              subst this
              exact ⟨hgD, hz'⟩
      · obtain ⟨g1, g2, g3, g4, ⟨ro, g5, g6, g7⟩, z11, z18, rfl⟩ := h
        obtain ⟨sacc, sa1, sa2⟩ := g4
        obtain ⟨racc, ra1, ra2⟩ := g5
        refine ⟨_, rfl, .inl ⟨rfl, _, isLst sa1⟩, _, rfl, row, racc, rfl, .inl ⟨isLst ra1, fun l hl => ?_⟩⟩
        have sl : Same H4 (upd H4 l (.tup racc)) := same_new hl
        have sa3 := sl _ _ sa1
        have hsl : sacc.length = s := by rw [Paired.len sa2]; exact f5
        refine ⟨rows, sacc, _, rfl, rfl, sa3, small1000 (by omega), ?_⟩
        have t8 := tst_lst (o := .lst (sacc ++ [.ref l])) sa3
        have tt := (tst_same sl).trans t8
        refine ⟨same_upd' (same_tr g1 sl) hr00, (g2.le (by omega)).keep fun u z => by rw [upd_ne hrw.symm]; exact sl _ _ z, g3.keep StV.mo tt fun u z => by rw [upd_ne hrT.symm]; exact sl _ _ z, ⟨st ++ [ro], ?_, by rw [List.length_append, f5]; rfl, fun x hx => ?_⟩, _, _, _, _, rfl⟩
        · exact LV.snoc RowV.mo sa3 (Paired.imp (fun _ _ r => RowV.mo.ap (tst_same sl) r) sa2) ⟨l, racc, rfl, upd_same, Paired.imp (fun _ _ r => PV.mo.ap (tst_same sl) r) ra2⟩
        · rcases List.mem_append.mp hx with hx | hx
          · exact f6 x hx
          · have : x = ro := by simpa using hx
            subst this
            exact ⟨g6, g7⟩
    · obtain ⟨f1, f2, f3, ⟨st, f4, f5, f6⟩, z10, z11, z17, z18, rfl⟩ := h
      obtain ⟨tacc, ta1, ta2⟩ := f3
      obtain ⟨sacc, sa1, sa2⟩ := f4
      refine ⟨_, rfl, .inl ⟨rfl, _, isLst ta1⟩, _, rfl, rows, sacc, rfl, .inl ⟨isLst sa1, fun l hl => ?_⟩⟩
      have sl : Same H3 (upd H3 l (.tup sacc)) := same_new hl
      have ta3 := sl _ _ ta1
      have htl : tacc.length = i := by rw [Paired.len ta2]; exact hRl
      refine ⟨T, tacc, _, rfl, rfl, ta3, small1000 (by omega), ?_⟩
      refine ⟨same_upd' (same_tr f1 sl) hT, ⟨R ++ [st], ?_, by rw [List.length_append, hRl]; rfl, fun x hx => ?_⟩, _, _, _, _, _, _, _, rfl⟩
      · exact LV.snoc StV.mo ta3 (Paired.imp (fun _ _ r => StV.mo.ap (tst_same sl) r) ta2) ⟨l, sacc, rfl, upd_same, Paired.imp (fun _ _ r => RowV.mo.ap (tst_same sl) r) sa2⟩
      · rcases List.mem_append.mp hx with hx | hx
        · exact hR x hx
        · have : x = st := by simpa using hx
          subst this
          exact ⟨f5, f6⟩
  · obtain ⟨e1, ⟨R, hT1, hRl, hR⟩, y10, y11, y14, y15, y16, y17, y18, rfl⟩ := h
    have hRl' : R.length = 1 + r1 := by omega
    obtain ⟨acc, hA, hP⟩ := hT1
    refine ⟨_, rfl, _, rfl, _, rfl, T, acc, rfl, .inl ⟨isLst hA, fun l hl => ⟨by show 3 ≤ sizeLine; decide, fun rr hrr => ?_⟩⟩⟩
    have j1 : Same H1 (upd H1 l (.tup acc)) := same_new hl
    have j2 := same_new (o := .tup [.int S, .int D, .ref l]) hrr
    have j := same_tr j1 j2
    refine q _ _ R (EB.tr (.of (same_tr e1 j))) (pB'.keep fun u z => j _ _ (e1 _ _ z)) ⟨rr, .ref l, rfl, upd_same, l, acc, rfl, j2 _ _ upd_same, Paired.imp (fun _ _ r => StV.mo.ap (tst_same j) r) hP⟩ ⟨by omega, fun x hx => ?_⟩ (by omega)
    rw [hRl']
    exact hR x hx
end
end Wa
namespace Wa
open PySem PySem.Spec PyProof.Rows L2 Wx Wk Wz Wc RZ NdefX LamX
/-! ### data that == goes through -/
def OkD (n : Nat) (d : PyData) : Prop := d.canLay0 = true ∧ d.depth ≤ n
theorem OkD.shaped {n : Nat} {d : PyData} (h : OkD n d) (hn : n ≤ 64) : SeqAt.shaped d = true := by
  unfold SeqAt.shaped
  rw [h.1, Bool.true_and]
  exact decide_eq_true (Nat.le_trans h.2 hn)
theorem okAll {α : Type} {f : α → PyData} {n : Nat} (h : ∀ x, OkD n (f x)) : ∀ xs : List α, PyData.canLayAll0 (xs.map f) = true ∧ PyData.depthAll (xs.map f) ≤ n
  | [] => ⟨rfl, Nat.zero_le _⟩
  | x :: r => by
    obtain ⟨a, b⟩ := okAll h r
    obtain ⟨c, d⟩ := h x
    rw [List.map_cons, PyData.canLayAll0, PyData.depthAll, a, c]
    exact ⟨rfl, Nat.max_le.mpr ⟨d, b⟩⟩
theorem ok_tup {α : Type} {f : α → PyData} {n : Nat} (h : ∀ x, OkD n (f x)) (xs : List α) : OkD (n + 1) (.tuple (xs.map f)) := by
  obtain ⟨a, b⟩ := okAll h xs
  refine ⟨by rw [PyData.canLay0]; exact a, ?_⟩
  rw [PyData.depth]
  omega
theorem ok_lst {α : Type} {f : α → PyData} {n : Nat} (h : ∀ x, OkD n (f x)) (xs : List α) : OkD (n + 1) (.list (xs.map f)) := by
  obtain ⟨a, b⟩ := okAll h xs
  refine ⟨by rw [PyData.canLay0]; exact a, ?_⟩
  rw [PyData.depth]
  omega
def pdP (p : Nat × Nat) : PyData := .tuple [.int p.1, .int p.2]
theorem ok_pd (p : Nat × Nat) : OkD 1 (pdP p) := ⟨rfl, Nat.le_of_eq rfl⟩
theorem dp_pd {K : PySem.W.Frag} {H : Hp} {v : V} {p : Nat × Nat} (h : PV H v p) : Dp K H v (pdP p) := by
  obtain ⟨a, rfl, ha⟩ := h
  exact .tup (isTup ha) (.cons (.int _) (.cons (.int _) .nil))
theorem dp_all {β : Type} {R : Hp → V → β → Prop} {f : β → PyData} {K : PySem.W.Frag} {H : Hp} (h : ∀ v x, R H v x → Dp K H v (f x)) : ∀ {vs : List V} {xs : List β}, Paired (R H) vs xs → DpAll K H vs (xs.map f)
  | _, _, .nil => .nil
  | _, _, .cons r t => .cons (h _ _ r) (dp_all h t)
theorem dp_tp {β : Type} {R : Hp → V → β → Prop} {f : β → PyData} {K : PySem.W.Frag} {H : Hp} (h : ∀ v x, R H v x → Dp K H v (f x)) {v : V} {xs : List β} (t : Tp R H v xs) : Dp K H v (.tuple (xs.map f)) := by
  obtain ⟨a, vs, rfl, ha, hp⟩ := t
  exact .tup (isTup ha) (dp_all h hp)
def pdRun (run : List (Nat × Nat)) : PyData := .tuple (run.map pdP)
theorem ok_run (run : List (Nat × Nat)) : OkD 2 (pdRun run) := ok_tup ok_pd run
theorem dp_run {K : PySem.W.Frag} {H : Hp} {v : V} {run : List (Nat × Nat)} (h : RunV H v run) : Dp K H v (pdRun run) := dp_tp (fun _ _ r => dp_pd r) h
def pdSt (st : List (List (Nat × Nat))) : PyData := .tuple (st.map pdRun)
def pdSts (w : Wr.Tab) : PyData := .tuple (w.map pdSt)
theorem ok_sts (w : Wr.Tab) : OkD 4 (pdSts w) := ok_tup (fun st => ok_tup ok_run st) w
theorem dp_sts {K : PySem.W.Frag} {H : Hp} {v : V} {w : Wr.Tab} (h : StsV H v w) : Dp K H v (pdSts w) := dp_tp (fun _ _ r => dp_tp (fun _ _ r => dp_run r) r) h
def pdW (S D : Nat) (w : Wr.Tab) : PyData := .tuple [.int S, .int D, pdSts w]
theorem ok_w (S D : Nat) (w : Wr.Tab) : OkD 5 (pdW S D w) := by
  obtain ⟨a, b⟩ := ok_sts w
  refine ⟨?_, ?_⟩
  · unfold pdW
    simp only [PyData.canLay0, PyData.canLayAll0, a, Bool.and_true]
  · unfold pdW
    simp only [PyData.depth, PyData.depthAll]
    omega
theorem dp_w {K : PySem.W.Frag} {H : Hp} {v : V} {S D : Nat} {w : Wr.Tab} (h : WatV S D H v w) : Dp K H v (pdW S D w) := by
  obtain ⟨a, x, rfl, ha, hx⟩ := h
  exact .tup (isTup ha) (.cons (.int _) (.cons (.int _) (.cons (dp_sts hx) .nil)))
/-- x != y, the same data -/
theorem ne_same {K : PySem.W.Frag} {H : Hp} {x y : V} {d : PyData} {n : Nat} {Q : VK} (h : OkD n d) (hn : n ≤ 64) (hx : Dp K H x d) (hy : Dp K H y d) (q : Q (.bl false) H) : rNeD K x y H Q := by
  refine ⟨d, d, hx, hy, h.shaped hn, h.shaped hn, ?_⟩
  rw [SeqAt.eqv_refl d h.1]
  exact q
theorem eq_same {K : PySem.W.Frag} {H : Hp} {x y : V} {d : PyData} {n : Nat} {Q : VK} (h : OkD n d) (hn : n ≤ 64) (hx : Dp K H x d) (hy : Dp K H y d) (q : Q (.bl true) H) : rEqD K x y H Q := by
  refine ⟨d, d, hx, hy, h.shaped hn, h.shaped hn, ?_⟩
  rw [SeqAt.eqv_refl d h.1]
  exact q
end Wa
namespace Wa
open PySem PySem.Spec PyProof.Rows L2 Wx Wk Wz Wc RZ NdefX LamX
theorem has_key {kvs : List (List Key × V)} {ps : List (Nat × Nat)} (h : kvs.map (·.1) = ps.map kp) {q : Nat × Nat} (hq : q ∈ ps) : (valV kvs (kp q)).isSome = true := by
  rw [← valV_any, List.any_eq_true]
  have : kp q ∈ kvs.map (·.1) := by rw [h]; exact List.mem_map.mpr ⟨q, hq, rfl⟩
  obtain ⟨kv, h1, h2⟩ := List.mem_map.mp this
  exact ⟨kv, h1, decide_eq_true h2⟩
theorem no_key {kvs : List (List Key × V)} {ps : List (Nat × Nat)} (h : kvs.map (·.1) = ps.map kp) {q : Nat × Nat} (hq : q ∉ ps) : valV kvs (kp q) = none := by
  cases e : valV kvs (kp q) with
  | none => rfl
  | some v =>
    exfalso
    have h1 : (kvs.any fun kv => decide (kv.1 = kp q)) = true := by rw [valV_any, e]; rfl
    obtain ⟨kv, h2, h3⟩ := List.any_eq_true.mp h1
    have : kp q ∈ kvs.map (·.1) := List.mem_map.mpr ⟨kv, h2, of_decide_eq_true h3⟩
    rw [h] at this
    obtain ⟨p, hp, e⟩ := List.mem_map.mp this
    exact hq (kp_inj e ▸ hp)
theorem refs_pv {H : Hp} : ∀ {bs : List Addr} {ps : List (Nat × Nat)}, Paired (fun (b : Addr) (z : Int × Int) => H b = some (.tup [.int z.1, .int z.2])) bs (ps.map toI) → Paired (PV H) (bs.map V.ref) ps
  | [], [], _ => .nil
  | [], _ :: _, h => by cases h
  | _ :: _, [], h => by cases h
  | _ :: _, _ :: _, .cons r t => .cons ⟨_, rfl, r⟩ (refs_pv t)
section
variable {P : Program} {w : World} {K : PySem.W.Frag} {mg : Str → Option Value} {base : Heap}
def sp_law_sound_pairs : Sp := fun vs H Q _ => ∃ (S D : Nat) (sv wv pv : V) (R : Wr.Say) (x : Wr.Tab), vs = [sv, wv, pv] ∧ CntOk S D ∧ SayV S D H sv R ∧ SayOk S D R ∧ WatV S D H wv x ∧ Wr.TOk S D x ∧ x.length * R.length ≤ 1000 ∧ FoundV S D x R H pv ∧ ∀ H', Same H H' → Q (.bl true) H'
theorem cal_law_sound_pairs (T : Tx K mg) : Cal P w K mg base 2 "_law_sound_pairs" ["saying", "warden", "pairs"] sp_law_sound_pairs := by
  refine T.d_law_sound_pairs.cal sc_law_sound_pairs (fun _ _ _ _ _ _ us hl => match us, hl with | [_, _, _], _ => rfl) (fun vs H Q E h => ?_) fun f cdv A outer s H vs Q E hr h => ?_
  · obtain ⟨S, D, sv, wv, pv, R, x, rfl, _⟩ := h; rfl
  obtain ⟨S, D, sv, wv, pv, R, x, rfl, ⟨s1, s9, d1, d9⟩, hsv, hR, hwv, hx, hsz, ⟨ps, ⟨pa, pvs, rfl, hpa, hpp⟩, hsrt, hnd, hF⟩, q⟩ := h
  refine ⟨_, (pss_cons (ps_if (pt_not (pt_val (pe_callB call_isi (by rfl) T.z_isinstance boot_isinstance (pa_cons (pv 2) (pa_cons (pe_bltn (v := .ty "tuple") (by rfl) T.z_tuple boot_tuple rfl) pa_nil))))) (pss_one (ps_ret pe_bl)) pss_nil)
    (pss_cons (ps_set (i := 3) sc_law_sound_pairs.nd rfl (Or.inl rfl) pe_dnewT)
    (pss_cons (ps_for PassesOwn.never rfl (pi_tup (pv 2)) (pg_name (i := 4) sc_law_sound_pairs.nd rfl (Or.inl rfl))
      (pss_cons (ps_if (PW.pt (pw_or (pt_not (pt_val (pe_callB call_isi (by rfl) T.z_isinstance boot_isinstance (pa_cons (pv 4) (pa_cons (pe_bltn (v := .ty "tuple") (by rfl) T.z_tuple boot_tuple rfl) pa_nil))))) (pw_or (pt_cmpR op_ne (pe_callB call_len_seq (by rfl) T.z_len PySem.boot_len (pa_cons (pv 4) pa_nil)) pe_int (nomark _)) (pw_or (pt_not (pt_val (pe_cal (cal_law_whole T) (hr.mono (by decide)) (by rfl) (pa_cons (pe_ix ix_tup (pv 4) pe_int (fun _ _ => rfl)) pa_nil)))) (pw_or1 (pt_not (pt_val (pe_cal (cal_law_whole T) (hr.mono (by decide)) (by rfl) (pa_cons (pe_ix ix_tup (pv 4) pe_int (fun _ _ => rfl)) pa_nil))))))))) (pss_one (ps_ret pe_bl)) pss_nil)
    (pss_cons (ps_if (PW.pt (pw_or (pt_not (pt_chain op_le op_lt pe_int (pe_ix ix_tup (pv 4) pe_int (fun _ _ => rfl)) (pe_callB call_len_seq (by rfl) T.z_len PySem.boot_len (pa_cons (pe_ix ix_tup (pv 1) pe_int (fun _ _ => rfl)) pa_nil)))) (pw_or1 (pt_not (pt_chain op_le op_lt pe_int (pe_ix ix_tup (pv 4) pe_int (fun _ _ => rfl)) (pe_callB call_len_seq (by rfl) T.z_len PySem.boot_len (pa_cons (pe_ix ix_tup (pv 0) pe_int (fun _ _ => rfl)) pa_nil))))))) (pss_one (ps_ret pe_bl)) pss_nil)
    (pss_one (ps_dput (hu_of hr) (pv 3) (pv 4) pe_bl rfl)))))
    (pss_cons (ps_if (PW.pt (pw_or (pt_cmp (pc_dnotin (hu_of hr) (pe_tup (pa_cons pe_int (pa_cons pe_int pa_nil))) (pv 3)) (by with_unfolding_all rfl)) (pw_or1 (pt_cmpR (op_neD (Room.units hr)) (pe_callTy call_list_of (by rfl) T.z_list boot_list (pa_cons (pv 2) pa_nil)) (pe_callB (cr_sortK rfl) (by rfl) T.z_sorted boot_sorted (pa_cons (pe_bm0 PySem.F.plainAttrs_dict PySem.F.slot_dict_keys PySem.F.type_dict_keys mt_keysT (pv 3)) pa_nil)) (nomark _))))) (pss_one (ps_ret pe_bl)) pss_nil)
    (pss_cons (ps_for PassesOwn.never rfl (pi_tup (pv 2)) (pg_tup rfl (pgs_cons (pg_name (i := 5) sc_law_sound_pairs.nd rfl (Or.inl rfl)) (pgs_cons (pg_name (i := 6) sc_law_sound_pairs.nd rfl (Or.inl rfl)) pgs_nil)))
      (pss_one (ps_for PassesOwn.never rfl (pi_range1 (by rfl) T.z_range (pa_cons (pe_ix ix_tup (pv 0) pe_int (fun _ _ => rfl)) pa_nil)) (pg_name (i := 7) sc_law_sound_pairs.nd rfl (Or.inl rfl))
      (pss_one (ps_for PassesOwn.never rfl (pi_range1 (by rfl) T.z_range (pa_cons (pe_ix ix_tup (pv 0) pe_int (fun _ _ => rfl)) pa_nil)) (pg_name (i := 8) sc_law_sound_pairs.nd rfl (Or.inl rfl))
      (pss_cons (ps_asg (pe_ix ix_tup (pe_ix ix_tup (pe_ix ix_tup (pe_ix ix_tup (pv 1) pe_int (fun _ _ => rfl)) (pv 5) (fun _ _ => rfl)) (pv 7) (fun _ _ => rfl)) (pv 8) (fun _ _ => rfl)) (pg_tup rfl (pgs_cons (pg_name (i := 9) sc_law_sound_pairs.nd rfl (Or.inl rfl)) (pgs_cons (pg_name (i := 10) sc_law_sound_pairs.nd rfl (Or.inl rfl)) pgs_nil))))
    (pss_one (ps_if (pt_cmp (pc_dnotin (hu_of hr) (pe_tup (pa_cons (pv 10) (pa_cons (pe_ix ix_tup (pe_ix ix_tup (pe_ix ix_tup (pe_ix ix_tup (pv 0) pe_int (fun _ _ => rfl)) (pv 6) (fun _ _ => rfl)) (pv 7) (fun _ _ => rfl)) (pv 9) (fun _ _ => rfl)) pa_nil))) (pv 3)) (by with_unfolding_all rfl)) (pss_one (ps_ret pe_bl)) pss_nil))))))))
    (pss_one (ps_ret pe_bl))))))), ?_⟩
  obtain ⟨wa, wx, rfl, hwa, wb, wsts, rfl, hwb, hwp⟩ := id hwv
  obtain ⟨sa, sx, rfl, hsa, sb, srs, rfl, hsb, hsp⟩ := id hsv
  have hwl : wsts.length = x.length := Paired.len hwp
  have hsl : srs.length = R.length := Paired.len hsp
  have hpl : ps.length ≤ x.length * R.length := Wr.pairs_len hnd hF.lt
  have hpvl : pvs.length = ps.length := Paired.len hpp
  refine ⟨_, rfl, .ref pa, .ty "tuple", .type "tuple", .type "tuple", true, rfl, .ty _, .base (.tup hpa), kit_ty (by decide +kernel), true, rfl, iteF ?_⟩
  intro am ham
  have e0 : Same H (upd H am (.dT [])) := same_new ham
  refine ⟨_, rfl, pa, rfl, ⟨_, isTup (e0 _ _ hpa)⟩, for_tup (xs := pvs) (fun i σ H1 => Same H H1 ∧ (∃ kvs, H1 am = some (.dT kvs) ∧ kvs.map (·.1) = (ps.take i).map kp) ∧ ∃ y4, σ = [some (.ref sa), some (.ref wa), some (.ref pa), some (.ref am), y4, none, none, none, none, none, none])
    ⟨e0, ⟨[], upd_same, rfl⟩, _, rfl⟩ (fun i σ H1 _ h => isTup (h.1 _ _ hpa)) (fun i u σ H1 hu h => ?_) (fun σ H1 h => ?_)⟩
  · obtain ⟨e1, ⟨kvs, hk1, hk2⟩, y4, rfl⟩ := h
    obtain ⟨p, hp, b, rfl, hb⟩ := Paired.at' hpp hu
    have hb1 := e1 _ _ hb
    obtain ⟨l1, l2⟩ := hF.lt p (List.mem_of_getElem? hp)
    refine ⟨_, rfl, .ref b, .ty "tuple", .type "tuple", .type "tuple", true, rfl, .ty _, .base (.tup hb1), kit_ty (by decide +kernel), true, rfl, iteF ?_⟩
    refine ⟨_, rfl, b, _, rfl, .inr (isTup hb1), rfl, false, rfl, iteF ?_⟩
    refine ⟨_, rfl, b, _, (0 : Nat), _, rfl, rfl, isTup hb1, atI_nat rfl, _, rfl, true, rfl, iteF ?_⟩
    refine ⟨_, rfl, b, _, (1 : Nat), _, rfl, rfl, isTup hb1, atI_nat rfl, _, rfl, true, rfl, iteF ?_⟩
    refine ⟨_, rfl, b, _, (0 : Nat), _, rfl, rfl, isTup hb1, atI_nat rfl, _, _, rfl, rfl, true, congrArg V.bl (decide_eq_true (by omega)), iteT ⟨_, rfl, wa, _, (2 : Nat), _, rfl, rfl, isTup (e1 _ _ hwa), atI_nat rfl, wb, wsts, rfl, .inr (isTup (e1 _ _ hwb)), _, _, rfl, rfl, true, congrArg V.bl (decide_eq_true (by omega)), iteF ?_⟩⟩
    refine ⟨_, rfl, b, _, (1 : Nat), _, rfl, rfl, isTup hb1, atI_nat rfl, _, _, rfl, rfl, true, congrArg V.bl (decide_eq_true (by omega)), iteT ⟨_, rfl, sa, _, (2 : Nat), _, rfl, rfl, isTup (e1 _ _ hsa), atI_nat rfl, sb, srs, rfl, .inr (isTup (e1 _ _ hsb)), _, _, rfl, rfl, true, congrArg V.bl (decide_eq_true (by omega)), iteF ?_⟩⟩
    have hlk : kvs.length = (ps.take i).length := by
      have := congrArg List.length hk2
      simpa using this
    have hnot : p ∉ ps.take i := fun hin => by
      obtain ⟨j, hj⟩ := List.mem_iff_getElem?.mp hin
      have hj2 : j < i := by
        have := (List.getElem?_eq_some_iff.mp hj).1
        rw [List.length_take] at this
        omega
      rw [List.getElem?_take_of_lt hj2] at hj
      have n1 := Wr.num_at hnd hj
      have n2 := Wr.num_at hnd hp
      omega
    refine ⟨_, rfl, _, rfl, am, _, rfl, DPut.t (k := kp p) hk1 hb1 (small1000 (by rw [hlk, List.length_take]; omega)), same_upd' e1 ham, ⟨_, upd_same, ?_⟩, _, rfl⟩
    rw [putK_new _ (no_key hk2 hnot), List.map_append, hk2, List.take_add_one, hp, List.map_append]
    rfl
  · obtain ⟨e1, ⟨kvs, hk1, hk2⟩, y4, rfl⟩ := h
    rw [List.take_of_length_le (by omega)] at hk2
    -- (0, 0) in among
    refine ⟨by show 2 ≤ sizeLine; decide, fun t ht => ?_⟩
    have e2 := same_new (o := .tup [.int 0, .int 0]) ht
    refine ⟨_, rfl, am, _, rfl, DGet.t (k := kp (0, 0)) (e2 _ _ hk1) upd_same, false, by rw [has_key hk2 hF.zero]; rfl, iteF ?_⟩
    -- list(pairs) != sorted(among.keys())
    refine ⟨_, rfl, pa, pvs, rfl, .inr (isTup (e2 _ _ (e1 _ _ hpa))), fun l1 hl1 => ?_⟩
    have e3 := same_new (o := .lst pvs) hl1
    have hk3 := e3 _ _ (e2 _ _ hk1)
    refine ⟨_, rfl, .inr (.inr (.inl ⟨rfl, .inr ⟨_, hk3⟩⟩)), am, kvs, rfl, rfl, hk3, fun kv hkv => ?_⟩
    have e4 := same_new (o := keysO kv am) hkv
    have hmap : kvs.map (·.1) = (ps.map toI).map pairK := by
      rw [hk2, List.map_map]
      rfl
    refine ⟨kv, am, kvs, ps.map toI, rfl, upd_same, e4 _ _ hk3, hmap, hsrt, fun bs l2 hl2 hP => ?_⟩
    have e5 := same_new (o := .lst (bs.map V.ref)) hl2
    have e15 := same_tr e2 (same_tr e3 (same_tr e4 e5))
    have E5 := same_tr e1 e15
    refine ne_same (d := .list (ps.map pdP)) (ok_lst ok_pd ps) (by decide) (.lst (isLst (e5 _ _ (e4 _ _ upd_same))) (dp_all (fun _ _ r => dp_pd r) (Paired.imp (fun _ _ r => PV.mo.ap (tst_same E5) r) hpp))) (.lst (isLst upd_same) (dp_all (R := PV) (fun _ _ r => dp_pd r) (refs_pv (Paired.imp (fun _ _ r => e5 _ _ r) hP)))) ⟨false, rfl, iteF ?_⟩
    have hk5 := e15 _ _ hk1
    clear hP hk3 e2 e3 e4 e5 e15
    have step : ∀ (H6 : Hp), Same H H6 → ∀ (p : Nat × Nat) (s d : Nat), p ∈ ps → s < S → d < D → ∃ (b1 c e g c' e' : Addr) (sts rows cells rs rows' cells' : List V) (r' : Nat), b1 = wb ∧ H6 wa = some (.tup [.int S, .int D, .ref b1]) ∧ H6 b1 = some (.tup sts) ∧ sts[p.1]? = some (.ref c) ∧ H6 c = some (.tup rows) ∧ rows[s]? = some (.ref e) ∧ H6 e = some (.tup cells) ∧ cells[d]? = some (.ref g) ∧
        H6 g = some (.tup [.int (Wr.cell x p.1 s d).1, .int (Wr.cell x p.1 s d).2]) ∧ H6 sa = some (.tup [.int S, .int D, .ref sb]) ∧ H6 sb = some (.tup rs) ∧ rs[p.2]? = some (.ref c') ∧ H6 c' = some (.tup rows') ∧ rows'[s]? = some (.ref e') ∧ H6 e' = some (.tup cells') ∧ cells'[(Wr.cell x p.1 s d).1]? = some (.int r') ∧ ((Wr.cell x p.1 s d).2, r') ∈ ps := fun H6 e6 p s d hp hs hd => by
      obtain ⟨l1, l2⟩ := hF.lt p hp
      obtain ⟨st1, st2⟩ := hF.step p hp (s, d) (Wr.mem_allS.mpr ⟨hs, hd⟩)
      obtain ⟨a, b1, c, e, g, sts, rows, cells, ea, h1, h2, g1, h3, g2, h4, g3, h5, m1, m2⟩ := wat_cell (WatV.mo.ap (tst_same e6) hwv) hx l1 hs hd
      cases ea
      have hwa6 := e6 _ _ hwa
      rw [h1] at hwa6
      cases hwa6
      obtain ⟨X, Y, j1, j2, j3⟩ := say_get hR l2 hs m1
      obtain ⟨a', b', c', e', rs', rows', cells', u', q1, k1, k2, x1, k3, x2, k4, x3, hu⟩ := say_cell (SayV.mo.ap (tst_same e6) hsv) j1 j2 j3
      cases q1
      have hsa6 := e6 _ _ hsa
      rw [k1] at hsa6
      cases hsa6
      rw [st1] at hu
      cases (show u' = .int (Wr.nxtP x R p (s, d)).2 from hu)
      exact ⟨_, c, e, g, c', e', sts, rows, cells, rs', rows', cells', _, rfl, h1, h2, g1, h3, g2, h4, g3, h5, k1, k2, x1, k3, x2, k4, x3, st2⟩
    refine ⟨_, rfl, pa, rfl, ⟨_, isTup (E5 _ _ hpa)⟩, for_tup (xs := pvs) (fun i σ H6 => Same H H6 ∧ H6 am = some (.dT kvs) ∧ ∃ y5 y6 y7 y8 y9 y10, σ = [some (.ref sa), some (.ref wa), some (.ref pa), some (.ref am), y4, y5, y6, y7, y8, y9, y10])
      ⟨E5, hk5, _, _, _, _, _, _, rfl⟩ (fun i σ H6 _ h => isTup (h.1 _ _ hpa)) (fun i u σ H6 hu h => ?_) (fun σ H6 h => ?_)⟩
    · obtain ⟨e6, hk6, y5, y6, y7, y8, y9, y10, rfl⟩ := h
      obtain ⟨p, hp, b, rfl, hb⟩ := Paired.at' hpp hu
      have hpm := List.mem_of_getElem? hp
      refine ⟨b, _, rfl, isTup (e6 _ _ hb), rfl, _, _, rfl, _, _, rfl, rfl, ?_⟩
      refine ⟨_, rfl, sa, _, (0 : Nat), _, rfl, rfl, isTup (e6 _ _ hsa), atI_nat rfl, S, rfl, by omega, by omega, for_range (lo := 0) (n := S) (fun s σ H7 => Same H H7 ∧ H7 am = some (.dT kvs) ∧ ∃ y7 y8 y9 y10, σ = [some (.ref sa), some (.ref wa), some (.ref pa), some (.ref am), y4, some (.int p.1), some (.int p.2), y7, y8, y9, y10])
        ⟨e6, hk6, _, _, _, _, rfl⟩ (fun s σ H7 hs h => ?_) (fun σ H7 h => ?_)⟩
      · obtain ⟨e7, hk7, z7, z8, z9, z10, rfl⟩ := h
        refine ⟨_, rfl, sa, _, (1 : Nat), _, rfl, rfl, isTup (e7 _ _ hsa), atI_nat rfl, D, rfl, by omega, by omega, for_range (lo := 0) (n := D) (fun d σ H8 => Same H H8 ∧ H8 am = some (.dT kvs) ∧ ∃ y8 y9 y10, σ = [some (.ref sa), some (.ref wa), some (.ref pa), some (.ref am), y4, some (.int p.1), some (.int p.2), some (.int (0 + s)), y8, y9, y10])
          ⟨e7, hk7, _, _, _, rfl⟩ (fun d σ H8 hd h => ?_) (fun σ H8 h => ?_)⟩
        · obtain ⟨e8, hk8, w8, w9, w10, rfl⟩ := h
          obtain ⟨b1, c, e, g, c', e', sts, rows, cells, rs, rows', cells', r', rfl, h1, h2, g1, h3, g2, h4, g3, h5, k1, k2, x1, k3, x2, k4, x3, hin⟩ := step H8 e8 p s d hpm hs hd
          refine ⟨_, rfl, wa, _, (2 : Nat), _, rfl, rfl, isTup h1, atI_nat rfl, _, rfl, b1, _, (p.1 : Int), _, rfl, rfl, isTup h2, atI_nat g1, _, rfl, c, _, (0 + (s : Int)), _, rfl, rfl, isTup h3, by rw [Int.zero_add]; exact atI_nat g2, _, rfl, e, _, (0 + (d : Int)), _, rfl, rfl, isTup h4, by rw [Int.zero_add]; exact atI_nat g3, ?_⟩
          refine ⟨g, _, rfl, isTup h5, rfl, _, _, rfl, _, _, rfl, rfl, ?_⟩
          refine ⟨_, rfl, _, rfl, sa, _, (2 : Nat), _, rfl, rfl, isTup k1, atI_nat rfl, _, rfl, sb, _, (p.2 : Int), _, rfl, rfl, isTup k2, atI_nat x1, _, rfl, c', _, (0 + (s : Int)), _, rfl, rfl, isTup k3, by rw [Int.zero_add]; exact atI_nat x2, _, rfl, e', _, ((Wr.cell x p.1 s d).1 : Int), _, rfl, rfl, isTup k4, atI_nat x3, by show 2 ≤ sizeLine; decide, fun t2 ht2 => ?_⟩
          have e9 := same_new (o := .tup [.int (Wr.cell x p.1 s d).2, .int r']) ht2
          refine ⟨_, rfl, am, _, rfl, DGet.t (k := kp ((Wr.cell x p.1 s d).2, r')) (e9 _ _ hk8) upd_same, false, by rw [has_key hk2 hin]; rfl, iteF ?_⟩
          exact ⟨same_tr e8 e9, e9 _ _ hk8, _, _, _, rfl⟩
        · obtain ⟨e8, hk8, w8, w9, w10, rfl⟩ := h
          exact ⟨e8, hk8, _, _, _, _, rfl⟩
      · obtain ⟨e7, hk7, z7, z8, z9, z10, rfl⟩ := h
        exact ⟨e7, hk7, _, _, _, _, _, _, rfl⟩
    · obtain ⟨e6, hk6, y5, y6, y7, y8, y9, y10, rfl⟩ := h
      exact q _ e6
end
end Wa
namespace Wa
open PySem PySem.Spec PyProof.Rows L2 Wx Wk Wz Wc RZ NdefX LamX
/-! ### slices -/
theorem cut_take {xs : List V} (k : Nat) : cutV xs none (some (k : Int)) = xs.take k := by
  unfold cutV
  rw [HT.sIx_none, HT.sIx_nat, List.drop_zero, Nat.sub_zero, ← List.take_take, List.take_of_length_le (Nat.le_refl xs.length)]
theorem cut_drop {xs : List V} (k : Nat) : cutV xs (some (k : Int)) none = xs.drop k := by
  unfold cutV
  rw [HT.sIx_none, HT.sIx_nat]
  by_cases h : k ≤ xs.length
  · rw [Nat.min_eq_left h]
    exact List.take_of_length_le (by rw [List.length_drop]; exact Nat.le_refl _)
  · rw [Nat.min_eq_right (by omega), List.drop_of_length_le (Nat.le_refl _), List.drop_of_length_le (by omega), List.take_nil]
theorem sIx_last {n d : Nat} : HT.sIx n d (some (-1)) = n - 1 := by
  show (if (-1 : Int) < 0 then ((-1 : Int) + (n : Int)).toNat else min (-1 : Int).toNat n) = n - 1
  rw [if_pos (by decide)]
  omega
theorem cut_last {xs : List V} : cutV xs (some (-1)) none = xs.drop (xs.length - 1) := by
  unfold cutV
  rw [HT.sIx_none, sIx_last]
  exact List.take_of_length_le (by rw [List.length_drop]; exact Nat.le_refl _)
theorem cut_front {xs : List V} : cutV xs none (some (-1)) = xs.take (xs.length - 1) := by
  unfold cutV
  rw [HT.sIx_none, sIx_last, List.drop_zero, Nat.sub_zero]
theorem Paired.tk {α β : Type} {F : α → β → Prop} : ∀ {l : List α} {m : List β} (n : Nat), Paired F l m → Paired F (l.take n) (m.take n)
  | _, _, 0, _ => by rw [List.take_zero, List.take_zero]; exact .nil
  | _, _, n + 1, .nil => .nil
  | _, _, n + 1, .cons r t => .cons r (Paired.tk n t)
theorem Paired.dr {α β : Type} {F : α → β → Prop} : ∀ {l : List α} {m : List β} (n : Nat), Paired F l m → Paired F (l.drop n) (m.drop n)
  | _, _, 0, h => h
  | _, _, n + 1, .nil => .nil
  | _, _, n + 1, .cons r t => Paired.dr n t
theorem Paired.ap {α β : Type} {F : α → β → Prop} : ∀ {l l' : List α} {m m' : List β}, Paired F l m → Paired F l' m' → Paired F (l ++ l') (m ++ m')
  | _, _, _, _, .nil, h => h
  | _, _, _, _, .cons r t, h => .cons r (Paired.ap t h)
theorem cat_go {K : PySem.W.Frag} {H : Hp} {a b : Addr} {xs ys : List V} {Q : VK} (ha : H a = some (.tup xs)) (hb : H b = some (.tup ys)) (hz : xs.length + ys.length ≤ 1000) (q : ∀ H' p, Same H H' → H' p = some (.tup (xs ++ ys)) → Q (.ref p) H') : rCatA K (.ref a) (.ref b) H Q := by
  refine ⟨a, b, xs, ys, rfl, rfl, isTup ha, isTup hb, Nat.le_of_lt (small1000 hz), fun e => ?_, fun _ e => ?_, fun _ _ p hp => q _ p (same_new hp) upd_same⟩
  · subst e
    exact q H b same_rfl hb
  · subst e
    exact q H a same_rfl (by rw [List.append_nil]; exact ha)
section
variable {P : Program} {w : World} {K : PySem.W.Frag} {mg : Str → Option Value} {base : Heap} {P1 P2 : Addr}
theorem in_go {S D : Nat} {H : Hp} {t : Addr} {ws : List Wr.Tab} {Q : VK} (cnt : CntOk S D) (hr : RowAt S D H t ws) (hw : Wr.Rwc S D ws) (hT : TabsN (TT P1 P2) H) (q : ∀ H' v, Ext H H' → TabsN (TT P1 P2) H' → WatV S D H' v (Wr.rowOf S D ws) → Q v H') : sp_in_a_row P1 P2 [.ref t] H Q E0 :=
  ⟨S, D, t, ws, rfl, cnt, hr, hw.ok, hw.l1, hw.l4, hw.pr, hT, q⟩
/-- what the law's end carries -/
structure Car (P1 P2 : Addr) (S D : Nat) (L : Addr) (ws : List Wr.Tab) (rv : V) (H : Hp) : Prop where
  wl : LV (WatV S D) H L ws
  row : WatV S D H rv (Wr.rowOf S D ws)
  tabs : TabsN (TT P1 P2) H
theorem Car.mo {S D : Nat} {L : Addr} {ws : List Wr.Tab} {rv : V} {H H' : Hp} (C : Car P1 P2 S D L ws rv H) (e : Ext H H') (t : TabsN (TT P1 P2) H') : Car P1 P2 S D L ws rv H' :=
  ⟨C.wl.keep WatV.mo (tst_ext e) fun u z => by
    obtain ⟨acc, h1, _⟩ := C.wl
    rw [h1] at z
    cases z
    exact e _ _ h1 (fun _ z => by cases z), WatV.mo.ap (tst_ext e) C.row, t⟩
theorem Car.same {S D : Nat} {L : Addr} {ws : List Wr.Tab} {rv : V} {H H' : Hp} (C : Car P1 P2 S D L ws rv H) (e : Same H H') : Car P1 P2 S D L ws rv H' := C.mo (ext_same e) (C.tabs.ext e)
/-- a new list and the tuple of it -/
theorem two_new {S D : Nat} {H : Hp} {p l : Addr} {xs : List V} {ws : List Wr.Tab} (hp : H p = none) (hl : (upd H p (.lst xs)) l = none) (h : Paired (WatV S D H) xs ws) : Same H (upd (upd H p (.lst xs)) l (.tup xs)) ∧ RowAt S D (upd (upd H p (.lst xs)) l (.tup xs)) l ws := by
  have s := same_tr (same_new (o := .lst xs) hp) (same_new (o := .tup xs) hl)
  exact ⟨s, xs, upd_same, Paired.imp (fun _ _ r => WatV.mo.ap (tst_same s) r) h⟩
theorem law_F (Y : Ty K mg base P1 P2) {f : Addr} {cdv : Value} {A : Around} {outer : List Env} {s : Shared} {H0 : Hp} {E : XK} (hr : Room 8 (A.deeper (envOfC "law" (defScope s_law) s.heap.objs.size f cdv))) :
    ∃ t, PSs (cxOf CX0 P w K mg base N_law "law" (defScope s_law) f cdv A outer s H0 E).nox ((defBody s_law).drop 19) t ∧
      ∀ {S D : Nat} {L : Addr} {ws : List Wr.Tab} {rv : V} {H : Hp} {Q : VK} {x0 x1 x5 x6 x8 x9 x10 x11 x12 x13 x14 x15 : Option V}, CntOk S D → Wr.Wd S D ws → Car P1 P2 S D L ws rv H → (∀ H', Q (.bl true) H') →
        t { nx := fun _ H' => Q .non H', rt := Q } [x0, x1, some (.int S), some (.int D), some (.ref L), x5, x6, some rv, x8, x9, x10, x11, x12, x13, x14, x15] H := by
  have T := Y.t
  refine ⟨_, (pss_cons (ps_set (i := 15) sc_law.nd rfl (Or.inl rfl) (pe_cal (cal_letting T) (hr.mono (by decide)) (by rfl) (pa_cons (pv 2) (pa_cons (pv 3) pa_nil))))
    (pss_one (ps_ret (pe_and (pe_cmpR (op_eqD (Room.units hr)) (pe_cal (cal_in_a_row Y) (hr.mono (by decide)) (by rfl) (pa_cons (pe_op op_catA (pe_tup (pa_cons (pv 15) pa_nil)) (pe_callTy call_tuple_of (by rfl) T.z_tuple boot_tuple (pa_cons (pv 4) pa_nil))) pa_nil)) (pv 7) (nomark _)) (pe_one (pe_cmpR (op_eqD (Room.units hr)) (pe_cal (cal_in_a_row Y) (hr.mono (by decide)) (by rfl) (pa_cons (pe_op op_catA (pe_callTy call_tuple_of (by rfl) T.z_tuple boot_tuple (pa_cons (pv 4) pa_nil)) (pe_tup (pa_cons (pv 15) pa_nil))) pa_nil)) (pv 7) (nomark _))))))), ?_⟩
  intro S D L ws rv H Q x0 x1 x5 x6 x8 x9 x10 x11 x12 x13 x14 x15 cnt W C q
  have hl1' := W.l1
  have hl3' := W.l3
  have hok := fun w hw => (W.ok w hw).1
  refine ⟨_, rfl, _, rfl, S, D, rfl, cnt, fun H1 cv e1 hcv => ?_⟩
  have C1 := C.same e1
  obtain ⟨wvs1, hA1, hP1⟩ := C1.wl
  have hlen1 : wvs1.length = ws.length := Paired.len hP1
  refine ⟨_, rfl, by show 1 ≤ sizeLine; decide, fun t1 ht1 => ?_⟩
  have s1 := same_new (o := .tup [cv]) ht1
  refine ⟨_, rfl, L, wvs1, rfl, .inl ⟨isLst (s1 _ _ hA1), fun l1 hl1 => ?_⟩⟩
  have s2 := same_new (o := .tup wvs1) hl1
  refine cat_go (s2 _ _ upd_same) upd_same (by show 1 + wvs1.length ≤ 1000; omega) fun H3 p3 e3 hp3 => ?_
  have s13 := same_tr s1 (same_tr s2 e3)
  have C3 := C1.same s13
  refine in_go cnt ⟨_, hp3, .cons (WatV.mo.ap (tst_same s13) hcv) (Paired.imp (fun _ _ r => WatV.mo.ap (tst_same s13) r) hP1)⟩ (Wr.calm_rwc1 W) C3.tabs fun H4 v4 e4 T4 hv4 => ?_
  have C4 := C3.mo e4 T4
  rw [show Wr.rowOf S D (Wr.calm S D :: ws) = Wr.rowOf S D ws from Wr.calm_front hok] at hv4
  refine ⟨_, rfl, eq_same (ok_w S D _) (by decide) (dp_w hv4) (dp_w C4.row) ⟨true, rfl, iteT ?_⟩⟩
  obtain ⟨wvs5, hA5, hP5⟩ := C4.wl
  have hlen5 : wvs5.length = ws.length := Paired.len hP5
  refine ⟨_, rfl, L, wvs5, rfl, .inl ⟨isLst hA5, fun l5 hl5 => ?_⟩⟩
  have s5 := same_new (o := .tup wvs5) hl5
  refine ⟨_, rfl, by show 1 ≤ sizeLine; decide, fun t6 ht6 => ?_⟩
  have s6 := same_new (o := .tup [cv]) ht6
  refine cat_go (s6 _ _ upd_same) upd_same (by show wvs5.length + 1 ≤ 1000; omega) fun H7 p7 e7 hp7 => ?_
  have s57 := same_tr s5 (same_tr s6 e7)
  have C7 := C4.same s57
  refine in_go cnt ⟨_, hp7, Paired.ap (Paired.imp (fun _ _ r => WatV.mo.ap (tst_same s57) r) hP5) (.cons (WatV.mo.ap ((tst_same s13).trans ((tst_ext e4).trans (tst_same s57))) hcv) .nil)⟩ (Wr.calm_rwc2 W) C7.tabs fun H8 v8 e8 T8 hv8 => ?_
  have C8 := C7.mo e8 T8
  rw [show Wr.rowOf S D (ws ++ [Wr.calm S D]) = Wr.rowOf S D ws from Wr.calm_back hok] at hv8
  exact ⟨_, rfl, eq_same (ok_w S D _) (by decide) (dp_w hv8) (dp_w C8.row) (q _)⟩
theorem law_D (Y : Ty K mg base P1 P2) {f : Addr} {cdv : Value} {A : Around} {outer : List Env} {s : Shared} {H0 : Hp} {E : XK} (hr : Room 8 (A.deeper (envOfC "law" (defScope s_law) s.heap.objs.size f cdv))) :
    ∃ t, PSs (cxOf CX0 P w K mg base N_law "law" (defScope s_law) f cdv A outer s H0 E).nox ((defBody s_law).drop 15) t ∧
      ∀ {S D : Nat} {L : Addr} {ws : List Wr.Tab} {rv : V} {H : Hp} {Q : VK} {x0 x1 x5 x6 x8 x9 x10 x11 x12 x13 x14 x15 : Option V}, CntOk S D → Wr.Wd S D ws → Car P1 P2 S D L ws rv H → (∀ H', Q (.bl true) H') →
        t { nx := fun _ H' => Q .non H', rt := Q } [x0, x1, some (.int S), some (.int D), some (.ref L), x5, x6, some rv, x8, x9, x10, x11, x12, x13, x14, x15] H := by
  have T := Y.t
  obtain ⟨tF, hPF, hQF⟩ := law_F Y hr (P := P) (w := w) (outer := outer) (H0 := H0) (E := E)
  refine ⟨_, (pss_cons (ps_set (i := 12) sc_law.nd rfl (Or.inl rfl) (pe_cal (cal_in_a_row Y) (hr.mono (by decide)) (by rfl) (pa_cons (pe_callTy call_tuple_of (by rfl) T.z_tuple boot_tuple (pa_cons (pe_slice sl_list (pv 4) po_none (po_some pe_int)) pa_nil)) pa_nil)))
    (pss_cons (ps_set (i := 13) sc_law.nd rfl (Or.inl rfl) (pe_cal (cal_in_a_row Y) (hr.mono (by decide)) (by rfl) (pa_cons (pe_callTy call_tuple_of (by rfl) T.z_tuple boot_tuple (pa_cons (pe_slice sl_list (pv 4) (po_some (pe_un un_neg pe_int)) po_none) pa_nil)) pa_nil)))
    (pss_cons (ps_if (PW.pt (pw_or (pt_cmpR (op_neD (Room.units hr)) (pe_cal (cal_in_a_row Y) (hr.mono (by decide)) (by rfl) (pa_cons (pe_op op_catA (pe_tup (pa_cons (pv 12) pa_nil)) (pe_callTy call_tuple_of (by rfl) T.z_tuple boot_tuple (pa_cons (pe_slice sl_list (pv 4) (po_some pe_int) po_none) pa_nil))) pa_nil)) (pv 7) (nomark _)) (pw_or1 (pt_cmpR (op_neD (Room.units hr)) (pe_cal (cal_in_a_row Y) (hr.mono (by decide)) (by rfl) (pa_cons (pe_op op_catA (pe_callTy call_tuple_of (by rfl) T.z_tuple boot_tuple (pa_cons (pe_slice sl_list (pv 4) po_none (po_some (pe_un un_neg pe_int))) pa_nil)) (pe_tup (pa_cons (pv 13) pa_nil))) pa_nil)) (pv 7) (nomark _))))) (pss_one (ps_ret pe_bl)) pss_nil)
    (pss_cons (ps_if (pt_cmpR op_eq (pe_callB call_len_seq (by rfl) T.z_len PySem.boot_len (pa_cons (pv 4) pa_nil)) pe_int (nomark _)) (pss_one (ps_for PassesOwn.never rfl (pi_list (pe_lst (pa_cons (pe_tup (pa_cons (pe_cal (cal_in_a_row Y) (hr.mono (by decide)) (by rfl) (pa_cons (pe_callTy call_tuple_of (by rfl) T.z_tuple boot_tuple (pa_cons (pe_slice sl_list (pv 4) po_none (po_some pe_int)) pa_nil)) pa_nil)) (pa_cons (pe_ix ix_list (pv 4) pe_int (fun _ _ => rfl)) pa_nil))) (pa_cons (pe_tup (pa_cons (pe_ix ix_list (pv 4) pe_int (fun _ _ => rfl)) (pa_cons (pe_cal (cal_in_a_row Y) (hr.mono (by decide)) (by rfl) (pa_cons (pe_callTy call_tuple_of (by rfl) T.z_tuple boot_tuple (pa_cons (pe_slice sl_list (pv 4) (po_some pe_int) po_none) pa_nil)) pa_nil)) pa_nil))) pa_nil)))) (pg_name (i := 14) sc_law.nd rfl (Or.inl rfl))
      (pss_one (ps_if (pt_cmpR (op_neD (Room.units hr)) (pe_cal (cal_in_a_row Y) (hr.mono (by decide)) (by rfl) (pa_cons (pv 14) pa_nil)) (pv 7) (nomark _)) (pss_one (ps_ret pe_bl)) pss_nil)))) pss_nil)
    hPF)))), ?_⟩
  intro S D L ws rv H Q x0 x1 x5 x6 x8 x9 x10 x11 x12 x13 x14 x15 cnt W C q
  have hl1' := W.l1
  have hl3' := W.l3
  -- first
  obtain ⟨wvs, hA, hP⟩ := C.wl
  have hlen : wvs.length = ws.length := Paired.len hP
  refine ⟨_, rfl, 1, rfl, L, wvs, rfl, isLst hA, fun p1 hp1 => ⟨p1, _, rfl, .inl ⟨isLst upd_same, fun l1 hl1 => ?_⟩⟩⟩
  obtain ⟨j1, r1⟩ := two_new (ws := ws.take 1) hp1 hl1 (by rw [show cutV wvs none (some 1) = wvs.take 1 from cut_take 1]; exact Paired.tk 1 hP)
  have C1 := C.same j1
  have W1 : Wr.Wd S D (ws.take 1) := W.sub (fun w hw => List.mem_of_mem_take hw) (by rw [List.length_take]; omega) (by rw [List.length_take]; omega)
  refine in_go cnt r1 W1.rwc C1.tabs fun H2 v2 e2 T2 hv2 => ?_
  have C2 := C1.mo e2 T2
  clear C1 j1 r1 C hA hP hp1 hl1 e2 T2
  -- last
  obtain ⟨wvs2, hA2, hP2⟩ := C2.wl
  have hlen2 : wvs2.length = ws.length := Paired.len hP2
  refine ⟨_, rfl, 1, rfl, _, rfl, L, wvs2, rfl, isLst hA2, fun p3 hp3 => ⟨p3, _, rfl, .inl ⟨isLst upd_same, fun l3 hl3 => ?_⟩⟩⟩
  obtain ⟨j3, r3⟩ := two_new (ws := ws.drop (ws.length - 1)) hp3 hl3 (by rw [show cutV wvs2 (some (-1)) none = wvs2.drop (wvs2.length - 1) from cut_last, hlen2]; exact Paired.dr _ hP2)
  have C3 := C2.same j3
  have W3 : Wr.Wd S D (ws.drop (ws.length - 1)) := W.sub (fun w hw => List.mem_of_mem_drop hw) (by rw [List.length_drop]; omega) (by rw [List.length_drop]; omega)
  refine in_go cnt r3 W3.rwc C3.tabs fun H4 v4 e4 T4 hv4 => ?_
  have C4 := C3.mo e4 T4
  have hv2' := WatV.mo.ap ((tst_same j3).trans (tst_ext e4)) hv2
  clear C3 j3 r3 C2 hA2 hP2 hp3 hl3 e4 T4 hv2
  -- in_a_row((first,) + tuple(wardens[1:])) != row
  refine ⟨_, rfl, by show 1 ≤ sizeLine; decide, fun t5 ht5 => ?_⟩
  have s5 := same_new (o := .tup [v2]) ht5
  have C5 := C4.same s5
  obtain ⟨wvs5, hA5, hP5⟩ := C5.wl
  refine ⟨_, rfl, 1, rfl, L, wvs5, rfl, isLst hA5, fun p6 hp6 => ⟨p6, _, rfl, .inl ⟨isLst upd_same, fun l6 hl6 => ?_⟩⟩⟩
  obtain ⟨j6, xs6, h6a, h6b⟩ := two_new (ws := ws.drop 1) hp6 hl6 (by rw [show cutV wvs5 (some 1) none = wvs5.drop 1 from cut_drop 1]; exact Paired.dr 1 hP5)
  have g6 := Wr.mid_go (pre := []) (mid := ws.take 1) (post := ws.drop 1) W (List.take_append_drop 1 ws) W1.l1
  have hl6' : xs6.length = ws.length - 1 := by rw [Paired.len h6b, List.length_drop]
  refine cat_go (j6 _ _ upd_same) h6a (by rw [hl6']; show 1 + (ws.length - 1) ≤ 1000; omega) fun H7 p7 e7 hp7 => ?_
  have t57 := (tst_same s5).trans (tst_same (same_tr j6 e7))
  have C7 := C5.same (same_tr j6 e7)
  refine in_go cnt ⟨_, hp7, .cons (WatV.mo.ap t57 hv2') (Paired.imp (fun _ _ r => WatV.mo.ap (tst_same e7) r) h6b)⟩ g6.1 C7.tabs fun H8 v8 e8 T8 hv8 => ?_
  have C8 := C7.mo e8 T8
  rw [show Wr.rowOf S D (Wr.rowOf S D (ws.take 1) :: ws.drop 1) = Wr.rowOf S D ws from g6.2] at hv8
  refine ⟨_, rfl, ne_same (ok_w S D _) (by decide) (dp_w hv8) (dp_w C8.row) ⟨false, rfl, iteF ?_⟩⟩
  have hv4' := WatV.mo.ap (t57.trans (tst_ext e8)) hv4
  clear C7 C5 C4 s5 hA5 hP5 hp6 hl6 j6 h6a h6b e7 hp7 t57 e8 T8 hv8 hv4 hv2' ht5
  -- in_a_row(tuple(wardens[:-1]) + (last,)) != row
  obtain ⟨wvs9, hA9, hP9⟩ := C8.wl
  have hlen9 : wvs9.length = ws.length := Paired.len hP9
  refine ⟨_, rfl, 1, rfl, _, rfl, L, wvs9, rfl, isLst hA9, fun p9 hp9 => ⟨p9, _, rfl, .inl ⟨isLst upd_same, fun l9 hl9 => ?_⟩⟩⟩
  obtain ⟨j9, xs9, h9a, h9b⟩ := two_new (ws := ws.take (ws.length - 1)) hp9 hl9 (by rw [show cutV wvs9 none (some (-1)) = wvs9.take (wvs9.length - 1) from cut_front, hlen9]; exact Paired.tk _ hP9)
  have C9 := C8.same j9
  refine ⟨_, rfl, by show 1 ≤ sizeLine; decide, fun t10 ht10 => ?_⟩
  have s10 := same_new (o := .tup [v4]) ht10
  have hl9' : xs9.length = ws.length - 1 := by rw [Paired.len h9b, List.length_take]; omega
  have g9 := Wr.mid_go (pre := ws.take (ws.length - 1)) (mid := ws.drop (ws.length - 1)) (post := []) W (by rw [List.append_nil]; exact List.take_append_drop _ ws) W3.l1
  refine cat_go (s10 _ _ h9a) upd_same (by rw [hl9']; show ws.length - 1 + 1 ≤ 1000; omega) fun H11 p11 e11 hp11 => ?_
  have t11 := (tst_same s10).trans (tst_same e11)
  have C11 := C9.same (same_tr s10 e11)
  refine in_go cnt ⟨_, hp11, Paired.ap (Paired.imp (fun _ _ r => WatV.mo.ap t11 r) h9b) (.cons (WatV.mo.ap ((tst_same j9).trans t11) hv4') .nil)⟩ g9.1 C11.tabs fun H12 v12 e12 T12 hv12 => ?_
  have C12 := C11.mo e12 T12
  rw [g9.2] at hv12
  refine ⟨_, rfl, ne_same (ok_w S D _) (by decide) (dp_w hv12) (dp_w C12.row) ⟨false, rfl, iteF ?_⟩⟩
  clear C11 C9 C8 hA9 hP9 hp9 hl9 j9 h9a h9b s10 ht10 e11 hp11 t11 e12 T12 hv12 hv4'
  -- the rows of three, either way grouped
  obtain ⟨wvs, hA, hP⟩ := C12.wl
  have hlen : wvs.length = ws.length := Paired.len hP
  refine ⟨_, rfl, L, wvs, rfl, .inl (isLst hA), rfl, _, rfl, ite2 (fun h3 => ?_) (fun _ => hQF cnt W C12 q)⟩
  have h3 : ws.length = 3 := by
    have := V.int.inj (of_decide_eq_true h3)
    omega
  obtain ⟨w0, w1, w2, rfl⟩ : ∃ w0 w1 w2, ws = [w0, w1, w2] := by
    match ws, h3 with
    | [a, b, c], _ => exact ⟨a, b, c, rfl⟩
  -- (in_a_row(tuple(wardens[:2])), wardens[2])
  refine ⟨_, rfl, 2, rfl, L, wvs, rfl, isLst hA, fun p1 hp1 => ⟨p1, _, rfl, .inl ⟨isLst upd_same, fun l1 hl1 => ?_⟩⟩⟩
  obtain ⟨j1, r1⟩ := two_new (ws := [w0, w1]) hp1 hl1 (by rw [show cutV wvs none (some 2) = wvs.take 2 from cut_take 2]; exact Paired.tk 2 hP)
  have C1 := C12.same j1
  have W12 : Wr.Wd S D [w0, w1] := W.sub (fun w hw => by simp at hw ⊢; rcases hw with h | h <;> simp [h]) (by show 1 ≤ 2; decide) (by show 2 ≤ 3; decide)
  have W23 : Wr.Wd S D [w1, w2] := W.sub (fun w hw => by simp at hw ⊢; rcases hw with h | h <;> simp [h]) (by show 1 ≤ 2; decide) (by show 2 ≤ 3; decide)
  refine in_go cnt r1 W12.rwc C1.tabs fun H2 v2 e2 T2 hv2 => ?_
  have C2 := C1.mo e2 T2
  obtain ⟨wvsB, hAB, hPB⟩ := C2.wl
  obtain ⟨u2, hu2, hw2⟩ := Paired.at (i := 2) hPB rfl
  refine ⟨_, rfl, L, wvsB, (2 : Nat), u2, rfl, rfl, isLst hAB, atI_nat hu2, by show 2 ≤ sizeLine; decide, fun t1 ht1 => ?_⟩
  have s3 := same_new (o := .tup [v2, u2]) ht1
  have C3 := C2.same s3
  have R1 : RowAt S D (upd H2 t1 (.tup [v2, u2])) t1 [Wr.rowOf S D [w0, w1], w2] := ⟨_, upd_same, .cons (WatV.mo.ap (tst_same s3) hv2) (.cons (WatV.mo.ap (tst_same s3) hw2) .nil)⟩
  -- (wardens[0], in_a_row(tuple(wardens[1:])))
  obtain ⟨wvsC, hAC, hPC⟩ := C3.wl
  obtain ⟨u0, hu0, hw0⟩ := Paired.at (i := 0) hPC rfl
  refine ⟨_, rfl, L, wvsC, (0 : Nat), u0, rfl, rfl, isLst hAC, atI_nat hu0, ?_⟩
  refine ⟨_, rfl, 1, rfl, L, wvsC, rfl, isLst hAC, fun p4 hp4 => ⟨p4, _, rfl, .inl ⟨isLst upd_same, fun l4 hl4 => ?_⟩⟩⟩
  obtain ⟨j4, r4⟩ := two_new (ws := [w1, w2]) hp4 hl4 (by rw [show cutV wvsC (some 1) none = wvsC.drop 1 from cut_drop 1]; exact Paired.dr 1 hPC)
  have C4 := C3.same j4
  refine in_go cnt r4 W23.rwc C4.tabs fun H5 v5 e5 T5 hv5 => ?_
  have C5 := C4.mo e5 T5
  have R1' := R1.mo ((tst_same j4).trans (tst_ext e5))
  refine ⟨by show 2 ≤ sizeLine; decide, fun t2 ht2 => ?_⟩
  have s6 := same_new (o := .tup [u0, v5]) ht2
  have C6 := C5.same s6
  have R2 : RowAt S D (upd H5 t2 (.tup [u0, v5])) t2 [w0, Wr.rowOf S D [w1, w2]] := ⟨_, upd_same, .cons (WatV.mo.ap ((tst_same j4).trans ((tst_ext e5).trans (tst_same s6))) hw0) (.cons (WatV.mo.ap (tst_same s6) hv5) .nil)⟩
  have R1'' := R1'.mo (tst_same s6)
  refine ⟨by show 2 ≤ sizeLine; decide, fun LL hLL => ?_⟩
  have s7 := same_new (o := .lst [.ref t1, .ref t2]) hLL
  have G1 := Wr.mid_go (pre := []) (mid := [w0, w1]) (post := [w2]) W rfl (by show 1 ≤ 2; decide)
  have G2 := Wr.mid_go (pre := [w0]) (mid := [w1, w2]) (post := []) W rfl (by show 1 ≤ 2; decide)
  refine ⟨LL, rfl, ⟨_, isLst upd_same⟩, for_list (xs := [.ref t1, .ref t2]) (fun i σ H9 => Car P1 P2 S D L [w0, w1, w2] rv H9 ∧ H9 LL = some (.lst [.ref t1, .ref t2]) ∧ RowAt S D H9 t1 [Wr.rowOf S D [w0, w1], w2] ∧ RowAt S D H9 t2 [w0, Wr.rowOf S D [w1, w2]] ∧ ∃ y12 y13 y14, σ = [x0, x1, some (.int S), some (.int D), some (.ref L), x5, x6, some rv, x8, x9, x10, x11, y12, y13, y14, x15])
    ⟨C6.same s7, upd_same, R1''.mo (tst_same s7), R2.mo (tst_same s7), _, _, _, rfl⟩ (fun i σ H9 _ h => isLst h.2.1) (fun i u σ H9 hu h => ?_) (fun σ H9 h => ?_)⟩
  · obtain ⟨c1, c2, c3, c4, y12, y13, y14, rfl⟩ := h
    match i, hu with
    | 0, hu =>
      cases hu
      refine ⟨_, rfl, ?_⟩
      refine in_go cnt c3 G1.1 c1.tabs fun H10 v10 e10 T10 hv10 => ?_
      have c5 := c1.mo e10 T10
      rw [show Wr.rowOf S D [Wr.rowOf S D [w0, w1], w2] = Wr.rowOf S D [w0, w1, w2] from G1.2] at hv10
      refine ⟨_, rfl, ne_same (ok_w S D _) (by decide) (dp_w hv10) (dp_w c5.row) ⟨false, rfl, iteF ?_⟩⟩
      exact ⟨c5, e10 _ _ c2 (fun _ z => by cases z), c3.mo (tst_ext e10), c4.mo (tst_ext e10), _, _, _, rfl⟩
    | 1, hu =>
      cases hu
      refine ⟨_, rfl, ?_⟩
      refine in_go cnt c4 G2.1 c1.tabs fun H10 v10 e10 T10 hv10 => ?_
      have c5 := c1.mo e10 T10
      rw [show Wr.rowOf S D [w0, Wr.rowOf S D [w1, w2]] = Wr.rowOf S D [w0, w1, w2] from G2.2] at hv10
      refine ⟨_, rfl, ne_same (ok_w S D _) (by decide) (dp_w hv10) (dp_w c5.row) ⟨false, rfl, iteF ?_⟩⟩
      exact ⟨c5, e10 _ _ c2 (fun _ z => by cases z), c3.mo (tst_ext e10), c4.mo (tst_ext e10), _, _, _, rfl⟩
    | i + 2, hu => simp at hu
  · obtain ⟨c1, c2, c3, c4, y12, y13, y14, rfl⟩ := h
    exact hQF cnt W c1 q
end
end Wa
namespace Wa
open PySem PySem.Spec PyProof.Rows L2 Wx Wk Wz Wc RZ NdefX LamX
theorem sql_ext {K : PySem.W.Frag} {H H' : Hp} {a : Addr} {xs : List V} (h : SqL K H a xs) (e : Ext H H') : SqL K H' a xs := by
  rcases h with h | h
  · refine .inl ?_
    rcases h with h | ⟨o, h⟩
    · exact .inl (e _ _ h (fun _ z => by cases z))
    · exact .inr ⟨o, e _ _ h (fun _ z => by cases z)⟩
  · exact .inr h
section
variable {P : Program} {w : World} {K : PySem.W.Frag} {mg : Str → Option Value} {base : Heap} {P1 P2 : Addr}
theorem law_C (Y : Ty K mg base P1 P2) {f : Addr} {cdv : Value} {A : Around} {outer : List Env} {s : Shared} {H0 : Hp} {E : XK} (hr : Room 8 (A.deeper (envOfC "law" (defScope s_law) s.heap.objs.size f cdv))) :
    ∃ t, PSs (cxOf CX0 P w K mg base N_law "law" (defScope s_law) f cdv A outer s H0 E).nox ((defBody s_law).drop 12) t ∧
      ∀ {S D : Nat} {L : Addr} {ws : List Wr.Tab} {rv sv : V} {R : Wr.Say} {G : Nat → Nat → Prop} {H : Hp} {Q : VK} {x0 x1 x5 x8 x9 x10 x11 x12 x13 x14 x15 : Option V}, CntOk S D → Wr.Wd S D ws → Car P1 P2 S D L ws rv H → SayV S D H sv R → SayOk S D R → R.length ≤ 4 → Wr.Sd S D (Wr.rowOf S D ws) R G → (∀ H', Q (.bl true) H') →
        t { nx := fun _ H' => Q .non H', rt := Q } [x0, x1, some (.int S), some (.int D), some (.ref L), x5, some sv, some rv, x8, x9, x10, x11, x12, x13, x14, x15] H := by
  have T := Y.t
  obtain ⟨tD, hPD, hQD⟩ := law_D Y hr (P := P) (w := w) (outer := outer) (H0 := H0) (E := E)
  refine ⟨_, (pss_cons (ps_set (i := 11) sc_law.nd rfl (Or.inl rfl) (pe_calD (cal_sound_or_breaks Y) (hr.mono (by decide)) (by rfl) (pa_cons (pv 6) (pa_cons (pv 7) pa_nil))))
    (pss_cons (ps_if (PW.pt (pw_or (pt_not (pt_val (pe_callB call_isi (by rfl) T.z_isinstance boot_isinstance (pa_cons (pv 11) (pa_cons (pe_bltn (v := .ty "tuple") (by rfl) T.z_tuple boot_tuple rfl) pa_nil))))) (pw_or (pt_cmpR op_ne (pe_callB call_len_seq (by rfl) T.z_len PySem.boot_len (pa_cons (pv 11) pa_nil)) pe_int (nomark _)) (pw_or1 (pt_cmpR op_ne (pe_ix ix_tup (pv 11) pe_int (fun _ _ => rfl)) pe_str (nomark _)))))) (pss_one (ps_ret pe_bl)) pss_nil)
    (pss_cons (ps_if (pt_not (pt_val (pe_cal (cal_law_sound_pairs T) (hr.mono (by decide)) (by rfl) (pa_cons (pv 6) (pa_cons (pv 7) (pa_cons (pe_ix ix_tup (pv 11) pe_int (fun _ _ => rfl)) pa_nil)))))) (pss_one (ps_ret pe_bl)) pss_nil)
    hPD))), ?_⟩
  intro S D L ws rv sv R G H Q x0 x1 x5 x8 x9 x10 x11 x12 x13 x14 x15 cnt W C hsv hR hR4 hG q
  obtain ⟨rok, r64⟩ := W.row
  have hsz : (Wr.rowOf S D ws).length * R.length ≤ 1000 := Nat.le_trans (Nat.mul_le_mul r64 hR4) (by decide)
  refine ⟨_, rfl, _, rfl, S, D, sv, rv, R, Wr.rowOf S D ws, G, rfl, cnt, hsv, hR, C.row, rok, Nat.le_trans r64 (by decide), hsz, hG, C.tabs, fun H1 p v e1 T1 hp hF => ?_⟩
  have C1 := C.mo e1 T1
  have hsv1 := SayV.mo.ap (tst_ext e1) hsv
  refine ⟨_, rfl, .ref p, .ty "tuple", .type "tuple", .type "tuple", true, rfl, .ty _, .base (.tup hp), kit_ty (by decide +kernel), true, rfl, iteF ?_⟩
  refine ⟨_, rfl, p, _, rfl, .inr (isTup hp), rfl, false, rfl, iteF ?_⟩
  refine ⟨_, rfl, p, _, (0 : Nat), _, rfl, rfl, isTup hp, atI_nat rfl, rfl, false, rfl, iteF ?_⟩
  refine ⟨_, rfl, _, rfl, _, rfl, p, _, (1 : Nat), v, rfl, rfl, isTup hp, atI_nat rfl, S, D, sv, rv, v, R, Wr.rowOf S D ws, rfl, cnt, hsv1, hR, C1.row, rok, hsz, hF, fun H2 e2 => ⟨true, rfl, iteF ?_⟩⟩
  exact hQD cnt W (C1.same e2) q
end
end Wa
namespace Wa
open PySem PySem.Spec PyProof.Rows L2 Wx Wk Wz Wc RZ NdefX LamX
section
variable {P : Program} {w : World} {K : PySem.W.Frag} {mg : Str → Option Value} {base : Heap} {P1 P2 : Addr}
theorem law_B (Y : Ty K mg base P1 P2) {f : Addr} {cdv : Value} {A : Around} {outer : List Env} {s : Shared} {H0 : Hp} {E : XK} (hr : Room 8 (A.deeper (envOfC "law" (defScope s_law) s.heap.objs.size f cdv))) :
    ∃ t, PSs (cxOf CX0 P w K mg base N_law "law" (defScope s_law) f cdv A outer s H0 E).nox ((defBody s_law).drop 6) t ∧
      ∀ {S D c : Nat} {a p L : Addr} {ns : List Int} {ws : List Wr.Tab} {sv : V} {R : Wr.Say} {Hb H : Hp} {Q : VK} {x5 x7 x8 x9 x10 x11 x12 x13 x14 x15 : Option V}, 1 ≤ S → S ≤ 3 → 1 ≤ D → D ≤ 3 → SqL K Hb a (ns.map V.int) → ns.length ≤ 63 → TabsN (TT P1 P2) Hb → Same Hb H → Hb p = none → Hb L = none → PotV c H p → c ≤ 1000 → L ≠ p →
        LV (WatV S D) H L ws → ws.length ≤ 2 → (∀ w ∈ ws, Wr.TOk S D w ∧ w.length ≤ 4) → SayV S D H sv R → SayOk S D R → R.length ≤ 4 → 0 ∈ Wr.keptL S D R → (∀ H', Q (.bl true) H') →
        t { nx := fun _ H' => Q .non H', rt := Q } [some (.ref a), some (.ref p), some (.int S), some (.int D), some (.ref L), x5, some sv, x7, x8, x9, x10, x11, x12, x13, x14, x15] H := by
  have T := Y.t
  obtain ⟨tC', hPC, hQC⟩ := law_C Y hr (P := P) (w := w) (outer := outer) (H0 := H0) (E := E)
  refine ⟨_, (pss_cons (ps_expr (pe_bm PySem.F.plainAttrs_list PySem.F.slot_list_append PySem.F.type_list_append mt_append (pv 4) (pa_cons (pe_cal (cal_law_keeping T) (hr.mono (by decide)) (by rfl) (pa_cons (pv 1) (pa_cons (pv 6) (pa_cons pe_non (pa_cons (pe_cal (cal_law_kept T) (hr.mono (by decide)) (by rfl) (pa_cons (pv 6) (pa_cons pe_non pa_nil))) pa_nil))))) pa_nil)))
    (pss_cons (ps_set (i := 7) sc_law.nd rfl (Or.inl rfl) (pe_cal (cal_in_a_row Y) (hr.mono (by decide)) (by rfl) (pa_cons (pe_callTy call_tuple_of (by rfl) T.z_tuple boot_tuple (pa_cons (pv 4) pa_nil)) pa_nil)))
    (pss_cons (ps_set (i := 8) sc_law.nd rfl (Or.inl rfl) (pe_cal (cal_law_run_on T) (hr.mono (by decide)) (by rfl) (pa_cons (pv 0) (pa_cons pe_int (pa_cons (pv 2) (pa_cons (pv 3) pa_nil))))))
    (pss_cons (ps_set (i := 9) sc_law.nd rfl (Or.inl rfl) (pv 8))
    (pss_cons (ps_for PassesOwn.never rfl (pi_list (pv 4)) (pg_name (i := 10) sc_law.nd rfl (Or.inl rfl))
      (pss_one (ps_set (i := 9) sc_law.nd rfl (Or.inl rfl) (pe_cal (cal_law_mended T) (hr.mono (by decide)) (by rfl) (pa_cons (pv 10) (pa_cons (pv 9) pa_nil))))))
    (pss_cons (ps_if (PW.pt (pw_or (pt_cmpR (op_neD (Room.units hr)) (pe_cal (cal_mended T) (hr.mono (by decide)) (by rfl) (pa_cons (pv 7) (pa_cons (pv 8) pa_nil))) (pv 9) (nomark _)) (pw_or1 (pt_cmpR (op_neD (Room.units hr)) (pe_cal (cal_law_mended T) (hr.mono (by decide)) (by rfl) (pa_cons (pv 7) (pa_cons (pv 8) pa_nil))) (pv 9) (nomark _))))) (pss_one (ps_ret pe_bl)) pss_nil)
    hPC)))))), ?_⟩
  intro S D c a p L ns ws sv R Hb H Q x5 x7 x8 x9 x10 x11 x12 x13 x14 x15 s1 s3 d1 d3 hS hn hTb e0 hp0 hL0 hpot hc hLp hwl hw2 hwok hsv hR hR4 hk0 q
  have cnt : CntOk S D := ⟨s1, by omega, d1, by omega⟩
  obtain ⟨acc, hA, hP⟩ := id hwl
  -- wardens.append(_law_keeping(..))
  refine ⟨_, rfl, .inl ⟨rfl, _, isLst hA⟩, _, rfl, _, rfl, _, rfl, S, D, sv, R, rfl, hsv, cnt, hR, fun H1 kl e1 hkl0 hkl => ?_⟩
  have hkp : kl ≠ p := by
    obtain ⟨xs, hx⟩ := hpot.lst
    exact (ne_of_none hx hkl0).symm
  refine ⟨S, D, c, p, kl, sv, R, Wr.keptL S D R, rfl, s1, s3, d1, d3, hpot.keep fun u => e1 _ _, hc, SayV.mo.ap (tst_same e1) hsv, hR, hR4, hkp, hkl, rfl, fun H2 v wk e2 p2 hv hTab => ?_⟩
  have hpot1 : PotV c H1 p := hpot.keep fun u => e1 _ _
  have t12 := e2.tst hpot1
  have hA2 := e2 _ _ hLp (e1 _ _ hA)
  have e02 : Same Hb H2 := fun b u z => e2 _ _ (ne_of_none z hp0) (e1 _ _ (e0 _ _ z))
  have hz := Wr.kept_zero hk0
  have hkl1 : 1 ≤ (Wr.keptL S D R).length := (List.getElem?_eq_some_iff.mp hz).1
  have hwkok := Wr.tabK_ok hTab hkl1
  have hkeeps := Wr.tabK_keeps hTab hz
  have hwk4 : wk.length ≤ 4 := by
    have h1 := hTab.1
    have h2 := Wr.kept_len (S := S) (D := D) (R := R)
    omega
  refine ⟨L, acc, v, rfl, rfl, hA2, small1000 (by rw [Paired.len hP]; omega), ?_⟩
  have t13 : Tst H2 (upd H2 L (.lst (acc ++ [v]))) := tst_lst hA2
  have hsv3 := SayV.mo.ap ((tst_same e1).trans (t12.trans t13)) hsv
  have e03 : Same Hb (upd H2 L (.lst (acc ++ [v]))) := same_upd' e02 hL0
  have hA3 : (upd H2 L (.lst (acc ++ [v]))) L = some (.lst (acc ++ [v])) := upd_same
  have hP3 : Paired (WatV S D (upd H2 L (.lst (acc ++ [v])))) (acc ++ [v]) (ws ++ [wk]) := Paired.snoc' (Paired.imp (fun _ _ r => WatV.mo.ap ((tst_same e1).trans (t12.trans t13)) r) hP) (WatV.mo.ap t13 hv)
  have W : Wr.Wd S D (ws ++ [wk]) := ⟨fun w hw => by
    rcases List.mem_append.mp hw with hw | hw
    · exact hwok w hw
    · have : w = wk := by simpa using hw
      subst this
      exact ⟨hwkok, hwk4⟩, by rw [List.length_append]; show 1 ≤ ws.length + 1; omega, by rw [List.length_append]; show ws.length + 1 ≤ 3; omega⟩
  have hG := Wr.row_sd W hkeeps fun r hr => Wr.kept_lt hr
  generalize upd H2 L (.lst (acc ++ [v])) = H3 at *
  clear hv hTab hkeeps t12 t13 hA2 e02 hwkok e2 p2 hpot1 hkl hkl0 hwl hA hP
  -- row
  refine ⟨_, rfl, L, _, rfl, .inl ⟨isLst hA3, fun l4 hl4 => ?_⟩⟩
  have s4 := same_new (o := .tup (acc ++ [v])) hl4
  refine in_go cnt ⟨_, upd_same, Paired.imp (fun _ _ r => WatV.mo.ap (tst_same s4) r) hP3⟩ W.rwc (hTb.ext (same_tr e03 s4)) fun H5 rv e5 T5 hrv => ?_
  have e35 : Ext H3 H5 := (ext_same s4).trans e5
  have C5 : Car P1 P2 S D L (ws ++ [wk]) rv H5 := ⟨⟨_, e35 _ _ hA3 (fun _ z => by cases z), Paired.imp (fun _ _ r => WatV.mo.ap (tst_ext e35) r) hP3⟩, hrv, T5⟩
  have hS5 : SqL K H5 a (ns.map V.int) := sql_ext (e03.seq hS) e35
  have hsv5 := SayV.mo.ap (tst_ext e35) hsv3
  obtain ⟨rok, r64⟩ := W.row
  have hok := fun w hw => (W.ok w hw).1
  -- run
  refine ⟨_, rfl, _, rfl, _, rfl, S, D, a, ns, rfl, cnt, hS5, hn, fun H6 rnv run e6 hrun hrok hrlen => ?_⟩
  have C6 := C5.same e6
  have hsv6 := SayV.mo.ap (tst_same e6) hsv5
  refine ⟨_, rfl, ?_⟩
  obtain ⟨wvs, hA6, hP6⟩ := C6.wl
  have hwl6 : wvs.length = (ws ++ [wk]).length := Paired.len hP6
  refine ⟨_, rfl, L, rfl, ⟨_, isLst hA6⟩, for_list (xs := wvs) (fun i σ H7 => Same H6 H7 ∧ (∃ dv, RunV H7 dv (Wr.mendAll ((ws ++ [wk]).take i) run) ∧ ∃ y10, σ = [some (.ref a), some (.ref p), some (.int S), some (.int D), some (.ref L), x5, some sv, some rv, some rnv, some dv, y10, x11, x12, x13, x14, x15]))
    ⟨same_rfl, _, hrun, _, rfl⟩ (fun i σ H7 _ h => isLst (h.1 _ _ hA6)) (fun i u σ H7 hu h => ?_) (fun σ H7 h => ?_)⟩
  · obtain ⟨e7, dv, hdv, y10, rfl⟩ := h
    obtain ⟨wi, hwi, hwv⟩ := Paired.at' hP6 hu
    obtain ⟨m1, m2⟩ := Wr.mendAll_ok hok hrok i
    refine ⟨_, rfl, _, rfl, S, D, u, dv, wi, _, rfl, WatV.mo.ap (tst_same e7) hwv, hok wi (List.mem_of_getElem? hwi), hdv, m1, by omega, fun H8 v8 e8 hv8 => ⟨same_tr e7 e8, v8, ?_, _, rfl⟩⟩
    rw [Wr.mendAll_succ hwi]
    exact hv8
  · obtain ⟨e7, dv, hdv, y10, rfl⟩ := h
    rw [List.take_of_length_le (by omega)] at hdv
    have C7 := C6.same e7
    have hrun7 := RunV.mo.ap (tst_same e7) hrun
    have hsv7 := SayV.mo.ap (tst_same e7) hsv6
    have hmr := Wr.mend_row hok (Nat.le_trans W.pr (by decide)) hrok
    -- mended(row, run) != due
    refine ⟨_, rfl, _, rfl, S, D, rv, rnv, _, run, rfl, C7.row, cnt, rok, Nat.le_trans r64 (by decide), hrun7, hrok, hrlen, fun H8 v8 e8 hv8 => ⟨_, rfl, ?_⟩⟩
    rw [hmr] at hv8
    have C8 := C7.same e8
    have hdv8 := RunV.mo.ap (tst_same e8) hdv
    refine ne_same (ok_run _) (by decide) (dp_run hv8) (dp_run hdv8) ⟨false, rfl, iteF ?_⟩
    refine ⟨_, rfl, _, rfl, S, D, rv, rnv, _, run, rfl, C8.row, rok, RunV.mo.ap (tst_same e8) hrun7, hrok, hrlen, fun H9 v9 e9 hv9 => ⟨_, rfl, ?_⟩⟩
    rw [hmr] at hv9
    refine ne_same (ok_run _) (by decide) (dp_run hv9) (dp_run (RunV.mo.ap (tst_same e9) hdv8)) ⟨false, rfl, iteF ?_⟩
    exact hQC cnt W (C8.same e9) (SayV.mo.ap (tst_same (same_tr e8 e9)) hsv7) hR hR4 hG q
end
end Wa
namespace Wa
open PySem PySem.Spec PyProof.Rows L2 Wx Wk Wz Wc RZ NdefX LamX
theorem same_ex1 {p : Addr} {H H1 H2 : Hp} (s : Same H H1) (hp : H p = none) (e : Ex1 p H1 H2) : Same H H2 := fun b u z => e b u (ne_of_none z hp) (s b u z)
theorem RoomOk.unb {D R : Nat} {x : List (List (Option Nat))} (h : RoomOk D R x) (h1 : 1 ≤ R) : RoomOk D R (x.map fun r => r.map fun o => some (o.getD 0)) := fun r hr => by
  obtain ⟨r0, h2, rfl⟩ := List.mem_map.mp hr
  obtain ⟨h3, h4⟩ := h r0 h2
  refine ⟨by rw [List.length_map]; exact h3, fun t ht k hk => ?_⟩
  obtain ⟨o, ho, rfl⟩ := List.mem_map.mp ht
  cases o with
  | none => cases hk; exact h1
  | some v => cases hk; exact h4 _ ho _ rfl
theorem say_unb {S D : Nat} {R : Wr.Say} (h : SayOk S D R) : SayOk S D (Wr.unb R) := by
  have hl : (Wr.unb R).length = R.length := by simp [Wr.unb]
  refine ⟨by rw [hl]; exact h.1, by rw [hl]; exact h.2.1, fun x hx => ?_⟩
  unfold Wr.unb at hx
  obtain ⟨x0, h1, rfl⟩ := List.mem_map.mp hx
  obtain ⟨h2, h3⟩ := h.2.2 x0 h1
  refine ⟨by rw [List.length_map]; exact h2, ?_⟩
  rw [hl]
  exact h3.unb h.1
theorem unb_room {S D : Nat} {R : Wr.Say} (h : SayOk S D R) {r s g : Nat} (hr : r < (Wr.unb R).length) (hs : s < S) (hg : g < D) : ∃ r', Wr.room (Wr.unb R) r s g = some r' ∧ r' < (Wr.unb R).length := by
  have hU := say_unb h
  obtain ⟨x, y, e1, e2, e3⟩ := say_get hU hr hs hg
  have hx : ∃ x0 : List (List (Option Nat)), x = x0.map fun r => r.map fun o => some (o.getD 0) := by
    have := List.mem_of_getElem? e1
    unfold Wr.unb at this
    obtain ⟨x0, _, rfl⟩ := List.mem_map.mp this
    exact ⟨x0, rfl⟩
  obtain ⟨x0, rfl⟩ := hx
  obtain ⟨y0, _, rfl⟩ := List.mem_map.mp (List.mem_of_getElem? e2)
  obtain ⟨o, _, eo⟩ := List.mem_map.mp (List.mem_of_getElem? e3)
  exact ⟨_, eo.symm, room_lt hU hr hs hg eo.symm⟩
theorem unb_zero {S D : Nat} {R : Wr.Say} (h : SayOk S D R) (hD : 1 ≤ D) : 0 ∈ Wr.keptL S D (Wr.unb R) := by
  rw [Wr.kept_full hD fun r s g hr hs hg => unb_room h hr hs hg]
  have := (say_unb h).1
  exact List.mem_range.mpr (by omega)
section
variable {P : Program} {w : World} {K : PySem.W.Frag} {mg : Str → Option Value} {base : Heap}
def sp_law (K : PySem.W.Frag) (P1 P2 : Addr) : Sp := fun vs H Q _ => ∃ (a : Addr) (ns : List Int), vs = [.ref a] ∧ SqL K H a (ns.map V.int) ∧ ns.length ≤ 63 ∧ TabsN (TT P1 P2) H ∧ ∀ H', Q (.bl true) H'
theorem ok_law {P1 P2 : Addr} (Y : Ty K mg base P1 P2) {f : Addr} {fd : FuncData} (F : FunD K "law" "law" (defArgs s_law) (defBody s_law) (defScope s_law) [] [] f fd) : FnOk P w K mg base CX0 9 f fd ["script"] (sp_law K P1 P2) := by
  have T := Y.t
  refine F.ok sc_law (fun vs H Q E h => ?_) fun cdv A outer s H vs Q E hr h => ?_
  · obtain ⟨a, ns, rfl, _⟩ := h; rfl
  suffices hh : ∃ t, PSs (cxOf CX0 P w K mg base N_law "law" (defScope s_law) f cdv A outer s H E).nox (defBody s_law) t ∧ t { nx := fun _ H' => Q .non H', rt := Q } (start N_law vs) H by
    obtain ⟨t, h1, h2⟩ := hh
    exact ⟨t, h1.nox, h2⟩
  obtain ⟨a, ns, rfl, hS, hn, hT, q⟩ := h
  obtain ⟨tB', hPB, hQB⟩ := law_B Y hr (P := P) (w := w) (outer := outer) (H0 := H) (E := E)
  refine ⟨_, (pss_cons (ps_set (i := 1) sc_law.nd rfl (Or.inl rfl) (pe_cal (cal_law_pot T) (hr.mono (by decide)) (by rfl) (pa_cons (pv 0) (pa_cons pe_int pa_nil))))
    (pss_cons (ps_par (i := 2) (j := 3) (by rfl) sc_law.nd rfl rfl (by decide) rfl rfl (pa_cons (pe_op op_add pe_int (pe_cal (cal_law_take T) (hr.mono (by decide)) (by rfl) (pa_cons (pv 1) (pa_cons pe_int pa_nil)))) (pa_cons (pe_op op_add pe_int (pe_cal (cal_law_take T) (hr.mono (by decide)) (by rfl) (pa_cons (pv 1) (pa_cons pe_int pa_nil)))) pa_nil)) (by rfl))
    (pss_cons (ps_set (i := 4) sc_law.nd rfl (Or.inl rfl) (pe_lst pa_nil))
    (pss_cons (ps_for PassesOwn.never rfl (pi_range1 (by rfl) T.z_range (pa_cons (pe_cal (cal_law_take T) (hr.mono (by decide)) (by rfl) (pa_cons (pv 1) (pa_cons pe_int pa_nil))) pa_nil)) (pg_name (i := 5) sc_law.nd rfl (Or.inl rfl))
      (pss_one (ps_expr (pe_bm PySem.F.plainAttrs_list PySem.F.slot_list_append PySem.F.type_list_append mt_append (pv 4) (pa_cons (pe_cal (cal_law_warden T) (hr.mono (by decide)) (by rfl) (pa_cons (pv 0) (pa_cons (pe_op op_add pe_int (pe_op op_mul pe_int (pv 5))) (pa_cons (pv 1) (pa_cons (pv 2) (pa_cons (pv 3) (pa_cons pe_int pa_nil))))))) pa_nil)))))
    (pss_cons (ps_set (i := 6) sc_law.nd rfl (Or.inl rfl) (pe_cal (cal_law_ringed T) (hr.mono (by decide)) (by rfl) (pa_cons (pv 0) (pa_cons pe_int (pa_cons (pv 1) (pa_cons (pv 2) (pa_cons (pv 3) (pa_cons pe_int pa_nil))))))))
    (pss_cons (ps_if (pt_cmpR op_notIn_seq pe_int (pe_cal (cal_law_kept T) (hr.mono (by decide)) (by rfl) (pa_cons (pv 6) (pa_cons pe_non pa_nil))) (by with_unfolding_all rfl)) (pss_one (ps_set (i := 6) sc_law.nd rfl (Or.inl rfl) (pe_cal (cal_law_unbroken T) (hr.mono (by decide)) (by rfl) (pa_cons (pv 6) pa_nil)))) pss_nil)
    hPB)))))), ?_⟩
  -- pot, signs, deeds
  refine ⟨_, rfl, a, ns, 0, rfl, hS, by omega, fun H1 p e1 hp0 hpot => ?_⟩
  refine ⟨_, rfl, p, 3, 0, rfl, hpot, by omega, by omega, by omega, fun H2 r1 hr1 p2 q2 => ⟨_, _, rfl, rfl, ?_⟩⟩
  refine ⟨_, rfl, p, 3, 1, rfl, p2, by omega, by omega, by omega, fun H3 r2 hr2 p3 q3 => ⟨_, _, rfl, rfl, _, _, rfl, ?_⟩⟩
  have s3 : Same H H3 := same_ex1 e1 hp0 ((Ex1.rfl'.own q2).own q3)
  -- wardens
  refine ⟨by show 0 ≤ sizeLine; decide, fun L hL => ?_⟩
  have hLp : L ≠ p := by
    obtain ⟨xs, hx⟩ := p3.lst
    exact (ne_of_none hx hL).symm
  have hL0 : H L = none := by
    cases e : H L with
    | none => rfl
    | some u => rw [s3 _ _ e] at hL; cases hL
  have e4 := same_new (o := .lst []) hL
  have hc1 : (1 + (r1 : Int)) = ((1 + r1 : Nat) : Int) := by omega
  have hc2 : (1 + (r2 : Int)) = ((1 + r2 : Nat) : Int) := by omega
  refine ⟨_, rfl, p, 3, 2, rfl, p3.keep fun u => e4 _ _, by omega, by omega, by omega, fun H5 n hn3 p5 q5 => ⟨n, rfl, by omega, by omega, ?_⟩⟩
  have s5 : Same H H5 := same_ex1 (same_tr s3 e4) hp0 (Ex1.rfl'.own q5)
  refine for_range (lo := 0) (n := n) (fun i σ H6 => Same H H6 ∧ PotV (3 + 13 * i) H6 p ∧ (∃ ws, LV (WatV (1 + r1) (1 + r2)) H6 L ws ∧ ws.length = i ∧ ∀ w ∈ ws, Wr.TOk (1 + r1) (1 + r2) w ∧ w.length ≤ 4) ∧ ∃ y5, σ = [some (.ref a), some (.ref p), some (.int (1 + r1 : Nat)), some (.int (1 + r2 : Nat)), some (.ref L), y5, none, none, none, none, none, none, none, none, none, none])
    ⟨s5, p5, ⟨[], ⟨[], by rw [q5 _ hLp, upd_same], .nil⟩, rfl, fun w hw => by cases hw⟩, none, by rw [← hc1, ← hc2]; rfl⟩ (fun i σ H6 hi h => ?_) (fun σ H6 h => ?_)
  · obtain ⟨s6, p6, ⟨ws, hwl, hwn, hwok⟩, y5, rfl⟩ := h
    obtain ⟨acc, hA, hP⟩ := id hwl
    refine ⟨_, rfl, .inl ⟨rfl, _, isLst hA⟩, _, rfl, _, rfl, _, _, rfl, rfl, .inl (by decide), _, _, rfl, rfl, _, rfl, _, rfl, _, rfl, ?_⟩
    refine ⟨1 + r1, 1 + r2, 4, 3 + 13 * i, 1 + 4 * i, a, p, ns, by simp, by omega, by omega, by omega, by omega, by omega, by omega, p6, by omega, by omega, ScrV.of hS hp0 s6, fun H7 v w e7 p7 hv hok h4 => ?_⟩
    have s7 := same_ex1 s6 hp0 e7
    have t67 := e7.tst p6
    have hA7 := e7 _ _ hLp hA
    refine ⟨L, acc, v, rfl, rfl, hA7, small1000 (by rw [Paired.len hP]; omega), ?_⟩
    have t8 : Tst H7 (upd H7 L (.lst (acc ++ [v]))) := tst_lst hA7
    refine ⟨same_upd' s7 hL0, (p7.le (by omega)).keep fun u z => by rw [upd_ne hLp.symm]; exact z, ⟨ws ++ [w], LV.snoc WatV.mo hA7 (Paired.imp (fun _ _ r => WatV.mo.ap t67 r) hP) hv, by rw [List.length_append, hwn]; rfl, fun x hx => ?_⟩, _, rfl⟩
    rcases List.mem_append.mp hx with hx | hx
    · exact hwok x hx
    · have : x = w := by simpa using hx
      subst this
      exact ⟨hok, h4⟩
  · obtain ⟨s6, p6, ⟨ws, hwl, hwn, hwok⟩, y5, rfl⟩ := h
    -- saying
    refine ⟨_, rfl, _, rfl, _, rfl, _, rfl, ?_⟩
    refine ⟨1 + r1, 1 + r2, 4, 3 + 13 * n, 9, a, p, ns, rfl, by omega, by omega, by omega, by omega, by omega, by omega, p6, by omega, by omega, ScrV.of hS hp0 s6, fun H7 v R e7 p7 hsv hR hR4 => ?_⟩
    have s7 := same_ex1 s6 hp0 e7
    have t67 := e7.tst p6
    have hwl7 := hwl.keep WatV.mo t67 fun u => e7 _ _ hLp
    have cnt : CntOk (1 + r1) (1 + r2) := ⟨by omega, by omega, by omega, by omega⟩
    -- if 0 not in kept
    refine ⟨_, rfl, _, _, v, R, rfl, hsv, cnt, hR, fun H8 kl e8 hkl0 hkl => ?_⟩
    have s8 := same_tr s7 e8
    have p8 : PotV (3 + 13 * n + 13) H8 p := p7.keep fun u => e8 _ _
    have hwl8 := hwl7.same WatV.mo e8
    have hsv8 := SayV.mo.ap (tst_same e8) hsv
    refine ⟨kl, _, rfl, .inl (isLst hkl), rfl, flat_ints _, _, rfl, ?_⟩
    have hin : inV (.int 0) (intsOf (Wr.keptL (1 + r1) (1 + r2) R)) = decide (0 ∈ Wr.keptL (1 + r1) (1 + r2) R) := inV_ks (o := some 0) (H := H8) rfl _
    by_cases h0 : 0 ∈ Wr.keptL (1 + r1) (1 + r2) R
    · rw [hin, decide_eq_true h0]
      refine iteF ?_
      exact hQB (by omega) (by omega) (by omega) (by omega) hS hn hT s8 hp0 hL0 p8 (by omega) hLp hwl8 (by omega) hwok hsv8 hR hR4 h0 q
    · rw [hin, decide_eq_false h0]
      refine iteT ?_
      refine ⟨_, rfl, _, _, v, R, rfl, hsv8, cnt, hR, fun H9 v9 e9 hv9 => ?_⟩
      exact hQB (by omega) (by omega) (by omega) (by omega) hS hn hT (same_tr s8 e9) hp0 hL0 (p8.keep fun u => e9 _ _) (by omega) hLp (hwl8.same WatV.mo e9) (by omega) hwok hv9 (say_unb hR) (by simpa [Wr.unb] using hR4) (unb_zero hR (by omega)) q
end
end Wa
set_option maxHeartbeats 0
namespace Wh
open PySem PySem.Spec PyProof.Rows L2
def top (i : Nat) : Stmt := PySem.Challenge.pw_mildwarden_k68_whole_rows_of_watchers.main.body.getD i (.Pass ⟨0, 0, 0, 0⟩)
abbrev s_is_whole : Stmt := top 14
abbrev s_is_below : Stmt := top 15
abbrev s_is_count : Stmt := top 16
abbrev s_is_row : Stmt := top 17
abbrev s_is_room : Stmt := top 18
abbrev s_is_saying : Stmt := top 19
abbrev s_are_steps : Stmt := top 20
abbrev s_need_saying : Stmt := top 21
abbrev s_need_counts : Stmt := top 22
abbrev s_need_run : Stmt := top 23
abbrev s_need_alike : Stmt := top 24
abbrev s_is_price : Stmt := top 27
abbrev s_are_prices : Stmt := top 28
abbrev s_need_prices : Stmt := top 29
abbrev s_cost : Stmt := top 30
abbrev s_first_come : Stmt := top 32
abbrev s_need_row_alike : Stmt := top 33
abbrev s_is_cell : Stmt := top 35
abbrev s_is_state : Stmt := top 36
abbrev s_is_watcher : Stmt := top 37
abbrev s_need_watcher : Stmt := top 38
abbrev s_letting : Stmt := top 39
abbrev s_steps_by : Stmt := top 40
abbrev s_mended : Stmt := top 41
abbrev s_need_all : Stmt := top 45
abbrev s_stepped : Stmt := top 46
abbrev s_all_steps : Stmt := top 47
abbrev s_led_back : Stmt := top 48
abbrev s_searched : Stmt := top 49
abbrev s_unsound_by : Stmt := top 50
abbrev s_sound_or_breaks : Stmt := top 51
abbrev s_let_on : Stmt := top 53
abbrev s_in_a_row : Stmt := top 54
abbrev s_law_pot : Stmt := top 56
abbrev s_law_take : Stmt := top 57
abbrev s_law_whole : Stmt := top 58
abbrev s_law_ringed : Stmt := top 59
abbrev s_law_cost : Stmt := top 60
abbrev s_law_answers : Stmt := top 61
abbrev s_law_held : Stmt := top 62
abbrev s_law_kept : Stmt := top 63
abbrev s_law_keeping : Stmt := top 64
abbrev s_law_mended : Stmt := top 65
abbrev s_law_warden : Stmt := top 66
abbrev s_law_unbroken : Stmt := top 67
abbrev s_law_sound_pairs : Stmt := top 68
abbrev s_law_run_on : Stmt := top 69
abbrev s_law : Stmt := top 70
def d_is_whole : He.DefD := ⟨("is_whole", none), "is_whole", "is_whole", defArgs s_is_whole, defBody s_is_whole, defScope s_is_whole, [], []⟩
def d_is_below : He.DefD := ⟨("is_below", none), "is_below", "is_below", defArgs s_is_below, defBody s_is_below, defScope s_is_below, [], []⟩
def d_is_count : He.DefD := ⟨("is_count", none), "is_count", "is_count", defArgs s_is_count, defBody s_is_count, defScope s_is_count, [], []⟩
def d_is_row : He.DefD := ⟨("is_row", none), "is_row", "is_row", defArgs s_is_row, defBody s_is_row, defScope s_is_row, [], []⟩
def d_is_room : He.DefD := ⟨("is_room", none), "is_room", "is_room", defArgs s_is_room, defBody s_is_room, defScope s_is_room, [], []⟩
def d_is_saying : He.DefD := ⟨("is_saying", none), "is_saying", "is_saying", defArgs s_is_saying, defBody s_is_saying, defScope s_is_saying, [], []⟩
def d_are_steps : He.DefD := ⟨("are_steps", none), "are_steps", "are_steps", defArgs s_are_steps, defBody s_are_steps, defScope s_are_steps, [], []⟩
def d_need_saying : He.DefD := ⟨("need_saying", none), "need_saying", "need_saying", defArgs s_need_saying, defBody s_need_saying, defScope s_need_saying, [], []⟩
def d_need_counts : He.DefD := ⟨("need_counts", none), "need_counts", "need_counts", defArgs s_need_counts, defBody s_need_counts, defScope s_need_counts, [], []⟩
def d_need_run : He.DefD := ⟨("need_run", none), "need_run", "need_run", defArgs s_need_run, defBody s_need_run, defScope s_need_run, [], []⟩
def d_need_alike : He.DefD := ⟨("need_alike", none), "need_alike", "need_alike", defArgs s_need_alike, defBody s_need_alike, defScope s_need_alike, [], []⟩
def d_is_price : He.DefD := ⟨("is_price", none), "is_price", "is_price", defArgs s_is_price, defBody s_is_price, defScope s_is_price, [], []⟩
def d_are_prices : He.DefD := ⟨("are_prices", none), "are_prices", "are_prices", defArgs s_are_prices, defBody s_are_prices, defScope s_are_prices, [], []⟩
def d_need_prices : He.DefD := ⟨("need_prices", none), "need_prices", "need_prices", defArgs s_need_prices, defBody s_need_prices, defScope s_need_prices, [], []⟩
def d_cost : He.DefD := ⟨("cost", none), "cost", "cost", defArgs s_cost, defBody s_cost, defScope s_cost, [], []⟩
def d_first_come : He.DefD := ⟨("first_come", none), "first_come", "first_come", defArgs s_first_come, defBody s_first_come, defScope s_first_come, [], []⟩
def d_need_row_alike : He.DefD := ⟨("need_row_alike", none), "need_row_alike", "need_row_alike", defArgs s_need_row_alike, defBody s_need_row_alike, defScope s_need_row_alike, [], []⟩
def d_is_cell : He.DefD := ⟨("is_cell", none), "is_cell", "is_cell", defArgs s_is_cell, defBody s_is_cell, defScope s_is_cell, [], []⟩
def d_is_state : He.DefD := ⟨("is_state", none), "is_state", "is_state", defArgs s_is_state, defBody s_is_state, defScope s_is_state, [], []⟩
def d_is_watcher : He.DefD := ⟨("is_watcher", none), "is_watcher", "is_watcher", defArgs s_is_watcher, defBody s_is_watcher, defScope s_is_watcher, [], []⟩
def d_need_watcher : He.DefD := ⟨("need_watcher", none), "need_watcher", "need_watcher", defArgs s_need_watcher, defBody s_need_watcher, defScope s_need_watcher, [], []⟩
def d_letting : He.DefD := ⟨("letting", none), "letting", "letting", defArgs s_letting, defBody s_letting, defScope s_letting, [], []⟩
def d_steps_by : He.DefD := ⟨("steps_by", none), "steps_by", "steps_by", defArgs s_steps_by, defBody s_steps_by, defScope s_steps_by, [], []⟩
def d_mended : He.DefD := ⟨("mended", none), "mended", "mended", defArgs s_mended, defBody s_mended, defScope s_mended, [], []⟩
def d_need_all : He.DefD := ⟨("need_all", none), "need_all", "need_all", defArgs s_need_all, defBody s_need_all, defScope s_need_all, [], []⟩
def d_stepped : He.DefD := ⟨("stepped", none), "stepped", "stepped", defArgs s_stepped, defBody s_stepped, defScope s_stepped, [], []⟩
def d_all_steps : He.DefD := ⟨("all_steps", none), "all_steps", "all_steps", defArgs s_all_steps, defBody s_all_steps, defScope s_all_steps, [], []⟩
def d_led_back : He.DefD := ⟨("led_back", none), "led_back", "led_back", defArgs s_led_back, defBody s_led_back, defScope s_led_back, [], []⟩
def d_searched : He.DefD := ⟨("searched", none), "searched", "searched", defArgs s_searched, defBody s_searched, defScope s_searched, [], []⟩
def d_unsound_by : He.DefD := ⟨("unsound_by", none), "unsound_by", "unsound_by", defArgs s_unsound_by, defBody s_unsound_by, defScope s_unsound_by, [], []⟩
def d_sound_or_breaks : He.DefD := ⟨("sound_or_breaks", none), "sound_or_breaks", "sound_or_breaks", defArgs s_sound_or_breaks, defBody s_sound_or_breaks, defScope s_sound_or_breaks, [], [("prices", .non)]⟩
def d_let_on : He.DefD := ⟨("let_on", none), "let_on", "let_on", defArgs s_let_on, defBody s_let_on, defScope s_let_on, [], []⟩
def d_in_a_row : He.DefD := ⟨("in_a_row", none), "in_a_row", "in_a_row", defArgs s_in_a_row, defBody s_in_a_row, defScope s_in_a_row, [], []⟩
def d_law_pot : He.DefD := ⟨("_law_pot", none), "_law_pot", "_law_pot", defArgs s_law_pot, defBody s_law_pot, defScope s_law_pot, [], []⟩
def d_law_take : He.DefD := ⟨("_law_take", none), "_law_take", "_law_take", defArgs s_law_take, defBody s_law_take, defScope s_law_take, [], []⟩
def d_law_whole : He.DefD := ⟨("_law_whole", none), "_law_whole", "_law_whole", defArgs s_law_whole, defBody s_law_whole, defScope s_law_whole, [], []⟩
def d_law_ringed : He.DefD := ⟨("_law_ringed", none), "_law_ringed", "_law_ringed", defArgs s_law_ringed, defBody s_law_ringed, defScope s_law_ringed, [], []⟩
def d_law_cost : He.DefD := ⟨("_law_cost", none), "_law_cost", "_law_cost", defArgs s_law_cost, defBody s_law_cost, defScope s_law_cost, [], []⟩
def d_law_answers : He.DefD := ⟨("_law_answers", none), "_law_answers", "_law_answers", defArgs s_law_answers, defBody s_law_answers, defScope s_law_answers, [], []⟩
def d_law_held : He.DefD := ⟨("_law_held", none), "_law_held", "_law_held", defArgs s_law_held, defBody s_law_held, defScope s_law_held, [], []⟩
def d_law_kept : He.DefD := ⟨("_law_kept", none), "_law_kept", "_law_kept", defArgs s_law_kept, defBody s_law_kept, defScope s_law_kept, [], []⟩
def d_law_keeping : He.DefD := ⟨("_law_keeping", none), "_law_keeping", "_law_keeping", defArgs s_law_keeping, defBody s_law_keeping, defScope s_law_keeping, [], []⟩
def d_law_mended : He.DefD := ⟨("_law_mended", none), "_law_mended", "_law_mended", defArgs s_law_mended, defBody s_law_mended, defScope s_law_mended, [], []⟩
def d_law_warden : He.DefD := ⟨("_law_warden", none), "_law_warden", "_law_warden", defArgs s_law_warden, defBody s_law_warden, defScope s_law_warden, [], []⟩
def d_law_unbroken : He.DefD := ⟨("_law_unbroken", none), "_law_unbroken", "_law_unbroken", defArgs s_law_unbroken, defBody s_law_unbroken, defScope s_law_unbroken, [], []⟩
def d_law_sound_pairs : He.DefD := ⟨("_law_sound_pairs", none), "_law_sound_pairs", "_law_sound_pairs", defArgs s_law_sound_pairs, defBody s_law_sound_pairs, defScope s_law_sound_pairs, [], []⟩
def d_law_run_on : He.DefD := ⟨("_law_run_on", none), "_law_run_on", "_law_run_on", defArgs s_law_run_on, defBody s_law_run_on, defScope s_law_run_on, [], []⟩
def d_law : He.DefD := ⟨("law", none), "law", "law", defArgs s_law, defBody s_law, defScope s_law, [], []⟩
def fn1 : List He.DefD := [d_is_whole, d_is_below, d_is_count, d_is_row, d_is_room, d_is_saying, d_are_steps, d_need_saying, d_need_counts, d_need_run, d_need_alike, d_is_price, d_are_prices, d_need_prices, d_cost, d_first_come, d_need_row_alike, d_is_cell, d_is_state, d_is_watcher, d_need_watcher, d_letting, d_steps_by, d_mended, d_need_all, d_stepped, d_all_steps, d_led_back, d_searched, d_unsound_by]
def fn2 : List He.DefD := [d_sound_or_breaks, d_let_on, d_in_a_row, d_law_pot, d_law_take, d_law_whole, d_law_ringed, d_law_cost, d_law_answers, d_law_held, d_law_kept, d_law_keeping, d_law_mended, d_law_warden, d_law_unbroken, d_law_sound_pairs, d_law_run_on, d_law]
def fn : List He.DefD := fn1 ++ fn2
def fa1 : List He.Fa := [.glo "is_whole", .glo "is_below", .glo "is_count", .glo "is_row", .glo "is_room", .glo "is_saying", .glo "are_steps", .glo "need_saying", .glo "need_counts", .glo "need_run", .glo "need_alike", .glo "is_price", .glo "are_prices", .glo "need_prices", .glo "cost", .glo "first_come", .glo "need_row_alike", .glo "is_cell", .glo "is_state", .glo "is_watcher", .glo "need_watcher", .glo "letting", .glo "steps_by", .glo "mended", .glo "need_all", .glo "stepped", .glo "all_steps", .glo "led_back", .glo "searched", .glo "unsound_by"]
def fa2 : List He.Fa := [.glo "sound_or_breaks", .glo "let_on", .glo "in_a_row", .glo "_law_pot", .glo "_law_take", .glo "_law_whole", .glo "_law_ringed", .glo "_law_cost", .glo "_law_answers", .glo "_law_held", .glo "_law_kept", .glo "_law_keeping", .glo "_law_mended", .glo "_law_warden", .glo "_law_unbroken", .glo "_law_sound_pairs", .glo "_law_run_on", .glo "law"]
def fa3 : List He.Fa := [.free "isinstance", .free "int", .free "bool", .free "tuple", .free "len", .free "all", .free "any", .free "range", .free "list", .free "sorted", .free "zip", .free "abs", .free "max", .free "min", .int "MOST" 100, .int "WIDE" 9, .str "SOUND" "sound"]
def fa : List He.Fa := fa1 ++ (fa2 ++ fa3)
def tf : List He.Defn := [("in_a_row", none), ("unsound_by", none)]
def nm0 : List PySem.Str := [("WardError" : PySem.Str), ("NoCount" : PySem.Str), ("NoSaying" : PySem.Str), ("NoRun" : PySem.Str), ("NoPrices" : PySem.Str), ("NoWatcher" : PySem.Str), ("NoWatchers" : PySem.Str), ("Unlike" : PySem.Str), ("TooWide" : PySem.Str), ("MOST" : PySem.Str), ("WIDE" : PySem.Str), ("DEAR" : PySem.Str), ("is_whole" : PySem.Str), ("is_below" : PySem.Str), ("is_count" : PySem.Str), ("is_row" : PySem.Str)]
def nm1 : List PySem.Str := [("is_room" : PySem.Str), ("is_saying" : PySem.Str), ("are_steps" : PySem.Str), ("need_saying" : PySem.Str), ("need_counts" : PySem.Str), ("need_run" : PySem.Str), ("need_alike" : PySem.Str), ("EVEN" : PySem.Str), ("is_price" : PySem.Str), ("are_prices" : PySem.Str), ("need_prices" : PySem.Str), ("cost" : PySem.Str), ("first_come" : PySem.Str), ("need_row_alike" : PySem.Str), ("is_cell" : PySem.Str), ("is_state" : PySem.Str)]
def nm2 : List PySem.Str := [("is_watcher" : PySem.Str), ("need_watcher" : PySem.Str), ("letting" : PySem.Str), ("steps_by" : PySem.Str), ("mended" : PySem.Str), ("SOUND" : PySem.Str), ("BREAKS" : PySem.Str), ("need_all" : PySem.Str), ("stepped" : PySem.Str), ("all_steps" : PySem.Str), ("led_back" : PySem.Str), ("searched" : PySem.Str), ("unsound_by" : PySem.Str), ("sound_or_breaks" : PySem.Str), ("let_on" : PySem.Str), ("in_a_row" : PySem.Str)]
def nm3 : List PySem.Str := [("_law_pot" : PySem.Str), ("_law_take" : PySem.Str), ("_law_whole" : PySem.Str), ("_law_ringed" : PySem.Str), ("_law_cost" : PySem.Str), ("_law_answers" : PySem.Str), ("_law_held" : PySem.Str), ("_law_kept" : PySem.Str), ("_law_keeping" : PySem.Str), ("_law_mended" : PySem.Str), ("_law_warden" : PySem.Str), ("_law_unbroken" : PySem.Str), ("_law_sound_pairs" : PySem.Str), ("_law_run_on" : PySem.Str)]
def nms : List PySem.Str := nm0 ++ nm1 ++ nm2 ++ nm3
abbrev R : PySem.W.OpenRow := PySem.W.OpenLaw.row PySem.Challenge.rw_mildwarden_k68_whole_rows_of_watchers
def ex (K : PySem.W.Frag) : Bool := decide ((He.cT K ("in_a_row", none)).2 ≠ (He.cT K ("unsound_by", none)).2)
abbrev hk : PySem.W.Hook := He.hookX 4 fa fn [] tf ex
def ob (s : PySem.W.SharedT) : He.AlX := He.obsX 4 fa fn [] tf ex (HandSHeadRun.getT s)
theorem ob_eq (s : PySem.W.SharedT) : ob s = hk.obs s.abs := He.obsX_eq (HandSHeadRun.getT_eq s)
theorem run (w : World) : HandSHeadRun.RunEq R (PySem.W.view R.prog [70]) hk ob 30000 nms w := by
  intro os
  kernel_rfl
end Wh
set_option maxHeartbeats 4000000
namespace Wa
open PySem PySem.Spec PyProof.Rows L2 Wx Wk Wz Wc RZ NdefX LamX
section
variable {K : PySem.W.Frag} {mg : Str → Option Value} {base h : Heap}
theorem df_of {x : Str} {st : Stmt} (X : K.In h) (G : h.Ns mainGlobals mg) (c : (He.Fa.glo x).ok K = true) (F : ∃ fd, FunD K x x (defArgs st) (defBody st) (defScope st) [] [] (He.ga K x) fd) : Df K mg x st := by
  obtain ⟨fd, F⟩ := F
  exact ⟨_, fd, He.glo_ok X G c, F⟩
theorem tx_of (X : K.In h) (G : h.Ns mainGlobals mg) (c : He.SaysD Wh.fa Wh.fn K) : Tx K mg where
    z_isinstance := He.free_ok X G (c.fact 48 (f := .free "isinstance") rfl)
    z_int := He.free_ok X G (c.fact 49 (f := .free "int") rfl)
    z_bool := He.free_ok X G (c.fact 50 (f := .free "bool") rfl)
    z_tuple := He.free_ok X G (c.fact 51 (f := .free "tuple") rfl)
    z_len := He.free_ok X G (c.fact 52 (f := .free "len") rfl)
    z_all := He.free_ok X G (c.fact 53 (f := .free "all") rfl)
    z_any := He.free_ok X G (c.fact 54 (f := .free "any") rfl)
    z_range := He.free_ok X G (c.fact 55 (f := .free "range") rfl)
    z_list := He.free_ok X G (c.fact 56 (f := .free "list") rfl)
    z_sorted := He.free_ok X G (c.fact 57 (f := .free "sorted") rfl)
    z_zip := He.free_ok X G (c.fact 58 (f := .free "zip") rfl)
    z_abs := He.free_ok X G (c.fact 59 (f := .free "abs") rfl)
    z_max := He.free_ok X G (c.fact 60 (f := .free "max") rfl)
    z_min := He.free_ok X G (c.fact 61 (f := .free "min") rfl)
    g_MOST := He.int_ok X G (c.fact 62 (f := .int "MOST" 100) rfl)
    g_WIDE := He.int_ok X G (c.fact 63 (f := .int "WIDE" 9) rfl)
    g_SOUND := He.str_ok X G (c.fact 64 (f := .str "SOUND" "sound") rfl)
    d_is_whole := df_of X G (c.fact 0 (f := .glo "is_whole") rfl) (c.def_ 0 (d := Wh.d_is_whole) rfl)
    d_is_below := df_of X G (c.fact 1 (f := .glo "is_below") rfl) (c.def_ 1 (d := Wh.d_is_below) rfl)
    d_is_count := df_of X G (c.fact 2 (f := .glo "is_count") rfl) (c.def_ 2 (d := Wh.d_is_count) rfl)
    d_is_row := df_of X G (c.fact 3 (f := .glo "is_row") rfl) (c.def_ 3 (d := Wh.d_is_row) rfl)
    d_is_room := df_of X G (c.fact 4 (f := .glo "is_room") rfl) (c.def_ 4 (d := Wh.d_is_room) rfl)
    d_is_saying := df_of X G (c.fact 5 (f := .glo "is_saying") rfl) (c.def_ 5 (d := Wh.d_is_saying) rfl)
    d_are_steps := df_of X G (c.fact 6 (f := .glo "are_steps") rfl) (c.def_ 6 (d := Wh.d_are_steps) rfl)
    d_need_saying := df_of X G (c.fact 7 (f := .glo "need_saying") rfl) (c.def_ 7 (d := Wh.d_need_saying) rfl)
    d_need_counts := df_of X G (c.fact 8 (f := .glo "need_counts") rfl) (c.def_ 8 (d := Wh.d_need_counts) rfl)
    d_need_run := df_of X G (c.fact 9 (f := .glo "need_run") rfl) (c.def_ 9 (d := Wh.d_need_run) rfl)
    d_need_alike := df_of X G (c.fact 10 (f := .glo "need_alike") rfl) (c.def_ 10 (d := Wh.d_need_alike) rfl)
    d_is_price := df_of X G (c.fact 11 (f := .glo "is_price") rfl) (c.def_ 11 (d := Wh.d_is_price) rfl)
    d_are_prices := df_of X G (c.fact 12 (f := .glo "are_prices") rfl) (c.def_ 12 (d := Wh.d_are_prices) rfl)
    d_need_prices := df_of X G (c.fact 13 (f := .glo "need_prices") rfl) (c.def_ 13 (d := Wh.d_need_prices) rfl)
    d_cost := df_of X G (c.fact 14 (f := .glo "cost") rfl) (c.def_ 14 (d := Wh.d_cost) rfl)
    d_first_come := df_of X G (c.fact 15 (f := .glo "first_come") rfl) (c.def_ 15 (d := Wh.d_first_come) rfl)
    d_need_row_alike := df_of X G (c.fact 16 (f := .glo "need_row_alike") rfl) (c.def_ 16 (d := Wh.d_need_row_alike) rfl)
    d_is_cell := df_of X G (c.fact 17 (f := .glo "is_cell") rfl) (c.def_ 17 (d := Wh.d_is_cell) rfl)
    d_is_state := df_of X G (c.fact 18 (f := .glo "is_state") rfl) (c.def_ 18 (d := Wh.d_is_state) rfl)
    d_is_watcher := df_of X G (c.fact 19 (f := .glo "is_watcher") rfl) (c.def_ 19 (d := Wh.d_is_watcher) rfl)
    d_need_watcher := df_of X G (c.fact 20 (f := .glo "need_watcher") rfl) (c.def_ 20 (d := Wh.d_need_watcher) rfl)
    d_letting := df_of X G (c.fact 21 (f := .glo "letting") rfl) (c.def_ 21 (d := Wh.d_letting) rfl)
    d_steps_by := df_of X G (c.fact 22 (f := .glo "steps_by") rfl) (c.def_ 22 (d := Wh.d_steps_by) rfl)
    d_mended := df_of X G (c.fact 23 (f := .glo "mended") rfl) (c.def_ 23 (d := Wh.d_mended) rfl)
    d_need_all := df_of X G (c.fact 24 (f := .glo "need_all") rfl) (c.def_ 24 (d := Wh.d_need_all) rfl)
    d_stepped := df_of X G (c.fact 25 (f := .glo "stepped") rfl) (c.def_ 25 (d := Wh.d_stepped) rfl)
    d_all_steps := df_of X G (c.fact 26 (f := .glo "all_steps") rfl) (c.def_ 26 (d := Wh.d_all_steps) rfl)
    d_led_back := df_of X G (c.fact 27 (f := .glo "led_back") rfl) (c.def_ 27 (d := Wh.d_led_back) rfl)
    d_searched := df_of X G (c.fact 28 (f := .glo "searched") rfl) (c.def_ 28 (d := Wh.d_searched) rfl)
    d_unsound_by := df_of X G (c.fact 29 (f := .glo "unsound_by") rfl) (c.def_ 29 (d := Wh.d_unsound_by) rfl)
    d_sound_or_breaks := by
      obtain ⟨fd, F⟩ := c.def_ 30 (d := Wh.d_sound_or_breaks) rfl
      exact ⟨_, fd, He.glo_ok X G (c.fact 30 (f := .glo "sound_or_breaks") rfl), F⟩
    d_let_on := df_of X G (c.fact 31 (f := .glo "let_on") rfl) (c.def_ 31 (d := Wh.d_let_on) rfl)
    d_in_a_row := df_of X G (c.fact 32 (f := .glo "in_a_row") rfl) (c.def_ 32 (d := Wh.d_in_a_row) rfl)
    d_law_pot := df_of X G (c.fact 33 (f := .glo "_law_pot") rfl) (c.def_ 33 (d := Wh.d_law_pot) rfl)
    d_law_take := df_of X G (c.fact 34 (f := .glo "_law_take") rfl) (c.def_ 34 (d := Wh.d_law_take) rfl)
    d_law_whole := df_of X G (c.fact 35 (f := .glo "_law_whole") rfl) (c.def_ 35 (d := Wh.d_law_whole) rfl)
    d_law_ringed := df_of X G (c.fact 36 (f := .glo "_law_ringed") rfl) (c.def_ 36 (d := Wh.d_law_ringed) rfl)
    d_law_cost := df_of X G (c.fact 37 (f := .glo "_law_cost") rfl) (c.def_ 37 (d := Wh.d_law_cost) rfl)
    d_law_answers := df_of X G (c.fact 38 (f := .glo "_law_answers") rfl) (c.def_ 38 (d := Wh.d_law_answers) rfl)
    d_law_held := df_of X G (c.fact 39 (f := .glo "_law_held") rfl) (c.def_ 39 (d := Wh.d_law_held) rfl)
    d_law_kept := df_of X G (c.fact 40 (f := .glo "_law_kept") rfl) (c.def_ 40 (d := Wh.d_law_kept) rfl)
    d_law_keeping := df_of X G (c.fact 41 (f := .glo "_law_keeping") rfl) (c.def_ 41 (d := Wh.d_law_keeping) rfl)
    d_law_mended := df_of X G (c.fact 42 (f := .glo "_law_mended") rfl) (c.def_ 42 (d := Wh.d_law_mended) rfl)
    d_law_warden := df_of X G (c.fact 43 (f := .glo "_law_warden") rfl) (c.def_ 43 (d := Wh.d_law_warden) rfl)
    d_law_unbroken := df_of X G (c.fact 44 (f := .glo "_law_unbroken") rfl) (c.def_ 44 (d := Wh.d_law_unbroken) rfl)
    d_law_sound_pairs := df_of X G (c.fact 45 (f := .glo "_law_sound_pairs") rfl) (c.def_ 45 (d := Wh.d_law_sound_pairs) rfl)
    d_law_run_on := df_of X G (c.fact 46 (f := .glo "_law_run_on") rfl) (c.def_ 46 (d := Wh.d_law_run_on) rfl)
    d_law := df_of X G (c.fact 47 (f := .glo "law") rfl) (c.def_ 47 (d := Wh.d_law) rfl)
theorem own_of {x : Str} {st : Stmt} (X : K.In h) (G : h.Ns mainGlobals mg) (c : (He.Fa.glo x).ok K = true) (F : ∃ fd, FunD K x x (defArgs st) (defBody st) (defScope st) [] [] (He.ga K x) fd) (TB : TabB base mg (He.cT K (x, none)).1 (He.cT K (x, none)).2) : OwnD K mg base x st (He.cT K (x, none)).2 := by
  obtain ⟨fd, F⟩ := F
  obtain ⟨oc, od, dV, kV, doc, pm, an, cdv, ct, osl, e, lk, hcd, _, _⟩ := id F.ex
  obtain ⟨c', hc'⟩ := He.codeIn_ref hcd
  have hfc : fd.code = .ref c' := by rw [e]; exact hc'
  have hco : He.codeOf K (x, none) = c' := He.codeOf_eq (p := (x, none)) lk hfc
  refine ⟨_, fd, c', He.glo_ok X G c, F, hfc, ?_⟩
  have : (He.cT K (x, none)).1 = c' := hco
  rw [this] at TB
  exact TB
end
end Wa
open PySem PySem.W PySem.Calls PyProof.Rows
theorem PySem.Challenge.cw_mildwarden_k68_whole_rows_of_watchers_holds : PySem.Challenge.rw_mildwarden_k68_whole_rows_of_watchers.Holds := by
  w_on; o_law
  refine HandSHeadRun.head_any (r := OpenLaw.row PySem.Challenge.rw_mildwarden_k68_whole_rows_of_watchers) (q := view (OpenLaw.row PySem.Challenge.rw_mildwarden_k68_whole_rows_of_watchers).prog [70]) (H := Wh.hk) (ob := Wh.ob) (M := 30000) (loose := Wh.nms) (d := HandSHeadRun.topDef (OpenLaw.row PySem.Challenge.rw_mildwarden_k68_whole_rows_of_watchers).prog 70) (kwd := []) Wh.ob_eq
    (by kernel_rfl) (fun s => by kernel_rfl) Wh.run (by kernel_rfl) (by kernel_rfl) (by kernel_rfl) (by rfl) (by first | assumption | decide +kernel) (by decide +kernel) ⟨rfl, rfl, rfl, rfl, rfl, by decide +kernel⟩ ?hw ?hc
  case hw => w_witness2
  case hc =>
    refine LamX.walk_ofTsE (l := PySem.Challenge.rw_mildwarden_k68_whole_rows_of_watchers) (n := 63) (k := 9) (x := "script") (CX := fun _ => L2.CX0) rfl (by decide) (by kernel_rfl) ⟨rfl, by decide, by decide⟩ ?F (fun _ _ _ _ _ z => z)
    intro w mg fa h Y G hmg0
    obtain ⟨K, KX, c⟩ := Y
    have hmg : mg ("law" : PySem.Str) = some (.ref fa) := by
      have e : (HandSHeadRun.topDef (OpenLaw.row PySem.Challenge.rw_mildwarden_k68_whole_rows_of_watchers).prog 70).name = ("law" : PySem.Str) := by kernel_rfl
      rw [← e]
      exact hmg0
    have cd := c.t.d
    obtain ⟨fd, F⟩ := cd.def_ 47 (d := Wh.d_law) rfl
    have e := hmg.symm.trans (He.glo_ok KX G (cd.fact 47 (f := .glo "law") rfl))
    cases e
    have b := L2.FunD.bindsA (ps := ["script"]) F fun _ _ _ _ _ _ us hl => match us, hl with | [_], _ => rfl
    have hne : (He.cT K ("in_a_row", none)).2 ≠ (He.cT K ("unsound_by", none)).2 := of_decide_eq_true c.more
    refine ⟨K, KX, fd, [He.cT K ("in_a_row", none), He.cT K ("unsound_by", none)], Wa.sp_law K (He.cT K ("in_a_row", none)).2 (He.cT K ("unsound_by", none)).2, ?_, ?_, ?_, fun s v => b s [v] rfl, ?_, ?_⟩
    · exact List.forall_mem_cons.mpr ⟨c.empty _ (by simp [Wh.tf]), List.forall_mem_cons.mpr ⟨c.empty _ (by simp [Wh.tf]), fun _ z => by cases z⟩⟩
    · exact List.forall_mem_cons.mpr ⟨c.out _ (by simp [Wh.tf]), List.forall_mem_cons.mpr ⟨c.out _ (by simp [Wh.tf]), fun _ z => by cases z⟩⟩
    · exact List.forall_mem_cons.mpr ⟨codeHd_of_K KX (c.hd _ (by simp [Wh.tf])), List.forall_mem_cons.mpr ⟨codeHd_of_K KX (c.hd _ (by simp [Wh.tf])), fun _ z => by cases z⟩⟩
    · intro H a ns hl _ hT hS
      refine ⟨a, ns, rfl, hS, hl, fun p hp => ?_, fun _ => rfl⟩
      rcases List.mem_cons.mp hp with rfl | hp
      · exact NdefX.TabN.nil (hT _ (by simp))
      · have : p = (((He.cT K ("unsound_by", none)).2, Wa.nmL) : NdefX.NTab) := by simpa using hp
        subst this
        exact NdefX.TabN.nil (hT _ (by simp))
    · intro base _ _ hTB
      have Ty : Wa.Ty K mg base (He.cT K ("in_a_row", none)).2 (He.cT K ("unsound_by", none)).2 := ⟨Wa.tx_of KX G cd, Wa.own_of KX G (cd.fact 32 (f := .glo "in_a_row") rfl) (cd.def_ 32 (d := Wh.d_in_a_row) rfl) (hTB _ (by simp)), Wa.own_of KX G (cd.fact 29 (f := .glo "unsound_by") rfl) (cd.def_ 29 (d := Wh.d_unsound_by) rfl) (hTB _ (by simp)), hne⟩
      exact Wa.ok_law Ty F
