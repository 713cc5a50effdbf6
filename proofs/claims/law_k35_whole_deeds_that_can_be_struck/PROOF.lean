import PyProof.Rows.All
import Wide.All
import OpenK.AllK
import Wide.FinOn
import HandS.ForMost
import HandS.Defaults
import HandS.HeadHook1
import HandS.HeadHook2
import PySem.Challenge.RW_agedcopy_k35_whole_deeds_that_can_be_str
import HandS.IsInst
import HandS.Conv
import HandS.Exc
import KE.GoesEnum
import HandS.Walk
import HandS.Zip
import HandS.TupAny
import KE.KSuper
import KE.KExcSuper
import HandS.ExcInit
import HandS.ExcSuper
import HandS.ExcField
import KE.KDictWalk
import KE.KDictCopyH
import KE.KDictDisplayH
import HandS.Iter
import HandS.Dict
import HandS.DictComp
import HandS.DictTup
import HandS.TupLen
import PyProof.DictCompW
import HandS.Style
import HandS.Wide
import KE.DataMinMax
import KE.SortKeyHeap
import KE.SortUse
import HandS.List
import HandS.SortKw
import HandS.Set
import HandS.SetFor
import HandS.Strs
import HandS.TryMany
import HandS.ExcIs
import HandS.EndTab
import HandS.RaiseMore
import HandS.FStrTup
import HandS.Lambda
import KE.KLam
import HandS.Nested
import HandS.MakeKwOnly
import KE.KStateDown
import HandS.Head0
import HandS.Head1
import HandS.Head2
import HandS.HeadHook3
import HandS.HeadHook4
import HandS.HeadWalk
import HandS.HeadNt
set_option linter.all false
namespace Ag
/-! ### the plain side: machines as tables of numbers, logs, lots of places -/
abbrev Tabs := List (List Nat)
def nx (t : Tabs) (d s : Nat) : Nat := (t.getD d []).getD s 0
def led (t : Tabs) (s : Nat) (log : List Nat) : Nat := log.foldl (fun s d => nx t d s) s
def picked (log lot : List Nat) : List Nat := lot.map fun p => log.getD p 0
def keptEnd (t : Tabs) (log lot : List Nat) (s a : Nat) : Nat := led t s (picked log (lot.filter fun p => decide (a ≤ p)))
def enough (t : Tabs) (log : List Nat) (cs : List (Nat × Nat)) (lot : List Nat) : Bool := cs.all fun c => decide (keptEnd t log lot c.1 c.2 = led t c.1 (log.drop c.2))
def lotsRaw : Nat → List (List Nat)
  | 0 => [[]]
  | n + 1 => lotsRaw n ++ (lotsRaw n).map (· ++ [n])
def IsLot (n : Nat) (l : List Nat) : Prop := l.Pairwise (· < ·) ∧ ∀ p ∈ l, p < n
/-- the order of tuples of numbers -/
def lexlt : List Nat → List Nat → Bool
  | [], [] => false
  | [], _ :: _ => true
  | _ :: _, [] => false
  | x :: xs, y :: ys => if x = y then lexlt xs ys else decide (x < y)
def IsDue (t : Tabs) (log : List Nat) (cs : List (Nat × Nat)) (lot : List Nat) : Prop :=
  IsLot log.length lot ∧ enough t log cs lot = true ∧ ∀ l, IsLot log.length l → enough t log cs l = true → lot.length ≤ l.length ∧ (l.length = lot.length → lexlt l lot = false)
/-- a machine that is one: S states, every deed leads each to one -/
def Wf (t : Tabs) (S : Nat) : Prop := ∀ d, d < t.length → (t.getD d []).length = S ∧ ∀ x ∈ t.getD d [], x < S

theorem lotsRaw_mem {n : Nat} : ∀ {l : List Nat}, l ∈ lotsRaw n ↔ IsLot n l := by
  induction n with
  | zero =>
    intro l
    constructor
    · intro h
      have e : l = [] := by simpa [lotsRaw] using h
      subst e
      exact ⟨List.Pairwise.nil, fun p hp => nomatch hp⟩
    · rintro ⟨_, h⟩
      cases l with
      | nil => simp [lotsRaw]
      | cons p r => exact absurd (h p List.mem_cons_self) (Nat.not_lt_zero p)
  | succ n ih =>
    intro l
    simp only [lotsRaw, List.mem_append, List.mem_map]
    constructor
    · rintro (h | ⟨m, hm, rfl⟩)
      · obtain ⟨h1, h2⟩ := ih.mp h
        exact ⟨h1, fun p hp => Nat.lt_succ_of_lt (h2 p hp)⟩
      · obtain ⟨h1, h2⟩ := ih.mp hm
        refine ⟨List.pairwise_append.mpr ⟨h1, List.pairwise_singleton _ _, fun a ha b hb => ?_⟩, fun p hp => ?_⟩
        · have e : b = n := by simpa using hb
          rw [e]
          exact h2 a ha
        · rcases List.mem_append.mp hp with h | h
          · exact Nat.lt_succ_of_lt (h2 p h)
          · have e : p = n := by simpa using h
            omega
    · rintro ⟨h1, h2⟩
      rcases List.eq_nil_or_concat l with e | ⟨m, x, e⟩
      · subst e
        exact .inl (ih.mpr ⟨List.Pairwise.nil, fun p hp => nomatch hp⟩)
      · have e : l = m ++ [x] := by simpa using e
        subst e
        obtain ⟨a1, a2, a3⟩ := List.pairwise_append.mp h1
        have hx := h2 x (by simp)
        by_cases hn : x = n
        · subst hn
          exact .inr ⟨m, ih.mpr ⟨a1, fun p hp => a3 p hp x (by simp)⟩, rfl⟩
        · refine .inl (ih.mpr ⟨h1, fun p hp => ?_⟩)
          rcases List.mem_append.mp hp with h | h
          · have := a3 p h x (by simp)
            omega
          · have e : p = x := by simpa using h
            omega

theorem lexlt_tri : ∀ {a b : List Nat}, a.length = b.length → lexlt a b = false → lexlt b a = false → a = b
  | [], [], _, _, _ => rfl
  | [], _ :: _, h, _, _ => by simp at h
  | _ :: _, [], h, _, _ => by simp at h
  | x :: xs, y :: ys, h, h1, h2 => by
    unfold lexlt at h1 h2
    by_cases e : x = y
    · subst e
      rw [if_pos rfl] at h1 h2
      rw [lexlt_tri (by simpa using h) h1 h2]
    · rw [if_neg e] at h1
      rw [if_neg (Ne.symm e)] at h2
      have a := of_decide_eq_false h1
      have b := of_decide_eq_false h2
      omega
theorem due_unique {t : Tabs} {log : List Nat} {cs : List (Nat × Nat)} {a b : List Nat} (ha : IsDue t log cs a) (hb : IsDue t log cs b) : a = b := by
  obtain ⟨a1, a2, a3⟩ := ha
  obtain ⟨b1, b2, b3⟩ := hb
  obtain ⟨p1, p2⟩ := a3 b b1 b2
  obtain ⟨q1, q2⟩ := b3 a a1 a2
  have e : a.length = b.length := Nat.le_antisymm p1 q1
  exact lexlt_tri e (q2 e) (p2 e.symm)

/-! ### tables by key -/
section
variable {κ β : Type} [DecidableEq κ]
def lookA (l : List (κ × β)) (k : κ) : Option β := (l.find? fun p => decide (p.1 = k)).map (·.2)
def putA (l : List (κ × β)) (k : κ) (v : β) : List (κ × β) :=
  if (l.any fun p => decide (p.1 = k)) = true then l.map (fun p => if p.1 = k then (p.1, v) else p) else l ++ [(k, v)]
theorem lookA_pos {p : κ × β} {r : List (κ × β)} {k : κ} (e : p.1 = k) : lookA (p :: r) k = some p.2 := by simp [lookA, List.find?_cons, e]
theorem lookA_neg {p : κ × β} {r : List (κ × β)} {k : κ} (e : ¬ p.1 = k) : lookA (p :: r) k = lookA r k := by simp [lookA, List.find?_cons, e]
theorem lookA_any (k : κ) : ∀ l : List (κ × β), (l.any fun p => decide (p.1 = k)) = (lookA l k).isSome
  | [] => rfl
  | p :: r => by
    rw [List.any_cons]
    by_cases e : p.1 = k
    · simp only [lookA_pos e, decide_eq_true e, Bool.true_or, Option.isSome_some]
    · rw [lookA_neg e, decide_eq_false e, Bool.false_or]; exact lookA_any k r
theorem lookA_map (k j : κ) (y : β) : ∀ l : List (κ × β), lookA (l.map fun p => if p.1 = k then (p.1, y) else p) j = (lookA l j).map fun x => if j = k then y else x
  | [] => rfl
  | p :: r => by
    have ih := lookA_map k j y r
    rw [List.map_cons]
    by_cases h : p.1 = k
    · rw [if_pos h]
      by_cases e : p.1 = j
      · rw [lookA_pos (p := (p.1, y)) e, lookA_pos e, Option.map_some, if_pos (e.symm.trans h)]
      · rw [lookA_neg (p := (p.1, y)) e, lookA_neg e, ih]
    · rw [if_neg h]
      by_cases e : p.1 = j
      · rw [lookA_pos (p := p) e, lookA_pos e, Option.map_some, if_neg (fun z => h (e.trans z))]
      · rw [lookA_neg (p := p) e, lookA_neg e, ih]
theorem lookA_snoc (k j : κ) (y : β) : ∀ l : List (κ × β), lookA l k = none → lookA (l ++ [(k, y)]) j = if j = k then some y else lookA l j
  | [], _ => by
    by_cases e : k = j
    · rw [if_pos e.symm]; exact lookA_pos (p := (k, y)) e
    · rw [if_neg (fun z => e z.symm)]; exact lookA_neg (p := (k, y)) e
  | p :: r, hn => by
    rw [List.cons_append]
    have hk : ¬ p.1 = k := fun z => by rw [lookA_pos z] at hn; cases hn
    rw [lookA_neg hk] at hn
    have ih := lookA_snoc k j y r hn
    by_cases e : p.1 = j
    · rw [lookA_pos e, lookA_pos e, if_neg (fun z => hk (e.trans z))]
    · rw [lookA_neg e, lookA_neg e, ih]
theorem lookA_put (l : List (κ × β)) (k j : κ) (y : β) : lookA (putA l k y) j = if j = k then some y else lookA l j := by
  unfold putA
  by_cases a : (l.any fun p => decide (p.1 = k)) = true
  · rw [if_pos a, lookA_map]
    rw [lookA_any] at a
    by_cases e : j = k
    · obtain ⟨x, hx⟩ := Option.isSome_iff_exists.mp a
      rw [if_pos e, e, hx, Option.map_some, if_pos rfl]
    · rw [if_neg e]
      cases lookA l j with
      | none => rfl
      | some x => rw [Option.map_some, if_neg e]
  · rw [if_neg a]
    refine lookA_snoc k j y l ?_
    rw [lookA_any] at a
    cases q : lookA l k with
    | none => rfl
    | some x => rw [q] at a; exact (a rfl).elim
theorem keys_put (l : List (κ × β)) (k : κ) (y : β) (h : (l.map (·.1)).Nodup) : ((putA l k y).map (·.1)).Nodup := by
  unfold putA
  by_cases a : (l.any fun p => decide (p.1 = k)) = true
  · rw [if_pos a, List.map_map]
    have e : (l.map ((fun p : κ × β => p.1) ∘ fun p => if p.1 = k then (p.1, y) else p)) = l.map (·.1) := by
      apply List.map_congr_left
      intro p _
      show (if p.1 = k then (p.1, y) else p).1 = p.1
      split <;> rfl
    rw [e]; exact h
  · rw [if_neg a, List.map_append]
    refine List.nodup_append.mpr ⟨h, by simp, fun x hx z hz e => ?_⟩
    have hz : z = k := by simpa using hz
    subst hz e
    obtain ⟨p, hp, e⟩ := List.mem_map.mp hx
    exact a (List.any_eq_true.mpr ⟨p, hp, decide_eq_true e⟩)
theorem length_putA (l : List (κ × β)) (k : κ) (v : β) : (putA l k v).length ≤ l.length + 1 := by
  unfold putA
  split
  · rw [List.length_map]; omega
  · rw [List.length_append, List.length_cons, List.length_nil]; omega
theorem mem_of_lookA : ∀ {l : List (κ × β)} {k : κ} {v : β}, lookA l k = some v → (k, v) ∈ l
  | [], _, _, h => nomatch h
  | p :: r, k, v, h => by
    by_cases e : p.1 = k
    · rw [lookA_pos e] at h
      cases h; subst e
      exact List.mem_cons_self
    · rw [lookA_neg e] at h
      exact List.mem_cons_of_mem _ (mem_of_lookA h)
theorem lookA_of_mem : ∀ {l : List (κ × β)} {k : κ} {v : β}, (l.map (·.1)).Nodup → (k, v) ∈ l → lookA l k = some v
  | [], _, _, _, h => nomatch h
  | p :: r, k, v, hn, h => by
    rw [List.map_cons, List.nodup_cons] at hn
    rcases List.mem_cons.mp h with e | h
    · subst e
      exact lookA_pos rfl
    · rw [lookA_neg (fun e => hn.1 (by rw [e]; exact List.mem_map.mpr ⟨_, h, rfl⟩))]
      exact lookA_of_mem hn.2 h
theorem mem_keys_of_lookA {l : List (κ × β)} {k : κ} {v : β} (h : lookA l k = some v) : k ∈ l.map (·.1) := List.mem_map.mpr ⟨_, mem_of_lookA h, rfl⟩
end

/-! ### the program's own reckoning -/
abbrev Due := List (Nat × Nat)
abbrev Layer := List (List Nat × Nat)
def idle (S : Nat) : List Nat := List.range S
def withD (t : Tabs) (S d : Nat) (E : List Nat) : List Nat := (List.range S).map fun s => E.getD (nx t d s) 0
def fits (E : List Nat) (u : Due) : Bool := u.all fun p => decide (E.getD p.1 0 = p.2)
def put1 (n : Nat) (u : Due) (acc : Layer) (E : List Nat) (k : Nat) : Layer := if fits E u = true ∧ k < (lookA acc E).getD (n + 1) then putA acc E k else acc
def put2 (t : Tabs) (S n d : Nat) (u : Due) (acc : Layer) (x : List Nat × Nat) : Layer := put1 n u (put1 n u acc x.1 x.2) (withD t S d x.1) (x.2 + 1)
def layer (t : Tabs) (S n d : Nat) (u : Due) (prev : Layer) : Layer := prev.foldl (put2 t S n d u) []
def layersF (t : Tabs) (S n : Nat) : List Nat → List Due → List Layer
  | d :: ds, u :: us => layer t S n d u ((layersF t S n ds us).headD []) :: layersF t S n ds us
  | _, _ => [[(idle S, 0)]]
def dueAt (t : Tabs) (log : List Nat) (cs : List (Nat × Nat)) (a : Nat) : Due := cs.foldl (fun acc c => if c.2 = a then putA acc c.1 (led t c.1 (log.drop a)) else acc) []
def dues (t : Tabs) (log : List Nat) (cs : List (Nat × Nat)) : List Due := (List.range (log.length + 1)).map (dueAt t log cs)
def keptL (t : Tabs) (S d : Nat) (L : Layer) (here : List (List Nat)) (left : Nat) : List (List Nat) := (L.filter fun x => decide (x.2 + 1 = left) && decide (withD t S d x.1 ∈ here)).map (·.1)
def stay (L : Layer) (here : List (List Nat)) (left : Nat) : List (List Nat) := here.filter fun E => decide (lookA L E = some left)
def greedy (t : Tabs) (S : Nat) : Nat → List Nat → List Layer → List (List Nat) → Nat → List Nat
  | p, d :: ds, L :: Ls, here, left =>
    if 0 < (keptL t S d L here left).length then p :: greedy t S (p + 1) ds Ls (keptL t S d L here left) (left - 1)
    else greedy t S (p + 1) ds Ls (stay L here left) left
  | _, _, _, _, _ => []
def hereOf (L : Layer) (left : Nat) : List (List Nat) := (L.map (·.1)).filter fun E => decide (lookA L E = some left)

/-! ### masks: which deeds of a rest of the log are kept -/
def cnt : List Bool → Nat
  | [] => 0
  | b :: bs => (if b then 1 else 0) + cnt bs
def places : Nat → List Bool → List Nat
  | _, [] => []
  | p, b :: bs => if b then p :: places (p + 1) bs else places (p + 1) bs
def mapM (t : Tabs) (S : Nat) : List Nat → List Bool → List Nat
  | d :: ds, b :: bs => if b then withD t S d (mapM t S ds bs) else mapM t S ds bs
  | _, _ => idle S
def okM (t : Tabs) (S : Nat) : List Nat → List Due → List Bool → Prop
  | d :: ds, u :: us, b :: bs => fits (mapM t S (d :: ds) (b :: bs)) u = true ∧ okM t S ds us bs
  | _, _, _ => True

theorem cnt_le : ∀ bs : List Bool, cnt bs ≤ bs.length
  | [] => Nat.le_refl _
  | b :: bs => by
    have := cnt_le bs
    unfold cnt
    rw [List.length_cons]
    split <;> omega
theorem places_length : ∀ (bs : List Bool) (p : Nat), (places p bs).length = cnt bs
  | [], _ => rfl
  | true :: bs, p => by show (places (p + 1) bs).length + 1 = 1 + cnt bs; rw [places_length bs]; omega
  | false :: bs, p => by show (places (p + 1) bs).length = 0 + cnt bs; rw [places_length bs]; omega
theorem places_ge : ∀ (bs : List Bool) (p : Nat), ∀ x ∈ places p bs, p ≤ x ∧ x < p + bs.length
  | [], _, _, h => nomatch h
  | true :: bs, p, x, h => by
    rw [List.length_cons]
    rcases List.mem_cons.mp (show x ∈ p :: places (p + 1) bs from h) with e | h
    · omega
    · have := places_ge bs (p + 1) x h
      omega
  | false :: bs, p, x, h => by
    rw [List.length_cons]
    have := places_ge bs (p + 1) x h
    omega
theorem places_asc : ∀ (bs : List Bool) (p : Nat), (places p bs).Pairwise (· < ·)
  | [], _ => List.Pairwise.nil
  | true :: bs, p => List.Pairwise.cons (fun x hx => by have := places_ge bs (p + 1) x hx; omega) (places_asc bs (p + 1))
  | false :: bs, p => places_asc bs (p + 1)
theorem places_lot (bs : List Bool) : IsLot bs.length (places 0 bs) := ⟨places_asc bs 0, fun x hx => by have := places_ge bs 0 x hx; omega⟩
/-- every ascending lot has a mask -/
theorem mask_of : ∀ (n p : Nat) (l : List Nat), l.Pairwise (· < ·) → (∀ x ∈ l, p ≤ x ∧ x < p + n) → ∃ bs : List Bool, bs.length = n ∧ places p bs = l
  | 0, p, [], _, _ => ⟨[], rfl, rfl⟩
  | 0, p, x :: l, _, h => by have := h x List.mem_cons_self; omega
  | n + 1, p, [], _, _ => by
    obtain ⟨bs, h1, h2⟩ := mask_of n (p + 1) [] List.Pairwise.nil (fun x hx => nomatch hx)
    exact ⟨false :: bs, by rw [List.length_cons, h1], h2⟩
  | n + 1, p, x :: l, ha, h => by
    obtain ⟨a1, a2⟩ := List.pairwise_cons.mp ha
    have hx := h x List.mem_cons_self
    by_cases e : x = p
    · subst e
      obtain ⟨bs, h1, h2⟩ := mask_of n (x + 1) l a2 (fun y hy => by have := a1 y hy; have := h y (List.mem_cons_of_mem _ hy); omega)
      exact ⟨true :: bs, by rw [List.length_cons, h1], by show x :: places (x + 1) bs = _; rw [h2]⟩
    · obtain ⟨bs, h1, h2⟩ := mask_of n (p + 1) (x :: l) ha (fun y hy => by
        have := h y hy
        rcases List.mem_cons.mp hy with q | q
        · omega
        · have := a1 y q
          omega)
      exact ⟨false :: bs, by rw [List.length_cons, h1], h2⟩

/-! ### a layer holds the least counts -/
/-- what a layer tells of a rest of the log -/
structure LaySpec (t : Tabs) (S : Nat) (ds : List Nat) (us : List Due) (L : Layer) : Prop where
  nd : (L.map (·.1)).Nodup
  is : ∀ E k, lookA L E = some k → ∃ bs : List Bool, bs.length = ds.length ∧ okM t S ds us bs ∧ mapM t S ds bs = E ∧ cnt bs = k
  le : ∀ bs : List Bool, bs.length = ds.length → okM t S ds us bs → ∃ k, lookA L (mapM t S ds bs) = some k ∧ k ≤ cnt bs
section
variable {t : Tabs} {S n d : Nat} {u : Due}
theorem put1_nd {acc : Layer} {E : List Nat} {k : Nat} (h : (acc.map (·.1)).Nodup) : ((put1 n u acc E k).map (·.1)).Nodup := by
  unfold put1
  split
  · exact keys_put _ _ _ h
  · exact h
theorem put1_is {acc : Layer} {E F : List Nat} {k j : Nat} (h : lookA (put1 n u acc E k) F = some j) : lookA acc F = some j ∨ (F = E ∧ j = k ∧ fits E u = true) := by
  unfold put1 at h
  split at h
  · rename_i c
    rw [lookA_put] at h
    split at h
    · rename_i e
      exact .inr ⟨e, (Option.some.inj h).symm, c.1⟩
    · exact .inl h
  · exact .inl h
theorem put1_old {acc : Layer} {E F : List Nat} {k j : Nat} (h : lookA acc F = some j) : ∃ i, lookA (put1 n u acc E k) F = some i ∧ i ≤ j := by
  unfold put1
  split
  · rename_i c
    rw [lookA_put]
    by_cases e : F = E
    · subst e
      rw [if_pos rfl]
      refine ⟨k, rfl, ?_⟩
      have := c.2
      rw [h] at this
      exact Nat.le_of_lt this
    · rw [if_neg e]
      exact ⟨j, h, Nat.le_refl _⟩
  · exact ⟨j, h, Nat.le_refl _⟩
theorem put1_new {acc : Layer} {E : List Nat} {k : Nat} (hf : fits E u = true) (hk : k ≤ n) : ∃ i, lookA (put1 n u acc E k) E = some i ∧ i ≤ k := by
  unfold put1
  split
  · rw [lookA_put, if_pos rfl]
    exact ⟨k, rfl, Nat.le_refl _⟩
  · rename_i c
    cases q : lookA acc E with
    | none =>
      rw [q] at c
      exact absurd ⟨hf, show k < n + 1 by omega⟩ c
    | some j =>
      refine ⟨j, rfl, ?_⟩
      rw [q] at c
      have : ¬ k < j := fun z => c ⟨hf, z⟩
      omega
theorem layer_fold (prev : Layer) : ∀ (acc : Layer), (acc.map (·.1)).Nodup → (∀ x ∈ prev, x.2 < n) →
    ((prev.foldl (put2 t S n d u) acc).map (·.1)).Nodup ∧
    (∀ F j, lookA (prev.foldl (put2 t S n d u) acc) F = some j → lookA acc F = some j ∨ (fits F u = true ∧ ∃ x ∈ prev, (F = x.1 ∧ j = x.2) ∨ (F = withD t S d x.1 ∧ j = x.2 + 1))) ∧
    (∀ F j, lookA acc F = some j → ∃ i, lookA (prev.foldl (put2 t S n d u) acc) F = some i ∧ i ≤ j) ∧
    (∀ x ∈ prev, (fits x.1 u = true → ∃ i, lookA (prev.foldl (put2 t S n d u) acc) x.1 = some i ∧ i ≤ x.2) ∧
      (fits (withD t S d x.1) u = true → ∃ i, lookA (prev.foldl (put2 t S n d u) acc) (withD t S d x.1) = some i ∧ i ≤ x.2 + 1)) := by
  induction prev with
  | nil => exact fun acc h _ => ⟨h, fun F j q => .inl q, fun F j q => ⟨j, q, Nat.le_refl _⟩, fun x hx => nomatch hx⟩
  | cons y r ih =>
    intro acc h hb
    have hy := hb y List.mem_cons_self
    rw [List.foldl_cons]
    obtain ⟨i1, i2, i3, i4⟩ := ih (put2 t S n d u acc y) (put1_nd (put1_nd h)) (fun x hx => hb x (List.mem_cons_of_mem _ hx))
    refine ⟨i1, fun F j q => ?_, fun F j q => ?_, fun x hx => ?_⟩
    · rcases i2 F j q with q | ⟨q1, x, hx, q2⟩
      · rcases put1_is q with q | ⟨e1, e2, e3⟩
        · rcases put1_is q with q | ⟨e1, e2, e3⟩
          · exact .inl q
          · exact .inr ⟨by rw [e1]; exact e3, y, List.mem_cons_self, .inl ⟨e1, e2⟩⟩
        · exact .inr ⟨by rw [e1]; exact e3, y, List.mem_cons_self, .inr ⟨e1, e2⟩⟩
      · exact .inr ⟨q1, x, List.mem_cons_of_mem _ hx, q2⟩
    · obtain ⟨j1, a1, b1⟩ := put1_old (n := n) (u := u) (E := y.1) (k := y.2) q
      obtain ⟨j2, a2, b2⟩ := put1_old (n := n) (u := u) (E := withD t S d y.1) (k := y.2 + 1) a1
      obtain ⟨j3, a3, b3⟩ := i3 F j2 a2
      exact ⟨j3, a3, by omega⟩
    · rcases List.mem_cons.mp hx with e | hx
      · subst e
        constructor
        · intro hf
          obtain ⟨j1, a1, b1⟩ := put1_new (n := n) (u := u) (acc := acc) (E := x.1) (k := x.2) hf (by omega)
          obtain ⟨j2, a2, b2⟩ := put1_old (n := n) (u := u) (E := withD t S d x.1) (k := x.2 + 1) a1
          obtain ⟨j3, a3, b3⟩ := i3 _ j2 a2
          exact ⟨j3, a3, by omega⟩
        · intro hf
          obtain ⟨j2, a2, b2⟩ := put1_new (n := n) (u := u) (acc := put1 n u acc x.1 x.2) (E := withD t S d x.1) (k := x.2 + 1) hf (by omega)
          obtain ⟨j3, a3, b3⟩ := i3 _ j2 a2
          exact ⟨j3, a3, by omega⟩
      · exact i4 x hx
theorem layer_spec {ds : List Nat} {us : List Due} {L : Layer} (h : LaySpec t S ds us L) (hn : ds.length < n) : LaySpec t S (d :: ds) (u :: us) (layer t S n d u L) := by
  have hb : ∀ x ∈ L, x.2 < n := fun x hx => by
    obtain ⟨bs, h1, _, _, h4⟩ := h.is x.1 x.2 (lookA_of_mem h.nd hx)
    have := cnt_le bs
    omega
  obtain ⟨i1, i2, i3, i4⟩ := layer_fold (t := t) (S := S) (n := n) (d := d) (u := u) L [] List.nodup_nil hb
  refine ⟨i1, fun E k q => ?_, fun bs hl ho => ?_⟩
  · rcases i2 E k q with q | ⟨hf, x, hx, ⟨e1, e2⟩ | ⟨e1, e2⟩⟩
    · exact nomatch q
    · obtain ⟨bs, h1, h2, h3, h4⟩ := h.is x.1 x.2 (lookA_of_mem h.nd hx)
      refine ⟨false :: bs, by simp [h1], ⟨?_, h2⟩, ?_, ?_⟩
      · show fits (mapM t S ds bs) u = true
        rw [h3, ← e1]; exact hf
      · show mapM t S ds bs = E
        rw [h3, e1]
      · show 0 + cnt bs = k
        omega
    · obtain ⟨bs, h1, h2, h3, h4⟩ := h.is x.1 x.2 (lookA_of_mem h.nd hx)
      refine ⟨true :: bs, by simp [h1], ⟨?_, h2⟩, ?_, ?_⟩
      · show fits (withD t S d (mapM t S ds bs)) u = true
        rw [h3, ← e1]; exact hf
      · show withD t S d (mapM t S ds bs) = E
        rw [h3, e1]
      · show 1 + cnt bs = k
        omega
  · cases bs with
    | nil => simp at hl
    | cons b bs =>
      obtain ⟨hf, ho⟩ := ho
      obtain ⟨k, hk, hk2⟩ := h.le bs (by simpa using hl) ho
      obtain ⟨j1, j2⟩ := i4 _ (mem_of_lookA hk)
      cases b with
      | false =>
        obtain ⟨i, a1, a2⟩ := j1 hf
        refine ⟨i, a1, ?_⟩
        show i ≤ 0 + cnt bs
        exact Nat.le_trans a2 (by omega)
      | true =>
        obtain ⟨i, a1, a2⟩ := j2 hf
        refine ⟨i, a1, ?_⟩
        show i ≤ 1 + cnt bs
        exact Nat.le_trans a2 (by show k + 1 ≤ _; omega)
theorem idle_spec : LaySpec t S [] us [(idle S, 0)] := by
  refine ⟨by simp, fun E k q => ?_, fun bs hl _ => ?_⟩
  · by_cases e : idle S = E
    · rw [lookA_pos (p := (idle S, 0)) e] at q
      cases q
      exact ⟨[], rfl, by cases us <;> trivial, e, rfl⟩
    · rw [lookA_neg (p := (idle S, 0)) e] at q
      exact nomatch q
  · have e : bs = [] := by simpa using hl
    subst e
    exact ⟨0, lookA_pos rfl, Nat.le_refl _⟩
end
/-- the layers of all rests -/
theorem layersF_length {t : Tabs} {S n : Nat} : ∀ {ds : List Nat} {us : List Due}, ds.length ≤ us.length → (layersF t S n ds us).length = ds.length + 1
  | [], _, _ => by unfold layersF; rfl
  | d :: ds, [], h => by simp at h
  | d :: ds, u :: us, h => by
    unfold layersF
    rw [List.length_cons, layersF_length (by simpa using h), List.length_cons]
theorem layersF_head {t : Tabs} {S n : Nat} : ∀ {ds : List Nat} {us : List Due}, ds.length ≤ us.length → ds.length ≤ n → LaySpec t S ds us ((layersF t S n ds us).headD [])
  | [], us, _, _ => by unfold layersF; exact idle_spec
  | d :: ds, [], h, _ => by simp at h
  | d :: ds, u :: us, h, hn => by
    rw [List.length_cons] at hn
    unfold layersF
    exact layer_spec (layersF_head (by simpa using h) (by omega)) (by omega)

/-! ### the greedy way back -/
theorem greedy_ok {t : Tabs} {S n : Nat} : ∀ (ds : List Nat) (us : List Due) (p : Nat) (here : List (List Nat)) (left : Nat) (P : List Nat → Prop), ds.length ≤ us.length → ds.length ≤ n →
    here ≠ [] → (∀ E ∈ here, P E ∧ ∃ bs : List Bool, bs.length = ds.length ∧ okM t S ds us bs ∧ mapM t S ds bs = E ∧ cnt bs = left) →
    (∀ bs : List Bool, bs.length = ds.length → okM t S ds us bs → P (mapM t S ds bs) → left ≤ cnt bs ∧ (cnt bs = left → mapM t S ds bs ∈ here)) →
    ∃ bs : List Bool, bs.length = ds.length ∧ okM t S ds us bs ∧ P (mapM t S ds bs) ∧ cnt bs = left ∧ greedy t S p ds (layersF t S n ds us).tail here left = places p bs ∧
      ∀ bs' : List Bool, bs'.length = ds.length → okM t S ds us bs' → P (mapM t S ds bs') → cnt bs' = left → lexlt (places p bs') (places p bs) = false
  | [], us, p, here, left, P, hu, hn, h0, h1, h2 => by
    cases here with
    | nil => exact absurd rfl h0
    | cons E r =>
      obtain ⟨hP, bs, hl, ho, hm, hc⟩ := h1 E List.mem_cons_self
      have e : bs = [] := by simpa using hl
      subst e
      refine ⟨[], rfl, ho, by rw [hm]; exact hP, hc, ?_, fun bs' hl' _ _ _ => ?_⟩
      · unfold greedy; rfl
      · have e : bs' = [] := by simpa using hl'
        subst e
        rfl
  | d :: ds, [], p, here, left, P, hu, _, _, _, _ => by simp at hu
  | d :: ds, u :: us, p, here, left, P, hu, hn, h0, h1, h2 => by
    rw [List.length_cons] at hn
    have hu' : ds.length ≤ us.length := by simpa using hu
    have LS := layersF_head (t := t) (S := S) (n := n) hu' (by omega)
    have ne : layersF t S n ds us = (layersF t S n ds us).headD [] :: (layersF t S n ds us).tail := by
      have := layersF_length (t := t) (S := S) (n := n) hu'
      cases q : layersF t S n ds us with
      | nil => rw [q] at this; simp at this
      | cons a b => rfl
    have eg : greedy t S p (d :: ds) (layersF t S n (d :: ds) (u :: us)).tail here left =
        if 0 < (keptL t S d ((layersF t S n ds us).headD []) here left).length then p :: greedy t S (p + 1) ds (layersF t S n ds us).tail (keptL t S d ((layersF t S n ds us).headD []) here left) (left - 1)
        else greedy t S (p + 1) ds (layersF t S n ds us).tail (stay ((layersF t S n ds us).headD []) here left) left := by
      have e1 : (layersF t S n (d :: ds) (u :: us)).tail = layersF t S n ds us := by
        show (layer t S n d u ((layersF t S n ds us).headD []) :: layersF t S n ds us).tail = _
        rfl
      rw [e1]
      conv => lhs; rw [ne]
      rfl
    rw [eg]
    generalize hL : (layersF t S n ds us).headD [] = L at *
    have fitH : ∀ E ∈ here, fits E u = true := fun E hE => by
      obtain ⟨_, bs, hl, ho, hm, _⟩ := h1 E hE
      cases bs with
      | nil => simp at hl
      | cons b bs => rw [← hm]; exact ho.1
    have memK : ∀ E, E ∈ keptL t S d L here left ↔ ∃ k, lookA L E = some k ∧ k + 1 = left ∧ withD t S d E ∈ here := fun E => by
      unfold keptL
      constructor
      · intro h
        obtain ⟨x, hx, e⟩ := List.mem_map.mp h
        obtain ⟨hx1, hx2⟩ := List.mem_filter.mp hx
        rw [Bool.and_eq_true, decide_eq_true_eq, decide_eq_true_eq] at hx2
        subst e
        exact ⟨x.2, lookA_of_mem LS.nd hx1, hx2⟩
      · rintro ⟨k, a, b, c⟩
        refine List.mem_map.mpr ⟨(E, k), List.mem_filter.mpr ⟨mem_of_lookA a, ?_⟩, rfl⟩
        rw [Bool.and_eq_true, decide_eq_true_eq, decide_eq_true_eq]
        exact ⟨b, c⟩
    -- a mask that takes the deed leads to kept
    have takes : ∀ bs : List Bool, bs.length = ds.length → okM t S ds us bs → P (withD t S d (mapM t S ds bs)) → fits (withD t S d (mapM t S ds bs)) u = true → left ≤ cnt bs + 1 ∧ (cnt bs + 1 = left → mapM t S ds bs ∈ keptL t S d L here left) := by
      intro bs hl ho hP hf
      obtain ⟨a, b⟩ := h2 (true :: bs) (by simp [hl]) ⟨hf, ho⟩ hP
      have a' : left ≤ 1 + cnt bs := a
      refine ⟨by omega, fun e => ?_⟩
      have b' := b (show 1 + cnt bs = left by omega)
      obtain ⟨k, hk, hk2⟩ := LS.le bs hl ho
      obtain ⟨bs2, l2, o2, m2, c2⟩ := LS.is _ k hk
      obtain ⟨a2, _⟩ := h2 (true :: bs2) (by simp [l2]) ⟨by show fits (withD t S d (mapM t S ds bs2)) u = true; rw [m2]; exact hf, o2⟩ (by show P (withD t S d (mapM t S ds bs2)); rw [m2]; exact hP)
      have a2' : left ≤ 1 + cnt bs2 := a2
      exact (memK _).mpr ⟨k, hk, by omega, b'⟩
    by_cases hk : 0 < (keptL t S d L here left).length
    · rw [if_pos hk]
      have hk0 : keptL t S d L here left ≠ [] := fun z => by rw [z] at hk; simp at hk
      have hleft : 1 ≤ left := by
        obtain ⟨E, hE⟩ := List.exists_mem_of_ne_nil _ hk0
        obtain ⟨k, _, e, _⟩ := (memK E).mp hE
        omega
      obtain ⟨bs, g1, g2, g3, g4, g5, g6⟩ := greedy_ok (n := n) ds us (p + 1) (keptL t S d L here left) (left - 1) (fun E => P (withD t S d E) ∧ fits (withD t S d E) u = true) hu' (by omega) hk0
        (fun E hE => by
          obtain ⟨k, e1, e2, e3⟩ := (memK E).mp hE
          obtain ⟨bs, l1, o1, m1, c1⟩ := LS.is E k e1
          exact ⟨⟨(h1 _ e3).1, fitH _ e3⟩, bs, l1, o1, m1, by omega⟩)
        (fun bs hl ho hP => by
          obtain ⟨a, b⟩ := takes bs hl ho hP.1 hP.2
          exact ⟨by omega, fun e => b (by omega)⟩)
      refine ⟨true :: bs, by simp [g1], ⟨g3.2, g2⟩, g3.1, (show 1 + cnt bs = left by omega), by rw [g5]; rfl, fun bs' hl ho hP hc => ?_⟩
      cases bs' with
      | nil => simp at hl
      | cons b bs' =>
        cases b with
        | true =>
          have hc' : 1 + cnt bs' = left := hc
          have := g6 bs' (by simpa using hl) ho.2 ⟨hP, ho.1⟩ (by omega)
          show lexlt (p :: places (p + 1) bs') (p :: places (p + 1) bs) = false
          unfold lexlt
          rw [if_pos rfl]; exact this
        | false =>
          have hc' : 0 + cnt bs' = left := hc
          show lexlt (places (p + 1) bs') (p :: places (p + 1) bs) = false
          cases q : places (p + 1) bs' with
          | nil =>
            have := places_length bs' (p + 1)
            rw [q] at this
            simp at this
            omega
          | cons x r =>
            have := places_ge bs' (p + 1) x (by rw [q]; exact List.mem_cons_self)
            unfold lexlt
            rw [if_neg (by omega)]
            exact decide_eq_false (by omega)
    · rw [if_neg hk]
      have hk0 : keptL t S d L here left = [] := List.eq_nil_of_length_eq_zero (by omega)
      have notake : ∀ bs : List Bool, bs.length = ds.length → okM t S (d :: ds) (u :: us) (true :: bs) → P (mapM t S (d :: ds) (true :: bs)) → cnt (true :: bs) = left → False := by
        intro bs hl ho hP hc
        have hc' : 1 + cnt bs = left := hc
        have := (takes bs hl ho.2 hP ho.1).2 (by omega)
        rw [hk0] at this
        exact nomatch this
      have memS : ∀ E, E ∈ stay L here left ↔ E ∈ here ∧ lookA L E = some left := fun E => by
        unfold stay
        rw [List.mem_filter, decide_eq_true_eq]
      have skips : ∀ bs : List Bool, bs.length = ds.length → okM t S ds us bs → P (mapM t S ds bs) → fits (mapM t S ds bs) u = true → left ≤ cnt bs ∧ (cnt bs = left → mapM t S ds bs ∈ stay L here left) := by
        intro bs hl ho hP hf
        obtain ⟨a, b⟩ := h2 (false :: bs) (by simp [hl]) ⟨hf, ho⟩ hP
        have a' : left ≤ 0 + cnt bs := a
        refine ⟨by omega, fun e => ?_⟩
        have b' := b (show 0 + cnt bs = left by omega)
        obtain ⟨k, hkk, hk2⟩ := LS.le bs hl ho
        obtain ⟨bs2, l2, o2, m2, c2⟩ := LS.is _ k hkk
        obtain ⟨a2, _⟩ := h2 (false :: bs2) (by simp [l2]) ⟨by show fits (mapM t S ds bs2) u = true; rw [m2]; exact hf, o2⟩ (by show P (mapM t S ds bs2); rw [m2]; exact hP)
        have a2' : left ≤ 0 + cnt bs2 := a2
        have e2 : k = left := by omega
        subst e2
        exact (memS _).mpr ⟨b', hkk⟩
      have s0 : stay L here left ≠ [] := by
        obtain ⟨E, hE⟩ := List.exists_mem_of_ne_nil _ h0
        obtain ⟨hP, bs, hl, ho, hm, hc⟩ := h1 E hE
        cases bs with
        | nil => simp at hl
        | cons b bs =>
          cases b with
          | true => exact (notake bs (by simpa using hl) ho (by rw [hm]; exact hP) hc).elim
          | false =>
            have hc' : 0 + cnt bs = left := hc
            have hm' : mapM t S ds bs = E := hm
            have := (skips bs (by simpa using hl) ho.2 (by rw [hm']; exact hP) ho.1).2 (by omega)
            exact List.ne_nil_of_mem this
      obtain ⟨bs, g1, g2, g3, g4, g5, g6⟩ := greedy_ok (n := n) ds us (p + 1) (stay L here left) left (fun E => P E ∧ fits E u = true) hu' (by omega) s0
        (fun E hE => by
          obtain ⟨e1, e2⟩ := (memS E).mp hE
          obtain ⟨bs, l1, o1, m1, c1⟩ := LS.is E left e2
          exact ⟨⟨(h1 _ e1).1, fitH _ e1⟩, bs, l1, o1, m1, c1⟩)
        (fun bs hl ho hP => skips bs hl ho hP.1 hP.2)
      refine ⟨false :: bs, by simp [g1], ⟨g3.2, g2⟩, g3.1, (show 0 + cnt bs = left by omega), by rw [g5]; rfl, fun bs' hl ho hP hc => ?_⟩
      cases bs' with
      | nil => simp at hl
      | cons b bs' =>
        cases b with
        | true => exact (notake bs' (by simpa using hl) ho hP hc).elim
        | false =>
          have hc' : 0 + cnt bs' = left := hc
          exact g6 bs' (by simpa using hl) ho.2 ⟨hP, ho.1⟩ (by omega)

/-! ### lots and masks, the dues and the copies -/
theorem filter_places : ∀ (bs : List Bool) (p a : Nat), p ≤ a → (places p bs).filter (fun x => decide (a ≤ x)) = places a (bs.drop (a - p))
  | [], p, a, _ => by simp [places]
  | b :: bs, p, a, h => by
    by_cases e : a = p
    · subst e
      rw [Nat.sub_self, List.drop_zero]
      exact List.filter_eq_self.mpr fun x hx => decide_eq_true (places_ge _ _ x hx).1
    · have h2 : p + 1 ≤ a := by omega
      have e2 : a - p = (a - (p + 1)) + 1 := by omega
      rw [e2, List.drop_succ_cons, ← filter_places bs (p + 1) a h2]
      cases b with
      | false => rfl
      | true =>
        show (p :: places (p + 1) bs).filter _ = _
        rw [List.filter_cons, if_neg]
        simp
        omega
section
variable {t : Tabs} {S : Nat}
theorem nx_lt (W : Wf t S) {d s : Nat} (hd : d < t.length) (hs : s < S) : nx t d s < S := by
  obtain ⟨h1, h2⟩ := W d hd
  unfold nx
  apply h2
  generalize t.getD d [] = r at h1 ⊢
  rw [List.getD_eq_getElem?_getD, List.getElem?_eq_getElem (by omega)]
  exact List.getElem_mem _
theorem led_lt (W : Wf t S) : ∀ (log : List Nat) {s : Nat}, (∀ d ∈ log, d < t.length) → s < S → led t s log < S
  | [], s, _, hs => hs
  | d :: ds, s, hd, hs => led_lt W ds (fun x hx => hd x (List.mem_cons_of_mem _ hx)) (nx_lt W (hd d List.mem_cons_self) hs)
theorem range_getD {f : Nat → Nat} {s : Nat} (hs : s < S) : ((List.range S).map f).getD s 0 = f s := by
  rw [List.getD_eq_getElem?_getD, List.getElem?_map, List.getElem?_range hs]
  rfl
theorem led_places (W : Wf t S) {log : List Nat} (hlog : ∀ d ∈ log, d < t.length) : ∀ (bs : List Bool) (a s : Nat), bs.length = (log.drop a).length → s < S →
    led t s (picked log (places a bs)) = (mapM t S (log.drop a) bs).getD s 0
  | [], a, s, hl, hs => by
    have e : log.drop a = [] := List.eq_nil_of_length_eq_zero hl.symm
    rw [e]
    show s = (idle S).getD s 0
    unfold idle
    rw [List.getD_eq_getElem?_getD, List.getElem?_range hs]
    rfl
  | b :: bs, a, s, hl, hs => by
    have ha : a < log.length := by
      rw [List.length_drop, List.length_cons] at hl
      omega
    have ed : log.drop a = log.getD a 0 :: log.drop (a + 1) := by
      rw [List.drop_eq_getElem_cons ha, List.getD_eq_getElem?_getD, List.getElem?_eq_getElem ha]
      rfl
    have hl2 : bs.length = (log.drop (a + 1)).length := by
      rw [List.length_drop, List.length_cons] at hl
      rw [List.length_drop]
      omega
    have hd : log.getD a 0 < t.length := by
      apply hlog
      rw [List.getD_eq_getElem?_getD, List.getElem?_eq_getElem ha]
      exact List.getElem_mem _
    rw [ed]
    cases b with
    | false => exact led_places W hlog bs (a + 1) s hl2 hs
    | true =>
      show led t (nx t (log.getD a 0) s) (picked log (places (a + 1) bs)) = (withD t S (log.getD a 0) (mapM t S (log.drop (a + 1)) bs)).getD s 0
      rw [led_places W hlog bs (a + 1) _ hl2 (nx_lt W hd hs)]
      unfold withD
      rw [range_getD hs]
theorem okM_iff : ∀ (ds : List Nat) (us : List Due) (bs : List Bool), bs.length = ds.length → ds.length ≤ us.length →
    (okM t S ds us bs ↔ ∀ i, i < ds.length → fits (mapM t S (ds.drop i) (bs.drop i)) (us.getD i []) = true)
  | [], us, bs, _, _ => ⟨fun _ i hi => absurd hi (Nat.not_lt_zero _), fun _ => by unfold okM; trivial⟩
  | d :: ds, [], bs, _, h => by simp at h
  | d :: ds, u :: us, [], h, _ => by simp at h
  | d :: ds, u :: us, b :: bs, h, h' => by
    have ih := okM_iff ds us bs (by simpa using h) (by simpa using h')
    constructor
    · rintro ⟨h1, h2⟩ i hi
      cases i with
      | zero => exact h1
      | succ i => exact ih.mp h2 i (by simpa using hi)
    · intro q
      refine ⟨q 0 (by simp), ih.mpr fun i hi => ?_⟩
      exact q (i + 1) (by simpa using hi)
theorem due_mem {log : List Nat} {a : Nat} : ∀ (cs : List (Nat × Nat)) (acc : Due), (∀ p ∈ acc, p.2 = led t p.1 (log.drop a)) → ∀ p,
    p ∈ cs.foldl (fun acc c => if c.2 = a then putA acc c.1 (led t c.1 (log.drop a)) else acc) acc ↔ p ∈ acc ∨ (p.2 = led t p.1 (log.drop a) ∧ ∃ c ∈ cs, c.2 = a ∧ c.1 = p.1)
  | [], acc, _, p => ⟨fun h => .inl h, fun h => h.elim id fun ⟨_, c, hc, _⟩ => nomatch hc⟩
  | c :: cs, acc, hf, p => by
    rw [List.foldl_cons]
    by_cases e : c.2 = a
    · rw [if_pos e]
      have hput : ∀ q, q ∈ putA acc c.1 (led t c.1 (log.drop a)) ↔ q ∈ acc ∨ q = (c.1, led t c.1 (log.drop a)) := fun q => by
        unfold putA
        by_cases k : (acc.any fun p => decide (p.1 = c.1)) = true
        · rw [if_pos k]
          have em : (acc.map fun p => if p.1 = c.1 then (p.1, led t c.1 (log.drop a)) else p) = acc := by
            conv => rhs; rw [← List.map_id acc]
            apply List.map_congr_left
            intro r hr
            by_cases er : r.1 = c.1
            · rw [if_pos er]
              have := hf r hr
              show (r.1, led t c.1 (log.drop a)) = r
              rw [← er, ← this]
            · rw [if_neg er]; rfl
          rw [em]
          refine ⟨fun h => .inl h, fun h => h.elim id fun h => ?_⟩
          obtain ⟨r, hr, er⟩ := List.any_eq_true.mp k
          have er : r.1 = c.1 := of_decide_eq_true er
          have := hf r hr
          rw [h, ← er, ← this]; exact hr
        · rw [if_neg k, List.mem_append]
          simp
      have hf2 : ∀ p ∈ putA acc c.1 (led t c.1 (log.drop a)), p.2 = led t p.1 (log.drop a) := fun q hq => by
        rcases (hput q).mp hq with h | h
        · exact hf q h
        · rw [h]
      rw [due_mem cs _ hf2 p, hput]
      constructor
      · rintro ((h | h) | ⟨h1, x, hx, h2⟩)
        · exact .inl h
        · refine .inr ⟨by rw [h], c, List.mem_cons_self, e, by rw [h]⟩
        · exact .inr ⟨h1, x, List.mem_cons_of_mem _ hx, h2⟩
      · rintro (h | ⟨h1, x, hx, h2, h3⟩)
        · exact .inl (.inl h)
        · rcases List.mem_cons.mp hx with ex | hx
          · subst ex
            refine .inl (.inr ?_)
            rw [h3]
            exact Prod.ext rfl h1
          · exact .inr ⟨h1, x, hx, h2, h3⟩
    · rw [if_neg e, due_mem cs acc hf p]
      constructor
      · rintro (h | ⟨h1, x, hx, h2⟩)
        · exact .inl h
        · exact .inr ⟨h1, x, List.mem_cons_of_mem _ hx, h2⟩
      · rintro (h | ⟨h1, x, hx, h2, h3⟩)
        · exact .inl h
        · rcases List.mem_cons.mp hx with ex | hx
          · subst ex
            exact absurd h2 e
          · exact .inr ⟨h1, x, hx, h2, h3⟩
theorem fits_due {log : List Nat} {cs : List (Nat × Nat)} {a : Nat} {E : List Nat} : fits E (dueAt t log cs a) = true ↔ ∀ c ∈ cs, c.2 = a → E.getD c.1 0 = led t c.1 (log.drop a) := by
  unfold fits
  rw [List.all_eq_true]
  have hm := due_mem (t := t) (log := log) (a := a) cs [] (fun p hp => nomatch hp)
  constructor
  · intro h c hc e
    have := h (c.1, led t c.1 (log.drop a)) ((hm _).mpr (.inr ⟨rfl, c, hc, e, rfl⟩))
    exact of_decide_eq_true this
  · intro h p hp
    rcases (hm p).mp hp with q | ⟨h1, c, hc, h2, h3⟩
    · exact nomatch q
    · have := h c hc h2
      rw [h3] at this
      exact decide_eq_true (by rw [this, h1])
theorem dues_length {log : List Nat} {cs : List (Nat × Nat)} : (dues t log cs).length = log.length + 1 := by simp [dues]
theorem dues_get {log : List Nat} {cs : List (Nat × Nat)} {i : Nat} (h : i ≤ log.length) : (dues t log cs).getD i [] = dueAt t log cs i := by
  unfold dues
  rw [List.getD_eq_getElem?_getD, List.getElem?_map, List.getElem?_range (by omega)]
  rfl
/-- copies that are ones -/
def CopiesOk (S n : Nat) (cs : List (Nat × Nat)) : Prop := ∀ c ∈ cs, c.1 < S ∧ c.2 ≤ n
theorem enough_mask (W : Wf t S) {log : List Nat} (hlog : ∀ d ∈ log, d < t.length) {cs : List (Nat × Nat)} (hc : CopiesOk S log.length cs) {bs : List Bool} (hl : bs.length = log.length) :
    enough t log cs (places 0 bs) = true ↔ okM t S log (dues t log cs) bs := by
  have key : ∀ c ∈ cs, keptEnd t log (places 0 bs) c.1 c.2 = (mapM t S (log.drop c.2) (bs.drop c.2)).getD c.1 0 := fun c hcc => by
    unfold keptEnd
    rw [filter_places bs 0 c.2 (Nat.zero_le _), Nat.sub_zero]
    exact led_places W hlog (bs.drop c.2) c.2 c.1 (by rw [List.length_drop, List.length_drop, hl]) (hc c hcc).1
  rw [okM_iff log _ bs hl (by rw [dues_length]; omega)]
  unfold enough
  rw [List.all_eq_true]
  constructor
  · intro h i hi
    rw [dues_get (by omega)]
    refine fits_due.mpr fun c hcc e => ?_
    have := of_decide_eq_true (h c hcc)
    rw [key c hcc, e] at this
    exact this
  · intro h c hcc
    refine decide_eq_true ?_
    rw [key c hcc]
    by_cases e : c.2 < log.length
    · have := h c.2 e
      rw [dues_get (by omega)] at this
      exact fits_due.mp this c hcc rfl
    · have h1 : log.drop c.2 = [] := List.drop_eq_nil_of_le (by omega)
      have h2 : bs.drop c.2 = [] := List.drop_eq_nil_of_le (by omega)
      rw [h1, h2]
      show (idle S).getD c.1 0 = c.1
      unfold idle
      rw [List.getD_eq_getElem?_getD, List.getElem?_range (hc c hcc).1]
      rfl
/-- all deeds are enough -/
theorem enough_all (log : List Nat) (cs : List (Nat × Nat)) : enough t log cs (List.range log.length) = true := by
  unfold enough
  rw [List.all_eq_true]
  intro c _
  refine decide_eq_true ?_
  unfold keptEnd
  congr 1
  unfold picked
  apply List.ext_getElem?
  intro i
  have ef : (List.range log.length).filter (fun p => decide (c.2 ≤ p)) = (List.range (log.length - c.2)).map (· + c.2) := by
    generalize log.length = n
    induction n with
    | zero => simp
    | succ n ih =>
      rw [List.range_succ, List.filter_append, ih]
      by_cases h : c.2 ≤ n
      · have e : n + 1 - c.2 = (n - c.2) + 1 := by omega
        rw [e, List.range_succ, List.map_append]
        simp [h]
      · have e : n + 1 - c.2 = n - c.2 := by omega
        rw [e]
        simp [h]
  rw [ef, List.map_map, List.getElem?_map, List.getElem?_drop]
  by_cases h : i < log.length - c.2
  · rw [List.getElem?_range h]
    show some (log.getD (i + c.2) 0) = _
    rw [List.getD_eq_getElem?_getD, Nat.add_comm c.2 i, List.getElem?_eq_getElem (by omega)]
    rfl
  · rw [List.getElem?_eq_none (by simpa using h), List.getElem?_eq_none (by omega)]
    rfl
theorem range_lot (n : Nat) : IsLot n (List.range n) := ⟨List.pairwise_lt_range, fun p hp => List.mem_range.mp hp⟩
/-- THE WAY BACK IS DUE -/
theorem fewest_due (W : Wf t S) {log : List Nat} (hlog : ∀ d ∈ log, d < t.length) {cs : List (Nat × Nat)} (hc : CopiesOk S log.length cs) {left : Nat}
    (h1 : left ∈ ((layersF t S log.length log (dues t log cs)).headD []).map (·.2)) (h2 : ∀ k ∈ ((layersF t S log.length log (dues t log cs)).headD []).map (·.2), left ≤ k) :
    IsDue t log cs (greedy t S 0 log (layersF t S log.length log (dues t log cs)).tail (hereOf ((layersF t S log.length log (dues t log cs)).headD []) left) left) := by
  have hu : log.length ≤ (dues t log cs).length := by rw [dues_length]; omega
  have LS := layersF_head (t := t) (S := S) (n := log.length) hu (Nat.le_refl _)
  generalize hL : (layersF t S log.length log (dues t log cs)).headD [] = L at *
  have memH : ∀ E, E ∈ hereOf L left ↔ lookA L E = some left := fun E => by
    unfold hereOf
    rw [List.mem_filter, decide_eq_true_eq]
    exact ⟨fun h => h.2, fun h => ⟨mem_keys_of_lookA h, h⟩⟩
  have least : ∀ bs : List Bool, bs.length = log.length → okM t S log (dues t log cs) bs → left ≤ cnt bs ∧ (cnt bs = left → mapM t S log bs ∈ hereOf L left) := fun bs hl ho => by
    obtain ⟨k, hk, hk2⟩ := LS.le bs hl ho
    have := h2 k (List.mem_map.mpr ⟨_, mem_of_lookA hk, rfl⟩)
    refine ⟨by omega, fun e => (memH _).mpr ?_⟩
    have : k = left := by omega
    rw [hk, this]
  obtain ⟨bs, g1, g2, _, g4, g5, g6⟩ := greedy_ok (t := t) (S := S) (n := log.length) log (dues t log cs) 0 (hereOf L left) left (fun _ => True) hu (Nat.le_refl _)
    (by
      obtain ⟨x, hx, e⟩ := List.mem_map.mp h1
      exact List.ne_nil_of_mem ((memH x.1).mpr (by rw [← e]; exact lookA_of_mem LS.nd hx)))
    (fun E hE => ⟨trivial, LS.is E left ((memH E).mp hE)⟩)
    (fun bs hl ho _ => least bs hl ho)
  rw [g5]
  refine ⟨by rw [← g1]; exact places_lot bs, (enough_mask W hlog hc g1).mpr g2, fun l hl he => ?_⟩
  obtain ⟨bs', m1, m2⟩ := mask_of log.length 0 l hl.1 (fun x hx => ⟨Nat.zero_le _, by have := hl.2 x hx; omega⟩)
  subst m2
  have ho := (enough_mask W hlog hc m1).mp he
  have := (least bs' m1 ho).1
  rw [places_length, places_length]
  exact ⟨by omega, fun e => g6 bs' m1 ho trivial (by omega)⟩
/-- there is one -/
theorem layer0_ne (W : Wf t S) {log : List Nat} (hlog : ∀ d ∈ log, d < t.length) {cs : List (Nat × Nat)} (hc : CopiesOk S log.length cs) : (layersF t S log.length log (dues t log cs)).headD [] ≠ [] := by
  have hu : log.length ≤ (dues t log cs).length := by rw [dues_length]; omega
  have LS := layersF_head (t := t) (S := S) (n := log.length) hu (Nat.le_refl _)
  obtain ⟨bs', m1, m2⟩ := mask_of log.length 0 (List.range log.length) (range_lot _).1 (fun x hx => ⟨Nat.zero_le _, by have := (range_lot _).2 x hx; omega⟩)
  have ho := (enough_mask W hlog hc m1).mp (by rw [m2]; exact enough_all log cs)
  obtain ⟨k, hk, _⟩ := LS.le bs' m1 ho
  exact List.ne_nil_of_mem (mem_of_lookA hk)
end
/-! ### the law's own reckoning: of all lots, the shortest ones first, those that are enough -/
theorem law_due {t : Tabs} {log : List Nat} {cs : List (Nat × Nat)} {ls : List (List Nat)} (hp : ls.Perm (lotsRaw log.length)) (hs : ls.Pairwise fun a b => a.length ≤ b.length) {e : List Nat} {es : List (List Nat)}
    (he : ls.filter (fun l => enough t log cs l) = e :: es) {m : List Nat} (hm : m ∈ (e :: es).filter fun l => decide (l.length = e.length)) (hm2 : ∀ y ∈ (e :: es).filter fun l => decide (l.length = e.length), lexlt y m = false) : IsDue t log cs m := by
  have mem : ∀ l, l ∈ e :: es ↔ IsLot log.length l ∧ enough t log cs l = true := fun l => by
    rw [← he, List.mem_filter, hp.mem_iff, lotsRaw_mem]
  have short : ∀ l ∈ e :: es, e.length ≤ l.length := fun l hl => by
    have q : (e :: es).Pairwise fun a b => a.length ≤ b.length := by rw [← he]; exact hs.filter _
    rcases List.mem_cons.mp hl with h | h
    · rw [h]; exact Nat.le_refl _
    · exact (List.pairwise_cons.mp q).1 l h
  obtain ⟨a1, a2⟩ := List.mem_filter.mp hm
  have a2 : m.length = e.length := of_decide_eq_true a2
  obtain ⟨b1, b2⟩ := (mem m).mp a1
  refine ⟨b1, b2, fun l hl hle => ?_⟩
  have hml := (mem l).mpr ⟨hl, hle⟩
  have := short l hml
  refine ⟨by omega, fun q => hm2 l (List.mem_filter.mpr ⟨hml, decide_eq_true (by omega)⟩)⟩
theorem enough_ne {t : Tabs} {log : List Nat} {cs : List (Nat × Nat)} {ls : List (List Nat)} (hp : ls.Perm (lotsRaw log.length)) : ls.filter (fun l => enough t log cs l) ≠ [] :=
  List.ne_nil_of_mem (List.mem_filter.mpr ⟨hp.mem_iff.mpr (lotsRaw_mem.mpr (range_lot log.length)), enough_all log cs⟩)
/-- ascending, looked at pair by pair -/
theorem adj_iff : ∀ {l : List Nat}, (l.zip l.tail).all (fun p => decide (p.1 < p.2)) = true ↔ l.Pairwise (· < ·)
  | [] => ⟨fun _ => List.Pairwise.nil, fun _ => rfl⟩
  | [x] => ⟨fun _ => List.pairwise_singleton _ _, fun _ => rfl⟩
  | x :: y :: r => by
    have ih := adj_iff (l := y :: r)
    rw [show ((x :: y :: r).zip (x :: y :: r).tail) = (x, y) :: ((y :: r).zip (y :: r).tail) from rfl, List.all_cons, Bool.and_eq_true, ih, decide_eq_true_eq]
    constructor
    · rintro ⟨h1, h2⟩
      refine List.pairwise_cons.mpr ⟨fun z hz => ?_, h2⟩
      rcases List.mem_cons.mp hz with e | hz
      · rw [e]; exact h1
      · exact Nat.lt_trans h1 ((List.pairwise_cons.mp h2).1 z hz)
    · intro h
      obtain ⟨h1, h2⟩ := List.pairwise_cons.mp h
      exact ⟨h1 y List.mem_cons_self, h2⟩
/-- the ascending list of the same members -/
theorem asc_same {a b : List Nat} (ha : a.Pairwise (· < ·)) (hb : b.Pairwise (· < ·)) (h : ∀ x, x ∈ a ↔ x ∈ b) : a = b := by
  induction a generalizing b with
  | nil =>
    cases b with
    | nil => rfl
    | cons y r => exact absurd ((h y).mpr List.mem_cons_self) (by simp)
  | cons x xs ih =>
    cases b with
    | nil => exact absurd ((h x).mp List.mem_cons_self) (by simp)
    | cons y ys =>
      obtain ⟨a1, a2⟩ := List.pairwise_cons.mp ha
      obtain ⟨b1, b2⟩ := List.pairwise_cons.mp hb
      have e : x = y := by
        rcases List.mem_cons.mp ((h x).mp List.mem_cons_self) with q | q
        · exact q
        · rcases List.mem_cons.mp ((h y).mpr List.mem_cons_self) with q2 | q2
          · exact q2.symm
          · have := b1 x q
            have := a1 y q2
            omega
      subst e
      congr 1
      refine ih a2 b2 fun z => ⟨fun hz => ?_, fun hz => ?_⟩
      · rcases List.mem_cons.mp ((h z).mp (List.mem_cons_of_mem _ hz)) with q | q
        · have := a1 z hz
          omega
        · exact q
      · rcases List.mem_cons.mp ((h z).mpr (List.mem_cons_of_mem _ hz)) with q | q
        · have := b1 z hz
          omega
        · exact q
end Ag
set_option Elab.async false
set_option linter.all false
set_option maxRecDepth 100000
namespace Ag
open PySem PySem.Spec PyProof.Rows L2
abbrev Prg : Program := PySem.Challenge.pw_agedcopy_k35_whole_deeds_that_can_be_str
def top (i : Nat) : Stmt := Prg.main.body.getD i (.Pass ⟨0, 0, 0, 0⟩)
abbrev FnP (K : PySem.W.Frag) (x : Str) (st : Stmt) (f : Addr) (fd : FuncData) : Prop := FunD K x x (defArgs st) (defBody st) (defScope st) [] [] f fd
abbrev sIsInt : Stmt := top 10
abbrev sIsNum : Stmt := top 11
abbrev sIsBelow : Stmt := top 12
abbrev sIsSeq : Stmt := top 13
abbrev sIsTable : Stmt := top 15
abbrev sCheckTables : Stmt := top 16
abbrev sInit : Stmt := inClass (top 17) 0
abbrev sCheckLog : Stmt := top 18
abbrev sBehind : Stmt := top 19
abbrev sCheckCopies : Stmt := top 21
abbrev sIsCopy : Stmt := top 22
abbrev sKeptEnd : Stmt := top 24
abbrev sIsLot : Stmt := top 25
abbrev sKeptRight : Stmt := top 26
abbrev sDueEnds : Stmt := top 27
abbrev sDoesFit : Stmt := top 28
abbrev sFewestTables : Stmt := top 29
abbrev sFewestKept : Stmt := top 30
abbrev sBox : Stmt := top 32
abbrev sTake : Stmt := top 33
abbrev sPick : Stmt := top 34
abbrev sTables : Stmt := top 35
abbrev sLed : Stmt := top 36
abbrev sLots : Stmt := top 37
abbrev sIsEnough : Stmt := top 38
abbrev sJudged : Stmt := top 39
abbrev sHeard : Stmt := top 40
abbrev sLaw : Stmt := top 41
end Ag
set_option Elab.async false
set_option linter.all false
set_option maxRecDepth 100000
set_option maxHeartbeats 4000000
namespace Ag
open PySem PySem.Spec PyProof.Rows L2
/-! ### names that stand for built-in things -/
structure Txt (mg : Str → Option Value) : Prop where
  isi : mg "isinstance" = none
  int : mg "int" = none
  bool : mg "bool" = none
  list : mg "list" = none
  tuple : mg "tuple" = none
  len : mg "len" = none
  all : mg "all" = none
  zip : mg "zip" = none
  range : mg "range" = none
  min : mg "min" = none
  repr : mg "repr" = none
  sorted : mg "sorted" = none
  set : mg "set" = none
  abs : mg "abs" = none
  enum : mg "enumerate" = none
  super : mg "super" = none
  ve : mg "ValueError" = none
  mD : ∃ t, mg "MOST_DEEDS" = some (.int 8 t)
  mS : ∃ t, mg "MOST_STATES" = some (.int 12 t)
  mL : ∃ t, mg "MOST_LOG" = some (.int 10000 t)
/-! ### a def's promise, by its name -/
structure Cl (P : Program) (w : World) (K : PySem.W.Frag) (mg : Str → Option Value) (base : Heap) (CX : CXT) (k : Nat) (x : Str) (sp : Sp) : Prop where
  ex : ∃ (f : Addr) (fd : FuncData) (ps : List Str), FnOk P w K mg base CX k f fd ps sp ∧ mg x = some (.ref f) ∧ PySem.W.keepIn K (.ref f) = true ∧ Binds K fd ps []
section
variable {X : Cx} {k j : Nat} {x : Str} {sp : Sp} {t : TA} {e : Expr} {es : List Expr} {p pos : Pos}
theorem pe_cl (c : Cl X.prog X.w X.K X.mg X.base CX0 k x sp) (hr : Room j X.A) (hk : k ≤ j) (hg : Gl X x) (ha : PA X (e :: es) t)
    (hdb : (x == ("__debug__" : Str)) = false := by decide) (he : starEach (e :: es) X.env = (false, eval e X.env) :: starEach es X.env := by rfl) (hpl : (backTo pos (starEach es X.env)).any (·.1) = false := by rfl) :
    PE X (.Call (.Name x p) (e :: es) [] pos) (tCall sp [] E0 t) := by
  obtain ⟨f, fd, ps, F, hm, kp, b⟩ := c.ex
  exact pe_call F (hr.mono hk) hg hm kp b .nil pass0 ha hdb he hpl
theorem pe_clE {E : XK} (c : Cl X.prog X.w X.K X.mg X.base (L2.CX X.prog X.w) k x sp) (hx : Passes (L2.CX X.prog X.w) X E) (hr : Room j X.A) (hk : k ≤ j) (hg : Gl X x) (ha : PA X (e :: es) t)
    (hdb : (x == ("__debug__" : Str)) = false := by decide) (he : starEach (e :: es) X.env = (false, eval e X.env) :: starEach es X.env := by rfl) (hpl : (backTo pos (starEach es X.env)).any (·.1) = false := by rfl) :
    PE X (.Call (.Name x p) (e :: es) [] pos) (tCall sp [] E t) := by
  obtain ⟨f, fd, ps, F, hm, kp, b⟩ := c.ex
  exact pe_call F (hr.mono hk) hg hm kp b .nil hx ha hdb he hpl
end
/-! ### flat things -/
def flatI : V → Bool
  | .non => true
  | .bl _ => true
  | .int _ => true
  | .str _ => true
  | _ => false
def isI : V → Bool
  | .int _ => true
  | _ => false
def ge0 : V → Bool
  | .int i => decide (0 ≤ i)
  | _ => false
def below (m : Int) : V → Bool
  | .int i => decide (0 ≤ i) && decide (i < m)
  | _ => false
def tyI : V → Value
  | .non => .type "NoneType"
  | .bl _ => .type "bool"
  | .int _ => .type "int"
  | _ => .type "str"
def intB : V → Bool
  | .bl _ => true
  | .int _ => true
  | _ => false
def isBl : V → Bool
  | .bl _ => true
  | _ => false
section
variable {K : PySem.W.Frag} {H : Hp} {v : V}
theorem ty_flat (h : flatI v = true) : TyX K H v (tyI v) := by
  cases v with
  | non => exact .base .non
  | bl b => exact .base (.bl b)
  | int i => exact .base (.int i)
  | str x => exact .base (.str x)
  | _ => cases h
theorem kit_int (h : flatI v = true) : PySem.W.kitOne K (tyI v) (.type "int") = some (intB v) := by
  cases v with
  | non => exact kit_ty (show _ = some false by decide +kernel)
  | bl b => exact kit_ty (show _ = some true by decide +kernel)
  | int i => exact kit_ty (show _ = some true by decide +kernel)
  | str x => exact kit_ty (show _ = some false by decide +kernel)
  | _ => cases h
theorem kit_bool (h : flatI v = true) : PySem.W.kitOne K (tyI v) (.type "bool") = some (isBl v) := by
  cases v with
  | non => exact kit_ty (show _ = some false by decide +kernel)
  | bl b => exact kit_ty (show _ = some true by decide +kernel)
  | int i => exact kit_ty (show _ = some false by decide +kernel)
  | str x => exact kit_ty (show _ = some false by decide +kernel)
  | _ => cases h
end
/-! ### is_integer, is_number, is_below -/
def spIsInt : Sp := fun vs H Q _ => ∃ v, vs = [v] ∧ flatI v = true ∧ Q (.bl (isI v)) H
def spIsNum : Sp := fun vs H Q _ => ∃ v, vs = [v] ∧ flatI v = true ∧ Q (.bl (ge0 v)) H
def spIsBelow : Sp := fun vs H Q _ => ∃ v m, vs = [v, .int m] ∧ flatI v = true ∧ Q (.bl (below m v)) H
section
variable {P : Program} {w : World} {K : PySem.W.Frag} {mg : Str → Option Value} {base : Heap} {f : Addr} {fd : FuncData}
theorem cal_of {x : Str} {ps : List Str} {k : Nat} {sp : Sp} {CX : CXT} (F : FnOk P w K mg base CX k f fd ps sp) (hm : mg x = some (.ref f)) (kp : PySem.W.keepIn K (.ref f) = true) (b : Binds K fd ps []) : Cl P w K mg base CX k x sp := ⟨f, fd, ps, F, hm, kp, b⟩
theorem scIsInt : FnScope ["value"] ["value"] (defScope sIsInt) := ⟨rfl, rfl, rfl, by decide +kernel, rfl, by decide +kernel, by decide +kernel⟩
theorem ok_isInt (T : Txt mg) (F : FnP K "is_integer" sIsInt f fd) (hm : mg "is_integer" = some (.ref f)) : Cl P w K mg base CX0 1 "is_integer" spIsInt := by
  refine cal_of (ps := ["value"]) (F.ok scIsInt (fun vs H Q E h => ?_) (fun cdv A outer s H vs Q E hr h => ⟨_, PSs.nox (pss_one (ps_ret
    (pe_and (pe_callB call_isi rfl T.isi (by decide +kernel) (pa_cons (pv 0) (pa_cons (pe_bltn (by rfl) T.int (by decide +kernel) (v := .ty "int") rfl) pa_nil)))
      (pe_one (pe_not (pe_callB call_isi rfl T.isi (by decide +kernel) (pa_cons (pv 0) (pa_cons (pe_bltn (by rfl) T.bool (by decide +kernel) (v := .ty "bool") rfl) pa_nil)))))))), ?_⟩)) hm F.kp (F.bindsN fun _ _ _ _ _ _ us hl => match us, hl with | [_], _ => rfl)
  · obtain ⟨v, rfl, _⟩ := h
    rfl
  · obtain ⟨v, rfl, hv, q⟩ := h
    refine ⟨_, rfl, _, _, _, _, _, rfl, .ty "int", ty_flat hv, kit_int hv, _, rfl, ?_⟩
    refine ite2 (fun c => ?_) (fun c => ?_)
    · refine ⟨_, rfl, _, _, _, _, _, rfl, .ty "bool", ty_flat hv, kit_bool hv, _, rfl, ?_⟩
      cases v with
      | bl b => exact q
      | int i => exact q
      | _ => cases c
    · cases v with
      | bl b => exact absurd rfl c
      | int i => exact absurd rfl c
      | _ => exact q
end
end Ag
set_option Elab.async false
set_option linter.all false
set_option maxRecDepth 100000
set_option maxHeartbeats 4000000
/-! rules: a walk over a list or a tuple, enumerate of a tuple -/
namespace PySem
set_option maxHeartbeats 4000000 in
theorem ag_enum_newT (l : Addr) (items : Array Value) (n : Nat) (dct : Option Addr) (sl : Array (Option Value)) :
    Meets (Builtin.«enumerate.__new__» ⟨[.type "enumerate", .ref l], []⟩) (fun _ R s => s.heap.get? l = some { cls := .type "tuple", dict := dct, data := .seq items n, slots := sl } ∧
      R (.ok (.ret (.ref (s.heap.push { cls := .type "tuple_iterator", data := .fields #[.ref l, .int 0 0] }).objs.size)))
        { s with heap := (s.heap.push { cls := .type "tuple_iterator", data := .fields #[.ref l, .int 0 0] }).push { cls := .type "enumerate", data := .fields #[.none, .bool false, .ref s.heap.objs.size, rawInt 0, .none, .none] } }) :=
  .of_wp fun prog w A R s h => by
    obtain ⟨hp, g, d, tk, os⟩ := s; obtain ⟨hl, h⟩ := h
    have hsub := sub_enumerate
    have hL : Heap.IsTuple (Shared.heap ⟨hp, g, d, tk, os⟩) l items := ⟨_, hl, rfl, n, rfl⟩
    wp_walk using AutoSeq1.wpAny_loadPart' hl
    refine wpAny_stack_any fun st => wpAny_pure ?_
    split
    · rename_i c _ _ _ _ _
      cases (c == Value.type "enumerate")
      · wp_walk using AutoSeq1.wpAny_loadPart' hl, wpAny_pyIter_tuple hL
        exact ⟨_, rfl, h⟩
      · wp_walk using AutoSeq1.wpAny_loadPart' hl, wpAny_pyIter_tuple hL
        exact ⟨_, rfl, h⟩
    · wp_walk using AutoSeq1.wpAny_loadPart' hl, wpAny_pyIter_tuple hL
      exact ⟨_, rfl, h⟩
section
variable {prog : Program} {w : World} {A : Around} {E : Value → Shared → Prop} {s : Shared}
theorem ag_call_enumT {l : Addr} {items : Array Value} {Q : Value → Shared → Prop} (hL : s.heap.IsTuple l items)
    (h : ∀ h', IsEnum h' (s.heap.objs.size + 1) s.heap.objs.size 0 .none → h'.IsTupleIter s.heap.objs.size l 0 → h'.objs.size = s.heap.objs.size + 2 →
      (∀ b o, s.heap.get? b = some o → h'.get? b = some o) → Q (.ref (s.heap.objs.size + 1)) { s with heap := h' }) :
    wpAny (model prog w) A (call (.type "enumerate") [.ref l]) Q E s := by
  obtain ⟨⟨c, dct, dt, sl⟩, hl, hc, n, hd⟩ := hL
  replace hc : c = .type "tuple" := hc
  replace hd : dt = .seq items n := hd
  subst hc hd
  refine callType_new F.called_enumerate (by decide) (F.typeCall_enumerate_1 _) (F.newCall_enumerate_1 _) (fun obj => F.args_object_init_2 obj _) F.entry_enumerate_new
    (ag_enum_newT l items n dct sl) ⟨hl, ?_⟩
  have hz : (s.heap.push { cls := .type "tuple_iterator", data := .fields #[.ref l, .int 0 0] }).objs.size = s.heap.objs.size + 1 := Heap.size_push ..
  show _ ∧ _
  rw [hz]
  have he : IsEnum ((s.heap.push { cls := .type "tuple_iterator", data := .fields #[.ref l, .int 0 0] }).push
      { cls := .type "enumerate", data := .fields #[.none, .bool false, .ref s.heap.objs.size, rawInt 0, .none, .none] }) (s.heap.objs.size + 1) s.heap.objs.size 0 .none := by
    have := Heap.get?_push_size (s.heap.push { cls := .type "tuple_iterator", data := .fields #[.ref l, .int 0 0] })
      (o := { cls := .type "enumerate", data := .fields #[.none, .bool false, .ref s.heap.objs.size, rawInt 0, .none, .none] }) rfl
    rw [hz] at this; exact this
  refine ⟨⟨_, he, rfl⟩, h _ he ⟨_, Heap.get?_push_of_some _ (Heap.get?_push_size _ rfl), rfl, rfl⟩ (by rw [Heap.size_push, hz]) fun b o x => Heap.get?_push_of_some _ (Heap.get?_push_of_some _ x)⟩
end
end PySem
namespace Ag
open PySem PySem.Spec PyProof.Rows L2 RZ
def IteT (K : PySem.W.Frag) (a : Addr) : It :=
  ⟨fun i H => ∃ (xs : List V) (x : V), SqT K H a xs ∧ xs[i]? = some x, fun i H v H' => ∃ T x, v = .ref T ∧ H T = none ∧ H' = upd H T (.tup [.int (i : Nat), x]) ∧ ∀ xs, SqT K H a xs → xs[i]? = some x, fun i H => ∃ xs : List V, SqT K H a xs ∧ xs.length = i⟩
theorem turn_enumT {P : Program} {w : World} {K : PySem.W.Frag} {elts : List Expr} {kk : Nat} {tpos : Pos} (a e it : Addr) :
    Turn P w K (.Tuple elts kk tpos) (IteT K a) [e, it] e (fun i h => (∃ old, IsEnum h e it ((i : Nat) : Int) old) ∧ h.IsTupleIter it a i ∧ e ≠ it ∧ a ≠ it ∧ e ≠ a) where
  mem := List.mem_cons_self
  obj := by
    rintro i h ⟨⟨old, he⟩, ⟨o, ho, _, hd⟩, _⟩ b hb
    rcases List.mem_cons.mp hb with rfl | hb
    · exact ⟨_, he, nofun⟩
    · cases List.mem_singleton.mp hb
      exact ⟨o, ho, fun v z => nomatch hd.symm.trans z⟩
  keep := by
    rintro i h h' ⟨⟨old, he⟩, hi, ne⟩ k
    exact ⟨⟨old, k e List.mem_cons_self _ he⟩, hi.at (k it (List.mem_cons_of_mem _ List.mem_cons_self)), ne⟩
  item := by
    rintro X rfl rfl rfl hc i pins s σ H E I hf ⟨⟨old, he⟩, hit, hne, hai, hea⟩ ⟨xs, x, hq, hx⟩
    obtain ⟨its, rv, p, _⟩ := I.tuple hq
    have p : s.heap.IsTuple a its.toArray := p
    obtain ⟨u, hu, ru⟩ := rv.get hx
    have le : e < s.heap.objs.size := Heap.lt_size he
    have li : it < s.heap.objs.size := let ⟨_, z, _⟩ := hit; Heap.lt_size z
    refine wpAny_pyNext_enum_itemD (Draws.tuple (prog := X.prog) (w := X.w) (A := X.A.in1) (I.ok.hd hc) it a hai its.toArray) he ⟨hit, p⟩ (by rw [List.size_toArray]; exact (List.getElem?_eq_some_iff.mp hu).1) hne (by simp [hne, hea]) fun y h' tk hy ho st' hT _ hk => ?_
    cases hu.symm.trans (show its[i]? = some y by rw [← List.getElem?_toArray]; exact hy)
    refine ⟨_, rfl, wpAny_letOwnedTupleGo_enum (s := { s with heap := h', toks := tk + 1 }) ho fun h2 he2 sb => ?_⟩
    have far : ∀ {b : Addr}, b ∉ [e, it] → b ≠ e ∧ b ≠ it := fun hb => ⟨fun z => hb (z ▸ List.mem_cons_self), fun z => hb (z ▸ List.mem_cons_of_mem _ List.mem_cons_self)⟩
    have pair : ObjOk X.prog X.w (upd H s.heap.objs.size (.tup [.int (i : Nat), x])) h2 s.heap.objs.size (.tup [.int (i : Nat), x]) :=
      ⟨show 2 ≤ sizeLine by decide, [.int i tk, u], .cons ⟨_, rfl⟩ (.cons ru .nil), _, (sb.2 _ (Nat.ne_of_gt le)).trans hT, rfl, _, rfl⟩
    refine ⟨.ref s.heap.objs.size, _, I.turnedNew (ch := [e, it]) (t' := tk + 1) (fun b ob hb z => (sb.2 b (far hb).1).trans (hk b ob (far hb).1 (far hb).2 z)) hf (Nat.le_refl _) pair, rfl,
      ⟨_, x, rfl, I.hok.fresh (Nat.le_refl _), rfl, fun ys hy => by rw [I.tuple_inj hy hq]; exact hx⟩, ⟨⟨u, ?_⟩, st'.1.at fun o z => (sb.2 it (Ne.symm hne)).trans z, hne, hai, hea⟩, fun b hb => ?_⟩
    · rw [Int.natCast_succ]
      exact he2
    · have lb : b < s.heap.objs.size := by
        rcases List.mem_cons.mp hb with z | z
        · exact z ▸ le
        · exact List.mem_singleton.mp z ▸ li
      exact (upd_ne (Nat.ne_of_lt lb)).trans (hf b hb).1
  done := by
    rintro X rfl rfl rfl hc i pins s σ H E I hf ⟨⟨old, he⟩, hit, hne, hai, hea⟩ ⟨xs, hq, hx⟩
    obtain ⟨its, rv, p, _⟩ := I.tuple hq
    have p : s.heap.IsTuple a its.toArray := p
    obtain rfl : i = its.toArray.size := by rw [List.size_toArray, ← rv.length]; exact hx.symm
    obtain ⟨f0, f1, f2, f3, f4, f5⟩ := hf it (List.mem_cons_of_mem _ List.mem_cons_self)
    exact wpAny_pyNext_enum_endD (Draws.tuple (prog := X.prog) (w := X.w) (A := X.A.in1) (I.ok.hd hc) it a hai its.toArray) he ⟨hit, p⟩ fun h' k => ⟨rfl, I.turned (t' := s.toks) (fun b o hb z => k b o hb z) f0 f1 f3 f4 f5⟩
  self := by
    rintro A i s Q E ⟨⟨_, he⟩, _⟩ h
    exact wpAny_pyIter_enum he h

/-! ### a list or a tuple -/
def IsSq (H : Hp) (a : Addr) (xs : List V) : Prop := H a = some (.lst xs) ∨ H a = some (.tup xs)
theorem IsSq.keep {H H' : Hp} {a : Addr} {xs : List V} (h : IsSq H a xs) (e : H' a = H a) : IsSq H' a xs := by
  unfold IsSq
  rw [e]; exact h
theorem IsSq.same {H H' : Hp} {a : Addr} {xs : List V} (h : IsSq H a xs) (s : Same H H') : IsSq H' a xs := h.elim (fun h => .inl (s _ _ h)) fun h => .inr (s _ _ h)
theorem same_new {H : Hp} {p : Addr} {o : HO} (hp : H p = none) : Same H (upd H p o) := fun b u h => by rw [upd_ne (ne_of_none h hp)]; exact h
theorem sm_at {H H' : Hp} {a : Addr} {o : HO} (s : Same H H') (h : H a = some o) : H' a = H a := by rw [h]; exact s _ _ h
theorem lenV_sq {K : PySem.W.Frag} {H : Hp} {a : Addr} {xs : List V} (h : IsSq H a xs) : LenV K (.ref a) H xs.length := h.elim (fun h => .inl ⟨xs, .of h, rfl⟩) fun h => .inr ⟨xs, .of h, rfl⟩
theorem ix_sq {K : PySem.W.Frag} {H : Hp} {a : Addr} {xs : List V} {j : Nat} {i : Int} {v : V} {Q : VK} (h : IsSq H a xs) (e : xs[j]? = some v) (ei : i = (j : Int)) (q : Q v H) : rIx K (.ref a) (.int i) H Q := by
  subst ei
  rcases h with h | h
  · exact .inl ⟨a, xs, _, v, rfl, rfl, .of h, atI_nat e, q⟩
  · exact .inr (.inl ⟨a, xs, _, v, rfl, rfl, .of h, atI_nat e, q⟩)
/-- what is walked: a list or a tuple; the walker is told by a Walk -/
def iSq (tl : TE) : TI := fun σ H R => tl σ H fun x H1 => ∃ a xs, x = .ref a ∧ IsSq H1 a xs ∧ ∀ (J : It) (G : Hp → Prop), Walk J xs.length G (YAt xs) → (∀ H', H' a = H1 a → G H') → R J H1
def iEnumSq (ta : TA) : TI := fun σ H R => ta σ H fun vs H1 => ∃ a xs, vs = [.ref a] ∧ IsSq H1 a xs ∧ ∀ (J : It) (G : Hp → Prop), Walk J xs.length G (YPair (fun i => some (.int (i : Nat))) (fun i => xs[i]?)) → (∀ H', H' a = H1 a → G H') → R J H1
theorem walk_enumT {K : PySem.W.Frag} {a : Addr} {xs : List V} : Walk (IteT K a) xs.length (fun H => SqT K H a xs) (YPair (fun i => some (.int (i : Nat))) (fun i => xs[i]?)) := by
  refine ⟨fun i _ hi q => ⟨xs, xs[i], q, by simp [hi]⟩, fun _ q => ⟨xs, q, rfl⟩, fun i H v H' _ q y => ?_⟩
  obtain ⟨T, x, h1, h2, h3, h4⟩ := y
  exact ⟨T, .int (i : Nat), x, h1, h2, h3, rfl, h4 xs q⟩
theorem walk_zipT {K : PySem.W.Frag} {a b : Addr} {xs ys : List V} : Walk (ItzT K a b) (min xs.length ys.length) (fun H => SqT K H a xs ∧ SqT K H b ys) (YPair (fun i => xs[i]?) (fun i => ys[i]?)) := by
  refine ⟨fun i _ hi q => ?_, fun _ q => ⟨xs, ys, q.1, q.2, by omega⟩, fun i H v H' _ q y => ?_⟩
  · have h1 : i < xs.length := by omega
    have h2 : i < ys.length := by omega
    exact ⟨xs, ys, xs[i], ys[i], q.1, q.2, by simp [h1], by simp [h2]⟩
  · obtain ⟨T, x, z, h1, h2, h3, h4, h5⟩ := y
    exact ⟨T, x, z, h1, h2, h3, h4 xs q.1, h5 ys q.2⟩
/-- what is newly made may be walked -/
theorem fp_new {X : Cx} {pins : List (Addr × Obj)} {σ : L2.St} {H : Hp} {s : Shared} (I : Inv X pins σ H s) {l : List Addr} (h : ∀ b ∈ l, s.heap.objs.size ≤ b) : ∀ b ∈ l, FpOk X pins H b := fun b hb => I.fpOk (h b hb) (I.hok.fresh (h b hb))
section
variable {X : Cx} {tg : Expr}
theorem pi_sq {l : Expr} {tl : TE} (hl : PE X l tl) : PI X tg l (iSq tl) := by
  refine ⟨fun pins s σ H R I h => thn (hl.run pins s σ H _ I h) fun v s1 ⟨x, H1, I1, rv, a, xs, ex, hq, q⟩ => ?_⟩
  cases ex
  cases rv
  rcases hq with hq | hq
  · obtain ⟨_, _, p, _⟩ := I1.list (.of hq)
    exact wpAny_pyIter_list p.isList (pi_one (tk := s1.toks) I1 _ (turn_list a _) ⟨_, Heap.get?_push_size _ rfl, rfl, rfl⟩ (q _ _ walk_list fun H' e => .of (e.trans hq)))
  · obtain ⟨its, _, p, _⟩ := I1.tuple (.of hq)
    exact wpAny_pyIter_tuple (items := its.toArray) p (pi_one (tk := s1.toks) I1 _ (turn_tuple a _) ⟨_, Heap.get?_push_size _ rfl, rfl, rfl⟩ (q _ _ walk_tup fun H' e => .of (e.trans hq)))
theorem pi_enumSq {e : Expr} {ta : TA} {p pos tpos : Pos} {elts : List Expr} {kk : Nat} (hg : Gl X "enumerate") (hm : X.mg "enumerate" = none) (ha : PA X [e] ta) (hs : starEach [e] X.env = [(false, eval e X.env)] := by rfl) :
    PI X (.Tuple elts kk tpos) (.Call (.Name "enumerate" p) [e] [] pos) (iEnumSq ta) := by
  refine ⟨fun pins s σ H R I h => Call_ (ld_blt I hg hm boot_enumerate (PyProof.Rows.callWith_type1 (thn (ha.run pos pins s σ H _ I h) fun us s1 ⟨vs, H1, I1, r1, a, xs, ex, hq, q⟩ => ?_) hs rfl))⟩
  cases ex
  obtain ⟨u, rfl, ru⟩ := r1.one
  cases ru
  have new := fp_new I1 (l := [s1.heap.objs.size + 1, s1.heap.objs.size]) (by simp)
  rcases hq with hq | hq
  · obtain ⟨_, _, p', _⟩ := I1.list (.of hq)
    exact call_enumerate_list p'.isList fun h' he hit _ hk => wpAny_pyIter_enum he
      ⟨_, _, _, _, H1, rfl, I1.kept (t' := s1.toks) hk, turn_enum a _ _, ⟨⟨.none, he⟩, hit, Nat.succ_ne_self _⟩, new, q _ _ walk_enum fun H' e => .of (e.trans hq)⟩
  · obtain ⟨its, _, p', _⟩ := I1.tuple (.of hq)
    have lt : a < s1.heap.objs.size := by obtain ⟨_, z, _⟩ := p'; exact Heap.lt_size z
    exact ag_call_enumT (items := its.toArray) p' fun h' he hit _ hk => wpAny_pyIter_enum he
      ⟨_, _, _, _, H1, rfl, I1.kept (t' := s1.toks) hk, turn_enumT a _ _, ⟨⟨.none, he⟩, hit, Nat.succ_ne_self _, Nat.ne_of_lt lt, Nat.ne_of_gt (Nat.lt_succ_of_lt lt)⟩, new, q _ _ walk_enumT fun H' e => .of (e.trans hq)⟩
end
def iZipSq (ta : TA) : TI := fun σ H R => ta σ H fun vs H1 => ∃ a b xs ys, vs = [.ref a, .ref b] ∧ ((H1 a = some (.lst xs) ∧ H1 b = some (.lst ys)) ∨ (H1 a = some (.tup xs) ∧ H1 b = some (.tup ys))) ∧
  ∀ (J : It) (G : Hp → Prop), Walk J (min xs.length ys.length) G (YPair (fun i => xs[i]?) (fun i => ys[i]?)) → (∀ H', H' a = H1 a → H' b = H1 b → G H') → R J H1
theorem pi_zipSq {X : Cx} {e e2 : Expr} {ta : TA} {p pos tpos : Pos} {elts : List Expr} {kk : Nat} (hg : Gl X "zip") (hm : X.mg "zip" = none) (ha : PA X [e, e2] ta)
    (hs : starEach [e, e2] X.env = (false, eval e X.env) :: starEach [e2] X.env := by rfl) (hpl : (backTo pos (starEach [e2] X.env)).any (·.1) = false := by rfl) : PI X (.Tuple elts kk tpos) (.Call (.Name "zip" p) [e, e2] [] pos) (iZipSq ta) := by
  refine ⟨fun pins s σ H R I h => Call_ (ld_blt I hg hm PyProof.Rows.boot_zip (PyProof.Rows.callWith_type1 (thn (ha.run pos pins s σ H _ I h) fun us s1 ⟨vs, H1, I1, r1, a, b, xs, ys, ex, hq, q⟩ => ?_) hs hpl))⟩
  cases ex
  obtain ⟨u, v, rfl, ru, rv⟩ := vals2 r1
  cases ru
  cases rv
  have new := fp_new I1 (l := [s1.heap.objs.size + 4, s1.heap.objs.size + 2, s1.heap.objs.size + 3, s1.heap.objs.size, s1.heap.objs.size + 1]) (by simp)
  rcases hq with ⟨hx, hy⟩ | ⟨hx, hy⟩
  · obtain ⟨_, _, p1, _⟩ := I1.list (.of hx)
    obtain ⟨_, _, p2, _⟩ := I1.list (.of hy)
    exact call_zip_2 p1.isList p2.isList fun h' hz i o h1 h2 _ hk => wpAny_pyIter_zip hz
      ⟨_, _, _, _, H1, rfl, I1.kept (t' := s1.toks) hk, turn_zip (PySem.W.ktu_apart s1.heap.objs.size a b p1.lt p2.lt), ⟨hz, i, ⟨_, _, o⟩, h1, h2⟩, new, q _ _ (walk_zip rfl) fun H' e1 e2 => ⟨.of (e1.trans hx), .of (e2.trans hy)⟩⟩
  · obtain ⟨its, _, p1, _⟩ := I1.tuple (.of hx)
    obtain ⟨its2, _, p2, _⟩ := I1.tuple (.of hy)
    have la : a < s1.heap.objs.size := by obtain ⟨_, z, _⟩ := p1; exact Heap.lt_size z
    have lb : b < s1.heap.objs.size := by obtain ⟨_, z, _⟩ := p2; exact Heap.lt_size z
    exact call_zipT (show s1.heap.IsTuple a its.toArray from p1) (show s1.heap.IsTuple b its2.toArray from p2) fun h' hz i o h1 h2 _ hk => wpAny_pyIter_zip hz
      ⟨_, _, _, _, H1, rfl, I1.kept (t' := s1.toks) hk, turn_zipT (PySem.W.ktu_apart s1.heap.objs.size a b la lb), ⟨hz, i, ⟨_, _, o⟩, h1, h2⟩, new, q _ _ walk_zipT fun H' e1 e2 => ⟨.of (e1.trans hx), .of (e2.trans hy)⟩⟩
end Ag
set_option Elab.async false
set_option linter.all false
set_option maxRecDepth 100000
set_option maxHeartbeats 4000000
namespace Ag
open PySem PySem.Spec PyProof.Rows L2
/-! ### numbers as values -/
def iV (n : Nat) : V := .int (n : Int)
def nV (l : List Nat) : List V := l.map iV
theorem nV_length (l : List Nat) : (nV l).length = l.length := by unfold nV; exact List.length_map _
theorem nV_get {l : List Nat} {j n : Nat} (h : l[j]? = some n) : (nV l)[j]? = some (.int (n : Int)) := by
  unfold nV
  rw [List.getElem?_map, h]
  rfl
theorem nV_of {l : List Nat} {j : Nat} {x : V} (h : (nV l)[j]? = some x) : ∃ n, l[j]? = some n ∧ x = .int (n : Int) := by
  unfold nV at h
  rw [List.getElem?_map] at h
  cases e : l[j]? with
  | none => rw [e] at h; cases h
  | some n => rw [e] at h; exact ⟨n, rfl, (Option.some.inj h).symm⟩
theorem getD_get {l : List Nat} {j : Nat} (h : j < l.length) : l[j]? = some (l.getD j 0) := by
  rw [List.getD_eq_getElem?_getD, List.getElem?_eq_getElem h]
  rfl
theorem take_succ' {α : Type} {l : List α} {i : Nat} {x : α} (h : l[i]? = some x) : l.take (i + 1) = l.take i ++ [x] := by
  rw [List.take_succ, h]
  rfl
/-- tables of numbers, as a list or a tuple of tuples -/
def TabAt (H : Hp) (a : Addr) (t : Tabs) : Prop := ∃ as : List Addr, IsSq H a (as.map V.ref) ∧ as.length = t.length ∧ ∀ i b, as[i]? = some b → H b = some (.tup (nV (t.getD i [])))
theorem TabAt.same {H H' : Hp} {a : Addr} {t : Tabs} (h : TabAt H a t) (s : Same H H') : TabAt H' a t := by
  obtain ⟨as, h1, h2, h3⟩ := h
  exact ⟨as, h1.same s, h2, fun i b e => s _ _ (h3 i b e)⟩
theorem TabAt.row {H : Hp} {a : Addr} {t : Tabs} (h : TabAt H a t) {d : Nat} (hd : d < t.length) : ∃ xs b, IsSq H a xs ∧ xs[d]? = some (.ref b) ∧ H b = some (.tup (nV (t.getD d []))) := by
  obtain ⟨as, h1, h2, h3⟩ := h
  have hl : d < as.length := by omega
  refine ⟨_, as[d], h1, ?_, h3 d _ (List.getElem?_eq_getElem hl)⟩
  rw [List.getElem?_map, List.getElem?_eq_getElem hl]
  rfl
/-! ### what is a sequence -/
inductive SeqK (H : Hp) : V → Bool → Prop
  | sq {a : Addr} {xs : List V} (h : IsSq H a xs) : SeqK H (.ref a) true
  | no {v : V} (h : flatI v = true) : SeqK H v false
def spIsSeq : Sp := fun vs H Q _ => ∃ v b, vs = [v] ∧ SeqK H v b ∧ ∀ H', Same H H' → Q (.bl b) H'
def spLed : Sp := fun vs H Q _ => ∃ (ta la : Addr) (s S : Nat) (t : Tabs) (ds : List Nat), vs = [.ref ta, .int (s : Int), .ref la] ∧ TabAt H ta t ∧ IsSq H la (nV ds) ∧ Wf t S ∧ s < S ∧ (∀ d ∈ ds, d < t.length) ∧ Q (.int (led t s ds : Nat)) H
section
variable {P : Program} {w : World} {K : PySem.W.Frag} {mg : Str → Option Value} {base : Heap} {f : Addr} {fd : FuncData}
theorem kit_seq (h : flatI v = true) : PySem.W.kitAny K (tyI v) [.type "list", .type "tuple"] = some false := by
  have k1 : PySem.W.kitOne K (tyI v) (.type "list") = some false := by
    cases v with
    | non => exact kit_ty (by decide +kernel)
    | bl b => exact kit_ty (show _ = some false by decide +kernel)
    | int i => exact kit_ty (show _ = some false by decide +kernel)
    | str x => exact kit_ty (show _ = some false by decide +kernel)
    | _ => cases h
  have k2 : PySem.W.kitOne K (tyI v) (.type "tuple") = some false := by
    cases v with
    | non => exact kit_ty (by decide +kernel)
    | bl b => exact kit_ty (show _ = some false by decide +kernel)
    | int i => exact kit_ty (show _ = some false by decide +kernel)
    | str x => exact kit_ty (show _ = some false by decide +kernel)
    | _ => cases h
  unfold PySem.W.kitAny
  rw [k1]
  unfold PySem.W.kitAny
  rw [k2]
  rfl
theorem kit_list : PySem.W.kitAny K (.type "list") [.type "list", .type "tuple"] = some true := by
  unfold PySem.W.kitAny
  rw [kit_ty (K := K) (a := "list") (b := "list") (show _ = some true by decide +kernel)]
theorem kit_tuple : PySem.W.kitAny K (.type "tuple") [.type "list", .type "tuple"] = some true := by
  unfold PySem.W.kitAny
  rw [kit_ty (K := K) (a := "tuple") (b := "list") (show _ = some false by decide +kernel)]
  unfold PySem.W.kitAny
  rw [kit_ty (K := K) (a := "tuple") (b := "tuple") (show _ = some true by decide +kernel)]
theorem scIsNum : FnScope ["value"] ["value"] (defScope sIsNum) := ⟨rfl, rfl, rfl, by decide +kernel, rfl, by decide +kernel, by decide +kernel⟩
theorem ok_isNum (C : Cl P w K mg base CX0 1 "is_integer" spIsInt) (F : FnP K "is_number" sIsNum f fd) (hm : mg "is_number" = some (.ref f)) : Cl P w K mg base CX0 2 "is_number" spIsNum := by
  refine cal_of (ps := ["value"]) (F.ok scIsNum (fun vs H Q E h => ?_) (fun cdv A outer s H vs Q E hr h => ⟨_, PSs.nox (pss_one (ps_ret
    (pe_and (pe_cl C hr (by decide) rfl (pa_cons (pv 0) pa_nil)) (pe_one (pe_cmpR op_ge (pv 0) pe_int (nomark _)))))), ?_⟩)) hm F.kp (F.bindsN fun _ _ _ _ _ _ us hl => match us, hl with | [_], _ => rfl)
  · obtain ⟨v, rfl, _⟩ := h
    rfl
  · obtain ⟨v, rfl, hv, q⟩ := h
    refine ⟨_, rfl, v, rfl, hv, _, rfl, ite2 (fun c => ?_) (fun c => ?_)⟩
    · cases v with
      | int i => exact ⟨_, rfl, _, _, rfl, rfl, q⟩
      | _ => cases c
    · cases v with
      | int i => exact absurd rfl c
      | _ => exact q
theorem scIsBelow : FnScope ["value", "most"] ["value", "most"] (defScope sIsBelow) := ⟨rfl, rfl, rfl, by decide +kernel, rfl, by decide +kernel, by decide +kernel⟩
theorem ok_isBelow (C : Cl P w K mg base CX0 2 "is_number" spIsNum) (F : FnP K "is_below" sIsBelow f fd) (hm : mg "is_below" = some (.ref f)) : Cl P w K mg base CX0 3 "is_below" spIsBelow := by
  refine cal_of (ps := ["value", "most"]) (F.ok scIsBelow (fun vs H Q E h => ?_) (fun cdv A outer s H vs Q E hr h => ⟨_, PSs.nox (pss_one (ps_ret
    (pe_and (pe_cl C hr (by decide) rfl (pa_cons (pv 0) pa_nil)) (pe_one (pe_cmpR op_lt (pv 0) (pv 1) (nomark _)))))), ?_⟩)) hm F.kp (F.bindsN fun _ _ _ _ _ _ us hl => match us, hl with | [_, _], _ => rfl)
  · obtain ⟨v, m, rfl, _⟩ := h
    rfl
  · obtain ⟨v, m, rfl, hv, q⟩ := h
    refine ⟨_, rfl, v, rfl, hv, _, rfl, ite2 (fun c => ?_) (fun c => ?_)⟩
    · cases v with
      | int i =>
        refine ⟨_, rfl, _, rfl, _, _, rfl, rfl, ?_⟩
        have c' : decide (0 ≤ i) = true := c
        have e : below m (.int i) = decide (i < m) := by
          show (decide (0 ≤ i) && decide (i < m)) = _
          rw [c', Bool.true_and]
        rw [e] at q; exact q
      | _ => cases c
    · have e : below m v = false := by
        cases v with
        | int i =>
          have c' : decide (0 ≤ i) = false := by simpa [ge0] using c
          show (decide (0 ≤ i) && decide (i < m)) = _
          rw [c', Bool.false_and]
        | _ => rfl
      rw [← e]; exact q
theorem scIsSeq : FnScope ["value"] ["value"] (defScope sIsSeq) := ⟨rfl, rfl, rfl, by decide +kernel, rfl, by decide +kernel, by decide +kernel⟩
theorem ok_isSeq (T : Txt mg) (F : FnP K "is_sequence" sIsSeq f fd) (hm : mg "is_sequence" = some (.ref f)) : Cl P w K mg base CX0 1 "is_sequence" spIsSeq := by
  refine cal_of (ps := ["value"]) (F.ok scIsSeq (fun vs H Q E h => ?_) (fun cdv A outer s H vs Q E hr h => ⟨_, PSs.nox (pss_one (ps_ret
    (pe_callB call_isiT rfl T.isi (by decide +kernel) (pa_cons (pv 0) (pa_cons (pe_tup (pa_cons (pe_bltn (by rfl) T.list (by decide +kernel) (v := .ty "list") rfl) (pa_cons (pe_bltn (by rfl) T.tuple (by decide +kernel) (v := .ty "tuple") rfl) pa_nil))) pa_nil))))), ?_⟩))
    hm F.kp (F.bindsN fun _ _ _ _ _ _ us hl => match us, hl with | [_], _ => rfl)
  · obtain ⟨v, b, rfl, _⟩ := h
    rfl
  · obtain ⟨v, b, rfl, hv, q⟩ := h
    refine ⟨_, rfl, (by show 2 ≤ sizeLine; decide), fun p hp => ?_⟩
    have sm := same_new (o := .tup [.ty "list", .ty "tuple"]) hp
    cases hv with
    | sq h =>
      rcases h with h | h
      · exact ⟨_, p, _, _, _, _, rfl, upd_same, .cons (.ty "list") (.cons (.ty "tuple") .nil), .base (.lst (sm _ _ h)), kit_list, q _ sm⟩
      · exact ⟨_, p, _, _, _, _, rfl, upd_same, .cons (.ty "list") (.cons (.ty "tuple") .nil), .base (.tup (sm _ _ h)), kit_tuple, q _ sm⟩
    | no h => exact ⟨_, p, _, _, _, _, rfl, upd_same, .cons (.ty "list") (.cons (.ty "tuple") .nil), ty_flat h, kit_seq h, q _ sm⟩
theorem led_take {t : Tabs} {s d i : Nat} {ds : List Nat} (h : ds[i]? = some d) : led t s (ds.take (i + 1)) = nx t d (led t s (ds.take i)) := by
  unfold led
  rw [take_succ' h, List.foldl_append]
  rfl
theorem pure_led {N : List Str} {a b c d : Str} (hN : N = [a, b, c, d]) (vs : List V) (H : Hp) (Q : VK) (E : XK) (h : spLed vs H Q E) :
    tSeq (tFor (iSq (tVar 2)) (gName 3) (tAsg (tOp (rIx K) (tOp (rIx K) (tVar 0) (tVar 3)) (tVar 1)) (gName 1))) (tRet (tVar 1)) { nx := fun _ H' => Q .non H', rt := Q } (start N vs) H := by
  subst hN
  obtain ⟨ta, la, s, S, t, ds, rfl, hT, hL, W, hs, hd, q⟩ := h
  refine ⟨_, rfl, la, _, rfl, hL, fun J G wk hG => for_it wk (fun i σ H' => H' = H ∧ ∃ v, σ = [some (.ref ta), some (.int (led t s (ds.take i) : Nat)), some (.ref la), v]) ⟨rfl, none, rfl⟩ (fun i σ H' _ ⟨e, _⟩ => hG _ (by rw [e])) ?_ ?_⟩
  · rintro i x σ H' H2 hi ⟨rfl, v, rfl⟩ ⟨rfl, hx⟩
    obtain ⟨n, hn, rfl⟩ := nV_of hx
    have hdn : n < t.length := hd n (List.mem_of_getElem? hn)
    obtain ⟨xs, b, h1, h2, h3⟩ := hT.row hdn
    have hlt : led t s (ds.take i) < S := led_lt W _ (fun x hx => hd x (List.mem_of_mem_take hx)) hs
    have hrow : led t s (ds.take i) < (t.getD n []).length := by rw [(W n hdn).1]; exact hlt
    refine ⟨_, rfl, _, rfl, ix_sq h1 h2 rfl ⟨_, rfl, ix_sq (.inr h3) (nV_get (getD_get hrow)) rfl ⟨rfl, some (.int (n : Int)), ?_⟩⟩⟩
    rw [led_take hn]
    rfl
  · rintro σ H' ⟨rfl, v, rfl⟩
    refine ⟨_, rfl, ?_⟩
    rw [nV_length, List.take_length]
    exact q
theorem len_led {vs : List V} {H : Hp} {Q : VK} {E : XK} (h : spLed vs H Q E) : vs.length = 3 := by
  obtain ⟨_, _, _, _, _, _, rfl, _⟩ := h
  rfl
theorem scBehind : FnScope ["tables", "state", "log", "deed"] ["tables", "state", "log"] (defScope sBehind) := ⟨rfl, rfl, rfl, by decide +kernel, rfl, by decide +kernel, by decide +kernel⟩
theorem ok_behind (F : FnP K "behind" sBehind f fd) (hm : mg "behind" = some (.ref f)) : Cl P w K mg base CX0 1 "behind" spLed :=
  cal_of (ps := ["tables", "state", "log"]) (F.ok scBehind (fun vs H Q E h => len_led h) (fun cdv A outer s H vs Q E hr h => ⟨_, PSs.nox (pss_cons (ps_for PassesOwn.never rfl (pi_sq (pv 2)) (pg_name (i := 3) scBehind.nd rfl (.inl rfl))
    (pss_one (ps_set (i := 1) scBehind.nd rfl (.inl rfl) (pe_ix ix_seq (pe_ix ix_seq (pv 0) (pv 3) (fun _ _ => rfl)) (pv 1) (fun _ _ => rfl))))) (pss_one (ps_ret (pv 1)))), pure_led rfl vs H Q E h⟩))
    hm F.kp (F.bindsN fun _ _ _ _ _ _ us hl => match us, hl with | [_, _, _], _ => rfl)
theorem scLed : FnScope ["_law_tables_here", "_law_state", "_law_log", "_law_deed"] ["_law_tables_here", "_law_state", "_law_log"] (defScope sLed) := ⟨rfl, rfl, rfl, by decide +kernel, rfl, by decide +kernel, by decide +kernel⟩
theorem ok_led (F : FnP K "_law_led" sLed f fd) (hm : mg "_law_led" = some (.ref f)) : Cl P w K mg base CX0 1 "_law_led" spLed :=
  cal_of (ps := ["_law_tables_here", "_law_state", "_law_log"]) (F.ok scLed (fun vs H Q E h => len_led h) (fun cdv A outer s H vs Q E hr h => ⟨_, PSs.nox (pss_cons (ps_for PassesOwn.never rfl (pi_sq (pv 2)) (pg_name (i := 3) scLed.nd rfl (.inl rfl))
    (pss_one (ps_set (i := 1) scLed.nd rfl (.inl rfl) (pe_ix ix_seq (pe_ix ix_seq (pv 0) (pv 3) (fun _ _ => rfl)) (pv 1) (fun _ _ => rfl))))) (pss_one (ps_ret (pv 1)))), pure_led rfl vs H Q E h⟩))
    hm F.kp (F.bindsN fun _ _ _ _ _ _ us hl => match us, hl with | [_, _, _], _ => rfl)
end
end Ag
set_option Elab.async false
set_option linter.all false
set_option maxRecDepth 100000
set_option maxHeartbeats 4000000
namespace Ag
open PySem PySem.Spec PyProof.Rows L2 RZ
/-! ### heaps -/
theorem sm_upd1 {H H' : Hp} {p : Addr} {o : HO} (s : Same H H') (hp : H p = none) : Same H (upd H' p o) := fun b u h => by
  rw [upd_ne (ne_of_none h hp)]; exact s b u h
theorem sm_new {H H' : Hp} {p : Addr} {o : HO} (s : Same H H') (hp : H' p = none) : Same H (upd H' p o) := s.trans (same_new hp)
theorem same_lock {H H' : Hp} {d : Addr} {u : HO} {o : HO} (hd : H d = some u) (s : Same (upd H d o) H') : Same H (upd H' d u) := fun b v h => by
  by_cases e : b = d
  · subst e
    rw [hd] at h
    rw [upd_same]; exact h
  · rw [upd_ne e]
    exact s b v (by rw [upd_ne e]; exact h)
theorem wl (n : Nat) (h : n ≤ 100000 := by omega) : n < sizeLine := Nat.lt_of_le_of_lt h (by decide)
/-! ### the machine -/
structure MTxt (K : PySem.W.Frag) (mg : Str → Option Value) (C : Addr) : Prop where
  cl : Cls K C
  nT : NoAttr K C "tables"
  nD : NoAttr K C "deeds"
  nS : NoAttr K C "states"
  gC : mg "Machine" = some (.ref C)
def mF (ta : Addr) (d S : Nat) : List (Str × V) := [("tables", .ref ta), ("deeds", .int (d : Int)), ("states", .int (S : Int))]
theorem lk_here {k : Str} {v : V} {r : List (Str × V)} : List.lookup k ((k, v) :: r) = some v := by
  have e : (k == k) = true := beq_self_eq_true k
  simp only [List.lookup, e]
theorem lk_past {k g : Str} {v : V} {r : List (Str × V)} (h : (k == g) = false) : List.lookup k ((g, v) :: r) = List.lookup k r := by
  simp only [List.lookup, h]
theorem mF_t (ta : Addr) (d S : Nat) : (mF ta d S).lookup ("tables" : Str) = some (.ref ta) := lk_here
theorem mF_d (ta : Addr) (d S : Nat) : (mF ta d S).lookup ("deeds" : Str) = some (.int (d : Int)) := (lk_past (by decide +kernel)).trans lk_here
theorem mF_s (ta : Addr) (d S : Nat) : (mF ta d S).lookup ("states" : Str) = some (.int (S : Int)) := (lk_past (by decide +kernel)).trans ((lk_past (by decide +kernel)).trans lk_here)
def MachAt (C : Addr) (H : Hp) (m : Addr) (t : Tabs) (S : Nat) : Prop := ∃ dx ta, H m = some (.ins C dx (mF ta t.length S)) ∧ TabAt H ta t
theorem MachAt.same {C : Addr} {H H' : Hp} {m : Addr} {t : Tabs} {S : Nat} (h : MachAt C H m t S) (s : Same H H') : MachAt C H' m t S := by
  obtain ⟨dx, ta, h1, h2⟩ := h
  exact ⟨dx, ta, s _ _ h1, h2.same s⟩
/-! ### slices -/
theorem slA_drop {K : PySem.W.Frag} {H : Hp} {a : Addr} {xs : List V} {k : Nat} {Q : VK} (h : H a = some (.tup xs)) (hk : k ≤ xs.length) (q : ∀ p H', Same H H' → H' p = some (.tup (xs.drop k)) → Q (.ref p) H') : rSlA K (.ref a) (some (k : Int)) none H Q := by
  refine ⟨a, xs, rfl, .of h, fun hw => ?_, fun _ p hp => ?_⟩
  · have e : k = 0 := by
      have := hw.1
      rw [HT.sIx_nat] at this
      omega
    subst e
    exact q a H (Same.refl _) (by rw [List.drop_zero]; exact h)
  · refine q p _ (same_new hp) ?_
    rw [upd_same]
    unfold cutV
    rw [HT.sIx_nat, HT.sIx_none, Nat.min_eq_left hk, List.take_of_length_le (by rw [List.length_drop]; omega)]
theorem slL_drop {K : PySem.W.Frag} {H : Hp} {a : Addr} {xs : List V} {k : Nat} (hk : k ≤ xs.length) : cutV xs (some (k : Int)) none = xs.drop k := by
  unfold cutV
  rw [HT.sIx_nat, HT.sIx_none, Nat.min_eq_left hk, List.take_of_length_le (by rw [List.length_drop]; omega)]
theorem nV_drop (l : List Nat) (k : Nat) : (nV l).drop k = nV (l.drop k) := by unfold nV; rw [List.map_drop]
/-! ### kept_end -/
def spKeptEnd (C : Addr) : Sp := fun vs H Q _ => ∃ (m la pa : Addr) (s a S : Nat) (t : Tabs) (log lot : List Nat), vs = [.ref m, .ref la, .ref pa, .int (s : Int), .int (a : Int)] ∧ MachAt C H m t S ∧ IsSq H la (nV log) ∧ IsSq H pa (nV lot) ∧ Wf t S ∧ s < S ∧
  (∀ d ∈ log, d < t.length) ∧ (∀ p ∈ lot, p < log.length) ∧ lot.length ≤ 1000 ∧ ∀ H', Same H H' → Q (.int (keptEnd t log lot s a : Nat)) H'
section
variable {P : Program} {w : World} {K : PySem.W.Frag} {mg : Str → Option Value} {base : Heap} {f C : Addr} {fd : FuncData}
abbrev nKeptEnd : List Str := ["machine", "log", "places", "state", "age", "place"]
theorem scKeptEnd : FnScope nKeptEnd ["machine", "log", "places", "state", "age"] (defScope sKeptEnd) := ⟨rfl, rfl, rfl, by decide +kernel, rfl, by decide +kernel, by decide +kernel⟩
theorem picked_take {log lot : List Nat} {a i n : Nat} (h : lot[i]? = some n) : picked log ((lot.take (i + 1)).filter fun p => decide (a ≤ p)) = if a ≤ n then picked log ((lot.take i).filter fun p => decide (a ≤ p)) ++ [log.getD n 0] else picked log ((lot.take i).filter fun p => decide (a ≤ p)) := by
  rw [take_succ' h, List.filter_append]
  unfold picked
  by_cases c : a ≤ n
  · rw [if_pos c, List.map_append]
    simp [c]
  · rw [if_neg c]
    simp [c]
theorem ok_keptEnd (M : MTxt K mg C) (Cb : Cl P w K mg base CX0 1 "behind" spLed) (F : FnP K "kept_end" sKeptEnd f fd) (hm : mg "kept_end" = some (.ref f)) : Cl P w K mg base CX0 2 "kept_end" (spKeptEnd C) := by
  refine cal_of (ps := ["machine", "log", "places", "state", "age"]) (F.ok scKeptEnd (fun vs H Q E h => ?_) (fun cdv A outer s H vs Q E hr h => ⟨_, PSs.nox (pss_one (ps_ret
    (pe_cl Cb hr (by decide) rfl (pa_cons (pe_fld (pv 0) rfl) (pa_cons (pv 3) (pa_cons
      (pe_lc (own := [("place", 5)]) (g := gName 5) (te := tOp (rIx K) (tVar 1) (tVar 5)) rfl scKeptEnd.nd (pi_sq (pv 2)) (blkOk_by (own := [("place", 5)]) (N := nKeptEnd) (sc := defScope sKeptEnd) (by decide +kernel)) (fun _ _ _ _ _ => pg_name (i := 5) scKeptEnd.nd rfl (Or.inl rfl))
        (fun _ _ _ _ _ => pts_one (pt_cmpR op_ge (pv 5) (pv 4) (nomark _))) (fun _ _ _ _ _ => pe_ix ix_seq (pv 1) (pv 5) (fun _ _ => rfl))) pa_nil)))))), ?_⟩))
    hm F.kp (F.bindsN fun _ _ _ _ _ _ us hl => match us, hl with | [_, _, _, _, _], _ => rfl)
  · obtain ⟨_, _, _, _, _, _, _, _, _, rfl, _⟩ := h
    rfl
  · obtain ⟨m, la, pa, s, a, S, t, log, lot, rfl, ⟨dx, ta, hM, hT⟩, hL, hP, W, hs, hd, hp, hz, q⟩ := h
    refine ⟨_, rfl, m, C, dx, _, _, rfl, hM, M.cl, M.nT, mF_t _ _ _, ?_⟩
    refine ⟨_, rfl, _, rfl, pa, _, rfl, hP, fun J G wk hG D hD => lc_it wk (fun i H' => Same H H' ∧ H' D = some (.lst (nV (picked log ((lot.take i).filter fun p => decide (a ≤ p)))))) ⟨same_new hD, upd_same⟩ (fun i H' _ ⟨s1, _⟩ => hG _ (by
      rcases hP with h | h
      · exact sm_at s1 h
      · exact sm_at s1 h)) ?_ ?_⟩
    · rintro i x H1 H2 hi ⟨s1, h1⟩ ⟨rfl, hx⟩
      obtain ⟨n, hn, rfl⟩ := nV_of hx
      have hnl : n < log.length := hp n (List.mem_of_getElem? hn)
      refine ⟨rfl, _, rfl, _, rfl, _, _, rfl, rfl, _, rfl, ?_⟩
      have pt := picked_take (log := log) (a := a) hn
      refine ite2 (fun c => ?_) (fun c => ?_)
      · have c' : a ≤ n := by have := of_decide_eq_true c; omega
        rw [if_pos c'] at pt
        refine ⟨_, rfl, _, rfl, ix_sq (hL.same s1) (nV_get (getD_get hnl)) rfl ⟨_, h1, ?_, sm_upd1 s1 hD, ?_⟩⟩
        · rw [nV_length]
          refine wl _ ?_
          unfold picked
          rw [List.length_map]
          have h1 := List.length_filter_le (fun p => decide (a ≤ p)) (lot.take i)
          have h2 : (lot.take i).length ≤ lot.length := by rw [List.length_take]; omega
          omega
        · rw [upd_same, pt]
          unfold nV
          rw [List.map_append]
          rfl
      · have c' : ¬ a ≤ n := fun z => c (decide_eq_true (by omega))
        rw [if_neg c'] at pt
        exact ⟨s1, by rw [pt]; exact h1⟩
    · rintro H1 ⟨s1, h1⟩
      rw [nV_length, List.take_length] at h1
      exact ⟨ta, D, s, S, t, picked log (lot.filter fun p => decide (a ≤ p)), rfl, hT.same s1, .inl h1, W, hs, fun d hdm => by
        unfold picked at hdm
        obtain ⟨p, hpm, e⟩ := List.mem_map.mp hdm
        have hpl := hp p (List.mem_filter.mp hpm).1
        rw [← e]
        exact hd _ (List.mem_of_getElem? (getD_get hpl)), q _ s1⟩
end
end Ag
set_option Elab.async false
set_option linter.all false
set_option maxRecDepth 100000
set_option maxHeartbeats 4000000
namespace Ag
open PySem PySem.Spec PyProof.Rows L2 RZ
/-! ### copies -/
def pairV (c : Nat × Nat) : List V := [.int (c.1 : Int), .int (c.2 : Int)]
def PairsAt (H : Hp) (a : Addr) (cs : List (Nat × Nat)) : Prop := ∃ as : List Addr, IsSq H a (as.map V.ref) ∧ as.length = cs.length ∧ ∀ (i : Nat) (b : Addr) (c : Nat × Nat), as[i]? = some b → cs[i]? = some c → H b = some (.tup (pairV c))
theorem PairsAt.same {H H' : Hp} {a : Addr} {cs : List (Nat × Nat)} (h : PairsAt H a cs) (s : Same H H') : PairsAt H' a cs := by
  obtain ⟨as, h1, h2, h3⟩ := h
  exact ⟨as, h1.same s, h2, fun i b c e1 e2 => s _ _ (h3 i b c e1 e2)⟩
/-! ### dues -/
def dueV (u : Due) : List (Key × V) := u.map fun p => (Sum.inl (p.1 : Int), V.int (p.2 : Int))
theorem dueV_put (u : Due) (s e : Nat) : putK (dueV u) (Sum.inl (s : Int)) (V.int (e : Int)) = dueV (putA u s e) := by
  have ha : ((dueV u).any fun kv => decide (kv.1 = (Sum.inl (s : Int) : Key))) = u.any fun p => decide (p.1 = s) := by
    unfold dueV
    rw [List.any_map]
    congr 1
    funext p
    show decide ((Sum.inl (p.1 : Int) : Key) = Sum.inl (s : Int)) = _
    by_cases h : p.1 = s
    · subst h; simp
    · have : ¬ (Sum.inl (p.1 : Int) : Key) = Sum.inl (s : Int) := fun z => h (by have := Sum.inl.inj z; omega)
      rw [decide_eq_false this, decide_eq_false h]
  unfold putK putA
  rw [ha]
  by_cases h : (u.any fun p => decide (p.1 = s)) = true
  · rw [if_pos h, if_pos h]
    unfold dueV
    rw [List.map_map, List.map_map]
    apply List.map_congr_left
    intro p _
    show (if (Sum.inl (p.1 : Int) : Key) = Sum.inl (s : Int) then _ else _) = _
    by_cases e : p.1 = s
    · rw [if_pos (by rw [e])]
      show _ = (fun p : Nat × Nat => ((Sum.inl (p.1 : Int) : Key), V.int (p.2 : Int))) (if p.1 = s then _ else _)
      rw [if_pos e]
    · rw [if_neg (fun z => e (by have := Sum.inl.inj z; omega))]
      show _ = (fun p : Nat × Nat => ((Sum.inl (p.1 : Int) : Key), V.int (p.2 : Int))) (if p.1 = s then _ else _)
      rw [if_neg e]
  · rw [if_neg h, if_neg h]
    unfold dueV
    rw [List.map_append]
    rfl
def DuesAt (H : Hp) (a : Addr) (us : List Due) : Prop := ∃ as : List Addr, H a = some (.lst (as.map V.ref)) ∧ as.length = us.length ∧ ∀ (i : Nat) (b : Addr) (u : Due), as[i]? = some b → us[i]? = some u → H b = some (.dK (dueV u))
theorem DuesAt.same {H H' : Hp} {a : Addr} {us : List Due} (h : DuesAt H a us) (s : Same H H') : DuesAt H' a us := by
  obtain ⟨as, h1, h2, h3⟩ := h
  exact ⟨as, s _ _ h1, h2, fun i b c e1 e2 => s _ _ (h3 i b c e1 e2)⟩
/-! ### promises -/
def spIsCopy (C : Addr) : Sp := fun vs H Q _ => ∃ (m la ca : Addr) (S : Nat) (t : Tabs) (log : List V) (x y : V), vs = [.ref m, .ref la, .ref ca] ∧ MachAt C H m t S ∧ IsSq H la log ∧ IsSq H ca [x, y] ∧ flatI x = true ∧ flatI y = true ∧
  Q (.bl (below S x && below (log.length + 1 : Nat) y)) H
def spFit : Sp := fun vs H Q _ => ∃ (ea da : Addr) (E : List Nat) (u : Due), vs = [.ref ea, .ref da] ∧ H ea = some (.tup (nV E)) ∧ H da = some (.dK (dueV u)) ∧ (∀ p ∈ u, p.1 < E.length) ∧ u.length ≤ 1000 ∧ ∀ H', Same H H' → Q (.bl (fits E u)) H'
section
variable {P : Program} {w : World} {K : PySem.W.Frag} {mg : Str → Option Value} {base : Heap} {f C : Addr} {fd : FuncData}
theorem scIsCopy : FnScope ["machine", "log", "copy"] ["machine", "log", "copy"] (defScope sIsCopy) := ⟨rfl, rfl, rfl, by decide +kernel, rfl, by decide +kernel, by decide +kernel⟩
theorem ok_isCopy (T : Txt mg) (M : MTxt K mg C) (Cb : Cl P w K mg base CX0 3 "is_below" spIsBelow) (F : FnP K "is_copy" sIsCopy f fd) (hm : mg "is_copy" = some (.ref f)) : Cl P w K mg base CX0 4 "is_copy" (spIsCopy C) := by
  refine cal_of (ps := ["machine", "log", "copy"]) (F.ok scIsCopy (fun vs H Q E h => ?_) (fun cdv A outer s H vs Q E hr h => ⟨_, PSs.nox (pss_one (ps_ret
    (pe_and (pe_cl Cb hr (by decide) rfl (pa_cons (pe_ix ix_seq (pv 2) pe_int (fun _ _ => rfl)) (pa_cons (pe_fld (pv 0) rfl) pa_nil)))
      (pe_one (pe_cl Cb hr (by decide) rfl (pa_cons (pe_ix ix_seq (pv 2) pe_int (fun _ _ => rfl)) (pa_cons (pe_op op_add (pe_callB call_len rfl T.len boot_len (pa_cons (pv 1) pa_nil)) pe_int) pa_nil))))))), ?_⟩))
    hm F.kp (F.bindsN fun _ _ _ _ _ _ us hl => match us, hl with | [_, _, _], _ => rfl)
  · obtain ⟨_, _, _, _, _, _, _, _, rfl, _⟩ := h
    rfl
  · obtain ⟨m, la, ca, S, t, log, x, y, rfl, ⟨dx, ta, hM, hT⟩, hL, hc, hx, hy, q⟩ := h
    refine ⟨_, rfl, ix_sq (j := 0) hc rfl rfl ⟨_, rfl, m, C, dx, _, _, rfl, hM, M.cl, M.nS, mF_s _ _ _, x, S, rfl, hx, _, rfl, ite2 (fun c => ?_) (fun c => ?_)⟩⟩
    · refine ⟨_, rfl, ix_sq (j := 1) hc rfl rfl ⟨_, rfl, _, _, rfl, lenV_sq hL, _, _, rfl, rfl, y, _, rfl, hy, ?_⟩⟩
      rw [c, Bool.true_and] at q
      exact q
    · have c' : below S x = false := by simpa using c
      rw [c', Bool.false_and] at q
      exact q
/-! does_fit -/
abbrev nFit : List Str := ["ends", "due", "state", "end"]
theorem scFit : FnScope nFit ["ends", "due"] (defScope sDoesFit) := ⟨rfl, rfl, rfl, by decide +kernel, rfl, by decide +kernel, by decide +kernel⟩
theorem ok_fit (T : Txt mg) (F : FnP K "does_fit" sDoesFit f fd) (hm : mg "does_fit" = some (.ref f)) : Cl P w K mg base CX0 1 "does_fit" spFit := by
  refine cal_of (ps := ["ends", "due"]) (F.ok scFit (fun vs H Q E h => ?_) (fun cdv A outer s H vs Q E hr h => ⟨_, PSs.nox (pss_one (ps_ret
    (pe_callB (cr_all rfl) (by rfl) T.all (by decide +kernel) (pa_cons (pe_lock (pe_lc (own := [("state", 2), ("end", 3)]) (g := gTup K 2 (gCons (gName 2) (gCons (gName 3) gNil))) (te := tOp rEq (tOp (rIx K) (tVar 0) (tVar 2)) (tVar 3)) rfl scFit.nd (pi_items (pv 1))
      (blkOk_by (own := [("state", 2), ("end", 3)]) (N := nFit) (sc := defScope sDoesFit) (by decide +kernel)) (fun _ _ _ _ _ => pg_tup rfl (pgs_cons (pg_name (i := 2) scFit.nd rfl (Or.inl rfl)) (pgs_cons (pg_name (i := 3) scFit.nd rfl (Or.inl rfl)) pgs_nil)))
      (fun _ _ _ _ _ => pts_nil) (fun _ _ _ _ _ => pe_cmpR op_eq (pe_ix ix_seq (pv 0) (pv 2) (fun _ _ => rfl)) (pv 3) (nomark _)))) pa_nil)))), ?_⟩))
    hm F.kp (F.bindsN fun _ _ _ _ _ _ us hl => match us, hl with | [_, _], _ => rfl)
  · obtain ⟨_, _, _, _, rfl, _⟩ := h
    rfl
  · obtain ⟨ea, da, E, u, rfl, hE, hD, hu, hz, q⟩ := h
    have ne : ea ≠ da := ne_of hE hD (by intro z; cases z)
    refine ⟨da, _, hD, trivial, fun od => ⟨_, rfl, da, od, _, rfl, upd_same, fun D hDn => lc_it walk_items
      (fun i H' => Same (upd H da (.frz od (.dK (dueV u)))) H' ∧ H' D = some (.lst ((u.take i).map fun p => V.bl (decide (E.getD p.1 0 = p.2))))) ⟨same_new hDn, upd_same⟩ (fun i H' _ ⟨s1, _⟩ => s1 _ _ upd_same) ?_ ?_⟩⟩
    · rintro i x H1 H2 hi ⟨s1, h1⟩ ⟨T', x1, y1, rfl, hT, rfl, e1, e2⟩
      have hl : i < u.length := by
        unfold dueV at hi
        rwa [List.length_map] at hi
      obtain ⟨c, hc⟩ : ∃ c, u[i]? = some c := ⟨u[i], List.getElem?_eq_getElem hl⟩
      have hk : (dueV u)[i]? = some (Sum.inl (c.1 : Int), V.int (c.2 : Int)) := by
        unfold dueV
        rw [List.getElem?_map, hc]
        rfl
      dsimp only at e1 e2
      rw [hk] at e1 e2
      cases e1
      cases e2
      have hcm : c.1 < E.length := hu c (List.mem_of_getElem? hc)
      have neT : ea ≠ T' := ne_of_none (s1 ea _ (by rw [upd_ne ne]; exact hE)) hT
      have hE2 : (upd H1 T' (.tup [V.int (c.1 : Int), V.int (c.2 : Int)])) ea = some (.tup (nV E)) := by
        rw [upd_ne neT]
        exact s1 ea _ (by rw [upd_ne ne]; exact hE)
      refine ⟨T', _, rfl, .of upd_same, rfl, _, _, rfl, _, _, rfl, rfl, rfl, ?_⟩
      refine ⟨_, rfl, _, rfl, ix_sq (.inr hE2) (nV_get (getD_get hcm)) rfl ⟨_, rfl, rfl, ?_⟩⟩
      have neD : D ≠ T' := ne_of_none h1 hT
      refine ⟨_, (by rw [upd_ne neD]; exact h1), ?_, ?_, ?_⟩
      · rw [List.length_map]
        refine wl _ ?_
        rw [List.length_take]
        omega
      · exact sm_upd1 (sm_new s1 hT) hDn
      · rw [upd_same, take_succ' hc, List.map_append]
        have e : decide (V.int (E.getD c.1 0 : Nat) = V.int (c.2 : Int)) = decide (E.getD c.1 0 = c.2) := by
          by_cases z : E.getD c.1 0 = c.2
          · rw [z, decide_eq_true rfl, decide_eq_true rfl]
          · rw [decide_eq_false z, decide_eq_false (fun y => z (by have := V.int.inj y; omega))]
        rw [e]
        rfl
    · rintro H1 ⟨s1, h1⟩
      have e : (dueV u).length = u.length := by unfold dueV; rw [List.length_map]
      rw [e, List.take_length] at h1
      refine ⟨s1 _ _ upd_same, ?_⟩
      have s2 : Same H (upd H1 da (.dK (dueV u))) := same_lock hD s1
      have neD : D ≠ da := fun z => by rw [z, upd_same] at hDn; cases hDn
      refine ⟨D, u.map fun p => decide (E.getD p.1 0 = p.2), rfl, .of (by rw [upd_ne neD, h1, List.map_map]; rfl), ?_⟩
      have e2 : (u.map fun p => decide (E.getD p.1 0 = p.2)).all id = fits E u := by
        unfold fits
        rw [List.all_map]
        rfl
      rw [e2]
      exact q _ s2
end
end Ag
set_option Elab.async false
set_option linter.all false
set_option maxRecDepth 100000
set_option maxHeartbeats 4000000
namespace Ag
open PySem PySem.Spec PyProof.Rows L2 RZ
def spDue (C : Addr) : Sp := fun vs H Q _ => ∃ (m la ca : Addr) (t : Tabs) (S : Nat) (log : List Nat) (cs : List (Nat × Nat)), vs = [.ref m, .ref la, .ref ca] ∧ MachAt C H m t S ∧ H la = some (.tup (nV log)) ∧ PairsAt H ca cs ∧ Wf t S ∧ CopiesOk S log.length cs ∧
  (∀ d ∈ log, d < t.length) ∧ log.length ≤ 100 ∧ cs.length ≤ 100 ∧ ∀ H' fa, Same H H' → DuesAt H' fa (dues t log cs) → Q (.ref fa) H'
def dueF (t : Tabs) (log : List Nat) (cs : List (Nat × Nat)) (a : Nat) : Due := cs.foldl (fun acc c => if c.2 = a then putA acc c.1 (led t c.1 (log.drop a)) else acc) []
theorem dueF_succ {t : Tabs} {log : List Nat} {cs : List (Nat × Nat)} {i : Nat} {c : Nat × Nat} (h : cs[i]? = some c) (a : Nat) :
    dueF t log (cs.take (i + 1)) a = if c.2 = a then putA (dueF t log (cs.take i) a) c.1 (led t c.1 (log.drop a)) else dueF t log (cs.take i) a := by
  unfold dueF
  rw [take_succ' h, List.foldl_append]
  rfl
theorem dueF_len {t : Tabs} {log : List Nat} {a : Nat} : ∀ (cs : List (Nat × Nat)) (acc : Due), (cs.foldl (fun acc c => if c.2 = a then putA acc c.1 (led t c.1 (log.drop a)) else acc) acc).length ≤ acc.length + cs.length
  | [], acc => Nat.le_refl _
  | c :: cs, acc => by
    rw [List.foldl_cons]
    have := dueF_len (t := t) (log := log) (a := a) cs (if c.2 = a then putA acc c.1 (led t c.1 (log.drop a)) else acc)
    rw [List.length_cons]
    by_cases e : c.2 = a
    · rw [if_pos e] at this ⊢
      have := length_putA acc c.1 (led t c.1 (log.drop a))
      omega
    · rw [if_neg e] at this ⊢
      omega
section
variable {P : Program} {w : World} {K : PySem.W.Frag} {mg : Str → Option Value} {base : Heap} {f C : Addr} {fd : FuncData}
abbrev nDueEnds : List Str := ["machine", "log", "copies", "age", "found", "state"]
theorem scDueEnds : FnScope nDueEnds ["machine", "log", "copies"] (defScope sDueEnds) := ⟨rfl, rfl, rfl, by decide +kernel, rfl, by decide +kernel, by decide +kernel⟩
theorem ok_dueEnds (T : Txt mg) (M : MTxt K mg C) (Cb : Cl P w K mg base CX0 1 "behind" spLed) (F : FnP K "due_ends" sDueEnds f fd) (hm : mg "due_ends" = some (.ref f)) : Cl P w K mg base CX0 2 "due_ends" (spDue C) := by
  refine cal_of (ps := ["machine", "log", "copies"]) (F.ok scDueEnds (fun vs H Q E h => ?_) (fun cdv A outer s H vs Q E hr h => ⟨_, PSs.nox
    (pss_cons (ps_setLc (i := 4) (own := [("age", 3)]) (g := gName 3) rfl scDueEnds.nd rfl rfl (sw_true rfl rfl rfl (by decide +kernel))
      (pi_range1 rfl T.range (pa_cons (pe_op op_add (pe_callB call_len rfl T.len boot_len (pa_cons (pv 1) pa_nil)) pe_int) pa_nil))
      (blkOk_by (own := [("age", 3)]) (N := nDueEnds) (sc := defScope sDueEnds) (by decide +kernel)) (fun _ _ _ _ _ => pg_name (i := 3) scDueEnds.nd rfl (Or.inl rfl)) (fun _ _ _ _ _ => pts_nil) (fun _ _ _ _ _ => pe_dnewK))
    (pss_cons (ps_for PassesOwn.never rfl (pi_sq (pv 2)) (pg_tup rfl (pgs_cons (pg_name (i := 5) scDueEnds.nd rfl (.inl rfl)) (pgs_cons (pg_name (i := 3) scDueEnds.nd rfl (.inl rfl)) pgs_nil)))
      (pss_one (ps_dput (hu_of hr) (pe_ix ix_seq (pv 4) (pv 3) (fun _ _ => rfl)) (pv 5)
        (pe_cl Cb hr (by decide) rfl (pa_cons (pe_fld (pv 0) rfl) (pa_cons (pv 5) (pa_cons (pe_slice sl_tupA (pv 1) (po_some (pv 3)) po_none) pa_nil)))) rfl)))
    (pss_one (ps_ret (pv 4))))), ?_⟩))
    hm F.kp (F.bindsN fun _ _ _ _ _ _ us hl => match us, hl with | [_, _, _], _ => rfl)
  · obtain ⟨_, _, _, _, _, _, _, rfl, _⟩ := h
    rfl
  · obtain ⟨m, la, ca, t, S, log, cs, rfl, hMa, hL, hC, W, hco, hd, hz, hzc, q⟩ := h
    obtain ⟨dx, ta, hM, hT⟩ := id hMa
    refine ⟨_, rfl, _, _, rfl, .inr ⟨_, .of hL, rfl⟩, _, _, rfl, rfl, _, rfl, ?_, ?_, fun D hD => ?_⟩
    · rw [nV_length]; show -(2 ^ 62 : Int) ≤ (log.length : Int) + 1; omega
    · rw [nV_length]; show (log.length : Int) + 1 < 2 ^ 62; omega
    have en : ((((nV log).length : Nat) : Int) + 1).toNat = log.length + 1 := by rw [nV_length]; omega
    refine lc_it walk_range (fun i H' => ∃ as : List Addr, as.length = i ∧ H' D = some (.lst (as.map V.ref)) ∧ as.Nodup ∧ D ∉ as ∧ (∀ b ∈ as, H b = none ∧ H' b = some (.dK [])) ∧ Same H H')
      ⟨[], rfl, upd_same, List.nodup_nil, List.not_mem_nil, fun b hb => absurd hb List.not_mem_nil, same_new hD⟩ (fun _ _ _ _ => trivial) ?_ ?_
    · rintro i x H1 H2 hi ⟨as, a1, a2, a3, a4, a5, a6⟩ ⟨rfl, rfl⟩
      refine ⟨rfl, fun p hp => ?_⟩
      have hDp : D ≠ p := ne_of_none a2 hp
      refine ⟨_, (by rw [upd_ne hDp]; exact a2), ?_, as ++ [p], by simp [a1], ?_, ?_, ?_, ?_, sm_upd1 (sm_new a6 hp) hD⟩
      · rw [List.length_map]
        refine wl _ ?_
        rw [en] at hi
        omega
      · rw [upd_same, List.map_append]; rfl
      · refine List.nodup_append.mpr ⟨a3, by simp, fun x hx y hy e => ?_⟩
        have ey : y = p := by simpa using hy
        rw [e, ey] at hx
        have := (a5 p hx).2
        rw [hp] at this; cases this
      · intro hm
        rcases List.mem_append.mp hm with h | h
        · exact a4 h
        · exact hDp (by simpa using h)
      · intro b hb
        rcases List.mem_append.mp hb with h | h
        · have hbD : b ≠ D := fun e => a4 (e ▸ h)
          obtain ⟨b1, b2⟩ := a5 b h
          exact ⟨b1, by rw [upd_ne hbD, upd_ne (ne_of_none b2 hp)]; exact b2⟩
        · have e : b = p := by simpa using h
          subst e
          refine ⟨?_, by rw [upd_ne (Ne.symm hDp), upd_same]⟩
          exact Same.free a6 hp
    · rintro H1 ⟨as, a1, a2, a3, a4, a5, a6⟩
      rw [en] at a1
      obtain ⟨bs, hB, hBl, hBp⟩ := id (hC.same a6)
      refine ⟨_, rfl, ca, _, rfl, hB, fun J G wk hG => for_it wk (fun i σ H' => (∃ v3 v5, σ = [some (.ref m), some (.ref la), some (.ref ca), v3, some (.ref D), v5]) ∧ H' D = some (.lst (as.map V.ref)) ∧
        (∀ (j : Nat) (b : Addr), as[j]? = some b → H' b = some (.dK (dueV (dueF t log (cs.take i) j)))) ∧ Same H H')
        ⟨⟨none, none, rfl⟩, a2, fun j b hb => (a5 b (List.mem_of_getElem? hb)).2, a6⟩ (fun i σ H' _ ⟨_, _, _, s1⟩ => hG _ ?_) ?_ ?_⟩
      · obtain ⟨cs', c1, _⟩ := hC
        rcases c1 with h | h
        · rw [s1 _ _ h, a6 _ _ h]
        · rw [s1 _ _ h, a6 _ _ h]
      · rintro i x σ H9 H2 hi ⟨⟨v3, v5, rfl⟩, b2, b3, b4⟩ ⟨rfl, hx⟩
        rw [List.getElem?_map] at hx
        have hib : i < bs.length := by rw [List.length_map] at hi; exact hi
        rw [List.getElem?_eq_getElem hib] at hx
        cases hx
        obtain ⟨c, hc⟩ : ∃ c, cs[i]? = some c := ⟨cs[i]'(by omega), List.getElem?_eq_getElem (by omega)⟩
        have hcm := List.mem_of_getElem? hc
        obtain ⟨c1, c2⟩ := hco c hcm
        have hpair : H2 bs[i] = some (.tup (pairV c)) := by
          obtain ⟨cs', d1, d2, d3⟩ := hC
          have e1 := hBp i bs[i] c (List.getElem?_eq_getElem hib) hc
          have e0 : H bs[i] = some (.tup (pairV c)) := by
            have sq := d1.same a6
            have eas : bs.map V.ref = cs'.map V.ref := by
              rcases hB with h | h <;> rcases sq with h' | h' <;> rw [h] at h'
              · exact HO.lst.inj (Option.some.inj h')
              · exact nomatch Option.some.inj h'
              · exact nomatch Option.some.inj h'
              · exact HO.tup.inj (Option.some.inj h')
            have : (bs.map V.ref)[i]? = (cs'.map V.ref)[i]? := by rw [eas]
            rw [List.getElem?_map, List.getElem?_map, List.getElem?_eq_getElem hib] at this
            cases hq : cs'[i]? with
            | none => rw [hq] at this; cases this
            | some z =>
              rw [hq] at this
              cases this
              exact d3 i _ c hq hc
          exact b4 _ _ e0
        refine ⟨bs[i], _, rfl, .of hpair, rfl, _, _, rfl, _, _, rfl, rfl, ?_⟩
        refine ⟨_, rfl, m, C, dx, _, _, rfl, b4 _ _ hM, M.cl, M.nT, mF_t _ _ _, ?_⟩
        refine ⟨_, rfl, _, rfl, _, rfl, _, rfl, ?_⟩
        unfold tNoPart
        refine slA_drop (b4 _ _ hL) (by rw [nV_length]; exact c2) fun p H4 s4 hp => ?_
        rw [nV_drop] at hp
        refine ⟨ta, p, c.1, S, t, log.drop c.2, rfl, (hT.same b4).same s4, .inr hp, W, c1, fun d hdm => hd d (List.mem_of_mem_drop hdm), ?_⟩
        have hlt : c.2 < as.length := by omega
        have hb := List.getElem?_eq_getElem hlt
        refine ⟨_, rfl, _, rfl, ix_sq (.inl (s4 _ _ b2)) (by rw [List.getElem?_map, hb]; rfl) rfl ⟨_, rfl, as[c.2], _, rfl, .inl ⟨_, Sum.inl (c.1 : Int), s4 _ _ (b3 _ _ hb), rfl, ?_, rfl⟩, ?_⟩⟩
        · have := dueF_len (t := t) (log := log) (a := c.2) (cs.take i) []
          unfold dueV
          rw [List.length_map]
          refine wl _ (Nat.le_trans this ?_)
          rw [List.length_take]
          simp only [List.length_nil]
          omega
        · have nm : D ≠ as[c.2] := fun e => a4 (e ▸ List.getElem_mem hlt)
          refine ⟨⟨some (.int (c.2 : Int)), some (.int (c.1 : Int)), rfl⟩, by rw [upd_ne nm]; exact s4 _ _ b2, fun j b hj => ?_, sm_upd1 (b4.trans s4) (a5 _ (List.getElem_mem hlt)).1⟩
          rw [dueF_succ hc]
          by_cases e : c.2 = j
          · subst e
            rw [if_pos rfl]
            rw [hb] at hj
            cases hj
            rw [upd_same, dueV_put]
          · rw [if_neg e]
            have nb : b ≠ as[c.2] := fun z => e ((nd_ix a3 hb (z ▸ hj)))
            rw [upd_ne nb]
            exact s4 _ _ (b3 _ _ hj)
      · rintro σ H2 ⟨⟨v3, v5, rfl⟩, b2, b3, b4⟩
        refine ⟨_, rfl, q H2 D b4 ⟨as, b2, by rw [a1, dues_length], fun j b u hj hu => ?_⟩⟩
        have hl : j < log.length + 1 := by
          have := (List.getElem?_eq_some_iff.mp hj).1
          omega
        have e : u = dueAt t log cs j := by
          unfold dues at hu
          rw [List.getElem?_map, List.getElem?_range hl] at hu
          exact (Option.some.inj hu).symm
        subst e
        have := b3 j b hj
        rw [List.length_map, hBl, List.take_length] at this
        exact this
end
end Ag
set_option Elab.async false
set_option linter.all false
set_option maxRecDepth 100000
set_option maxHeartbeats 4000000
namespace Ag
open PySem PySem.Spec PyProof.Rows L2 RZ
/-! ### lots as any values -/
def natsOf (xs : List V) : List Nat := xs.map fun x => match x with
  | .int i => i.toNat
  | _ => 0
def adjB (l : List Nat) : Bool := (l.zip l.tail).all fun p => decide (p.1 < p.2)
def isLotV (n : Nat) (xs : List V) : Bool := xs.all (below (n : Int)) && adjB (natsOf xs)
theorem natsOf_nV (l : List Nat) : natsOf (nV l) = l := by
  unfold natsOf nV
  rw [List.map_map]
  conv => rhs; rw [← List.map_id l]
  apply List.map_congr_left
  intro x _
  show ((x : Int)).toNat = x
  omega
theorem nV_natsOf {n : Int} : ∀ {xs : List V}, xs.all (below n) = true → nV (natsOf xs) = xs
  | [], _ => rfl
  | x :: xs, h => by
    rw [List.all_cons, Bool.and_eq_true] at h
    have ih := nV_natsOf h.2
    cases x with
    | int i =>
      have h1 : (decide (0 ≤ i) && decide (i < n)) = true := h.1
      rw [Bool.and_eq_true, decide_eq_true_eq] at h1
      show V.int ((i.toNat : Nat) : Int) :: nV (natsOf xs) = V.int i :: xs
      rw [Int.toNat_of_nonneg h1.1, ih]
    | _ => cases h.1
theorem below_all {n : Nat} {l : List Nat} : (nV l).all (below (n : Int)) = true ↔ ∀ x ∈ l, x < n := by
  unfold nV
  rw [List.all_map, List.all_eq_true]
  constructor
  · intro h x hx
    have := h x hx
    have h1 : (decide ((0 : Int) ≤ (x : Int)) && decide ((x : Int) < (n : Int))) = true := this
    rw [Bool.and_eq_true, decide_eq_true_eq, decide_eq_true_eq] at h1
    omega
  · intro h x hx
    have := h x hx
    show (decide ((0 : Int) ≤ (x : Int)) && decide ((x : Int) < (n : Int))) = true
    rw [Bool.and_eq_true, decide_eq_true_eq, decide_eq_true_eq]
    omega
theorem slAny_drop {K : PySem.W.Frag} {H : Hp} {a : Addr} {xs : List V} {k : Nat} {Q : VK} (h : IsSq H a xs)
    (q : ∀ p H', Same H H' → ((H' a = some (.lst xs) ∧ H' p = some (.lst (xs.drop k))) ∨ (H' a = some (.tup xs) ∧ H' p = some (.tup (xs.drop k)))) → Q (.ref p) H') :
    rSlL K (.ref a) (some (k : Int)) none H Q ∨ rSlA K (.ref a) (some (k : Int)) none H Q := by
  have hc : cutV xs (some (k : Int)) none = xs.drop k := by
    unfold cutV
    rw [HT.sIx_nat, HT.sIx_none]
    by_cases hk : k ≤ xs.length
    · rw [Nat.min_eq_left hk, List.take_of_length_le (by rw [List.length_drop]; omega)]
    · rw [Nat.min_eq_right (by omega), Nat.sub_self, List.take_zero, List.drop_eq_nil_of_le (by omega)]
  rcases h with h | h
  · refine .inl ⟨a, xs, rfl, .of h, fun p hp => q p _ (same_new hp) (.inl ⟨by rw [upd_ne (ne_of_none h hp)]; exact h, by rw [upd_same, hc]⟩)⟩
  · refine .inr ⟨a, xs, rfl, .of h, fun hw => ?_, fun _ p hp => q p _ (same_new hp) (.inr ⟨by rw [upd_ne (ne_of_none h hp)]; exact h, by rw [upd_same, hc]⟩)⟩
    have h1 := hw.1
    rw [HT.sIx_nat] at h1
    have e : xs.drop k = xs := by
      by_cases hk : k = 0
      · rw [hk, List.drop_zero]
      · have : xs.length = 0 := by omega
        have e0 : xs = [] := List.eq_nil_of_length_eq_zero this
        rw [e0, List.drop_nil]
    exact q a H (Same.refl _) (.inr ⟨h, by rw [e]; exact h⟩)
def spIsLot : Sp := fun vs H Q _ => ∃ (v : V) (n : Nat), vs = [v, .int (n : Int)] ∧ ((flatI v = true ∧ ∀ H', Same H H' → Q (.bl false) H') ∨
  ∃ (a : Addr) (xs : List V), v = .ref a ∧ IsSq H a xs ∧ xs.all flatI = true ∧ xs.length ≤ 1000 ∧ ∀ H', Same H H' → Q (.bl (isLotV n xs)) H')
section
variable {P : Program} {w : World} {K : PySem.W.Frag} {mg : Str → Option Value} {base : Heap} {f C : Addr} {fd : FuncData}
abbrev nIsLot : List Str := ["value", "most", "place", "one", "other"]
theorem scIsLot : FnScope nIsLot ["value", "most"] (defScope sIsLot) := ⟨rfl, rfl, rfl, by decide +kernel, rfl, by decide +kernel, by decide +kernel⟩
theorem adj_take {l : List Nat} {i : Nat} {p : Nat × Nat} (h : (l.zip l.tail)[i]? = some p) : ((l.zip l.tail).take (i + 1)).map (fun p => V.bl (decide (p.1 < p.2))) = ((l.zip l.tail).take i).map (fun p => V.bl (decide (p.1 < p.2))) ++ [V.bl (decide (p.1 < p.2))] := by
  rw [take_succ' h, List.map_append]
  rfl
theorem ok_isLot (T : Txt mg) (C_is_sequence : Cl P w K mg base CX0 1 "is_sequence" spIsSeq) (C_is_below : Cl P w K mg base CX0 3 "is_below" spIsBelow) (F : FnP K "is_lot" sIsLot f fd) (hm : mg "is_lot" = some (.ref f)) : Cl P w K mg base CX0 4 "is_lot" spIsLot := by
  refine cal_of (ps := ["value", "most"]) (F.ok scIsLot (fun vs H Q E h => ?_) (fun cdv A outer s H vs Q E hr h => ⟨_, PSs.nox (pss_cons (ps_if (PW.pt (pw_or (pt_not (pt_val (pe_cl C_is_sequence hr (by decide) rfl (pa_cons (pv 0) pa_nil)) (by intro _; rfl))) (pw_or1 (pt_not (pt_val (pe_callB (cr_all rfl) (by rfl) T.all (by decide +kernel) (pa_cons (pe_lc (own := [("place", 2)]) (g := (gName 2)) rfl scIsLot.nd (pi_sq (pv 0)) (blkOk_by (own := [("place", 2)]) (N := nIsLot) (sc := defScope sIsLot) (by decide +kernel)) (fun _ _ _ _ _ => (pg_name (i := 2) scIsLot.nd rfl (Or.inl rfl))) (fun _ _ _ _ _ => pts_nil) (fun _ _ _ _ _ => (pe_cl C_is_below hr (by decide) rfl (pa_cons (pv 2) (pa_cons (pv 1) pa_nil))))) pa_nil)) (by intro _; rfl))))))
       (pss_one (ps_ret pe_bl))
       pss_nil)
       (pss_one (ps_ret (pe_callB (cr_all rfl) (by rfl) T.all (by decide +kernel) (pa_cons (pe_lc (own := [("one", 3), ("other", 4)]) (g := (gTup K 2 (gCons (gName 3) (gCons (gName 4) gNil)))) rfl scIsLot.nd (pi_zipSq rfl T.zip (pa_cons (pv 0) (pa_cons (pe_slice (sl_list.or sl_tupA) (pv 0) (po_some pe_int) po_none) pa_nil))) (blkOk_by (own := [("one", 3), ("other", 4)]) (N := nIsLot) (sc := defScope sIsLot) (by decide +kernel)) (fun _ _ _ _ _ => (pg_tup rfl (pgs_cons (pg_name (i := 3) scIsLot.nd rfl (Or.inl rfl)) (pgs_cons (pg_name (i := 4) scIsLot.nd rfl (Or.inl rfl)) pgs_nil)))) (fun _ _ _ _ _ => pts_nil) (fun _ _ _ _ _ => (pe_cmpR op_lt (pv 3) (pv 4) (nomark _)))) pa_nil))))), ?_⟩))
    hm F.kp (F.bindsN fun _ _ _ _ _ _ us hl => match us, hl with | [_, _], _ => rfl)
  · obtain ⟨_, _, rfl, _⟩ := h
    rfl
  · obtain ⟨v, n, rfl, h⟩ := h
    rcases h with ⟨hv, q⟩ | ⟨a, xs, rfl, hX, hf, hz, q⟩
    · refine ⟨_, rfl, v, false, rfl, .no hv, fun H1 s1 => ⟨_, rfl, ?_⟩⟩
      exact iteT (iteT (q _ s1))
    · refine ⟨_, rfl, _, true, rfl, .sq hX, fun H1 s1 => ⟨_, rfl, ?_⟩⟩
      refine iteF ?_
      have hX1 := hX.same s1
      refine ⟨_, rfl, a, xs, rfl, hX1, fun J G wk hG D hD => lc_it wk (fun i H' => Same H1 H' ∧ H' D = some (.lst ((xs.take i).map fun x => V.bl (below (n : Int) x)))) ⟨same_new hD, upd_same⟩ (fun i H' _ ⟨s2, _⟩ => hG _ (by
        rcases hX1 with h | h
        · exact sm_at s2 h
        · exact sm_at s2 h)) ?_ ?_⟩
      · rintro i x H3 H2 hi ⟨s2, h2⟩ ⟨rfl, hx⟩
        refine ⟨rfl, _, rfl, _, rfl, x, n, rfl, List.all_eq_true.mp hf x (List.mem_of_getElem? hx), _, h2, ?_, sm_upd1 s2 hD, ?_⟩
        · rw [List.length_map]
          refine wl _ ?_
          rw [List.length_take]
          omega
        · rw [upd_same, take_succ' hx, List.map_append]
          rfl
      · rintro H2 ⟨s2, h2⟩
        rw [List.take_length] at h2
        refine ⟨D, xs.map (below (n : Int)), rfl, .of (by rw [h2, List.map_map]; rfl), _, rfl, ?_⟩
        rw [List.all_map]
        have s3 : Same H H2 := s1.trans s2
        by_cases hb : xs.all (below (n : Int)) = true
        · have eb : (xs.all (id ∘ below (n : Int))) = true := hb
          rw [eb]
          refine iteF ?_
          have el := nV_natsOf hb
          generalize hlot : natsOf xs = lot at el
          have hXs := hX.same s3
          have hlen : lot.length = xs.length := by rw [← el, nV_length]
          refine ⟨_, rfl, _, rfl, 1, rfl, ?_⟩
          unfold tNoPart
          refine slAny_drop (k := 1) hXs fun p H3 s4 hab => ⟨a, p, xs, xs.drop 1, rfl, hab, fun J G wk hG D2 hD2 => lc_it wk
            (fun i H' => Same H3 H' ∧ H' D2 = some (.lst (((lot.zip lot.tail).take i).map fun p => V.bl (decide (p.1 < p.2))))) ⟨same_new hD2, upd_same⟩ (fun i H' _ ⟨s5, _⟩ => hG _ ?_ ?_) ?_ ?_⟩
          · rcases hab with h | h
            · exact sm_at s5 h.1
            · exact sm_at s5 h.1
          · rcases hab with h | h
            · exact sm_at s5 h.2
            · exact sm_at s5 h.2
          · rintro i x H4 H5 hi ⟨s5, h5⟩ ⟨T', x1, y1, rfl, hT, rfl, e1, e2⟩
            have hzl : i < (lot.zip lot.tail).length := by
              rw [List.length_zip, List.length_tail, hlen]
              rw [List.length_drop] at hi
              exact hi
            obtain ⟨⟨u, v⟩, hc⟩ : ∃ c, (lot.zip lot.tail)[i]? = some c := ⟨_, List.getElem?_eq_getElem hzl⟩
            obtain ⟨hu, hv⟩ := List.getElem?_zip_eq_some.mp hc
            have ex1 : x1 = .int (u : Int) := by
              have := nV_get hu
              rw [el] at this
              exact Option.some.inj (e1.symm.trans this)
            have ey1 : y1 = .int (v : Int) := by
              have := nV_get hv
              rw [← List.drop_one, ← nV_drop, el] at this
              exact Option.some.inj (e2.symm.trans this)
            subst ex1 ey1
            refine ⟨T', _, rfl, .of upd_same, rfl, _, _, rfl, _, _, rfl, rfl, rfl, ?_⟩
            have neD : D2 ≠ T' := ne_of_none h5 hT
            refine ⟨_, rfl, _, rfl, _, _, rfl, rfl, _, (by rw [upd_ne neD]; exact h5), ?_, sm_upd1 (sm_new s5 hT) hD2, ?_⟩
            · rw [List.length_map]
              refine wl _ ?_
              have : ((lot.zip lot.tail).take i).length ≤ (lot.zip lot.tail).length := by rw [List.length_take]; omega
              rw [List.length_zip] at this
              omega
            · rw [upd_same, adj_take hc]
              have ed : decide ((u : Int) < (v : Int)) = decide (u < v) := by
                by_cases z : u < v
                · rw [decide_eq_true z, decide_eq_true (by omega)]
                · rw [decide_eq_false z, decide_eq_false (by omega)]
              show some (HO.lst (_ ++ [V.bl (decide ((u : Int) < (v : Int)))])) = _
              rw [ed]
          · rintro H4 ⟨s5, h5⟩
            have el2 : min xs.length (xs.drop 1).length = (lot.zip lot.tail).length := by rw [List.length_zip, List.length_tail, hlen, List.length_drop]
            rw [el2, List.take_length] at h5
            refine ⟨D2, (lot.zip lot.tail).map fun p => decide (p.1 < p.2), rfl, .of (by rw [h5, List.map_map]; rfl), ?_⟩
            have e3 : ((lot.zip lot.tail).map fun p => decide (p.1 < p.2)).all id = isLotV n xs := by
              unfold isLotV adjB
              rw [hb, Bool.true_and, hlot, List.all_map]
              rfl
            rw [e3]
            exact q _ ((s3.trans s4).trans s5)
        · have eb : (xs.all (id ∘ below (n : Int))) = false := by
            have : (xs.all (below (n : Int))) = false := by simpa using hb
            exact this
          rw [eb]
          refine iteT ?_
          have e2 : isLotV n xs = false := by
            unfold isLotV
            have : (xs.all (below (n : Int))) = false := by simpa using hb
            rw [this, Bool.false_and]
          rw [← e2]
          exact q _ s3
end
end Ag
set_option Elab.async false
set_option linter.all false
set_option maxRecDepth 100000
set_option maxHeartbeats 4000000
namespace Ag
open PySem PySem.Spec PyProof.Rows L2 RZ
/-- tuple(s), s a list or a tuple -/
def rTupSq : List V → Hp → VK → Prop := fun xs H Q => ∃ p ys, xs = [.ref p] ∧ IsSq H p ys ∧ ∀ p' H', Same H H' → H' p' = some (.tup ys) → Q (.ref p') H'
def rListSq : List V → Hp → VK → Prop := fun xs H Q => ∃ p ys, xs = [.ref p] ∧ IsSq H p ys ∧ ∀ l, H l = none → Q (.ref l) (upd H l (.lst ys))
section
variable {X : Cx}
theorem call_tupleSq : CallR X (.type "tuple") rTupSq := fun pins s σ H xs us Q I r h => by
  obtain ⟨p, ys, e, hq, q⟩ := h
  refine call_tuple_of pins s σ H xs us Q I r ⟨p, ys, e, ?_⟩
  rcases hq with hq | hq
  · exact .inl ⟨.of hq, fun l hl => q l _ (same_new hl) upd_same⟩
  · exact .inr ⟨.of hq, q p _ (Same.refl _) hq⟩
theorem call_listSq : CallR X (.type "list") rListSq := fun pins s σ H xs us Q I r h => by
  obtain ⟨p, ys, e, hq, q⟩ := h
  exact call_list_of pins s σ H xs us Q I r ⟨p, ys, e, hq.elim (fun h => .inl (.of h)) fun h => .inr (.of h), q⟩
end
end Ag
namespace Ag
open PySem PySem.Spec PyProof.Rows L2 RZ
theorem ifT {b : Bool} {A B : Prop} (e : b = true) (h : A) : if b = true then A else B := by rw [if_pos e]; exact h
theorem ifF {b : Bool} {A B : Prop} (e : b = false) (h : B) : if b = true then A else B := by rw [if_neg (by rw [e]; exact Bool.false_ne_true)]; exact h
theorem sq_at {H H' : Hp} {a : Addr} {xs : List V} (h : IsSq H a xs) (s : Same H H') : H' a = H a := h.elim (fun h => sm_at s h) fun h => sm_at s h
theorem upd_keep {H : Hp} {p b : Addr} {o u : HO} (hp : H p = none) (h : H b = some u) : (upd H p o) b = some u := by rw [upd_ne (ne_of_none h hp)]; exact h
end Ag
set_option Elab.async false
set_option linter.all false
set_option maxRecDepth 100000
set_option maxHeartbeats 4000000
namespace PySem
namespace AgX
open PySem.W PySem.Calls PyProof.Rows PySem.HandSPX
/-! ### super().__init__(..) of an own class over ValueError -/
section
variable {prog : Program} {w : World} {A : Around} {E : Value → Shared → Prop} {h : Heap} {g : Array GenState} {d : Drawn} {t : Nat} {os : OsState}
variable {nm q : Str} {C N : Addr} {bs bm : List Value} {hdct : Bool} {sn : List Str} {sub : List Value} {ab : Bool} {col : Option Bool} {dd : Option Addr} {k0 k1 k2 k3 k5 : Option Value}
theorem call_mw {u e t0 : Addr} {rest : List Value} {Q : Value → Shared → Prop}
    (hC : h.get? C = some (excClassObj nm q C N bs bm hdct sn sub ab col dd k0 k1 k2 k3 k5 "ValueError.__new__")) (he : h.get? e = some (excO C t0)) (hu : h.get? u = some (kxs_mw "ValueError.__init__" e)) (hrest : rest.length ≤ sizeLine)
    (hq : ∀ h' t1, (∀ b o, b ≠ e → h.get? b = some o → h'.get? b = some o) → h'.get? e = some (excO C t1) → Q .none ⟨h', g, d, t, os⟩) :
    wpAny (model prog w) A (call (.ref u) rest) Q E ⟨h, g, d, t, os⟩ := by
  refine wpAny_call (codeAny_of_tree ?_)
  show wpAny _ A.in1 (callAny (.ref u) ⟨rest, []⟩) _ _ _
  simp only [callAny]
  refine wpAny_bind (wpAny_load hu ?_)
  simp only [kxs_mw, show (Value.type "method-wrapper" == Value.type "method" || Value.type "method-wrapper" == Value.type "builtin_function_or_method" || Value.type "method-wrapper" == Value.type "method-wrapper") = true by decide, if_true]
  refine W.KFB.if_so (by decide) ?_
  refine wpAny_bind (ESX.check_bound F.excBase_ValueError hC he rfl ?_)
  refine wpAny_bind (wpAny_pure (wpAny_pure ?_))
  refine ⟨Code.quiet_builtin _ (by decide +kernel), codeAny_builtin F.excBase_ValueError.initEntry ?_⟩
  rw [Around.under_plainId F.excBase_ValueError.init.plain _]
  wp_walk
  refine hq _ h.objs.size (fun b o hb ho => ?_) ?_
  · rw [Heap.get?_update_other _ _ (Ne.symm hb)]
    exact Heap.get?_push_of_some _ ho
  · rw [Heap.get?_update_self _ (Heap.get?_push_of_some _ he) rfl]
    rfl
end
/-- the def __init__ of such a class -/
structure Ini (prog : Program) (K : Frag) (C : Addr) (fld : Str) (fI : Addr) (qual msg : Str) (kk : Nat) (p0 p1 p2 p3 p4 p5 p6 p7 p8 p9 : Pos) (params : Arguments) (scope : Scope) (cda cc : Addr) : Prop where
  iC : findIn K (.ref C) "__init__" = some (some (.ref fI))
  tI : typeIn K (.ref fI) = some (.type "function")
  lk : ∃ oc od dV kV doc pm an ct osl, K.lookup fI = some ⟨oc, od, .func (ksFn "__init__" qual params [.Expr (.Call (.Attribute (.Call (.Name "super" p0) [] [] p1) "__init__" p2) [.Constant (.str msg) kk p3] [] p4) p5, .Assign [.Attribute (.Name "self" p6) fld p7] (.Name fld p8) p9] scope dV kV doc pm an (.ref cda) ct cc), osl⟩ ∧
    ∀ a b : Value, bindArgs (ksFn "__init__" qual params [.Expr (.Call (.Attribute (.Call (.Name "super" p0) [] [] p1) "__init__" p2) [.Constant (.str msg) kk p3] [] p4) p5, .Assign [.Attribute (.Name "self" p6) fld p7] (.Name fld p8) p9] scope dV kV doc pm an (.ref cda) ct cc) ⟨[a, b], []⟩ = pure [(("self" : Str), a), (fld, b)]
  code : codeIn K (.ref cda) qual = true
  file : ∃ ccl cdd vs ccs file tf, K.lookup cda = some ⟨ccl, cdd, .fields vs, ccs⟩ ∧ vs[2]? = some (.str file tf) ∧ ((prog.main.file : Str) == file) = true
  cell : ∃ cl cld csl, K.lookup cc = some ⟨cl, cld, .cell (some (.ref C)), csl⟩
  sub : mroIn K C (.ref C) = some true
  op : nsIn K cStatics "thirdparty.any" = some none
  sup : ks_superIn K C C "__init__" = some (some (.builtin "ValueError.__init__"))
  ve : subIn K (.ref C) (.type "ValueError") = some true
  na : findIn K (.ref C) fld = some none
  head : ∃ ar, (params.posonlyargs ++ params.args).head? = some ar ∧ ar.arg = "self"
  sSu : scope.names.lookup ("super" : Str) = some .globalImplicit
  sCl : scope.names.lookup ("__class__" : Str) = some .free
  sSe : scope.names.lookup ("self" : Str) = some .local
  sFl : scope.names.lookup fld = some .local
  sCe : ∀ x ∈ scope.names, x.2 ≠ .cell
  co : scope.isCoroutine = false
  gen : scope.isGenerator = false
  kd : scope.kind = .function
  fne : (fld == ("self" : Str)) = false
  fnd : (fld == ("__debug__" : Str)) = false
  ev : ∀ L : Addr, ∃ pl : Sem Bool, eval (.Call (.Attribute (.Call (.Name "super" p0) [] [] p1) "__init__" p2) [.Constant (.str msg) kk p3] [] p4) (ksEnv qual scope L fI (.ref cda) cc) = (do
      let ov ← attributeBase (.Call (.Name "super" p0) [] [] p1) "__init__" (ksEnv qual scope L fI (.ref cda) cc) (eval (.Call (.Name "super" p0) [] [] p1) (ksEnv qual scope L fI (.ref cda) cc))
      standAt p2.atName
      let (f, first) ← holding [ov] (getMethod ov "__init__" pl)
      callWith p4 f first (backTo p4 (starEach [.Constant (.str msg) kk p3] (ksEnv qual scope L fI (.ref cda) cc))) [])
  hi : ∀ L : Addr, interactive (ksEnv qual scope L fI (.ref cda) cc) = false
  hs1 : ∀ L : Addr, swapsWith (.Call (.Attribute (.Call (.Name "super" p0) [] [] p1) "__init__" p2) [.Constant (.str msg) kk p3] [] p4) none p5.line (ksEnv qual scope L fI (.ref cda) cc) = pure false
  hs2 : ∀ L : Addr, swapsWith (.Name fld p8) (some (.Attribute (.Name "self" p6) fld p7)) p9.line (ksEnv qual scope L fI (.ref cda) cc) = pure false
  tops : (prog.main.scope.names.lookup ("super" : Str)).isSome = false
section
variable {prog : Program} {w : World} {A : Around} {R : Result → Shared → Prop} {hp : Heap} {g : Array GenState} {d : Drawn} {t : Nat} {os : OsState} {K : Frag} {mg mb : Str → Option Value}
  {C fI cda cc e t0 : Addr} {fld qual msg : Str} {kk : Nat} {p0 p1 p2 p3 p4 p5 p6 p7 p8 p9 : Pos} {params : Arguments} {scope : Scope} {u : Value}
theorem init_raw (T : L2.OexC K C) (J : Ini prog K C fld fI qual msg kk p0 p1 p2 p3 p4 p5 p6 p7 p8 p9 params scope cda cc) (X : K.In hp) (G : hp.Ns mainGlobals mg) (Gb : hp.Ns builtinsNs mb) (hms : mg "super" = none) (hmb : mb "super" = some (.type "super"))
    (lim : hp.NoLimit) (hroom : A.depth < recursionLimit) (he : hp.get? e = some (excO C t0)) (hKe : K.lookup e = none)
    (hq : ∀ h' t' dx t1, (∀ b o, b ≠ e → hp.get? b = some o → h'.get? b = some o) → hp.objs.size ≤ dx → h'.get? e = some { cls := .ref C, dict := some dx, data := .fields #[.ref t1, .none, .none, .none, .bool false, .none] } → h'.Ns1 dx (fun y => if y = fld then some u else none) →
      R (.ok (.ret .none)) ⟨h', g, d, t', os⟩) :
    codeAny (model prog w) A (.call (.ref fI) ⟨[.ref e, u], []⟩) R ⟨hp, g, d, t, os⟩ := by
  obtain ⟨oc, od, dV, kV, doc, pm, an, ct, osl, lk, hbind⟩ := J.lk
  obtain ⟨nm, q, N, bs, bm, sn, sub, ab, col, dd, k0, k1, k2, k3, k5, hC, hbm⟩ := T.cls
  obtain ⟨ccl, cdd, vs, ccs, file, tf, lkc, hvs, hfile⟩ := J.file
  obtain ⟨cl, cld, csl, lkcell⟩ := J.cell
  obtain ⟨ar, har, hself⟩ := J.head
  have hcl : clsIn K C = some { name := nm, bases := bs, mro := .ref C :: bm, ns := N, qualname := q, hasDict := true, slotNames := sn, subclasses := sub, abstract := ab, collection := col, hasDel := false } := by unfold clsIn; rw [hC] <;> rfl
  refine ks_codeAny_call_defAt (binds := [(("self" : Str), Value.ref e), (fld, u)]) hroom (X _ _ lk) rfl lim (codeRec_of X J.code) rfl (.of_eq (hbind _ _)) J.sCe ?_ (fun h₁ hns hk₁ => ?_) J.co J.gen J.kd
  · intro x hx
    rcases List.mem_cons.mp hx with z | hx
    · rw [z]; exact J.sSe
    · rcases List.mem_cons.mp hx with z | hx
      · rw [z]; exact J.sFl
      · cases hx
  have X1 : K.In h₁ := X.keeps hk₁
  have hse : [((fld : Str), u), (("self" : Str), Value.ref e)].lookup ("self" : Str) = some (.ref e) := by
    have : (("self" : Str) == fld) = false := by
      have := J.fne
      rw [beq_eq_false_iff_ne] at this ⊢
      exact Ne.symm this
    simp [List.lookup, this]
  have hfl : [((fld : Str), u), (("self" : Str), Value.ref e)].lookup fld = some u := by simp [List.lookup]
  obtain ⟨pl, hev⟩ := J.ev hp.objs.size
  refine ks_wpAt_execs_cons (ks_wpAt_Expr_any (ks_wpAt_MethodCall (pl := pl) ?_ hev) (J.hi _) (J.hs1 _))
  refine ks_wpAt_super_base (env := ksEnv qual scope hp.objs.size fI (.ref cda) cc) J.sSu J.sCl (by decide) rfl (X1 _ _ lk) rfl har rfl (X1 _ _ lkc) rfl hvs hfile J.tops ?_
  refine ks_loadName_global J.kd J.sSu (loadGlobal_builtin (env := ksEnv qual scope hp.objs.size fI (.ref cda) cc) (G.keeps hk₁) hms (Gb.keeps hk₁) hmb ⟨rfl, ?_⟩)
  refine wpAny_loadName_free J.kd J.sCl rfl ⟨_, X1 _ _ lkcell, rfl⟩ ?_
  rw [hself]
  refine wpAny_loadName_local (env := ksEnv qual scope hp.objs.size fI (.ref cda) cc) J.kd J.sSe hns hse ?_
  refine ks_wpAny_isType_cls (X1 _ _ hC) rfl ⟨rfl, ?_⟩
  have he1 := hk₁ _ _ he
  refine ks_wpAny_call_super (X1 _ _ hC) rfl he1 rfl (fun c z => nomatch z) (looks_mroIn X1 J.sub) (fun h2 eso k2 => ?_)
  have X2 : K.In h2 := X1.keeps k2
  have he2 := k2 _ _ he1
  have I2 : InstAt h2 e (excO C t0) C none := ⟨he2, rfl, rfl, trivial⟩
  have hI : Looks (model prog w) h2 (isInstance (.ref e) (.type "ValueError")) true := I2.type.andThen (looks_subIn X2 J.ve)
  have hsup := J.sup
  unfold ks_superIn at hsup
  rw [hcl] at hsup
  refine kxs_getMethod kxs_ValueError eso (looks_opaque X2 J.op) (fun A Q E s k q => wpAny_bind ((looks_clsIn X2 hcl) A _ E s k (wpAny_pure q))) rfl X2 hsup hI (ks_ne X2 I2 hcl) (by decide) ?_
  have hmw : (h2.push (kxs_mw "ValueError.__init__" e)).get? h2.objs.size = some (kxs_mw "ValueError.__init__" e) := Heap.get?_push_at rfl rfl
  have k3' : ∀ b o, h2.get? b = some o → (h2.push (kxs_mw "ValueError.__init__" e)).get? b = some o := fun b o z => Heap.get?_push_of_some _ z
  refine kxs_callWith (i := "ValueError.__init__") (x := e) rfl (evalArgs_plain ?_)
  refine spliced_cons (Constant_str (k := kk) (pos := p3) (spliced_nil ⟨hmw, ?_⟩))
  refine call_mw (k3' _ _ (X2 _ _ hC)) (k3' _ _ he2) hmw (by show (1 : Nat) ≤ sizeLine; decide) (fun h4 t1 k4 e4 => ?_)
  have k14 : ∀ b o, b ≠ e → h₁.get? b = some o → h4.get? b = some o := fun b o hb z => k4 b o hb (k3' b o (k2 b o z))
  have X4 : K.In h4 := fun a o z => k14 a o (fun y => by rw [y, hKe] at z; cases z) (X1 a o z)
  have hns4 : h4.Ns hp.objs.size (fun x => [(("self" : Str), Value.ref e), (fld, u)].reverse.lookup x) := by
    obtain ⟨oL, es, ep, hL, r⟩ := hns
    exact ⟨oL, es, ep, k14 _ _ (Nat.ne_of_gt (Heap.lt_size he)) hL, r⟩
  refine ks_wpAt_execs_cons (wpAt_of_wpAny ?_)
  refine plainObj_wpAny_Assign_Attribute (wpAny_Name (wpAny_loadName_local (env := ksEnv qual scope hp.objs.size fI (.ref cda) cc) J.kd J.sFl hns4 hfl (wpAny_Name (wpAny_loadName_local (env := ksEnv qual scope hp.objs.size fI (.ref cda) cc) J.kd J.sSe hns4 hse ?_) (by decide))) J.fnd) (J.hs2 _)
  refine set_plain X4 (ox := excO C t1) (od := none) ⟨e4, rfl, rfl, trivial⟩ T.sa ?_
  refine exc_osa X4 e4 hcl (show refsVE (.ref C :: bm) = true from hbm) rfl J.na (fun h5 t5 dx k5 dn dne hx hn => ?_)
  refine wpAt_of_wpAny (wpAny_execs_nil ?_)
  have szs : hp.objs.size ≤ h4.objs.size := by
    obtain ⟨oL, es, ep, hL, r⟩ := hns4
    exact Nat.le_of_lt (Heap.lt_size hL)
  exact hq h5 _ dx t1 (fun b o hb z => k5 b o hb (k14 b o hb (hk₁ b o z))) (Nat.le_trans szs dn) hx hn
end
end AgX
end PySem

namespace L2
open PySem PySem.Spec PyProof.Rows PySem.AgX
/-- C(e), the own __init__ of which says super().__init__(..); self.fld = e -/
def tMkX (C : Addr) (fld : Str) (ta : TA) : St → Hp → XK → Prop := fun σ H Q => ta σ H fun vs H1 => ∃ v, vs = [v] ∧ ∀ d, H1 d = none → Q (.ref C) (some d) (upd H1 d (.xd [(fld, v)]))
section
variable {X : Cx} {n fld qual msg : Str} {C fI cda cc : Addr} {kk : Nat} {p0 p1 p2 p3 p4 p5 p6 p7 p8 p9 p pos : Pos} {params : Arguments} {scope : Scope} {e : Expr} {ta : TA}
theorem pmk_x (T : OexC X.K C) (J : Ini X.prog X.K C fld fI qual msg kk p0 p1 p2 p3 p4 p5 p6 p7 p8 p9 params scope cda cc) (hr : Room 1 X.A) (hg : Gl X n) (hm : X.mg n = some (.ref C)) (hms : X.mg "super" = none) (hE : PA X [e] ta)
    (hdb : (n == ("__debug__" : Str)) = false := by decide) (he : starEach [e] X.env = (false, eval e X.env) :: starEach [] X.env := by rfl) : PMk X (.Call (.Name n p) [e] [] pos) (tMkX C fld ta) := by
  intro pins s σ H Q I h
  obtain ⟨nm, q, N, bs, bm, sn, sub, ab, col, dd, k0, k1, k2, k3, k5, hC, hbm⟩ := T.cls
  refine wpAny_Call_Name_kw (ld_glob I hg hm ?_ hdb)
  refine PySem.W.callWith_K (h₀ := X.base) I.ok.mod.kin T.kC (thn (hE.run pos pins s σ H _ I h) fun us s1 ⟨vs, H1, I1, r1, v, hv, q1⟩ => ⟨I1.kIn, ?_⟩) he rfl
  show wpAny _ _ (call (.ref C) us) _ _ _
  subst hv
  cases r1 with
  | @cons _ u _ us' rv rr =>
    cases rr
    obtain ⟨hp, g, dr, tk, os⟩ := s1
    have hsz : hp.objs.size ≤ hp.objs.size + 1 := Nat.le_succ _
    have hn : H1 (hp.objs.size + 1) = none := I1.hok.fresh hsz
    have kk' : ∀ b o, hp.get? b = some o → ((hp.push (PySem.W.kdv_tup [u])).push (PySem.HandSPX.excO C hp.objs.size)).get? b = some o := fun b o e => Heap.get?_push_of_some _ (Heap.get?_push_of_some _ e)
    have hget : ((hp.push (PySem.W.kdv_tup [u])).push (PySem.HandSPX.excO C hp.objs.size)).get? (hp.objs.size + 1) = some (PySem.HandSPX.excO C hp.objs.size) := by heap_get
    obtain ⟨mb, b1, b2⟩ := I1.mod.blt
    have hKe : X.K.lookup (hp.objs.size + 1) = none := by
      cases z : X.K.lookup (hp.objs.size + 1) with
      | none => rfl
      | some o => exact absurd (Heap.lt_size (I1.kIn _ _ z)) (Nat.not_lt_of_le hsz)
    refine wpAny_call (PySem.HandSPX.call_own F.excBase_ValueError (fun Y => PySem.HandSPX.refsVE_contains Y bm hbm) (I1.kIn _ _ hC) (PySem.W.looks_findIn I1.kIn J.iC) (fun self => PySem.W.bind_fn I1.kIn self J.tI) (by show (1 : Nat) ≤ sizeLine; decide)
      (init_raw T J (I1.kIn.keeps kk') ((I1.mod.glob.keeps I1.bk).keeps kk') ((b1.keeps I1.bk).keeps kk') hms ((b2 "super" (by decide)).trans (by decide +kernel)) (I1.nolimit.keeps kk') (hr.make C [u] []).depth hget hKe fun h' t' dx t1 k' dn hx hns => ?_))
    show _ ∧ _
    refine ⟨rfl, ?_⟩
    have hpdx : hp.objs.size ≤ dx := Nat.le_trans (by rw [Heap.size_push, Heap.size_push]; omega) dn
    have hda : dx ≠ hp.objs.size + 1 := fun z => by
      rw [z] at dn
      rw [Heap.size_push, Heap.size_push] at dn
      omega
    have hd1 : H1 dx = none := I1.hok.fresh hpdx
    obtain ⟨G, g1', g2'⟩ := restrict h' fun b => decide (b ≠ hp.objs.size + 1)
    have gk : ∀ b, b ≠ hp.objs.size + 1 → G.get? b = h'.get? b := fun b hb => g1' b (decide_eq_true hb)
    have ge : G.get? (hp.objs.size + 1) = none := g2' _ (by simp)
    have kG : ∀ b o, hp.get? b = some o → G.get? b = some o := fun b o z => by
      have hb : b ≠ hp.objs.size + 1 := Nat.ne_of_lt (Nat.lt_of_lt_of_le (Heap.lt_size z) hsz)
      rw [gk b hb]
      exact k' b o hb (kk' b o z)
    have Js : Inv X pins σ (upd H1 dx (.xd [(fld, v)])) ⟨G, g, dr, t', os⟩ :=
      I1.laid (t' := t') (a := dx) (o := .xd [(fld, v)]) (h' := G) kG hpdx ⟨_, hns.at fun o y => (gk dx hda).trans y, fun f => by
        rw [lookup_put]
        by_cases hf : f = fld
        · rw [if_pos hf, if_pos hf]; exact rv
        · rw [if_neg hf, if_neg hf]; trivial⟩
    refine ⟨hp.objs.size + 1, _, _, ⟨G, g, dr, t', os⟩, _, .ref C, some dx, rfl, Js, fun b o z => ?_, ge, hx, ⟨rfl, rfl⟩, rfl, rfl, ?_, rfl, I1.bare, raises_own T.exC T.tyC, q1 dx hd1⟩
    · by_cases hb : b = hp.objs.size + 1
      · rw [hb, ge] at z; cases z
      · exact (gk b hb).symm.trans z
    · rw [upd_ne (Ne.symm hda)]; exact hn
end
end L2
namespace Ag
open PySem PySem.Spec PyProof.Rows L2 PySem.AgX
/-- an own exception class with one field -/
structure XCl (P : Program) (K : PySem.W.Frag) (mg : Str → Option Value) (n fld : Str) (C : Addr) : Prop where
  oex : OexC K C
  ini : ∃ fI qual msg kk p0 p1 p2 p3 p4 p5 p6 p7 p8 p9 params scope cda cc, Ini P K C fld fI qual msg kk p0 p1 p2 p3 p4 p5 p6 p7 p8 p9 params scope cda cc
  hm : mg n = some (.ref C)
  sup : mg "super" = none
theorem pmk_xc {X : Cx} {n fld : Str} {C : Addr} {p pos : Pos} {e : Expr} {ta : TA} (c : XCl X.prog X.K X.mg n fld C) (hr : Room 1 X.A) (hg : Gl X n) (ha : PA X [e] ta)
    (hdb : (n == ("__debug__" : Str)) = false := by decide) (he : starEach [e] X.env = (false, eval e X.env) :: starEach [] X.env := by rfl) : PMk X (.Call (.Name n p) [e] [] pos) (tMkX C fld ta) := by
  obtain ⟨fI, qual, msg, kk, p0, p1, p2, p3, p4, p5, p6, p7, p8, p9, params, scope, cda, cc, J⟩ := c.ini
  exact pmk_x c.oex J hr hg c.hm c.sup ha hdb he
end Ag
set_option Elab.async false
set_option linter.all false
set_option maxRecDepth 100000
set_option maxHeartbeats 4000000
namespace Ag
open PySem PySem.Spec PyProof.Rows L2 RZ
theorem TabAt.ins {H : Hp} {m C dx p : Addr} {fs : List (Str × V)} {o : HO} {t : Tabs} (h : TabAt H p t) (hm : H m = some (.ins C dx fs)) : TabAt (upd H m o) p t := by
  obtain ⟨as, h1, h2, h3⟩ := h
  refine ⟨as, h1.keep (upd_ne fun z => ?_), h2, fun i b e => ?_⟩
  · rw [z] at h1
    rcases h1 with h | h <;> rw [hm] at h <;> exact nomatch Option.some.inj h
  · have q := h3 i b e
    rw [upd_ne fun z => ?_]
    · exact q
    · rw [z, hm] at q
      exact nomatch Option.some.inj q
def spIsTable : Sp := fun vs H Q _ => ∃ (b : Addr) (S : Nat) (row : List Nat), vs = [.ref b, .int (S : Int)] ∧ IsSq H b (nV row) ∧ row.length = S ∧ (∀ x ∈ row, x < S) ∧ S ≤ 100 ∧ ∀ H', Same H H' → Q (.bl true) H'
structure TabsOk (t : Tabs) (S : Nat) : Prop where
  wf : Wf t S
  s1 : 1 ≤ S
  s2 : S ≤ 12
  d1 : 1 ≤ t.length
  d2 : t.length ≤ 8
def spCheckTables : Sp := fun vs H Q _ => ∃ (a S : Nat) (t : Tabs), vs = [.ref a] ∧ TabAt H a t ∧ TabsOk t S ∧ ∀ p H', Same H H' → TabAt H' p t → Q (.ref p) H'
section
variable {P : Program} {w : World} {K : PySem.W.Frag} {mg : Str → Option Value} {base : Heap} {f C : Addr} {fd : FuncData}
abbrev nIsTable : List Str := ["value", "states", "state"]
theorem scIsTable : FnScope nIsTable ["value", "states"] (defScope sIsTable) := ⟨rfl, rfl, rfl, by decide +kernel, rfl, by decide +kernel, by decide +kernel⟩
theorem ok_isTable (T : Txt mg) (C_is_sequence : Cl P w K mg base CX0 1 "is_sequence" spIsSeq) (C_is_below : Cl P w K mg base CX0 3 "is_below" spIsBelow) (F : FnP K "is_table" sIsTable f fd) (hm : mg "is_table" = some (.ref f)) : Cl P w K mg base CX0 4 "is_table" spIsTable := by
  refine cal_of (ps := ["value", "states"]) (F.ok scIsTable (fun vs H Q E h => ?_) (fun cdv A outer s H vs Q E hr h => ⟨_, PSs.nox (pss_one (ps_ret (pe_and (pe_cl C_is_sequence hr (by decide) rfl (pa_cons (pv 0) pa_nil)) (pe_and (pe_cmpR op_eq (pe_callB (call_len) (by rfl) T.len (by decide +kernel) (pa_cons (pv 0) pa_nil)) (pv 1) (nomark _)) (pe_one (pe_callB (cr_all rfl) (by rfl) T.all (by decide +kernel) (pa_cons (pe_lc (own := [("state", 2)]) (g := (gName 2)) rfl scIsTable.nd (pi_sq (pv 0)) (blkOk_by (own := [("state", 2)]) (N := nIsTable) (sc := defScope sIsTable) (by decide +kernel)) (fun _ _ _ _ _ => (pg_name (i := 2) scIsTable.nd rfl (Or.inl rfl))) (fun _ _ _ _ _ => pts_nil) (fun _ _ _ _ _ => (pe_cl C_is_below hr (by decide) rfl (pa_cons (pv 2) (pa_cons (pv 1) pa_nil))))) pa_nil))))))), ?_⟩))
    hm F.kp (F.bindsN fun _ _ _ _ _ _ us hl => match us, hl with | [_, _], _ => rfl)
  · obtain ⟨_, _, _, rfl, _⟩ := h
    rfl
  · obtain ⟨b, S, row, rfl, hB, hl, hS, hz, q⟩ := h
    refine ⟨_, rfl, .ref b, true, rfl, .sq hB, fun H1 s1 => ?_⟩
    have hB1 := hB.same s1
    refine ⟨_, rfl, iteT ⟨_, rfl, _, _, rfl, lenV_sq hB1, _, rfl, rfl, _, rfl, ifT (decide_eq_true (by rw [nV_length, hl])) ?_⟩⟩
    refine ⟨_, rfl, b, _, rfl, hB1, fun J G wk hG D hD => lc_it wk (fun i H' => Same H1 H' ∧ H' D = some (.lst ((row.take i).map fun x => V.bl true))) ⟨same_new hD, upd_same⟩ (fun i H' _ ⟨s2, _⟩ => hG _ (sq_at hB1 s2)) ?_ ?_⟩
    · rintro i x H3 H2 hi ⟨s2, h2⟩ ⟨rfl, hx⟩
      obtain ⟨n, hn, rfl⟩ := nV_of hx
      have hlt := hS n (List.mem_of_getElem? hn)
      refine ⟨rfl, _, rfl, _, rfl, .int (n : Int), S, rfl, rfl, _, h2, ?_, sm_upd1 s2 hD, ?_⟩
      · rw [List.length_map]
        refine wl _ ?_
        rw [List.length_take]
        omega
      · rw [upd_same, take_succ' hn, List.map_append]
        have e : below (S : Int) (.int (n : Int)) = true := by
          show (decide ((0 : Int) ≤ n) && decide ((n : Int) < S)) = true
          rw [decide_eq_true (by omega), decide_eq_true (by omega)]; rfl
        rw [e]
        rfl
    · rintro H2 ⟨s2, h2⟩
      rw [nV_length, List.take_length] at h2
      refine ⟨D, row.map fun _ => true, rfl, .of (by rw [h2, List.map_map]; rfl), ?_⟩
      have e : (row.map fun _ => true).all id = true := by rw [List.all_map]; simp
      rw [e]
      exact q _ (s1.trans s2)
abbrev nCheckTables : List Str := ["tables", "states", "at", "table"]
theorem scCheckTables : FnScope nCheckTables ["tables"] (defScope sCheckTables) := ⟨rfl, rfl, rfl, by decide +kernel, rfl, by decide +kernel, by decide +kernel⟩
theorem ok_checkTables (T : Txt mg) (C_is_sequence : Cl P w K mg base CX0 1 "is_sequence" spIsSeq) (C_is_table : Cl P w K mg base CX0 4 "is_table" spIsTable) (F : FnP K "check_tables" sCheckTables f fd) (hm : mg "check_tables" = some (.ref f)) : Cl P w K mg base CX0 5 "check_tables" spCheckTables := by
  obtain ⟨tD, hD⟩ := T.mD
  obtain ⟨tS, hS⟩ := T.mS
  refine cal_of (ps := ["tables"]) (F.ok scCheckTables (fun vs H Q E h => ?_) (fun cdv A outer s H vs Q E hr h => ⟨_, PSs.nox (pss_cons (ps_if (PW.pt (pw_or (pt_not (pt_val (pe_cl C_is_sequence hr (by decide) rfl (pa_cons (pv 0) pa_nil)) (by intro _; rfl))) (pw_or1 (pt_not (pt_chain op_le op_le pe_int (pe_callB (call_len) (by rfl) T.len (by decide +kernel) (pa_cons (pv 0) pa_nil)) (pe_glob (v := .int 8) rfl hD ⟨_, rfl⟩))))))
       (pss_one ps_never)
       pss_nil)
       (pss_cons (ps_set (i := 1) scCheckTables.nd rfl (Or.inl rfl) (pe_ifExp (pt_val (pe_cl C_is_sequence hr (by decide) rfl (pa_cons (pe_ix ix_seq (pv 0) pe_int (fun _ _ => rfl)) pa_nil)) (by intro _; rfl)) (pe_callB (call_len) (by rfl) T.len (by decide +kernel) (pa_cons (pe_ix ix_seq (pv 0) pe_int (fun _ _ => rfl)) pa_nil)) pe_int))
       (pss_cons (ps_for PassesOwn.never rfl (pi_enumSq rfl T.enum (pa_cons (pv 0) pa_nil)) (pg_tup rfl (pgs_cons (pg_name (i := 2) scCheckTables.nd rfl (Or.inl rfl)) (pgs_cons (pg_name (i := 3) scCheckTables.nd rfl (Or.inl rfl)) pgs_nil)))
       (pss_one (ps_if (PW.pt (pw_or (pt_not (pt_chain op_le op_le pe_int (pv 1) (pe_glob (v := .int 12) rfl hS ⟨_, rfl⟩))) (pw_or1 (pt_not (pt_val (pe_cl C_is_table hr (by decide) rfl (pa_cons (pv 3) (pa_cons (pv 1) pa_nil))) (by intro _; rfl))))))
       (pss_one ps_never)
       pss_nil)))
       (pss_one (ps_ret (pe_callTy (call_tupleSq) (by rfl) T.tuple (by decide +kernel) (pa_cons (pe_lc (own := [("table", 3)]) (g := (gName 3)) rfl scCheckTables.nd (pi_sq (pv 0)) (blkOk_by (own := [("table", 3)]) (N := nCheckTables) (sc := defScope sCheckTables) (by decide +kernel)) (fun _ _ _ _ _ => (pg_name (i := 3) scCheckTables.nd rfl (Or.inl rfl))) (fun _ _ _ _ _ => pts_nil) (fun _ _ _ _ _ => (pe_callTy (call_tupleSq) (by rfl) T.tuple (by decide +kernel) (pa_cons (pv 3) pa_nil)))) pa_nil))))))), ?_⟩))
    hm F.kp (F.bindsN fun _ _ _ _ _ _ us hl => match us, hl with | [_], _ => rfl)
  · obtain ⟨_, _, _, rfl, _⟩ := h
    rfl
  · obtain ⟨a, S, t, rfl, hT, ht, q⟩ := h
    obtain ⟨as, h1, h2, h3⟩ := id hT
    refine ⟨_, rfl, .ref a, true, rfl, .sq h1, fun H1 s1 => ?_⟩
    have h1' := h1.same s1
    have hd1 := ht.d1
    have hd2 := ht.d2
    refine ⟨_, rfl, iteF ⟨_, rfl, _, _, rfl, lenV_sq h1', ?_⟩⟩
    rw [List.length_map, h2]
    refine ⟨_, _, rfl, rfl, _, rfl, ifT (decide_eq_true (by omega)) ⟨_, _, rfl, rfl, _, rfl, ?_⟩⟩
    refine ifF (by rw [decide_eq_true (by omega)]; rfl) ?_
    have h0 : 0 < as.length := by omega
    have hrow0 : IsSq H1 as[0] (nV (t.getD 0 [])) := .inr (s1 _ _ (h3 0 _ (List.getElem?_eq_getElem h0)))
    have g0 : (as.map V.ref)[0]? = some (.ref as[0]) := by rw [List.getElem?_map, List.getElem?_eq_getElem h0]; rfl
    refine ⟨_, rfl, ix_sq (j := 0) h1' g0 rfl ⟨.ref as[0], true, rfl, .sq hrow0, fun H2 s2 => ⟨_, rfl, iteT ⟨_, rfl, ix_sq (j := 0) (h1'.same s2) g0 rfl ⟨_, _, rfl, lenV_sq (hrow0.same s2), ?_⟩⟩⟩⟩⟩
    rw [nV_length, (ht.wf 0 (by omega)).1]
    have s12 := s1.trans s2
    have hs1 := ht.s1
    have hs2 := ht.s2
    refine ⟨_, rfl, a, _, rfl, h1.same s12, fun J G wk hG => for_it wk (fun i σ H' => (∃ v2 v3, σ = [some (.ref a), some (.int (S : Int)), v2, v3]) ∧ Same H H') ⟨⟨none, none, rfl⟩, s12⟩ (fun i σ H' _ ⟨_, s3⟩ => hG _ ?_) ?_ ?_⟩
    · exact (sq_at h1 s3).trans (sq_at h1 s12).symm
    · rintro i x σ H9 H4 hi ⟨⟨v2, v3, rfl⟩, s3⟩ ⟨T', x1, y1, rfl, hT', rfl, e1, e2⟩
      have hil : i < as.length := by rw [List.length_map] at hi; exact hi
      dsimp only at e1 e2
      rw [List.getElem?_map, List.getElem?_eq_getElem hil] at e2
      cases e1
      cases e2
      refine ⟨T', _, rfl, .of upd_same, rfl, _, _, rfl, _, _, rfl, rfl, ?_⟩
      refine ⟨_, rfl, _, _, rfl, rfl, _, rfl, ifT (decide_eq_true (by omega)) ⟨_, _, rfl, rfl, _, rfl, ?_⟩⟩
      refine ifF (by rw [decide_eq_true (by omega)]; rfl) ?_
      have s4 : Same H (upd H9 T' (.tup [V.int (i : Int), V.ref as[i]])) := sm_new s3 hT'
      refine ⟨_, rfl, _, rfl, as[i], S, t.getD i [], rfl, .inr (s4 _ _ (h3 i _ (List.getElem?_eq_getElem hil))), (ht.wf i (by omega)).1, (ht.wf i (by omega)).2, by omega, fun H5 s5 => ⟨_, rfl, iteF ?_⟩⟩
      exact ⟨⟨_, _, rfl⟩, s4.trans s5⟩
    · rintro σ H4 ⟨⟨v2, v3, rfl⟩, s3⟩
      refine ⟨_, rfl, a, _, rfl, h1.same s3, fun J G wk hG D hD => lc_it wk (fun i H' => Same H4 H' ∧ ∃ bs : List Addr, H' D = some (.lst (bs.map V.ref)) ∧ bs.length = i ∧ ∀ j b, bs[j]? = some b → H' b = some (.tup (nV (t.getD j [])))) ⟨same_new hD, [], upd_same, rfl, fun j b z => nomatch z⟩ (fun i H' _ ⟨s5, _⟩ => hG _ (sq_at (h1.same s3) s5)) ?_ ?_⟩
      · rintro i x H5 H6 hi ⟨s5, bs, b1, b2, b3⟩ ⟨rfl, hx⟩
        have hil : i < as.length := by rw [List.length_map] at hi; exact hi
        rw [List.getElem?_map, List.getElem?_eq_getElem hil] at hx
        cases hx
        have hrow := (s3.trans s5) _ _ (h3 i _ (List.getElem?_eq_getElem hil))
        refine ⟨rfl, _, rfl, as[i], _, rfl, .inr hrow, fun p H7 s7 hp => ⟨_, s7 _ _ b1, ?_, sm_upd1 (s5.trans s7) hD, bs ++ [p], ?_, ?_, fun j b z => ?_⟩⟩
        · rw [List.length_map]
          exact wl _ (by omega)
        · rw [upd_same, List.map_append]; rfl
        · rw [List.length_append, b2]; rfl
        · have hbD : b ≠ D := by
            intro e
            by_cases hj : j < bs.length
            · rw [List.getElem?_append_left hj] at z
              have := b3 j b z
              rw [e, b1] at this; cases this
            · rw [List.getElem?_append_right (by omega)] at z
              have e0 : b = p := by
                cases hq : j - bs.length with
                | zero => rw [hq] at z; exact (Option.some.inj z).symm
                | succ n => rw [hq] at z; cases z
              rw [e0] at e
              rw [e, s7 _ _ b1] at hp; cases hp
          rw [upd_ne hbD]
          by_cases hj : j < bs.length
          · rw [List.getElem?_append_left hj] at z
            exact s7 _ _ (b3 j b z)
          · rw [List.getElem?_append_right (by omega)] at z
            cases hq : j - bs.length with
            | zero =>
              rw [hq] at z
              have e0 : b = p := (Option.some.inj z).symm
              have ej : j = i := by omega
              rw [e0, ej]; exact hp
            | succ n => rw [hq] at z; cases z
      · rintro H5 ⟨s5, bs, b1, b2, b3⟩
        rw [List.length_map] at b2
        refine ⟨D, _, rfl, .inl b1, fun p H6 s6 hp => q p H6 ((s3.trans s5).trans s6) ⟨bs, .inr hp, by omega, fun j b z => s6 _ _ (b3 j b z)⟩⟩
/-! ### Machine(..) -/
def spInit (C : Addr) : Sp := fun vs H Q _ => ∃ (m a dx S : Nat) (t : Tabs), vs = [.ref m, .ref a] ∧ H m = some (.ins C dx []) ∧ TabAt H a t ∧ TabsOk t S ∧ ∀ H' dx', (∀ b u, b ≠ m → H b = some u → H' b = some u) → MachAt C H' m t S → (∃ fs, H' m = some (.ins C dx' fs)) → Q .non H'
abbrev nInit : List Str := ["self", "tables"]
theorem scInit : FnScope nInit ["self", "tables"] (defScope sInit) := ⟨rfl, rfl, rfl, by decide +kernel, rfl, by decide +kernel, by decide +kernel⟩
theorem ok_init (T : Txt mg) (M : MTxt K mg C) (C_check_tables : Cl P w K mg base CX0 5 "check_tables" spCheckTables) (F : FunD K "__init__" "Machine.__init__" (defArgs sInit) (defBody sInit) (defScope sInit) [] [] f fd) : FnOk P w K mg base CX0 6 f fd ["self", "tables"] (spInit C) := by
  refine F.ok scInit (fun vs H Q E h => ?_) (fun cdv A outer s H vs Q E hr h => ⟨_, PSs.nox (pss_cons (ps_fld (pv 0) (pe_cl C_check_tables hr (by decide) rfl (pa_cons (pv 1) pa_nil)) rfl)
       (pss_cons (ps_fld (pv 0) (pe_callB (call_len) (by rfl) T.len (by decide +kernel) (pa_cons (pe_fld (pv 0) rfl) pa_nil)) rfl)
       (pss_one (ps_fld (pv 0) (pe_callB (call_len) (by rfl) T.len (by decide +kernel) (pa_cons (pe_ix ix_seq (pe_fld (pv 0) rfl) pe_int (fun _ _ => rfl)) pa_nil)) rfl)))), ?_⟩)
  · obtain ⟨_, _, _, _, _, rfl, _⟩ := h
    rfl
  · obtain ⟨m, a, dx, S, t, rfl, hM, hT, ht, q⟩ := h
    refine ⟨_, rfl, a, S, t, rfl, hT, ht, fun p H1 s1 hp => ⟨_, rfl, m, C, dx, [], rfl, s1 _ _ hM, M.cl, M.nT, by decide, ?_⟩⟩
    have e1 : putF ("tables" : Str) (V.ref p) [] = [(("tables" : Str), V.ref p)] := rfl
    have e2 : ∀ x : V, putF ("deeds" : Str) x [(("tables" : Str), V.ref p)] = [(("tables" : Str), V.ref p), (("deeds" : Str), x)] := fun x => by unfold putF; rw [if_neg (by decide)]; rfl
    have e3 : ∀ x y : V, putF ("states" : Str) y [(("tables" : Str), V.ref p), (("deeds" : Str), x)] = [(("tables" : Str), V.ref p), (("deeds" : Str), x), (("states" : Str), y)] := fun x y => by unfold putF; rw [if_neg (by decide)]; unfold putF; rw [if_neg (by decide)]; rfl
    have hM1 := s1 _ _ hM
    rw [e1]
    have t1 : TabAt (upd H1 m (.ins C dx [(("tables" : Str), V.ref p)])) p t := hp.ins hM1
    obtain ⟨as, a1, a2, a3⟩ := id t1
    refine ⟨_, rfl, m, C, dx, _, _, rfl, upd_same, M.cl, M.nT, lk_here, _, _, rfl, lenV_sq a1, _, rfl, m, C, dx, _, rfl, upd_same, M.cl, M.nD, by show 1 < 1000; decide, ?_⟩
    rw [e2, upd_upd, List.length_map, a2]
    have t2 : TabAt (upd H1 m (.ins C dx [(("tables" : Str), V.ref p), (("deeds" : Str), V.int (t.length : Int))])) p t := hp.ins hM1
    have hd1 := ht.d1
    obtain ⟨xs, b, x1, x2, x3⟩ := t2.row (d := 0) (by omega)
    refine ⟨_, rfl, m, C, dx, _, _, rfl, upd_same, M.cl, M.nT, lk_here, ix_sq (j := 0) x1 x2 rfl ⟨_, _, rfl, lenV_sq (.inr x3), _, rfl, m, C, dx, _, rfl, upd_same, M.cl, M.nS, by show 2 < 1000; decide, ?_⟩⟩
    rw [e3, upd_upd, nV_length, (ht.wf 0 (by omega)).1]
    refine q _ dx (fun b u hb e => by rw [upd_ne hb]; exact s1 _ _ e) ⟨dx, p, upd_same, hp.ins hM1⟩ ⟨_, upd_same⟩
end
end Ag
set_option Elab.async false
set_option linter.all false
set_option maxRecDepth 100000
set_option maxHeartbeats 4000000
namespace Ag
open PySem PySem.Spec PyProof.Rows L2 RZ
/-- the first that is too great -/
def badAt (d : Nat) (log : List Nat) (i : Nat) : Prop := (∀ j x, j < i → log[j]? = some x → x < d) ∧ ∃ x, log[i]? = some x ∧ d ≤ x
def spCheckLog (C CL : Addr) : Sp := fun vs H Q E => ∃ (m la S : Nat) (t : Tabs) (log : List Nat), vs = [.ref m, .ref la] ∧ MachAt C H m t S ∧ IsSq H la (nV log) ∧ log.length ≤ 1000 ∧
  (((∀ x ∈ log, x < t.length) ∧ ∀ p H', Same H H' → H' p = some (.tup (nV log)) → Q (.ref p) H') ∨
    ∃ i, badAt t.length log i ∧ ∀ d H', Same H H' → H' d = some (.xd [(("at" : Str), .int (i : Nat))]) → E (.ref CL) (some d) H')
section
variable {P : Program} {w : World} {K : PySem.W.Frag} {mg : Str → Option Value} {base : Heap} {f C CL CB : Addr} {fd : FuncData}
abbrev nCheckLog : List Str := ["machine", "value", "at", "deed"]
theorem scCheckLog : FnScope nCheckLog ["machine", "value"] (defScope sCheckLog) := ⟨rfl, rfl, rfl, by decide +kernel, rfl, by decide +kernel, by decide +kernel⟩
theorem ok_checkLog (T : Txt mg) (M : MTxt K mg C) (XL : XCl P K mg "BadLog" "at" CL) (C_is_sequence : Cl P w K mg base CX0 1 "is_sequence" spIsSeq) (C_is_below : Cl P w K mg base CX0 3 "is_below" spIsBelow) (F : FnP K "check_log" sCheckLog f fd) (hm : mg "check_log" = some (.ref f)) : Cl P w K mg base (L2.CX P w) 4 "check_log" (spCheckLog C CL) := by
  obtain ⟨tL, hLg⟩ := T.mL
  refine cal_of (ps := ["machine", "value"]) (F.ok scCheckLog (fun vs H Q E h => ?_) (fun cdv A outer s H vs Q E hr h => ⟨_, (pss_cons (ps_if (PW.pt (pw_or (pt_not (pt_val (pe_cl C_is_sequence hr (by decide) rfl (pa_cons (pv 1) pa_nil)) (by intro _; rfl))) (pw_or1 (pt_cmpR op_gt (pe_callB (call_len) (by rfl) T.len (by decide +kernel) (pa_cons (pv 1) pa_nil)) (pe_glob (v := .int 10000) rfl hLg ⟨_, rfl⟩) (nomark _)))))
       (pss_one ps_never)
       pss_nil)
       (pss_cons (ps_for (passes_of rfl) rfl (pi_enumSq rfl T.enum (pa_cons (pv 1) pa_nil)) (pg_tup rfl (pgs_cons (pg_name (i := 2) scCheckLog.nd rfl (Or.inl rfl)) (pgs_cons (pg_name (i := 3) scCheckLog.nd rfl (Or.inl rfl)) pgs_nil)))
       (pss_one (ps_if (pt_not (pt_val (pe_cl C_is_below hr (by decide) rfl (pa_cons (pv 3) (pa_cons (pe_fld (pv 0) rfl) pa_nil))) (by intro _; rfl)))
       (pss_one (ps_raise rfl (takes_of rfl rfl rfl rfl) (pmk_xc XL (hr.mono (by decide)) rfl (pa_cons (pv 2) pa_nil))))
       pss_nil)))
       (pss_one (ps_ret (pe_callTy (call_tupleSq) (by rfl) T.tuple (by decide +kernel) (pa_cons (pv 1) pa_nil)))))), ?_⟩))
    hm F.kp (F.bindsN fun _ _ _ _ _ _ us hl => match us, hl with | [_, _], _ => rfl)
  · obtain ⟨_, _, _, _, _, rfl, _⟩ := h
    rfl
  · obtain ⟨m, la, S, t, log, rfl, hMa, hL, hz, h⟩ := h
    obtain ⟨dx, ta, hM, hT⟩ := id hMa
    refine ⟨_, rfl, .ref la, true, rfl, .sq hL, fun H1 s1 => ⟨_, rfl, iteF ⟨_, rfl, _, _, rfl, lenV_sq (hL.same s1), _, _, rfl, rfl, _, rfl, ifF (decide_eq_false (by rw [nV_length]; omega)) ?_⟩⟩⟩
    refine ⟨_, rfl, la, _, rfl, hL.same s1, fun J G wk hG => for_it wk (fun i σ H' => (∃ v2 v3, σ = [some (.ref m), some (.ref la), v2, v3]) ∧ Same H H' ∧ ∀ j x, j < i → log[j]? = some x → x < t.length) ⟨⟨none, none, rfl⟩, s1, fun j x z => absurd z (Nat.not_lt_zero _)⟩ (fun i σ H' _ ⟨_, s3, _⟩ => hG _ ((sq_at hL s3).trans (sq_at hL s1).symm)) ?_ ?_⟩
    · rintro i x σ H9 H4 hi ⟨⟨v2, v3, rfl⟩, s3, hb⟩ ⟨T', x1, y1, rfl, hT', rfl, e1, e2⟩
      dsimp only at e1 e2
      cases e1
      obtain ⟨n, hn, rfl⟩ := nV_of e2
      have s4 : Same H (upd H9 T' (.tup [V.int (i : Int), V.int (n : Int)])) := sm_new s3 hT'
      refine ⟨T', _, rfl, .of upd_same, rfl, _, _, rfl, _, _, rfl, rfl, ?_⟩
      refine ⟨_, rfl, _, rfl, m, C, dx, _, _, rfl, s4 _ _ hM, M.cl, M.nD, mF_d _ _ _, .int (n : Int), _, rfl, rfl, _, rfl, ?_⟩
      by_cases hlt : n < t.length
      · have e : below (t.length : Int) (.int (n : Int)) = true := by
          show (decide ((0 : Int) ≤ n) && decide ((n : Int) < t.length)) = true
          rw [decide_eq_true (by omega), decide_eq_true (by omega)]; rfl
        rw [e]
        refine iteF ⟨⟨_, _, rfl⟩, s4, fun j x hj hx => ?_⟩
        by_cases hji : j < i
        · exact hb j x hji hx
        · have : j = i := by omega
          subst this
          rw [hn] at hx
          rw [← Option.some.inj hx]; exact hlt
      · have e : below (t.length : Int) (.int (n : Int)) = false := by
          show (decide ((0 : Int) ≤ n) && decide ((n : Int) < t.length)) = false
          rw [decide_eq_false (show ¬ (n : Int) < t.length by omega), Bool.and_false]
        rw [e]
        refine iteT ⟨_, rfl, _, rfl, fun d hd => ?_⟩
        rcases h with ⟨h1, _⟩ | ⟨i0, ⟨h1, y, h2, h3⟩, q⟩
        · exact absurd (h1 n (List.mem_of_getElem? hn)) hlt
        · have ei : i0 = i := by
            rcases Nat.lt_trichotomy i0 i with z | z | z
            · have := hb i0 y z h2; omega
            · exact z
            · have := h1 i n z hn; omega
          subst ei
          exact q d _ (sm_new s4 hd) upd_same
    · rintro σ H4 ⟨⟨v2, v3, rfl⟩, s3, hb⟩
      rw [nV_length] at hb
      refine ⟨_, rfl, la, _, rfl, hL.same s3, fun p H6 s6 hp => ?_⟩
      rcases h with ⟨_, q⟩ | ⟨i0, ⟨h1, y, h2, h3⟩, q⟩
      · exact q p H6 (s3.trans s6) hp
      · have := hb i0 y (List.getElem?_eq_some_iff.mp h2).1 h2
        omega
/-! ### check_copies -/
/-- copies as given: pairs as lists or tuples -/
def CpsIn (H : Hp) (a : Addr) (cs : List (Nat × Nat)) : Prop := ∃ as : List Addr, IsSq H a (as.map V.ref) ∧ as.length = cs.length ∧ ∀ (i : Nat) (b : Addr) (c : Nat × Nat), as[i]? = some b → cs[i]? = some c → IsSq H b (pairV c)
theorem CpsIn.same {H H' : Hp} {a : Addr} {cs : List (Nat × Nat)} (h : CpsIn H a cs) (s : Same H H') : CpsIn H' a cs := by
  obtain ⟨as, h1, h2, h3⟩ := h
  exact ⟨as, h1.same s, h2, fun i b c e1 e2 => (h3 i b c e1 e2).same s⟩
theorem PairsAt.cps {H : Hp} {a : Addr} {cs : List (Nat × Nat)} (h : PairsAt H a cs) : CpsIn H a cs := by
  obtain ⟨as, h1, h2, h3⟩ := h
  exact ⟨as, h1, h2, fun i b c e1 e2 => .inr (h3 i b c e1 e2)⟩
/-- copies that are refused: no sequence, or a sequence of one bad pair -/
def BadCps (H : Hp) (S n : Nat) (v : V) : Prop := flatI v = true ∨ ∃ (a b : Addr) (ys : List V), v = .ref a ∧ IsSq H a [.ref b] ∧ IsSq H b ys ∧ ys.all flatI = true ∧ (ys.length ≠ 2 ∨ ∃ x y, ys = [x, y] ∧ (below S x && below (n + 1 : Nat) y) = false)
def spCheckCopies (C CB : Addr) : Sp := fun vs H Q E => ∃ (m la S : Nat) (t : Tabs) (log : List V) (v : V), vs = [.ref m, .ref la, v] ∧ MachAt C H m t S ∧ IsSq H la log ∧
  ((∃ (a : Addr) (cs : List (Nat × Nat)), v = .ref a ∧ CpsIn H a cs ∧ CopiesOk S log.length cs ∧ cs.length ≤ 100 ∧ ∀ p H', Same H H' → PairsAt H' p cs → Q (.ref p) H') ∨
    (BadCps H S log.length v ∧ ∀ d H', Same H H' → H' d = some (.xd [(("at" : Str), v)]) → E (.ref CB) (some d) H'))
abbrev nCheckCopies : List Str := ["machine", "log", "copies", "found", "copy"]
theorem scCheckCopies : FnScope nCheckCopies ["machine", "log", "copies"] (defScope sCheckCopies) := ⟨rfl, rfl, rfl, by decide +kernel, rfl, by decide +kernel, by decide +kernel⟩
theorem ok_checkCopies (T : Txt mg) (M : MTxt K mg C) (XL : XCl P K mg "BadCopy" "at" CB) (C_is_sequence : Cl P w K mg base CX0 1 "is_sequence" spIsSeq) (C_is_copy : Cl P w K mg base CX0 4 "is_copy" (spIsCopy C)) (F : FnP K "check_copies" sCheckCopies f fd) (hm : mg "check_copies" = some (.ref f)) : Cl P w K mg base (L2.CX P w) 5 "check_copies" (spCheckCopies C CB) := by
  refine cal_of (ps := ["machine", "log", "copies"]) (F.ok scCheckCopies (fun vs H Q E h => ?_) (fun cdv A outer s H vs Q E hr h => ⟨_, (pss_cons (ps_if (pt_not (pt_val (pe_cl C_is_sequence hr (by decide) rfl (pa_cons (pv 2) pa_nil)) (by intro _; rfl)))
       (pss_one (ps_raise rfl (takes_of rfl rfl rfl rfl) (pmk_xc XL (hr.mono (by decide)) rfl (pa_cons (pv 2) pa_nil))))
       pss_nil)
       (pss_cons (ps_set (i := 3) scCheckCopies.nd rfl (Or.inl rfl) (pe_lst pa_nil))
       (pss_cons (ps_for (passes_of rfl) rfl (pi_sq (pv 2)) (pg_name (i := 4) scCheckCopies.nd rfl (Or.inl rfl))
       (pss_cons (ps_if (PW.pt (pw_or (pt_not (pt_val (pe_cl C_is_sequence hr (by decide) rfl (pa_cons (pv 4) pa_nil)) (by intro _; rfl))) (pw_or (pt_cmpR op_ne (pe_callB (call_len) (by rfl) T.len (by decide +kernel) (pa_cons (pv 4) pa_nil)) pe_int (nomark _)) (pw_or1 (pt_not (pt_val (pe_cl C_is_copy hr (by decide) rfl (pa_cons (pv 0) (pa_cons (pv 1) (pa_cons (pv 4) pa_nil)))) (by intro _; rfl)))))))
       (pss_one (ps_raise rfl (takes_of rfl rfl rfl rfl) (pmk_xc XL (hr.mono (by decide)) rfl (pa_cons (pv 2) pa_nil))))
       pss_nil)
       (pss_one (ps_expr (pe_bm PySem.F.plainAttrs_list PySem.F.slot_list_append PySem.F.type_list_append mt_append (pv 3) (pa_cons (pe_tup (pa_cons (pe_ix ix_seq (pv 4) pe_int (fun _ _ => rfl)) (pa_cons (pe_ix ix_seq (pv 4) pe_int (fun _ _ => rfl)) pa_nil))) pa_nil))))))
       (pss_one (ps_ret (pe_callTy (call_tupleSq) (by rfl) T.tuple (by decide +kernel) (pa_cons (pv 3) pa_nil))))))), ?_⟩))
    hm F.kp (F.bindsN fun _ _ _ _ _ _ us hl => match us, hl with | [_, _, _], _ => rfl)
  · obtain ⟨_, _, _, _, _, _, rfl, _⟩ := h
    rfl
  · obtain ⟨m, la, S, t, log, v, rfl, hMa, hL, h⟩ := h
    rcases h with ⟨a, cs, rfl, hC, hco, hz, q⟩ | ⟨hb, q⟩
    · obtain ⟨as, a1, a2, a3⟩ := id hC
      refine ⟨_, rfl, .ref a, true, rfl, .sq a1, fun H1 s1 => ⟨_, rfl, iteF ?_⟩⟩
      refine ⟨by show (0 : Nat) ≤ sizeLine; decide, fun D hD1 => ?_⟩
      have hD : H D = none := Same.free s1 hD1
      refine ⟨_, rfl, a, _, rfl, a1.same (sm_new s1 hD1), fun J G wk hG => for_it wk (fun i σ H' => (∃ v4, σ = [some (.ref m), some (.ref la), some (.ref a), some (.ref D), v4]) ∧ Same H H' ∧ ∃ ps : List Addr, H' D = some (.lst (ps.map V.ref)) ∧ ps.length = i ∧ ∀ (j : Nat) (b : Addr) (c : Nat × Nat), ps[j]? = some b → cs[j]? = some c → H' b = some (.tup (pairV c)))
        ⟨⟨none, rfl⟩, sm_new s1 hD1, [], upd_same, rfl, fun j b c z => nomatch z⟩ (fun i σ H' _ ⟨_, s3, _⟩ => hG _ ((sq_at a1 s3).trans (sq_at a1 (sm_new s1 hD1)).symm)) ?_ ?_⟩
      · rintro i x σ H9 H4 hi ⟨⟨v4, rfl⟩, s3, ps, b1, b2, b3⟩ ⟨rfl, hx⟩
        have hil : i < as.length := by rw [List.length_map] at hi; exact hi
        rw [List.getElem?_map, List.getElem?_eq_getElem hil] at hx
        cases hx
        obtain ⟨c, hc⟩ : ∃ c, cs[i]? = some c := ⟨cs[i]'(by omega), List.getElem?_eq_getElem (by omega)⟩
        obtain ⟨c1, c2⟩ := hco c (List.mem_of_getElem? hc)
        have hb0 : IsSq H as[i] (pairV c) := a3 i _ c (List.getElem?_eq_getElem hil) hc
        refine ⟨_, rfl, .ref as[i], true, rfl, .sq (hb0.same s3), fun H5 s5 => ⟨_, rfl, iteF ⟨_, rfl, _, _, rfl, lenV_sq (hb0.same (s3.trans s5)), rfl, _, rfl, ifF rfl ⟨_, rfl, _, rfl, _, rfl, ?_⟩⟩⟩⟩
        have s35 := s3.trans s5
        refine ⟨m, la, as[i], S, t, log, .int (c.1 : Int), .int (c.2 : Int), rfl, hMa.same s35, hL.same s35, hb0.same s35, rfl, rfl, _, rfl, ?_⟩
        have e : (below (S : Int) (.int (c.1 : Int)) && below (log.length + 1 : Nat) (.int (c.2 : Int))) = true := by
          show ((decide ((0 : Int) ≤ c.1) && decide ((c.1 : Int) < S)) && (decide ((0 : Int) ≤ c.2) && decide ((c.2 : Int) < (log.length + 1 : Nat)))) = true
          rw [decide_eq_true (by omega), decide_eq_true (by omega), decide_eq_true (by omega), decide_eq_true (by omega)]; rfl
        rw [e]
        refine iteF ?_
        refine ⟨_, rfl, .inl ⟨rfl, _, .of (s5 _ _ b1)⟩, _, rfl, ix_sq (j := 0) (hb0.same s35) rfl rfl ⟨_, rfl, ix_sq (j := 1) (hb0.same s35) rfl rfl ⟨by show 2 ≤ sizeLine; decide, fun p hp => ⟨D, _, _, rfl, rfl, upd_keep hp (s5 _ _ b1), ?_, ?_⟩⟩⟩⟩
        · rw [List.length_map]
          exact wl _ (by omega)
        · have hDp : D ≠ p := ne_of_none (s5 _ _ b1) hp
          refine ⟨⟨_, rfl⟩, sm_upd1 (sm_new s35 hp) hD, ps ++ [p], by rw [upd_same, List.map_append]; rfl, by simp [b2], fun j b c' z zc => ?_⟩
          have key : b ≠ D → (upd H5 p (.tup [V.int (c.1 : Int), V.int (c.2 : Int)])) b = some (.tup (pairV c')) → (upd (upd H5 p (.tup [V.int (c.1 : Int), V.int (c.2 : Int)])) D (.lst (ps.map V.ref ++ [V.ref p]))) b = some (.tup (pairV c')) := fun h1 h2 => by rw [upd_ne h1]; exact h2
          by_cases hj : j < ps.length
          · rw [List.getElem?_append_left hj] at z
            have q1 := b3 j b c' z zc
            exact key (fun e => by rw [e, b1] at q1; exact nomatch Option.some.inj q1) (upd_keep hp (s5 _ _ q1))
          · rw [List.getElem?_append_right (by omega)] at z
            cases hq : j - ps.length with
            | zero =>
              rw [hq] at z
              have e0 : b = p := (Option.some.inj z).symm
              have ej : j = i := by omega
              subst e0 ej
              rw [hc] at zc
              cases zc
              exact key (Ne.symm hDp) upd_same
            | succ n => rw [hq] at z; cases z
      · rintro σ H4 ⟨⟨v4, rfl⟩, s3, ps, b1, b2, b3⟩
        rw [List.length_map] at b2
        exact ⟨_, rfl, D, _, rfl, .inl b1, fun p H6 s6 hp => q p H6 (s3.trans s6) ⟨ps, .inr hp, by omega, fun j b c z zc => s6 _ _ (b3 j b c z zc)⟩⟩
    · rcases hb with hv | ⟨a, b, ys, rfl, hA, hB, hf, hbad⟩
      · refine ⟨_, rfl, v, false, rfl, .no hv, fun H1 s1 => ⟨_, rfl, iteT ⟨_, rfl, _, rfl, fun d hd => q d _ (sm_new s1 hd) upd_same⟩⟩⟩
      · refine ⟨_, rfl, .ref a, true, rfl, .sq hA, fun H1 s1 => ⟨_, rfl, iteF ?_⟩⟩
        refine ⟨by show (0 : Nat) ≤ sizeLine; decide, fun D hD1 => ?_⟩
        refine ⟨_, rfl, a, _, rfl, hA.same (sm_new s1 hD1), fun J G wk hG => for_it wk (fun i σ H' => i = 0 ∧ σ = [some (.ref m), some (.ref la), some (.ref a), some (.ref D), none] ∧ Same H H') ⟨rfl, rfl, sm_new s1 hD1⟩ (fun i σ H' _ ⟨_, _, s3⟩ => hG _ ((sq_at hA s3).trans (sq_at hA (sm_new s1 hD1)).symm)) ?_ ?_⟩
        · rintro i x σ H9 H4 hi ⟨rfl, rfl, s3⟩ ⟨rfl, hx⟩
          cases hx
          refine ⟨_, rfl, .ref b, true, rfl, .sq (hB.same s3), fun H5 s5 => ⟨_, rfl, iteF ⟨_, rfl, _, _, rfl, lenV_sq (hB.same (s3.trans s5)), rfl, _, rfl, ?_⟩⟩⟩
          rcases hbad with hl | ⟨x, y, rfl, hxy⟩
          · refine ifT (by rw [decide_eq_false (fun z => hl (by have := V.int.inj z; omega))]; rfl) (iteT ⟨_, rfl, _, rfl, fun d hd => q d _ (sm_new (s3.trans s5) hd) upd_same⟩)
          · have s35 := s3.trans s5
            have hfx : flatI x = true := List.all_eq_true.mp hf x (by simp)
            have hfy : flatI y = true := List.all_eq_true.mp hf y (by simp)
            refine ifF rfl ⟨_, rfl, _, rfl, _, rfl, m, la, b, S, t, log, x, y, rfl, hMa.same s35, hL.same s35, hB.same s35, hfx, hfy, _, rfl, ?_⟩
            rw [hxy]
            exact iteT ⟨_, rfl, _, rfl, fun d hd => q d _ (sm_new s35 hd) upd_same⟩
        · rintro σ H4 ⟨z, _⟩
          exact absurd z (by show ¬ (1 : Nat) = 0; decide)
end
end Ag
set_option Elab.async false
set_option linter.all false
set_option maxRecDepth 100000
set_option maxHeartbeats 4000000
namespace Ag
open PySem PySem.Spec PyProof.Rows L2 RZ
def rightV (t : Tabs) (log : List Nat) (cs : List (Nat × Nat)) (xs : List V) : Bool := isLotV log.length xs && enough t log cs (natsOf xs)
theorem BadCps.same {H H' : Hp} {S n : Nat} {v : V} (h : BadCps H S n v) (s : Same H H') : BadCps H' S n v := by
  rcases h with h | ⟨a, b, ys, e, h1, h2, h3⟩
  · exact .inl h
  · exact .inr ⟨a, b, ys, e, h1.same s, h2.same s, h3⟩
/-- copies that are taken -/
structure CpsOk (H : Hp) (a : Addr) (S n : Nat) (cs : List (Nat × Nat)) : Prop where
  at_ : CpsIn H a cs
  ok : CopiesOk S n cs
  z : cs.length ≤ 100
theorem CpsOk.same {H H' : Hp} {a : Addr} {S n : Nat} {cs : List (Nat × Nat)} (h : CpsOk H a S n cs) (s : Same H H') : CpsOk H' a S n cs := ⟨h.at_.same s, h.ok, h.z⟩
def spKeptRight (C CL CB : Addr) : Sp := fun vs H Q E => ∃ (m la S : Nat) (t : Tabs) (log : List Nat) (cv v : V), vs = [.ref m, .ref la, cv, v] ∧ MachAt C H m t S ∧ Wf t S ∧ IsSq H la (nV log) ∧ log.length ≤ 100 ∧
  (((∀ d ∈ log, d < t.length) ∧ ∃ ca cs, cv = .ref ca ∧ CpsOk H ca S log.length cs ∧ ((flatI v = true ∧ ∀ H', Same H H' → Q (.bl false) H') ∨ ∃ a xs, v = .ref a ∧ IsSq H a xs ∧ xs.all flatI = true ∧ xs.length ≤ 1000 ∧ ∀ H', Same H H' → Q (.bl (rightV t log cs xs)) H')) ∨
   ((∀ d ∈ log, d < t.length) ∧ BadCps H S log.length cv ∧ ∀ d H', Same H H' → H' d = some (.xd [(("at" : Str), cv)]) → E (.ref CB) (some d) H') ∨
   ∃ i, badAt t.length log i ∧ ∀ d H', Same H H' → H' d = some (.xd [(("at" : Str), .int (i : Nat))]) → E (.ref CL) (some d) H')
section
variable {P : Program} {w : World} {K : PySem.W.Frag} {mg : Str → Option Value} {base : Heap} {f C CL CB : Addr} {fd : FuncData}
abbrev nKeptRight : List Str := ["machine", "log", "copies", "value", "told", "some", "state", "age"]
theorem scKeptRight : FnScope nKeptRight ["machine", "log", "copies", "value"] (defScope sKeptRight) := ⟨rfl, rfl, rfl, by decide +kernel, rfl, by decide +kernel, by decide +kernel⟩
theorem ok_keptRight (T : Txt mg) (M : MTxt K mg C) (C_check_log : Cl P w K mg base (L2.CX P w) 4 "check_log" (spCheckLog C CL)) (C_check_copies : Cl P w K mg base (L2.CX P w) 5 "check_copies" (spCheckCopies C CB))
    (C_is_lot : Cl P w K mg base CX0 4 "is_lot" spIsLot) (C_kept_end : Cl P w K mg base CX0 2 "kept_end" (spKeptEnd C)) (C_behind : Cl P w K mg base CX0 1 "behind" spLed) (F : FnP K "kept_right" sKeptRight f fd) (hm : mg "kept_right" = some (.ref f)) : FnOk P w K mg base (L2.CX P w) 6 f fd ["machine", "log", "copies", "value"] (spKeptRight C CL CB) := by
  refine (F.ok scKeptRight (fun vs H Q E h => ?_) (fun cdv A outer s H vs Q E hr h => ⟨_, (pss_cons (ps_set (i := 4) scKeptRight.nd rfl (Or.inl rfl) (pe_clE C_check_log (passes_call (takes_of rfl rfl rfl rfl) (fun _ _ _ _ h => h)) hr (by decide) rfl (pa_cons (pv 0) (pa_cons (pv 1) pa_nil))))
       (pss_cons (ps_set (i := 5) scKeptRight.nd rfl (Or.inl rfl) (pe_clE C_check_copies (passes_call (takes_of rfl rfl rfl rfl) (fun _ _ _ _ h => h)) hr (by decide) rfl (pa_cons (pv 0) (pa_cons (pv 4) (pa_cons (pv 2) pa_nil)))))
       (pss_cons (ps_if (pt_not (pt_val (pe_cl C_is_lot hr (by decide) rfl (pa_cons (pv 3) (pa_cons (pe_callB (call_len) (by rfl) T.len (by decide +kernel) (pa_cons (pv 4) pa_nil)) pa_nil))) (by intro _; rfl)))
       (pss_one (ps_ret pe_bl))
       pss_nil)
       (pss_cons (ps_for (passes_of rfl) rfl (pi_sq (pv 5)) (pg_tup rfl (pgs_cons (pg_name (i := 6) scKeptRight.nd rfl (Or.inl rfl)) (pgs_cons (pg_name (i := 7) scKeptRight.nd rfl (Or.inl rfl)) pgs_nil)))
       (pss_one (ps_if (pt_cmpR op_ne (pe_cl C_kept_end hr (by decide) rfl (pa_cons (pv 0) (pa_cons (pv 4) (pa_cons (pv 3) (pa_cons (pv 6) (pa_cons (pv 7) pa_nil)))))) (pe_cl C_behind hr (by decide) rfl (pa_cons (pe_fld (pv 0) rfl) (pa_cons (pv 6) (pa_cons (pe_slice sl_tupA (pv 4) (po_some (pv 7)) po_none) pa_nil)))) (nomark _))
       (pss_one (ps_ret pe_bl))
       pss_nil)))
       (pss_one (ps_ret pe_bl)))))), ?_⟩))
  · obtain ⟨_, _, _, _, _, _, _, rfl, _⟩ := h
    rfl
  · obtain ⟨m, la, S, t, log, cv, v, rfl, hMa, W, hL, hz, h⟩ := h
    refine ⟨_, rfl, _, rfl, m, la, S, t, log, rfl, hMa, hL, by omega, ?_⟩
    rcases h with ⟨hlog, h⟩ | ⟨hlog, hb, q⟩ | ⟨i, hb, q⟩
    · refine .inl ⟨hlog, fun p H1 s1 hp => ?_⟩
      obtain ⟨ca, cs, rfl, hC, h⟩ := h
      refine ⟨_, rfl, _, rfl, _, rfl, m, p, S, t, nV log, .ref ca, rfl, hMa.same s1, .inr hp, .inl ⟨ca, cs, rfl, hC.at_.same s1, by rw [nV_length]; exact hC.ok, hC.z, fun c H2 s2 hc => ?_⟩⟩
      have s12 := s1.trans s2
      have hp2 := s2 _ _ hp
      refine ⟨_, rfl, _, rfl, _, _, rfl, lenV_sq (.inr hp2), v, (nV log).length, rfl, ?_⟩
      rcases h with ⟨hv, q⟩ | ⟨a, xs, rfl, hX, hf, hxz, q⟩
      · exact .inl ⟨hv, fun H3 s3 => ⟨_, rfl, iteT (q _ (s12.trans s3))⟩⟩
      · refine .inr ⟨a, xs, rfl, hX.same s12, hf, hxz, fun H3 s3 => ⟨_, rfl, ?_⟩⟩
        rw [nV_length]
        by_cases hlot : isLotV log.length xs = true
        · rw [hlot]
          refine iteF ?_
          have hb : xs.all (below (log.length : Int)) = true := by
            unfold isLotV at hlot
            exact (Bool.and_eq_true_iff.mp hlot).1
          have el := nV_natsOf hb
          have er : rightV t log cs xs = enough t log cs (natsOf xs) := by unfold rightV; rw [hlot, Bool.true_and]
          rw [er] at q
          generalize natsOf xs = lot at el q
          subst el
          rw [nV_length] at hxz
          have hp : ∀ x ∈ lot, x < log.length := below_all.mp hb
          have s13 := s12.trans s3
          obtain ⟨dx, ta, hM, hT⟩ := id hMa
          obtain ⟨as, a1, a2, a3⟩ := id (hc.same s3)
          refine ⟨_, rfl, c, _, rfl, a1, fun J G wk hG => for_it wk (fun i σ H' => (∃ v6 v7, σ = [some (.ref m), some (.ref la), some (.ref ca), some (.ref a), some (.ref p), some (.ref c), v6, v7]) ∧ Same H3 H' ∧ enough t log (cs.take i) lot = true)
            ⟨⟨none, none, rfl⟩, Same.refl _, rfl⟩ (fun i σ H' _ ⟨_, s4, _⟩ => hG _ (sq_at a1 s4)) ?_ ?_⟩
          · rintro i x σ H9 H4 hi ⟨⟨v6, v7, rfl⟩, s4, he⟩ ⟨rfl, hx⟩
            have hil : i < as.length := by rw [List.length_map] at hi; exact hi
            rw [List.getElem?_map, List.getElem?_eq_getElem hil] at hx
            cases hx
            obtain ⟨cp, hcp⟩ : ∃ cp, cs[i]? = some cp := ⟨cs[i]'(by omega), List.getElem?_eq_getElem (by omega)⟩
            have hcm := List.mem_of_getElem? hcp
            obtain ⟨c1, c2⟩ := hC.ok cp hcm
            have hpair : H4 as[i] = some (.tup (pairV cp)) := s4 _ _ (a3 i _ cp (List.getElem?_eq_getElem hil) hcp)
            have s14 := s13.trans s4
            have hpp : H4 p = some (.tup (nV log)) := s4 _ _ (s3 _ _ hp2)
            refine ⟨as[i], _, rfl, .of hpair, rfl, _, _, rfl, _, _, rfl, rfl, ?_⟩
            refine ⟨_, rfl, _, rfl, _, rfl, _, rfl, _, rfl, m, p, a, cp.1, cp.2, S, t, log, lot, rfl, hMa.same s14, .inr hpp, hX.same s14, W, c1, hlog, hp, hxz, fun H5 s5 => ?_⟩
            have s15 := s14.trans s5
            refine ⟨_, rfl, m, C, dx, _, _, rfl, s15 _ _ hM, M.cl, M.nT, mF_t _ _ _, ?_⟩
            refine ⟨_, rfl, _, rfl, _, rfl, _, rfl, ?_⟩
            unfold tNoPart
            refine slA_drop (s5 _ _ hpp) (by rw [nV_length]; exact c2) fun p5 H6 s6 hp6 => ?_
            rw [nV_drop] at hp6
            refine ⟨ta, p5, cp.1, S, t, log.drop cp.2, rfl, (hT.same s15).same s6, .inr hp6, W, c1, fun d hdm => hlog d (List.mem_of_mem_drop hdm), rfl, _, rfl, ?_⟩
            have ee : enough t log (cs.take (i + 1)) lot = decide (keptEnd t log lot cp.1 cp.2 = led t cp.1 (log.drop cp.2)) := by
              unfold enough at he ⊢
              rw [take_succ' hcp, List.all_append, he, Bool.true_and]
              simp
            by_cases hk : keptEnd t log lot cp.1 cp.2 = led t cp.1 (log.drop cp.2)
            · refine ifF (by rw [hk, decide_eq_true rfl]; rfl) ⟨⟨_, _, rfl⟩, s4.trans (s5.trans s6), ?_⟩
              rw [ee]; exact decide_eq_true hk
            · refine ifT (by rw [decide_eq_false (fun z => hk (by have := V.int.inj z; omega))]; rfl) ?_
              have ef : enough t log cs lot = false := by
                rw [Bool.eq_false_iff]
                intro z
                unfold enough at z
                exact hk (of_decide_eq_true (List.all_eq_true.mp z cp hcm))
              rw [← ef]
              exact q _ (s15.trans s6)
          · rintro σ H4 ⟨⟨v6, v7, rfl⟩, s4, he⟩
            rw [List.length_map, a2, List.take_length] at he
            show Q (.bl true) H4
            rw [← he]
            exact q _ (s13.trans s4)
        · have e : isLotV log.length xs = false := by simpa using hlot
          rw [e]
          have er : rightV t log cs xs = false := by unfold rightV; rw [e, Bool.false_and]
          rw [er] at q
          exact iteT (q _ (s12.trans s3))
    · refine .inl ⟨hlog, fun p H1 s1 hp => ?_⟩
      refine ⟨_, rfl, _, rfl, _, rfl, m, p, S, t, nV log, cv, rfl, hMa.same s1, .inr hp, .inr ⟨by rw [nV_length]; exact hb.same s1, fun d H2 s2 hd => q d H2 (s1.trans s2) hd⟩⟩
    · exact .inr ⟨i, hb, q⟩
end
end Ag
set_option Elab.async false
set_option linter.all false
set_option maxRecDepth 100000
set_option maxHeartbeats 4000000
namespace Ag
open PySem PySem.Spec PyProof.Rows L2 RZ
/-! ### d.items(), d.values() of a dict whose keys are tuples -/
section
variable {X : Cx} {pins : List (Addr × Obj)} {σ : L2.St} {H : Hp} {s : Shared} {d : Addr} {o : Obj}
/-- a dict with tuple keys, entry by entry -/
theorem dt_ent {kvs : List (List Key × V)} (I : Inv X pins σ H s) (h : Rd H d (.dT kvs)) :
    (d == sysModules) = false ∧ kvs.length ≤ sizeLine ∧ ∃ (es : Array DictEntry) (ep : Nat), s.heap.DictRaw d es ep ∧ es.size = kvs.length ∧
      ∀ (i : Nat) (hi : i < es.size), ∃ (k : List Key) (v : V) (q : Addr), kvs[i]? = some (k, v) ∧ es[i].key = .ref q ∧ H q = some (.tup (k.map kV)) ∧ RelV v es[i].val := by
  obtain ⟨z, hs, xs, pr, o', es, ep, ho, hx, hdt, he, _⟩ := (show ObjOk X.prog X.w H s.heap d (.dT kvs) from h.ok I.hok)
  have l1 : es.size = xs.length := size_of_entries he
  have l2 : kvs.length = xs.length := Paired.length pr
  refine ⟨hs, z, es, ep, ⟨o', ho, hx, hdt⟩, by omega, fun i hi => ?_⟩
  have hik : i < kvs.length := by omega
  obtain ⟨b, hb, e1, e2, e3⟩ := L2.paired_get pr (List.getElem?_eq_getElem hik)
  have q := entry_at he i
  rw [hb, Array.getElem?_eq_getElem hi] at q
  have e := Option.some.inj q
  refine ⟨kvs[i].1, kvs[i].2, b.2.1, List.getElem?_eq_getElem hik, ?_, e2, ?_⟩
  · rw [e] <;> rfl
  · rw [e] <;> exact e3
def ItiT (d : Addr) (o : Obj) (kvs : List (List Key × V)) : It :=
  ⟨fun i H => H d = some (.frz o (.dT kvs)) ∧ i < kvs.length, fun i H x H' => ∃ (T : Addr) (k : List Key) (v : V) (q : Addr), kvs[i]? = some (k, v) ∧ H q = some (.tup (k.map kV)) ∧ x = .ref T ∧ H T = none ∧ H' = upd H T (.tup [.ref q, v]), fun i H => H d = some (.frz o (.dT kvs)) ∧ kvs.length ≤ i⟩
theorem turn_itemsT {P : Program} {w : World} {K : PySem.W.Frag} {kvs : List (List Key × V)} {elts : List Expr} {kk : Nat} {tpos : Pos} (it ep : Addr) (hod : ∃ es : Array DictEntry, o.data = .dict es ep) :
    Turn P w K (.Tuple elts kk tpos) (ItiT d o kvs) [it] it (fun i h => ∃ ok ov, IsItemIter h it d i kvs.length ep ok ov) where
  mem := by simp
  obj := fun i h st b hb => by
    obtain ⟨ok, ov, e⟩ := st
    rw [List.mem_singleton.mp hb]
    exact ⟨_, e, fun v z => nomatch z⟩
  keep := fun i h h' st k => let ⟨ok, ov, e⟩ := st; ⟨ok, ov, k it (by simp) _ e⟩
  item := by
    intro X hP hw hK hc i pins s σ H E I hf st hg
    subst hP hw hK
    obtain ⟨hd, hi⟩ := hg
    obtain ⟨hs, _, es, ep', raw, hsz, ent⟩ := dt_ent I (.inr ⟨o, hd⟩)
    have hep : ep' = ep := by
      obtain ⟨es', e'⟩ := hod
      obtain ⟨o', ho', hx', hd'⟩ := raw
      obtain ⟨ho2, _⟩ := (show ObjOk X.prog X.w H s.heap d (.frz o (.dT kvs)) from I.hok d _ hd)
      rw [ho'] at ho2
      cases ho2
      exact (dict_ep e' hd').2
    subst hep
    have hie : i < es.size := by omega
    obtain ⟨k, v, q, hkv, hkey, hq, rv⟩ := ent i hie
    obtain ⟨ok, ov, he⟩ := st
    rw [← hsz] at he
    have hlt : it < s.heap.objs.size := Heap.lt_size he
    refine wpAny_pyNext_items_item_raw he raw hie fun h' ho hT hz hk => ?_
    refine ⟨_, rfl, wpAny_letOwnedTupleGo_items (s := { s with heap := h' }) ho fun h'' he' sb => ?_⟩
    have hT2 : h''.get? s.heap.objs.size = some { cls := .type "tuple", data := .seq #[es[i].key, es[i].val] } := (sb.2 _ (Nat.ne_of_gt hlt)).trans hT
    have new : ObjOk X.prog X.w (upd H s.heap.objs.size (.tup [.ref q, v])) h'' s.heap.objs.size (.tup [.ref q, v]) :=
      ⟨by show 2 ≤ sizeLine; decide, [es[i].key, es[i].val], .cons hkey (.cons rv .nil), ⟨_, hT2, rfl, _, rfl⟩⟩
    have I1 : Inv X pins σ (upd H s.heap.objs.size (.tup [.ref q, v])) { s with heap := h'' } :=
      I.turnedNew (t' := s.toks) (ch := [it]) (fun b ob hb e => (sb.2 b (by simpa using hb)).trans (hk b ob (by simpa using hb) e)) hf (Nat.le_refl _) new
    refine ⟨.ref s.heap.objs.size, _, I1, rfl, ⟨_, k, v, q, hkv, hq, rfl, I.hok.fresh (Nat.le_refl _), rfl⟩, ⟨_, _, by rw [← hsz]; exact he'⟩, fun b hb => ?_⟩
    rw [List.mem_singleton.mp hb, upd_ne (Nat.ne_of_lt hlt)]
    exact (hf it (by simp)).1
  done := by
    intro X hP hw hK hc i pins s σ H E I hf st hg
    subst hP hw hK
    obtain ⟨hd, hi⟩ := hg
    obtain ⟨f0, f1, f2, f3, f4, f5⟩ := hf it (by simp)
    obtain ⟨hs, _, es, ep', raw, hsz, ent⟩ := dt_ent I (.inr ⟨o, hd⟩)
    have hep : ep' = ep := by
      obtain ⟨es', e'⟩ := hod
      obtain ⟨o', ho', hx', hd'⟩ := raw
      obtain ⟨ho2, _⟩ := (show ObjOk X.prog X.w H s.heap d (.frz o (.dT kvs)) from I.hok d _ hd)
      rw [ho'] at ho2
      cases ho2
      exact (dict_ep e' hd').2
    subst hep
    obtain ⟨ok, ov, he⟩ := st
    rw [← hsz] at he
    exact wpAny_pyNext_items_end_raw (I.ok.hd hc) he raw (by omega) fun h' eb => ⟨rfl, I.turned (t' := s.toks) (fun b ob hb e => eb b ob hb e) f0 f1 f3 f4 f5⟩
  self := fun A i s Q E st h => let ⟨_, _, e⟩ := st; PySem.W.kcp_self e h
theorem walk_itemsT {kvs : List (List Key × V)} : Walk (ItiT d o kvs) kvs.length (fun H => H d = some (.frz o (.dT kvs)))
    (fun i H x H' => ∃ (T : Addr) (k : List Key) (v : V) (q : Addr), kvs[i]? = some (k, v) ∧ H q = some (.tup (k.map kV)) ∧ x = .ref T ∧ H T = none ∧ H' = upd H T (.tup [.ref q, v])) :=
  ⟨fun _ _ hi q => ⟨q, hi⟩, fun _ q => ⟨q, Nat.le_refl _⟩, fun _ _ _ _ _ _ y => y⟩
def iItemsT (td : TE) : TI := fun σ H R => td σ H fun x H1 => ∃ d o kvs, x = .ref d ∧ H1 d = some (.frz o (.dT kvs)) ∧ R (ItiT d o kvs) H1
theorem pi_itemsT {e : Expr} {td : TE} {apos cpos : Pos} {elts : List Expr} {kk : Nat} {tpos : Pos} (he : PE X e td) (hbase : attributeBase e "items" X.env (eval e X.env) = eval e X.env := by rfl) (hline : (apos.endLine == cpos.line) = true := by rfl) :
    PI X (.Tuple elts kk tpos) (.Call (.Attribute e "items" apos) [] [] cpos) (iItemsT td) := by
  refine ⟨fun pins s σ H R I h => ?_⟩
  refine wpAny_Call_method (T := "dict") (id := "dict.items") hbase rfl hline F.plainAttrs_dict F.slot_dict_items F.type_dict_items (thn (he.run pins s σ H _ I h) fun u s1 ⟨x, H1, I1, rx, d, o, kvs, ex, hd, q⟩ => ?_)
  subst ex
  obtain rfl : u = Value.ref d := rx
  obtain ⟨hs, _, es, ep, raw, hsz, ent⟩ := dt_ent I1 (.inr ⟨o, hd⟩)
  obtain ⟨hgd, hrest⟩ := (show ObjOk X.prog X.w H1 s1.heap d (.frz o (.dT kvs)) from I1.hok d _ hd)
  have hno : o.dict = none ∧ o.data = .dict es ep := by
    obtain ⟨o', ho', hx', hd'⟩ := id raw
    rw [ho'] at hgd
    cases hgd
    exact ⟨hx'.2.1, hd'⟩
  refine ⟨raw.typeIs, fun b eb => ?_, ?_⟩
  · cases eb
    exact ⟨o, hgd, hno.1⟩
  have I2 : Inv X pins σ H1 { s1 with heap := s1.heap.push { cls := .type "dict_items", data := .fields #[.ref d] } } := I1.kept (t' := s1.toks) fun b ob q => Heap.get?_push_of_some _ q
  have fin : wpAny (model X.prog X.w) X.A (pyIter (.ref s1.heap.objs.size)) (PIE X pins σ (.Tuple elts kk tpos) R) X.xe { s1 with heap := s1.heap.push { cls := .type "dict_items", data := .fields #[.ref d] } } := by
    refine wpAny_pyIter_items_raw (d := d) ⟨_, Heap.get?_push_size _ rfl, rfl, rfl⟩ (raw.push _) (pi_one (tk := s1.toks) I2 _ (turn_itemsT _ ep ⟨es, hno.2⟩) ⟨.none, .none, ?_⟩ q)
    rw [← hsz]
    exact Heap.get?_push_size _ rfl
  show wpAny _ _ (callWith cpos (.builtin "dict.items") [.ref d] [] []) _ X.xe s1
  exact method_meetsIn F.slot_dict_items F.entry_dict_items rfl (PySem.evalArgs_none ⟨rfl, raw.typeIs, F.args_dict_items_1 _, _, meets_dict_items_raw d hs, ⟨⟨_, _, raw⟩, fin⟩⟩)
end
end Ag
set_option Elab.async false
set_option linter.all false
set_option maxRecDepth 100000
set_option maxHeartbeats 4000000
namespace Ag
open PySem PySem.Spec PyProof.Rows L2 RZ
/-! ### d.values() as a list -/
def valsO (p d : Addr) : HO := .ext fun h => h.IsValuesView p d
def rValuesT : V → List V → Hp → VK → Prop := fun x xs H Q => ∃ (a : Addr) (kvs : List (List L2.Key × V)), x = .ref a ∧ xs = [] ∧ H a = some (.dT kvs) ∧ ∀ p, H p = none → Q (.ref p) (upd H p (valsO p a))
def rListValsT : List V → Hp → VK → Prop := fun xs H Q => ∃ (p a : Addr) (kvs : List (List L2.Key × V)), xs = [.ref p] ∧ H p = some (valsO p a) ∧ H a = some (.dT kvs) ∧ ∀ l, H l = none → Q (.ref l) (upd H l (.lst (kvs.map (·.2))))
section
variable {X : Cx}
theorem mt_valuesT : MtR X "dict.values" rValuesT := by
  intro pins s σ H x xs v us Q I rx rxs h
  obtain ⟨a, kvs, rfl, rfl, ha, q⟩ := h
  cases rx
  cases rxs
  obtain ⟨hs, _, es, ep, raw, hsz, ent⟩ := dt_ent I (.inl ha)
  refine call_meetsIn F.slot_dict_values raw.typeIs F.entry_dict_values (F.args_dict_values_1 _) (meets_dict_values_raw a hs) ⟨⟨es, ep, raw⟩, ?_⟩
  refine ⟨.ref s.heap.objs.size, upd H s.heap.objs.size (valsO s.heap.objs.size a), I.laid (t' := s.toks) (fun b u e => Heap.get?_push_of_some _ e) (Nat.le_refl _) ?_, rfl, q _ (I.hok.fresh (Nat.le_refl _))⟩
  exact ⟨⟨_, Heap.get?_push_size _ rfl, rfl, rfl⟩, ⟨_, Heap.get?_push_size _ rfl⟩, fun h1 h2 x k => let ⟨o, ho, r⟩ := x; ⟨o, k o ho, r⟩⟩
theorem vals_of_entries {kvs : List (List L2.Key × V)} {es : Array DictEntry} {acc : Array Value} (hsz : es.size = kvs.length) (ha : acc.size = es.size) (h1 : ∀ (i : Nat) (hi : i < es.size), ∃ (k : List L2.Key) (v : V), kvs[i]? = some (k, v) ∧ RelV v es[i].val)
    (h2 : ∀ (i : Nat) (v : Value), acc[i]? = some v → ∃ hi : i < es.size, v = es[i].val) : Vals (kvs.map (·.2)) acc.toList := by
  have key : ∀ (l : List V) (us : List Value), l.length = us.length → (∀ (i : Nat) (v : V) (u : Value), l[i]? = some v → us[i]? = some u → RelV v u) → Vals l us := by
    intro l
    induction l with
    | nil =>
      intro us hl _
      cases us with
      | nil => exact .nil
      | cons _ _ => cases hl
    | cons x l ih =>
      intro us hl h
      cases us with
      | nil => cases hl
      | cons u us => exact .cons (h 0 x u rfl rfl) (ih us (by simpa using hl) fun i v u e1 e2 => h (i + 1) v u e1 e2)
  refine key _ _ (by
    have h3 : acc.toList.length = acc.size := Array.length_toList
    rw [List.length_map]; omega) fun i v u e1 e2 => ?_
  rw [Array.getElem?_toList] at e2
  obtain ⟨hi, rfl⟩ := h2 i u e2
  obtain ⟨k, v', e3, r⟩ := h1 i hi
  rw [List.getElem?_map, e3] at e1
  cases e1
  exact r
theorem call_list_valsT (hc : X.calm = true) : CallR X (.type "list") rListValsT := by
  intro pins s σ H xs us Q I r h
  obtain ⟨p, a, kvs, rfl, hp, ha, q⟩ := h
  obtain ⟨u, rfl, rx⟩ := r.one
  cases rx
  obtain ⟨hs, hz, es, ep, raw, hsz, ent⟩ := dt_ent I (.inl ha)
  have hv : s.heap.IsValuesView p a := (show ObjOk X.prog X.w H s.heap p (valsO p a) from I.hok p _ hp).1
  refine PySem.W.kdl_call KdlSrc.rawValues (I.ok.hd hc) ⟨hv, raw⟩ (by omega) fun h' tk acc' c' kp e it => ?_
  have rv := vals_of_entries hsz it.1 (fun i hi => let ⟨k, v, _, e1, _, _, r⟩ := ent i hi; ⟨k, v, e1, r⟩) it.2
  refine ⟨.ref s.heap.objs.size, _, I.laid (t' := tk) (o := .lst (kvs.map (·.2))) kp (Nat.le_refl _) ?_, rfl, q _ (I.hok.fresh (Nat.le_refl _))⟩
  exact ⟨by rw [List.length_map]; exact hz, acc'.toList, c', rv, by rw [Array.toArray_toList]; exact e⟩
end
/-! ### {t: v}, t a tuple -/
def tDisT (tk tv : TE) : TE := fun σ H Q => ∀ p, H p = none → tk σ (upd H p (.dT [])) fun y H1 => tv σ H1 fun z H2 => ∃ (b : Addr) (k : List L2.Key), y = .ref b ∧ H2 b = some (.tup (k.map kV)) ∧ H2 p = some (.dT []) ∧ Q (.ref p) (upd H2 p (.dT [(k, z)]))
section
variable {X : Cx} {k v : Expr} {pos : Pos} {tk tv : TE}
theorem pe_disT (hu : X.A.units + 1 < cLine) (hk : PE X k tk) (hv : PE X v tv) : PE X (.Dict [some k] [v] pos) (tDisT tk tv) := by
  refine ⟨fun pins s σ H Q I q => ?_⟩
  have hn := I.hok.fresh (Nat.le_refl s.heap.objs.size)
  have I1 := I.laid (a := s.heap.objs.size) (o := .dT []) (h' := s.heap.push { cls := .type "dict", data := .dict #[] }) (t' := s.toks) (fun _ _ q => Heap.get?_push_of_some _ q) (Nat.le_refl _) (dt_empty s.heap I.big)
  rw [arm_eval_Dict, zip_pairTrees [some k] [v] X.env pos rfl rfl, dictDisplay_pairs (pairTrees [some k] [v] X.env pos) (by intro z; cases z) (by show 1 < 17; decide)]
  refine wpAny_bind (wpAny_standAt (wpAny_bind (wpAny_subDictH (knd := tupleKind (mixKind X.prog X.w)) (Q := fun d s' => wpAny (model X.prog X.w) X.A (pure (Value.ref d)) (EP X pins σ Q) X.xe s') (show X.A.units < cLine by omega) (by show 1 ≤ 15; decide) ?_)))
  refine pairTrees_cons_walk (thn (hk.run pins _ σ _ _ I1 (q _ hn)) fun u s1 ⟨x, H1, J1, rx, q1⟩ => thn (hv.run pins s1 σ H1 _ J1 q1) fun w2 s2 ⟨y, H2, J2, ry, b, ks, ex, hb, hp, q2⟩ => pairTrees_nil_walk ?_)
  subst ex
  cases rx
  obtain ⟨z, hd, xs, rel, dd⟩ := dt_of J2.hok hp
  cases rel
  refine ⟨[(ks, b, w2)], ⟨rfl, rfl, key_of J2.hok hb, True.intro⟩, dd, fun h' tk' dd' hs => wpAny_pure ⟨.ref s.heap.objs.size, _, ?_, rfl, q2⟩⟩
  have nb : b ≠ s.heap.objs.size := fun e => by
    rw [e, hp] at hb
    exact nomatch Option.some.inj hb
  have e1 : storedAllH [] [(ks, b, w2)] = [(ks, b, w2)] := rfl
  rw [e1] at dd'
  obtain ⟨o, es, ep, h1, h2, h3, h4, h5, h6⟩ := dd'
  refine d_write (t' := tk') J2 (by rw [hp]; exact True.intro) hs ⟨o, h1⟩ ⟨by show 1 ≤ sizeLine; decide, hd, [(ks, b, w2)], .cons ⟨rfl, by rw [upd_ne nb]; exact hb, ry⟩ .nil, o, es, ep, h1, h2, h3, h4, h6⟩
end
end Ag
set_option Elab.async false
set_option linter.all false
set_option maxRecDepth 100000
set_option maxHeartbeats 4000000
namespace Ag
open PySem PySem.Spec PyProof.Rows L2 RZ
/-! ### {t: v for t in ..}, t tuples -/
theorem dt_dictSet {X : Cx} {pins : List (Addr × Obj)} {σ : L2.St} {H : Hp} {s : Shared} {E : Value → Shared → Prop} {D b : Addr} {kvs : List (List L2.Key × V)} {k : List L2.Key} {v : V} {u r : Value} {Q : Unit → Shared → Prop} (hu : X.A.units + 1 < cLine) (I : Inv X pins σ H s) (hD : H D = some (.dT kvs))
    (hb : H b = some (.tup (k.map kV))) (hz : kvs.length < sizeLine) (ry : L2.RelV (.ref b) u) (rv : L2.RelV v r) (h : ∀ s', Inv X pins σ (upd H D (.dT (putK kvs k v))) s' → Q () s') : wpAny (model X.prog X.w) X.A (dictSet D u r) Q E s := by
  cases (show u = Value.ref b from ry)
  obtain ⟨z, hd, xs, rel, dd⟩ := dt_of I.hok hD
  have hzv : xs.length ≤ sizeLine := by rw [← Paired.length rel]; exact z
  have hl : (putK kvs k v).length ≤ sizeLine := by have := length_putK kvs k v; omega
  refine wpAny_dictSet_heap (hsz := hzv) (show X.A.units < cLine by omega) (key_of I.hok hb) dd fun h' dd' hs => h _ ?_
  obtain ⟨q, es, ep, hq, h2, h3, h4, _, h5⟩ := dd'
  exact d_write I (by rw [hD]; exact True.intro) hs ⟨q, hq⟩ ⟨hl, hd, _, (rel.put k hb rv).keeps fun c ys ec => by rw [upd_ne (ne_of ec hD (fun z => nomatch z))]; exact ec, q, es, ep, hq, h2, h3, h4, h5⟩
section
variable {X : Cx}
def tDcT (wi : TI) (g : TG) (tt : TT) (tk tv : TE) (vs : List Nat) : TE := fun σ H Q => wi σ H fun J H1 => ∀ D, H1 D = none → ∃ W : Nat → Nat → Hp → Prop, (∃ m, W 0 m (upd H1 D (.dT []))) ∧ ∀ i m H, W i m H →
  (J.stop i H ∧ Q (.ref D) H) ∨ (J.go i H ∧ ∃ Nx : Hp → Prop, (∀ H', Nx H' → ∃ m', m' < m ∧ W (i + 1) m' H') ∧ ∀ x H', J.yld i H x H' → g x (wipe σ vs) H' fun σ2 H2 => wipe σ2 vs = wipe σ vs ∧ tt σ2 H2 fun b H3 =>
    if b = true then tk σ2 H3 fun y H4 => tv σ2 H4 fun z H5 => ∃ (kvs : List (List L2.Key × V)) (k : List L2.Key) (b : Addr), y = .ref b ∧ H5 b = some (.tup (k.map kV)) ∧ H5 D = some (.dT kvs) ∧ kvs.length < sizeLine ∧ Nx (upd H5 D (.dT (putK kvs k z))) else Nx H3)
/-- between two turns of the walk: the block's context Z, the walker at place i, what is left n -/
def Mid (Z : Cx) (fp : List Addr) (tn : Nat → Heap → Prop) (W : Nat → Nat → Hp → Prop) (σ0 : L2.St) (n : Nat) (s : Shared) : Prop := ∃ i H, Inv Z [] σ0 H s ∧ tn i s.heap ∧ (∀ b ∈ fp, H b = none) ∧ W i n H
/-- a turn's end -/
theorem mid_next {Z : Cx} {P : Program} {w : World} {K : PySem.W.Frag} {tg : Expr} {J : It} {fp vs : List Addr} {it : Addr} {tn : Nat → Heap → Prop} {W : Nat → Nat → Hp → Prop} {σ τ : L2.St} {H : Hp} {s : Shared} {h : Heap} {i n : Nat} (T : Turn P w K tg J fp it tn) (e : wipe τ vs = wipe σ vs) (st : tn i h)
    (I : Inv Z ([] ++ pinsAt fp h) τ H s) (nx : ∃ m, m < n ∧ W i m H) : ∃ m, m < n ∧ Mid Z fp tn W (wipe σ vs) m s := by
  obtain ⟨m, lt, q⟩ := nx
  have pin : ∀ b ∈ fp, ∀ o, h.get? b = some o → s.heap.get? b = some o ∧ H b = none := fun b hb o z =>
    have y := I.pin (b, o) (List.mem_append_right _ (List.mem_append_right _ (mem_pinsAt hb z)))
    ⟨y.1, y.2.1⟩
  have I' : Inv Z [] (wipe σ vs) H s := e ▸ (I.unpinned (pins := [])).weak (wipe_length ..) fun j v z => (wipe_some z).1
  exact ⟨m, lt, i, H, I', T.keep i _ _ st fun b hb o z => (pin b hb o z).1, fun b hb => let ⟨o, z, _⟩ := T.obj i _ st b hb; (pin b hb o z).2, q⟩
/-- what the walker holds is in nobody's way in the block -/
theorem blk_fp {s0 s : Shared} {H0 H : Hp} {scope : Scope} {ce : Env} {fp : List Addr} {τ : L2.St} (I : Inv (X.blk s0 H0 scope ce fp) [] τ H s) (n : ∀ b ∈ fp, H b = none) : ∀ b ∈ fp, FpOk (X.blk s0 H0 scope ce fp) [] H b := fun b hb =>
  have y := I.ok.exf b hb
  ⟨n b hb, y.1, I.ok.exfs b hb, .inl hb, y.2, fun _ hp => nomatch (show _ ∈ ([] : List (Addr × Obj)) from hp)⟩
/-- the walk itself: D is the dict, Z the block's context -/
theorem dct_loop {s0 s : Shared} {H0 : Hp} {scope : Scope} {ce : Env} {fp : List Addr} {kx vx tg iter : Expr} {ifs : List Expr} {pos : Pos} {g : TG} {tt : TT} {tk tv : TE} {it D : Addr} {tn : Nat → Heap → Prop} {J : It} {W : Nat → Nat → Hp → Prop} {σ : L2.St} {vs : List Nat} {R : Result → Shared → Prop} {Q : Hp → Prop} {n : Nat}
    (hu : X.A.units + 1 < cLine) (hc : X.calm = true) (T : Turn X.prog X.w X.K tg J fp it tn) (pg : PG (X.blk s0 H0 scope ce fp) tg g) (pt : PTs (X.blk s0 H0 scope ce fp) ifs tt) (pk : PE (X.blk s0 H0 scope ce fp) kx tk) (pv : PE (X.blk s0 H0 scope ce fp) vx tv)
    (turn : ∀ i m H, W i m H → (J.stop i H ∧ Q H) ∨ (J.go i H ∧ ∃ Nx : Hp → Prop, (∀ H', Nx H' → ∃ m', m' < m ∧ W (i + 1) m' H') ∧ ∀ x H', J.yld i H x H' → g x (wipe σ vs) H' fun σ2 H2 => wipe σ2 vs = wipe σ vs ∧ tt σ2 H2 fun b H3 =>
      if b = true then tk σ2 H3 fun y H4 => tv σ2 H4 fun z H5 => ∃ (kvs : List (List L2.Key × V)) (k : List L2.Key) (b : Addr), y = .ref b ∧ H5 b = some (.tup (k.map kV)) ∧ H5 D = some (.dT kvs) ∧ kvs.length < sizeLine ∧ Nx (upd H5 D (.dT (putK kvs k z))) else Nx H3))
    (stop : ∀ H s, Inv (X.blk s0 H0 scope ce fp) [] (wipe σ vs) H s → Q H → R (.ok .next) s) (start : Mid (X.blk s0 H0 scope ce fp) fp tn W (wipe σ vs) n s) :
    codeAny (model X.prog X.w) X.A (.compLoop (.DictComp kx vx [⟨tg, iter, ifs, 0⟩] scope pos) 0 (.ref it) (.ref D) ce) R s := by
  refine compLoop_anyD (Mid (X.blk s0 H0 scope ce fp) fp tn W (wipe σ vs)) ?_ n start
  rintro m s1 ⟨i, H, I, st, none_, w⟩
  rcases turn i m H w with ⟨end_, q⟩ | ⟨go, Nx, hNx, q⟩
  · refine thnF (T.done (X.blk s0 H0 scope ce fp) rfl rfl rfl hc i [] s1 _ H (fun _ _ => False) I (blk_fp I none_) st end_) fun r s2 ⟨e, I2⟩ => ?_
    cases e
    exact stop H s2 I2 q
  · refine thnF (T.item (X.blk s0 H0 scope ce fp) rfl rfl rfl hc i [] s1 _ H (fun _ _ => False) I (blk_fp I none_) st go) fun r s2 ⟨u, e, h⟩ => ?_
    cases e
    refine thnF h fun _ s3 ⟨x, H3, I3, r3, y3, st3, none3⟩ => ?_
    refine thnF (pg.run _ s3 _ H3 x u _ (I3.pinned (blk_fp I3 none3) (T.obj _ _ st3)) r3 (q x H3 y3)) fun _ s4 ⟨τ, H4, I4, same, q4⟩ => ?_
    refine thnF (pt.run _ s4 τ H4 _ I4 q4) fun b s5 ⟨H5, I5, q5⟩ => ?_
    match b, q5 with
    | false, q5 => exact mid_next T same st3 I5 (hNx H5 q5)
    | true, q5 =>
      refine thnF (pk.run _ s5 τ H5 _ I5 q5) fun ku s6 ⟨yk, H6, I6, r6, q6⟩ => ?_
      refine thnF (pv.run _ s6 τ H6 _ I6 q6) fun vu s7 ⟨yv, H7, I7, r7, kvs, k, b, ek, hb, hD, hz, nx⟩ => ?_
      cases ek
      exact dt_dictSet (X := X.blk s0 H0 scope ce fp) hu I7 hD hb hz r6 r7 fun s8 I8 => mid_next T same st3 I8 (hNx _ nx)
theorem dct_core {pins : List (Addr × Obj)} {s : Shared} {σ : L2.St} {H : Hp} {Q : VK} {kx vx tg iter : Expr} {ifs : List Expr} {scope : Scope} {own : List (Str × Nat)} {pos pos' : Pos} {wi : TI} {g : TG} {tt : TT} {tk tv : TE} {use : Option (Value → Sem Unit)} {Qf : Value → Shared → Prop}
    (hu : X.A.units + 1 < cLine) (hc : X.calm = true) (hN : X.N.Nodup) (I : Inv X pins σ H s) (hi : PI X tg iter wi) (ok : BlkOk X.N X.env.scope scope own)
    (hg : ∀ (s : Shared) (H : Hp) (C : Addr) (cl : List (Str × Addr)) (fp : List Addr), PG (X.blk s H scope (compEnvC scope cl C X.env) fp) tg g) (ht : ∀ (s : Shared) (H : Hp) (C : Addr) (cl : List (Str × Addr)) (fp : List Addr), PTs (X.blk s H scope (compEnvC scope cl C X.env) fp) ifs tt)
    (hk : ∀ (s : Shared) (H : Hp) (C : Addr) (cl : List (Str × Addr)) (fp : List Addr), PE (X.blk s H scope (compEnvC scope cl C X.env) fp) kx tk)
    (he : ∀ (s : Shared) (H : Hp) (C : Addr) (cl : List (Str × Addr)) (fp : List Addr), PE (X.blk s H scope (compEnvC scope cl C X.env) fp) vx tv) (hs : ∀ x, foldedSetIterable iter X.env x = pure x)
    (h : tDcT wi g tt tk tv (own.map (·.2)) σ H Q)
    (hRR : ∀ D C s' m H', Inv X pins σ H' s' → Q (.ref D) H' → s'.heap.Ns C m → FpOk X pins H' C → compPost (model X.prog X.w) X.A X.xe use Qf (.ref D) C (.ok .next) s') :
    wpAny (model X.prog X.w) X.A (comprehension (.DictComp kx vx [⟨tg, iter, ifs, 0⟩] scope pos) scope X.env pos' newDict false (eval iter X.env) use) Qf X.xe s := by
  have clo : ∀ y ∈ scope.names, y.2 = .free → ∃ c, X.env.cells.lookup y.1 = some c := fun y hy e => (ok.free y hy e).elim (fun z => I.ok.has _ (.inl z)) fun z => I.ok.has _ (.inr z)
  refine wpAny_comprehension_free (use := use) rfl hs (closure_ok clo) ok.kind (fun y hy e => (ok.uniq y hy).trans (congrArg some e)) (thn (hi.run pins s σ H _ I h) fun _ _ z => thn z fun iv s1 ⟨it, fp, tn, J, H1, ei, I1, T, st1, f1, q⟩ => ?_)
  cases ei
  obtain ⟨W, ⟨m, w⟩, turn⟩ := q s1.heap.objs.size (I1.hok.fresh (Nat.le_refl _))
  refine wpAny_newObj_type (newEnv_comp ?_)
  -- the new dict, at the heap's end
  generalize hD : s1.heap.objs.size = D at w turn ⊢
  have keep : ∀ b o, s1.heap.get? b = some o → (s1.heap.push { cls := .type "dict", data := .dict #[] }).get? b = some o := fun b o z => Heap.get?_push_of_some _ z
  have I2 : Inv X pins σ (upd H1 D (.dT [])) { s1 with heap := s1.heap.push { cls := .type "dict", data := .dict #[] } } := hD ▸ I1.laid (t' := s1.toks) keep (Nat.le_refl _) (dt_empty s1.heap I1.big)
  have below : ∀ b ∈ fp, b < D := fun b hb => let ⟨o, z, _⟩ := T.obj _ _ st1 b hb; hD ▸ Heap.lt_size z
  have f2 : ∀ b ∈ fp, FpOk X pins (upd H1 D (.dT [])) b ∧ b < (s1.heap.push { cls := .type "dict", data := .dict #[] }).objs.size := fun b hb =>
    ⟨⟨(upd_ne (Nat.ne_of_lt (below b hb))).trans (f1 b hb).1, (f1 b hb).2⟩, by rw [Heap.size_push, hD]; exact Nat.lt_succ_of_lt (below b hb)⟩
  have st2 : tn 0 (s1.heap.push { cls := .type "dict", data := .dict #[] }) := T.keep _ _ _ st1 fun b _ o z => keep b o z
  generalize hs2 : ({ s1 with heap := s1.heap.push { cls := .type "dict", data := .dict #[] } } : Shared) = s2 at I2 ⊢
  rw [show s1.heap.push { cls := .type "dict", data := .dict #[] } = s2.heap by rw [← hs2]] at f2 st2
  have I3 := block_start I2 ok hN f2
  have st3 : tn 0 (pushCells (s2.heap.push { cls := .type "dict", data := .dict #[] }) scope.names) := T.keep _ _ _ st2 fun b _ o z => pushCells_keeps _ _ _ _ (Heap.get?_push_of_some _ z)
  have loop := dct_loop (pos := pos) (iter := iter) (R := compPost (model X.prog X.w) X.A X.xe use Qf (.ref D) s2.heap.objs.size) hu hc T (hg _ _ _ _ _) (ht _ _ _ _ _) (hk _ _ _ _ _) (he _ _ _ _ _) turn (fun H3 s3 I4 q4 => ?_) ⟨0, _, I3, st3, fun b hb => (f2 b hb).1.1, w⟩
  · exact codeAny_compStart_dict loop (T.self X.A 0 _ _ _ st3 loop)
  · have I5 : Inv X pins σ H3 s3 := I2.call' (ch := fp) I4.os I4.base I4.hok I4.bare fun b hb => have f := (f2 b hb).1.2; ⟨f.2.2.1, f.1, f.2.2.2.1, f.2.2.2.2⟩
    obtain ⟨m, hn, _⟩ := I4.loc
    exact hRR D _ s3 m H3 I5 q4 hn (I2.fpOk (Nat.le_refl _) I4.free)
/-- name = {t: v for t in ..} on one line, the name a local -/
theorem ps_setDcT {i : Nat} {y : Str} {py : Pos} {kx vx tg iter : Expr} {ifs : List Expr} {scope : Scope} {own : List (Str × Nat)} {pos spos : Pos} {wi : TI} {g : TG} {tt : TT} {tk tv : TE} (hu : X.A.units + 1 < cLine) (hc : X.calm = true) (hN : X.N.Nodup) (hy : X.N[i]? = some y) (hyl : X.env.scope.names.lookup y = some .local)
    (hsw : swapsWith (.DictComp kx vx [⟨tg, iter, ifs, 0⟩] scope pos) (some (.Name y py)) spos.line X.env = pure true) (hi : PI X tg iter wi) (ok : BlkOk X.N X.env.scope scope own)
    (hg : ∀ (s : Shared) (H : Hp) (C : Addr) (cl : List (Str × Addr)) (fp : List Addr), PG (X.blk s H scope (compEnvC scope cl C X.env) fp) tg g) (ht : ∀ (s : Shared) (H : Hp) (C : Addr) (cl : List (Str × Addr)) (fp : List Addr), PTs (X.blk s H scope (compEnvC scope cl C X.env) fp) ifs tt)
    (hk : ∀ (s : Shared) (H : Hp) (C : Addr) (cl : List (Str × Addr)) (fp : List Addr), PE (X.blk s H scope (compEnvC scope cl C X.env) fp) kx tk)
    (he : ∀ (s : Shared) (H : Hp) (C : Addr) (cl : List (Str × Addr)) (fp : List Addr), PE (X.blk s H scope (compEnvC scope cl C X.env) fp) vx tv) (hs : ∀ x, foldedSetIterable iter X.env x = pure x := by intro _; rfl) :
    PS X (.Assign [.Name y py] (.DictComp kx vx [⟨tg, iter, ifs, 0⟩] scope pos) spos) (tAsg (tDcT wi g tt tk tv (own.map (·.2))) (gName i)) := by
  refine ⟨fun pins s σ H D I h => ?_⟩
  rw [exec_Assign_Name_used _ _ _ _ hsw]
  refine wpAny_bind (wpAny_standAt (wpAny_bind ?_))
  show wpAny _ X.A (do let _ ← comprehension (.DictComp kx vx [⟨tg, iter, ifs, 0⟩] scope pos) scope X.env (firstIterPos [⟨tg, iter, ifs, 0⟩] pos) newDict false (eval iter X.env) (some (assign (.Name y py) X.env))) _ _ s
  have h : tDcT wi g tt tk tv (own.map (·.2)) σ H (fun x H1 => gName i x σ H1 D.nx) := h
  refine wpAny_bind (thn (dct_core (Qf := fun _ s' => SP X pins D .next s') hu hc hN I hi ok hg ht hk he hs h fun L C s' m H' I' q hn f => ?_) fun _ s' hq => wpAny_pure (wpAny_pure hq))
  show wpAny _ _ (assign (.Name y py) X.env (.ref L)) _ _ _
  refine wpAny_assign_Name (store_ok2 (v := V.ref L) I' hN hy (.inl hyl) rfl (fun s2 I2 ⟨a, sb, ha⟩ => ?_) (.inr hyl))
  obtain ⟨f0, f1, f2, f3, f4, f5⟩ := f
  have haC : C ≠ a := ha.elim (fun z => by rw [z]; exact f1) fun z e => f4 y a z e.symm
  exact ⟨m, hn.sameBut sb haC, fun h3 sb3 => ⟨_, H', I2.turned (t' := s2.toks) (fun b o hb e => (sb3.2 b hb).trans e) f0 f1 f3 f4 f5, q⟩⟩
theorem sw_trueD {kx vx : Expr} {gs : List Comprehension} {scope : Scope} {pos py : Pos} {y : Str} {l : Nat} {env : Env} (hk : env.scope.kind = .function) (hy : env.scope.names.lookup y = some .local) (hl : (py.line == pos.line) = true)
    (ha : (scope.names.any fun (n, k) => n == y && (k == .local || k == .cell)) = false) : swapsWith (.DictComp kx vx gs scope pos) (some (.Name y py)) l env = pure true := by
  have ky : env.kindOf y = some .local := hy
  have hb : env.blockKind = .function := by unfold Env.blockKind; rw [hk]; rfl
  unfold swapsWith
  simp only [hb, ky, ha, Expr.pos, hl]
  rfl
end
end Ag
set_option Elab.async false
set_option linter.all false
set_option maxRecDepth 100000
set_option maxHeartbeats 4000000
namespace Ag
open PySem PySem.Spec PyProof.Rows L2 RZ
/-! ### layers as dicts -/
def kE (E : List Nat) : List L2.Key := E.map fun n : Nat => (Sum.inl (n : Int) : L2.Key)
def layV (L : Layer) : List (List L2.Key × V) := L.map fun p => (kE p.1, V.int (p.2 : Int))
theorem kE_V (E : List Nat) : (kE E).map kV = nV E := by
  unfold kE nV
  rw [List.map_map]
  rfl
theorem kE_inj {E F : List Nat} : kE E = kE F ↔ E = F := by
  constructor
  · intro h
    have : (kE E).map (fun k : L2.Key => match k with
      | .inl i => i.toNat
      | .inr _ => 0) = (kE F).map (fun k : L2.Key => match k with
      | .inl i => i.toNat
      | .inr _ => 0) := by rw [h]
    unfold kE at this
    rw [List.map_map, List.map_map] at this
    have e : ((fun k : L2.Key => match k with
      | .inl i => i.toNat
      | .inr _ => 0) ∘ fun n : Nat => (Sum.inl (n : Int) : L2.Key)) = id := by
      funext n
      show ((n : Int)).toNat = n
      omega
    rw [e, List.map_id, List.map_id] at this
    exact this
  · intro h; rw [h]
theorem layV_val (L : Layer) (E : List Nat) : valV (layV L) (kE E) = (lookA L E).map fun k : Nat => V.int (k : Int) := by
  unfold valV layV lookA
  rw [List.find?_map, Option.map_map, Option.map_map]
  have e : (((fun kv : List L2.Key × V => decide (kv.1 = kE E)) ∘ fun p : List Nat × Nat => (kE p.1, V.int (p.2 : Int)))) = fun p => decide (p.1 = E) := by
    funext p
    show decide (kE p.1 = kE E) = _
    by_cases h : p.1 = E
    · rw [decide_eq_true h, decide_eq_true (kE_inj.mpr h)]
    · rw [decide_eq_false h, decide_eq_false (fun z => h (kE_inj.mp z))]
  rw [e]
  rfl
theorem layV_put (L : Layer) (E : List Nat) (k : Nat) : putK (layV L) (kE E) (V.int (k : Int)) = layV (putA L E k) := by
  unfold putK putA
  have e : ((layV L).any fun kv => decide (kv.1 = kE E)) = L.any fun p => decide (p.1 = E) := by
    unfold layV
    rw [List.any_map]
    congr 1
    funext p
    show decide (kE p.1 = kE E) = _
    by_cases h : p.1 = E
    · rw [decide_eq_true h, decide_eq_true (kE_inj.mpr h)]
    · rw [decide_eq_false h, decide_eq_false (fun z => h (kE_inj.mp z))]
  rw [e]
  by_cases h : (L.any fun p => decide (p.1 = E)) = true
  · rw [if_pos h, if_pos h]
    unfold layV
    rw [List.map_map, List.map_map]
    apply List.map_congr_left
    intro p _
    show (if kE p.1 = kE E then _ else _) = _
    by_cases z : p.1 = E
    · rw [if_pos (kE_inj.mpr z)]
      show _ = (fun p : List Nat × Nat => (kE p.1, V.int (p.2 : Int))) (if p.1 = E then _ else _)
      rw [if_pos z]
    · rw [if_neg (fun y => z (kE_inj.mp y))]
      show _ = (fun p : List Nat × Nat => (kE p.1, V.int (p.2 : Int))) (if p.1 = E then _ else _)
      rw [if_neg z]
  · rw [if_neg h, if_neg h]
    unfold layV
    rw [List.map_append]
    rfl
theorem layV_length (L : Layer) : (layV L).length = L.length := by unfold layV; rw [List.length_map]
theorem layV_get {L : Layer} {i : Nat} {p : List Nat × Nat} (h : L[i]? = some p) : (layV L)[i]? = some (kE p.1, V.int (p.2 : Int)) := by
  unfold layV
  rw [List.getElem?_map, h]
  rfl
theorem idle_rg (S : Nat) : rgV 0 (S : Int) = nV (idle S) := by
  unfold rgV nV idle iV
  have e : ((S : Int) - 0).toNat = S := by omega
  rw [e]
  apply List.map_congr_left
  intro j _
  show V.int (0 + (j : Int)) = V.int (j : Int)
  rw [Int.zero_add]
/-! ### sizes -/
theorem put1_len (n : Nat) (u : Due) (acc : Layer) (E : List Nat) (k : Nat) : (put1 n u acc E k).length ≤ acc.length + 1 := by
  unfold put1
  split
  · exact length_putA _ _ _
  · omega
theorem put2_len (t : Tabs) (S n d : Nat) (u : Due) (acc : Layer) (x : List Nat × Nat) : (put2 t S n d u acc x).length ≤ acc.length + 2 := by
  unfold put2
  have h1 := put1_len n u acc x.1 x.2
  have h2 := put1_len n u (put1 n u acc x.1 x.2) (withD t S d x.1) (x.2 + 1)
  omega
theorem layer_len (t : Tabs) (S n d : Nat) (u : Due) : ∀ (prev acc : Layer), (prev.foldl (put2 t S n d u) acc).length ≤ acc.length + 2 * prev.length
  | [], acc => by rw [List.foldl_nil, List.length_nil]; omega
  | x :: prev, acc => by
    rw [List.foldl_cons, List.length_cons]
    have h1 := layer_len t S n d u prev (put2 t S n d u acc x)
    have h2 := put2_len t S n d u acc x
    omega
def KeysS (S : Nat) (L : Layer) : Prop := ∀ p ∈ L, p.1.length = S
theorem mem_putA {κ β : Type} [DecidableEq κ] {l : List (κ × β)} {k : κ} {v : β} {p : κ × β} (h : p ∈ putA l k v) : p.1 = k ∨ ∃ q ∈ l, q.1 = p.1 := by
  unfold putA at h
  split at h
  · obtain ⟨q, hq, e⟩ := List.mem_map.mp h
    by_cases z : q.1 = k
    · rw [if_pos z] at e
      left; rw [← e]; exact z
    · rw [if_neg z] at e
      right; exact ⟨q, hq, by rw [e]⟩
  · rcases List.mem_append.mp h with h | h
    · exact .inr ⟨p, h, rfl⟩
    · left; rw [List.mem_singleton.mp h]
theorem put1_keys {S n : Nat} {u : Due} {acc : Layer} {E : List Nat} {k : Nat} (h : KeysS S acc) (hE : E.length = S) : KeysS S (put1 n u acc E k) := by
  unfold put1
  split
  · intro p hp
    rcases mem_putA hp with e | ⟨q, hq, e⟩
    · rw [e]; exact hE
    · rw [← e]; exact h q hq
  · exact h
theorem withD_length (t : Tabs) (S d : Nat) (E : List Nat) : (withD t S d E).length = S := by unfold withD; rw [List.length_map, List.length_range]
theorem put2_keys {t : Tabs} {S n d : Nat} {u : Due} {acc : Layer} {x : List Nat × Nat} (h : KeysS S acc) (hx : x.1.length = S) : KeysS S (put2 t S n d u acc x) := put1_keys (put1_keys h hx) (withD_length _ _ _ _)
theorem fold_keys {t : Tabs} {S n d : Nat} {u : Due} : ∀ (prev acc : Layer), KeysS S acc → KeysS S prev → KeysS S (prev.foldl (put2 t S n d u) acc)
  | [], acc, h, _ => h
  | x :: prev, acc, h, hp => fold_keys prev _ (put2_keys h (hp x (List.mem_cons_self ..))) fun p hm => hp p (List.mem_cons_of_mem _ hm)
theorem layer_keys {t : Tabs} {S n d : Nat} {u : Due} {prev : Layer} (hp : KeysS S prev) : KeysS S (layer t S n d u prev) := fold_keys prev [] (fun p hm => absurd hm List.not_mem_nil) hp
/-- the layers, by place -/
def lay (t : Tabs) (S n : Nat) (log : List Nat) (us : List Due) (p : Nat) : Layer := (layersF t S n log us).getD p []
theorem headD_get {α : Type} (l : List α) (d : α) : l.headD d = l.getD 0 d := by cases l <;> rfl
theorem lay_last {t : Tabs} {S n : Nat} : ∀ {ds : List Nat} {us : List Due}, ds.length ≤ us.length → lay t S n ds us ds.length = [(idle S, 0)]
  | [], us, _ => by unfold lay layersF; rfl
  | d :: ds, [], h => by simp at h
  | d :: ds, u :: us, h => by
    have ih := lay_last (t := t) (S := S) (n := n) (ds := ds) (us := us) (by simpa using h)
    unfold lay at ih ⊢
    unfold layersF
    rw [List.length_cons, List.getD_cons_succ]
    exact ih
theorem lay_step {t : Tabs} {S n : Nat} : ∀ {ds : List Nat} {us : List Due} {p : Nat}, ds.length ≤ us.length → p < ds.length → lay t S n ds us p = layer t S n (ds.getD p 0) (us.getD p []) (lay t S n ds us (p + 1))
  | [], us, p, _, h => by simp at h
  | d :: ds, [], p, h, _ => by simp at h
  | d :: ds, u :: us, 0, h, _ => by
    unfold lay
    rw [layersF, List.getD_cons_zero, List.getD_cons_zero, List.getD_cons_zero, List.getD_cons_succ, headD_get]
  | d :: ds, u :: us, p + 1, h, hp => by
    have ih := lay_step (t := t) (S := S) (n := n) (ds := ds) (us := us) (p := p) (by simpa using h) (by simpa using hp)
    unfold lay at ih ⊢
    rw [layersF, List.getD_cons_succ, List.getD_cons_succ, List.getD_cons_succ, List.getD_cons_succ]
    exact ih
theorem lay_keys {t : Tabs} {S n : Nat} {ds : List Nat} {us : List Due} (h : ds.length ≤ us.length) : ∀ (k p : Nat), p + k = ds.length → KeysS S (lay t S n ds us p)
  | 0, p, e => by
    have : p = ds.length := by omega
    rw [this, lay_last h]
    intro q hq
    rw [List.mem_singleton.mp hq]
    show (idle S).length = S
    unfold idle; rw [List.length_range]
  | k + 1, p, e => by
    rw [lay_step h (by omega)]
    exact layer_keys (lay_keys h k (p + 1) (by omega))
theorem lay_len {t : Tabs} {S n : Nat} {ds : List Nat} {us : List Due} (h : ds.length ≤ us.length) : ∀ (k p : Nat), p + k = ds.length → (lay t S n ds us p).length ≤ 2 ^ k
  | 0, p, e => by
    have : p = ds.length := by omega
    rw [this, lay_last h]
    exact Nat.le_refl _
  | k + 1, p, e => by
    rw [lay_step h (by omega)]
    have h1 := layer_len t S n (ds.getD p 0) (us.getD p []) (lay t S n ds us (p + 1)) []
    have h2 := lay_len (t := t) (S := S) (n := n) h k (p + 1) (by omega)
    unfold layer
    rw [List.length_nil] at h1
    rw [Nat.pow_succ]
    omega
/-- how many ends are kept in the last k layers and the one behind them -/
def manyOf (t : Tabs) (S n : Nat) (ds : List Nat) (us : List Due) : Nat → Nat
  | 0 => 1
  | k + 1 => manyOf t S n ds us k + (lay t S n ds us (ds.length - (k + 1))).length
theorem many_mono {t : Tabs} {S n : Nat} {ds : List Nat} {us : List Due} {j k : Nat} (h : j ≤ k) : manyOf t S n ds us j ≤ manyOf t S n ds us k := by
  induction k with
  | zero => have : j = 0 := by omega
            rw [this]; exact Nat.le_refl _
  | succ k ih =>
    by_cases e : j = k + 1
    · rw [e]; exact Nat.le_refl _
    · have := ih (by omega)
      show manyOf t S n ds us j ≤ manyOf t S n ds us k + _
      omega
theorem many_le {t : Tabs} {S n : Nat} {ds : List Nat} {us : List Due} (h : ds.length ≤ us.length) : ∀ k, k ≤ ds.length → manyOf t S n ds us k + 1 ≤ 2 ^ (k + 1)
  | 0, _ => by unfold manyOf; decide
  | k + 1, hk => by
    have h1 := many_le (t := t) (S := S) (n := n) h k (by omega)
    have h2 := lay_len (t := t) (S := S) (n := n) h (k + 1) (ds.length - (k + 1)) (by omega)
    unfold manyOf
    rw [Nat.pow_succ] at h1 h2 ⊢
    rw [Nat.pow_succ]
    omega
/-! ### dues -/
theorem dueF_keys {t : Tabs} {log : List Nat} {a S n : Nat} : ∀ (cs : List (Nat × Nat)) (acc : Due), CopiesOk S n cs → (∀ p ∈ acc, p.1 < S) → ∀ p ∈ cs.foldl (fun acc c => if c.2 = a then putA acc c.1 (led t c.1 (log.drop a)) else acc) acc, p.1 < S
  | [], acc, _, h, p, hp => h p hp
  | c :: cs, acc, hc, h, p, hp => by
    rw [List.foldl_cons] at hp
    refine dueF_keys cs _ (fun x hx => hc x (List.mem_cons_of_mem _ hx)) (fun q hq => ?_) p hp
    by_cases e : c.2 = a
    · rw [if_pos e] at hq
      rcases mem_putA hq with z | ⟨r, hr, z⟩
      · rw [z]; exact (hc c (List.mem_cons_self ..)).1
      · rw [← z]; exact h r hr
    · rw [if_neg e] at hq
      exact h q hq
structure DuesOk (S n : Nat) (us : List Due) : Prop where
  len : us.length = n + 1
  keys : ∀ u ∈ us, ∀ p ∈ u, p.1 < S
  few : ∀ u ∈ us, u.length ≤ 1000
theorem dues_ok {t : Tabs} {S : Nat} {log : List Nat} {cs : List (Nat × Nat)} (hc : CopiesOk S log.length cs) (hz : cs.length ≤ 100) : DuesOk S log.length (dues t log cs) where
  len := dues_length
  keys := fun u hu p hp => by
    unfold dues at hu
    obtain ⟨a, _, e⟩ := List.mem_map.mp hu
    rw [← e] at hp
    exact dueF_keys cs [] hc (fun q hq => absurd hq List.not_mem_nil) p hp
  few := fun u hu => by
    unfold dues at hu
    obtain ⟨a, _, e⟩ := List.mem_map.mp hu
    have := dueF_len (t := t) (log := log) (a := a) cs []
    rw [← e]
    unfold dueAt
    exact Nat.le_trans this (by show 0 + cs.length ≤ 1000; omega)
end Ag
set_option Elab.async false
set_option linter.all false
set_option maxRecDepth 100000
set_option maxHeartbeats 4000000
namespace Ag
open PySem PySem.Spec PyProof.Rows L2 RZ
/-- all but what stands at d stays -/
def SameB (d : Addr) (H H' : Hp) : Prop := ∀ b u, b ≠ d → H b = some u → H' b = some u
theorem SameB.refl {d : Addr} {H : Hp} : SameB d H H := fun _ _ _ e => e
theorem SameB.of {d : Addr} {H H' : Hp} (s : Same H H') : SameB d H H' := fun b u _ e => s b u e
theorem SameB.trans {d : Addr} {H1 H2 H3 : Hp} (a : SameB d H1 H2) (b : SameB d H2 H3) : SameB d H1 H3 := fun c u h e => b c u h (a c u h e)
theorem SameB.same {d : Addr} {H1 H2 H3 : Hp} (a : SameB d H1 H2) (b : Same H2 H3) : SameB d H1 H3 := fun c u h e => b c u (a c u h e)
theorem SameB.put {d : Addr} {H1 H2 : Hp} {o : HO} (a : SameB d H1 H2) : SameB d H1 (upd H2 d o) := fun c u h e => by rw [upd_ne h]; exact a c u h e
theorem SameB.full {d : Addr} {H H' : Hp} (a : SameB d H H') (h : H d = none) : Same H H' := fun b u e => a b u (ne_of_none e h) e
theorem atI_neg1 {α : Type} {xs : List α} {v : α} (h : xs[xs.length - 1]? = some v) : atI xs (-1) = some v := by
  rcases List.eq_nil_or_concat xs with e | ⟨ys, y, e⟩
  · rw [e] at h; cases h
  · rw [List.concat_eq_append] at e
    subst e
    have hl : (ys ++ [y]).length - 1 = ys.length := by simp
    rw [hl, List.getElem?_append_right (Nat.le_refl _), Nat.sub_self] at h
    cases h
    exact atI_last _ _
theorem layV_getD (L : Layer) (E : List Nat) (n : Nat) : (valV (layV L) (kE E)).getD (.int ((n : Int) + 1)) = .int (((lookA L E).getD (n + 1) : Nat) : Int) := by
  rw [layV_val]
  cases lookA L E with
  | none => show V.int ((n : Int) + 1) = V.int ((n + 1 : Nat) : Int); rw [Int.natCast_add]; rfl
  | some k => rfl
/-- a list of layers, first to last -/
def LaysAt (H : Hp) (a : Addr) (n : Nat) (L : Nat → Layer) : Prop := ∃ bs : List Addr, H a = some (.lst (bs.map V.ref)) ∧ bs.length = n + 1 ∧ ∀ (j : Nat) (b : Addr), bs[j]? = some b → H b = some (.dT (layV (L j)))
theorem LaysAt.same {H H' : Hp} {a : Addr} {n : Nat} {L : Nat → Layer} (h : LaysAt H a n L) (s : Same H H') : LaysAt H' a n L := by
  obtain ⟨bs, h1, h2, h3⟩ := h
  exact ⟨bs, s _ _ h1, h2, fun j b e => s _ _ (h3 j b e)⟩
def spFewestTables (C CT : Addr) : Sp := fun vs H Q E => ∃ (m la du S most : Nat) (t : Tabs) (log : List Nat) (us : List Due), vs = [.ref m, .ref la, .ref du, .int (most : Int)] ∧ MachAt C H m t S ∧ Wf t S ∧ S ≤ 100 ∧ H la = some (.tup (nV log)) ∧ (∀ d ∈ log, d < t.length) ∧ log.length ≤ 12 ∧
  DuesAt H du us ∧ DuesOk S log.length us ∧ (∀ p H', Same H H' → LaysAt H' p log.length (lay t S log.length log us) → Q (.ref p) H') ∧
  (manyOf t S log.length log us log.length ≤ most ∨ ∀ d H', Same H H' → H' d = some (.xd [(("most" : Str), .int (most : Int))]) → E (.ref CT) (some d) H')
section
variable {P : Program} {w : World} {K : PySem.W.Frag} {mg : Str → Option Value} {base : Heap} {f C CT : Addr} {fd : FuncData}
abbrev nFewestTables : List Str := ["machine", "log", "due", "most", "idle", "layers", "many", "place", "table", "layer", "ends", "number", "with_deed", "after", "more", "state"]
theorem scFewestTables : FnScope nFewestTables ["machine", "log", "due", "most"] (defScope sFewestTables) := ⟨rfl, rfl, rfl, by decide +kernel, rfl, by decide +kernel, by decide +kernel⟩
theorem ok_fewestTables (T : Txt mg) (M : MTxt K mg C) (XT : XCl P K mg "TooGreat" "most" CT) (C_does_fit : Cl P w K mg base CX0 1 "does_fit" spFit) (F : FnP K "fewest_tables" sFewestTables f fd) (hm : mg "fewest_tables" = some (.ref f)) : Cl P w K mg base (L2.CX P w) 3 "fewest_tables" (spFewestTables C CT) := by
  refine cal_of (ps := ["machine", "log", "due", "most"]) (F.ok scFewestTables (fun vs H Q E h => ?_) (fun cdv A outer s H vs Q E hr h => ⟨_, (pss_cons (ps_set (i := 4) scFewestTables.nd rfl (Or.inl rfl) (pe_tupRg rfl rfl T.tuple (prg_1 rfl T.range (pe_fld (pv 0) rfl))))
       (pss_cons (ps_set (i := 5) scFewestTables.nd rfl (Or.inl rfl) (pe_lst (pa_cons (pe_disT (hu_of hr) (pv 4) pe_int) pa_nil)))
       (pss_cons (ps_set (i := 6) scFewestTables.nd rfl (Or.inl rfl) pe_int)
       (pss_cons (ps_for (passes_of rfl) rfl (pi_range3 rfl T.range (pa_cons (pe_op op_sub (pe_callB (call_len) (by rfl) T.len (by decide +kernel) (pa_cons (pv 1) pa_nil)) pe_int) (pa_cons (pe_un un_neg pe_int) (pa_cons (pe_un un_neg pe_int) pa_nil)))) (pg_name (i := 7) scFewestTables.nd rfl (Or.inl rfl))
       (pss_cons (ps_set (i := 8) scFewestTables.nd rfl (Or.inr rfl) (pe_ix ix_seq (pe_fld (pv 0) rfl) (pe_ix ix_seq (pv 1) (pv 7) (fun _ _ => rfl)) (fun _ _ => rfl)))
       (pss_cons (ps_set (i := 9) scFewestTables.nd rfl (Or.inl rfl) pe_dnewT)
       (pss_cons (ps_lock (ps_for (passes_of rfl) rfl (pi_itemsT (pe_ix ix_seq (pv 5) (pe_un un_neg pe_int) (fun _ _ => rfl))) (pg_tup rfl (pgs_cons (pg_name (i := 10) scFewestTables.nd rfl (Or.inr rfl)) (pgs_cons (pg_name (i := 11) scFewestTables.nd rfl (Or.inl rfl)) pgs_nil)))
       (pss_cons (ps_set (i := 12) scFewestTables.nd rfl (Or.inl rfl) (pe_callTy (call_tupleSq) (by rfl) T.tuple (by decide +kernel) (pa_cons (pe_lc (own := [("state", 15)]) (g := (gName 15)) (te := tOp (rIx K) (tVar 10) (tOp (rIx K) (tVar 8) (tVar 15))) rfl scFewestTables.nd (pi_range1 rfl T.range (pa_cons (pe_fld (pv 0) rfl) pa_nil)) (blkOk_by (own := [("state", 15)]) (N := nFewestTables) (sc := defScope sFewestTables) (by decide +kernel)) (fun _ _ _ _ _ => (pg_name (i := 15) scFewestTables.nd rfl (Or.inl rfl))) (fun _ _ _ _ _ => pts_nil) (fun _ _ _ _ _ => (pe_ix ix_seq (pv 10) (pe_ix ix_seq (pv 8) (pv 15) (fun _ _ => rfl)) (fun _ _ => rfl)))) pa_nil)))
       (pss_one (ps_for (passes_of rfl) rfl (pi_sq (pe_tup (pa_cons (pe_tup (pa_cons (pv 10) (pa_cons (pv 11) pa_nil))) (pa_cons (pe_tup (pa_cons (pv 12) (pa_cons (pe_op op_add (pv 11) pe_int) pa_nil))) pa_nil)))) (pg_tup rfl (pgs_cons (pg_name (i := 13) scFewestTables.nd rfl (Or.inl rfl)) (pgs_cons (pg_name (i := 14) scFewestTables.nd rfl (Or.inl rfl)) pgs_nil)))
       (pss_one (ps_if (PW.pt (pw_and (pt_val (pe_cl C_does_fit hr (by decide) rfl (pa_cons (pv 13) (pa_cons (pe_ix ix_seq (pv 2) (pv 7) (fun _ _ => rfl)) pa_nil))) (by intro _; rfl)) (pw_and1 (pt_cmpR op_lt (pv 14) (pe_dget2 (hu_of hr) (pv 9) (pv 13) (pe_op op_add (pe_callB call_len rfl T.len boot_len (pa_cons (pv 1) pa_nil)) pe_int) ⟨rfl, rfl, rfl, rfl⟩) (nomark _)))))
       (pss_one (ps_dput (hu_of hr) (pv 9) (pv 13) (pv 14) rfl))
       pss_nil)))))))
       (pss_cons (ps_aug (i := 6) scFewestTables.nd rfl (Or.inl rfl) (pe_callB call_len_dT (by rfl) T.len boot_len (pa_cons (pv 9) pa_nil)) ip_add)
       (pss_cons (ps_if (pt_cmpR op_gt (pv 6) (pv 3) (nomark _))
       (pss_one (ps_raise rfl (takes_of rfl rfl rfl rfl) (pmk_xc XT (hr.mono (by decide)) rfl (pa_cons (pv 3) pa_nil))))
       pss_nil)
       (pss_one (ps_expr (pe_bm PySem.F.plainAttrs_list PySem.F.slot_list_append PySem.F.type_list_append mt_append (pv 5) (pa_cons (pv 9) pa_nil))))))))))
       (pss_one (ps_ret (pe_revL (pv 5)))))))), ?_⟩))
    hm F.kp (F.bindsN fun _ _ _ _ _ _ us hl => match us, hl with | [_, _, _, _], _ => rfl)
  · obtain ⟨_, _, _, _, _, _, _, _, rfl, _⟩ := h
    rfl
  · obtain ⟨m, la, du, S, most, t, log, us, rfl, hMa, W, hS, hL, hlog, hn, hU, uok, q, qe⟩ := h
    obtain ⟨dx, ta, hM, hT⟩ := id hMa
    have hus : log.length ≤ us.length := by rw [uok.len]; omega
    refine ⟨_, rfl, m, C, dx, _, _, rfl, hM, M.cl, M.nS, mF_s _ _ _, _, rfl, RgOk.of_le (by decide) (by omega) (by decide) (by omega), fun ia hia => ?_⟩
    rw [idle_rg] at *
    have s1 : Same H (upd H ia (.tup (nV (idle S)))) := same_new hia
    refine fun b0 hb0 => ⟨_, rfl, ia, kE (idle S), rfl, by rw [kE_V, upd_ne (Ne.symm (fun z => by rw [z, upd_same] at hb0; cases hb0) : ia ≠ b0), upd_same], upd_same, ?_⟩
    refine ⟨by show 1 ≤ sizeLine; decide, fun D hD => ?_⟩
    rw [upd_upd] at *
    have s2 : Same H (upd (upd H ia (.tup (nV (idle S)))) b0 (.dT [(kE (idle S), .int 0)])) := sm_new s1 hb0
    have hDb : b0 ≠ D := fun z => by rw [z, upd_same] at hD; cases hD
    have hb0n : H b0 = none := Same.free s1 hb0
    have hDn : H D = none := Same.free s2 hD
    generalize hH2 : upd (upd H ia (.tup (nV (idle S)))) b0 (.dT [(kE (idle S), .int 0)]) = H2 at s2 hD ⊢
    have hb2 : H2 b0 = some (.dT (layV (lay t S log.length log us log.length))) := by rw [← hH2, upd_same, lay_last hus]; rfl
    have s3 : Same H (upd H2 D (.lst [.ref b0])) := sm_new s2 hD
    refine ⟨_, rfl, _, _, rfl, .inr ⟨_, .of (s3 _ _ hL), rfl⟩, _, _, rfl, rfl, _, rfl, _, rfl, (log.length : Int) - 1, -1, -1, log.length, by rw [nV_length], ?_, ?_⟩
    · have := RgC.neg (i := (log.length : Int) - 1) (j := -1) (by omega) (by omega) (by omega) (by omega)
      have e : ((log.length : Int) - 1 - (-1)).toNat = log.length := by omega
      rw [e] at this
      exact this
    refine for_it walk_rangeC (fun i σ H' => (∃ v7 v8 v9 v10 v11 v12 v13 v14 v15, σ = [some (.ref m), some (.ref la), some (.ref du), some (.int (most : Int)), some (.ref ia), some (.ref D), some (.int (manyOf t S log.length log us i : Nat)), v7, v8, v9, v10, v11, v12, v13, v14, v15]) ∧ Same H H' ∧
      ∃ ls : List Addr, H' D = some (.lst (ls.map V.ref)) ∧ ls.length = i + 1 ∧ ∀ (j : Nat) (b : Addr), ls[j]? = some b → H b = none ∧ H' b = some (.dT (layV (lay t S log.length log us (log.length - j)))))
      ⟨⟨none, none, none, none, none, none, none, none, none, rfl⟩, s3, [b0], upd_same, rfl, fun j b e => ?_⟩ (fun _ _ _ _ _ => trivial) ?_ ?_
    · have hj : j = 0 := by
        have := (List.getElem?_eq_some_iff.mp e).1
        simpa using this
      subst hj
      cases e
      exact ⟨hb0n, by rw [upd_ne hDb, Nat.sub_zero]; exact hb2⟩
    · rintro i x σ H9 H10 hi ⟨⟨v7, v8, v9, v10, v11, v12, v13, v14, v15, rfl⟩, s4, ls, l1, l2, l3⟩ ⟨rfl, hx⟩
      have hp : (log.length : Int) - 1 + ((i : Nat) : Int) * (-1) = ((log.length - 1 - i : Nat) : Int) := by omega
      have hx' : x = .int ((log.length - 1 - i : Nat) : Int) := hx.trans (congrArg V.int hp)
      clear hx
      subst hx'
      generalize hpl : log.length - 1 - i = p
      have hpn : p < log.length := by omega
      have hpi : log.length - i = p + 1 := by omega
      have hd : log.getD p 0 < t.length := hlog _ (List.mem_of_getElem? (getD_get hpn))
      obtain ⟨txs, tb, x1, x2, x3⟩ := (hT.same s4).row hd
      refine ⟨_, rfl, m, C, dx, _, _, rfl, s4 _ _ hM, M.cl, M.nT, mF_t _ _ _, _, rfl, _, rfl, ix_sq (j := p) (.inr (s4 _ _ hL)) (nV_get (getD_get hpn)) rfl (ix_sq (j := log.getD p 0) x1 x2 rfl ?_)⟩
      refine fun Lr hLr => ?_
      have hil : i < ls.length := by omega
      obtain ⟨pn, pv⟩ := l3 i _ (List.getElem?_eq_getElem hil)
      generalize hprev : ls[i] = prev at pn pv
      rw [hpi] at pv
      generalize hLp : lay t S log.length log us (p + 1) = Lp at pv
      have hLrn : H Lr = none := Same.free s4 hLr
      have neP : prev ≠ Lr := ne_of_none pv hLr
      have neD : D ≠ Lr := ne_of_none l1 hLr
      refine ⟨prev, .dT (layV Lp), by rw [upd_ne neP]; exact pv, trivial, fun od => ?_⟩
      refine ⟨_, rfl, _, rfl, .inl ⟨D, _, _, _, rfl, rfl, .of (by rw [upd_ne (ne_of l1 pv (by intro z; cases z)), upd_ne neD]; exact l1), atI_neg1 (v := .ref prev) (by
        rw [List.length_map, l2, Nat.add_sub_cancel, List.getElem?_map, List.getElem?_eq_getElem hil, hprev]; rfl), prev, od, _, rfl, upd_same, ?_⟩⟩
      -- the locked heap, without the new dict
      generalize hHb : upd H10 prev (.frz od (.dT (layV Lp))) = Hb
      have ub : ∀ (b : Addr) (u : HO), b ≠ prev → H10 b = some u → Hb b = some u := fun b u hb e => by rw [← hHb, upd_ne hb]; exact e
      have ubt : ∀ (b : Addr) (xs : List V), H10 b = some (.tup xs) → Hb b = some (.tup xs) := fun b xs e => ub b _ (fun z => by rw [z, pv] at e; exact nomatch Option.some.inj e) e
      have hLrb : Hb Lr = none := by rw [← hHb, upd_ne (Ne.symm neP)]; exact hLr
      have h00 : SameB Lr Hb (upd (upd H10 Lr (.dT [])) prev (.frz od (.dT (layV Lp)))) := fun b u hb e => by
        rw [← hHb] at e
        by_cases z : b = prev
        · rw [z, upd_same] at e ⊢; exact e
        · rw [upd_ne z] at e
          rw [upd_ne z, upd_ne hb]; exact e
      have h01 : (upd (upd H10 Lr (.dT [])) prev (.frz od (.dT (layV Lp)))) Lr = some (.dT (layV [])) := by rw [upd_ne (Ne.symm neP), upd_same]; rfl
      have hpvb : Hb prev = some (.frz od (.dT (layV Lp))) := by rw [← hHb, upd_same]
      have hMb : Hb m = some (.ins C dx (mF ta t.length S)) := ub _ _ (ne_of (s4 _ _ hM) pv (by intro z; cases z)) (s4 _ _ hM)
      have hLb : Hb la = some (.tup (nV log)) := ubt _ _ (s4 _ _ hL)
      have hx3b : Hb tb = some (.tup (nV (t.getD (log.getD p 0) []))) := ubt _ _ x3
      obtain ⟨das, d1, d2, d3⟩ := id hU
      have hd1b : Hb du = some (.lst (das.map V.ref)) := ub _ _ (ne_of (s4 _ _ d1) pv (by intro z; cases z)) (s4 _ _ d1)
      have hpu : p < das.length := by rw [d2, uok.len]; omega
      have hpu2 : p < us.length := by rw [uok.len]; omega
      have hgd : das[p]? = some das[p] := List.getElem?_eq_getElem hpu
      have hgu : us[p]? = some (us.getD p []) := by rw [List.getD_eq_getElem?_getD, List.getElem?_eq_getElem hpu2]; rfl
      have hdub : Hb das[p] = some (.dK (dueV (us.getD p []))) := ub _ _ (ne_of (s4 _ _ (d3 p _ _ hgd hgu)) pv (by intro z; cases z)) (s4 _ _ (d3 p _ _ hgd hgu))
      have hum := List.mem_of_getElem? hgu
      have hLpk : KeysS S Lp := by rw [← hLp]; exact lay_keys hus (log.length - (p + 1)) (p + 1) (by omega)
      have hLpl : Lp.length ≤ 4096 := by
        have := lay_len (t := t) (S := S) (n := log.length) hus (log.length - (p + 1)) (p + 1) (by omega)
        rw [hLp] at this
        exact Nat.le_trans this (Nat.le_trans (Nat.pow_le_pow_right (by decide) (show log.length - (p + 1) ≤ 12 by omega)) (by decide))
      generalize hu : us.getD p [] = u at hdub hum
      generalize hdd : log.getD p 0 = d at hd hx3b
      have hrowl : (t.getD d []).length = S := (W d hd).1
      refine for_it walk_itemsT (fun j σ H' => (∃ v10 v11 v12 v13 v14 v15, σ = [some (.ref m), some (.ref la), some (.ref du), some (.int (most : Int)), some (.ref ia), some (.ref D), some (.int (manyOf t S log.length log us i : Nat)), some (.int (p : Int)), some (.ref tb), some (.ref Lr), v10, v11, v12, v13, v14, v15]) ∧ SameB Lr Hb H' ∧
        H' Lr = some (.dT (layV ((Lp.take j).foldl (put2 t S log.length d u) [])))) ⟨⟨_, _, _, _, _, _, rfl⟩, h00, h01⟩ (fun j σ H' _ ⟨_, sb, _⟩ => sb _ _ neP hpvb) ?_ ?_
      · rintro j x σ H11 H12 hj ⟨⟨v10, v11, v12, v13, v14, v15, rfl⟩, sb, hacc⟩ ⟨T', k0, v0, qE, g1, g2, rfl, hT', rfl⟩
        have hjl : j < Lp.length := by rw [layV_length] at hj; exact hj
        obtain ⟨⟨E0, k⟩, hget⟩ : ∃ q, Lp[j]? = some q := ⟨_, List.getElem?_eq_getElem hjl⟩
        have g3 := layV_get hget
        rw [g1] at g3
        cases g3
        rw [kE_V] at g2
        have hE : E0.length = S := hLpk _ (List.mem_of_getElem? hget)
        have s12 : Same H11 (upd H11 T' (.tup [.ref qE, .int (k : Int)])) := same_new hT'
        have eacc : (Lp.take (j + 1)).foldl (put2 t S log.length d u) [] = put2 t S log.length d u ((Lp.take j).foldl (put2 t S log.length d u) []) (E0, k) := by rw [take_succ' hget, List.foldl_append]; rfl
        have hal : ((Lp.take j).foldl (put2 t S log.length d u) []).length ≤ 9000 := by
          have := layer_len t S log.length d u (Lp.take j) []
          have h2 : (Lp.take j).length ≤ Lp.length := by rw [List.length_take]; omega
          rw [List.length_nil] at this
          omega
        generalize (Lp.take j).foldl (put2 t S log.length d u) [] = acc at hacc eacc hal
        refine ⟨T', _, rfl, .of upd_same, rfl, _, _, rfl, _, _, rfl, rfl, ?_⟩
        generalize hH12 : upd H11 T' (.tup [.ref qE, .int (k : Int)]) = H12 at s12
        have sb12 : SameB Lr Hb H12 := sb.same s12
        have neM : m ≠ Lr := ne_of_none hMb hLrb
        have neT : tb ≠ Lr := ne_of_none hx3b hLrb
        have q12 := s12 _ _ g2
        refine ⟨_, rfl, m, C, dx, _, _, rfl, sb12 _ _ neM hMb, M.cl, M.nS, mF_s _ _ _, _, rfl, by omega, by omega, fun Dl hDl => lc_it walk_range (fun s H' => Same H12 H' ∧ H' Dl = some (.lst (((List.range S).take s).map fun s => V.int ((E0.getD (nx t d s) 0 : Nat) : Int)))) ⟨same_new hDl, by rw [upd_same]; rfl⟩ (fun _ _ _ _ => trivial) ?_ ?_⟩
        · rintro s x H13 H14 hs ⟨s13, h13⟩ ⟨rfl, rfl⟩
          have hsS : s < S := by omega
          have hnx : nx t d s < E0.length := by rw [hE]; exact nx_lt W hd hsS
          have hrg : (List.range S)[s]? = some s := List.getElem?_range hsS
          refine ⟨rfl, _, rfl, _, rfl, _, rfl, ix_sq (j := s) (.inr (s13 _ _ (sb12 _ _ neT hx3b))) (nV_get (getD_get (by rw [hrowl]; exact hsS))) (by show (0 : Int) + (s : Nat) = (s : Nat); omega) (ix_sq (j := nx t d s) (.inr (s13 _ _ q12)) (nV_get (getD_get hnx)) rfl ⟨_, h13, ?_, sm_upd1 s13 hDl, ?_⟩)⟩
          · rw [List.length_map]
            refine wl _ ?_
            rw [List.length_take]
            omega
          · rw [upd_same, take_succ' hrg, List.map_append]
            rfl
        · rintro H13 ⟨s13, h13⟩
          have eS : ((S : Int)).toNat = S := by omega
          have eW : (((List.range S).take S).map fun s => V.int ((E0.getD (nx t d s) 0 : Nat) : Int)) = nV (withD t S d E0) := by
            have : (List.range S).length = S := List.length_range
            rw [show (List.range S).take S = List.range S from List.take_of_length_le (by rw [this]; exact Nat.le_refl _)]
            unfold nV withD
            rw [List.map_map]
            rfl
          rw [eS, eW] at h13
          refine ⟨Dl, _, rfl, .inl h13, fun Wd H14 s14 hW => ?_⟩
          have s124 : Same H12 H14 := s13.trans s14
          have sb14 : SameB Lr Hb H14 := sb12.same s124
          have hacc14 : H14 Lr = some (.dT (layV acc)) := s124 _ _ (by rw [← hH12]; exact upd_keep hT' hacc)
          have q14 := s124 _ _ q12
          refine ⟨_, rfl, _, rfl, by show 2 ≤ sizeLine; decide, fun p1 hp1 => ⟨_, rfl, _, rfl, _, _, rfl, rfl, by show 2 ≤ sizeLine; decide, fun p2 hp2 => ⟨by show 2 ≤ sizeLine; decide, fun p3 hp3 => ⟨p3, _, rfl, .inr upd_same, fun J G wk hG => ?_⟩⟩⟩⟩
          have sA : Same H14 (upd H14 p1 (.tup [.ref qE, .int (k : Int)])) := same_new hp1
          have sB : Same H14 (upd (upd H14 p1 (.tup [.ref qE, .int (k : Int)])) p2 (.tup [.ref Wd, .int ((k : Int) + 1)])) := sm_new sA hp2
          have sC : Same H14 (upd (upd (upd H14 p1 (.tup [.ref qE, .int (k : Int)])) p2 (.tup [.ref Wd, .int ((k : Int) + 1)])) p3 (.tup [.ref p1, .ref p2])) := sm_new sB hp3
          have f1 : (upd (upd (upd H14 p1 (.tup [.ref qE, .int (k : Int)])) p2 (.tup [.ref Wd, .int ((k : Int) + 1)])) p3 (.tup [.ref p1, .ref p2])) p1 = some (.tup [.ref qE, .int (k : Int)]) := upd_keep hp3 (upd_keep hp2 upd_same)
          have f2 : (upd (upd (upd H14 p1 (.tup [.ref qE, .int (k : Int)])) p2 (.tup [.ref Wd, .int ((k : Int) + 1)])) p3 (.tup [.ref p1, .ref p2])) p2 = some (.tup [.ref Wd, .int ((k : Int) + 1)]) := upd_keep hp3 upd_same
          have f3 : (upd (upd (upd H14 p1 (.tup [.ref qE, .int (k : Int)])) p2 (.tup [.ref Wd, .int ((k : Int) + 1)])) p3 (.tup [.ref p1, .ref p2])) p3 = some (.tup [.ref p1, .ref p2]) := upd_same
          generalize (upd (upd (upd H14 p1 (.tup [.ref qE, .int (k : Int)])) p2 (.tup [.ref Wd, .int ((k : Int) + 1)])) p3 (.tup [.ref p1, .ref p2])) = Hc at sC f1 f2 f3 hG
          have hLc := sC _ _ hacc14
          have tupL : ∀ {b : Addr} {xs : List V}, Hc b = some (.tup xs) → b ≠ Lr := fun {b xs} e z => by
            rw [z, hLc] at e
            exact nomatch Option.some.inj e
          have sbc : SameB Lr Hb Hc := sb14.same sC
          refine for_it wk (fun c σ H' => (∃ v13 v14, σ = [some (.ref m), some (.ref la), some (.ref du), some (.int (most : Int)), some (.ref ia), some (.ref D), some (.int (manyOf t S log.length log us i : Nat)), some (.int (p : Int)), some (.ref tb), some (.ref Lr), some (.ref qE), some (.int (k : Int)), some (.ref Wd), v13, v14, v15]) ∧ SameB Lr Hc H' ∧
            H' Lr = some (.dT (layV (match c with
              | 0 => acc
              | 1 => put1 log.length u acc E0 k
              | _ => put2 t S log.length d u acc (E0, k))))) ⟨⟨_, _, rfl⟩, SameB.refl, hLc⟩ (fun c σ H' _ ⟨_, sb', _⟩ => hG _ (by rw [f3]; exact sb' _ _ (tupL f3) f3)) ?_ ?_
          · rintro c x σ H15 H16 hc ⟨⟨v13, v14, rfl⟩, sb', hac⟩ ⟨rfl, hx⟩
            obtain ⟨px, ea, E', k', acc', a1, a2, a3, a4, a5, a6, a7⟩ : ∃ (px ea : Addr) (E' : List Nat) (k' : Nat) (acc' : Layer), x = .ref px ∧ Hc px = some (.tup [.ref ea, .int (k' : Int)]) ∧ Hc ea = some (.tup (nV E')) ∧ E'.length = S ∧ acc'.length ≤ 9001 ∧
              H16 Lr = some (.dT (layV acc')) ∧ (match c + 1 with
              | 0 => acc
              | 1 => put1 log.length u acc E0 k
              | _ => put2 t S log.length d u acc (E0, k)) = put1 log.length u acc' E' k' := by
              have hc2 : c < 2 := hc
              rcases Nat.lt_succ_iff_lt_or_eq.mp hc2 with z | z
              · have z0 : c = 0 := by omega
                subst z0
                cases hx
                exact ⟨p1, qE, E0, k, acc, rfl, f1, sC _ _ q14, hE, by omega, hac, rfl⟩
              · subst z
                cases hx
                have hk1 : ((k : Int) + 1) = ((k + 1 : Nat) : Int) := by omega
                have hl1 := put1_len log.length u acc E0 k
                exact ⟨p2, Wd, withD t S d E0, k + 1, put1 log.length u acc E0 k, rfl, by rw [← hk1]; exact f2, sC _ _ hW, withD_length _ _ _ _, by omega, hac, rfl⟩
            subst a1
            have b2 := sb' _ _ (tupL a2) a2
            have b3 := sb' _ _ (tupL a3) a3
            have sbh : SameB Lr Hb H16 := sbc.trans sb'
            refine ⟨px, _, rfl, .of b2, rfl, _, _, rfl, _, _, rfl, rfl, ?_⟩
            refine ⟨_, rfl, _, rfl, _, rfl, ix_sq (j := p) (.inl (sbh _ _ (ne_of_none hd1b hLrb) hd1b)) (by rw [List.getElem?_map, hgd]; rfl) rfl ⟨ea, das[p], E', u, rfl, b3, sbh _ _ (ne_of_none hdub hLrb) hdub, fun q hq => by rw [a4]; exact uok.keys _ hum q hq, uok.few _ hum, fun H17 s17 => ⟨_, rfl, ?_⟩⟩⟩
            have hla : la ≠ Lr := ne_of_none hLb hLrb
            have hL17 := s17 _ _ a6
            by_cases hf : fits E' u = true
            · refine ifT hf ⟨_, rfl, _, rfl, Lr, rfl, .inr ⟨_, .inl hL17⟩, _, rfl, _, rfl, _, _, rfl, .inr ⟨_, .of (s17 _ _ (sbh _ _ hla hLb)), rfl⟩, _, _, rfl, rfl, _, DGet.t (k := kE E') hL17 (by rw [kE_V]; exact s17 _ _ b3), ?_⟩
              rw [nV_length, layV_getD]
              refine ⟨_, _, rfl, rfl, _, rfl, ite2 (fun c1 => ?_) (fun c1 => ?_)⟩
              · have c1' : k' < (lookA acc' E').getD (log.length + 1) := by
                  have := of_decide_eq_true c1
                  omega
                refine ⟨_, rfl, _, rfl, _, rfl, Lr, _, rfl, DPut.t (k := kE E') hL17 (by rw [kE_V]; exact s17 _ _ b3) (by rw [layV_length]; exact wl _ (by omega)), ⟨_, _, rfl⟩, (sb'.same s17).put, ?_⟩
                rw [upd_same, layV_put, a7]
                unfold put1
                rw [if_pos ⟨hf, c1'⟩]
              · have c1' : ¬ k' < (lookA acc' E').getD (log.length + 1) := fun z => c1 (decide_eq_true (by omega))
                refine ⟨⟨_, _, rfl⟩, sb'.same s17, ?_⟩
                rw [a7]
                unfold put1
                rw [if_neg (fun z => c1' z.2)]
                exact hL17
            · refine ifF (by simpa using hf) (iteF ⟨⟨_, _, rfl⟩, sb'.same s17, ?_⟩)
              rw [a7]
              unfold put1
              rw [if_neg (fun z => hf z.1)]
              exact hL17
          · rintro σ H15 ⟨⟨v13, v14, rfl⟩, sb', hac⟩
            refine ⟨⟨_, _, _, _, _, _, rfl⟩, sbc.trans sb', ?_⟩
            rw [eacc]
            exact hac
      · rintro σ H11 ⟨⟨v10, v11, v12, v13, v14, v15, rfl⟩, sb, hacc⟩
        rw [layV_length, List.take_length] at hacc
        have elay : Lp.foldl (put2 t S log.length d u) [] = lay t S log.length log us p := by rw [lay_step hus hpn, hu, hdd, hLp]; rfl
        rw [elay] at hacc
        refine ⟨sb _ _ neP hpvb, ?_⟩
        have s12 : SameB Lr H10 (upd H11 prev (.dT (layV Lp))) := fun b w hb e => by
          by_cases z : b = prev
          · rw [z, pv] at e
            rw [z, upd_same]; exact e
          · rw [upd_ne z]
            exact sb _ _ hb (ub b w z e)
        have s13 : Same H (upd H11 prev (.dT (layV Lp))) := fun b w e => s12 b w (ne_of_none e hLrn) (s4 b w e)
        have a12 : (upd H11 prev (.dT (layV Lp))) Lr = some (.dT (layV (lay t S log.length log us p))) := by rw [upd_ne (Ne.symm neP)]; exact hacc
        have l12 : (upd H11 prev (.dT (layV Lp))) D = some (.lst (ls.map V.ref)) := s12 _ _ neD l1
        generalize upd H11 prev (.dT (layV Lp)) = H12 at s12 s13 a12 l12
        refine ⟨_, rfl, _, rfl, Lr, _, rfl, a12, _, _, rfl, rfl, ?_⟩
        have ep : log.length - (i + 1) = p := by omega
        have ev : ((manyOf t S log.length log us i : Nat) : Int) + ((layV (lay t S log.length log us p)).length : Nat) = ((manyOf t S log.length log us (i + 1) : Nat) : Int) := by
          rw [layV_length]
          show _ = ((manyOf t S log.length log us i + (lay t S log.length log us (log.length - (i + 1))).length : Nat) : Int)
          rw [ep]
          omega
        dsimp only
        rw [ev]
        refine ⟨_, rfl, _, rfl, _, _, rfl, rfl, _, rfl, ite2 (fun c1 => ?_) (fun c1 => ?_)⟩
        · refine ⟨_, rfl, _, rfl, fun dd hdd' => ?_⟩
          rcases qe with qe | qe
          · have := of_decide_eq_true c1
            have h2 := many_mono (t := t) (S := S) (n := log.length) (ds := log) (us := us) (show i + 1 ≤ log.length by omega)
            omega
          · exact qe dd _ (sm_new s13 hdd') upd_same
        · refine ⟨_, rfl, .inl ⟨rfl, _, .of l12⟩, _, rfl, D, _, _, rfl, rfl, l12, ?_, ⟨_, _, _, _, _, _, _, _, _, rfl⟩, sm_upd1 s13 hDn, ls ++ [Lr], by rw [upd_same, List.map_append]; rfl, by simp [l2], fun j b z => ?_⟩
          · rw [List.length_map]
            exact wl _ (by omega)
          · by_cases hj : j < ls.length
            · rw [List.getElem?_append_left hj] at z
              obtain ⟨z1, z2⟩ := l3 j b z
              have z3 := s12 b _ (ne_of_none z2 hLr) z2
              exact ⟨z1, by rw [upd_ne (ne_of z3 l12 (by intro y; cases y))]; exact z3⟩
            · rw [List.getElem?_append_right (by omega)] at z
              cases hq : j - ls.length with
              | zero =>
                rw [hq] at z
                have e0 : b = Lr := (Option.some.inj z).symm
                have ej : log.length - j = p := by omega
                rw [e0, ej]
                exact ⟨hLrn, by rw [upd_ne (Ne.symm neD)]; exact a12⟩
              | succ w => rw [hq] at z; cases z
    · rintro σ H10 ⟨⟨v7, v8, v9, v10, v11, v12, v13, v14, v15, rfl⟩, s4, ls, l1, l2, l3⟩
      refine ⟨_, rfl, D, _, rfl, .of l1, fun pr hpr => ?_⟩
      refine q pr _ (sm_new s4 hpr) ⟨ls.reverse, by rw [upd_same, List.map_reverse], by rw [List.length_reverse, l2], fun j b e => ?_⟩
      have hj : j < ls.length := by
        have := (List.getElem?_eq_some_iff.mp e).1
        rw [List.length_reverse] at this
        exact this
      rw [List.getElem?_reverse hj] at e
      obtain ⟨_, hb⟩ := l3 _ b e
      have ej : log.length - (ls.length - 1 - j) = j := by omega
      rw [ej] at hb
      rw [upd_ne (ne_of_none hb hpr)]
      exact hb
end
end Ag
set_option Elab.async false
set_option linter.all false
set_option maxRecDepth 100000
set_option maxHeartbeats 4000000
namespace Ag
open PySem PySem.Spec PyProof.Rows L2 RZ
/-! ### lists of tuples of numbers -/
structure NtsL (H : Hp) (as : List Addr) (hs : List (List Nat)) : Prop where
  len : as.length = hs.length
  at_ : ∀ (i : Nat) (b : Addr) (E : List Nat), as[i]? = some b → hs[i]? = some E → H b = some (.tup (nV E))
theorem NtsL.nil {H : Hp} : NtsL H [] [] := ⟨rfl, fun i b E h => nomatch h⟩
theorem NtsL.tups {H H' : Hp} {as : List Addr} {hs : List (List Nat)} (h : NtsL H as hs) (k : ∀ (b : Addr) (xs : List V), H b = some (.tup xs) → H' b = some (.tup xs)) : NtsL H' as hs := ⟨h.len, fun i b E e1 e2 => k _ _ (h.at_ i b E e1 e2)⟩
theorem NtsL.same {H H' : Hp} {as : List Addr} {hs : List (List Nat)} (h : NtsL H as hs) (s : Same H H') : NtsL H' as hs := h.tups fun b xs e => s _ _ e
theorem NtsL.push {H : Hp} {as : List Addr} {hs : List (List Nat)} {q : Addr} {E : List Nat} (h : NtsL H as hs) (hq : H q = some (.tup (nV E))) : NtsL H (as ++ [q]) (hs ++ [E]) := by
  refine ⟨by rw [List.length_append, List.length_append, h.len]; rfl, fun i b F e1 e2 => ?_⟩
  by_cases hi : i < as.length
  · rw [List.getElem?_append_left hi] at e1
    rw [List.getElem?_append_left (by rw [← h.len]; exact hi)] at e2
    exact h.at_ i b F e1 e2
  · rw [List.getElem?_append_right (by omega)] at e1
    rw [List.getElem?_append_right (by rw [← h.len]; omega), ← h.len] at e2
    cases hz : i - as.length with
    | zero =>
      rw [hz] at e1 e2
      cases e1
      cases e2
      exact hq
    | succ n => rw [hz] at e1; cases e1
theorem tup_upd {H : Hp} {D : Addr} {o u : HO} (hD : H D = some o) (hn : ∀ xs, o ≠ .tup xs) (b : Addr) (xs : List V) (e : H b = some (.tup xs)) : (upd H D u) b = some (.tup xs) := by
  rw [upd_ne (fun z => hn xs (by rw [z, hD] at e; exact Option.some.inj e))]
  exact e
theorem tup_updL {H : Hp} {D : Addr} {ys : List V} {u : HO} (hD : H D = some (.lst ys)) (b : Addr) (xs : List V) (e : H b = some (.tup xs)) : (upd H D u) b = some (.tup xs) := tup_upd hD (fun xs z => nomatch z) b xs e
theorem tup_sameB {d : Addr} {H H' : Hp} {o : HO} (s : SameB d H H') (hd : H d = some o) (hn : ∀ xs, o ≠ .tup xs) (b : Addr) (xs : List V) (e : H b = some (.tup xs)) : H' b = some (.tup xs) := s b _ (fun z => hn xs (by rw [z, hd] at e; exact Option.some.inj e)) e
def NtsAt (H : Hp) (a : Addr) (hs : List (List Nat)) : Prop := ∃ as : List Addr, H a = some (.lst (as.map V.ref)) ∧ NtsL H as hs
theorem NtsAt.same {H H' : Hp} {a : Addr} {hs : List (List Nat)} (h : NtsAt H a hs) (s : Same H H') : NtsAt H' a hs := by
  obtain ⟨as, h1, h2⟩ := h
  exact ⟨as, s _ _ h1, h2.same s⟩
theorem NtsAt.push {H : Hp} {D q : Addr} {as : List Addr} {hs : List (List Nat)} {E : List Nat} (hD : H D = some (.lst (as.map V.ref))) (h : NtsL H as hs) (hq : H q = some (.tup (nV E))) : NtsAt (upd H D (.lst (as.map V.ref ++ [.ref q]))) D (hs ++ [E]) :=
  ⟨as ++ [q], by rw [upd_same, List.map_append]; rfl, (h.push hq).tups (tup_updL hD)⟩
/-! ### a walk that makes a dict with tuple keys -/
theorem dct_it {J : It} {n : Nat} {G : Hp → Prop} {Y : Nat → Hp → V → Hp → Prop} (wk : Walk J n G Y) {g : TG} {tt : TT} {tk tv : TE} {vs : List Nat} {σ : L2.St} {H1 : Hp} {D : Addr} {Qd : Hp → Prop} (Pv : Nat → Hp → Prop) (h0 : Pv 0 (upd H1 D (.dT []))) (hG : ∀ i H, i ≤ n → Pv i H → G H)
    (hs : ∀ i x H H', i < n → Pv i H → Y i H x H' → g x (wipe σ vs) H' fun σ2 H2 => wipe σ2 vs = wipe σ vs ∧ tt σ2 H2 fun b H3 =>
      if b = true then tk σ2 H3 fun y H4 => tv σ2 H4 fun z H5 => ∃ (kvs : List (List L2.Key × V)) (k : List L2.Key) (b : Addr), y = .ref b ∧ H5 b = some (.tup (k.map kV)) ∧ H5 D = some (.dT kvs) ∧ kvs.length < sizeLine ∧ Pv (i + 1) (upd H5 D (.dT (putK kvs k z))) else Pv (i + 1) H3) (hd : ∀ H, Pv n H → Qd H) :
    ∃ W : Nat → Nat → Hp → Prop, (∃ m, W 0 m (upd H1 D (.dT []))) ∧ ∀ i m H, W i m H →
      (J.stop i H ∧ Qd H) ∨ (J.go i H ∧ ∃ Nx : Hp → Prop, (∀ H', Nx H' → ∃ m', m' < m ∧ W (i + 1) m' H') ∧ ∀ x H', J.yld i H x H' → g x (wipe σ vs) H' fun σ2 H2 => wipe σ2 vs = wipe σ vs ∧ tt σ2 H2 fun b H3 =>
        if b = true then tk σ2 H3 fun y H4 => tv σ2 H4 fun z H5 => ∃ (kvs : List (List L2.Key × V)) (k : List L2.Key) (b : Addr), y = .ref b ∧ H5 b = some (.tup (k.map kV)) ∧ H5 D = some (.dT kvs) ∧ kvs.length < sizeLine ∧ Nx (upd H5 D (.dT (putK kvs k z))) else Nx H3) := by
  refine ⟨fun i m H => m = n - i ∧ i ≤ n ∧ Pv i H, ⟨n, by simp, Nat.zero_le _, h0⟩, ?_⟩
  rintro i m H ⟨rfl, hi, p⟩
  have q := hG i H hi p
  by_cases hlt : i < n
  · exact .inr ⟨wk.goes i H hlt q, Pv (i + 1), fun H' p' => ⟨n - (i + 1), by omega, rfl, hlt, p'⟩, fun x H' y => hs i x H H' hlt p (wk.yields i H x H' hlt q y)⟩
  · have e : i = n := by omega
    subst e
    exact .inl ⟨wk.stops H q, hd H p⟩
/-! ### greedy, place by place -/
theorem layT_drop {t : Tabs} {S : Nat} {log : List Nat} {us : List Due} (hus : log.length ≤ us.length) {i : Nat} (hi : i < log.length) : ((layersF t S log.length log us).tail).drop i = lay t S log.length log us (i + 1) :: ((layersF t S log.length log us).tail).drop (i + 1) := by
  have hl := layersF_length (t := t) (S := S) (n := log.length) hus
  have hl2 : i < (layersF t S log.length log us).tail.length := by rw [List.length_tail, hl]; omega
  rw [List.drop_eq_getElem_cons hl2]
  congr 1
  unfold lay
  rw [List.getElem_tail, List.getD_eq_getElem?_getD, List.getElem?_eq_getElem (by rw [hl]; omega)]
  rfl
theorem log_drop {log : List Nat} {i : Nat} (hi : i < log.length) : log.drop i = log.getD i 0 :: log.drop (i + 1) := by
  rw [List.drop_eq_getElem_cons hi]
  congr 1
  rw [List.getD_eq_getElem?_getD, List.getElem?_eq_getElem hi]
  rfl
end Ag
set_option Elab.async false
set_option linter.all false
set_option maxRecDepth 100000
set_option maxHeartbeats 4000000
namespace Ag
open PySem PySem.Spec PyProof.Rows L2 RZ
def spFewestKept (C CL CB CT : Addr) : Sp := fun vs H Q E => ∃ (m la S most : Nat) (t : Tabs) (log : List Nat) (cv : V), vs = [.ref m, .ref la, cv, .int (most : Int)] ∧ MachAt C H m t S ∧ Wf t S ∧ S ≤ 100 ∧ IsSq H la (nV log) ∧ log.length ≤ 12 ∧
  (((∀ d ∈ log, d < t.length) ∧ ∃ ca cs, cv = .ref ca ∧ CpsOk H ca S log.length cs ∧ (∀ lot, IsDue t log cs lot → ∀ p H', Same H H' → H' p = some (.tup (nV lot)) → Q (.ref p) H') ∧
      (20000 ≤ most ∨ ∀ d H', Same H H' → H' d = some (.xd [(("most" : Str), .int (most : Int))]) → E (.ref CT) (some d) H')) ∨
   ((∀ d ∈ log, d < t.length) ∧ BadCps H S log.length cv ∧ ∀ d H', Same H H' → H' d = some (.xd [(("at" : Str), cv)]) → E (.ref CB) (some d) H') ∨
   ∃ i, badAt t.length log i ∧ ∀ d H', Same H H' → H' d = some (.xd [(("at" : Str), .int (i : Nat))]) → E (.ref CL) (some d) H')
section
variable {P : Program} {w : World} {K : PySem.W.Frag} {mg : Str → Option Value} {base : Heap} {f C CL CB CT : Addr} {fd : FuncData}
abbrev nFewestKept : List Str := ["machine", "log", "copies", "most", "told", "layers", "left", "here", "found", "place", "deed", "table", "rest", "wished", "kept", "ends", "number", "state"]
theorem scFewestKept : FnScope nFewestKept ["machine", "log", "copies", "most"] (defScope sFewestKept) := ⟨rfl, rfl, rfl, by decide +kernel, rfl, by decide +kernel, by decide +kernel⟩
theorem ok_fewestKept (T : Txt mg) (M : MTxt K mg C) (C_check_log : Cl P w K mg base (L2.CX P w) 4 "check_log" (spCheckLog C CL)) (C_check_copies : Cl P w K mg base (L2.CX P w) 5 "check_copies" (spCheckCopies C CB))
    (C_due_ends : Cl P w K mg base CX0 2 "due_ends" (spDue C)) (C_fewest_tables : Cl P w K mg base (L2.CX P w) 3 "fewest_tables" (spFewestTables C CT))
    (F : FunD K "fewest_kept" "fewest_kept" (defArgs sFewestKept) (defBody sFewestKept) (defScope sFewestKept) [] [("most", .int 20000)] f fd) : FnOk P w K mg base (L2.CX P w) 6 f fd ["machine", "log", "copies", "most"] (spFewestKept C CL CB CT) := by
  refine (F.ok scFewestKept (fun vs H Q E h => ?_) (fun cdv A outer s H vs Q E hr h => ⟨_, (pss_cons (ps_set (i := 4) scFewestKept.nd rfl (Or.inl rfl) (pe_clE C_check_log (passes_call (takes_of rfl rfl rfl rfl) (fun _ _ _ _ h => h)) hr (by decide) rfl (pa_cons (pv 0) (pa_cons (pv 1) pa_nil))))
       (pss_cons (ps_set (i := 5) scFewestKept.nd rfl (Or.inr rfl) (pe_clE C_fewest_tables (passes_call (takes_of rfl rfl rfl rfl) (fun _ _ _ _ h => h)) hr (by decide) rfl (pa_cons (pv 0) (pa_cons (pv 4) (pa_cons (pe_cl C_due_ends hr (by decide) rfl (pa_cons (pv 0) (pa_cons (pv 4) (pa_cons (pe_clE C_check_copies (passes_call (takes_of rfl rfl rfl rfl) (fun _ _ _ _ h => h)) hr (by decide) rfl (pa_cons (pv 0) (pa_cons (pv 4) (pa_cons (pv 2) pa_nil)))) pa_nil)))) (pa_cons (pv 3) pa_nil))))))
       (pss_cons (ps_set (i := 6) scFewestKept.nd rfl (Or.inr rfl) (pe_callB (cr_min rfl) (by rfl) T.min (by decide +kernel) (pa_cons (pe_callTy (call_list_valsT rfl) (by rfl) T.list (by decide +kernel) (pa_cons (pe_bm0 PySem.F.plainAttrs_dict PySem.F.slot_dict_values PySem.F.type_dict_values mt_valuesT (pe_ix ix_seq (pv 5) pe_int (fun _ _ => rfl))) pa_nil)) pa_nil)))
       (pss_cons (ps_lock (ps_setLc (i := 7) (own := [("ends", 15)]) (g := (gName 15)) (tt := tTest (tOp rEq (tDGet (tOp (rIx K) (tVar 5) (tC (.int 0))) (tVar 15)) (tVar 6))) rfl scFewestKept.nd rfl rfl (sw_true rfl rfl rfl (by decide +kernel)) (pi_keys (pe_ix ix_seq (pv 5) pe_int (fun _ _ => rfl))) (blkOk_by (own := [("ends", 15)]) (N := nFewestKept) (sc := defScope sFewestKept) (by decide +kernel)) (fun _ _ _ _ _ => (pg_name (i := 15) scFewestKept.nd rfl (Or.inl rfl))) (fun _ _ _ _ _ => (pts_one (pt_cmpR op_eq (pe_dget (hu_of hr) (pe_ix ix_seq (pv 5) pe_int (fun _ _ => rfl)) (pv 15) (fun _ _ => rfl)) (pv 6) (nomark _)))) (fun _ _ _ _ _ => (pv 15))))
       (pss_cons (ps_set (i := 8) scFewestKept.nd rfl (Or.inl rfl) (pe_lst pa_nil))
       (pss_cons (ps_for (passes_of rfl) rfl (pi_enumSq rfl T.enum (pa_cons (pv 4) pa_nil)) (pg_tup rfl (pgs_cons (pg_name (i := 9) scFewestKept.nd rfl (Or.inl rfl)) (pgs_cons (pg_name (i := 10) scFewestKept.nd rfl (Or.inl rfl)) pgs_nil)))
       (pss_cons (ps_set (i := 11) scFewestKept.nd rfl (Or.inr rfl) (pe_ix ix_seq (pe_fld (pv 0) rfl) (pv 10) (fun _ _ => rfl)))
       (pss_cons (ps_set (i := 12) scFewestKept.nd rfl (Or.inr rfl) (pe_ix ix_seq (pv 5) (pe_op op_add (pv 9) pe_int) (fun _ _ => rfl)))
       (pss_cons (ps_setDcT (i := 13) (hu_of hr) rfl scFewestKept.nd rfl rfl (sw_trueD rfl rfl rfl (by decide +kernel)) (pi_sq (pv 7)) (blkOk_by (own := [("ends", 15)]) (N := nFewestKept) (sc := defScope sFewestKept) (by decide +kernel)) (own := [("ends", 15)]) (g := gName 15) (fun _ _ _ _ _ => (pg_name (i := 15) scFewestKept.nd rfl (Or.inl rfl))) (fun _ _ _ _ _ => pts_nil) (fun _ _ _ _ _ => pv 15) (fun _ _ _ _ _ => pe_bl))
       (pss_cons (ps_set (i := 14) scFewestKept.nd rfl (Or.inl rfl) (pe_lst pa_nil))
       (pss_cons (ps_lock (ps_for (passes_of rfl) rfl (pi_itemsT (pv 12)) (pg_tup rfl (pgs_cons (pg_name (i := 15) scFewestKept.nd rfl (Or.inr rfl)) (pgs_cons (pg_name (i := 16) scFewestKept.nd rfl (Or.inl rfl)) pgs_nil)))
       (pss_one (ps_if (PW.pt (pw_and (pt_cmpR op_eq (pv 16) (pe_op op_sub (pv 6) pe_int) (nomark _)) (pw_and1 (pt_cmp (pc_din (hu_of hr) (pe_callTy (call_tupleSq) (by rfl) T.tuple (by decide +kernel) (pa_cons (pe_lc (own := [("state", 17)]) (g := (gName 17)) (te := tOp (rIx K) (tVar 15) (tOp (rIx K) (tVar 11) (tVar 17))) rfl scFewestKept.nd (pi_range1 rfl T.range (pa_cons (pe_fld (pv 0) rfl) pa_nil)) (blkOk_by (own := [("state", 17)]) (N := nFewestKept) (sc := defScope sFewestKept) (by decide +kernel)) (fun _ _ _ _ _ => (pg_name (i := 17) scFewestKept.nd rfl (Or.inl rfl))) (fun _ _ _ _ _ => pts_nil) (fun _ _ _ _ _ => (pe_ix ix_seq (pv 15) (pe_ix ix_seq (pv 11) (pv 17) (fun _ _ => rfl)) (fun _ _ => rfl)))) pa_nil)) (pv 13))))))
       (pss_one (ps_expr (pe_bm PySem.F.plainAttrs_list PySem.F.slot_list_append PySem.F.type_list_append mt_append (pv 14) (pa_cons (pv 15) pa_nil))))
       pss_nil))))
       (pss_one (ps_if (pt_cmpR op_gt (pe_callB (call_len) (by rfl) T.len (by decide +kernel) (pa_cons (pv 14) pa_nil)) pe_int (nomark _))
       (pss_cons (ps_expr (pe_bm PySem.F.plainAttrs_list PySem.F.slot_list_append PySem.F.type_list_append mt_append (pv 8) (pa_cons (pv 9) pa_nil)))
       (pss_cons (ps_set (i := 7) scFewestKept.nd rfl (Or.inl rfl) (pv 14))
       (pss_one (ps_aug (i := 6) scFewestKept.nd rfl (Or.inr rfl) pe_int ip_sub))))
       (pss_one (ps_setLc (i := 7) (own := [("ends", 15)]) (g := (gName 15)) rfl scFewestKept.nd rfl rfl (sw_true rfl rfl rfl (by decide +kernel)) (pi_sq (pv 7)) (blkOk_by (own := [("ends", 15)]) (N := nFewestKept) (sc := defScope sFewestKept) (by decide +kernel)) (fun _ _ _ _ _ => (pg_name (i := 15) scFewestKept.nd rfl (Or.inl rfl))) (fun _ _ _ _ _ => (pts_one (pt_cmpR op_eq (pe_dget1 (hu_of hr) (pv 12) (pv 15) ⟨rfl, rfl, rfl, rfl⟩) (pv 6) (nomark _)))) (fun _ _ _ _ _ => (pv 15))))))))))))
       (pss_one (ps_ret (pe_callTy (call_tupleSq) (by rfl) T.tuple (by decide +kernel) (pa_cons (pv 8) pa_nil)))))))))), ?_⟩))
  · obtain ⟨_, _, _, _, _, _, _, rfl, _⟩ := h
    rfl
  · obtain ⟨m, la, S, most, t, log, cv, rfl, hMa, W, hS, hL, hn, h⟩ := h
    refine ⟨_, rfl, _, rfl, m, la, S, t, log, rfl, hMa, hL, by omega, ?_⟩
    rcases h with ⟨hlog, h⟩ | ⟨hlog, hb, q⟩ | ⟨i, hb, q⟩
    · refine .inl ⟨hlog, fun p H1 s1 hp => ?_⟩
      obtain ⟨ca, cs, rfl, hC, q, qe⟩ := h
      refine ⟨_, rfl, _, rfl, _, rfl, _, rfl, _, rfl, _, rfl, _, rfl, m, p, S, t, nV log, .ref ca, rfl, hMa.same s1, .inr hp, .inl ⟨ca, cs, rfl, hC.at_.same s1, by rw [nV_length]; exact hC.ok, hC.z, fun c H2 s2 hc => ?_⟩⟩
      have s12 := s1.trans s2
      refine ⟨m, p, c, t, S, log, cs, rfl, hMa.same s12, s2 _ _ hp, hc, W, hC.ok, hlog, by omega, hC.z, fun H3 du s3 hdu => ?_⟩
      have s13 := s12.trans s3
      have uok := dues_ok (t := t) hC.ok hC.z
      have hus : log.length ≤ (dues t log cs).length := by rw [dues_length]; omega
      refine ⟨_, rfl, m, p, du, S, most, t, log, dues t log cs, rfl, hMa.same s13, W, hS, s3 _ _ (s2 _ _ hp), hlog, hn, hdu, uok, fun ly H4 s4 hly => ?_, ?_⟩
      · have hG := fun (left : Nat) h1 h2 => fewest_due (left := left) W hlog hC.ok h1 h2
        have hne := layer0_ne W hlog hC.ok
        rw [headD_get] at hne
        simp only [headD_get] at hG
        have ez : (layersF t S log.length log (dues t log cs)).getD 0 [] = lay t S log.length log (dues t log cs) 0 := rfl
        rw [ez] at hne hG
        have hKL : ∀ i, i ≤ log.length → KeysS S (lay t S log.length log (dues t log cs) i) := fun i hi => lay_keys hus (log.length - i) i (by omega)
        have hLL : ∀ i, i ≤ log.length → (lay t S log.length log (dues t log cs) i).length ≤ 4096 := fun i hi => by
          have := lay_len (t := t) (S := S) (n := log.length) hus (log.length - i) i (by omega)
          exact Nat.le_trans this (Nat.le_trans (Nat.pow_le_pow_right (by decide) (show log.length - i ≤ 12 by omega)) (by decide))
        have hdrop := fun (i : Nat) (hi : i < log.length) => layT_drop (t := t) (S := S) hus hi
        generalize hLy : lay t S log.length log (dues t log cs) = LF at hne hG hly hKL hLL hdrop
        generalize (layersF t S log.length log (dues t log cs)).tail = LT at hG hdrop
        have s14 := s13.trans s4
        have hp4 : H4 p = some (.tup (nV log)) := s4 _ _ (s3 _ _ (s2 _ _ hp))
        obtain ⟨bs, l1, l2, l3⟩ := id hly
        obtain ⟨dx, ta, hM, hT⟩ := id (hMa.same s14)
        have h0 : 0 < bs.length := by omega
        have g0 : (bs.map V.ref)[0]? = some (.ref bs[0]) := by rw [List.getElem?_map, List.getElem?_eq_getElem h0]; rfl
        have hb0 := l3 0 _ (List.getElem?_eq_getElem h0)
        generalize bs[0] = b0 at g0 hb0
        -- left
        refine ⟨_, rfl, ix_sq (j := 0) (.inl l1) g0 rfl ⟨.inr (.inr (.inl ⟨rfl, .inr ⟨_, hb0⟩⟩)), b0, _, rfl, rfl, hb0, fun vw hvw => ⟨vw, b0, _, rfl, upd_same, upd_keep hvw hb0, fun lv hlv => ⟨lv, (LF 0).map fun x => (x.2 : Int), rfl, .of (by
          rw [upd_same]
          unfold layV
          rw [List.map_map, List.map_map]
          rfl), by rw [List.length_map]; exact List.length_pos_iff.mpr hne, fun mm m1 m2 => ?_⟩⟩⟩⟩
        have s5 : Same H4 (upd (upd H4 vw (valsO vw b0)) lv (.lst ((layV (LF 0)).map (·.2)))) := sm_new (same_new hvw) hlv
        generalize upd (upd H4 vw (valsO vw b0)) lv (.lst ((layV (LF 0)).map (·.2))) = H5 at s5
        obtain ⟨left, hle⟩ : ∃ left : Nat, mm = (left : Int) := by
          obtain ⟨x, _, e⟩ := List.mem_map.mp m1
          exact ⟨x.2, e.symm⟩
        subst hle
        have G1 : left ∈ (LF 0).map (·.2) := by
          obtain ⟨x, hx, e⟩ := List.mem_map.mp m1
          exact List.mem_map.mpr ⟨x, hx, by omega⟩
        have G2 : ∀ k ∈ (LF 0).map (·.2), left ≤ k := fun k hk => by
          obtain ⟨x, hx, e⟩ := List.mem_map.mp hk
          have := m2 _ (List.mem_map.mpr ⟨x, hx, rfl⟩)
          omega
        have hDue := hG left G1 G2
        generalize hGr : greedy t S 0 log LT (hereOf (LF 0) left) left = GG at hDue
        have q' := q GG hDue
        -- here
        refine ⟨b0, .dT (layV (LF 0)), s5 _ _ hb0, trivial, fun od => ?_⟩
        have s5f : ∀ (b : Addr) (u : HO), b ≠ b0 → H5 b = some u → (upd H5 b0 (.frz od (.dT (layV (LF 0))))) b = some u := fun b u hb e => by rw [upd_ne hb]; exact e
        have fz : (upd H5 b0 (.frz od (.dT (layV (LF 0))))) b0 = some (.frz od (.dT (layV (LF 0)))) := upd_same
        have l1f := s5f _ _ (ne_of l1 hb0 (by intro z; cases z)) (s5 _ _ l1)
        have hund : ∀ H', Same (upd H5 b0 (.frz od (.dT (layV (LF 0))))) H' → Same H5 (upd H' b0 (.dT (layV (LF 0)))) := fun H' s' => same_lock (s5 _ _ hb0) s'
        generalize upd H5 b0 (.frz od (.dT (layV (LF 0)))) = H6 at s5f fz l1f hund
        refine ⟨_, rfl, ix_sq (j := 0) (.inl l1f) g0 rfl ⟨b0, od, rfl, .inr ⟨_, fz, fun D hD => lc_it walk_keysT (fun i H' => Same H6 H' ∧ ∃ as, H' D = some (.lst (as.map V.ref)) ∧ NtsL H' as ((((LF 0).take i).map (·.1)).filter fun E => decide (lookA (LF 0) E = some left)))
          ⟨same_new hD, [], upd_same, .nil⟩ (fun i H' _ ⟨s', _⟩ => s' _ _ fz) ?_ ?_⟩⟩⟩
        · rintro i x H7 H8 hi ⟨s7, as, a1, a2⟩ ⟨rfl, k0, v0, qE, e1, rfl, e2⟩
          have hil : i < (LF 0).length := by rw [layV_length] at hi; exact hi
          obtain ⟨⟨E0, k⟩, hget⟩ : ∃ q, (LF 0)[i]? = some q := ⟨_, List.getElem?_eq_getElem hil⟩
          have g3 := layV_get hget
          rw [e1] at g3
          cases g3
          rw [kE_V] at e2
          obtain ⟨k', hk'⟩ : ∃ k', lookA (LF 0) E0 = some k' := by
            have : (lookA (LF 0) E0).isSome = true := by
              rw [← lookA_any]
              exact List.any_eq_true.mpr ⟨(E0, k), List.mem_of_getElem? hget, decide_eq_true rfl⟩
            exact Option.isSome_iff_exists.mp this
          have hv : valV (layV (LF 0)) (kE E0) = some (.int (k' : Int)) := by rw [layV_val, hk']; rfl
          have et : (((LF 0).take (i + 1)).map (·.1)).filter (fun E => decide (lookA (LF 0) E = some left)) = (((LF 0).take i).map (·.1)).filter (fun E => decide (lookA (LF 0) E = some left)) ++ (if k' = left then [E0] else []) := by
            rw [take_succ' hget, List.map_append, List.filter_append]
            congr 1
            by_cases z : k' = left
            · rw [if_pos z]
              simp [hk', z]
            · rw [if_neg z]
              simp [hk', z]
          refine ⟨rfl, _, rfl, ix_sq (j := 0) (.inl (s7 _ _ l1f)) g0 rfl ⟨_, rfl, b0, _, rfl, .inr ⟨_, kE E0, qE, .inr ⟨od, s7 _ _ fz⟩, rfl, by rw [kE_V]; exact e2, hv.symm⟩, _, rfl, rfl, _, rfl, ?_⟩⟩
          by_cases z : k' = left
          · subst z
            rw [if_pos rfl] at et
            refine ifT (decide_eq_true rfl) ⟨_, rfl, _, a1, ?_, sm_upd1 s7 hD, as ++ [qE], ?_, ?_⟩
            · rw [List.length_map, a2.len]
              refine wl _ ?_
              have h1 := List.length_filter_le (fun E => decide (lookA (LF 0) E = some k')) (((LF 0).take i).map (·.1))
              have h2 := hLL 0 (Nat.zero_le _)
              rw [List.length_map, List.length_take] at h1
              omega
            · rw [upd_same, List.map_append]; rfl
            · rw [et]
              exact (a2.push e2).tups (tup_updL a1)
          · rw [if_neg z, List.append_nil] at et
            refine ifF (decide_eq_false (fun y => z (by have := V.int.inj y; omega))) ⟨s7, as, a1, by rw [et]; exact a2⟩
        · rintro H7 ⟨s7, as, a1, a2⟩
          rw [layV_length, List.take_length] at a2
          refine ⟨s7 _ _ fz, ?_⟩
          have s8 := hund H7 s7
          have a3 : NtsAt (upd H7 b0 (.dT (layV (LF 0)))) D (hereOf (LF 0) left) := ⟨as, by rw [upd_ne (ne_of a1 (s7 _ _ fz) (by intro z; cases z))]; exact a1, a2.tups (tup_upd (s7 _ _ fz) (fun xs z => by cases z))⟩
          generalize upd H7 b0 (.dT (layV (LF 0))) = H8 at s8 a3
          refine ⟨by show (0 : Nat) ≤ sizeLine; decide, fun F hF => ?_⟩
          have s18 : Same H H8 := (s14.trans s5).trans s8
          have s48 : Same H4 H8 := s5.trans s8
          have hFn : H F = none := Same.free s18 hF
          have fh : (upd H8 F (.lst [])) F = some (.lst (nV [])) := upd_same
          have s89 : Same H8 (upd H8 F (.lst [])) := same_new hF
          generalize upd H8 F (.lst []) = H9 at fh s89
          have hTup9 : H9 p = some (.tup (nV log)) := s89 _ _ (s48 _ _ hp4)
          have hF8 : ∀ {b : Addr} {u : HO}, H8 b = some u → b ≠ F := fun {b u} e => ne_of_none e hF
          refine ⟨_, rfl, p, _, rfl, .inr hTup9, fun J G wk hGG => for_it wk (fun i σ H' => ∃ (left : Nat) (here : List (List Nat)) (fs : List Nat) (hr : Addr) (v9 v10 v11 v12 v13 v14 v15 v16 v17 : Option V), σ = [some (.ref m), some (.ref la), some (.ref ca), some (.int (most : Int)), some (.ref p), some (.ref ly), some (.int (left : Int)), some (.ref hr), some (.ref F), v9, v10, v11, v12, v13, v14, v15, v16, v17] ∧
            SameB F H8 H' ∧ H' F = some (.lst (nV fs)) ∧ fs.length ≤ i ∧ NtsAt H' hr here ∧ here.length ≤ 4096 ∧ GG = fs ++ greedy t S i (log.drop i) (LT.drop i) here left)
            ⟨left, hereOf (LF 0) left, [], D, none, none, none, none, none, none, none, none, none, rfl, .of s89, fh, Nat.le_refl _, a3.same s89, ?_, hGr.symm⟩ (fun i σ H' _ ⟨_, _, _, _, _, _, _, _, _, _, _, _, _, _, sb, _⟩ => hGG _ (by rw [hTup9]; exact sb _ _ (hF8 (s48 _ _ hp4)) (s48 _ _ hp4))) ?_ ?_⟩
          · have h1 := List.length_filter_le (fun E => decide (lookA (LF 0) E = some left)) ((LF 0).map (·.1))
            have h2 := hLL 0 (Nat.zero_le _)
            rw [List.length_map] at h1
            unfold hereOf
            omega
          · rintro i x σ H10 H11 hi ⟨left, here, fs, hr, v9, v10, v11, v12, v13, v14, v15, v16, v17, rfl, sb, hfs, hfl, hhe, hhl, hgr⟩ ⟨T', x1, y1, rfl, hT', rfl, e1, e2⟩
            dsimp only at e1 e2
            cases e1
            obtain ⟨d, hd, rfl⟩ := nV_of e2
            have hil : i < log.length := by rw [nV_length] at hi; exact hi
            have hdl : log.getD i 0 = d := by rw [List.getD_eq_getElem?_getD, hd]; rfl
            have hdt : d < t.length := hlog d (List.mem_of_getElem? hd)
            rw [log_drop hil, hdrop i hil, hdl] at hgr
            have hgs : greedy t S i (d :: log.drop (i + 1)) (LF (i + 1) :: LT.drop (i + 1)) here left = if 0 < (keptL t S d (LF (i + 1)) here left).length then i :: greedy t S (i + 1) (log.drop (i + 1)) (LT.drop (i + 1)) (keptL t S d (LF (i + 1)) here left) (left - 1) else greedy t S (i + 1) (log.drop (i + 1)) (LT.drop (i + 1)) (stay (LF (i + 1)) here left) left := by rw [greedy]
            rw [hgs] at hgr
            have hkl : (keptL t S d (LF (i + 1)) here left).length ≤ 4096 := by
              have h1 := List.length_filter_le (fun x : List Nat × Nat => decide (x.2 + 1 = left) && decide (withD t S d x.1 ∈ here)) (LF (i + 1))
              have h2 := hLL (i + 1) (by omega)
              unfold keptL
              rw [List.length_map]
              omega
            have sT : Same H10 (upd H10 T' (.tup [V.int (i : Int), V.int (d : Int)])) := same_new hT'
            refine ⟨T', _, rfl, .of upd_same, rfl, _, _, rfl, _, _, rfl, rfl, ?_⟩
            generalize upd H10 T' (.tup [V.int (i : Int), V.int (d : Int)]) = Hc at sT
            have s8c : Same H8 Hc := (sb.full hF).trans sT
            have s4c : Same H4 Hc := s48.trans s8c
            have hMc := s4c _ _ hM
            obtain ⟨txs, tb, x1, x2, x3⟩ := (hT.same s4c).row hdt
            have hbi : i + 1 < bs.length := by omega
            have hgb : (bs.map V.ref)[i + 1]? = some (.ref bs[i + 1]) := by rw [List.getElem?_map, List.getElem?_eq_getElem hbi]; rfl
            have hrb := l3 (i + 1) _ (List.getElem?_eq_getElem hbi)
            generalize bs[i + 1] = rb at hgb hrb
            have hKLi := hKL (i + 1) (by omega)
            have hLLi := hLL (i + 1) (by omega)
            generalize LF (i + 1) = L at hrb hKLi hLLi hgr hkl hgs
            have hFc : Hc F = some (.lst (nV fs)) := sT _ _ hfs
            obtain ⟨as, has, hal⟩ := hhe.same sT
            refine ⟨_, rfl, m, C, dx, _, _, rfl, hMc, M.cl, M.nT, mF_t _ _ _, _, rfl, ix_sq (j := d) x1 x2 rfl ?_⟩
            refine ⟨_, rfl, _, rfl, _, _, rfl, rfl, ix_sq (j := i + 1) (.inl (s4c _ _ l1)) hgb (by show (i : Int) + 1 = ((i + 1 : Nat) : Int); omega) ?_⟩
            -- wished
            refine ⟨_, rfl, hr, _, rfl, .inl has, fun J2 G2 wk2 hG2 Dw hDw => dct_it wk2 (fun j H' => Same Hc H' ∧ ∃ kvs : List (List L2.Key × V), H' Dw = some (.dT kvs) ∧ kvs.length ≤ j ∧ ∀ E, (valV kvs (kE E)).isSome = decide (E ∈ here.take j))
              ⟨same_new hDw, [], upd_same, Nat.le_refl _, fun E => by simp [valV]⟩ (fun j H' _ ⟨s', _⟩ => hG2 _ (by rw [has]; exact s' _ _ has)) ?_ ?_⟩
            · rintro j x H12 H13 hj ⟨s', kvs, k1, k2, k3⟩ ⟨rfl, hx⟩
              have hja : j < as.length := by rw [List.length_map] at hj; exact hj
              rw [List.getElem?_map, List.getElem?_eq_getElem hja] at hx
              cases hx
              obtain ⟨E, hE⟩ : ∃ E, here[j]? = some E := ⟨here[j]'(by rw [← hal.len]; exact hja), List.getElem?_eq_getElem _⟩
              have htE := s' _ _ (hal.at_ j _ E (List.getElem?_eq_getElem hja) hE)
              refine ⟨rfl, _, rfl, kvs, kE E, as[j], rfl, by rw [kE_V]; exact htE, k1, wl _ (by have := hal.len; omega), sm_upd1 s' hDw, _, upd_same, ?_, fun F' => ?_⟩
              · have := length_putK kvs (kE E) (.bl true); omega
              · rw [valV_put, take_succ' hE]
                by_cases z : F' = E
                · rw [if_pos (by rw [z])]
                  rw [decide_eq_true (by rw [z]; exact List.mem_append_right _ (List.mem_cons_self ..))]
                  rfl
                · rw [if_neg (fun y => z (kE_inj.mp y)), k3]
                  by_cases y : F' ∈ here.take j
                  · rw [decide_eq_true y, decide_eq_true (List.mem_append_left _ y)]
                  · rw [decide_eq_false y, decide_eq_false (fun w => by
                      rcases List.mem_append.mp w with w | w
                      · exact y w
                      · exact z (List.mem_singleton.mp w))]
            rintro H12 ⟨s12', kvs, k1, k2, k3⟩
            have k3 : ∀ E, (valV kvs (kE E)).isSome = decide (E ∈ here) := fun E => by
              have := k3 E
              rw [List.length_map, hal.len, List.take_length] at this
              exact this
            refine ⟨by show (0 : Nat) ≤ sizeLine; decide, fun Kp hKp => ?_⟩
            have hrb12 : H12 rb = some (.dT (layV L)) := s12' _ _ (s4c _ _ hrb)
            have neR : rb ≠ Kp := ne_of_none hrb12 hKp
            refine ⟨rb, .dT (layV L), by rw [upd_ne neR]; exact hrb12, trivial, fun od2 => ⟨_, rfl, rb, od2, _, rfl, upd_same, ?_⟩⟩
            have kz : (upd (upd H12 Kp (.lst [])) rb (.frz od2 (.dT (layV L)))) Kp = some (.lst (([] : List Addr).map V.ref)) := by rw [upd_ne (Ne.symm neR), upd_same]; rfl
            have kf : (upd (upd H12 Kp (.lst [])) rb (.frz od2 (.dT (layV L)))) rb = some (.frz od2 (.dT (layV L))) := upd_same
            have kk : ∀ (b : Addr) (u : HO), b ≠ rb → H12 b = some u → (upd (upd H12 Kp (.lst [])) rb (.frz od2 (.dT (layV L)))) b = some u := fun b u hb e => by rw [upd_ne hb, upd_ne (ne_of_none e hKp)]; exact e
            generalize upd (upd H12 Kp (.lst [])) rb (.frz od2 (.dT (layV L))) = Hk at kz kf kk
            have kt : ∀ (b : Addr) (xs : List V), H12 b = some (.tup xs) → Hk b = some (.tup xs) := fun b xs e => kk b _ (ne_of e hrb12 (by intro z; cases z)) e
            have hMk := kk _ _ (ne_of (s12' _ _ hMc) hrb12 (by intro z; cases z)) (s12' _ _ hMc)
            have hx3k := kt _ _ (s12' _ _ x3)
            have hDwk := kk Dw _ (fun z => by
              rw [z] at hDw
              have := s4c _ _ hrb
              rw [hDw] at this; cases this) k1
            have nK : ∀ {b : Addr} {u : HO}, H12 b = some u → b ≠ Kp := fun {b u} e => ne_of_none e hKp
            have hrowl : (t.getD d []).length = S := (W d hdt).1
            refine for_it walk_itemsT (fun j σ H' => (∃ v15 v16 v17, σ = [some (.ref m), some (.ref la), some (.ref ca), some (.int (most : Int)), some (.ref p), some (.ref ly), some (.int (left : Int)), some (.ref hr), some (.ref F), some (.int (i : Int)), some (.int (d : Int)), some (.ref tb), some (.ref rb), some (.ref Dw), some (.ref Kp), v15, v16, v17]) ∧ SameB Kp Hk H' ∧
              ∃ ks : List Addr, H' Kp = some (.lst (ks.map V.ref)) ∧ NtsL H' ks (((L.take j).filter fun x => decide (x.2 + 1 = left) && decide (withD t S d x.1 ∈ here)).map (·.1))) ⟨⟨_, _, _, rfl⟩, SameB.refl, [], kz, .nil⟩ (fun j σ H' _ ⟨_, sbk, _⟩ => sbk _ _ neR kf) ?_ ?_
            · rintro j x σ H14 H15 hj ⟨⟨v15, v16, v17, rfl⟩, sbk, ks, a1, a2⟩ ⟨T2, k0, v0, qE, g1, g2, rfl, hT2, rfl⟩
              have hjl : j < L.length := by rw [layV_length] at hj; exact hj
              obtain ⟨⟨E0, k⟩, hget⟩ : ∃ q, L[j]? = some q := ⟨_, List.getElem?_eq_getElem hjl⟩
              have g3 := layV_get hget
              rw [g1] at g3
              cases g3
              rw [kE_V] at g2
              have hE : E0.length = S := hKLi _ (List.mem_of_getElem? hget)
              have et : (((L.take (j + 1)).filter fun x => decide (x.2 + 1 = left) && decide (withD t S d x.1 ∈ here)).map (·.1)) = (((L.take j).filter fun x => decide (x.2 + 1 = left) && decide (withD t S d x.1 ∈ here)).map (·.1)) ++ (if k + 1 = left ∧ withD t S d E0 ∈ here then [E0] else []) := by
                rw [take_succ' hget, List.filter_append, List.map_append]
                congr 1
                by_cases z1 : k + 1 = left
                · by_cases z2 : withD t S d E0 ∈ here
                  · rw [if_pos ⟨z1, z2⟩]; simp [z1, z2]
                  · rw [if_neg (fun y => z2 y.2)]; simp [z1, z2]
                · rw [if_neg (fun y => z1 y.1)]; simp [z1]
              have sT2 : Same H14 (upd H14 T2 (.tup [.ref qE, .int (k : Int)])) := same_new hT2
              refine ⟨T2, _, rfl, .of upd_same, rfl, _, _, rfl, _, _, rfl, rfl, ?_⟩
              generalize upd H14 T2 (.tup [.ref qE, .int (k : Int)]) = H16 at sT2
              have sbk2 : SameB Kp Hk H16 := sbk.same sT2
              have q16 := sT2 _ _ g2
              refine ⟨_, rfl, _, rfl, _, _, rfl, rfl, rfl, _, rfl, ?_⟩
              by_cases hk : k + 1 = left
              · refine ifT (decide_eq_true (by congr 1; omega)) ?_
                refine ⟨_, rfl, m, C, dx, _, _, rfl, sbk2 _ _ (nK (s12' _ _ hMc)) hMk, M.cl, M.nS, mF_s _ _ _, _, rfl, by omega, by omega, fun Dl hDl => lc_it walk_range (fun s H' => Same H16 H' ∧ H' Dl = some (.lst (((List.range S).take s).map fun s => V.int ((E0.getD (nx t d s) 0 : Nat) : Int)))) ⟨same_new hDl, by rw [upd_same]; rfl⟩ (fun _ _ _ _ => trivial) ?_ ?_⟩
                · rintro s x H17 H18 hs ⟨s17, h17⟩ ⟨rfl, rfl⟩
                  have hsS : s < S := by omega
                  have hnx : nx t d s < E0.length := by rw [hE]; exact nx_lt W hdt hsS
                  have hrg : (List.range S)[s]? = some s := List.getElem?_range hsS
                  refine ⟨rfl, _, rfl, _, rfl, _, rfl, ix_sq (j := s) (.inr (s17 _ _ (sbk2 _ _ (nK (s12' _ _ x3)) hx3k))) (nV_get (getD_get (by rw [hrowl]; exact hsS))) (by show (0 : Int) + (s : Nat) = (s : Nat); omega) (ix_sq (j := nx t d s) (.inr (s17 _ _ q16)) (nV_get (getD_get hnx)) rfl ⟨_, h17, ?_, sm_upd1 s17 hDl, ?_⟩)⟩
                  · rw [List.length_map]
                    refine wl _ ?_
                    rw [List.length_take]
                    omega
                  · rw [upd_same, take_succ' hrg, List.map_append]
                    rfl
                · rintro H17 ⟨s17, h17⟩
                  have eS : ((S : Int)).toNat = S := by omega
                  have eW : (((List.range S).take S).map fun s => V.int ((E0.getD (nx t d s) 0 : Nat) : Int)) = nV (withD t S d E0) := by
                    have : (List.range S).length = S := List.length_range
                    rw [show (List.range S).take S = List.range S from List.take_of_length_le (by rw [this]; exact Nat.le_refl _)]
                    unfold nV withD
                    rw [List.map_map]
                    rfl
                  rw [eS, eW] at h17
                  refine ⟨Dl, _, rfl, .inl h17, fun Wd H18 s18 hW => ?_⟩
                  have s168 : Same H16 H18 := s17.trans s18
                  have sb18 : SameB Kp Hk H18 := sbk2.same s168
                  have a18 := s168 _ _ (sT2 _ _ a1)
                  have a28 := a2.same (sT2.trans s168)
                  refine ⟨_, rfl, Dw, _, rfl, DGet.t (k := kE (withD t S d E0)) (sb18 _ _ (nK k1) hDwk) (by rw [kE_V]; exact hW), _, rfl, ?_⟩
                  rw [k3]
                  by_cases hw : withD t S d E0 ∈ here
                  · rw [if_pos ⟨hk, hw⟩] at et
                    refine ifT (decide_eq_true hw) ⟨_, rfl, .inl ⟨rfl, _, .of a18⟩, _, rfl, Kp, _, _, rfl, rfl, a18, ?_, ⟨_, _, _, rfl⟩, sb18.put, ks ++ [qE], ?_, ?_⟩
                    · rw [List.length_map, a2.len]
                      refine wl _ ?_
                      have h1 := List.length_filter_le (fun x : List Nat × Nat => decide (x.2 + 1 = left) && decide (withD t S d x.1 ∈ here)) (L.take j)
                      rw [List.length_map]
                      rw [List.length_take] at h1
                      omega
                    · rw [upd_same, List.map_append]; rfl
                    · rw [et]
                      exact (a28.push (s168 _ _ q16)).tups (tup_updL a18)
                  · rw [if_neg (fun y => hw y.2), List.append_nil] at et
                    exact ifF (decide_eq_false hw) ⟨⟨_, _, _, rfl⟩, sb18, ks, a18, by rw [et]; exact a28⟩
              · rw [if_neg (fun y => hk y.1), List.append_nil] at et
                refine ifF (decide_eq_false (fun y => hk (by have := V.int.inj y; omega))) ⟨⟨_, _, _, rfl⟩, sbk2, ks, sT2 _ _ a1, by rw [et]; exact a2.same sT2⟩
            · rintro σ H14 ⟨⟨v15, v16, v17, rfl⟩, sbk, ks, a1, a2⟩
              rw [layV_length, List.take_length] at a2
              have a2 : NtsL H14 ks (keptL t S d L here left) := a2
              have r14 := sbk _ _ neR kf
              refine ⟨r14, ?_⟩
              have sU : Same H12 (upd H14 rb (.dT (layV L))) := fun b u e => by
                by_cases z : b = rb
                · rw [z, hrb12] at e
                  rw [z, upd_same]; exact e
                · rw [upd_ne z]
                  exact sbk _ _ (nK e) (kk b u z e)
              have u1 : (upd H14 rb (.dT (layV L))) Kp = some (.lst (ks.map V.ref)) := by rw [upd_ne (Ne.symm neR)]; exact a1
              have u2 : NtsL (upd H14 rb (.dT (layV L))) ks (keptL t S d L here left) := a2.tups (tup_upd r14 (fun xs z => by cases z))
              have u3 : (upd H14 rb (.dT (layV L))) rb = some (.dT (layV L)) := upd_same
              generalize upd H14 rb (.dT (layV L)) = H15 at sU u1 u2 u3
              have sc5 : Same Hc H15 := s12'.trans sU
              have hF5 := sc5 _ _ hFc
              refine ⟨_, rfl, _, _, rfl, .inl ⟨_, .of u1, rfl⟩, _, _, rfl, rfl, _, rfl, ite2 (fun c1 => ?_) (fun c1 => ?_)⟩
              · have c1' : 0 < (keptL t S d L here left).length := by
                  have := of_decide_eq_true c1
                  rw [List.length_map, u2.len] at this
                  omega
                rw [if_pos c1'] at hgr
                have hl1 : 1 ≤ left := by
                  obtain ⟨E, hE⟩ := List.exists_mem_of_length_pos c1'
                  unfold keptL at hE
                  obtain ⟨x, hx, _⟩ := List.mem_map.mp hE
                  have := (Bool.and_eq_true_iff.mp (List.mem_filter.mp hx).2).1
                  have := of_decide_eq_true this
                  omega
                have hli : ((left : Int) - 1) = ((left - 1 : Nat) : Int) := by omega
                refine ⟨_, rfl, .inl ⟨rfl, _, .of hF5⟩, _, rfl, F, _, _, rfl, rfl, hF5, ?_, _, rfl, _, rfl, _, _, rfl, rfl, ?_⟩
                · rw [nV_length]; exact wl _ (by omega)
                · dsimp only
                  rw [hli]
                  refine ⟨left - 1, keptL t S d L here left, fs ++ [i], Kp, _, _, _, _, _, _, _, _, _, rfl, ((SameB.of s8c).same sc5).put, ?_, by rw [List.length_append, List.length_singleton]; omega, ⟨ks, ?_, u2.tups (tup_updL hF5)⟩, hkl, ?_⟩
                  · rw [upd_same]
                    unfold nV
                    rw [List.map_append]
                    rfl
                  · rw [upd_ne (fun z => ?_)]
                    · exact u1
                    · have := s12' _ _ hFc
                      rw [← z, hKp] at this
                      cases this
                  · rw [hgr, List.append_assoc]
                    rfl
              · have c1' : ¬ 0 < (keptL t S d L here left).length := fun z => c1 (decide_eq_true (by
                  rw [List.length_map, u2.len]
                  omega))
                rw [if_neg c1'] at hgr
                have has5 := sc5 _ _ has
                have hal5 := hal.same sc5
                refine ⟨_, rfl, hr, _, rfl, .inl has5, fun J3 G3 wk3 hG3 D3 hD3 => lc_it wk3 (fun j H' => Same H15 H' ∧ ∃ ns, H' D3 = some (.lst (ns.map V.ref)) ∧ NtsL H' ns (stay L (here.take j) left)) ⟨same_new hD3, [], upd_same, .nil⟩ (fun j H' _ ⟨s', _⟩ => hG3 _ (by rw [has5]; exact s' _ _ has5)) ?_ ?_⟩
                · rintro j x H17 H18 hj ⟨s17, ns, n1, n2⟩ ⟨rfl, hx⟩
                  have hja : j < as.length := by rw [List.length_map] at hj; exact hj
                  rw [List.getElem?_map, List.getElem?_eq_getElem hja] at hx
                  cases hx
                  obtain ⟨E, hE⟩ : ∃ E, here[j]? = some E := ⟨here[j]'(by rw [← hal.len]; exact hja), List.getElem?_eq_getElem _⟩
                  have htE := s17 _ _ (hal5.at_ j _ E (List.getElem?_eq_getElem hja) hE)
                  have et : stay L (here.take (j + 1)) left = stay L (here.take j) left ++ (if lookA L E = some left then [E] else []) := by
                    unfold stay
                    rw [take_succ' hE, List.filter_append]
                    congr 1
                    by_cases z : lookA L E = some left
                    · rw [if_pos z]; simp [z]
                    · rw [if_neg z]; simp [z]
                  refine ⟨rfl, _, rfl, rb, rfl, .inr ⟨_, .inl (s17 _ _ u3)⟩, _, rfl, _, DGet.t (k := kE E) (s17 _ _ u3) (by rw [kE_V]; exact htE), _, rfl, ?_⟩
                  rw [layV_val]
                  by_cases z : lookA L E = some left
                  · rw [if_pos z] at et
                    rw [z]
                    refine ⟨rfl, _, rfl, ifT (decide_eq_true rfl) ⟨_, rfl, _, n1, ?_, sm_upd1 s17 hD3, ns ++ [as[j]], ?_, ?_⟩⟩
                    · rw [List.length_map, n2.len]
                      refine wl _ ?_
                      have h1 := List.length_filter_le (fun E => decide (lookA L E = some left)) (here.take j)
                      rw [List.length_take] at h1
                      unfold stay
                      omega
                    · rw [upd_same, List.map_append]; rfl
                    · rw [et]
                      exact (n2.push htE).tups (tup_updL n1)
                  · rw [if_neg z, List.append_nil] at et
                    have fin : Same H15 H18 ∧ ∃ ns : List Addr, H18 D3 = some (.lst (ns.map V.ref)) ∧ NtsL H18 ns (stay L (here.take (j + 1)) left) := ⟨s17, ns, n1, by rw [et]; exact n2⟩
                    cases hlk : lookA L E with
                    | none => exact ⟨rfl, _, rfl, ifF rfl fin⟩
                    | some k' =>
                      rw [hlk] at z
                      exact ⟨rfl, _, rfl, ifF (decide_eq_false (fun y => z (by
                        have h2 : V.int (k' : Int) = V.int (left : Int) := y
                        have := V.int.inj h2
                        have h3 : k' = left := by omega
                        rw [h3]))) fin⟩
                · rintro H17 ⟨s17, ns, n1, n2⟩
                  rw [List.length_map, hal.len, List.take_length] at n2
                  refine ⟨left, stay L here left, fs, D3, _, _, _, _, _, _, _, _, _, rfl, ((SameB.of s8c).same sc5).same s17, s17 _ _ hF5, by omega, ⟨ns, n1, n2⟩, ?_, hgr⟩
                  have h1 := List.length_filter_le (fun E => decide (lookA L E = some left)) here
                  unfold stay
                  omega
          · rintro σ H10 ⟨left, here, fs, hr, v9, v10, v11, v12, v13, v14, v15, v16, v17, rfl, sb, hfs, hfl, hhe, hhl, hgr⟩
            rw [nV_length] at hgr
            have eg : GG = fs := by
              rw [hgr, List.drop_length]
              show fs ++ [] = fs
              rw [List.append_nil]
            refine ⟨_, rfl, F, _, rfl, .inl hfs, fun pr H11 s11 hpr => q' pr H11 ?_ (by rw [eg]; exact hpr)⟩
            have : Same H8 H10 := fun b u e => sb b u (hF8 e) e
            exact (s18.trans this).trans s11
      · rcases qe with h | h
        · refine .inl ?_
          have h1 := many_le (t := t) (S := S) (n := log.length) hus log.length (Nat.le_refl _)
          have h2 : 2 ^ (log.length + 1) ≤ 2 ^ 13 := Nat.pow_le_pow_right (by decide) (by omega)
          have h3 : (2 : Nat) ^ 13 = 8192 := by decide
          omega
        · exact .inr fun d H' s' hd => h d H' (s13.trans s') hd
    · refine .inl ⟨hlog, fun p H1 s1 hp => ?_⟩
      refine ⟨_, rfl, _, rfl, _, rfl, _, rfl, _, rfl, _, rfl, _, rfl, m, p, S, t, nV log, cv, rfl, hMa.same s1, .inr hp, .inr ⟨by rw [nV_length]; exact hb.same s1, fun d H2 s2 hd => q d H2 (s1.trans s2) hd⟩⟩
    · exact .inr ⟨i, hb, q⟩
end
end Ag
set_option Elab.async false
set_option linter.all false
set_option maxRecDepth 100000
set_option maxHeartbeats 4000000
namespace Ag
open PySem PySem.Spec PyProof.Rows L2 RZ
theorem sqL_same {K : PySem.W.Frag} {H H' : Hp} {a : Addr} {xs : List V} (h : SqL K H a xs) (s : Same H H') : SqL K H' a xs :=
  h.elim (fun h => .inl (h.elim (fun h => .inl (s _ _ h)) fun ⟨o, h⟩ => .inr ⟨o, s _ _ h⟩)) fun h => .inr h
def boxV (g r : Nat) : List V := [.int (g : Int), .int (r : Int)]
def BoxAt (H : Hp) (b : Addr) : Prop := ∃ g r : Nat, H b = some (.lst (boxV g r)) ∧ r ≤ 4294967296
theorem boxAt_of {H : Hp} {p : Addr} {x y : Int} (h : H p = some (.lst [.int x, .int y])) (hx : 0 ≤ x) (hy : 0 ≤ y) (hz : y ≤ 4294967296) : BoxAt H p := by
  refine ⟨x.toNat, y.toNat, ?_, by omega⟩
  unfold boxV
  rw [Int.toNat_of_nonneg hx, Int.toNat_of_nonneg hy]
  exact h
theorem emod_fine (a : Int) : 0 ≤ a % 2147483563 + 1 ∧ a % 2147483563 + 1 ≤ 4294967296 := by omega
def spBox (K : PySem.W.Frag) : Sp := fun vs H Q _ => ∃ (sc : Addr) (ns : List Int) (k : Nat), vs = [.ref sc, .int (k : Int)] ∧ SqL K H sc (ns.map V.int) ∧ k ≤ 100 ∧ ∀ p H', Same H H' → H p = none → BoxAt H' p → Q (.ref p) H'
/-- all but the box stays -/
def spTake : Sp := fun vs H Q _ => ∃ (b : Addr) (n : Nat), vs = [.ref b, .int (n : Int)] ∧ BoxAt H b ∧ 1 ≤ n ∧ n ≤ 100000 ∧ ∀ (j : Nat) H', j < n → SameB b H H' → BoxAt H' b → Q (.int (j : Int)) H'
def spPick : Sp := fun vs H Q _ => ∃ (b a : Addr) (xs : List V), vs = [.ref b, .ref a] ∧ BoxAt H b ∧ a ≠ b ∧ H a = some (.lst xs) ∧ 1 ≤ xs.length ∧ xs.length ≤ 100000 ∧ ∀ x H', x ∈ xs → SameB b H H' → BoxAt H' b → Q x H'
section
variable {P : Program} {w : World} {K : PySem.W.Frag} {mg : Str → Option Value} {base : Heap} {f : Addr} {fd : FuncData}
abbrev nBox : List Str := ["_law_script", "_law_k", "_law_cell", "_law_great"]
theorem scBox : FnScope nBox ["_law_script", "_law_k"] (defScope sBox) := ⟨rfl, rfl, rfl, by decide +kernel, rfl, by decide +kernel, by decide +kernel⟩
theorem ok_box (T : Txt mg) (F : FnP K "_law_box" sBox f fd) (hm : mg "_law_box" = some (.ref f)) : Cl P w K mg base CX0 1 "_law_box" (spBox K) := by
  refine cal_of (ps := ["_law_script", "_law_k"]) (F.ok scBox (fun vs H Q E h => ?_) (fun cdv A outer s H vs Q E hr h => ⟨_, PSs.nox (pss_cons (ps_set (i := 2) scBox.nd rfl (Or.inl rfl) (pe_op op_add (pe_op op_mul pe_int (pv 1)) pe_int))
       (pss_cons (ps_if (pt_cmpR op_lt (pv 1) (pe_callB (call_len) (by rfl) T.len (by decide +kernel) (pa_cons (pv 0) pa_nil)) (nomark _))
       (pss_one (ps_set (i := 2) scBox.nd rfl (Or.inl rfl) (pe_callB (call_abs) (by rfl) T.abs (by decide +kernel) (pa_cons (pe_callTy (call_int1) (by rfl) T.int (by decide +kernel) (pa_cons (pe_ix ix_seq (pv 0) (pv 1) (fun _ _ => rfl)) pa_nil)) pa_nil))))
       (pss_one (ps_if (pt_cmpR op_gt (pe_callB (call_len) (by rfl) T.len (by decide +kernel) (pa_cons (pv 0) pa_nil)) pe_int (nomark _))
       (pss_one (ps_set (i := 2) scBox.nd rfl (Or.inl rfl) (pe_op op_add (pv 2) (pe_op op_mul (pe_op op_mod (pe_callTy (call_int1) (by rfl) T.int (by decide +kernel) (pa_cons (pe_callB (call_abs) (by rfl) T.abs (by decide +kernel) (pa_cons (pe_callTy (call_int1) (by rfl) T.int (by decide +kernel) (pa_cons (pe_ix ix_seq (pv 0) (pe_op op_mod (pe_callTy (call_int1) (by rfl) T.int (by decide +kernel) (pa_cons (pv 1) pa_nil)) (pe_callB (call_len) (by rfl) T.len (by decide +kernel) (pa_cons (pv 0) pa_nil))) (fun _ _ => rfl)) pa_nil)) pa_nil)) pa_nil)) pe_int) pe_int))))
       pss_nil)))
       (pss_cons (ps_set (i := 3) scBox.nd rfl (Or.inl rfl) (pe_ifExp (pt_cmpR op_ge (pv 2) (pe_op op_pow pe_int pe_int) (nomark _)) (pv 2) pe_int))
       (pss_one (ps_ret (pe_lst (pa_cons (pv 3) (pa_cons (pe_op op_add (pe_op op_mod (pe_callTy (call_int1) (by rfl) T.int (by decide +kernel) (pa_cons (pe_op op_add (pe_op op_mul (pe_op op_mod (pe_callTy (call_int1) (by rfl) T.int (by decide +kernel) (pa_cons (pv 2) pa_nil)) pe_int) pe_int) (pe_op op_mul pe_int (pv 1))) pa_nil)) pe_int) pe_int) pa_nil)))))))), ?_⟩))
    hm F.kp (F.bindsN fun _ _ _ _ _ _ us hl => match us, hl with | [_, _], _ => rfl)
  · obtain ⟨_, _, _, rfl, _⟩ := h
    rfl
  · obtain ⟨sc, ns, k, rfl, hS, hk, q⟩ := h
    have fin : ∀ (c : Int), 0 ≤ c → ∀ (p : Addr), H p = none → ∀ (e : Int), Q (.ref p) (upd H p (.lst [.int c, .int (e % 2147483563 + 1)])) := fun c hc p hp e => q p _ (same_new hp) hp (boxAt_of upd_same hc (emod_fine e).1 (emod_fine e).2)
    have hkb : CMul 5953 (k : Int) := .inl ⟨by decide, by decide⟩
    have hkc : CMul 6857 (k : Int) := .inl ⟨by decide, by decide⟩
    have hge0 : ∀ i : Int, 0 ≤ (if i < 0 then -i else i) := fun i => by split <;> omega
    have hmd : (fun (_ j : Int) => 0 < j) (0 : Int) 2147483563 := by decide
    have hpw : CPow (10 : Int) 18 := ⟨by decide, by decide, by decide⟩
    refine ⟨_, rfl, _, _, rfl, rfl, hkb, _, _, rfl, rfl, ?_⟩
    have hlen : LenV K (.ref sc) H (ns.map V.int).length := .inl ⟨_, hS, rfl⟩
    rw [List.length_map] at hlen
    refine ⟨_, rfl, _, rfl, _, _, rfl, hlen, _, _, rfl, rfl, _, rfl, ite2 (fun c1 => ?_) (fun c1 => ?_)⟩
    · have hkl : k < ns.length := by have := of_decide_eq_true c1; omega
      have hg : (ns.map V.int)[k]? = some (.int ns[k]) := by rw [List.getElem?_map, List.getElem?_eq_getElem hkl]; rfl
      refine ⟨_, rfl, _, rfl, .inl ⟨sc, _, _, _, rfl, rfl, hS, atI_nat hg, .inl ⟨_, rfl, _, rfl, ?_⟩⟩⟩
      have hc := hge0 ns[k]
      generalize (if ns[k] < 0 then -ns[k] else ns[k]) = c at hc
      refine ⟨_, rfl, _, _, rfl, rfl, hpw, _, _, rfl, rfl, _, rfl, ite2 (fun c2 => ⟨_, rfl, ?_⟩) (fun c2 => ?_)⟩
      all_goals refine ⟨_, rfl, _, rfl, .inl ⟨_, rfl, _, _, rfl, rfl, hmd, _, _, rfl, rfl, .inr ⟨by decide, by decide⟩, _, rfl, _, _, rfl, rfl, hkc, _, _, rfl, rfl, .inl ⟨_, rfl, _, _, rfl, rfl, hmd, _, _, rfl, rfl, by show 2 ≤ sizeLine; decide, fun p hp => fin _ ?_ p hp _⟩⟩⟩
      · exact hc
      · decide
    · refine ⟨_, rfl, _, _, rfl, hlen, _, _, rfl, rfl, _, rfl, ite2 (fun c1 => ?_) (fun c1 => ?_)⟩
      · have hn0 : 0 < ns.length := by have := of_decide_eq_true c1; omega
        have hm : k % ns.length < ns.length := Nat.mod_lt _ hn0
        have hg : (ns.map V.int)[k % ns.length]? = some (.int ns[k % ns.length]) := by rw [List.getElem?_map, List.getElem?_eq_getElem hm]; rfl
        refine ⟨_, rfl, _, rfl, _, rfl, .inl ⟨_, rfl, _, rfl, _, _, rfl, hlen, _, _, rfl, rfl, by show (0 : Int) < (ns.length : Int); omega, .inl ⟨sc, _, _, _, rfl, rfl, hS, by rw [← Int.natCast_emod]; exact atI_nat hg, .inl ⟨_, rfl, _, rfl, .inl ⟨_, rfl, _, _, rfl, rfl, hmd, _, _, rfl, rfl, .inr ⟨by decide, by decide⟩, _, _, rfl, rfl, ?_⟩⟩⟩⟩⟩
        have hc0 := hge0 ns[k % ns.length]
        generalize (if ns[k % ns.length] < 0 then -ns[k % ns.length] else ns[k % ns.length]) = c0 at hc0
        have hc : 0 ≤ 5953 * (k : Int) + 673 + c0 % 2147483563 * 41201 := by omega
        refine ⟨_, rfl, _, _, rfl, rfl, hpw, _, _, rfl, rfl, _, rfl, ite2 (fun c2 => ⟨_, rfl, ?_⟩) (fun c2 => ?_)⟩
        all_goals refine ⟨_, rfl, _, rfl, .inl ⟨_, rfl, _, _, rfl, rfl, hmd, _, _, rfl, rfl, .inr ⟨by decide, by decide⟩, _, rfl, _, _, rfl, rfl, hkc, _, _, rfl, rfl, .inl ⟨_, rfl, _, _, rfl, rfl, hmd, _, _, rfl, rfl, by show 2 ≤ sizeLine; decide, fun p hp => fin _ ?_ p hp _⟩⟩⟩
        · exact hc
        · decide
      · have hc : 0 ≤ 5953 * (k : Int) + 673 := by omega
        refine ⟨_, rfl, _, _, rfl, rfl, hpw, _, _, rfl, rfl, _, rfl, ite2 (fun c2 => ⟨_, rfl, ?_⟩) (fun c2 => ?_)⟩
        all_goals refine ⟨_, rfl, _, rfl, .inl ⟨_, rfl, _, _, rfl, rfl, hmd, _, _, rfl, rfl, .inr ⟨by decide, by decide⟩, _, rfl, _, _, rfl, rfl, hkc, _, _, rfl, rfl, .inl ⟨_, rfl, _, _, rfl, rfl, hmd, _, _, rfl, rfl, by show 2 ≤ sizeLine; decide, fun p hp => fin _ ?_ p hp _⟩⟩⟩
        · exact hc
        · decide
abbrev nTake : List Str := ["_law_box_here", "_law_many", "_law_digit", "_law_raw"]
theorem scTake : FnScope nTake ["_law_box_here", "_law_many"] (defScope sTake) := ⟨rfl, rfl, rfl, by decide +kernel, rfl, by decide +kernel, by decide +kernel⟩
theorem ok_take (T : Txt mg) (F : FnP K "_law_take" sTake f fd) (hm : mg "_law_take" = some (.ref f)) : Cl P w K mg base CX0 1 "_law_take" spTake := by
  refine cal_of (ps := ["_law_box_here", "_law_many"]) (F.ok scTake (fun vs H Q E h => ?_) (fun cdv A outer s H vs Q E hr h => ⟨_, PSs.nox (pss_cons (ps_if (pt_cmpR op_gt (pe_ix ix_seq (pv 0) pe_int (fun _ _ => rfl)) pe_int (nomark _))
       (pss_cons (ps_set (i := 2) scTake.nd rfl (Or.inl rfl) (pe_op op_mod (pe_callTy (call_int1) (by rfl) T.int (by decide +kernel) (pa_cons (pe_ix ix_seq (pv 0) pe_int (fun _ _ => rfl)) pa_nil)) (pv 1)))
       (pss_cons (ps_asg (pe_op op_fdiv (pe_ix ix_seq (pv 0) pe_int (fun _ _ => rfl)) (pv 1)) (pg_sub (pv 0) pe_int set_list))
       (pss_one (ps_ret (pv 2)))))
       pss_nil)
       (pss_cons (ps_set (i := 3) scTake.nd rfl (Or.inl rfl) (pe_op op_mod (pe_callTy (call_int1) (by rfl) T.int (by decide +kernel) (pa_cons (pe_op op_add (pe_op op_mul (pe_ix ix_seq (pv 0) pe_int (fun _ _ => rfl)) pe_int) pe_int) pa_nil)) pe_int))
       (pss_cons (ps_asg (pe_op op_add (pe_op op_mod (pe_callTy (call_int1) (by rfl) T.int (by decide +kernel) (pa_cons (pe_op op_add (pe_op op_mul (pv 3) pe_int) pe_int) pa_nil)) pe_int) pe_int) (pg_sub (pv 0) pe_int set_list))
       (pss_one (ps_ret (pe_op op_mod (pe_callTy (call_int1) (by rfl) T.int (by decide +kernel) (pa_cons (pe_op op_fdiv (pe_op op_add (pe_op op_mul (pv 3) pe_int) (pe_ix ix_seq (pv 0) pe_int (fun _ _ => rfl))) pe_int) pa_nil)) (pv 1))))))), ?_⟩))
    hm F.kp (F.bindsN fun _ _ _ _ _ _ us hl => match us, hl with | [_, _], _ => rfl)
  · obtain ⟨_, _, rfl, _⟩ := h
    rfl
  · obtain ⟨b, n, rfl, ⟨g, r, hB, hr'⟩, h1, h2, q⟩ := h
    have sbp : ∀ o, SameB b H (upd H b o) := fun o => SameB.refl.put
    have hrr : ((r : Nat) : Int) ≤ 4294967296 := by omega
    have g0 : (boxV g r)[0]? = some (.int (g : Int)) := rfl
    have g1 : (boxV g r)[1]? = some (.int (r : Int)) := rfl
    have hn0 : (0 : Int) < (n : Int) := by omega
    have fin : ∀ (e : Int) (o : HO), BoxAt (upd H b o) b → Q (.int (e % (n : Int))) (upd H b o) := fun e o hb => by
      have h3 := Int.emod_nonneg e (show (n : Int) ≠ 0 by omega)
      have h4 := Int.emod_lt_of_pos e hn0
      have e1 : e % (n : Int) = (((e % (n : Int)).toNat : Nat) : Int) := by omega
      rw [e1]
      exact q _ _ (by omega) (sbp o) hb
    refine ⟨_, rfl, ix_sq (j := 0) (.inl hB) g0 rfl ⟨_, _, rfl, rfl, _, rfl, ite2 (fun c1 => ?_) (fun c1 => ?_)⟩⟩
    · refine ⟨_, rfl, ix_sq (j := 0) (.inl hB) g0 rfl (.inl ⟨_, rfl, _, rfl, _, _, rfl, rfl, hn0, ?_⟩)⟩
      refine ⟨_, rfl, ix_sq (j := 0) (.inl hB) g0 rfl ⟨_, rfl, _, _, rfl, rfl, ⟨hn0, by omega⟩, _, rfl, ?_⟩⟩
      refine ⟨b, _, _, 0, rfl, rfl, hB, rfl, _, rfl, fin _ _ (boxAt_of upd_same (Int.ediv_nonneg (by omega) (by omega)) (by omega) hrr)⟩
    · refine ⟨_, rfl, ix_sq (j := 1) (.inl hB) g1 rfl ⟨_, _, rfl, rfl, .inr ⟨by decide, by decide⟩, _, _, rfl, rfl, .inl ⟨_, rfl, _, _, rfl, rfl, by show (0 : Int) < 2147483647; decide, ?_⟩⟩⟩
      refine ⟨_, rfl, _, _, rfl, rfl, .inr ⟨by decide, by decide⟩, _, _, rfl, rfl, .inl ⟨_, rfl, _, _, rfl, rfl, by show (0 : Int) < 2147483399; decide, _, _, rfl, rfl, ?_⟩⟩
      refine ⟨_, rfl, b, _, _, 1, rfl, rfl, hB, rfl, ?_⟩
      refine ⟨_, rfl, _, _, rfl, rfl, .inr ⟨by decide, by decide⟩, _, rfl, ix_sq (j := 1) (.inl upd_same) rfl rfl ⟨_, _, rfl, rfl, _, _, rfl, rfl, ⟨by decide, by decide⟩, .inl ⟨_, rfl, _, rfl, _, _, rfl, rfl, hn0, fin _ _ (boxAt_of upd_same (by omega) ?_ ?_)⟩⟩⟩
      all_goals omega
abbrev nPick : List Str := ["_law_box_here", "_law_some"]
theorem scPick : FnScope nPick ["_law_box_here", "_law_some"] (defScope sPick) := ⟨rfl, rfl, rfl, by decide +kernel, rfl, by decide +kernel, by decide +kernel⟩
theorem ok_pick (T : Txt mg) (C_law_take : Cl P w K mg base CX0 1 "_law_take" spTake) (F : FnP K "_law_pick" sPick f fd) (hm : mg "_law_pick" = some (.ref f)) : Cl P w K mg base CX0 2 "_law_pick" spPick := by
  refine cal_of (ps := ["_law_box_here", "_law_some"]) (F.ok scPick (fun vs H Q E h => ?_) (fun cdv A outer s H vs Q E hr h => ⟨_, PSs.nox (pss_one (ps_ret (pe_ix ix_seq (pv 1) (pe_cl C_law_take hr (by decide) rfl (pa_cons (pv 0) (pa_cons (pe_callB (call_len) (by rfl) T.len (by decide +kernel) (pa_cons (pv 1) pa_nil)) pa_nil))) (fun _ _ => rfl)))), ?_⟩))
    hm F.kp (F.bindsN fun _ _ _ _ _ _ us hl => match us, hl with | [_, _], _ => rfl)
  · obtain ⟨_, _, _, rfl, _⟩ := h
    rfl
  · obtain ⟨b, a, xs, rfl, hB, hab, hA, h1, h2, q⟩ := h
    refine ⟨_, rfl, _, rfl, _, rfl, _, _, rfl, .inl ⟨_, .of hA, rfl⟩, b, xs.length, rfl, hB, h1, h2, fun j H' hj sb hB' => ?_⟩
    exact ix_sq (j := j) (.inl (sb _ _ hab hA)) (List.getElem?_eq_getElem hj) rfl (q _ H' (List.getElem_mem hj) sb hB')
end
end Ag
set_option Elab.async false
set_option linter.all false
set_option maxRecDepth 100000
set_option maxHeartbeats 4000000
namespace Ag
open PySem PySem.Spec PyProof.Rows L2 RZ
/-- a row that is being made: D the list -/
def RowInv (b D : Addr) (H1 : Hp) (S s : Nat) (H' : Hp) : Prop := SameB b H1 H' ∧ BoxAt H' b ∧ ∃ xs : List Nat, H' D = some (.lst (nV xs)) ∧ xs.length = s ∧ ∀ x ∈ xs, x < S
theorem RowInv.push {b D : Addr} {H1 H2 H3 : Hp} {S s x : Nat} {y : V} (h : RowInv b D H1 S s H2) (s3 : SameB b H2 H3) (bx : BoxAt H3 b) (nb : D ≠ b) (hD : H1 D = none) (hx : x < S) (hy : y = .int (x : Int)) (hs : s ≤ 1000) :
    ∃ acc, H3 D = some (.lst acc) ∧ acc.length < sizeLine ∧ RowInv b D H1 S (s + 1) (upd H3 D (.lst (acc ++ [y]))) := by
  obtain ⟨a1, a2, xs, a3, a4, a5⟩ := h
  subst hy
  refine ⟨_, s3 _ _ nb a3, by rw [nV_length]; exact wl _ (by omega), fun c u hc e => ?_, ?_, xs ++ [x], ?_, by simp [a4], fun z hz => ?_⟩
  · rw [upd_ne (ne_of_none e hD)]
    exact s3 c u hc (a1 c u hc e)
  · obtain ⟨g, r, e, hr⟩ := bx
    exact ⟨g, r, by rw [upd_ne (Ne.symm nb)]; exact e, hr⟩
  · rw [upd_same]
    unfold nV
    rw [List.map_append]
    rfl
  · rcases List.mem_append.mp hz with hz | hz
    · exact a5 z hz
    · rw [List.mem_singleton.mp hz]; exact hx
/-- the rows that were made: F their list -/
def TbInv (b F : Addr) (H : Hp) (S i : Nat) (H' : Hp) : Prop := SameB b H H' ∧ BoxAt H' b ∧ ∃ (fs : List Addr) (t : List (List Nat)), H' F = some (.lst (fs.map V.ref)) ∧ fs.length = i ∧ NtsL H' fs t ∧ ∀ E ∈ t, E.length = S ∧ ∀ x ∈ E, x < S
theorem TbInv.push {b F W : Addr} {H H1 H2 : Hp} {S i : Nat} {E : List Nat} (h : TbInv b F H S i H1) (s2 : SameB b H1 H2) (bx : BoxAt H2 b) (nb : F ≠ b) (hF : H F = none) (hW : H2 W = some (.tup (nV E))) (hE : E.length = S ∧ ∀ x ∈ E, x < S) (hi : i ≤ 1000) :
    ∃ ys, H2 F = some (.lst ys) ∧ ys.length < sizeLine ∧ TbInv b F H S (i + 1) (upd H2 F (.lst (ys ++ [.ref W]))) := by
  obtain ⟨a1, a2, fs, t, a3, a4, a5, a6⟩ := h
  have hb1 : ∀ (c : Addr) (xs : List V), H1 c = some (.tup xs) → H2 c = some (.tup xs) := fun c xs e => s2 c _ (fun z => by
    obtain ⟨g, r, e2, _⟩ := a2
    rw [z, e2] at e
    exact nomatch Option.some.inj e) e
  have a3' := s2 _ _ nb a3
  refine ⟨_, a3', by rw [List.length_map]; exact wl _ (by omega), fun c u hc e => ?_, ?_, fs ++ [W], t ++ [E], by rw [upd_same, List.map_append]; rfl, by simp [a4], ((a5.tups hb1).push hW).tups (tup_updL a3'), fun G hG => ?_⟩
  · rw [upd_ne (ne_of_none e hF)]
    exact s2 c u hc (a1 c u hc e)
  · obtain ⟨g, r, e, hr⟩ := bx
    exact ⟨g, r, by rw [upd_ne (Ne.symm nb)]; exact e, hr⟩
  · rcases List.mem_append.mp hG with hG | hG
    · exact a6 G hG
    · rw [List.mem_singleton.mp hG]; exact hE
theorem BoxAt.same {H H' : Hp} {b : Addr} (h : BoxAt H b) (s : Same H H') : BoxAt H' b := let ⟨g, r, e, hr⟩ := h; ⟨g, r, s _ _ e, hr⟩
theorem BoxAt.some {H : Hp} {b : Addr} (h : BoxAt H b) : ∃ u, H b = some u := let ⟨_, _, e, _⟩ := h; ⟨_, e⟩
theorem box_ne {H : Hp} {b D : Addr} (h : BoxAt H b) (hD : H D = none) : D ≠ b := fun z => by
  obtain ⟨u, e⟩ := h.some
  rw [← z, hD] at e
  cases e
def spTables : Sp := fun vs H Q _ => ∃ (b : Addr), vs = [.ref b] ∧ BoxAt H b ∧ ∀ p t S H', SameB b H H' → BoxAt H' b → H p = none → TabAt H' p t → TabsOk t S → Q (.ref p) H'
section
variable {P : Program} {w : World} {K : PySem.W.Frag} {mg : Str → Option Value} {base : Heap} {f : Addr} {fd : FuncData}
abbrev nTables : List Str := ["_law_box_here", "_law_many", "_law_found", "_law_deed", "_law_style", "_law_by", "_law_other", "_law_s"]
theorem scTables : FnScope nTables ["_law_box_here"] (defScope sTables) := ⟨rfl, rfl, rfl, by decide +kernel, rfl, by decide +kernel, by decide +kernel⟩
theorem ok_tables (T : Txt mg) (C_law_take : Cl P w K mg base CX0 1 "_law_take" spTake) (C_law_pick : Cl P w K mg base CX0 2 "_law_pick" spPick) (F : FnP K "_law_tables" sTables f fd) (hm : mg "_law_tables" = some (.ref f)) : Cl P w K mg base CX0 3 "_law_tables" spTables := by
  refine cal_of (ps := ["_law_box_here"]) (F.ok scTables (fun vs H Q E h => ?_) (fun cdv A outer s H vs Q E hr h => ⟨_, PSs.nox (pss_cons (ps_asg (pe_tup (pa_cons (pe_cl C_law_pick hr (by decide) rfl (pa_cons (pv 0) (pa_cons (pe_lst (pa_cons pe_int (pa_cons pe_int (pa_cons pe_int (pa_cons pe_int (pa_cons pe_int (pa_cons pe_int pa_nil))))))) pa_nil))) (pa_cons (pe_lst pa_nil) pa_nil))) (pg_tup rfl (pgs_cons (pg_name (i := 1) scTables.nd rfl (Or.inr rfl)) (pgs_cons (pg_name (i := 2) scTables.nd rfl (Or.inl rfl)) pgs_nil))))
       (pss_cons (ps_for PassesOwn.never rfl (pi_range1 rfl T.range (pa_cons (pe_cl C_law_pick hr (by decide) rfl (pa_cons (pv 0) (pa_cons (pe_lst (pa_cons pe_int (pa_cons pe_int (pa_cons pe_int (pa_cons pe_int pa_nil))))) pa_nil))) pa_nil)) (pg_name (i := 3) scTables.nd rfl (Or.inl rfl))
       (pss_cons (ps_asg (pe_tup (pa_cons (pe_cl C_law_take hr (by decide) rfl (pa_cons (pv 0) (pa_cons pe_int pa_nil))) (pa_cons (pe_cl C_law_take hr (by decide) rfl (pa_cons (pv 0) (pa_cons (pv 1) pa_nil))) pa_nil))) (pg_tup rfl (pgs_cons (pg_name (i := 4) scTables.nd rfl (Or.inl rfl)) (pgs_cons (pg_name (i := 5) scTables.nd rfl (Or.inr rfl)) pgs_nil))))
       (pss_one (ps_if (pt_cmpR op_eq (pv 4) pe_int (nomark _))
       (pss_one (ps_expr (pe_bm PySem.F.plainAttrs_list PySem.F.slot_list_append PySem.F.type_list_append mt_append (pv 2) (pa_cons (pe_callTy (call_tupleSq) (by rfl) T.tuple (by decide +kernel) (pa_cons (pe_lc (own := [("_law_s", 7)]) (g := (gName 7)) rfl scTables.nd (pi_range1 rfl T.range (pa_cons (pv 1) pa_nil)) (blkOk_by (own := [("_law_s", 7)]) (N := nTables) (sc := defScope sTables) (by decide +kernel)) (fun _ _ _ _ _ => (pg_name (i := 7) scTables.nd rfl (Or.inl rfl))) (fun _ _ _ _ _ => pts_nil) (fun _ _ _ _ _ => (pe_op op_mod (pe_callTy (call_int1) (by rfl) T.int (by decide +kernel) (pa_cons (pe_op op_add (pe_op op_add (pv 7) pe_int) (pv 5)) pa_nil)) (pv 1)))) pa_nil)) pa_nil))))
       (pss_one (ps_if (pt_cmpR op_eq (pv 4) pe_int (nomark _))
       (pss_one (ps_expr (pe_bm PySem.F.plainAttrs_list PySem.F.slot_list_append PySem.F.type_list_append mt_append (pv 2) (pa_cons (pe_callTy (call_tupleSq) (by rfl) T.tuple (by decide +kernel) (pa_cons (pe_lc (own := [("_law_s", 7)]) (g := (gName 7)) rfl scTables.nd (pi_range1 rfl T.range (pa_cons (pv 1) pa_nil)) (blkOk_by (own := [("_law_s", 7)]) (N := nTables) (sc := defScope sTables) (by decide +kernel)) (fun _ _ _ _ _ => (pg_name (i := 7) scTables.nd rfl (Or.inl rfl))) (fun _ _ _ _ _ => pts_nil) (fun _ _ _ _ _ => (pe_callB (call_min2 rfl) (by rfl) T.min (by decide +kernel) (pa_cons (pe_op op_sub (pv 1) pe_int) (pa_cons (pe_op op_add (pv 7) pe_int) pa_nil))))) pa_nil)) pa_nil))))
       (pss_one (ps_if (pt_cmpR op_eq (pv 4) pe_int (nomark _))
       (pss_one (ps_expr (pe_bm PySem.F.plainAttrs_list PySem.F.slot_list_append PySem.F.type_list_append mt_append (pv 2) (pa_cons (pe_callTy (call_tupleSq) (by rfl) T.tuple (by decide +kernel) (pa_cons (pe_lc (own := [("_law_s", 7)]) (g := (gName 7)) rfl scTables.nd (pi_range1 rfl T.range (pa_cons (pv 1) pa_nil)) (blkOk_by (own := [("_law_s", 7)]) (N := nTables) (sc := defScope sTables) (by decide +kernel)) (fun _ _ _ _ _ => (pg_name (i := 7) scTables.nd rfl (Or.inl rfl))) (fun _ _ _ _ _ => pts_nil) (fun _ _ _ _ _ => (pv 5))) pa_nil)) pa_nil))))
       (pss_one (ps_if (pt_cmpR op_eq (pv 4) pe_int (nomark _))
       (pss_cons (ps_set (i := 6) scTables.nd rfl (Or.inr rfl) (pe_cl C_law_take hr (by decide) rfl (pa_cons (pv 0) (pa_cons (pv 1) pa_nil))))
       (pss_one (ps_expr (pe_bm PySem.F.plainAttrs_list PySem.F.slot_list_append PySem.F.type_list_append mt_append (pv 2) (pa_cons (pe_callTy (call_tupleSq) (by rfl) T.tuple (by decide +kernel) (pa_cons (pe_lc (own := [("_law_s", 7)]) (g := (gName 7)) rfl scTables.nd (pi_range1 rfl T.range (pa_cons (pv 1) pa_nil)) (blkOk_by (own := [("_law_s", 7)]) (N := nTables) (sc := defScope sTables) (by decide +kernel)) (fun _ _ _ _ _ => (pg_name (i := 7) scTables.nd rfl (Or.inl rfl))) (fun _ _ _ _ _ => pts_nil) (fun _ _ _ _ _ => (pe_ifExp (pt_cmpR op_eq (pv 7) (pv 5) (nomark _)) (pv 6) (pe_ifExp (pt_cmpR op_eq (pv 7) (pv 6) (nomark _)) (pv 5) (pv 7))))) pa_nil)) pa_nil)))))
       (pss_one (ps_expr (pe_bm PySem.F.plainAttrs_list PySem.F.slot_list_append PySem.F.type_list_append mt_append (pv 2) (pa_cons (pe_callTy (call_tupleSq) (by rfl) T.tuple (by decide +kernel) (pa_cons (pe_lc (own := [("_law_s", 7)]) (g := (gName 7)) rfl scTables.nd (pi_range1 rfl T.range (pa_cons (pv 1) pa_nil)) (blkOk_by (own := [("_law_s", 7)]) (N := nTables) (sc := defScope sTables) (by decide +kernel)) (fun _ _ _ _ _ => (pg_name (i := 7) scTables.nd rfl (Or.inl rfl))) (fun _ _ _ _ _ => pts_nil) (fun _ _ _ _ _ => (pe_cl C_law_take hr (by decide) rfl (pa_cons (pv 0) (pa_cons (pv 1) pa_nil))))) pa_nil)) pa_nil))))))))))))))
       (pss_one (ps_ret (pv 2))))), ?_⟩))
    hm F.kp (F.bindsN fun _ _ _ _ _ _ us hl => match us, hl with | [_], _ => rfl)
  · obtain ⟨_, rfl, _⟩ := h
    rfl
  · obtain ⟨b, rfl, hB, q⟩ := h
    refine ⟨_, rfl, by show 6 ≤ sizeLine; decide, fun a ha => ⟨b, a, _, rfl, hB.same (same_new ha), box_ne hB ha, upd_same, by decide, by decide, fun x H1 hx s1 b1 => ?_⟩⟩
    obtain ⟨S, rfl, hS1, hS5⟩ : ∃ S : Nat, x = .int (S : Int) ∧ 1 ≤ S ∧ S ≤ 5 := by
      rcases List.mem_cons.mp hx with e | hx
      · exact ⟨3, e, by decide, by decide⟩
      rcases List.mem_cons.mp hx with e | hx
      · exact ⟨2, e, by decide, by decide⟩
      rcases List.mem_cons.mp hx with e | hx
      · exact ⟨4, e, by decide, by decide⟩
      rcases List.mem_cons.mp hx with e | hx
      · exact ⟨3, e, by decide, by decide⟩
      rcases List.mem_cons.mp hx with e | hx
      · exact ⟨5, e, by decide, by decide⟩
      rcases List.mem_cons.mp hx with e | hx
      · exact ⟨1, e, by decide, by decide⟩
      · cases hx
    have s01 : SameB b H H1 := (SameB.of (same_new ha)).trans s1
    refine ⟨by show 0 ≤ sizeLine; decide, fun F hF => ⟨by show 2 ≤ sizeLine; decide, fun T0 hT0 => ⟨T0, _, rfl, .of upd_same, rfl, _, _, rfl, _, _, rfl, rfl, ?_⟩⟩⟩
    have nF := box_ne b1 hF
    have hFn : H F = none := by
      cases e : H F with
      | none => rfl
      | some u => rw [s01 F u nF e] at hF; cases hF
    have s02 : SameB b H (upd (upd H1 F (.lst [])) T0 (.tup [.int (S : Int), .ref F])) := s01.same (sm_new (same_new hF) hT0)
    have b2 : BoxAt (upd (upd H1 F (.lst [])) T0 (.tup [.int (S : Int), .ref F])) b := b1.same (sm_new (same_new hF) hT0)
    have f2 : (upd (upd H1 F (.lst [])) T0 (.tup [.int (S : Int), .ref F])) F = some (.lst (([] : List Addr).map V.ref)) := upd_keep hT0 upd_same
    generalize upd (upd H1 F (.lst [])) T0 (.tup [.int (S : Int), .ref F]) = H2 at s02 b2 f2
    refine ⟨_, rfl, by show 4 ≤ sizeLine; decide, fun a2 ha2 => ⟨b, a2, _, rfl, b2.same (same_new ha2), box_ne b2 ha2, upd_same, by decide, by decide, fun x H3 hx s3 b3 => ?_⟩⟩
    obtain ⟨d, rfl, hd1, hd5⟩ : ∃ d : Nat, x = .int (d : Int) ∧ 1 ≤ d ∧ d ≤ 3 := by
      rcases List.mem_cons.mp hx with e | hx
      · exact ⟨2, e, by decide, by decide⟩
      rcases List.mem_cons.mp hx with e | hx
      · exact ⟨2, e, by decide, by decide⟩
      rcases List.mem_cons.mp hx with e | hx
      · exact ⟨1, e, by decide, by decide⟩
      rcases List.mem_cons.mp hx with e | hx
      · exact ⟨3, e, by decide, by decide⟩
      · cases hx
    have s23 : SameB b H2 H3 := (SameB.of (same_new ha2)).trans s3
    have t3 : TbInv b F H S 0 H3 := ⟨s02.trans s23, b3, [], [], s23 _ _ nF f2, rfl, .nil, fun E hE => absurd hE List.not_mem_nil⟩
    have eS : ((S : Int)).toNat = S := by omega
    have eD : ((d : Int)).toNat = d := by omega
    refine ⟨_, rfl, by omega, by omega, for_it walk_range (fun i σ H' => (∃ v3 v4 v5 v6 v7, σ = [some (.ref b), some (.int (S : Int)), some (.ref F), v3, v4, v5, v6, v7]) ∧ TbInv b F H S i H') ⟨⟨none, none, none, none, none, rfl⟩, t3⟩ (fun _ _ _ _ _ => trivial) ?_ ?_⟩
    · rintro i x σ H4 H5 hi ⟨⟨v3, v4, v5, v6, v7, rfl⟩, hti⟩ ⟨rfl, rfl⟩
      obtain ⟨_, hb4, fs0, t0, hF4, _⟩ := id hti
      refine ⟨_, rfl, b, 6, rfl, hb4, by decide, by decide, fun sty H6 hsty s6 b6 => ⟨_, rfl, _, rfl, b, S, rfl, b6, by omega, by omega, fun by_ H7 hby s7 b7 => ⟨by show 2 ≤ sizeLine; decide, fun T1 hT1 => ⟨T1, _, rfl, .of upd_same, rfl, _, _, rfl, _, _, rfl, rfl, ?_⟩⟩⟩⟩
      have scc : SameB b H5 (upd H7 T1 (.tup [.int (sty : Int), .int (by_ : Int)])) := (s6.trans s7).same (same_new hT1)
      have hbc : BoxAt (upd H7 T1 (.tup [.int (sty : Int), .int (by_ : Int)])) b := b7.same (same_new hT1)
      generalize upd H7 T1 (.tup [.int (sty : Int), .int (by_ : Int)]) = Hc at scc hbc
      have hFc := scc _ _ nF hF4
      refine ⟨_, rfl, rfl, _, rfl, ite2 (fun c => ?_) (fun c => ⟨_, rfl, rfl, _, rfl, ite2 (fun c => ?_) (fun c => ⟨_, rfl, rfl, _, rfl, ite2 (fun c => ?_) (fun c => ⟨_, rfl, rfl, _, rfl, ite2 (fun c => ?_) (fun c => ?_)⟩)⟩)⟩)⟩
      · refine ⟨_, rfl, .inl ⟨rfl, _, .of hFc⟩, _, rfl, _, rfl, by omega, by omega, fun D hD => lc_it walk_range (fun s H' => RowInv b D Hc S s H') ⟨.of (same_new hD), hbc.same (same_new hD), [], upd_same, rfl, fun x hx => absurd hx List.not_mem_nil⟩ (fun _ _ _ _ => trivial) ?_ ?_⟩
        · rintro s x H7 H8 hs hri ⟨rfl, rfl⟩
          have nb := box_ne hbc hD
          have hsS : s < S := by omega
          refine ⟨rfl, _, rfl, _, _, rfl, rfl, _, rfl, _, _, rfl, rfl, .inl ⟨_, rfl, _, rfl, _, _, rfl, rfl, by show (0 : Int) < (S : Int); omega, hri.push (x := (s + 1 + by_) % S) SameB.refl hri.2.1 nb hD (Nat.mod_lt _ (by omega)) ?_ (by omega)⟩⟩
          show V.int ((0 + (s : Int) + 1 + (by_ : Int)) % (S : Int)) = V.int (((s + 1 + by_) % S : Nat) : Int)
          rw [Int.natCast_emod]
          congr 2
          omega
        · rintro H7 hri
          rw [eS] at hri
          obtain ⟨r1, r2, xs, r3, r4, r5⟩ := hri
          refine ⟨D, _, rfl, .inl r3, fun W H8 s8 hW => ?_⟩
          obtain ⟨ys, y1, y2, y3⟩ := hti.push ((scc.trans r1).same s8) (r2.same s8) nF hFn hW ⟨r4, r5⟩ (by omega)
          exact ⟨F, ys, .ref W, rfl, rfl, y1, y2, ⟨_, _, _, _, _, rfl⟩, y3⟩
      · refine ⟨_, rfl, .inl ⟨rfl, _, .of hFc⟩, _, rfl, _, rfl, by omega, by omega, fun D hD => lc_it walk_range (fun s H' => RowInv b D Hc S s H') ⟨.of (same_new hD), hbc.same (same_new hD), [], upd_same, rfl, fun x hx => absurd hx List.not_mem_nil⟩ (fun _ _ _ _ => trivial) ?_ ?_⟩
        · rintro s x H7 H8 hs hri ⟨rfl, rfl⟩
          have nb := box_ne hbc hD
          have hsS : s < S := by omega
          refine ⟨rfl, _, rfl, _, _, rfl, rfl, _, rfl, _, _, rfl, rfl, _, _, rfl, hri.push (x := if s + 1 < S - 1 then s + 1 else S - 1) SameB.refl hri.2.1 nb hD (by split <;> omega) ?_ (by omega)⟩
          by_cases z : s + 1 < S - 1
          · rw [if_pos z, if_pos (by omega)]
            congr 1
            omega
          · rw [if_neg z, if_neg (by omega)]
            congr 1
            omega
        · rintro H7 hri
          rw [eS] at hri
          obtain ⟨r1, r2, xs, r3, r4, r5⟩ := hri
          refine ⟨D, _, rfl, .inl r3, fun W H8 s8 hW => ?_⟩
          obtain ⟨ys, y1, y2, y3⟩ := hti.push ((scc.trans r1).same s8) (r2.same s8) nF hFn hW ⟨r4, r5⟩ (by omega)
          exact ⟨F, ys, .ref W, rfl, rfl, y1, y2, ⟨_, _, _, _, _, rfl⟩, y3⟩
      · refine ⟨_, rfl, .inl ⟨rfl, _, .of hFc⟩, _, rfl, _, rfl, by omega, by omega, fun D hD => lc_it walk_range (fun s H' => RowInv b D Hc S s H') ⟨.of (same_new hD), hbc.same (same_new hD), [], upd_same, rfl, fun x hx => absurd hx List.not_mem_nil⟩ (fun _ _ _ _ => trivial) ?_ ?_⟩
        · rintro s x H7 H8 hs hri ⟨rfl, rfl⟩
          have nb := box_ne hbc hD
          have hsS : s < S := by omega
          exact ⟨rfl, _, rfl, hri.push SameB.refl hri.2.1 nb hD hby rfl (by omega)⟩
        · rintro H7 hri
          rw [eS] at hri
          obtain ⟨r1, r2, xs, r3, r4, r5⟩ := hri
          refine ⟨D, _, rfl, .inl r3, fun W H8 s8 hW => ?_⟩
          obtain ⟨ys, y1, y2, y3⟩ := hti.push ((scc.trans r1).same s8) (r2.same s8) nF hFn hW ⟨r4, r5⟩ (by omega)
          exact ⟨F, ys, .ref W, rfl, rfl, y1, y2, ⟨_, _, _, _, _, rfl⟩, y3⟩
      · refine ⟨_, rfl, _, rfl, b, S, rfl, hbc, by omega, by omega, fun ot Hd hot sd bd => ?_⟩
        have scc := scc.trans sd
        have hbc := bd
        have hFc := scc _ _ nF hF4
        refine ⟨_, rfl, .inl ⟨rfl, _, .of hFc⟩, _, rfl, _, rfl, by omega, by omega, fun D hD => lc_it walk_range (fun s H' => RowInv b D Hd S s H') ⟨.of (same_new hD), hbc.same (same_new hD), [], upd_same, rfl, fun x hx => absurd hx List.not_mem_nil⟩ (fun _ _ _ _ => trivial) ?_ ?_⟩
        · rintro s x H7 H8 hs hri ⟨rfl, rfl⟩
          have nb := box_ne hbc hD
          have hsS : s < S := by omega
          refine ⟨rfl, _, rfl, _, rfl, rfl, _, rfl, ite2 (fun _ => ⟨_, rfl, hri.push SameB.refl hri.2.1 nb hD hot rfl (by omega)⟩) (fun _ => ⟨_, rfl, _, rfl, rfl, _, rfl, ite2 (fun _ => ⟨_, rfl, hri.push SameB.refl hri.2.1 nb hD hby rfl (by omega)⟩) (fun _ => ⟨_, rfl, hri.push (x := s) SameB.refl hri.2.1 nb hD hsS (by show V.int (0 + (s : Int)) = V.int (s : Int); rw [Int.zero_add]) (by omega)⟩)⟩)⟩
        · rintro H7 hri
          rw [eS] at hri
          obtain ⟨r1, r2, xs, r3, r4, r5⟩ := hri
          refine ⟨D, _, rfl, .inl r3, fun W H8 s8 hW => ?_⟩
          obtain ⟨ys, y1, y2, y3⟩ := hti.push ((scc.trans r1).same s8) (r2.same s8) nF hFn hW ⟨r4, r5⟩ (by omega)
          exact ⟨F, ys, .ref W, rfl, rfl, y1, y2, ⟨_, _, _, _, _, rfl⟩, y3⟩
      · refine ⟨_, rfl, .inl ⟨rfl, _, .of hFc⟩, _, rfl, _, rfl, by omega, by omega, fun D hD => lc_it walk_range (fun s H' => RowInv b D Hc S s H') ⟨.of (same_new hD), hbc.same (same_new hD), [], upd_same, rfl, fun x hx => absurd hx List.not_mem_nil⟩ (fun _ _ _ _ => trivial) ?_ ?_⟩
        · rintro s x H7 H8 hs hri ⟨rfl, rfl⟩
          have nb := box_ne hbc hD
          have hsS : s < S := by omega
          exact ⟨rfl, _, rfl, _, rfl, b, S, rfl, hri.2.1, by omega, by omega, fun j H9 hj s9 b9 => hri.push s9 b9 nb hD hj rfl (by omega)⟩
        · rintro H7 hri
          rw [eS] at hri
          obtain ⟨r1, r2, xs, r3, r4, r5⟩ := hri
          refine ⟨D, _, rfl, .inl r3, fun W H8 s8 hW => ?_⟩
          obtain ⟨ys, y1, y2, y3⟩ := hti.push ((scc.trans r1).same s8) (r2.same s8) nF hFn hW ⟨r4, r5⟩ (by omega)
          exact ⟨F, ys, .ref W, rfl, rfl, y1, y2, ⟨_, _, _, _, _, rfl⟩, y3⟩
    · rintro σ H4 ⟨⟨v3, v4, v5, v6, v7, rfl⟩, t1, t2, fs, t, t3, t4, t5, t6⟩
      rw [eD] at t4
      refine ⟨_, rfl, q F t S H4 t1 t2 hFn ⟨fs, .inl t3, t5.len, fun i p e => ?_⟩ ⟨fun dd hdd => ?_, hS1, by omega, by rw [← t5.len]; omega, by rw [← t5.len]; omega⟩⟩
      · have hil := (List.getElem?_eq_some_iff.mp e).1
        have ht : t[i]? = some (t.getD i []) := by
          rw [List.getD_eq_getElem?_getD, List.getElem?_eq_getElem (by rw [← t5.len]; exact hil)]
          rfl
        exact t5.at_ i p _ e ht
      · have ht : t[dd]? = some (t.getD dd []) := by
          rw [List.getD_eq_getElem?_getD, List.getElem?_eq_getElem hdd]
          rfl
        exact t6 _ (List.mem_of_getElem? ht)
end
end Ag
set_option Elab.async false
set_option linter.all false
set_option maxRecDepth 100000
set_option maxHeartbeats 4000000
namespace Ag
open PySem PySem.Spec PyProof.Rows L2
/-! ### the order of tuples of numbers -/
theorem lexlt_irr : ∀ a : List Nat, lexlt a a = false
  | [] => rfl
  | x :: a => by unfold lexlt; rw [if_pos rfl]; exact lexlt_irr a
theorem lexlt_trans : ∀ {a b c : List Nat}, lexlt a b = true → lexlt b c = true → lexlt a c = true
  | [], [], _, h, _ => by cases h
  | [], _ :: _, [], _, h => by cases h
  | [], _ :: _, _ :: _, _, _ => rfl
  | _ :: _, [], _, h, _ => by cases h
  | _ :: _, _ :: _, [], _, h => by cases h
  | x :: a, y :: b, z :: c, h1, h2 => by
    unfold lexlt at h1 h2 ⊢
    by_cases e1 : x = y
    · subst e1
      rw [if_pos rfl] at h1
      by_cases e2 : x = z
      · rw [if_pos e2] at h2 ⊢
        exact lexlt_trans h1 h2
      · rw [if_neg e2] at h2 ⊢
        exact h2
    · rw [if_neg e1] at h1
      have l1 := of_decide_eq_true h1
      by_cases e2 : y = z
      · subst e2
        rw [if_neg e1]
        exact h1
      · rw [if_neg e2] at h2
        have l2 := of_decide_eq_true h2
        rw [if_neg (by omega)]
        exact decide_eq_true (by omega)
def minN (x : List Nat) (xs : List (List Nat)) : List Nat := xs.foldl (fun a y => if lexlt y a = true then y else a) x
theorem minN_le : ∀ (xs : List (List Nat)) (x : List Nat), (minN x xs = x ∨ minN x xs ∈ xs) ∧ lexlt x (minN x xs) = false ∧ ∀ y ∈ xs, lexlt y (minN x xs) = false
  | [], x => ⟨.inl rfl, lexlt_irr x, fun y hy => absurd hy List.not_mem_nil⟩
  | z :: xs, x => by
    have e : minN x (z :: xs) = minN (if lexlt z x = true then z else x) xs := rfl
    rw [e]
    by_cases c : lexlt z x = true
    · rw [if_pos c]
      obtain ⟨h1, h2, h3⟩ := minN_le xs z
      refine ⟨h1.elim (fun h => .inr (by rw [h]; exact List.mem_cons_self ..)) fun h => .inr (List.mem_cons_of_mem _ h), ?_, fun y hy => ?_⟩
      · cases q : lexlt x (minN z xs) with
        | false => rfl
        | true => rw [lexlt_trans c q] at h2; cases h2
      · rcases List.mem_cons.mp hy with e | hy
        · rw [e]; exact h2
        · exact h3 y hy
    · rw [if_neg c]
      obtain ⟨h1, h2, h3⟩ := minN_le xs x
      refine ⟨h1.elim .inl fun h => .inr (List.mem_cons_of_mem _ h), h2, fun y hy => ?_⟩
      rcases List.mem_cons.mp hy with e | hy
      · rw [e]
        rcases h1 with h | h
        · rw [h]; simpa using c
        · cases q : lexlt z (minN x xs) with
          | false => rfl
          | true =>
            cases q2 : lexlt (minN x xs) x with
            | true => exact absurd (lexlt_trans q q2) c
            | false =>
              have e3 : ∀ {a b : List Nat}, lexlt a b = false → lexlt b a = false → a = b := by
                intro a
                induction a with
                | nil => intro b h1 h2; cases b with
                  | nil => rfl
                  | cons y b => cases h1
                | cons u a ih => intro b h1 h2; cases b with
                  | nil => cases h2
                  | cons v b =>
                    unfold lexlt at h1 h2
                    by_cases e : u = v
                    · subst e
                      rw [if_pos rfl] at h1 h2
                      rw [ih h1 h2]
                    · rw [if_neg e] at h1
                      rw [if_neg (Ne.symm e)] at h2
                      have l1 := of_decide_eq_false h1
                      have l2 := of_decide_eq_false h2
                      omega
              have := e3 h2 q2
              rw [← this] at q
              exact absurd q c
      · exact h3 y hy
/-! ### a tuple of numbers as data -/
def encN (E : List Nat) : PyData := .tuple (E.map fun n : Nat => PyData.int (n : Int))
theorem toks_lex : ∀ (E F : List Nat), PyProof.Rows.lexLt PyProof.Rows.itemOrd (PySem.W.keyToksAll (E.map fun n : Nat => PyData.int (n : Int))) (PySem.W.keyToksAll (F.map fun n : Nat => PyData.int (n : Int))) = lexlt E F
  | [], [] => by
    rw [List.map_nil]
    exact PyProof.Rows.lex_irrefl _
  | [], y :: F => by
    rw [List.map_nil, List.map_cons, PySem.W.toks_all_cons]
    unfold PySem.W.keyToksAll
    rw [PyProof.Rows.lex_diff (by intro z; injection z with z; omega)]
    rfl
  | x :: E, [] => by
    rw [List.map_nil, List.map_cons, PySem.W.toks_all_cons]
    unfold PySem.W.keyToksAll
    rw [PyProof.Rows.lex_diff (by intro z; injection z with z; omega)]
    rfl
  | x :: E, y :: F => by
    rw [List.map_cons, List.map_cons, PySem.W.toks_all_cons, PySem.W.toks_all_cons, PyProof.Rows.lex_self]
    unfold PySem.W.keyToks
    unfold lexlt
    by_cases e : x = y
    · subst e
      rw [if_pos rfl, List.singleton_append, List.singleton_append, PyProof.Rows.lex_self]
      exact toks_lex E F
    · rw [if_neg e, List.singleton_append, List.singleton_append, PyProof.Rows.lex_diff (by intro z; injection z with z; omega)]
      show decide ((x : Int) < (y : Int)) = decide (x < y)
      by_cases h : x < y
      · rw [decide_eq_true h, decide_eq_true (by omega)]
      · rw [decide_eq_false h, decide_eq_false (by omega)]
theorem enc_lt (E F : List Nat) : PySem.W.dataLt (encN E) (encN F) = lexlt E F := by
  unfold encN
  rw [PySem.W.dataLt_tuple]
  exact toks_lex E F
theorem enc_alike (E F : List Nat) : PySem.W.alike (encN E) (encN F) = true := by
  unfold encN
  unfold PySem.W.alike
  induction E generalizing F with
  | nil => unfold PySem.W.alikeAll; cases F <;> rfl
  | cons x E ih =>
    cases F with
    | nil => rfl
    | cons y F =>
      rw [List.map_cons, List.map_cons]
      unfold PySem.W.alikeAll
      rw [ih F]
      rfl
theorem enc_min : ∀ (xs : List (List Nat)) (x : List Nat), PySem.W.minD (encN x) (xs.map encN) = encN (minN x xs)
  | [], x => rfl
  | y :: xs, x => by
    have e : PySem.W.minD (encN x) ((y :: xs).map encN) = PySem.W.minD (if PySem.W.dataLt (encN y) (encN x) = true then encN y else encN x) (xs.map encN) := rfl
    have e2 : minN x (y :: xs) = minN (if lexlt y x = true then y else x) xs := rfl
    rw [e, e2, enc_lt]
    by_cases c : lexlt y x = true
    · rw [if_pos c, if_pos c]; exact enc_min xs y
    · rw [if_neg c, if_neg c]; exact enc_min xs x
end Ag
set_option Elab.async false
set_option linter.all false
set_option maxRecDepth 100000
set_option maxHeartbeats 4000000
namespace Ag
open PySem PySem.Spec PyProof.Rows L2
section
open PySem.W PySem.SeqAt
variable {prog : Program} {w : World} {A : Around} {E : Value → Shared → Prop} {s : Shared}
/-- min of a list of alike data, told by its place -/
theorem min_list_ix {l : Addr} {vs : Array Value} {x : PyData} {xs : List PyData} {as : List Addr} {Q : Value → Shared → Prop} (hh : A.handled = none) (hl : s.heap.IsList l vs) (hr : ReadsAll s.heap vs.toList (x :: xs) as) (ha : AlikeAll (x :: xs)) (hu : A.units + 1 + PyData.depthAll (x :: xs) < cLine)
    (h : ∀ (i : Nat) v h' tk, vs[i]? = some v → i < (x :: xs).length → (x :: xs).getD i .none = minD x xs → (∀ b o, s.heap.get? b = some o → h'.get? b = some o) → Q v { s with heap := h', toks := tk }) :
    wpAny (model prog w) A (call (.builtin "min") [.ref l]) Q E s := by
  have hn : vs.size = xs.length + 1 := readsAll_len hr
  refine call_min_walkH (iter_listW (A := A.in1) hh hl fun s₂ e W st hfp hw hk => ?_)
  refine ⟨_, _, _, _, _, _, _, s.heap, _, rfl, W, st, hfp, by omega, hw, hk, cmpIn_lt (A := A.in1) hr ha (by show A.units + 1 + _ < _; exact hu), fun v s' hP m => ?_⟩
  obtain ⟨h', tk, rfl, hk'⟩ := moved_old e rfl m
  have e1 : vs.size - 1 = xs.length := by omega
  rw [e1] at hP
  obtain ⟨i1, i2⟩ := argBest_fold dataLt PyData.none x xs xs.length (Nat.le_refl _)
  rw [List.take_length] at i2
  exact h _ v h' tk hP (by rw [List.length_cons]; omega) (by unfold minD; exact i2) hk'
end
theorem NtsL.tail {H : Hp} {a : Addr} {as : List Addr} {E : List Nat} {hs : List (List Nat)} (h : NtsL H (a :: as) (E :: hs)) : H a = some (.tup (nV E)) ∧ NtsL H as hs :=
  ⟨h.at_ 0 a E rfl rfl, by have := h.len; rw [List.length_cons, List.length_cons] at this; omega, fun i b F e1 e2 => h.at_ (i + 1) b F e1 e2⟩
theorem dp_nV {K : PySem.W.Frag} {H : Hp} : ∀ E : List Nat, DpAll K H (nV E) (E.map fun n : Nat => PyData.int (n : Int))
  | [] => .nil
  | n :: E => .cons (.int _) (dp_nV E)
theorem dp_nts {K : PySem.W.Frag} {H : Hp} : ∀ {as : List Addr} {hs : List (List Nat)}, NtsL H as hs → DpAll K H (as.map V.ref) (hs.map encN)
  | [], [], _ => .nil
  | [], _ :: _, h => by have := h.len; cases this
  | _ :: _, [], h => by have := h.len; cases this
  | a :: as, E :: hs, h => .cons (.tup (.of h.tail.1) (dp_nV E)) (dp_nts h.tail.2)
theorem depth_ints : ∀ E : List Nat, PyData.depthAll (E.map fun n : Nat => PyData.int (n : Int)) = 0
  | [] => rfl
  | n :: E => by
    rw [List.map_cons]
    unfold PyData.depthAll
    rw [depth_ints E]
    rfl
theorem depth_encs : ∀ hs : List (List Nat), PyData.depthAll (hs.map encN) ≤ 1
  | [] => by unfold PyData.depthAll; decide
  | E :: hs => by
    rw [List.map_cons]
    unfold PyData.depthAll
    have h1 := depth_encs hs
    have h2 : (encN E).depth = 1 := by
      unfold encN PyData.depth
      rw [depth_ints]
    omega
theorem enc_inj {E F : List Nat} (h : encN E = encN F) : E = F := by
  unfold encN at h
  injection h with h
  have : ∀ {E F : List Nat}, (E.map fun n : Nat => PyData.int (n : Int)) = (F.map fun n : Nat => PyData.int (n : Int)) → E = F := by
    intro E
    induction E with
    | nil => intro F h; cases F with
      | nil => rfl
      | cons _ _ => cases h
    | cons x E ih => intro F h; cases F with
      | nil => cases h
      | cons y F =>
        rw [List.map_cons, List.map_cons] at h
        injection h with h1 h2
        injection h1 with h1
        rw [ih h2]
        congr 1
        omega
  exact this h
def rMinN : List V → Hp → VK → Prop := fun vs H Q => ∃ (a : Addr) (as : List Addr) (hs : List (List Nat)), vs = [.ref a] ∧ H a = some (.lst (as.map V.ref)) ∧ NtsL H as hs ∧ hs ≠ [] ∧
  ∀ (i : Nat) (b : Addr) (E : List Nat), as[i]? = some b → hs[i]? = some E → (∀ F ∈ hs, lexlt F E = false) → Q (.ref b) H
section
variable {X : Cx}
theorem call_minN (hc : X.calm = true) (hu : X.A.units + 64 < cLine) : CallR X (.builtin "min") rMinN := by
  intro pins s σ H vs us Q I r h
  obtain ⟨a, as, hs, rfl, ha, hN, hne, q⟩ := h
  obtain ⟨its, rv, hl, hz⟩ := I.list (.of ha)
  rw [Vals.ref1 r]
  cases hs with
  | nil => exact absurd rfl hne
  | cons x xs =>
    obtain ⟨ads, hr⟩ := Dp.readsAll I _ _ _ (dp_nts (K := X.K) hN) rv
    have hd := depth_encs (x :: xs)
    rw [List.map_cons] at hr hd
    have hlen := rv.length
    refine min_list_ix (I.ok.hd hc) hl.isList (by simpa using hr) ⟨fun d hd d' hd' => ?_, fun d hd => ?_⟩ (by omega) fun i v h' tk hv hi he hk => ?_
    · rw [← List.map_cons] at hd hd'
      obtain ⟨E, _, rfl⟩ := List.mem_map.mp hd
      obtain ⟨F, _, rfl⟩ := List.mem_map.mp hd'
      exact enc_alike E F
    · rw [← List.map_cons] at hd
      obtain ⟨E, _, rfl⟩ := List.mem_map.mp hd
      unfold encN
      intro z
      cases z
    · rw [List.length_cons, List.length_map] at hi
      have hia : i < as.length := by rw [hN.len, List.length_cons]; exact hi
      have hih : i < (x :: xs).length := by rw [List.length_cons]; exact hi
      have ev : v = .ref as[i] := by
        have h1 : its[i]? = some v := by rw [← List.getElem?_toArray]; exact hv
        obtain ⟨u, hu', ru⟩ := rv.get (i := i) (x := .ref as[i]) (by rw [List.getElem?_map, List.getElem?_eq_getElem hia]; rfl)
        rw [h1] at hu'
        cases hu'
        exact ru
      subst ev
      rw [enc_min, ← List.map_cons, List.getD_eq_getElem?_getD, List.getElem?_map, List.getElem?_eq_getElem hih] at he
      have he' : encN (x :: xs)[i] = encN (minN x xs) := he
      have e3 := enc_inj he'
      obtain ⟨_, m2, m3⟩ := minN_le xs x
      refine ⟨.ref as[i], H, I.kept hk, rfl, q i _ _ (List.getElem?_eq_getElem hia) (List.getElem?_eq_getElem hih) fun F hF => ?_⟩
      rw [e3]
      rcases List.mem_cons.mp hF with e | hF
      · rw [e]; exact m2
      · exact m3 F hF
end
/-! ### sorted(xs, key=len) -/
def tSortLen (te : TE) : TE := fun σ H Q => te σ H fun x H1 => ∃ (a : Addr) (as : List Addr) (hs : List (List Nat)), x = .ref a ∧ H1 a = some (.lst (as.map V.ref)) ∧ NtsL H1 as hs ∧ as.length ≤ 1000 ∧
  ∀ (p : Addr) (as' : List Addr) (hs' : List (List Nat)), H1 p = none → hs'.Perm hs → hs'.Pairwise (fun a b => a.length ≤ b.length) → NtsL H1 as' hs' → Q (.ref p) (upd H1 p (.lst (as'.map V.ref)))
theorem each_zip : ∀ {as : List Addr} {hs : List (List Nat)} {its : List Value}, Vals (as.map V.ref) its → as.length = hs.length → PySem.W.EachIs (fun v (x : Addr × List Nat) => v = Value.ref x.1) its (as.zip hs)
  | [], [], [], _, _ => .nil
  | [], [], _ :: _, r, _ => by cases r
  | [], _ :: _, _, _, h => by cases h
  | _ :: _, [], _, _, h => by cases h
  | a :: as, E :: hs, [], r, _ => by cases r
  | a :: as, E :: hs, v :: its, r, h => by
    cases r with
    | cons r1 r2 => exact .cons r1 (each_zip r2 (by simpa using h))
theorem each_vals : ∀ {out : List Value} {L : List (Addr × List Nat)}, PySem.W.EachIs (fun v (x : Addr × List Nat) => v = Value.ref x.1) out L → Vals ((L.map (·.1)).map V.ref) out
  | _, _, .nil => .nil
  | _, _, .cons h r => .cons h (each_vals r)
theorem nts_zip {H : Hp} : ∀ {as : List Addr} {hs : List (List Nat)}, NtsL H as hs → ∀ x ∈ as.zip hs, H x.1 = some (.tup (nV x.2))
  | [], _, _, x, hx => by cases hx
  | _ :: _, [], _, x, hx => by cases hx
  | a :: as, E :: hs, h, x, hx => by
    rcases List.mem_cons.mp hx with e | hx
    · rw [e]; exact h.tail.1
    · exact nts_zip h.tail.2 x hx
theorem nts_of {H : Hp} {L : List (Addr × List Nat)} (h : ∀ x ∈ L, H x.1 = some (.tup (nV x.2))) : NtsL H (L.map (·.1)) (L.map (·.2)) := by
  refine ⟨by rw [List.length_map, List.length_map], fun i b E e1 e2 => ?_⟩
  rw [List.getElem?_map] at e1 e2
  cases z : L[i]? with
  | none => rw [z] at e1; cases e1
  | some x =>
    rw [z] at e1 e2
    cases e1
    cases e2
    exact h x (List.mem_of_getElem? z)
theorem zip_snd : ∀ {as : List Addr} {hs : List (List Nat)}, as.length = hs.length → (as.zip hs).map (·.2) = hs
  | [], [], _ => rfl
  | [], _ :: _, h => by cases h
  | _ :: _, [], h => by cases h
  | a :: as, E :: hs, h => by
    rw [List.zip_cons_cons, List.map_cons, zip_snd (by simpa using h)]
theorem le_len {a b : Addr × List Nat} (h : PySem.W.dataLe false (fun x : Addr × List Nat => PyData.int (x.2.length : Nat)) a b = true) : a.2.length ≤ b.2.length := by
  have h1 : (!PyProof.Rows.lexLt PyProof.Rows.itemOrd (PySem.W.keyToks (.int (b.2.length : Nat))) (PySem.W.keyToks (.int (a.2.length : Nat)))) = true := h
  unfold PySem.W.keyToks at h1
  rw [PySem.W.lex_one] at h1
  have h2 : (!decide (((b.2.length : Nat) : Int) < ((a.2.length : Nat) : Int))) = true := h1
  rw [Bool.not_eq_true', decide_eq_false_iff_not] at h2
  omega
section
variable {X : Cx} {e : Expr} {te : TE} {p p2 pos kpos : Pos}
theorem pe_sortLen (hu : X.A.units + 64 < cLine) (hg : Gl X "sorted") (hm : X.mg "sorted" = none) (hg2 : Gl X "len") (hm2 : X.mg "len" = none) (he : PE X e te)
    (hst : starEach [e] X.env = (false, eval e X.env) :: starEach [] X.env := by rfl) (hee : backTo pos (starEach [e] X.env) = (false, eval e X.env) :: backTo pos (starEach [] X.env) := by rfl) (hpl : (backTo pos (starEach [e] X.env)).any (·.1) = false := by rfl)
    (hall : (backToKw pos (keywordEach [⟨some "key", .Name "len" p2, kpos⟩] X.env)).all (·.1.isSome) = true := by rfl) (hnone : (backToKw pos (keywordEach [⟨some "key", .Name "len" p2, kpos⟩] X.env)).any (·.1.isNone) = false := by rfl) :
    PE X (.Call (.Name "sorted" p) [e] [⟨some "key", .Name "len" p2, kpos⟩] pos) (tSortLen te) := by
  refine ⟨fun pins s σ H Q I h => ?_⟩
  refine wpAny_Call_Name_kw (ld_blt I hg hm PyProof.Rows.boot_sorted ?_)
  refine PyProof.Rows.callWith_kw ?_ hee hpl hall hnone
  refine PyProof.Rows.args_cons (thn (he.run pins s σ H _ I h) fun v s1 ⟨x, H1, I1, r1, q1⟩ => PyProof.Rows.args_nil ?_) hst
  obtain ⟨a, as, hs, ex, ha, hN, hz, q⟩ := q1
  subst ex
  cases r1
  show wpAny _ _ (evalAll ((do let v ← eval (.Name "len" p2) X.env; standAt pos; pure v) :: [])) _ _ s1
  refine wpAny_evalAll_cons (wpAny_bind (ld_blt I1 hg2 hm2 boot_len (wpAny_bind (wpAny_standAt (wpAny_pure (wpAny_evalAll_nil ?_))))))
  show wpAny _ _ (call (.builtin "sorted") [.ref a] [(Str.ofString "key", .builtin "len")]) _ _ s1
  obtain ⟨its, rv, hl, hzz⟩ := I1.list (.of ha)
  have hlen := hN.len
  refine PySem.W.sorted_key_data (b := false) (fun x : Addr × List Nat => PyData.int (x.2.length : Nat)) hl.isList (each_zip rv hlen) (PySem.W.AllAlike.of fun _ _ => by simp [PySem.W.alike]) (.inr fun d hd => ?_) ?_ (fun x _ => ?_) (PyProof.Rows.ksk_s1 _ _) (fun _ => PyProof.Rows.ksk_l1 _ _) (fun _ => PyProof.Rows.ksk_t4 _ _) (fun v x hv hx h2 tk kp => ?_) fun out c h' tk kp fr hD hol eo => ?_
  · obtain ⟨x, _, rfl⟩ := List.mem_map.mp hd
    exact ⟨fun z => (by cases z), fun xs z => (by cases z)⟩
  · rw [List.length_zip, sizeLine_eq]; omega
  · show X.A.units + 2 + 0 < cLine
    omega
  · subst hv
    have hT := nts_zip hN x hx
    obtain ⟨_, jts, jr, jt⟩ := (show ObjOk X.prog X.w H1 s1.heap x.1 (.tup (nV x.2)) from I1.hok _ _ hT)
    have jl := jr.length
    rw [nV_length] at jl
    have hzx : (nV x.2).length ≤ sizeLine := (show ObjOk X.prog X.w H1 s1.heap x.1 (.tup (nV x.2)) from I1.hok _ _ hT).1
    rw [nV_length, sizeLine_eq] at hzx
    have jt2 : IsTup h2 x.1 jts.toArray := let ⟨o, e1, e2⟩ := jt; ⟨o, kp _ _ e1, e2⟩
    refine len_tuple (s := { s1 with heap := h2, toks := tk }) jt2 (by simp only [List.size_toArray]; omega) ?_
    refine ⟨h2, _, rfl, fun _ _ e => e, ?_⟩
    have es : (jts.toArray.size : Int) = (x.2.length : Nat) := by rw [List.size_toArray, ← jl]
    rw [es]
    exact Reads.int _ _
  · have Lp := List.mergeSort_perm (as.zip hs) (PySem.W.dataLe false fun x : Addr × List Nat => PyData.int (x.2.length : Nat))
    have Ls := PySem.W.sort_pairwise (PySem.W.sortLe_total _ false _) (as.zip hs) (le := PySem.W.dataLe false fun x : Addr × List Nat => PyData.int (x.2.length : Nat))
    generalize (as.zip hs).mergeSort (PySem.W.dataLe false fun x : Addr × List Nat => PyData.int (x.2.length : Nat)) = L at eo Lp Ls
    have rvo := each_vals eo
    have hp : H1 (s1.heap.objs.size + 1) = none := I1.hok.fresh (Nat.le_succ _)
    have hLl : L.length = as.length := by rw [Lp.length_eq, List.length_zip]; omega
    refine ⟨.ref (s1.heap.objs.size + 1), _, I1.laid (t' := tk) (o := .lst ((L.map (·.1)).map V.ref)) kp (Nat.le_succ _) ⟨by rw [List.length_map, List.length_map, sizeLine_eq]; omega, out, c, rvo, hD⟩, rfl, q _ (L.map (·.1)) (L.map (·.2)) hp ?_ ?_ (nts_of fun x hx => nts_zip hN x (Lp.mem_iff.mp hx))⟩
    · have := Lp.map (·.2)
      rw [zip_snd hlen] at this
      exact this
    · rw [List.pairwise_map]
      exact Ls.imp fun h => le_len h
end
end Ag
set_option Elab.async false
set_option linter.all false
set_option maxRecDepth 100000
set_option maxHeartbeats 4000000
namespace Ag
open PySem PySem.Spec PyProof.Rows L2 RZ
theorem NtsL.append {H : Hp} : ∀ {bs : List Addr} {ks : List (List Nat)} {as : List Addr} {hs : List (List Nat)}, NtsL H as hs → NtsL H bs ks → NtsL H (as ++ bs) (hs ++ ks)
  | [], [], as, hs, h, _ => by rw [List.append_nil, List.append_nil]; exact h
  | [], _ :: _, _, _, _, k => by have := k.len; cases this
  | _ :: _, [], _, _, _, k => by have := k.len; cases this
  | b :: bs, E :: ks, as, hs, h, k => by
    have e1 : as ++ b :: bs = (as ++ [b]) ++ bs := by simp
    have e2 : hs ++ E :: ks = (hs ++ [E]) ++ ks := by simp
    rw [e1, e2]
    exact (h.push k.tail.1).append k.tail.2
theorem lotsRaw_len : ∀ n, (lotsRaw n).length = 2 ^ n
  | 0 => rfl
  | n + 1 => by
    unfold lotsRaw
    rw [List.length_append, List.length_map, lotsRaw_len n, Nat.pow_succ]
    omega
theorem lot_len {n : Nat} {l : List Nat} (h : IsLot n l) : l.length ≤ n := by
  obtain ⟨bs, b1, b2⟩ := mask_of n 0 l h.1 (fun x hx => ⟨Nat.zero_le _, by have := h.2 x hx; omega⟩)
  rw [← b2, places_length]
  have := cnt_le bs
  omega
def spLots : Sp := fun vs H Q _ => ∃ (n : Nat), vs = [.int (n : Int)] ∧ n ≤ 8 ∧ ∀ p as hs H', Same H H' → H p = none → H' p = some (.lst (as.map V.ref)) → NtsL H' as hs → hs.Perm (lotsRaw n) → hs.Pairwise (fun a b => a.length ≤ b.length) → Q (.ref p) H'
def spEnough : Sp := fun vs H Q _ => ∃ (ta la ca lo S : Nat) (t : Tabs) (log : List Nat) (cs : List (Nat × Nat)) (lot : List Nat), vs = [.ref ta, .ref la, .ref ca, .ref lo] ∧ TabAt H ta t ∧ Wf t S ∧ H la = some (.tup (nV log)) ∧ (∀ d ∈ log, d < t.length) ∧ log.length ≤ 100 ∧ PairsAt H ca cs ∧
  CopiesOk S log.length cs ∧ cs.length ≤ 100 ∧ IsSq H lo (nV lot) ∧ (∀ p ∈ lot, p < log.length) ∧ lot.length ≤ 1000 ∧ ∀ H', Same H H' → Q (.bl (enough t log cs lot)) H'
section
variable {P : Program} {w : World} {K : PySem.W.Frag} {mg : Str → Option Value} {base : Heap} {f : Addr} {fd : FuncData}
abbrev nLots : List Str := ["_law_many", "_law_found", "_law_place", "_law_lot"]
theorem scLots : FnScope nLots ["_law_many"] (defScope sLots) := ⟨rfl, rfl, rfl, by decide +kernel, rfl, by decide +kernel, by decide +kernel⟩
theorem ok_lots (T : Txt mg) (F : FnP K "_law_lots" sLots f fd) (hm : mg "_law_lots" = some (.ref f)) : Cl P w K mg base CX0 1 "_law_lots" spLots := by
  refine cal_of (ps := ["_law_many"]) (F.ok scLots (fun vs H Q E h => ?_) (fun cdv A outer s H vs Q E hr h => ⟨_, PSs.nox (pss_cons (ps_set (i := 1) scLots.nd rfl (Or.inl rfl) (pe_lst (pa_cons (pe_tup pa_nil) pa_nil)))
       (pss_cons (ps_for PassesOwn.never rfl (pi_range1 rfl T.range (pa_cons (pv 0) pa_nil)) (pg_name (i := 2) scLots.nd rfl (Or.inr rfl))
       (pss_one (ps_set (i := 1) scLots.nd rfl (Or.inl rfl) (pe_op op_cat (pv 1) (pe_lc (own := [("_law_lot", 3)]) (g := gName 3) (te := tOp (rCatA K) (tVar 3) (tTup (tCons (tVar 2) tNil))) rfl scLots.nd (pi_sq (pv 1)) (blkOk_by (own := [("_law_lot", 3)]) (N := nLots) (sc := defScope sLots) (by decide +kernel)) (fun _ _ _ _ _ => (pg_name (i := 3) scLots.nd rfl (Or.inl rfl))) (fun _ _ _ _ _ => pts_nil) (fun _ _ _ _ _ => (pe_op op_catA (pv 3) (pe_tup (pa_cons (pv 2) pa_nil)))))))))
       (pss_one (ps_ret (pe_sortLen hr.units rfl T.sorted rfl T.len (pv 1)))))), ?_⟩))
    hm F.kp (F.bindsN fun _ _ _ _ _ _ us hl => match us, hl with | [_], _ => rfl)
  · obtain ⟨_, rfl, _⟩ := h
    rfl
  · obtain ⟨n, rfl, hn, q⟩ := h
    refine ⟨by show 0 ≤ sizeLine; decide, fun p0 hp0 => ⟨by show 1 ≤ sizeLine; decide, fun F0 hF0 => ?_⟩⟩
    have s0 : Same H (upd (upd H p0 (.tup [])) F0 (.lst [.ref p0])) := sm_new (same_new hp0) hF0
    have f0 : (upd (upd H p0 (.tup [])) F0 (.lst [.ref p0])) F0 = some (.lst ([p0].map V.ref)) := upd_same
    have t0 : NtsL (upd (upd H p0 (.tup [])) F0 (.lst [.ref p0])) [p0] (lotsRaw 0) := by
      have := (NtsL.nil (H := upd (upd H p0 (.tup [])) F0 (.lst [.ref p0]))).push (q := p0) (E := []) (upd_keep hF0 upd_same)
      exact this
    generalize upd (upd H p0 (.tup [])) F0 (.lst [.ref p0]) = H0 at s0 f0 t0
    have hFn : H F0 = none := Same.free (same_new hp0) hF0
    have en : ((n : Int)).toNat = n := by omega
    refine ⟨_, rfl, _, rfl, by omega, by omega, for_it walk_range (fun i σ H' => ∃ (F : Addr) (v2 v3 : Option V) (as : List Addr), σ = [some (.int (n : Int)), some (.ref F), v2, v3] ∧ Same H H' ∧ H F = none ∧ H' F = some (.lst (as.map V.ref)) ∧ NtsL H' as (lotsRaw i)) ⟨F0, none, none, [p0], rfl, s0, hFn, f0, t0⟩ (fun _ _ _ _ _ => trivial) ?_ ?_⟩
    · rintro i x σ H4 H5 hi ⟨F, v2, v3, as, rfl, s4, hF, hFa, hN⟩ ⟨rfl, rfl⟩
      have hin : i < 8 := by omega
      have hpow : 2 ^ i ≤ 256 := Nat.le_trans (Nat.pow_le_pow_right (by decide) (show i ≤ 8 by omega)) (by decide)
      have hasl : as.length ≤ 256 := by rw [hN.len, lotsRaw_len]; exact hpow
      have ei : (0 : Int) + (i : Nat) = (i : Int) := by omega
      refine ⟨_, rfl, _, rfl, F, _, rfl, .inl hFa, fun J G wk hG D hD => lc_it wk (fun j H' => Same H5 H' ∧ ∃ ns : List Addr, H' D = some (.lst (ns.map V.ref)) ∧ NtsL H' ns (((lotsRaw i).take j).map (· ++ [i]))) ⟨same_new hD, [], upd_same, .nil⟩ (fun j H' _ ⟨s', _⟩ => hG _ (by rw [hFa]; exact s' _ _ hFa)) ?_ ?_⟩
      · rintro j x H6 H7 hj ⟨s6, ns, n1, n2⟩ ⟨rfl, hx⟩
        have hja : j < as.length := by rw [List.length_map] at hj; exact hj
        rw [List.getElem?_map, List.getElem?_eq_getElem hja] at hx
        cases hx
        obtain ⟨E, hE⟩ : ∃ E, (lotsRaw i)[j]? = some E := ⟨(lotsRaw i)[j]'(by rw [← hN.len]; exact hja), List.getElem?_eq_getElem _⟩
        have htE := s6 _ _ (hN.at_ j _ E (List.getElem?_eq_getElem hja) hE)
        have hlot := lotsRaw_mem.mp (List.mem_of_getElem? hE)
        have hEl : E.length ≤ 100 := by
          have := lot_len hlot
          omega
        have et : ((lotsRaw i).take (j + 1)).map (· ++ [i]) = ((lotsRaw i).take j).map (· ++ [i]) ++ [E ++ [i]] := by rw [take_succ' hE, List.map_append]; rfl
        refine ⟨rfl, _, rfl, _, rfl, by show 1 ≤ sizeLine; decide, fun p1 hp1 => ⟨as[j], p1, _, _, rfl, rfl, .of (upd_keep hp1 htE), .of upd_same, ?_, ?_, ?_, ?_⟩⟩
        · rw [nV_length, sizeLine_eq]
          show E.length + 1 ≤ _
          omega
        · intro hE0
          have hE1 : E = [] := by
            cases E with
            | nil => rfl
            | cons a b => cases hE0
          have s7 := sm_new (o := .tup [.int (0 + (i : Nat))]) s6 hp1
          refine ⟨_, upd_keep hp1 n1, by rw [List.length_map, n2.len, List.length_map, List.length_take]; exact wl _ (by omega), sm_upd1 s7 hD, ns ++ [p1], by rw [upd_same, List.map_append]; rfl, ?_⟩
          rw [et, hE1]
          refine ((n2.same (same_new hp1)).push ?_).tups (tup_updL (upd_keep hp1 n1))
          rw [upd_same]
          show some (HO.tup [V.int (0 + (i : Nat))]) = _
          rw [ei]
          rfl
        · intro _ hz
          cases hz
        · intro _ _ p2 hp2
          have s7 := sm_new (o := .tup (nV E ++ [.int (0 + (i : Nat))])) (sm_new (o := .tup [.int (0 + (i : Nat))]) s6 hp1) hp2
          have n1' := upd_keep (o := .tup (nV E ++ [.int (0 + (i : Nat))])) hp2 (upd_keep (o := .tup [.int (0 + (i : Nat))]) hp1 n1)
          refine ⟨_, n1', by rw [List.length_map, n2.len, List.length_map, List.length_take]; exact wl _ (by omega), sm_upd1 s7 hD, ns ++ [p2], by rw [upd_same, List.map_append]; rfl, ?_⟩
          rw [et]
          refine ((n2.same (sm_new (same_new hp1) hp2)).push ?_).tups (tup_updL n1')
          rw [upd_same]
          show some (HO.tup (nV E ++ [V.int (0 + (i : Nat))])) = _
          rw [ei]
          unfold nV
          rw [List.map_append]
          rfl
      · rintro H6 ⟨s6, ns, n1, n2⟩
        rw [List.length_map, hN.len, List.take_length] at n2
        have s46 := s4.trans s6
        refine ⟨F, D, _, _, rfl, rfl, s6 _ _ hFa, n1, ?_, fun p hp => ⟨p, _, _, as ++ ns, rfl, sm_new s46 hp, Same.free s46 hp, by rw [upd_same, List.map_append], ?_⟩⟩
        · rw [List.length_map, List.length_map, n2.len, List.length_map, lotsRaw_len, sizeLine_eq]
          omega
        · have := ((hN.same s6).append n2).same (same_new (o := .lst (as.map V.ref ++ ns.map V.ref)) hp)
          exact this
    · rintro σ H4 ⟨F, v2, v3, as, rfl, s4, hF, hFa, hN⟩
      rw [en] at hN
      have hpow : 2 ^ n ≤ 256 := Nat.le_trans (Nat.pow_le_pow_right (by decide) hn) (by decide)
      refine ⟨_, rfl, F, as, _, rfl, hFa, hN, by rw [hN.len, lotsRaw_len]; omega, fun p as' hs' hp h1 h2 h3 => ?_⟩
      exact q p as' hs' _ (sm_new s4 hp) (Same.free s4 hp) upd_same (h3.same (same_new hp)) h1 h2
abbrev nIsEnough : List Str := ["_law_tables_here", "_law_log", "_law_copies", "_law_lot", "_law_state", "_law_age", "_law_kept", "_law_place"]
theorem scIsEnough : FnScope nIsEnough ["_law_tables_here", "_law_log", "_law_copies", "_law_lot"] (defScope sIsEnough) := ⟨rfl, rfl, rfl, by decide +kernel, rfl, by decide +kernel, by decide +kernel⟩
theorem ok_isEnough (T : Txt mg) (C_law_led : Cl P w K mg base CX0 1 "_law_led" spLed) (F : FnP K "_law_is_enough" sIsEnough f fd) (hm : mg "_law_is_enough" = some (.ref f)) : Cl P w K mg base CX0 2 "_law_is_enough" spEnough := by
  refine cal_of (ps := ["_law_tables_here", "_law_log", "_law_copies", "_law_lot"]) (F.ok scIsEnough (fun vs H Q E h => ?_) (fun cdv A outer s H vs Q E hr h => ⟨_, PSs.nox (pss_cons (ps_for PassesOwn.never rfl (pi_sq (pv 2)) (pg_tup rfl (pgs_cons (pg_name (i := 4) scIsEnough.nd rfl (Or.inl rfl)) (pgs_cons (pg_name (i := 5) scIsEnough.nd rfl (Or.inr rfl)) pgs_nil)))
       (pss_cons (ps_setLc (i := 6) (own := [("_law_place", 7)]) (g := (gName 7)) (te := tOp (rIx K) (tVar 1) (tVar 7)) rfl scIsEnough.nd rfl rfl (sw_true rfl rfl rfl (by decide +kernel)) (pi_sq (pv 3)) (blkOk_by (own := [("_law_place", 7)]) (N := nIsEnough) (sc := defScope sIsEnough) (by decide +kernel)) (fun _ _ _ _ _ => (pg_name (i := 7) scIsEnough.nd rfl (Or.inl rfl))) (fun _ _ _ _ _ => (pts_one (pt_cmpR op_ge (pv 7) (pv 5) (nomark _)))) (fun _ _ _ _ _ => (pe_ix ix_seq (pv 1) (pv 7) (fun _ _ => rfl))))
       (pss_one (ps_if (pt_cmpR op_ne (pe_cl C_law_led hr (by decide) rfl (pa_cons (pv 0) (pa_cons (pv 4) (pa_cons (pv 6) pa_nil)))) (pe_cl C_law_led hr (by decide) rfl (pa_cons (pv 0) (pa_cons (pv 4) (pa_cons (pe_slice sl_tupA (pv 1) (po_some (pv 5)) po_none) pa_nil)))) (nomark _))
       (pss_one (ps_ret pe_bl))
       pss_nil))))
       (pss_one (ps_ret pe_bl))), ?_⟩))
    hm F.kp (F.bindsN fun _ _ _ _ _ _ us hl => match us, hl with | [_, _, _, _], _ => rfl)
  · obtain ⟨_, _, _, _, _, _, _, _, _, rfl, _⟩ := h
    rfl
  · obtain ⟨ta, la, ca, lo, S, t, log, cs, lot, rfl, hT, W, hL, hlog, hz, hC, hco, hcz, hlo, hp, hlz, q⟩ := h
    obtain ⟨as, a1, a2, a3⟩ := id hC
    refine ⟨_, rfl, ca, _, rfl, a1, fun J G wk hG => for_it wk (fun i σ H' => (∃ v4 v5 v6 v7, σ = [some (.ref ta), some (.ref la), some (.ref ca), some (.ref lo), v4, v5, v6, v7]) ∧ Same H H' ∧ enough t log (cs.take i) lot = true)
      ⟨⟨none, none, none, none, rfl⟩, Same.refl _, rfl⟩ (fun i σ H' _ ⟨_, s4, _⟩ => hG _ (sq_at a1 s4)) ?_ ?_⟩
    · rintro i x σ H9 H4 hi ⟨⟨v4, v5, v6, v7, rfl⟩, s4, he⟩ ⟨rfl, hx⟩
      have hil : i < as.length := by rw [List.length_map] at hi; exact hi
      rw [List.getElem?_map, List.getElem?_eq_getElem hil] at hx
      cases hx
      obtain ⟨cp, hcp⟩ : ∃ cp, cs[i]? = some cp := ⟨cs[i]'(by omega), List.getElem?_eq_getElem (by omega)⟩
      have hcm := List.mem_of_getElem? hcp
      obtain ⟨c1, c2⟩ := hco cp hcm
      have hpair : H4 as[i] = some (.tup (pairV cp)) := s4 _ _ (a3 i _ cp (List.getElem?_eq_getElem hil) hcp)
      have hlo4 := hlo.same s4
      refine ⟨as[i], _, rfl, .of hpair, rfl, _, _, rfl, _, _, rfl, rfl, ?_⟩
      refine ⟨_, rfl, lo, _, rfl, hlo4, fun J G wk hG D hD => lc_it wk (fun i H' => Same H4 H' ∧ H' D = some (.lst (nV (picked log ((lot.take i).filter fun p => decide (cp.2 ≤ p)))))) ⟨same_new hD, upd_same⟩ (fun i H' _ ⟨s1, _⟩ => hG _ (sq_at hlo4 s1)) ?_ ?_⟩
      · rintro j x H1 H2 hj ⟨s1, h1⟩ ⟨rfl, hx⟩
        obtain ⟨n, hn, rfl⟩ := nV_of hx
        have hnl : n < log.length := hp n (List.mem_of_getElem? hn)
        refine ⟨rfl, _, rfl, _, rfl, _, _, rfl, rfl, _, rfl, ?_⟩
        have pt := picked_take (log := log) (a := cp.2) hn
        refine ite2 (fun c => ?_) (fun c => ?_)
        · have c' : cp.2 ≤ n := by have := of_decide_eq_true c; omega
          rw [if_pos c'] at pt
          refine ⟨_, rfl, _, rfl, ix_sq (.inr (s1 _ _ (s4 _ _ hL))) (nV_get (getD_get hnl)) rfl ⟨_, h1, ?_, sm_upd1 s1 hD, ?_⟩⟩
          · rw [nV_length]
            refine wl _ ?_
            unfold picked
            rw [List.length_map]
            have h1 := List.length_filter_le (fun p => decide (cp.2 ≤ p)) (lot.take j)
            have h2 : (lot.take j).length ≤ lot.length := by rw [List.length_take]; omega
            omega
          · rw [upd_same, pt]
            unfold nV
            rw [List.map_append]
            rfl
        · have c' : ¬ cp.2 ≤ n := fun z => c (decide_eq_true (by omega))
          rw [if_neg c'] at pt
          exact ⟨s1, by rw [pt]; exact h1⟩
      · rintro H1 ⟨s1, h1⟩
        rw [nV_length, List.take_length] at h1
        have s41 := s4.trans s1
        have hL1 := s41 _ _ hL
        refine ⟨_, rfl, _, rfl, _, rfl, ta, D, cp.1, S, t, picked log (lot.filter fun p => decide (cp.2 ≤ p)), rfl, hT.same s41, .inl h1, W, c1, fun d hdm => ?_, ?_⟩
        · unfold picked at hdm
          obtain ⟨p, hpm, e⟩ := List.mem_map.mp hdm
          have hpl := hp p (List.mem_filter.mp hpm).1
          rw [← e]
          exact hlog _ (List.mem_of_getElem? (getD_get hpl))
        refine ⟨_, rfl, _, rfl, _, rfl, _, rfl, _, rfl, ?_⟩
        unfold tNoPart
        refine slA_drop hL1 (by rw [nV_length]; exact c2) fun p5 H6 s6 hp6 => ?_
        rw [nV_drop] at hp6
        refine ⟨ta, p5, cp.1, S, t, log.drop cp.2, rfl, (hT.same s41).same s6, .inr hp6, W, c1, fun d hdm => hlog d (List.mem_of_mem_drop hdm), rfl, _, rfl, ?_⟩
        have ee : enough t log (cs.take (i + 1)) lot = decide (keptEnd t log lot cp.1 cp.2 = led t cp.1 (log.drop cp.2)) := by
          unfold enough at he ⊢
          rw [take_succ' hcp, List.all_append, he, Bool.true_and]
          simp
        have ek : led t cp.1 (picked log (lot.filter fun p => decide (cp.2 ≤ p))) = keptEnd t log lot cp.1 cp.2 := rfl
        rw [ek]
        by_cases hk : keptEnd t log lot cp.1 cp.2 = led t cp.1 (log.drop cp.2)
        · refine ifF (by rw [hk, decide_eq_true rfl]; rfl) ⟨⟨_, _, _, _, rfl⟩, s41.trans s6, ?_⟩
          rw [ee]; exact decide_eq_true hk
        · refine ifT (by rw [decide_eq_false (fun z => hk (by have := V.int.inj z; omega))]; rfl) ?_
          have ef : enough t log cs lot = false := by
            rw [Bool.eq_false_iff]
            intro z
            unfold enough at z
            exact hk (of_decide_eq_true (List.all_eq_true.mp z cp hcm))
          rw [← ef]
          exact q _ (s41.trans s6)
    · rintro σ H4 ⟨⟨v4, v5, v6, v7, rfl⟩, s4, he⟩
      rw [List.length_map, a2, List.take_length] at he
      show Q (.bl true) H4
      rw [← he]
      exact q _ s4
end
end Ag
set_option Elab.async false
set_option linter.all false
set_option maxRecDepth 100000
set_option maxHeartbeats 4000000
namespace Ag
open PySem PySem.Spec PyProof.Rows L2
/-! ### set(xs) of a list of ints -/
section
variable {P : Program} {w : World} {A : Around} {E : Value → Shared → Prop} {s : Shared}
/-- the set as set.__new__ makes it -/
def set0 (w : World) : Obj := { cls := .type "set", dict := none, data := .set #[] 0 (.fresh 0 0 (!w.params.followText "set-order")) }
/-- a type called, by its __new__ and its __init__ -/
theorem type_call {T newId initId : String} {args : List Value} {Q Q₁ : Value → Shared → Prop} (t : TypeCalled T newId initId) (hc : checkTypeCall T ⟨args, []⟩ = pure ()) (hn : codeAny (model P w) A.in1 (.call (.builtin newId) ⟨.type T :: args, []⟩) (wants Q₁ E) s)
    (hi : ∀ o s1, Q₁ o s1 → s1.TypeIs o T ∧ codeAny (model P w) A.in1 (.call (.builtin initId) ⟨o :: args, []⟩) (wants (fun r s2 => r = .none ∧ Q o s2) E) s1) : wpAny (model P w) A (call (.type T) args) Q E s := by
  obtain ⟨c, tl, hmro⟩ := t.mro
  have a1 := t.made
  have a2 := t.sub
  have a3 := t.notType
  have a4 := t.canCreate
  refine wpAny_call (codeAny_of_tree ?_)
  show wpAny _ _ (callAny (.type T) _) _ _ _
  refine wpAny_pure ⟨Code.quiet_builtin _ (by decide +kernel), codeAny_builtin F.entry_type_call ?_⟩
  rw [Around.under_plain (weight_type_call_type T args []) rfl]
  repeat (any_goals (first | assumption | wp_step))
  refine codeAny_mono hn fun r s1 q => ?_
  match r, q with
  | .error e, q => exact q
  | .ok (.ret o), q =>
    obtain ⟨ho, q⟩ := hi o s1 q
    have b1 := t.init.lookup
    have b2 := t.init.bind o
    repeat (any_goals (first | assumption | wp_step))
    refine codeAny_mono q fun r s2 q => ?_
    match r, q with
    | .error e, q => exact q
    | .ok (.ret v), q =>
      obtain ⟨e, q⟩ := (show v = .none ∧ Q o s2 from q)
      cases e
      repeat (any_goals (first | assumption | wp_step))
/-- the new set S is filled from a list of ints -/
theorem set_filled {S l : Addr} {items : Array Value} (ns : List Int) {Q : Value → Shared → Prop} (hh : A.handled = none) (hS : s.heap.get? S = some (set0 w)) (hl : s.heap.IsList l items) (hi : IntsAre items.toList ns) (hb : ns.length + 1 < scanBound)
    (h : ∀ (h' : Heap) (tk c : Nat), SetR w h' S (fun j => decide (j ∈ ns)) c → c ≤ ns.length → (∀ b o, b ≠ S → s.heap.get? b = some o → h'.get? b = some o) → Q .none { s with heap := h', toks := tk }) :
    codeAny (model P w) A (.call (.builtin "set.__init__") ⟨[.ref S, .ref l], []⟩) (wants Q E) s := by
  have hn : items.size = ns.length := by simpa using hi.length
  have isL := hl
  obtain ⟨⟨lc, ld, lx, lo⟩, e, hc, n, hd⟩ := hl
  cases (show lc = .type "list" from hc)
  cases (show lx = .seq items n from hd)
  have sT := F.sub_list_set
  have sF := F.sub_list_frozenset
  have nD : (Value.type "list" == Value.type "dict") = false := by decide
  refine codeAny_call_builtin F.called_set.init.plain F.entry_set_init (check_set_init_1 ⟨_, hS, rfl⟩ ?_)
  unfold Builtin.«set.__init__» noKeywords Builtin.Frozenset.updateFrom
  generalize hPI : pyIter = PI
  wp_walk
  subst hPI
  refine wpAny_pyIter_list isL (wpAny_bind (wpAny_runValue ?_))
  have ltS : S < s.heap.objs.size := Heap.lt_size hS
  have ltL : l < s.heap.objs.size := Heap.lt_size e
  have calm : A.in1.in1.handled = none := by simp [hh]
  have far : S ∉ [s.heap.objs.size, l] := by
    intro z
    rcases List.mem_cons.mp z with q | q
    · exact absurd q (Nat.ne_of_lt ltS)
    · cases List.mem_singleton.mp q
      have z := congrArg (fun o => o.map Obj.data) (e.symm.trans hS)
      exact nomatch z
  refine set_update_ints ((Walks.list calm s.heap.objs.size l (Nat.ne_of_lt ltL) items).toS) S far ns hn hb (fun i v hv => ?_) items.size 0 _ rfl (Nat.zero_le _) ⟨⟨_, Heap.get?_push_size _ rfl, rfl, rfl⟩, isL.push _⟩
    ⟨0, Nat.le_refl 0, setR_new_at (Heap.get?_push_of_some _ hS)⟩ fun s' c m hc' R => ?_
  · obtain ⟨t, q⟩ := PyProof.Rows.IntsAre.int_at hi i v (by rw [Array.getElem?_toList]; exact hv)
    have lt : i < ns.length := hn ▸ (Array.getElem?_eq_some_iff.mp hv).1
    exact ⟨ns[i], t, List.getElem?_eq_getElem lt, by rw [q, List.getD_eq_getElem?_getD, List.getElem?_eq_getElem lt]; rfl⟩
  · obtain ⟨h', g', d', tk', os'⟩ := s'
    cases (show g' = s.gens from m.gens)
    cases (show d' = s.drawn from m.drawn)
    cases (show os' = s.os from m.os)
    refine wpAny_pure (wpAny_pure (h h' tk' c R (hn ▸ hc') fun b o nb q => m.heap b o ?_ (Heap.get?_push_of_some _ q)))
    intro z
    rcases List.mem_cons.mp z with z | z
    · exact nb z
    · cases List.mem_singleton.mp z
      exact absurd (Heap.lt_size q) (Nat.lt_irrefl _)
/-- set(l), l a list of ints -/
theorem set_of_list {l : Addr} {items : Array Value} (ns : List Int) {Q : Value → Shared → Prop} (hh : A.handled = none) (hl : s.heap.IsList l items) (hi : IntsAre items.toList ns) (hb : ns.length + 1 < scanBound)
    (h : ∀ (h' : Heap) (tk c : Nat), SetR w h' s.heap.objs.size (fun j => decide (j ∈ ns)) c → c ≤ ns.length → (∀ b o, s.heap.get? b = some o → h'.get? b = some o) → Q (.ref s.heap.objs.size) { s with heap := h', toks := tk }) :
    wpAny (model P w) A (call (.type "set") [.ref l]) Q E s := by
  refine type_call (Q₁ := fun v s1 => v = .ref s.heap.objs.size ∧ s1 = { s with heap := s.heap.push (set0 w) }) F.called_set (F.typeCall_set_1 _) (code_set_led1 (.ref l) ⟨rfl, rfl⟩) ?_
  rintro v s1 ⟨rfl, rfl⟩
  have new : (s.heap.push (set0 w)).get? s.heap.objs.size = some (set0 w) := Heap.get?_push_size _ rfl
  exact ⟨⟨_, new, rfl⟩, set_filled ns (by simp [hh]) new (hl.push _) hi hb fun h' tk c R hc k => ⟨rfl, h h' tk c R hc fun b o q => k b o (Nat.ne_of_lt (Heap.lt_size q)) (Heap.get?_push_of_some _ q)⟩⟩
end
/-- set(xs), a list or a tuple of ints -/
def rSetSq (w : World) : List V → Hp → VK → Prop := fun xs H Q => ∃ (l : Addr) (ns : List Int), xs = [.ref l] ∧ IsSq H l (ns.map V.int) ∧ ns.length ≤ 60 ∧ ∀ p c, H p = none → c ≤ ns.length → Q (.ref p) (upd H p (SetO w p (fun j => decide (j ∈ ns)) c))
theorem call_setSq {X : Cx} (hc : X.calm = true) : CallR X (.type "set") (rSetSq X.w) := by
  intro pins s σ H xs us Q I r h
  obtain ⟨l, ns, rfl, hq, hz, q⟩ := h
  obtain ⟨u, rfl, rx⟩ := r.one
  cases rx
  have fin : ∀ (h' : Heap) (tk c : Nat), SetR X.w h' s.heap.objs.size (fun j => decide (j ∈ ns)) c → c ≤ ns.length → (∀ b o, s.heap.get? b = some o → h'.get? b = some o) → EP X pins σ Q (.ref s.heap.objs.size) { s with heap := h', toks := tk } := fun h' tk c R hcn k =>
    ⟨.ref s.heap.objs.size, _, I.laid (t' := tk) (o := SetO X.w s.heap.objs.size (fun j => decide (j ∈ ns)) c) k (Nat.le_refl _) (setO_new R), rfl, q _ c (I.hok.fresh (Nat.le_refl _)) hcn⟩
  rcases hq with hq | hq
  · obtain ⟨its, rv, pt, _⟩ := I.list (.of hq)
    exact set_of_list ns (I.ok.hd hc) pt.isList (ints_of_vals rv) (by unfold scanBound; omega) fin
  · obtain ⟨its, rv, pt, _⟩ := I.tuple (.of hq)
    exact call_set_tupI ns (I.ok.hd hc) (show s.heap.IsTuple l its.toArray from pt) (ints_of_vals rv) (by unfold scanBound; omega) fin
end Ag
set_option Elab.async false
set_option linter.all false
set_option maxRecDepth 100000
set_option maxHeartbeats 4000000
namespace Ag
open PySem PySem.Spec PyProof.Rows L2 RZ
/-! ### flat things as data -/
def flatD : V → PyData
  | .bl b => .bool b
  | .int i => .int i
  | .str x => .str x
  | _ => .none
theorem dp_flat {K : PySem.W.Frag} {H : Hp} {v : V} (h : flatI v = true) : Dp K H v (flatD v) := by
  cases v with
  | non => exact .non
  | bl b => exact .bl b
  | int i => exact .int i
  | str x => exact .str x
  | _ => cases h
theorem dp_flats {K : PySem.W.Frag} {H : Hp} : ∀ {xs : List V}, xs.all flatI = true → DpAll K H xs (xs.map flatD)
  | [], _ => .nil
  | x :: xs, h => by
    rw [List.all_cons, Bool.and_eq_true] at h
    exact .cons (dp_flat h.1) (dp_flats h.2)
theorem lay_flats : ∀ (xs : List V), (∀ x ∈ xs, PyData.canLay0 (flatD x) = true) → PyData.canLayAll0 (xs.map flatD) = true
  | [], _ => by unfold PyData.canLayAll0; rfl
  | x :: xs, h => by
    rw [List.map_cons]
    unfold PyData.canLayAll0
    rw [lay_flats xs fun y hy => h y (List.mem_cons_of_mem _ hy), h x (List.mem_cons_self ..)]
    rfl
theorem depth_flats : ∀ (xs : List V), PyData.depthAll (xs.map flatD) = 0
  | [] => by unfold PyData.depthAll; rfl
  | x :: xs => by
    rw [List.map_cons]
    unfold PyData.depthAll
    rw [depth_flats xs]
    cases x <;> rfl
theorem shaped_flats (xs : List V) (h : ∀ x ∈ xs, PyData.canLay0 (flatD x) = true) : SeqAt.shaped (.list (xs.map flatD)) = true := by
  unfold SeqAt.shaped PyData.canLay0 PyData.depth
  rw [lay_flats xs h, depth_flats]
  rfl
theorem lay_ints (zs : List Int) : ∀ x ∈ zs.map V.int, PyData.canLay0 (flatD x) = true := fun x hx => by
  obtain ⟨z, _, rfl⟩ := List.mem_map.mp hx
  rfl
theorem eqv_nil (xs : List V) : PyData.eqv (.list (xs.map flatD)) (.list []) = xs.isEmpty := by
  unfold PyData.eqv
  cases xs <;> rfl
theorem eqv_ints : ∀ (xs ys : List Int), PyData.eqvAll ((xs.map V.int).map flatD) ((ys.map V.int).map flatD) = decide (xs = ys)
  | [], [] => rfl
  | [], _ :: _ => rfl
  | _ :: _, [] => rfl
  | x :: xs, y :: ys => by
    rw [List.map_cons, List.map_cons, List.map_cons, List.map_cons]
    unfold PyData.eqvAll
    rw [eqv_ints xs ys]
    show (x == y && decide (xs = ys)) = decide (x :: xs = y :: ys)
    by_cases h1 : x = y
    · subst h1
      by_cases h2 : xs = ys
      · subst h2; simp
      · simp [h2]
    · simp [h1]
def intsOf (lot : List Nat) : List Int := lot.map fun n : Nat => (n : Int)
theorem nV_ints (lot : List Nat) : nV lot = (intsOf lot).map V.int := by
  unfold nV intsOf
  rw [List.map_map]
  rfl
theorem adj_sorted {lot : List Nat} {ns : List Int} (h1 : ns.Pairwise (· < ·)) (h2 : ∀ k : Int, k ∈ ns ↔ decide (k ∈ intsOf lot) = true) : decide (intsOf lot = ns) = adjB lot := by
  have e : adjB lot = true ↔ lot.Pairwise (· < ·) := adj_iff
  by_cases z : adjB lot = true
  · rw [z]
    refine decide_eq_true ?_
    have hp := e.mp z
    have hn : ∀ k ∈ ns, 0 ≤ k := fun k hk => by
      have := of_decide_eq_true ((h2 k).mp hk)
      unfold intsOf at this
      obtain ⟨x, _, rfl⟩ := List.mem_map.mp this
      omega
    have e2 : intsOf (ns.map Int.toNat) = ns := by
      unfold intsOf
      rw [List.map_map]
      conv => rhs; rw [← List.map_id ns]
      apply List.map_congr_left
      intro x hx
      have := hn x hx
      show ((x.toNat : Nat) : Int) = x
      omega
    rw [← e2]
    congr 1
    refine asc_same hp ?_ fun x => ?_
    · rw [List.pairwise_map]
      refine h1.imp_of_mem fun {a b} ha hb hab => ?_
      have := hn a ha
      have := hn b hb
      omega
    · constructor
      · intro hx
        have h3 : ((x : Nat) : Int) ∈ ns := (h2 _).mpr (decide_eq_true (List.mem_map.mpr ⟨x, hx, rfl⟩))
        exact List.mem_map.mpr ⟨_, h3, by omega⟩
      · intro hx
        obtain ⟨k, hk, rfl⟩ := List.mem_map.mp hx
        have h3 := of_decide_eq_true ((h2 k).mp hk)
        unfold intsOf at h3
        obtain ⟨y, hy, rfl⟩ := List.mem_map.mp h3
        have : ((y : Int)).toNat = y := by omega
        rw [this]; exact hy
  · have z2 : adjB lot = false := by simpa using z
    rw [z2]
    refine decide_eq_false fun y => z (e.mpr ?_)
    rw [← y] at h1
    unfold intsOf at h1
    rw [List.pairwise_map] at h1
    exact h1.imp fun h => by omega
def spJudged : Sp := fun vs H Q _ => ∃ (ta la ca S : Nat) (t : Tabs) (log : List Nat) (cs : List (Nat × Nat)) (v : V), vs = [.ref ta, .ref la, .ref ca, v] ∧ TabAt H ta t ∧ Wf t S ∧ H la = some (.tup (nV log)) ∧ (∀ d ∈ log, d < t.length) ∧ log.length ≤ 100 ∧ PairsAt H ca cs ∧
  CopiesOk S log.length cs ∧ cs.length ≤ 100 ∧ ((flatI v = true ∧ ∀ H', Same H H' → Q (.bl false) H') ∨ ∃ a xs, v = .ref a ∧ IsSq H a xs ∧ xs.all flatI = true ∧ (∀ x ∈ xs, PyData.canLay0 (flatD x) = true) ∧ xs.length ≤ 60 ∧ ∀ H', Same H H' → Q (.bl (rightV t log cs xs)) H')
section
variable {P : Program} {w : World} {K : PySem.W.Frag} {mg : Str → Option Value} {base : Heap} {f : Addr} {fd : FuncData}
abbrev nJudged : List Str := ["_law_tables_here", "_law_log", "_law_copies", "_law_value", "_law_one"]
theorem scJudged : FnScope nJudged ["_law_tables_here", "_law_log", "_law_copies", "_law_value"] (defScope sJudged) := ⟨rfl, rfl, rfl, by decide +kernel, rfl, by decide +kernel, by decide +kernel⟩
theorem ok_judged (T : Txt mg) (C_law_is_enough : Cl P w K mg base CX0 2 "_law_is_enough" spEnough) (F : FnP K "_law_judged" sJudged f fd) (hm : mg "_law_judged" = some (.ref f)) : Cl P w K mg base CX0 3 "_law_judged" spJudged := by
  refine cal_of (ps := ["_law_tables_here", "_law_log", "_law_copies", "_law_value"]) (F.ok scJudged (fun vs H Q E h => ?_) (fun cdv A outer s H vs Q E hr h => ⟨_, PSs.nox (pss_cons (ps_if (pt_not (pt_val (pe_callB call_isiT rfl T.isi (by decide +kernel) (pa_cons (pv 3) (pa_cons (pe_tup (pa_cons (pe_bltn (by rfl) T.list (by decide +kernel) (v := .ty "list") rfl) (pa_cons (pe_bltn (by rfl) T.tuple (by decide +kernel) (v := .ty "tuple") rfl) pa_nil))) pa_nil))) (by intro _; rfl)))
       (pss_one (ps_ret pe_bl))
       pss_nil)
       (pss_cons (ps_if (pt_cmpR (op_neD hr.units) (pe_lc (own := [("_law_one", 4)]) (g := (gName 4)) (tt := tOr (tNot (tB (tCB (rIsi K) (tCons (tVar 4) (tCons (tC (.ty "int")) tNil))))) (tOr (tB (tCB (rIsi K) (tCons (tVar 4) (tCons (tC (.ty "bool")) tNil)))) (tNot (tTest (tChain (rI0 fun i j => V.bl (decide (i ≤ j))) (rI0 fun i j => V.bl (decide (i < j))) (tC (.int 0)) (tVar 4) (tCB (fun xs H Q => ∃ x n, xs = [x] ∧ LenV K x H n ∧ Q (V.int ((n : Nat) : Int)) H) (tCons (tVar 1) tNil))))))) rfl scJudged.nd (pi_sq (pv 3)) (blkOk_by (own := [("_law_one", 4)]) (N := nJudged) (sc := defScope sJudged) (by decide +kernel)) (fun _ _ _ _ _ => (pg_name (i := 4) scJudged.nd rfl (Or.inl rfl))) (fun _ _ _ _ _ => (pts_one (PW.pt (pw_or (pt_not (pt_val (pe_callB (call_isi) (by rfl) T.isi (by decide +kernel) (pa_cons (pv 4) (pa_cons (pe_bltn (by rfl) T.int (by decide +kernel) (v := .ty "int") rfl) pa_nil))) (by intro _; rfl))) (pw_or (pt_val (pe_callB (call_isi) (by rfl) T.isi (by decide +kernel) (pa_cons (pv 4) (pa_cons (pe_bltn (by rfl) T.bool (by decide +kernel) (v := .ty "bool") rfl) pa_nil))) (by intro _; rfl)) (pw_or1 (pt_not (pt_chain op_le op_lt pe_int (pv 4) (pe_callB (call_len) (by rfl) T.len (by decide +kernel) (pa_cons (pv 1) pa_nil)))))))))) (fun _ _ _ _ _ => (pv 4))) (pe_lst pa_nil) (nomark _))
       (pss_one (ps_ret pe_bl))
       pss_nil)
       (pss_cons (ps_if (pt_cmpR (op_neD hr.units) (pe_callTy (call_listSq) (by rfl) T.list (by decide +kernel) (pa_cons (pv 3) pa_nil)) (pe_callB (cr_sortedSet rfl) (by rfl) T.sorted (by decide +kernel) (pa_cons (pe_callTy (call_setSq rfl) (by rfl) T.set (by decide +kernel) (pa_cons (pv 3) pa_nil)) pa_nil)) (nomark _))
       (pss_one (ps_ret pe_bl))
       pss_nil)
       (pss_one (ps_ret (pe_cl C_law_is_enough hr (by decide) rfl (pa_cons (pv 0) (pa_cons (pv 1) (pa_cons (pv 2) (pa_cons (pv 3) pa_nil)))))))))), ?_⟩))
    hm F.kp (F.bindsN fun _ _ _ _ _ _ us hl => match us, hl with | [_, _, _, _], _ => rfl)
  · obtain ⟨_, _, _, _, _, _, _, _, rfl, _⟩ := h
    rfl
  · obtain ⟨ta, la, ca, S, t, log, cs, v, rfl, hT, W, hL, hlog, hz, hC, hco, hcz, h⟩ := h
    refine ⟨_, rfl, by show 2 ≤ sizeLine; decide, fun tp htp => ?_⟩
    have s1 : Same H (upd H tp (.tup [.ty "list", .ty "tuple"])) := same_new htp
    have e1 : (upd H tp (.tup [.ty "list", .ty "tuple"])) tp = some (.tup [.ty "list", .ty "tuple"]) := upd_same
    generalize upd H tp (.tup [.ty "list", .ty "tuple"]) = H1 at s1 e1
    rcases h with ⟨hv, q⟩ | ⟨a, xs, rfl, hX, hf, hly, hxz, q⟩
    · exact ⟨v, tp, _, _, _, _, rfl, e1, .cons (.ty "list") (.cons (.ty "tuple") .nil), ty_flat hv, kit_seq hv, _, rfl, iteT (q _ s1)⟩
    · have hX1 := hX.same s1
      have isi : ∃ tv, TyX K H1 (.ref a) tv ∧ PySem.W.kitAny K tv [.type "list", .type "tuple"] = some true := by
        rcases hX1 with h | h
        · exact ⟨_, .base (.lst h), kit_list⟩
        · exact ⟨_, .base (.tup h), kit_tuple⟩
      obtain ⟨tv, tx, tk⟩ := isi
      refine ⟨.ref a, tp, _, tv, _, true, rfl, e1, .cons (.ty "list") (.cons (.ty "tuple") .nil), tx, tk, _, rfl, iteF ?_⟩
      refine ⟨_, rfl, a, xs, rfl, hX1, fun J G wk hG D hD => lc_it wk (fun i H' => Same H1 H' ∧ H' D = some (.lst ((xs.take i).filter fun x => !below (log.length : Int) x))) ⟨same_new hD, upd_same⟩ (fun i H' _ ⟨s2, _⟩ => hG _ (sq_at hX1 s2)) ?_ ?_⟩
      · rintro i x H3 H2 hi ⟨s2, h2⟩ ⟨rfl, hx⟩
        have hfx := List.all_eq_true.mp hf x (List.mem_of_getElem? hx)
        have hlen : LenV K (.ref la) H2 (nV log).length := .inr ⟨_, .of (s2 _ _ (s1 _ _ hL)), rfl⟩
        have et : (xs.take (i + 1)).filter (fun x => !below (log.length : Int) x) = (xs.take i).filter (fun x => !below (log.length : Int) x) ++ (if below (log.length : Int) x = true then [] else [x]) := by
          rw [take_succ' hx, List.filter_append]
          congr 1
          cases hb : below (log.length : Int) x
          · rw [if_neg (by simp)]; simp [hb]
          · rw [if_pos rfl]; simp [hb]
        have app : below (log.length : Int) x = false → ∃ acc, H2 D = some (.lst acc) ∧ acc.length < sizeLine ∧ (Same H1 (upd H2 D (.lst (acc ++ [x]))) ∧ (upd H2 D (.lst (acc ++ [x]))) D = some (.lst ((xs.take (i + 1)).filter fun x => !below (log.length : Int) x))) := fun hb => by
          refine ⟨_, h2, ?_, sm_upd1 s2 hD, ?_⟩
          · have h3 := List.length_filter_le (fun x => !below (log.length : Int) x) (xs.take i)
            rw [List.length_take] at h3
            exact wl _ (by omega)
          · rw [upd_same, et, if_neg (by rw [hb]; exact Bool.false_ne_true)]
        refine ⟨rfl, _, rfl, x, _, _, _, _, rfl, .ty "int", ty_flat hfx, kit_int hfx, _, rfl, ?_⟩
        cases x with
        | int j =>
          refine iteF ⟨_, rfl, _, _, _, _, _, rfl, .ty "bool", ty_flat hfx, kit_bool hfx, _, rfl, iteF ⟨_, rfl, _, _, rfl, rfl, _, rfl, ?_⟩⟩
          refine ite2 (fun c1 => ⟨_, rfl, _, _, rfl, hlen, _, _, rfl, rfl, _, rfl, ?_⟩) (fun c1 => ⟨_, rfl, ?_⟩)
          · rw [nV_length]
            by_cases c2 : j < (log.length : Int)
            · rw [decide_eq_true c2]
              have hb : below (log.length : Int) (.int j) = true := by
                show (decide (0 ≤ j) && decide (j < (log.length : Int))) = true
                rw [c1, decide_eq_true c2]; rfl
              rw [if_pos hb, List.append_nil] at et
              exact iteF ⟨s2, by rw [et]; exact h2⟩
            · rw [decide_eq_false c2]
              have hb : below (log.length : Int) (.int j) = false := by
                show (decide (0 ≤ j) && decide (j < (log.length : Int))) = false
                rw [decide_eq_false c2, Bool.and_false]
              exact iteT ⟨_, rfl, app hb⟩
          · have hb : below (log.length : Int) (.int j) = false := by
              show (decide (0 ≤ j) && decide (j < (log.length : Int))) = false
              have : decide (0 ≤ j) = false := by simpa using c1
              rw [this, Bool.false_and]
            exact iteT ⟨_, rfl, app hb⟩
        | bl b => exact iteF ⟨_, rfl, _, _, _, _, _, rfl, .ty "bool", ty_flat hfx, kit_bool hfx, _, rfl, iteT (iteT ⟨_, rfl, app rfl⟩)⟩
        | non => exact iteT (iteT ⟨_, rfl, app rfl⟩)
        | str y => exact iteT (iteT ⟨_, rfl, app rfl⟩)
        | _ => cases hfx
      · rintro H2 ⟨s2, h2⟩
        rw [List.take_length] at h2
        have hfb : (xs.filter fun x => !below (log.length : Int) x).all flatI = true := List.all_eq_true.mpr fun x hx => List.all_eq_true.mp hf x (List.mem_filter.mp hx).1
        refine ⟨by show 0 ≤ sizeLine; decide, fun D0 hD0 => ⟨_, .list [], .lst (.of (upd_keep hD0 h2)) (dp_flats hfb), .lst (.of upd_same) .nil, shaped_flats _ (fun x hx => hly x (List.mem_filter.mp hx).1), rfl, _, rfl, ?_⟩⟩
        rw [eqv_nil]
        have s3 : Same H (upd H2 D0 (.lst [])) := (s1.trans s2).trans (same_new hD0)
        generalize upd H2 D0 (.lst []) = H3 at s3
        by_cases hb : xs.all (below (log.length : Int)) = true
        · have e0 : (xs.filter fun x => !below (log.length : Int) x).isEmpty = true := by
            rw [List.isEmpty_iff, List.filter_eq_nil_iff]
            intro x hx
            rw [List.all_eq_true.mp hb x hx]
            simp
          rw [e0]
          refine iteF ?_
          have el := nV_natsOf hb
          have er : rightV t log cs xs = (adjB (natsOf xs) && enough t log cs (natsOf xs)) := by
            unfold rightV isLotV
            rw [hb, Bool.true_and]
          rw [er] at q
          generalize natsOf xs = lot at el q
          subst el
          rw [nV_length] at hxz
          have hp : ∀ x ∈ lot, x < log.length := below_all.mp hb
          have hX3 := hX.same s3
          rw [nV_ints] at hX3
          refine ⟨_, rfl, a, _, rfl, hX3, fun l1 hl1 => ⟨_, rfl, a, intsOf lot, rfl, hX3.same (same_new hl1), by unfold intsOf; rw [List.length_map]; exact hxz, fun ps c hps hc => ⟨ps, _, c, rfl, upd_same, by unfold intsOf at hc; rw [List.length_map] at hc; omega, fun ns p2 n1 n2 n3 hp2 => ?_⟩⟩⟩
          have s4 : Same H (upd (upd (upd H3 l1 (.lst ((intsOf lot).map V.int))) ps (SetO w ps (fun j => decide (j ∈ intsOf lot)) c)) p2 (.lst (ns.map V.int))) := sm_new (sm_new (sm_new s3 hl1) hps) hp2
          have f1 : (upd (upd (upd H3 l1 (.lst ((intsOf lot).map V.int))) ps (SetO w ps (fun j => decide (j ∈ intsOf lot)) c)) p2 (.lst (ns.map V.int))) l1 = some (.lst ((intsOf lot).map V.int)) := upd_keep hp2 (upd_keep hps upd_same)
          have f2 : (upd (upd (upd H3 l1 (.lst ((intsOf lot).map V.int))) ps (SetO w ps (fun j => decide (j ∈ intsOf lot)) c)) p2 (.lst (ns.map V.int))) p2 = some (.lst (ns.map V.int)) := upd_same
          have fl : ∀ zs : List Int, (zs.map V.int).all flatI = true := fun zs => List.all_eq_true.mpr fun x hx => by
            obtain ⟨z, _, rfl⟩ := List.mem_map.mp hx
            rfl
          refine ⟨_, _, .lst (.of f1) (dp_flats (fl _)), .lst (.of f2) (dp_flats (fl _)), shaped_flats _ (lay_ints _), shaped_flats _ (lay_ints _), _, rfl, ?_⟩
          have ee : PyData.eqv (.list (((intsOf lot).map V.int).map flatD)) (.list ((ns.map V.int).map flatD)) = adjB lot := by
            unfold PyData.eqv
            rw [eqv_ints]
            exact adj_sorted n1 n2
          rw [ee]
          cases ha : adjB lot with
          | false =>
            rw [ha, Bool.false_and] at q
            exact iteT (q _ s4)
          | true =>
            rw [ha, Bool.true_and] at q
            exact iteF ⟨_, rfl, _, rfl, _, rfl, _, rfl, ta, la, ca, a, S, t, log, cs, lot, rfl, hT.same s4, W, s4 _ _ hL, hlog, hz, hC.same s4, hco, hcz, hX.same s4, hp, by omega, fun H5 s5 => q _ (s4.trans s5)⟩
        · have e0 : (xs.filter fun x => !below (log.length : Int) x).isEmpty = false := by
            rw [Bool.eq_false_iff]
            intro z
            rw [List.isEmpty_iff, List.filter_eq_nil_iff] at z
            exact hb (List.all_eq_true.mpr fun x hx => by have := z x hx; simpa using this)
          rw [e0]
          have er : rightV t log cs xs = false := by
            unfold rightV isLotV
            have : xs.all (below (log.length : Int)) = false := by simpa using hb
            rw [this, Bool.false_and, Bool.false_and]
          rw [er] at q
          exact iteT (q _ s3)
end
end Ag
set_option Elab.async false
set_option linter.all false
set_option maxRecDepth 100000
set_option maxHeartbeats 4000000
/-! ### repr -/
namespace Ag
open PySem PySem.Spec PyProof.Rows L2 RZ
/-- small data whose text is short -/
structure Shows (d : PyData) : Prop where
  ok : d.showable = true
  nod : d.hasDict = false
  dep : d.depth ≤ 40
  fit : d.shown.length ≤ sizeLine
def rRepr (K : PySem.W.Frag) : List V → Hp → VK → Prop := fun xs H Q => ∃ x d, xs = [x] ∧ Dp K H x d ∧ Shows d ∧ Q (.str d.shown) H
theorem call_repr {X : Cx} (hg : X.A.guards = some []) (hu : X.A.units + 64 < cLine) : CallR X (.builtin "repr") (rRepr X.K) := by
  intro pins s σ H xs us Q I r h
  obtain ⟨x, d, rfl, hd, sh, q⟩ := h
  obtain ⟨u, rfl, ru⟩ := vals1 r
  have dk := sh.dep
  cases hd with
  | non =>
    obtain rfl : u = Value.none := ru
    refine PySem.P.repr_of_none ⟨.str _, H, I.tok _, ⟨_, rfl⟩, ?_⟩
    unfold PyData.shown at q
    exact q
  | bl b =>
    obtain rfl : u = Value.bool b := ru
    refine PySem.P.repr_of_bool ⟨.str _, H, I.tok _, ⟨_, rfl⟩, ?_⟩
    unfold PyData.shown at q
    cases b <;> exact q
  | int i =>
    obtain ⟨t, rfl⟩ := ru
    have z := sh.ok
    unfold PyData.showable at z
    refine PySem.P.repr_of_int (of_decide_eq_true z) ⟨.str _, H, I.tok _, ⟨_, rfl⟩, ?_⟩
    unfold PyData.shown at q
    exact q
  | str y =>
    obtain ⟨t, rfl⟩ := ru
    have z := sh.fit
    unfold PyData.shown at z q
    exact PySem.P.repr_of_str ⟨.str _, H, I.tok _, ⟨_, rfl⟩, q⟩ z
  | @lst a ys ds h1 h2 =>
    obtain rfl : u = Value.ref a := ru
    obtain ⟨as, rr⟩ := Dp.reads I (.list ds) (.ref a) (.ref a) (.lst h1 h2) rfl
    exact PySem.repr_of_reads' rr sh.ok (fun z => by rw [sh.nod] at z; cases z) hg (by omega) (fun _ _ e => e) (fun h' u tk k => ⟨.str _, H, I.kept k, ⟨_, rfl⟩, q⟩) sh.fit
  | @tup a ys ds h1 h2 =>
    obtain rfl : u = Value.ref a := ru
    obtain ⟨as, rr⟩ := Dp.reads I (.tuple ds) (.ref a) (.ref a) (.tup h1 h2) rfl
    exact PySem.repr_of_reads' rr sh.ok (fun z => by rw [sh.nod] at z; cases z) hg (by omega) (fun _ _ e => e) (fun h' u tk k => ⟨.str _, H, I.kept k, ⟨_, rfl⟩, q⟩) sh.fit
/-- x not in (a tuple) -/
def rNotInT (K : PySem.W.Frag) : R2 := fun x y H Q => ∃ d ds, Dp K H x d ∧ Dp K H y (.tuple ds) ∧ SeqAt.shaped d = true ∧ SeqAt.shaped (.tuple ds) = true ∧ Q (.bl (!ds.any fun z => PyData.eqv z d)) H
theorem op_notInT {X : Cx} (hu : X.A.units + 65 < cLine) : OpR X (compareOp .NotIn) (rNotInT X.K) := by
  intro pins s σ H x y v u Q I rx ry h
  obtain ⟨d, ds, hd, he, sd, se, q⟩ := h
  obtain ⟨as, r1⟩ := Dp.reads I d x v hd rx
  obtain ⟨bs, r2⟩ := Dp.reads I (.tuple ds) y u he ry
  exact SeqAt.notIn_tuple_reads r2 r1 (SeqAt.canLay_of_shaped se) (SeqAt.canLay_of_shaped sd) (room_in_shaped sd hu) ⟨.bl _, H, I, rfl, q⟩
end Ag
set_option Elab.async false
set_option linter.all false
set_option maxRecDepth 100000
set_option maxHeartbeats 4000000
/-! ### several clauses, each with a name; isinstance of an exception that has a dict -/
namespace L2
open PySem PySem.Spec PyProof.Rows
/-- the ends of a suite, when the clause's name has gone -/
def Ends.less (D : Ends) (i : Nat) : Ends := { nx := fun σ H => D.nx (σ.set i none) H, rt := D.rt, bk := fun σ H => D.bk (σ.set i none) H, ct := fun σ H => D.ct (σ.set i none) H }
/-- what the clauses wish of an exception of the body, one after the other; none may be left over -/
def wManyA (K : PySem.W.Frag) (n0 i : Nat) (D : Ends) : List (Value × (Addr → Value → Option Addr → TS)) → WX
  | [] => fun _ _ _ _ => False
  | (c, ts) :: r => fun cls d σ H => ∃ b, PySem.W.exmOne K cls c = some b ∧ (b = true → ∀ a, H a = none → σ.length = n0 → ts a cls d (D.less i) (σ.set i (some (.ref a))) H) ∧ (b = false → wManyA K n0 i D r cls d σ H)
inductive HdsA (X : Cx) (n : Str) : List ExceptHandler → List (Value × (Addr → Value → Option Addr → TS)) → Prop
  | nil : HdsA X n [] []
  | cons {x : Str} {c : Value} {ts : Addr → Value → Option Addr → TS} {b₀ : Stmt} {suite : List Stmt} {np pos' : Pos} {hds : List ExceptHandler} {l : List (Value × (Addr → Value → Option Addr → TS))} (hc : Names X x c)
      (hsu : ∀ (a : Addr) (oe : Obj) (cls : Value) (d : Option Addr) (pn : List (Addr × Obj)), Zc cls d oe → (∃ vs, oe.data = .fields vs) → PSs (X.suite a ((a, oe) :: pn)) (b₀ :: suite) (ts a cls d)) (r : HdsA X n hds l) :
      HdsA X n (.ExceptHandler (some (.Name x np)) (some n) (b₀ :: suite) pos' :: hds) ((c, ts) :: l)
/-- an exception that a try has caught: a, of the class cls. The clauses are asked at s; whatever they do to the exception's slots alone leaves all else as it was -/
structure Caught (X : Cx) (pins : List (Addr × Obj)) (B : Heap) (a : Addr) (cls : Value) (d : Option Addr) (σ : St) (H : Hp) (s : Shared) : Prop where
  fly : HandSPX.FlyingZ B (X.env :: X.outer) a (Zc cls d) s.heap
  new : H a = none
  noL : a ≠ X.env.locals
  noF : a ∉ X.fs
  inv : ∀ h', B.StaysIn h' → s.heap.UpToSlots h' → Inv X pins σ H { s with heap := h' }
section
variable {X : Cx} {pins : List (Addr × Obj)} {B : Heap} {a : Addr} {cls : Value} {d : Option Addr} {σ : St} {H : Hp} {s : Shared} {D : Ends} {i : Nat} {n : Str}
theorem SP.move {Z : Cx} {pins' : List (Addr × Obj)} {f : Flow} (k : ∀ {σ H}, Inv Z pins' σ H s → Inv X pins σ H s) (h : SP Z pins' D f s) : SP X pins D f s := by
  match f, h with
  | .next, ⟨_, _, J, q⟩ => exact ⟨_, _, k J, q⟩
  | .brk, ⟨_, _, J, q⟩ => exact ⟨_, _, k J, q⟩
  | .cont, ⟨_, _, J, q⟩ => exact ⟨_, _, k J, q⟩
  | .ret _, ⟨_, _, _, J, r, q⟩ => exact ⟨_, _, _, k J, r, q⟩
theorem Caught.suite {h' : Heap} (C : Caught X pins B a cls d σ H s) (fl : HandSPX.FlyingZ B (X.env :: X.outer) a (Zc cls d) h') (up : s.heap.UpToSlots h') :
    ∃ oe : Obj, (∃ vs, oe.data = .fields vs) ∧ Zc cls d oe ∧ h'.get? a = some oe ∧ Inv (X.suite a ((a, oe) :: (X.pn ++ pins))) [] σ H { s with heap := h' } := by
  obtain ⟨oe, vs, e, z, v⟩ := fl.there
  exact ⟨oe, ⟨vs, v⟩, z, e, (C.inv h' fl.1 up).suite e v C.new C.noL C.noF⟩
/-- one clause with a name: where its class fits, its suite is run, and the name goes -/
theorem Caught.clause {x : Str} {c : Value} {b : Bool} {b₀ : Stmt} {suite : List Stmt} {np pos' : Pos} {hds : List ExceptHandler} (ok : X.Ok) (C : Caught X pins B a cls d σ H s) (hN : X.N.Nodup) (hi : X.N[i]? = some n) (hn : X.env.kindOf n = some .local) (hc : Names X x c)
    (hb : PySem.W.exmOne X.K cls c = some b) (yes : b = true → ∀ oe, Zc cls d oe → (∃ vs, oe.data = .fields vs) → ∃ ts, PSs (X.suite a ((a, oe) :: (X.pn ++ pins))) (b₀ :: suite) ts ∧ ts (D.less i) (σ.set i (some (.ref a))) H)
    (no : b = false → wpAny (model X.prog X.w) X.A (handleBy (.ref a) X.env hds) (SP X pins D) X.xe s) :
    wpAny (model X.prog X.w) X.A (handleBy (.ref a) X.env (.ExceptHandler (some (.Name x np)) (some n) (b₀ :: suite) pos' :: hds)) (SP X pins D) X.xe s := by
  refine wpAny_handleBy_cons (codeAny_handlers_test ?_) nofun
  obtain ⟨oe, _, z, e, S⟩ := C.suite C.fly (.refl _)
  have fits := PySem.W.exm_one (M := model X.prog X.w) S.kIn (fun A Q E s' k q => wpAny_typeOf_ref (k _ _ e) (by rw [z.1]; exact q)) hb
  have go : ∀ {Q : Value → Shared → Prop} {E : Value → Shared → Prop}, Q c s → wpAny (model X.prog X.w) (X.A.mark (some (.ref a))) (eval (.Name x np) X.env) Q E s := fun q => by
    match hc with
    | ⟨g, nd, .inl m⟩ => exact ld_glob S g m q nd
    | ⟨g, nd, .inr ⟨m, v, nn⟩⟩ => exact ld_blt S g m v q nn nd
  refine go (fits.here ?_)
  match b, yes, no with
  | false, _, no => exact no rfl
  | true, yes, _ =>
    refine codeAny_handlers_suite_as (HandSPX.lands_againZ C.fly fun h' fl up => ?_)
    obtain ⟨oe', v', z', e', S'⟩ := C.suite fl up
    obtain ⟨ts, run, q⟩ := yes rfl oe' z' v'
    refine store_ok (X := X.suite a ((a, oe') :: (X.pn ++ pins))) (v := .ref a) S' hN hi (.inl hn) rfl (fun s5 S5 => wpAny_mono (run.run [] s5 _ H _ S5 q) (fun f s6 h => ?_) fun _ _ z => z.elim) (.inr hn)
    match f, h with
    | .next, ⟨_, _, J, q⟩ => exact gone_ok (J.unsuite ok) hN hi hn fun s7 J7 => ⟨_, _, J7, q⟩
    | .brk, ⟨_, _, J, q⟩ => exact gone_ok (J.unsuite ok) hN hi hn fun s7 J7 => ⟨_, _, J7, q⟩
    | .cont, ⟨_, _, J, q⟩ => exact gone_ok (J.unsuite ok) hN hi hn fun s7 J7 => ⟨_, _, J7, q⟩
    | .ret _, ⟨_, _, _, J, r, q⟩ => exact gone_ok (J.unsuite ok) hN hi hn fun s7 J7 => ⟨_, _, _, J7, r, q⟩
/-- all clauses, one after the other -/
theorem Caught.all {hds : List ExceptHandler} {l : List (Value × (Addr → Value → Option Addr → TS))} (ok : X.Ok) (C : Caught X pins B a cls d σ H s) (hN : X.N.Nodup) (hi : X.N[i]? = some n) (hn : X.env.kindOf n = some .local) (hh : HdsA X n hds l) :
    wManyA X.K X.N.length i D l cls d σ H → wpAny (model X.prog X.w) X.A (handleBy (.ref a) X.env hds) (SP X pins D) X.xe s := by
  have len : σ.length = X.N.length := (C.inv _ C.fly.1 (.refl _)).len
  induction hh with
  | nil => exact False.elim
  | cons hc hs _ ih =>
    rintro ⟨b, e, yes, no⟩
    exact C.clause ok hN hi hn hc e (fun t oe z v => ⟨_, hs a oe cls d _ z v, yes t a C.new len⟩) fun f => ih (no f)
theorem ps_try_manyA {body : List Stmt} {h₀ : ExceptHandler} {hds : List ExceptHandler} {l : List (Value × (Addr → Value → Option Addr → TS))} {pos : Pos} {tb : WX → TS} (hs : X.stack = X.env :: X.outer) (hf : X.env.frame = some X.env.locals) (hN : X.N.Nodup) (hi : X.N[i]? = some n) (hln : X.env.kindOf n = some .local)
    (hb : ∀ (W : WX) (pn : List (Addr × Obj)) (xe : Value → Shared → Prop), Takes (X.tr pn xe) W → PassesOwn (model X.prog X.w) X.A X.env xe → PSs (X.tr pn xe) body (tb W))
    (hh : HdsA X n (h₀ :: hds) l) : PS X (.Try body (h₀ :: hds) [] [] pos) (fun D σ H => tb (wManyA X.K X.N.length i D l) D σ H) := by
  refine ⟨fun pins s σ H D I h => wpAny_Try_except ?_⟩
  have ok := I.ok
  have fr : X.A.frames = some (X.env :: X.outer) := ok.frames.trans (congrArg some hs)
  have catch_ : Takes (X.tr (X.pn ++ pins) fun e s₁ => wpAny (model X.prog X.w) X.A (noteFrame e X.env) (fun _ s₂ => wpAny (model X.prog X.w) X.A (setFlight e none) (fun _ s₃ => wpAny (model X.prog X.w) X.A (handleBy e X.env (h₀ :: hds)) (SP X pins D) X.xe s₃) X.xe s₂) X.xe s₁)
      (wManyA X.K X.N.length i D l) := by
    rintro u s' ⟨a, B, sI, _, σ', H', cls, d, rfl, J, nb, up, sky, na, os, ag, w⟩
    rw [show (X.tr _ _).stack = X.env :: X.outer from hs] at sky
    refine Sky.land Zc.steady fr hf sky fun h3 fl up3 => ?_
    obtain ⟨oe, vs, e, _, v⟩ := fl.there
    have no : a ∉ frs (X.env :: X.outer) := fun m => by
      obtain ⟨_, o, e', nd⟩ := fl.2.2.1.mem m
      cases e.symm.trans e'
      exact nd _ v
    refine Caught.all (B := B) ok ⟨fl, na, fun z => no (List.mem_filterMap.mpr ⟨_, List.mem_cons_self, z ▸ hf⟩), fun m => no ?_, fun h' st up' => (J.ofTry ok).landed nb st ((up.trans up3).trans up') os ag⟩ hN hi hln hh w
    obtain ⟨g, hg, q⟩ := List.mem_filterMap.mp m
    exact List.mem_filterMap.mpr ⟨g, List.mem_cons_of_mem _ hg, q⟩
  refine wpAny_mono ((hb _ _ _ catch_ PassesOwn.looking).run [] s σ H D (I.toTry _) h) (fun f s1 q => ?_) fun _ _ z => z
  have q' := SP.move (X := X) (pins := pins) (fun J => J.ofTry ok) q
  match f, q' with
  | .next, q' => exact wpAny_execs_nil q'
  | .brk, q' => exact q'
  | .cont, q' => exact q'
  | .ret _, q' => exact q'
end
end L2
namespace Ag
open PySem PySem.Spec PySem.W PySem.Calls PyProof.Rows
/-- isinstance says yes by the class alone: what __class__ says is not asked -/
theorem isa_yes {P : Program} {w : World} {A : Around} {E : Value → Shared → Prop} {s : Shared} {K : Frag} {x t c : Value} {Q : Value → Shared → Prop} (L : Looks (model P w) s.heap (typeOf x) t) (X : K.In s.heap) (e : kitOne K t c = some true)
    (hx : x ≠ .builtin "__main__.__loader__#opaque") (h : ∀ tk, Q (.bool true) { s with toks := tk }) : wpAny (model P w) A (call (.builtin "isinstance") [x, c]) Q E s := by
  refine call_isinstance_of ?_ hx
  unfold Builtin.«isinstance.nested»
  refine wpAny_bind (L.at ?_)
  unfold kitOne at e
  split at e
  · next q =>
    rw [if_pos q]
    exact wpAny_bind (wpAny_rule (wpAny_pure (h s.toks)))
  · next q =>
    obtain ⟨ht, hi, hs⟩ := kit_cls (M := model P w) X e
    rw [if_neg q]
    refine wpAny_bind (ht.at ?_)
    rw [if_pos (by decide)]
    k_delta "plainIsInstance"
    refine wpAny_bind (wpAny_bind (hi.at ?_))
    rw [if_neg (by decide)]
    refine wpAny_bind ((L.andThen hs).at ?_)
    exact wpAny_pure (wpAny_pure (h s.toks))
end Ag
namespace L2
open PySem PySem.Spec PyProof.Rows
/-- isinstance(e, c), e the exception that the suite holds: yes -/
def rIsD (K : PySem.W.Frag) (D a : Addr) : List V → Hp → VK → Prop := fun xs H Q => ∃ (c : V) (cv : Value), xs = [.ref a, c] ∧ (∀ u, RelV c u → u = cv) ∧ PySem.W.kitOne K (.ref D) cv = some true ∧ Q (.bl true) H
theorem call_isD {X : Cx} {a D : Addr} {d : Option Addr} {oe : Obj} {pn : List (Addr × Obj)} (hz : Zc (.ref D) d oe) : CallR (X.suite a ((a, oe) :: pn)) (.builtin "isinstance") (rIsD X.K D a) := by
  intro pins s σ H xs us Q I r h
  obtain ⟨c, cv, rfl, hcv, e, q⟩ := h
  obtain ⟨u, w', rfl, ru, rw'⟩ := vals2 r
  cases ru
  cases hcv _ rw'
  have hget := (I.pin (a, oe) (List.mem_append.mpr (.inl List.mem_cons_self))).1
  exact Ag.isa_yes (fun A Q E s k q => wpAny_typeOf_ref (k _ _ hget) (by rw [hz.1]; exact q)) I.kIn e (fun z => nomatch z) fun tk => ⟨.bl true, H, I.tok _, rfl, q⟩
end L2
set_option Elab.async false
set_option linter.all false
set_option maxRecDepth 100000
set_option maxHeartbeats 4000000
/-! ### the law's own call, at the very top: there no repr is under way -/
namespace Ag
open PySem PySem.Spec PyProof.Rows L2 LamX
/-- what the law promises of one value, kept where no repr is under way -/
def KeptG (P : Program) (w : World) (K : PySem.W.Frag) (mg : Str → Option Value) (base : Heap) (CX : CXT) (k : Nat) (f : Addr) (fd : FuncData) (x : Str) (sp : Sp) : Prop :=
  ∀ (A : Around) (outer : List Env) (s : Shared) (H : Hp) (u : Value) (v : V) (Q : VK) (E : XK), A.guards = some [] → Room k A → Env0 P w K mg base A outer s H → BindsTo s fd ⟨[u], []⟩ [(x, u)] → L2.RelV v u → sp [v] H Q E →
    codeAny (model P w) A (.call (.ref f) ⟨[u], []⟩) (CR CX outer P w H s Q E) s
/-- the table's object and the script's, as they lie at the start -/
def tabO : Obj := { cls := .none, data := .fields #[] }
def scrO (us : List Value) : Obj := { cls := .type "list", data := .seq us.toArray }
/-- what is tracked at the start: the table T, and the script a where K does not hold it -/
def topH (K : PySem.W.Frag) (T a : Addr) (us : List Value) (xs : List V) : Hp := fun b =>
  if b = T then some (.tbl #[]) else if b = a ∧ K.lookup a = none then some (.frz (scrO us) (.lst xs)) else none
section
variable {K : PySem.W.Frag} {T a : Addr} {us : List Value} {xs : List V} {h : Heap}
theorem topH_some {b : Addr} {u : HO} (e : topH K T a us xs b = some u) : (b = T ∧ u = .tbl #[]) ∨ (b = a ∧ K.lookup a = none ∧ u = .frz (scrO us) (.lst xs)) := by
  unfold topH at e
  split at e
  · next q => exact .inl ⟨q, (Option.some.inj e).symm⟩
  · split at e
    · next q => exact .inr ⟨q.1, q.2, (Option.some.inj e).symm⟩
    · cases e
theorem topH_none (hT : h.get? T = some tabO) (ha : h.get? a = some (scrO us)) {b : Addr} {o : Obj} (e : h.get? b = some o) (n1 : o.data ≠ tabO.data) (n2 : o.data ≠ (scrO us).data) : topH K T a us xs b = none := by
  match q : topH K T a us xs b with
  | none => rfl
  | some u =>
    rcases topH_some q with ⟨rfl, _⟩ | ⟨rfl, _⟩
    · exact (n1 (congrArg Obj.data (Option.some.inj (e.symm.trans hT)))).elim
    · exact (n2 (congrArg Obj.data (Option.some.inj (e.symm.trans ha)))).elim
theorem top_ns (hT : h.get? T = some tabO) (ha : h.get? a = some (scrO us)) {b : Addr} {m : Str → Option Value} (N : h.Ns b m) : (hidT h (topH K T a us xs)).Ns b m := by
  obtain ⟨o, es, ep, e, d, r⟩ := N
  exact ⟨o, es, ep, hidT_get e (topH_none hT ha e (by rw [d]; exact nofun) (by rw [d]; exact nofun)), d, r⟩
theorem top_in (X : K.In h) (nT : K.lookup T = none) : K.In (hidT h (topH K T a us xs)) := fun b o e => hidT_get (X b o e) (by
  match q : topH K T a us xs b with
  | none => rfl
  | some u =>
    rcases topH_some q with ⟨rfl, _⟩ | ⟨rfl, z, _⟩
    · exact nomatch nT.symm.trans e
    · exact nomatch z.symm.trans e)
theorem top_tab {c : Addr} {mg : Str → Option Value} (hT : h.get? T = some tabO) (ha : h.get? a = some (scrO us)) (C : PySem.W.CodeHd h c T) (G : h.Ns mainGlobals mg)
    (B : ∃ (bm : Addr) (ob : Obj), mg "__builtins__" = some (.ref bm) ∧ bm ≠ builtinsNs ∧ h.get? bm = some ob ∧ ob.cls = .type "module" ∧ ob.dict = some builtinsNs ∧ ob.data = .plain) : TabB (hidT h (topH K T a us xs)) mg c T := by
  obtain ⟨og, es, ep, eg, dg, _⟩ := G
  refine ⟨?_, ?_, fun z => ?_⟩
  · obtain ⟨o, fs, f, tf, fl, tg, inF, tx, tt, e, hc, hd, hi, rest⟩ := C
    refine ⟨o, fs, f, tf, fl, tg, inF, tx, tt, hidT_get e (topH_none hT ha e (fun z => ?_) (by rw [hd]; exact nofun)), hc, hd, hi, rest⟩
    cases hd.symm.trans z
    exact nomatch hi
  · obtain ⟨bm, ob, b1, b2, e, b4, b5, d⟩ := B
    refine ⟨bm, ob, b1, b2, ?_, ?_, hidT_get e (topH_none hT ha e (by rw [d]; exact nofun) (by rw [d]; exact nofun)), b4, b5, d⟩ <;> rintro rfl
    · cases e.symm.trans eg
      exact nomatch d.symm.trans dg
    · cases e.symm.trans hT
      exact nomatch d
  · subst z
    cases eg.symm.trans hT
    exact nomatch dg
/-- the script is read from what is tracked, or from K -/
theorem top_script {ns : List Int} (X : K.In h) (ha : h.get? a = some (scrO us)) (hne : a ≠ T) (hi : IntsAre us ns) (hl : ns.length ≤ sizeLine) : SqL K (topH K T a us (ns.map V.int)) a (ns.map V.int) := by
  match hk : K.lookup a with
  | none => exact .inl (.inr ⟨scrO us, by unfold topH; rw [if_neg hne, if_pos ⟨rfl, hk⟩]⟩)
  | some o =>
    cases (X a o hk).symm.trans ha
    exact .inr ⟨_, us.toArray, _, hk, rfl, rfl, rfl, by rw [List.size_toArray, hi.length]; exact hl, vals_ints hi⟩
theorem top_hok {P : Program} {w : World} {ns : List Int} (hT : h.get? T = some tabO) (ha : h.get? a = some (scrO us)) (hi : IntsAre us ns) (hl : ns.length ≤ sizeLine) : HOk P w (topH K T a us (ns.map V.int)) h := by
  intro b u e
  rcases topH_some e with ⟨rfl, rfl⟩ | ⟨rfl, _, rfl⟩
  · exact hT
  · exact ⟨ha, by rw [List.length_map]; exact hl, us, 0, vals_ints hi, ha⟩
/-- what a run that began so leaves of the heap -/
theorem top_old {P : Program} {w : World} {c : Addr} {H' : Hp} {h' : Heap} (hT : h.get? T = some tabO) (C : PySem.W.CodeHd h c T) (k0 : HOk P w (topH K T a us xs) h) (k1 : HOk P w H' h') (un : Un [] [] (topH K T a us xs) H' h h') : OldK h h' := by
  refine ⟨fun b o e => ?_, fun b o e => un.there b o e nofun⟩
  match q : topH K T a us xs b with
  | none => exact .inl (un.keep b o e q nofun nofun)
  | some u =>
    rcases topH_some q with ⟨rfl, rfl⟩ | ⟨rfl, _, rfl⟩
    · obtain ⟨more, q'⟩ := un.tbls b #[] q
      cases e.symm.trans hT
      exact .inr (.inl ⟨(C.tab hT).isCodeTable, rfl, #[], more, rfl, (k1 b _ q').trans (by rw [Array.empty_append]; rfl)⟩)
    · cases e.symm.trans (k0 b _ q).1
      exact .inl (k1 b _ (un.frzs b _ _ q)).1
end
/-- the law's call: where the promise holds, it gives True and leaves the heap as it was -/
theorem top_call {P : Program} {w : World} {K : PySem.W.Frag} {mg mb : Str → Option Value} {CX : CXT} {k : Nat} {fa a c T : Addr} {fd : FuncData} {x : Str} {sp : Sp} {s₁ : Shared} {us : List Value} {ns : List Int}
    (X : K.In s₁.heap) (G : s₁.heap.Ns mainGlobals mg) (B : s₁.heap.Ns builtinsNs mb) (hB : ∀ x : Str, x ≠ "__name__" → mb x = bootBuiltins x) (L : s₁.heap.NoLimit) (hg : s₁.gens = #[])
    (hbm : ∃ (bm : Addr) (ob : Obj), mg "__builtins__" = some (.ref bm) ∧ bm ≠ builtinsNs ∧ s₁.heap.get? bm = some ob ∧ ob.cls = .type "module" ∧ ob.dict = some builtinsNs ∧ ob.data = .plain)
    (hT : s₁.heap.get? T = some tabO) (nT : K.lookup T = none) (C : PySem.W.CodeHd s₁.heap c T) (ha : s₁.heap.get? a = some (scrO us)) (hi : IntsAre us ns) (hl : ns.length ≤ sizeLine) (hr : Room k callerA)
    (F : ∀ base : Heap, K.In base → base.Ns mainGlobals mg → TabB base mg c T → KeptG P w K mg base CX k fa fd x sp) (hb : ∀ (s : Shared) (u : Value), BindsTo s fd ⟨[u], []⟩ [(x, u)])
    (hsp : ∀ H : Hp, H T = some (.tbl #[]) → SqL K H a (ns.map V.int) → sp [.ref a] H (fun v _ => v = .bl true) fun _ _ _ => False) (hCX : ∀ H e s', CX [] H s₁ (fun _ _ _ => False) e s' → False) :
    codeAny (model P w) callerA (.call (.ref fa) ⟨[.ref a], []⟩) (fun r s' => r = .ok (.ret (.bool true)) ∧ OldK s₁.heap s'.heap ∧ s'.os = s₁.os ∧ AllBare s'.gens) s₁ := by
  have hne : a ≠ T := by
    rintro rfl
    exact nomatch congrArg Obj.data (Option.some.inj (ha.symm.trans hT))
  generalize hH : topH K T a us (ns.map V.int) = H
  have k0 : HOk P w H s₁.heap := hH ▸ top_hok hT ha hi hl
  have nl : (hidT s₁.heap H).NoLimit := let ⟨m, h1, h2⟩ := L; ⟨m, hH ▸ top_ns hT ha h1, h2⟩
  have kin : K.In (hidT s₁.heap H) := hH ▸ top_in X nT
  have nsG : (hidT s₁.heap H).Ns mainGlobals mg := hH ▸ top_ns hT ha G
  have e0 : Env0 P w K mg (hidT s₁.heap H) callerA [] s₁ H :=
    { frames := rfl, mod := ⟨kin, nsG, ⟨mb, hH ▸ top_ns hT ha B, hB⟩, nl⟩, bs := fun _ _ => of_hidT, bsz := Nat.le_of_eq (hidT_size _ _), funs := trivial, frf := nofun, hok := k0, bare := .of_eq hg }
  have run := F _ kin nsG (hH ▸ top_tab hT ha C G hbm) callerA [] s₁ H (.ref a) (.ref a) _ _ rfl hr e0 (hb _ _) rfl (hsp H (by rw [← hH]; exact if_pos rfl) (hH ▸ top_script X ha hne hi hl))
  refine codeAny_mono run fun r s' q => ?_
  match r, q with
  | .error e, q => exact (hCX H e s' q).elim
  | .ok (.ret u), ⟨v, H', os, bare, un, k1, rv, q⟩ =>
    obtain rfl : v = .bl true := q
    obtain rfl : u = Value.bool true := rv
    exact ⟨rfl, by subst hH; exact top_old hT C k0 k1 un, os, bare⟩
end Ag
set_option Elab.async false
set_option linter.all false
set_option maxRecDepth 100000
set_option maxHeartbeats 4000000
/-! ### lambdas with a parameter; lambdas called where their maker waits -/
namespace Ag
open PySem PySem.Spec PyProof.Rows L2 LamX NdefX
/-- the object at f is the lambda F with the body b -/
def LamO (f : Addr) (F : NF) (b : Expr) : HO := .ext fun h => ∃ (pm ctv : Value), h.get? f = some (PySem.W.kla_obj F.name F.qual F.params b F.scope F.cl pm F.c ctv)
theorem lamO_at {P : Program} {w : World} {H : Hp} {h : Heap} {f : Addr} {F : NF} {b : Expr} (hok : HOk P w H h) (e : H f = some (LamO f F b)) : ∃ (pm ctv : Value), h.get? f = some (PySem.W.kla_obj F.name F.qual F.params b F.scope F.cl pm F.c ctv) := by
  obtain ⟨z, _, _⟩ := hok f _ e
  exact z
section
variable {X : Cx} {pins : List (Addr × Obj)} {σ : L2.St} {H : Hp} {s : Shared}
theorem inv_lam {F : NF} {b : Expr} {o : Obj} {t' : Nat} {pm ctv : Value} (I : Inv X pins σ H s) (ho : o = PySem.W.kla_obj F.name F.qual F.params b F.scope F.cl pm F.c ctv) :
    Inv X pins σ (upd H s.heap.objs.size (LamO s.heap.objs.size F b)) { s with heap := s.heap.push o, toks := t' } := by
  subst ho
  refine I.laid (a := s.heap.objs.size) (fun b u e => Heap.get?_push_of_some _ e) (Nat.le_refl _) ?_
  have e : (s.heap.push (PySem.W.kla_obj F.name F.qual F.params b F.scope F.cl pm F.c ctv)).get? s.heap.objs.size = some (PySem.W.kla_obj F.name F.qual F.params b F.scope F.cl pm F.c ctv) := Heap.get?_push_size _ rfl
  exact ⟨⟨pm, ctv, e⟩, ⟨_, e⟩, fun h1 h2 ⟨p, t, z⟩ st => ⟨p, t, st _ z⟩⟩
/-- a new code object c' for the place pos: what it makes of the tables -/
theorem tab_more {T : List (Addr × Str)} {P c' : Addr} {q : Str} {ps : Array Value} {pos : Pos} (hT : LamX.Tabs T H) (hu : ∀ p ∈ T, p.1 = P → p.2 = q) (hP : H P = some (.tbl ps)) (nC : H c' = none) :
    ExtN H (upd (upd H P (.tbl (ps ++ #[rawInt pos.line, rawInt pos.col, .ref c']))) c' (CodeO c' q)) ∧ LamX.Tabs T (upd (upd H P (.tbl (ps ++ #[rawInt pos.line, rawInt pos.col, .ref c']))) c' (CodeO c' q)) := by
  have ext : ExtN H (upd (upd H P (.tbl (ps ++ #[rawInt pos.line, rawInt pos.col, .ref c']))) c' (CodeO c' q)) := fun b o e n =>
    ((upd_ne (ne_of_none e nC)).trans (upd_ne fun z => n ps (by subst z; exact Option.some.inj (e.symm.trans hP)))).trans e
  refine ⟨ext, fun ⟨b, q'⟩ hp => ?_⟩
  obtain ⟨qs, a1, a2, a3⟩ := hT _ hp
  have a3 : ∀ p cv, codeAmong p qs.toList = some cv → ∃ c, cv = .ref c ∧ (upd (upd H P (.tbl (ps ++ #[rawInt pos.line, rawInt pos.col, .ref c']))) c' (CodeO c' q)) c = some (CodeO c q') := fun p cv e =>
    let ⟨c, e1, e2⟩ := a3 p cv e
    ⟨c, e1, ext _ _ e2 codeO_ne⟩
  by_cases hb : b = P
  · subst hb
    cases hu _ hp rfl
    cases a1.symm.trans hP
    refine ⟨_, (upd_ne (ne_of_none hP nC)).trans upd_same, by rw [Array.toList_append]; exact TriplesOk_snoc _ _ _ _ a2, fun p cv e => ?_⟩
    rw [Array.toList_append] at e
    exact (among_app _ a2 e).elim (a3 p cv) fun z => ⟨c', z, upd_same⟩
  · exact ⟨qs, ((upd_ne (ne_of_none a1 nC)).trans (upd_ne hb)).trans a1, a2, a3⟩
theorem lamP_make {T : List (Addr × Str)} {c P : Addr} {params : Arguments} {body : Expr} {scope : Scope} {pos : Pos} {E : Value → Shared → Prop} {Q : Value → Shared → Prop} (I : Inv X pins σ H s) (TB : TabB X.base X.mg c P) (hcode : X.env.code = .ref c)
    (hm : (P, X.env.qual ++ "<lambda>") ∈ T) (hu : ∀ p ∈ T, p.1 = P → p.2 = X.env.qual ++ "<lambda>") (hT : LamX.Tabs T H) (hdef : defaultsOf params X.env = ([], [])) (hfree : ∀ y ∈ scope.names, y.2 = .free → ∃ c, X.env.cells.lookup y.1 = some c)
    (h : ∀ (f c' : Addr) (H1 : Hp) (s' : Shared), Inv X pins σ H1 s' → ExtN H H1 → LamX.Tabs T H1 → H f = none → H1 f = some (LamO f ⟨"<lambda>", X.env.qual ++ "<lambda>", params, [], scope, cloFrom X.env.cells scope.names [], c'⟩ body) → H1 c' = some (CodeO c' (X.env.qual ++ "<lambda>")) → Q (.ref f) s') :
    wpAny (model X.prog X.w) X.A (eval (.Lambda params body scope pos) X.env) Q E s := by
  obtain ⟨ps, hP, ht, ha⟩ := hT _ hm
  -- the function's object is laid last, whatever the table says
  have lay : ∀ {H1 : Hp} {s1 : Shared} {c' : Addr} {pm ctv : Value} {tk : Nat}, Inv X pins σ H1 s1 → ExtN H H1 → LamX.Tabs T H1 → H1 c' = some (CodeO c' (X.env.qual ++ "<lambda>")) → H s1.heap.objs.size = none →
      Q (.ref s1.heap.objs.size) { s1 with heap := s1.heap.push (PySem.W.kla_obj "<lambda>" (X.env.qual ++ "<lambda>") params body scope (cloFrom X.env.cells scope.names []) pm c' ctv), toks := tk } := fun {H1 s1 c' pm ctv tk} J x t k n => by
    have stay : ∀ b o, H1 b = some o → upd H1 s1.heap.objs.size (LamO s1.heap.objs.size ⟨"<lambda>", X.env.qual ++ "<lambda>", params, [], scope, cloFrom X.env.cells scope.names [], c'⟩ body) b = some o := fun b o z => (upd_ne (ne_of_none z (J.hok.fresh (Nat.le_refl _)))).trans z
    exact h _ c' _ _ (inv_lam (F := ⟨"<lambda>", X.env.qual ++ "<lambda>", params, [], scope, cloFrom X.env.cells scope.names [], c'⟩) J rfl) (x.trans (.of stay)) (t.ext stay) n upd_same (stay _ _ k)
  refine PySem.W.kla_eval hdef ?_
  match hc : codeAmong pos ps.toList with
  | none =>
    refine PySem.W.kla_makeFunction (closure_ok hfree) I.ok.glob (I.mod.glob.keeps I.bk) hcode (TB.code.keeps I.bk) (I.hok P _ hP) ht hc TB.gP (TB.bm.keeps I.bk) fun c' ctv h' tk hx hge hlt hrec htb => ?_
    obtain ⟨_, oc, vs, t, ec, ho, hd, hv⟩ := hrec
    cases ec
    have m := tab_more (pos := pos) hT hu hP (I.hok.fresh hge)
    exact lay (s1 := { s with heap := h', toks := tk }) (inv_table (t' := tk) I hP (fun b o hb e => hx b o hb e) htb hge ⟨oc, vs, t, ho, hd, hv⟩) m.1 m.2 upd_same (I.hok.fresh (Nat.le_trans hge (Nat.le_of_lt hlt)))
  | some cv =>
    obtain ⟨c', e, hco⟩ := ha pos cv hc
    cases e
    refine PySem.W.kla_makeFunctionHit (closure_ok hfree) I.ok.glob (I.mod.glob.keeps I.bk) hcode (TB.code.keeps I.bk) (I.hok P _ hP) ht hc (TB.bm.keeps I.bk) fun ctv h' tk hx hsz => ?_
    exact lay (s1 := { s with heap := h', toks := tk }) (I.kept (t' := tk) hx) (.refl H) hT hco (I.hok.fresh hsz)
end
/-- the reading of a lambda's making -/
def tLamP (T : List (Addr × Str)) (mk : Addr → NF) (b : Expr) : TE := fun σ H Q => LamX.Tabs T H ∧ ∀ (f c' : Addr) (H1 : Hp), ExtN H H1 → LamX.Tabs T H1 → H f = none → H1 f = some (LamO f (mk c') b) → H1 c' = some (CodeO c' (mk c').qual) → Q (.ref f) H1
theorem pe_lamP {X : Cx} {T : List (Addr × Str)} {c P : Addr} {params : Arguments} {body : Expr} {scope : Scope} {pos : Pos} (TB : TabB X.base X.mg c P) (hcode : X.env.code = .ref c) (hm : (P, X.env.qual ++ "<lambda>") ∈ T) (hu : ∀ p ∈ T, p.1 = P → p.2 = X.env.qual ++ "<lambda>") (hdef : defaultsOf params X.env = ([], []))
    (hfree : ∀ y ∈ scope.names, y.2 = .free → X.env.scope.names.lookup y.1 = some .cell ∨ X.env.scope.names.lookup y.1 = some .free) :
    PE X (.Lambda params body scope pos) (tLamP T (fun c' => ⟨"<lambda>", X.env.qual ++ "<lambda>", params, [], scope, cloFrom X.env.cells scope.names [], c'⟩) body) := by
  refine ⟨fun pins s σ H Q I h => ?_⟩
  obtain ⟨hT, h⟩ := h
  have hfr : ∀ y ∈ scope.names, y.2 = .free → ∃ c, X.env.cells.lookup y.1 = some c := fun y hy e => (hfree y hy e).elim (fun z => I.ok.has _ (.inl z)) fun z => I.ok.has _ (.inr z)
  exact lamP_make I TB hcode hm hu hT hdef hfr fun f c' H1 s' I1 eN T1 f0 f1 c1 => ⟨.ref f, H1, I1, rfl, h f c' H1 eN T1 f0 f1 c1⟩
/-- captured cells hold still what they held -/
theorem cells_un {fs ex : List Addr} {cl : List (Str × Addr)} {fr : List Str} {ws : List (Option V)} {h h' : Heap} {H H' : Hp} (C : CellsAt cl fr ws h H) (u : Un fs ex H H' h h') (nx : ∀ c, c ∉ ex) : CellsAt cl fr ws h' H' := by
  refine ⟨C.len, fun y c e => ?_, C.inj, fun i y e => ?_⟩
  · obtain ⟨n, v, o, ho, hd⟩ := C.all y c e
    obtain ⟨sl, q⟩ := u.any ho n (nx c)
    exact ⟨u.free c o ho n (nx c), v, _, q, hd⟩
  · obtain ⟨c, hc, hv⟩ := C.has i y e
    refine ⟨c, hc, fun v ev => ?_⟩
    obtain ⟨uu, r, o, ho, hd⟩ := hv v ev
    obtain ⟨sl, q⟩ := u.any ho (C.all y c hc).1 (nx c)
    exact ⟨uu, r, _, q, hd⟩
/-- the promise of a lambda -/
def LamOk (P : Program) (w : World) (K : PySem.W.Frag) (mg : Str → Option Value) (base : Heap) (k : Nat) (F : NF) (b : Expr) (N ps fr : List Str) (tb : XK → TE) : Prop :=
  ∀ (f : Addr) (A : Around) (outer : List Env) (s : Shared) (H : Hp) (us : List Value) (vs : List V) (ws : List (Option V)) (Q : VK) (E : XK), Room k A → Env0 P w K mg base A outer s H → H f = some (LamO f F b) → H F.c = some (CodeO F.c F.qual) →
    CellsAt F.cl fr ws s.heap H → Vals vs us → vs.length = ps.length → tb E (startF N vs ws) H Q → codeAny (model P w) A (.call (.ref f) ⟨us, []⟩) (CR (L2.CX P w) outer P w H s Q E) s
theorem lamOk_of {P : Program} {w : World} {K : PySem.W.Frag} {mg : Str → Option Value} {base : Heap} {N ps fr : List Str} {F : NF} {b : Expr} {k : Nat} {tb : XK → TE} (S : NScope N ps fr F.scope)
    (hb : ∀ (pm ctv : Value) (us : List Value), us.length = ps.length → bindArgs (PySem.W.kla_fn F.name F.qual F.params b F.scope F.cl pm (.ref F.c) ctv) ⟨us, []⟩ = pure (ps.zip us))
    (hbody : ∀ (f : Addr) (A : Around) (outer : List Env) (s : Shared) (H : Hp) (E : XK), Room k (A.deeper (envF F f s.heap.objs.size)) → PE (ncx (L2.CX P w) P w K mg base N F f A outer s H E) b (tb E)) :
    LamOk P w K mg base (k + 1) F b N ps fr tb := by
  intro f A outer s H us vs ws Q E hr e0 hf hc C r hl hq
  have lim : s.heap.NoLimit := e0.mod.nolimit.keeps fun b o e => (e0.bs b o e).1
  obtain ⟨pm, ctv, ho⟩ := lamO_at e0.hok hf
  refine PySem.W.kla_callFunE hr.depth ho rfl S.co S.gen rfl (codeO_at e0.hok hc) ?_
  rw [hb pm ctv us (by rw [← r.length]; exact hl)]
  refine wpAny_pure (wpAny_newFunctionEnv S.nocell (fun ⟨n, _⟩ hy => S.par n (List.of_mem_zip hy).1) (fun h₁ hns hsb => ⟨lim.fresh _ hsb, ?_⟩) S.kind)
  show codeAny _ _ (.expr b (envF F f s.heap.objs.size)) _ _
  have kp : ∀ b o, s.heap.get? b = some o → h₁.get? b = some o := fun b o e => hsb.extBut b o (Nat.ne_of_lt (Heap.lt_size e)) (Heap.get?_push_of_some _ e)
  have I : Inv (ncx (L2.CX P w) P w K mg base N F f A outer s H E) [] (startF N vs ws) H { s with heap := h₁, toks := s.toks + (ps.zip us).length } := inv_startN S hr.hd e0 hl r C hns kp
  refine PySem.W.kla_codeExpr (wpAny_mono ((hbody f A outer s H E (hr.deeper _)).run [] _ _ H Q I hq) (fun v s' hq => ?_) fun e s' hq => hq)
  obtain ⟨w', H', J', rv, q⟩ := hq
  exact ⟨w', H', J'.os, J'.bare, J'.base, J'.hok, rv, q⟩
end Ag
set_option Elab.async false
set_option linter.all false
set_option maxRecDepth 100000
set_option maxHeartbeats 4000000
/-! ### a lambda handed to a def; in it a captured name that holds a lambda with a parameter is called -/
namespace Ag
open PySem PySem.Spec PyProof.Rows L2 LamX NdefX
section
variable {X : Cx} {pins : List (Addr × Obj)} {σ : L2.St} {H HZ : Hp} {s s1 : Shared}
/-- what a call gives its caller: CR as a promise about a value -/
theorem after_cr {Z : Cx} {pins : List (Addr × Obj)} {τ : L2.St} {H : Hp} {s : Shared} {CX : CXT} {f : Value} {us : List Value} {Q : VK} {E : XK} (I : Inv Z pins τ H s) (x : ∀ e s', CX Z.stack H s E e s' → Z.xe e s')
    (c : codeAny (model Z.prog Z.w) Z.A (.call f ⟨us, []⟩) (CR CX Z.stack Z.prog Z.w H s Q E) s) : wpAny (model Z.prog Z.w) Z.A (call f us) (EP Z pins τ Q) Z.xe s := by
  refine wpAny_call (codeAny_mono c fun r s' q => ?_)
  match r, q with
  | .error e, q => exact x e s' q
  | .ok (.ret _), q => exact I.after q
/-- a lambda without parameters is called while its maker waits: the cells that it and others captured hold what they held -/
theorem lam_enter {A : Around} {outer : List Env} {f c' : Addr} {pm ctv : Value} {params : Arguments} {body : Expr} {scope : Scope} {k : Nat} {E : XK} {tb : TE} {Q : VK} (I : Inv X pins σ H s) (L : LamS X.env.scope scope) (e0 : Env0 X.prog X.w X.K X.mg X.base A outer s1 HZ) (un : Un (frs X.stack) [] H HZ s.heap s1.heap)
    (ho : s1.heap.get? f = some (PySem.W.kla_obj "<lambda>" (X.env.qual ++ "<lambda>") params body scope (cloFrom X.env.cells scope.names []) pm c' ctv)) (hc : HZ c' = some (CodeO c' (X.env.qual ++ "<lambda>"))) (hr : Room (k + 1) A)
    (hb : bindArgs (PySem.W.kla_fn "<lambda>" (X.env.qual ++ "<lambda>") params body scope (cloFrom X.env.cells scope.names []) pm (.ref c') ctv) ⟨[], []⟩ = pure [])
    (hbody : (∀ cl fr js, Caps X cl fr js → CellsAt cl fr (js.map (slotAt σ)) s1.heap HZ) → Room k (A.deeper (lamEnv X scope s1.heap.objs.size f c')) → PE (lamCx X A outer s1 HZ E scope f c') body (fun σ1 H1 Q => σ1 = σ ∧ tb σ1 H1 Q)) (ht : tb σ HZ Q) :
    codeAny (model X.prog X.w) A (.call (.ref f) ⟨[], []⟩) (CR (L2.CX X.prog X.w) outer X.prog X.w HZ s1 Q E) s1 := by
  have lim : s1.heap.NoLimit := e0.mod.nolimit.keeps fun b o e => (e0.bs b o e).1
  refine PySem.W.kla_callFunE hr.depth ho rfl L.co L.gen rfl (codeO_at e0.hok hc) ?_
  rw [hb]
  refine wpAny_pure (wpAny_newFunctionEnv (fun y hy => (L.own y hy).2) nofun (fun h₁ ns sb => ⟨lim.fresh _ sb, PySem.W.kla_codeExpr ?_⟩) L.kind)
  have J := lam_start2 (E := E) (f := f) (c' := c') (tk := s1.toks) I L e0 hr.hd un ns fun b o e => sb.extBut b o (Nat.ne_of_lt (Heap.lt_size e)) (Heap.get?_push_of_some _ e)
  exact wpAny_mono ((hbody (fun cl fr js cp => cells_un (cells_of I cp) un nofun) (hr.deeper _)).run [] _ _ HZ Q J ⟨rfl, ht⟩) (fun v s' ⟨w', H', J', rv, q⟩ => ⟨w', H', J'.os, J'.bare, J'.base, J'.hok, rv, q⟩) fun _ _ z => z
/-- a(), in the def that got the lambda; the maker X waits at s -/
theorem pe_actC {CXg : CXT} {Eg : XK} {Ng : List Str} {qg : Str} {sg : Scope} {g f c' : Addr} {cdg pm ctv : Value} {params : Arguments} {body : Expr} {scope : Scope} {k i : Nat} {a : Str} {pn : List (Addr × Obj)} {xe : Value → Shared → Prop} {W : WX} {E : XK} {tb : TE} {p1 p2 : Pos}
    (I : Inv X pins σ H s) (L : LamS X.env.scope scope) (hf : s.heap.get? f = some (PySem.W.kla_obj "<lambda>" (X.env.qual ++ "<lambda>") params body scope (cloFrom X.env.cells scope.names []) pm c' ctv)) (hfn : H f = none) (hfr : f ∉ frs X.stack)
    (hb : bindArgs (PySem.W.kla_fn "<lambda>" (X.env.qual ++ "<lambda>") params body scope (cloFrom X.env.cells scope.names []) pm (.ref c') ctv) ⟨[], []⟩ = pure [])
    (tk : Takes ((cxOf CXg X.prog X.w X.K X.mg X.base Ng qg sg g cdg X.A X.stack s H Eg).tr pn xe) W) (hW : ∀ cls d σ' H', E cls d H' → W cls d σ' H') (hr : Room (k + 1) (X.A.deeper (envOfC qg sg s.heap.objs.size g cdg)))
    (hbody : ∀ (A : Around) (outer : List Env) (s2 : Shared) (H2 : Hp), (∀ cl fr js, Caps X cl fr js → CellsAt cl fr (js.map (slotAt σ)) s2.heap H2) → Room k (A.deeper (lamEnv X scope s2.heap.objs.size f c')) → PE (lamCx X A outer s2 H2 E scope f c') body (fun σ1 H1 Q => σ1 = σ ∧ tb σ1 H1 Q))
    (hN : Ng[i]? = some a) (hv : Vis sg a) (hd : (a == ("__debug__" : Str)) = false) (hcd : (a == ("__classdict__" : Str)) = false) :
    PE ((cxOf CXg X.prog X.w X.K X.mg X.base Ng qg sg g cdg X.A X.stack s H Eg).tr pn xe) (.Call (.Name a p1) [] [] p2) (fun σZ HZ Q => σZ[i]? = some (some (.ref f)) ∧ HZ c' = some (CodeO c' (X.env.qual ++ "<lambda>")) ∧ tb σ HZ Q) := by
  refine ⟨fun pz sz τ HZ Q J ⟨hs, hc, ht⟩ => wpAny_Call_Name_kw (thn ((pe_var (pos := p1) (i := i) hN hv hd hcd).run pz sz τ HZ (fun v H1 => v = .ref f ∧ H1 = HZ) J ⟨.ref f, hs, rfl, rfl⟩) fun u s1 ⟨v, H1, J1, rv, ev, eH⟩ => ?_)⟩
  subst ev eH
  cases rv
  have ho := J1.base.keep f _ hf hfn hfr (fun z => nomatch (show f ∈ ([] : List Addr) from z))
  have run := lam_enter (X := X) (E := E) (Q := Q) I L J1.env0 J1.base ho hc hr hb (hbody _ _ s1 H1) ht
  have out : Passes (L2.CX X.prog X.w) ((cxOf CXg X.prog X.w X.K X.mg X.base Ng qg sg g cdg X.A X.stack s H Eg).tr pn xe) E := passes_call tk hW
  exact PySem.W.callWith_F0 ⟨_, _, _, _, ho⟩ (after_cr (CX := L2.CX X.prog X.w) J1 (fun e s' => out pz τ H1 s1 e s' J1) run)
end
section
variable {X : Cx}
/-- x(lambda: body), told what the captured cells hold -/
theorem pe_lamcallC {T : List (Addr × Str)} {TT : (XK → Hp → VK → Prop) → Hp → VK → Prop} {x a : Str} {g c P : Addr} {k : Nat} {pg : Arguments} {bg : List Stmt} {sg : Scope} {dV kV doc pm cdv ct oc : Value} {an od : Option Addr} {osl : Array (Option Value)} {Ng : List Str}
    {params : Arguments} {body : Expr} {scope : Scope} {t : XK → TE} {p lpos pos : Pos} (hg : Gl X x) (hm : X.mg x = some (.ref g)) (hk : PySem.W.keepIn X.K (.ref g) = true)
    (lk : X.K.lookup g = some ⟨oc, od, .func (PySem.W.fnOf x x pg bg sg dV kV doc pm an cdv ct), osl⟩) (hcg : PySem.W.codeIn X.K cdv x = true) (hb : L2.Binds X.K (PySem.W.fnOf x x pg bg sg dV kV doc pm an cdv ct) [a] []) (Sg : FnScope Ng [a] sg) (hNg : Ng[0]? = some a) (hva : Vis sg a)
    (hG : GivesTo X Ng x sg g cdv bg a (X.env.qual ++ "<lambda>") TT)
    (TB : TabB X.base X.mg c P) (hcode : X.env.code = .ref c) (hmT : (P, X.env.qual ++ "<lambda>") ∈ T) (hu : ∀ p ∈ T, p.1 = P → p.2 = X.env.qual ++ "<lambda>") (hr : Room (k + 2) X.A) (L : LamS X.env.scope scope) (hdef : defaultsOf params X.env = ([], []))
    (hbind : ∀ (q : Str) (cl : List (Str × Addr)) (pm cv ctv : Value), bindArgs (PySem.W.kla_fn "<lambda>" q params body scope cl pm cv ctv) ⟨[], []⟩ = pure [])
    (hbody : ∀ (σ : L2.St) (A : Around) (outer : List Env) (s : Shared) (H : Hp) (E : XK) (f c' : Addr), (∀ cl fr js, (X.Ok → Caps X cl fr js) → CellsAt cl fr (js.map (slotAt σ)) s.heap H) → Room k (A.deeper (lamEnv X scope s.heap.objs.size f c')) → PE (lamCx X A outer s H E scope f c') body (fun σ1 H1 Q => σ1 = σ ∧ t E σ1 H1 Q))
    (hdb : (x == ("__debug__" : Str)) = false := by decide) (hd : (a == ("__debug__" : Str)) = false := by decide) (hcd : (a == ("__classdict__" : Str)) = false := by decide) :
    PE X (.Call (.Name x p) [.Lambda params body scope lpos] [] pos) (tLam T TT t) := by
  refine ⟨fun pins s σ H Q I ⟨hT, h⟩ => wpAny_Call_Name_kw (ld_glob I hg hm (PySem.W.callWith_K (h₀ := X.base) I.ok.mod.kin hk ?_ (by rfl) (by rfl)) hdb)⟩
  have ok := I.ok
  show wpAny _ _ (spliced ((false, eval (.Lambda params body scope lpos) X.env) :: backTo pos (starEach [] X.env))) _ _ s
  refine Calls.spliced_cons (lam_make2 I TB hcode hmT hu hT hdef (L.has I.ok) fun f c' pm' ctv H1 s1 I1 eN T1 hf hfn hfr hco => Calls.spliced_nil ⟨I1.kIn, ?_⟩)
  have act := fun (W : WX) (pn : List (Addr × Obj)) (xe : Value → Shared → Prop) (E : XK) (p1 p2 : Pos) tk hW hr' => pe_actC (Ng := Ng) (cdg := cdv) (CXg := C8.CX0) (Eg := C8.E0) (qg := x) (sg := sg) (g := g) (pn := pn) (xe := xe) (W := W) (E := E) (tb := t E) (p1 := p1) (p2 := p2) (k := k) (i := 0) I1 L hf hfn hfr (hbind _ _ _ _ _) tk hW hr'
    (fun A outer s H hC hr2 => hbody σ A outer s H E f c' (fun cl fr js cp => hC cl fr js (cp ok)) hr2) hNg hva hd hcd
  refine after_cr (CX := C8.CX0) (E := C8.E0) I1 (fun e s' z => (show False from z).elim) (run_ofS (N := Ng) (ps := [a]) (us := [.ref f]) (vs := [.ref f]) lk hcg Sg hr I1.env0 (hb s1 [.ref f] I1.kIn rfl) (.cons rfl .nil) rfl fun hr' => ?_)
  obtain ⟨t', pt, q⟩ := hG f c' s1 H1 Q (fun E H' Q' => t E σ H' Q') (fun W pn xe E p1 p2 tk hW => act W pn xe E p1 p2 tk hW hr') hco (h H1 eN T1)
  exact ⟨t', pt.nox, q⟩
/-- f(..) in such a lambda, f a captured name that holds a lambda of the family Fam; ws: what that one's captured cells hold -/
def tCallW (Fam : NF → Expr → (XK → TE) → Prop) (N : List Str) (n i : Nat) (ws : List (Option V)) (E : XK) (ta : TA) : TE := fun σ H Q => ∃ f F b tb, Fam F b tb ∧ σ[i]? = some (some (.ref f)) ∧ H f = some (LamO f F b) ∧
  ta σ H fun vs H1 => H1 f = some (LamO f F b) ∧ H1 F.c = some (CodeO F.c F.qual) ∧ vs.length = n ∧ tb E (startF N vs ws) H1 Q
theorem pe_callW {Z : Cx} {Fam : NF → Expr → (XK → TE) → Prop} {N ps fr : List Str} {i j k : Nat} {ws : List (Option V)} {E : XK} {x : Str} {e : Expr} {es : List Expr} {ta : TA} {p pos : Pos} (hF : ∀ F b tb, Fam F b tb → LamOk Z.prog Z.w Z.K Z.mg Z.base k F b N ps fr tb)
    (hC : ∀ F b tb, Fam F b tb → CellsAt F.cl fr ws Z.s_0.heap Z.H_0) (nex : Z.ex = []) (hr : Room j Z.A) (hk : k ≤ j) (hx : Passes (L2.CX Z.prog Z.w) Z E) (hN : Z.N[i]? = some x) (hv : Vis Z.env.scope x) (ha : PA Z (e :: es) ta)
    (hd : (x == ("__debug__" : Str)) = false := by decide) (hcd : (x == ("__classdict__" : Str)) = false := by decide)
    (he : starEach (e :: es) Z.env = (false, eval e Z.env) :: starEach es Z.env := by rfl) (hpl : (backTo pos (starEach es Z.env)).any (·.1) = false := by rfl) :
    PE Z (.Call (.Name x p) (e :: es) [] pos) (tCallW Fam N ps.length i ws E ta) := by
  have at_ : ∀ {s2 : Shared} {H2 : Hp} {τ : L2.St} {pins : List (Addr × Obj)} {f : Addr} {F : NF} {b : Expr}, Inv Z pins τ H2 s2 → H2 f = some (LamO f F b) → PySem.W.FnAt f s2.heap := fun J e =>
    let ⟨_, _, ho⟩ := lamO_at J.hok e
    ⟨_, _, _, _, ho⟩
  refine ⟨fun pins s σ H Q I ⟨f, F, b, tb, fam, hs, hf, ht⟩ => wpAny_Call_Name_kw (thn ((pe_var (pos := p) hN hv hd hcd).run pins s σ H (fun v H1 => v = .ref f ∧ H1 = H) I ⟨.ref f, hs, rfl, rfl⟩) fun u s1 ⟨v, H1, I1, rv, ev, eH⟩ => ?_)⟩
  subst ev eH
  cases rv
  refine PySem.W.callWith_F (first := []) (at_ I1 hf) (thn (ha.run pos pins s1 σ H1 _ I1 ht) fun us s2 ⟨vs, H2, I2, r, h1, h2, hl, q⟩ => ⟨at_ I2 h1, ?_⟩) he hpl
  exact after_cr (CX := L2.CX Z.prog Z.w) (E := E) I2 (fun e s' => hx pins σ H2 s2 e s' I2)
    (hF F b tb fam f Z.A Z.stack s2 H2 us vs ws Q E (hr.mono hk) I2.env0 h1 h2 (cells_un (hC F b tb fam) I2.base (fun c z => by rw [nex] at z; cases z)) r hl q)
end
end Ag
set_option Elab.async false
set_option linter.all false
set_option maxRecDepth 100000
set_option maxHeartbeats 4000000
/-! ### _law_heard -/
namespace Ag
open PySem PySem.Spec PyProof.Rows L2 LamX NdefX
/-- what the classes of the exceptions must say: CA, AgeError; CT, TooGreat; CB, BadCopy; CL, BadLog -/
structure ExA (K : PySem.W.Frag) (mg : Str → Option Value) (CA CT CB CL : Addr) : Prop where
  mA : mg "AgeError" = some (.ref CA)
  mT : mg "TooGreat" = some (.ref CT)
  mB : mg "BadCopy" = some (.ref CB)
  mL : mg "BadLog" = some (.ref CL)
  tt : PySem.W.exmOne K (.ref CT) (.ref CT) = some true
  bt : PySem.W.exmOne K (.ref CB) (.ref CT) = some false
  bb : PySem.W.exmOne K (.ref CB) (.ref CB) = some true
  lt : PySem.W.exmOne K (.ref CL) (.ref CT) = some false
  lb : PySem.W.exmOne K (.ref CL) (.ref CB) = some false
  ll : PySem.W.exmOne K (.ref CL) (.ref CL) = some true
  kT : PySem.W.kitOne K (.ref CT) (.ref CA) = some true
  kB : PySem.W.kitOne K (.ref CB) (.ref CA) = some true
  kL : PySem.W.kitOne K (.ref CL) (.ref CA) = some true
  xT : XfC K CT
  xB : XfC K CB
  xL : XfC K CL
  nT : PySem.W.findIn K (.ref CT) "most" = some none
  nB : PySem.W.findIn K (.ref CB) "at" = some none
  nL : PySem.W.findIn K (.ref CL) "at" = some none
  eT : ExcC K CT
  eB : ExcC K CB
  eL : ExcC K CL
def rIsQ (K : PySem.W.Frag) (D a : Addr) (cls : Value) : List V → Hp → VK → Prop := fun xs H Q => cls = .ref D ∧ rIsD K D a xs H Q
theorem call_isQ {X : Cx} {a D : Addr} {cls : Value} {d : Option Addr} {oe : Obj} {pn : List (Addr × Obj)} (hz : Zc cls d oe) : CallR (X.suite a ((a, oe) :: pn)) (.builtin "isinstance") (rIsQ X.K D a cls) := by
  intro pins s σ H xs us Q I r h
  obtain ⟨rfl, h⟩ := h
  exact call_isD hz pins s σ H xs us Q I r h
def xT (s : Str) (v : V) (Q : VK) (H : Hp) : Prop := ∀ p, H p = none → Q (.ref p) (upd H p (.tup [.str s, v, .bl true]))
/-- what _law_heard makes of what it is handed -/
def TTh (K : PySem.W.Frag) (CT CB CL : Addr) : (XK → Hp → VK → Prop) → Hp → VK → Prop := fun tl H Q =>
  tl (fun cls d H' => (cls = .ref CT ∧ ∃ dd v, d = some dd ∧ H' dd = some (.xd [(("most" : Str), v)]) ∧ xT "great" v Q H') ∨
      (cls = .ref CB ∧ ∃ dd v e, d = some dd ∧ H' dd = some (.xd [(("at" : Str), v)]) ∧ Dp K H' v e ∧ Shows e ∧ xT "copy" (.str e.shown) Q H') ∨
      (cls = .ref CL ∧ ∃ dd v, d = some dd ∧ H' dd = some (.xd [(("at" : Str), v)]) ∧ xT "log" v Q H')) H fun v H' => [V.str "told", v].length ≤ sizeLine ∧ ∀ p, H' p = none → Q (.ref p) (upd H' p (.tup [.str "told", v]))
theorem pss_run {X : Cx} {b : List Stmt} {t' : TS} (h : ∀ D σ H, t' D σ H → ∃ t, PSs X b t ∧ t D σ H) : PSs X b t' := ⟨fun pins s σ H D I q => by
  obtain ⟨t, ht, hq⟩ := h D σ H q
  exact ht.run pins s σ H D I hq⟩
abbrev nHeard : List Str := ["_law_ask", "e"]
theorem scHeard : FnScope nHeard ["_law_ask"] (defScope sHeard) := ⟨rfl, rfl, rfl, by decide +kernel, rfl, by decide +kernel, by decide +kernel⟩
section
variable {X : Cx} {q : Str} {g CA CT CB CL : Addr} {cdg : Value}
theorem heard_gives (T : Txt X.mg) (EA : ExA X.K X.mg CA CT CB CL) (hg : X.A.guards = some []) {k : Nat} (hr : Room (k + 1) X.A) : GivesTo X nHeard "_law_heard" (defScope sHeard) g cdg (defBody sHeard) "_law_ask" q (TTh X.K CT CB CL) := by
  intro f c' s H Q tl act hc h
  have hu : X.A.units + 3 + 64 < cLine := by
    have := hr.un
    omega
  have hrp : ∀ a pn, CallR ((cxOf C8.CX0 X.prog X.w X.K X.mg X.base nHeard "_law_heard" (defScope sHeard) g cdg X.A X.stack s H C8.E0).nox.suite a pn) (.builtin "repr") (rRepr X.K) := fun a pn => call_repr hg hu
  refine ⟨_, pss_one (ps_try_manyA (X := (cxOf C8.CX0 X.prog X.w X.K X.mg X.base nHeard "_law_heard" (defScope sHeard) g cdg X.A X.stack s H C8.E0).nox) (i := 1) (n := "e")
      (l := [(.ref CT, _), (.ref CB, _), (.ref CL, _)])
      (tb := fun W D σ H => ∃ Ech : XK, (∀ cls d σ' H', Ech cls d H' → W cls d σ' H') ∧ σ[0]? = some (some (.ref f)) ∧ H c' = some (CodeO c' q) ∧ tl Ech H fun v H' => [V.str "told", v].length ≤ sizeLine ∧ ∀ p, H' p = none → D.rt (.ref p) (upd H' p (.tup [.str "told", v])))
      rfl rfl scHeard.nd rfl rfl (fun W pn xe tk _ => ?_)
      (.cons ⟨rfl, by decide, .inl EA.mT⟩ (fun a oe cls d pn hz hf => pss_one (ps_ret (pe_tup (pa_cons pe_str (pa_cons (pe_xf EA.xT EA.nT hz hf (pv 1)) (pa_cons (pe_callB (call_isQ (D := CT) hz) rfl T.isi (by decide +kernel) (pa_cons (pv 1) (pa_cons (pe_glob rfl EA.mA (v := .ref CA) rfl) pa_nil))) pa_nil))))))
      (.cons ⟨rfl, by decide, .inl EA.mB⟩ (fun a oe cls d pn hz hf => pss_one (ps_ret (pe_tup (pa_cons pe_str (pa_cons (pe_callB (hrp _ _) rfl T.repr (by decide +kernel) (pa_cons (pe_xf EA.xB EA.nB hz hf (pv 1)) pa_nil)) (pa_cons (pe_callB (call_isQ (D := CB) hz) rfl T.isi (by decide +kernel) (pa_cons (pv 1) (pa_cons (pe_glob rfl EA.mA (v := .ref CA) rfl) pa_nil))) pa_nil))))))
      (.cons ⟨rfl, by decide, .inl EA.mL⟩ (fun a oe cls d pn hz hf => pss_one (ps_ret (pe_tup (pa_cons pe_str (pa_cons (pe_xf EA.xL EA.nL hz hf (pv 1)) (pa_cons (pe_callB (call_isQ (D := CL) hz) rfl T.isi (by decide +kernel) (pa_cons (pv 1) (pa_cons (pe_glob rfl EA.mA (v := .ref CA) rfl) pa_nil))) pa_nil))))))
      .nil)))), ?_⟩
  · refine pss_run fun D σ H' h' => ?_
    obtain ⟨Ech, hW, h1, h2, h3⟩ := h'
    refine ⟨_, pss_one (ps_ret (pe_tup (pa_cons pe_str (pa_cons (act W pn xe Ech _ _ tk hW) pa_nil)))), ?_⟩
    exact ⟨h1, h2, h3⟩
  · unfold TTh at h
    refine ⟨_, fun cls d σ' H' he => ?_, rfl, hc, h⟩
    have sz : 3 ≤ sizeLine := by
      rw [sizeLine_eq]
      omega
    rcases he with ⟨rfl, dd, v, rfl, hx, q⟩ | ⟨rfl, dd, v, e, rfl, hx, hD, hS, q⟩ | ⟨rfl, dd, v, rfl, hx, q⟩
    · refine ⟨true, EA.tt, fun _ a _ hl => ?_, fun z => by cases z⟩
      obtain ⟨x0, x1, rfl⟩ : ∃ x0 x1, σ' = [x0, x1] := by
        match σ', hl with
        | [x0, x1], _ => exact ⟨x0, x1, rfl⟩
      refine ⟨.ref a, rfl, rfl, rfl, dd, _, v, rfl, hx, rfl, .ref a, rfl, rfl, .ref CA, .ref CA, rfl, fun u r => r, EA.kT, sz, q⟩
    · refine ⟨false, EA.bt, (fun z => absurd z (by decide)), fun _ => ⟨true, EA.bb, (fun _ a _ hl => ?_), fun z => absurd z (by decide)⟩⟩
      obtain ⟨x0, x1, rfl⟩ : ∃ x0 x1, σ' = [x0, x1] := by
        match σ', hl with
        | [x0, x1], _ => exact ⟨x0, x1, rfl⟩
      refine ⟨.ref a, rfl, rfl, rfl, dd, _, v, rfl, hx, rfl, v, e, rfl, hD, hS, .ref a, rfl, rfl, .ref CA, .ref CA, rfl, fun u r => r, EA.kB, sz, q⟩
    · refine ⟨false, EA.lt, (fun z => absurd z (by decide)), fun _ => ⟨false, EA.lb, (fun z => absurd z (by decide)), fun _ => ⟨true, EA.ll, (fun _ a _ hl => ?_), fun z => absurd z (by decide)⟩⟩⟩
      obtain ⟨x0, x1, rfl⟩ : ∃ x0 x1, σ' = [x0, x1] := by
        match σ', hl with
        | [x0, x1], _ => exact ⟨x0, x1, rfl⟩
      refine ⟨.ref a, rfl, rfl, rfl, dd, _, v, rfl, hx, rfl, .ref a, rfl, rfl, .ref CA, .ref CA, rfl, fun u r => r, EA.kL, sz, q⟩
end
end Ag
set_option Elab.async false
set_option linter.all false
set_option maxRecDepth 100000
set_option maxHeartbeats 4000000
/-! ### calls with keywords alone; how fewest_kept and kept_right bind -/
namespace Ag
open PySem PySem.Spec PyProof.Rows L2
section
variable {X : Cx} {CX : CXT} {k : Nat} {f : Addr} {fd : FuncData} {ps ks : List Str} {sp : Sp} {E : XK} {x : Str} {p pos : Pos} {kws : List Keyword} {tk : TA} {g : List Value → List Value → List Value} {gV : List V → List V → List V}
theorem pe_callN0 (F : FnOk X.prog X.w X.K X.mg X.base CX k f fd ps sp) (hr : Room k X.A) (hg : Gl X x) (hm : X.mg x = some (.ref f)) (hk : PySem.W.keepIn X.K (.ref f) = true) (hb : KBn X.K fd ps 0 ks g gV) (hx : Passes CX X E) (hkw : PK X kws tk)
    (hall : (backToKw pos (keywordEach kws X.env)).all (·.1.isSome) = true := by rfl) (hks : (backToKw pos (keywordEach kws X.env)).filterMap (·.1) = ks := by rfl) (hdb : (x == ("__debug__" : Str)) = false := by decide)
    (hpl : ((backTo pos (starEach [] X.env)).any (·.1) || (backToKw pos (keywordEach kws X.env)).any (·.1.isNone)) = false := by rfl) :
    PE X (.Call (.Name x p) [] kws pos) (tCallN 0 ks.length sp gV E tNil tk) := by
  refine ⟨fun pins s σ H Q I h => ?_⟩
  refine wpAny_Call_Name_kw (ld_glob I hg hm ?_ hdb)
  refine PySem.W.callWith_KW0 (h₀ := X.base) I.ok.mod.kin hk hall ?_ hpl
  refine thn (hkw.run pos pins s σ H _ I h) fun ws s2 ⟨zs, H2, I2, rz, l1, l2, q2⟩ => ⟨I2.kIn, ?_⟩
  rw [hks]
  exact run_fnN (us := []) (vs := []) F hr hb hx I2 .nil rz rfl l2 q2
end
section
variable {K : PySem.W.Frag} {f : Addr} {fd : FuncData}
abbrev FkD (K : PySem.W.Frag) (f : Addr) (fd : FuncData) : Prop := FunD K "fewest_kept" "fewest_kept" (defArgs sFewestKept) (defBody sFewestKept) (defScope sFewestKept) [] [("most", .int 20000)] f fd
abbrev psFk : List Str := ["machine", "log", "copies", "most"]
theorem fk_plain (F : FkD K f fd) : ∃ ds, Vals [V.int 20000] ds ∧ Binds K fd psFk ds :=
  F.binds0 (ps := psFk) 3 (by simp) rfl fun D doc pm an cdv ct us ks h1 h2 => match us, h1, ks, h2 with
    | [a, b, c], _, [d], _ => ⟨_, _, _, _, _, _, rfl, rfl, rfl⟩
theorem fk_most (F : FkD K f fd) : ∃ mv : List Value, KBn K fd psFk 3 ["most"] (fun us ws => us ++ ws) (fun vs zs => vs ++ zs) := by
  obtain ⟨mv, h⟩ := F.kbinds0 (ps := psFk) 3 ["most"] [] (fun {α} us mv ws => us ++ ws) (by simp) (by simp) (fun r1 _ r3 => r1.append r3) fun D doc pm an cdv ct us mv ws h1 h2 h3 => match us, h1, mv, h2, ws, h3 with
    | [a, b, c], _, [], _, [d], _ => rfl
  exact ⟨mv, h⟩
def gK (us : List α) (ws : List α) : List α := match ws with
  | [c, l, m, k] => [m, l, c, k]
  | _ => []
theorem fk_kw (F : FkD K f fd) : ∃ mv : List Value, KBn K fd psFk 0 ["copies", "log", "machine", "most"] gK gK := by
  obtain ⟨mv, h⟩ := F.kbinds0 (ps := psFk) 0 ["copies", "log", "machine", "most"] [] (fun {α} us mv ws => gK us ws) (by simp) (by simp) (fun r1 _ r3 => by
    cases r3 with
    | nil => exact .nil
    | cons a r3 => cases r3 with
      | nil => exact .nil
      | cons b r3 => cases r3 with
        | nil => exact .nil
        | cons c r3 => cases r3 with
          | nil => exact .nil
          | cons d r3 => cases r3 with
            | nil => exact .cons c (.cons b (.cons a (.cons d .nil)))
            | cons e r3 => exact .nil) fun D doc pm an cdv ct us mv ws h1 h2 h3 => match us, h1, mv, h2, ws, h3 with
    | [], _, [], _, [a, b, c, d], _ => rfl
  exact ⟨mv, h⟩
def gR (us : List α) (ws : List α) : List α := match ws with
  | [v, c, l, m] => [m, l, c, v]
  | _ => []
abbrev psKr : List Str := ["machine", "log", "copies", "value"]
theorem kr_kw (F : FnP K "kept_right" sKeptRight f fd) : KBn K fd psKr 0 ["value", "copies", "log", "machine"] gR gR := by
  obtain ⟨oc, od, dV, kV, doc, pm, an, cdv, ct, osl, rfl, lk, hcd, hD, hK⟩ := F.ex
  rcases hD with ⟨_, rfl⟩ | ⟨e, _⟩
  · refine ⟨fun s us ws X l1 l2 => .of_eq ?_, fun r1 r3 => ?_⟩
    · match us, l1, ws, l2 with
      | [], _, [a, b, c, d], _ => rfl
    · cases r3 with
      | nil => exact .nil
      | cons a r3 => cases r3 with
        | nil => exact .nil
        | cons b r3 => cases r3 with
          | nil => exact .nil
          | cons c r3 => cases r3 with
            | nil => exact .nil
            | cons d r3 => cases r3 with
              | nil => exact .cons d (.cons c (.cons b (.cons a .nil)))
              | cons e r3 => exact .nil
  · exact absurd rfl e
end
end Ag
set_option Elab.async false
set_option linter.all false
set_option maxRecDepth 100000
set_option maxHeartbeats 4000000
/-! ### the law: the heap without the box and the tables of code objects -/
namespace Ag
open PySem PySem.Spec PyProof.Rows L2 RZ LamX
def hidB (B : Addr) (H : Hp) : Hp := fun a => if a = B then none else match H a with
  | some (.tbl _) => none
  | o => o
theorem hidB_some {B : Addr} {H : Hp} {a : Addr} {o : HO} (h : hidB B H a = some o) : a ≠ B ∧ H a = some o ∧ ∀ ps, o ≠ .tbl ps := by
  unfold hidB at h
  by_cases e : a = B
  · rw [if_pos e] at h; cases h
  · rw [if_neg e] at h
    refine ⟨e, ?_⟩
    split at h
    · cases h
    · rename_i hne
      exact ⟨h, fun ps z => hne ps (by rw [h, z])⟩
theorem hidB_of {B : Addr} {H : Hp} {a : Addr} {o : HO} (n : a ≠ B) (h : H a = some o) (t : ∀ ps, o ≠ .tbl ps) : hidB B H a = some o := by
  unfold hidB
  rw [if_neg n]
  split
  · rename_i ps e
    rw [h] at e
    exact absurd (Option.some.inj e) (t ps)
  · exact h
theorem hid_sub {B : Addr} {H : Hp} : Same (hidB B H) H := fun _ _ e => (hidB_some e).2.1
theorem hid_ext {B : Addr} {H H1 : Hp} (e : ExtN H H1) : Same (hidB B H) (hidB B H1) := fun a o h => by
  obtain ⟨n, h1, t⟩ := hidB_some h
  exact hidB_of n (e a o h1 t) t
theorem hid_sameB {B : Addr} {H H1 : Hp} (s : SameB B H H1) : Same (hidB B H) (hidB B H1) := fun a o h => by
  obtain ⟨n, h1, t⟩ := hidB_some h
  exact hidB_of n (s a o n h1) t
theorem hid_same {B : Addr} {H H1 : Hp} (s : Same H H1) : Same (hidB B H) (hidB B H1) := hid_sameB (.of s)
/-- the tables of code objects stay, whatever becomes of the box -/
theorem tabsB {T : List (Addr × Str)} {H H1 : Hp} {B : Addr} (h : LamX.Tabs T H) (s : SameB B H H1) (b : BoxAt H B) : LamX.Tabs T H1 := fun p hp => by
  obtain ⟨ps, h1, h2, h3⟩ := h p hp
  obtain ⟨g, r, hb, _⟩ := b
  have nP : p.1 ≠ B := fun z => by rw [z, hb] at h1; cases h1
  refine ⟨ps, s _ _ nP h1, h2, fun pos cv hc => ?_⟩
  obtain ⟨c, e1, e2⟩ := h3 pos cv hc
  refine ⟨c, e1, s _ _ (fun z => ?_) e2⟩
  rw [z, hb] at e2
  have e2 : some (HO.lst (boxV g r)) = some (CodeO B p.2) := e2
  unfold CodeO at e2
  cases e2
theorem tabsS {T : List (Addr × Str)} {H H1 : Hp} (h : LamX.Tabs T H) (s : Same H H1) : LamX.Tabs T H1 := h.ext s
theorem box_tup {H : Hp} {B a : Addr} {xs : List V} (b : BoxAt H B) (h : H a = some (.tup xs)) : a ≠ B := fun z => by
  obtain ⟨g, r, hb, _⟩ := b
  rw [z, hb] at h
  cases h
theorem refs_box {as : List Addr} {g r : Nat} (h : as.map V.ref = boxV g r) : False := by
  cases as with
  | nil => cases h
  | cons a r => cases h
theorem box_refs {H : Hp} {B a : Addr} {as : List Addr} (b : BoxAt H B) (h : IsSq H a (as.map V.ref)) : a ≠ B := fun z => by
  rcases h with h | h
  · obtain ⟨g, r, hb, _⟩ := b
    rw [z, hb] at h
    exact refs_box (HO.lst.inj (Option.some.inj h)).symm
  · exact box_tup b h z
theorem hid_tup {H : Hp} {B a : Addr} {xs : List V} (b : BoxAt H B) (h : H a = some (.tup xs)) : hidB B H a = some (.tup xs) := hidB_of (box_tup b h) h (fun _ z => by cases z)
theorem hid_sq {H : Hp} {B a : Addr} {xs : List V} (n : a ≠ B) (h : IsSq H a xs) : IsSq (hidB B H) a xs := h.elim (fun h => .inl (hidB_of n h (fun _ z => by cases z))) fun h => .inr (hidB_of n h (fun _ z => by cases z))
theorem hid_refs {H : Hp} {B a : Addr} {as : List Addr} (b : BoxAt H B) (h : IsSq H a (as.map V.ref)) : IsSq (hidB B H) a (as.map V.ref) := hid_sq (box_refs b h) h
theorem hid_tab {H : Hp} {B a : Addr} {t : Tabs} (b : BoxAt H B) (h : TabAt H a t) : TabAt (hidB B H) a t := by
  obtain ⟨as, h1, h2, h3⟩ := h
  exact ⟨as, hid_refs b h1, h2, fun i c e => hid_tup b (h3 i c e)⟩
theorem hid_mach {C : Addr} {H : Hp} {B m S : Nat} {t : Tabs} (b : BoxAt H B) (h : MachAt C H m t S) : MachAt C (hidB B H) m t S := by
  obtain ⟨dx, ta, h1, h2⟩ := h
  refine ⟨dx, ta, hidB_of (fun z => ?_) h1 (fun _ z => by cases z), hid_tab b h2⟩
  obtain ⟨g, r, hb, _⟩ := b
  rw [z, hb] at h1
  cases h1
theorem hid_pairs {H : Hp} {B a : Addr} {cs : List (Nat × Nat)} (b : BoxAt H B) (h : PairsAt H a cs) : PairsAt (hidB B H) a cs := by
  obtain ⟨as, h1, h2, h3⟩ := h
  exact ⟨as, hid_refs b h1, h2, fun i c p e1 e2 => hid_tup b (h3 i c p e1 e2)⟩
theorem hid_nts {H : Hp} {B : Addr} {as : List Addr} {hs : List (List Nat)} (b : BoxAt H B) (h : NtsL H as hs) : NtsL (hidB B H) as hs := ⟨h.len, fun i c E e1 e2 => hid_tup b (h.at_ i c E e1 e2)⟩
theorem hid_ntsAt {H : Hp} {B a : Addr} {hs : List (List Nat)} (b : BoxAt H B) (h : NtsAt H a hs) : NtsAt (hidB B H) a hs := by
  obtain ⟨as, h1, h2⟩ := h
  exact ⟨as, hidB_of (box_refs b (.inl h1)) h1 (fun _ z => by cases z), hid_nts b h2⟩
/-- a box that is new: nothing else is touched -/
theorem free_sameB {B p : Addr} {H H1 : Hp} (s : SameB B H H1) (n : p ≠ B) (h : H1 p = none) : H p = none := by
  cases e : H p with
  | none => rfl
  | some u => rw [s p u n e] at h; cases h
/-! ### what the law's parts promise -/
structure LawC (P : Program) (w : World) (K : PySem.W.Frag) (mg : Str → Option Value) (base : Heap) (C CA CT CB CL : Addr) : Prop where
  T : Txt mg
  M : MTxt K mg C
  EA : ExA K mg CA CT CB CL
  box : Cl P w K mg base CX0 1 "_law_box" (spBox K)
  take : Cl P w K mg base CX0 1 "_law_take" spTake
  pick : Cl P w K mg base CX0 2 "_law_pick" spPick
  tables : Cl P w K mg base CX0 3 "_law_tables" spTables
  lots : Cl P w K mg base CX0 1 "_law_lots" spLots
  enough : Cl P w K mg base CX0 2 "_law_is_enough" spEnough
  judged : Cl P w K mg base CX0 3 "_law_judged" spJudged
  mkM : ∃ fI fdI, Mk K C fI ∧ FnOk P w K mg base CX0 6 fI fdI ["self", "tables"] (spInit C) ∧ L2.Binds K fdI ["self", "tables"] []
  fk : ∃ f fd, FnOk P w K mg base (L2.CX P w) 6 f fd psFk (spFewestKept C CL CB CT) ∧ FkD K f fd ∧ mg "fewest_kept" = some (.ref f)
  kr : ∃ f fd, FnOk P w K mg base (L2.CX P w) 6 f fd psKr (spKeptRight C CL CB) ∧ FnP K "kept_right" sKeptRight f fd ∧ mg "kept_right" = some (.ref f)
  he : ∃ g fd, FnP K "_law_heard" sHeard g fd ∧ mg "_law_heard" = some (.ref g)
abbrev nLaw : List Str := ["_law_script", "_law_k", "_law_box_here", "_law_tables_here", "_law_machine", "_law_many", "_law_log", "_law_turn", "_law_copies", "_law_enough", "_law_lot", "_law_due", "_law_bad", "_law_some", "_law_told", "_law_works", "_law_work", "_law_copy"]
theorem scLaw : FnScope nLaw ["_law_script"] (defScope sLaw) := ⟨rfl, rfl, rfl, by decide +kernel, rfl, by decide +kernel, by decide +kernel⟩
abbrev LX (P : Program) (w : World) (K : PySem.W.Frag) (mg : Str → Option Value) (base : Heap) (f : Addr) (cdv : Value) (A : Around) (outer : List Env) (s : Shared) (H0 : Hp) (E : XK) : Cx := (cxOf CX0 P w K mg base nLaw "law" (defScope sLaw) f cdv A outer s H0 E).nox
def forBody : List Stmt → List Stmt
  | .For _ _ b _ _ :: _ => b
  | _ => []
abbrev lawBody : List Stmt := forBody (defBody sLaw)
/-- what the law has made: on the heap without its box -/
structure Lw (C : Addr) (G : Hp) (S : Nat) (t : Tabs) (log : List Nat) (cs : List (Nat × Nat)) (es : List (List Nat)) (due : List Nat) (T M L Cp En Du : Addr) : Prop where
  tab : TabAt G T t
  tok : TabsOk t S
  mach : MachAt C G M t S
  logA : G L = some (.tup (nV log))
  ll : log.length ≤ 8
  ld : ∀ d ∈ log, d < t.length
  cps : PairsAt G Cp cs
  cpl : ∃ as : List Addr, G Cp = some (.lst (as.map V.ref)) ∧ as.length = cs.length ∧ ∀ (i : Nat) (b : Addr) (c : Nat × Nat), as[i]? = some b → cs[i]? = some c → G b = some (.tup (pairV c))
  cok : CopiesOk S log.length cs
  cz : cs.length ≤ 5
  en : NtsAt G En es
  eok : ∀ e ∈ es, IsLot log.length e
  ene : es ≠ []
  eln : es.length ≤ 256
  dueA : G Du = some (.tup (nV due))
  isd : IsDue t log cs due
theorem Lw.same {C : Addr} {G G' : Hp} {S : Nat} {t : Tabs} {log : List Nat} {cs : List (Nat × Nat)} {es : List (List Nat)} {due : List Nat} {T M L Cp En Du : Addr} (h : Lw C G S t log cs es due T M L Cp En Du) (s : Same G G') : Lw C G' S t log cs es due T M L Cp En Du := by
  obtain ⟨as, p1, p2, p3⟩ := h.cpl
  exact ⟨h.tab.same s, h.tok, h.mach.same s, s _ _ h.logA, h.ll, h.ld, h.cps.same s, ⟨as, s _ _ p1, p2, fun i b c e1 e2 => s _ _ (p3 i b c e1 e2)⟩, h.cok, h.cz, h.en.same s, h.eok, h.ene, h.eln, s _ _ h.dueA, h.isd⟩
end Ag
set_option Elab.async false
set_option linter.all false
set_option maxRecDepth 100000
set_option maxHeartbeats 4000000
/-! ### the law: what it makes -/
namespace Ag
open PySem PySem.Spec PyProof.Rows L2 RZ LamX
section
variable {P : Program} {w : World} {K : PySem.W.Frag} {mg : Str → Option Value} {base : Heap} {C CA CT CB CL : Addr} {f : Addr} {cdv : Value} {A : Around} {outer : List Env} {s : Shared} {H0 : Hp} {E : XK}
/-- pairs that are being made: D the list -/
def PrInv (b D : Addr) (H1 : Hp) (S n s : Nat) (H' : Hp) : Prop := SameB b H1 H' ∧ BoxAt H' b ∧ ∃ (as : List Addr) (cs : List (Nat × Nat)), H' D = some (.lst (as.map V.ref)) ∧ as.length = s ∧ cs.length = s ∧ (∀ (i : Nat) (a : Addr) (c : Nat × Nat), as[i]? = some a → cs[i]? = some c → H' a = some (.tup (pairV c))) ∧ CopiesOk S n cs
theorem PrInv.push {b D W : Addr} {H1 H2 H3 : Hp} {S n s : Nat} {c : Nat × Nat} (h : PrInv b D H1 S n s H2) (s3 : SameB b H2 H3) (bx : BoxAt H3 b) (nb : D ≠ b) (hD : H1 D = none) (hW : H3 W = some (.tup (pairV c))) (hc : c.1 < S ∧ c.2 ≤ n) (hs : s ≤ 1000) :
    ∃ acc, H3 D = some (.lst acc) ∧ acc.length < sizeLine ∧ PrInv b D H1 S n (s + 1) (upd H3 D (.lst (acc ++ [V.ref W]))) := by
  obtain ⟨a1, a2, as, cs, a3, a4, a5, a6, a7⟩ := h
  have d3 := s3 _ _ nb a3
  refine ⟨_, d3, by rw [List.length_map]; exact wl _ (by omega), fun c u hc e => ?_, ?_, as ++ [W], cs ++ [c], ?_, by simp [a4], by simp [a5], fun i a p e1 e2 => ?_, fun z hz => ?_⟩
  · rw [upd_ne (ne_of_none e hD)]
    exact s3 c u hc (a1 c u hc e)
  · obtain ⟨g, r, e, hr⟩ := bx
    exact ⟨g, r, by rw [upd_ne (Ne.symm nb)]; exact e, hr⟩
  · rw [upd_same, List.map_append]
    rfl
  · refine tup_updL d3 _ _ ?_
    by_cases hi : i < s
    · rw [List.getElem?_append_left (by omega)] at e1 e2
      have := a6 i a p e1 e2
      refine s3 _ _ ?_ this
      exact box_tup a2 this
    · rw [List.getElem?_append_right (by omega), a4] at e1
      rw [List.getElem?_append_right (by omega), a5] at e2
      cases hz : i - s with
      | zero =>
        rw [hz] at e1 e2
        cases e1
        cases e2
        exact hW
      | succ n => rw [hz] at e1; cases e1
  · rcases List.mem_append.mp hz with hz | hz
    · exact a7 z hz
    · rw [List.mem_singleton.mp hz]; exact hc
theorem int_mem {l : List Int} {x : V} (h : x ∈ l.map V.int) (k : ∀ z ∈ l, 0 ≤ z ∧ z ≤ 8) : ∃ n : Nat, x = .int (n : Int) ∧ n ≤ 8 := by
  obtain ⟨z, hz, rfl⟩ := List.mem_map.mp h
  obtain ⟨h1, h2⟩ := k z hz
  exact ⟨z.toNat, by rw [Int.toNat_of_nonneg h1], by omega⟩
theorem blkA (L : LawC P w K mg base C CA CT CB CL) (hr : Room 9 (A.deeper (envOfC "law" (defScope sLaw) s.heap.objs.size f cdv))) {rest : List Stmt} {u : TS} (hR : PSs (LX P w K mg base f cdv A outer s H0 E) rest u) :
    ∃ t, PSs (LX P w K mg base f cdv A outer s H0 E) (lawBody.take 5 ++ rest) t ∧ ∀ (D : Ends) (H : Hp) (sc : Addr) (k : Nat) (ns : List Int) (TT : List (Addr × Str)) (v2 v3 v4 v5 v6 v7 v8 v9 v10 v11 v12 v13 v14 v15 v16 v17 : Option V), SqL K H sc (ns.map V.int) → k ≤ 100 → LamX.Tabs TT H →
      (∀ (H' : Hp) (B T M L' Cp : Addr) (S : Nat) (tb : Tabs) (log : List Nat) (cs : List (Nat × Nat)) (v7 : Option V), H B = none → SqL K (hidB B H') sc (ns.map V.int) → Same H H' → BoxAt H' B → LamX.Tabs TT H' →
        TabAt (hidB B H') T tb → TabsOk tb S → MachAt C (hidB B H') M tb S → (hidB B H') L' = some (.tup (nV log)) → log.length ≤ 8 → (∀ d ∈ log, d < tb.length) → 
        (∃ as : List Addr, (hidB B H') Cp = some (.lst (as.map V.ref)) ∧ as.length = cs.length ∧ ∀ (i : Nat) (b : Addr) (c : Nat × Nat), as[i]? = some b → cs[i]? = some c → (hidB B H') b = some (.tup (pairV c))) → CopiesOk S log.length cs → cs.length ≤ 5 →
        u D [some (.ref sc), some (.int (k : Int)), some (.ref B), some (.ref T), some (.ref M), some (.int (S : Int)), some (.ref L'), v7, some (.ref Cp), v9, v10, v11, v12, v13, v14, v15, v16, v17] H') →
      t D [some (.ref sc), some (.int (k : Int)), v2, v3, v4, v5, v6, v7, v8, v9, v10, v11, v12, v13, v14, v15, v16, v17] H := by
  have T := L.T
  have C_law_box := L.box
  have C_law_take := L.take
  have C_law_pick := L.pick
  have C_law_tables := L.tables
  obtain ⟨fI, fdI, MK, FI, BI⟩ := L.mkM
  refine ⟨_, (pss_cons (ps_set (i := 2) scLaw.nd rfl (Or.inr rfl) (pe_cl C_law_box hr (by decide) rfl (pa_cons (pv 0) (pa_cons (pv 1) pa_nil))))
       (pss_cons (ps_set (i := 3) scLaw.nd rfl (Or.inr rfl) (pe_cl C_law_tables hr (by decide) rfl (pa_cons (pv 2) pa_nil)))
       (pss_cons (ps_asg (pe_tup (pa_cons (pe_make MK FI (hr.mono (by decide)) rfl L.M.gC BI .nil pass0 (pa_cons (pv 3) pa_nil)) (pa_cons (pe_callB (call_len) (by rfl) T.len (by decide +kernel) (pa_cons (pe_ix ix_seq (pv 3) pe_int (fun _ _ => rfl)) pa_nil)) pa_nil))) (pg_tup rfl (pgs_cons (pg_name (i := 4) scLaw.nd rfl (Or.inr rfl)) (pgs_cons (pg_name (i := 5) scLaw.nd rfl (Or.inr rfl)) pgs_nil))))
       (pss_cons (ps_set (i := 6) scLaw.nd rfl (Or.inr rfl) (pe_callTy (call_tupleSq) (by rfl) T.tuple (by decide +kernel) (pa_cons (pe_lc (own := [("_law_turn", 7)]) (g := (gName 7)) (te := tCall spTake [] E0 (tCons (tVar 2) (tCons (tCB (fun xs H Q => ∃ x n, xs = [x] ∧ LenV K x H n ∧ Q (.int n) H) (tCons (tVar 3) tNil)) tNil))) rfl scLaw.nd (pi_range1 rfl T.range (pa_cons (pe_cl C_law_pick hr (by decide) rfl (pa_cons (pv 2) (pa_cons (pe_lst (pa_cons pe_int (pa_cons pe_int (pa_cons pe_int (pa_cons pe_int (pa_cons pe_int (pa_cons pe_int pa_nil))))))) pa_nil))) pa_nil)) (blkOk_by (own := [("_law_turn", 7)]) (N := nLaw) (sc := defScope sLaw) (by decide +kernel)) (fun _ _ _ _ _ => (pg_name (i := 7) scLaw.nd rfl (Or.inl rfl))) (fun _ _ _ _ _ => pts_nil) (fun _ _ _ _ _ => (pe_cl C_law_take hr (by decide) rfl (pa_cons (pv 2) (pa_cons (pe_callB (call_len) (by rfl) T.len (by decide +kernel) (pa_cons (pv 3) pa_nil)) pa_nil))))) pa_nil)))
       (pss_cons (ps_set (i := 8) scLaw.nd rfl (Or.inr rfl) (pe_lc (own := [("_law_turn", 7)]) (g := (gName 7)) (te := tTup (tCons (tCall spTake [] E0 (tCons (tVar 2) (tCons (tVar 5) tNil))) (tCons (tCall spTake [] E0 (tCons (tVar 2) (tCons (tOp (rI0 fun i j => .int (i + j)) (tCB (fun xs H Q => ∃ x n, xs = [x] ∧ LenV K x H n ∧ Q (.int n) H) (tCons (tVar 6) tNil)) (tC (.int 1))) tNil))) tNil))) rfl scLaw.nd (pi_range1 rfl T.range (pa_cons (pe_cl C_law_take hr (by decide) rfl (pa_cons (pv 2) (pa_cons pe_int pa_nil))) pa_nil)) (blkOk_by (own := [("_law_turn", 7)]) (N := nLaw) (sc := defScope sLaw) (by decide +kernel)) (fun _ _ _ _ _ => (pg_name (i := 7) scLaw.nd rfl (Or.inl rfl))) (fun _ _ _ _ _ => pts_nil) (fun _ _ _ _ _ => (pe_tup (pa_cons (pe_cl C_law_take hr (by decide) rfl (pa_cons (pv 2) (pa_cons (pv 5) pa_nil))) (pa_cons (pe_cl C_law_take hr (by decide) rfl (pa_cons (pv 2) (pa_cons (pe_op op_add (pe_callB (call_len) (by rfl) T.len (by decide +kernel) (pa_cons (pv 6) pa_nil)) pe_int) pa_nil))) pa_nil))))))
       hR))))), fun D H sc k ns TT v2 v3 v4 v5 v6 v7 v8 v9 v10 v11 v12 v13 v14 v15 v16 v17 hS hk hT q => ?_⟩
  have sz2 : 2 ≤ sizeLine := by decide
  refine ⟨_, rfl, _, rfl, sc, ns, k, rfl, hS, hk, fun B H1 s1 hB b1 => ?_⟩
  have t1 := tabsS hT s1
  refine ⟨_, rfl, B, rfl, b1, fun T0 tb S H2 s2 b2 nT hTb hok => ?_⟩
  have t2 := tabsB t1 s2 b1
  refine ⟨_, rfl, fun m dx hm hdx hne => ⟨m, T0, dx, S, tb, rfl, upd_same, ?_, hok, fun H3 dx' keep ma hfs => ⟨rfl, ?_⟩⟩⟩
  · exact hTb.same ((same_new hdx).trans (same_new (by rw [upd_ne (Ne.symm hne)]; exact hm)))
  have s3 : Same H2 H3 := fun b v e => keep b v (ne_of_none e hm) (by rw [upd_ne (ne_of_none e hm), upd_ne (ne_of_none e hdx)]; exact e)
  have b3 := b2.same s3
  have T3 := hTb.same s3
  obtain ⟨xs, rb, x1, x2, x3⟩ := T3.row (d := 0) hok.d1
  refine ⟨_, rfl, ix_sq (j := 0) x1 x2 rfl ?_⟩
  refine ⟨_, _, rfl, lenV_sq (.inr x3), sz2, fun p hp => ⟨p, _, rfl, .of upd_same, rfl, _, _, rfl, _, _, rfl, rfl, ?_⟩⟩
  rw [nV_length, (hok.wf 0 hok.d1).1]
  have s4 : Same H3 (upd H3 p (.tup [.ref m, .int (S : Int)])) := same_new hp
  generalize upd H3 p (.tup [.ref m, .int (S : Int)]) = H4 at s4
  have b4 := b3.same s4
  have s14 : SameB B H1 H4 := (s2.same s3).same s4
  refine ⟨_, rfl, by show 6 ≤ sizeLine; decide, fun a ha => ⟨B, a, _, rfl, b4.same (same_new ha), box_ne b4 ha, upd_same, by decide, by decide, fun x H5 hx s5 b5 => ?_⟩⟩
  obtain ⟨n, rfl, hn⟩ := int_mem (l := [6, 7, 5, 8, 3, 0]) hx (by decide)
  have s45 : SameB B H4 H5 := (SameB.of (same_new ha)).trans s5
  have en : ((n : Int)).toNat = n := by omega
  have hd1 := hok.d1
  have hd2 := hok.d2
  have hs1 := hok.s1
  have hs2 := hok.s2
  have T4 := hid_tab b4 (T3.same s4)
  refine ⟨_, rfl, by omega, by omega, fun D0 hD0 => lc_it walk_range (fun i H' => RowInv B D0 H5 tb.length i H') ⟨.of (same_new hD0), b5.same (same_new hD0), [], upd_same, rfl, fun x hx => absurd hx List.not_mem_nil⟩ (fun _ _ _ _ => trivial) ?_ ?_⟩
  · rintro i x H6 H7 hi hri ⟨rfl, rfl⟩
    have nb := box_ne b5 hD0
    obtain ⟨as, ta1, ta2, ta3⟩ := T4.same (hid_sameB (s45.trans hri.1))
    have hln : LenV K (.ref T0) H7 tb.length := by
      have := lenV_sq (K := K) (ta1.same hid_sub)
      rw [List.length_map, ta2] at this
      exact this
    refine ⟨rfl, _, rfl, _, rfl, _, _, rfl, hln, B, tb.length, rfl, hri.2.1, by omega, by omega, fun j H8 hj s8 b8 => ?_⟩
    exact hri.push s8 b8 nb hD0 hj rfl (by omega)
  rintro H6 hri
  rw [en] at hri
  obtain ⟨r1, r2, log, r3, r4, r5⟩ := hri
  refine ⟨D0, _, rfl, .inl r3, fun L' H7 s7 hL => ?_⟩
  have b7 := r2.same s7
  have s47 : SameB B H4 H7 := (s45.trans r1).same s7
  refine ⟨_, rfl, B, 6, rfl, b7, by decide, by decide, fun m5 H8 hm5 s8 b8 => ?_⟩
  have en5 : ((m5 : Int)).toNat = m5 := by omega
  have L8 := hid_tup b8 (s8 _ _ (box_tup b7 hL) hL)
  refine ⟨_, rfl, by omega, by omega, fun D1 hD1 => lc_it walk_range (fun i H' => PrInv B D1 H8 S log.length i H') ⟨.of (same_new hD1), b8.same (same_new hD1), [], [], upd_same, rfl, rfl, (fun i a c e => by cases e), fun c hc => absurd hc List.not_mem_nil⟩ (fun _ _ _ _ => trivial) ?_ ?_⟩
  · rintro i x H9 H10 hi hri ⟨rfl, rfl⟩
    have nb := box_ne b8 hD1
    refine ⟨rfl, _, rfl, _, rfl, B, S, rfl, hri.2.1, by omega, by omega, fun j H11 hj s11 b11 => ?_⟩
    have hL11 : H11 L' = some (.tup (nV log)) := hid_sub _ _ (hid_sameB (hri.1.trans s11) _ _ L8)
    refine ⟨_, rfl, _, rfl, _, _, rfl, lenV_sq (.inr hL11), _, _, rfl, rfl, ?_⟩
    rw [nV_length]
    refine ⟨B, log.length + 1, rfl, b11, by omega, by omega, fun j2 H12 hj2 s12 b12 => ⟨sz2, fun W hW => ?_⟩⟩
    exact hri.push (c := (j, j2)) ((s11.trans s12).same (same_new hW)) (b12.same (same_new hW)) nb hD1 upd_same ⟨hj, by show j2 ≤ log.length; omega⟩ (by omega)
  rintro H9 hri
  rw [en5] at hri
  obtain ⟨c1, c2, as, cs, c3, c4, c5, c6, c7⟩ := hri
  have s89 : Same (hidB B H8) (hidB B H9) := hid_sameB c1
  have s49 : SameB B H4 H9 := (s47.trans s8).trans c1
  have s19 : SameB B H1 H9 := s14.trans s49
  have s09 : Same H H9 := ((SameB.of s1).trans s19).full hB
  refine q H9 B T0 m L' D1 S tb log cs _ hB ?_ s09 c2 (tabsB t1 s19 b1) (T4.same (hid_sameB s49)) hok ((hid_mach b4 (ma.same s4)).same (hid_sameB s49)) (s89 _ _ L8) (by omega) r5 ⟨as, ?_, by omega, fun i b c e1 e2 => hid_tup c2 (c6 i b c e1 e2)⟩ c7 (by omega)
  · have h9 := sqL_same hS s09
    have nS : ∀ {xs}, (H sc = some (.lst xs) ∨ ∃ o, H sc = some (.frz o (.lst xs))) → sc ≠ B := fun {xs} h z => by
      rw [z, hB] at h
      rcases h with h | ⟨o, h⟩ <;> cases h
    rcases hS with h | h
    · have n := nS h
      rcases h with h | ⟨o, h⟩
      · exact .inl (.inl (hidB_of n (s09 _ _ h) (fun _ z => by cases z)))
      · exact .inl (.inr ⟨o, hidB_of n (s09 _ _ h) (fun _ z => by cases z)⟩)
    · exact .inr h
  · exact hidB_of (box_ne b8 hD1) c3 (fun _ z => by cases z)
end
end Ag
set_option Elab.async false
set_option linter.all false
set_option maxRecDepth 100000
set_option maxHeartbeats 4000000
/-! ### the law: the lots that are enough, the due one -/
namespace Ag
open PySem PySem.Spec PyProof.Rows L2 RZ LamX
section
variable {P : Program} {w : World} {K : PySem.W.Frag} {mg : Str → Option Value} {base : Heap} {C CA CT CB CL : Addr} {f : Addr} {cdv : Value} {A : Around} {outer : List Env} {s : Shared} {H0 : Hp} {E : XK}
/-- some of the tuples are taken over -/
def FN (D : Addr) (H1 : Hp) (ls : List (List Nat)) (p : List Nat → Bool) (j : Nat) (H' : Hp) : Prop := Same H1 H' ∧ ∃ ns : List Addr, H' D = some (.lst (ns.map V.ref)) ∧ NtsL H' ns ((ls.take j).filter p)
theorem FN.yes {D a : Addr} {H1 H2 H3 : Hp} {ls : List (List Nat)} {p : List Nat → Bool} {j : Nat} {e : List Nat} (h : FN D H1 ls p j H2) (s : Same H2 H3) (he : ls[j]? = some e) (hp : p e = true) (ha : H1 a = some (.tup (nV e))) (hD : H1 D = none) (hj : ls.length ≤ 1000) :
    ∃ acc, H3 D = some (.lst acc) ∧ acc.length < sizeLine ∧ FN D H1 ls p (j + 1) (upd H3 D (.lst (acc ++ [V.ref a]))) := by
  obtain ⟨s1, ns, n1, n2⟩ := h
  have d3 := s _ _ n1
  refine ⟨_, d3, ?_, sm_upd1 (s1.trans s) hD, ns ++ [a], by rw [upd_same, List.map_append]; rfl, ?_⟩
  · rw [List.length_map, n2.len]
    refine wl _ ?_
    have h1 := List.length_filter_le p (ls.take j)
    have h2 : (ls.take j).length ≤ ls.length := by rw [List.length_take]; omega
    omega
  · rw [take_succ' he, List.filter_append, show [e].filter p = [e] from by simp [hp]]
    refine ((n2.same s).push ?_).tups (tup_updL d3)
    exact s _ _ (s1 _ _ ha)
theorem FN.no {D : Addr} {H1 H2 H3 : Hp} {ls : List (List Nat)} {p : List Nat → Bool} {j : Nat} {e : List Nat} (h : FN D H1 ls p j H2) (s : Same H2 H3) (he : ls[j]? = some e) (hp : p e = false) : FN D H1 ls p (j + 1) H3 := by
  obtain ⟨s1, ns, n1, n2⟩ := h
  refine ⟨s1.trans s, ns, s _ _ n1, ?_⟩
  rw [take_succ' he, List.filter_append, show [e].filter p = [] from by simp [hp], List.append_nil]
  exact n2.same s
theorem blkB (L : LawC P w K mg base C CA CT CB CL) (hr : Room 9 (A.deeper (envOfC "law" (defScope sLaw) s.heap.objs.size f cdv))) {rest : List Stmt} {u : TS} (hR : PSs (LX P w K mg base f cdv A outer s H0 E) rest u) :
    ∃ t, PSs (LX P w K mg base f cdv A outer s H0 E) ((lawBody.drop 5).take 2 ++ rest) t ∧ ∀ (D : Ends) (H : Hp) (B T M L' Cp : Addr) (S : Nat) (tb : Tabs) (log : List Nat) (cs : List (Nat × Nat)) (TT : List (Addr × Str)) (v0 v1 v7 v9 v10 v11 v12 v13 v14 v15 v16 v17 : Option V), BoxAt H B → LamX.Tabs TT H →
        TabAt (hidB B H) T tb → TabsOk tb S → MachAt C (hidB B H) M tb S → (hidB B H) L' = some (.tup (nV log)) → log.length ≤ 8 → (∀ d ∈ log, d < tb.length) → 
        (∃ as : List Addr, (hidB B H) Cp = some (.lst (as.map V.ref)) ∧ as.length = cs.length ∧ ∀ (i : Nat) (b : Addr) (c : Nat × Nat), as[i]? = some b → cs[i]? = some c → (hidB B H) b = some (.tup (pairV c))) → CopiesOk S log.length cs → cs.length ≤ 5 →
      (∀ (H' : Hp) (En Du : Addr) (es : List (List Nat)) (due : List Nat), Same H H' → Lw C (hidB B H') S tb log cs es due T M L' Cp En Du → 
        u D [v0, v1, some (.ref B), some (.ref T), some (.ref M), some (.int (S : Int)), some (.ref L'), v7, some (.ref Cp), some (.ref En), v10, some (.ref Du), v12, v13, v14, v15, v16, v17] H') →
      t D [v0, v1, some (.ref B), some (.ref T), some (.ref M), some (.int (S : Int)), some (.ref L'), v7, some (.ref Cp), v9, v10, v11, v12, v13, v14, v15, v16, v17] H := by
  have T := L.T
  have C_law_lots := L.lots
  have C_law_is_enough := L.enough
  refine ⟨_, (pss_cons (ps_set (i := 9) scLaw.nd rfl (Or.inr rfl) (pe_lc (own := [("_law_lot", 10)]) (g := (gName 10)) rfl scLaw.nd (pi_sq (pe_cl C_law_lots hr (by decide) rfl (pa_cons (pe_callB (call_len) (by rfl) T.len (by decide +kernel) (pa_cons (pv 6) pa_nil)) pa_nil))) (blkOk_by (own := [("_law_lot", 10)]) (N := nLaw) (sc := defScope sLaw) (by decide +kernel)) (fun _ _ _ _ _ => (pg_name (i := 10) scLaw.nd rfl (Or.inl rfl))) (fun _ _ _ _ _ => (pts_one (pt_val (pe_cl C_law_is_enough hr (by decide) rfl (pa_cons (pv 3) (pa_cons (pv 6) (pa_cons (pv 8) (pa_cons (pv 10) pa_nil))))) (by intro _; rfl)))) (fun _ _ _ _ _ => (pv 10))))
       (pss_cons (ps_set (i := 11) scLaw.nd rfl (Or.inl rfl) (pe_callB (call_minN rfl hr.units) (by rfl) T.min (by decide +kernel) (pa_cons (pe_lc (own := [("_law_lot", 10)]) (g := (gName 10)) (tt := tTest (tOp rEq (tCB (fun xs H Q => ∃ x n, xs = [x] ∧ LenV K x H n ∧ Q (.int n) H) (tCons (tVar 10) tNil)) (tCB (fun xs H Q => ∃ x n, xs = [x] ∧ LenV K x H n ∧ Q (.int n) H) (tCons (tOp (rIx K) (tVar 9) (tC (.int 0))) tNil)))) rfl scLaw.nd (pi_sq (pv 9)) (blkOk_by (own := [("_law_lot", 10)]) (N := nLaw) (sc := defScope sLaw) (by decide +kernel)) (fun _ _ _ _ _ => (pg_name (i := 10) scLaw.nd rfl (Or.inl rfl))) (fun _ _ _ _ _ => (pts_one (pt_cmpR op_eq (pe_callB (call_len) (by rfl) T.len (by decide +kernel) (pa_cons (pv 10) pa_nil)) (pe_callB (call_len) (by rfl) T.len (by decide +kernel) (pa_cons (pe_ix ix_seq (pv 9) pe_int (fun _ _ => rfl)) pa_nil)) (nomark _)))) (fun _ _ _ _ _ => (pv 10))) pa_nil)))
       hR)), fun D H B Ta M L' Cp S tb log cs TT v0 v1 v7 v9 v10 v11 v12 v13 v14 v15 v16 v17 hB hTT hT hok hM hL hl8 hld hC hco hc5 q => ?_⟩
  have sub : ∀ {H' : Hp}, Same H H' → Same (hidB B H) H' := fun s => (hid_same s).trans hid_sub
  obtain ⟨Cas, cp1, cp2, cp3⟩ := hC
  have hPr : PairsAt (hidB B H) Cp cs := ⟨Cas, .inl cp1, cp2, cp3⟩
  refine ⟨_, rfl, _, _, rfl, lenV_sq (.inr (hid_sub _ _ hL)), log.length, by rw [nV_length]; rfl, hl8, fun p as ls H1 s1 hp hpa hN hperm hpair => ?_⟩
  have lsl : ls.length ≤ 256 := by
    rw [hperm.length_eq, lotsRaw_len]
    exact Nat.le_trans (Nat.pow_le_pow_right (by decide) hl8) (by decide)
  have isl : ∀ l ∈ ls, IsLot log.length l := fun l hl => lotsRaw_mem.mp (hperm.mem_iff.mp hl)
  refine ⟨p, _, rfl, .inl hpa, fun J G wk hG D1 hD1 => lc_it wk (FN D1 H1 ls (fun l => enough tb log cs l)) ⟨same_new hD1, [], upd_same, .nil⟩ (fun j H' _ ⟨s', _⟩ => hG _ (by rw [hpa]; exact s' _ _ hpa)) ?_ ?_⟩
  · rintro j x H6 H7 hj fn ⟨rfl, hx⟩
    have hja : j < as.length := by rw [List.length_map] at hj; exact hj
    rw [List.getElem?_map, List.getElem?_eq_getElem hja] at hx
    cases hx
    obtain ⟨e, he⟩ : ∃ e, ls[j]? = some e := ⟨ls[j]'(by rw [← hN.len]; exact hja), List.getElem?_eq_getElem _⟩
    have ha := hN.at_ j _ e (List.getElem?_eq_getElem hja) he
    have hlot := isl e (List.mem_of_getElem? he)
    have s17 := s1.trans fn.1
    have hel := lot_len hlot
    refine ⟨rfl, _, rfl, _, rfl, _, rfl, _, rfl, Ta, L', Cp, as[j], S, tb, log, cs, e, rfl, hT.same (sub s17), hok.wf, sub s17 _ _ hL, hld, by omega, hPr.same (sub s17), hco, by omega, .inr (fn.1 _ _ ha), hlot.2, by omega, fun H8 s8 => ⟨_, rfl, ite2 (fun c => ?_) (fun c => ?_)⟩⟩
    · exact ⟨_, rfl, fn.yes s8 he c ha hD1 (by omega)⟩
    · exact fn.no s8 he (Bool.eq_false_iff.mpr c)
  rintro H6 ⟨s6, ns, n1, n2⟩
  rw [List.length_map, hN.len, List.take_length] at n2
  have hne := enough_ne (t := tb) (log := log) (cs := cs) hperm
  generalize hes : ls.filter (fun l => enough tb log cs l) = es at n2 hne
  have esl : es.length ≤ 256 := by
    rw [← hes]
    exact Nat.le_trans (List.length_filter_le _ _) lsl
  have ise : ∀ l ∈ es, IsLot log.length l := fun l hl => by
    rw [← hes] at hl
    exact isl l (List.mem_filter.mp hl).1
  obtain ⟨e0, er, hee⟩ : ∃ e0 er, es = e0 :: er := by
    cases es with
    | nil => exact absurd rfl hne
    | cons a b => exact ⟨a, b, rfl⟩
  have hnsl : ns.length = es.length := n2.len
  have h0 : ns[0]? = some (ns[0]'(by rw [hnsl, hee]; simp)) := List.getElem?_eq_getElem _
  have h0e := n2.at_ 0 _ e0 h0 (by rw [hee]; rfl)
  refine ⟨_, rfl, D1, _, rfl, .inl n1, fun J G wk hG D2 hD2 => lc_it wk (FN D2 H6 es (fun l => decide (l.length = e0.length))) ⟨same_new hD2, [], upd_same, .nil⟩ (fun j H' _ ⟨s', _⟩ => hG _ (by rw [n1]; exact s' _ _ n1)) ?_ ?_⟩
  · rintro j x H7 H8 hj fn ⟨rfl, hx⟩
    have hja : j < ns.length := by rw [List.length_map] at hj; exact hj
    rw [List.getElem?_map, List.getElem?_eq_getElem hja] at hx
    cases hx
    obtain ⟨e, he⟩ : ∃ e, es[j]? = some e := ⟨es[j]'(by rw [← hnsl]; exact hja), List.getElem?_eq_getElem _⟩
    have ha := n2.at_ j _ e (List.getElem?_eq_getElem hja) he
    refine ⟨rfl, _, rfl, _, _, rfl, lenV_sq (.inr (fn.1 _ _ ha)), _, rfl, ix_sq (j := 0) (xs := ns.map V.ref) (.inl (fn.1 _ _ n1)) (by rw [List.getElem?_map, h0]; rfl) rfl ⟨_, _, rfl, lenV_sq (.inr (fn.1 _ _ h0e)), rfl, _, rfl, ?_⟩⟩
    rw [nV_length, nV_length]
    refine ite2 (fun c => ?_) (fun c => ?_)
    · exact ⟨_, rfl, fn.yes (Same.refl _) he (decide_eq_true (by have := V.int.inj (of_decide_eq_true c); omega)) ha hD2 (by omega)⟩
    · exact fn.no (Same.refl _) he (decide_eq_false (fun z => c (decide_eq_true (congrArg V.int (by omega)))))
  rintro H7 ⟨s7, ms, m1, m2⟩
  rw [List.length_map, hnsl, List.take_length] at m2
  have hmem : e0 ∈ es.filter (fun l => decide (l.length = e0.length)) := List.mem_filter.mpr ⟨by rw [hee]; exact List.mem_cons_self, decide_eq_true rfl⟩
  refine ⟨D2, ms, _, rfl, m1, m2, List.ne_nil_of_mem hmem, fun i b e hi he hmin => ?_⟩
  have hin := List.mem_of_getElem? he
  have due : IsDue tb log cs e := by
    refine law_due (ls := ls) hperm hpair (hes.trans hee) ?_ ?_
    · rw [← hee]
      exact hin
    · rw [← hee]
      exact hmin
  have s17 : Same H H7 := (s1.trans s6).trans s7
  have hs17 : Same (hidB B H) (hidB B H7) := hid_same s17
  have hB7 := hB.same s17
  refine q H7 D1 b es e s17 ⟨hT.same hs17, hok, hM.same hs17, hs17 _ _ hL, hl8, hld, hPr.same hs17, ⟨Cas, hs17 _ _ cp1, cp2, fun i b c e1 e2 => hs17 _ _ (cp3 i b c e1 e2)⟩, hco, hc5, hid_ntsAt hB7 ⟨ns, s7 _ _ n1, n2.same s7⟩, ise, hne, esl, hid_tup hB7 (m2.at_ i b e hi he), due⟩
end
end Ag
set_option Elab.async false
set_option linter.all false
set_option maxRecDepth 100000
set_option maxHeartbeats 4000000
/-! ### small data whose text is short -/
namespace Ag
open PySem PySem.Spec PyProof.Rows L2 RZ
theorem ok_app (a b : Str) : PyData.strOk (a ++ b) = (PyData.strOk a && PyData.strOk b) := by
  unfold PyData.strOk
  exact Array.all_append
theorem ok_ofString (s : String) : PyData.strOk (Str.ofString s) = true := by
  rw [Str.ofString_eq_toList]
  unfold PyData.strOk
  simp only [List.all_toArray, List.all_map, List.all_eq_true, Function.comp_apply, decide_eq_true_eq]
  intro c _
  have h := c.valid
  have e : c.toNat = c.val.toNat := rfl
  rw [e]
  rcases h with h | h
  · exact Nat.lt_trans h (by decide)
  · exact h.2
theorem ok_join (sep : Str) (hs : PyData.strOk sep = true) : ∀ ts : List Str, (∀ t ∈ ts, PyData.strOk t = true) → PyData.strOk (Str.join sep ts) = true
  | [], _ => by show PyData.strOk Str.empty = true; decide +kernel
  | [x], h => h x List.mem_cons_self
  | x :: y :: r, h => by
    show PyData.strOk (x ++ sep ++ Str.join sep (y :: r)) = true
    rw [ok_app, ok_app, h x List.mem_cons_self, hs, ok_join sep hs (y :: r) fun t ht => h t (List.mem_cons_of_mem _ ht)]
    rfl
theorem ok_from : ∀ (ts : List Str) (k : Nat) (acc : Str), PyData.strOk acc = true → (∀ t ∈ ts, PyData.strOk t = true) → PyData.strOk (textFrom k acc ts) = true
  | [], _, _, h, _ => h
  | t :: ts, k, acc, h, ht => by
    refine ok_from ts (k + 1) _ ?_ fun x hx => ht x (List.mem_cons_of_mem _ hx)
    rw [ok_app, ok_app, h, ht t List.mem_cons_self]
    rw [show PyData.strOk (Str.ofString (if k > 0 then ", " else "" : String)) = true from ok_ofString _]
    rfl
theorem sqT_same {K : PySem.W.Frag} {H H' : Hp} {a : Addr} {xs : List V} (h : SqT K H a xs) (s : Same H H') : SqT K H' a xs :=
  h.elim (fun h => .inl (h.elim (fun h => .inl (s _ _ h)) fun ⟨o, h⟩ => .inr ⟨o, s _ _ h⟩)) fun h => .inr h
structure Sh (d : PyData) (n k : Nat) : Prop where
  ok : d.showable = true
  lay : d.canLay0 = true
  dep : d.depth ≤ k
  len : d.shown.length ≤ n
  txt : PyData.strOk d.shown = true
structure ShA (ds : List PyData) (n k : Nat) : Prop where
  ok : PyData.showableAll ds = true
  lay : PyData.canLayAll0 ds = true
  dep : PyData.depthAll ds ≤ k
  len : piled (PyData.shownAll ds) ≤ n
  cnt : (PyData.shownAll ds).length = ds.length
  txt : ∀ t ∈ PyData.shownAll ds, PyData.strOk t = true
theorem Sh.shows {d : PyData} {n k : Nat} (h : Sh d n k) (hn : n ≤ 1000000 := by decide) (hk : k ≤ 40 := by decide) : Shows d := ⟨h.ok, PyData.hasDict_of_canLay _ h.lay, Nat.le_trans h.dep hk, by have := h.len; rw [sizeLine_eq]; omega⟩
theorem Sh.non : Sh .none 4 0 := ⟨by unfold PyData.showable; rfl, by unfold PyData.canLay0; rfl, by unfold PyData.depth; exact Nat.le_refl _, by unfold PyData.shown; decide +kernel, by unfold PyData.shown; exact ok_ofString _⟩
theorem Sh.bl {b : Bool} : Sh (.bool b) 5 0 := ⟨by unfold PyData.showable; rfl, by unfold PyData.canLay0; rfl, by unfold PyData.depth; exact Nat.le_refl _, by unfold PyData.shown; cases b <;> decide +kernel, by unfold PyData.shown; cases b <;> exact ok_ofString _⟩
theorem Sh.int {i : Int} (h : i.natAbs ≤ 1000) : Sh (.int i) 1921 0 := by
  have hz : i.natAbs.log2 < 1920 := by
    by_cases z : i.natAbs = 0
    · rw [z]; decide
    · exact Nat.lt_of_lt_of_le ((Nat.log2_lt z).mpr (Nat.lt_of_le_of_lt h (show 1000 < 2 ^ 10 by decide))) (by decide)
  refine ⟨by unfold PyData.showable; exact decide_eq_true hz, by unfold PyData.canLay0; rfl, by unfold PyData.depth; exact Nat.le_refl _, ?_, by unfold PyData.shown; exact ok_ofString _⟩
  unfold PyData.shown
  exact int_text_len_1921 hz
theorem ShA.nil {k : Nat} : ShA [] 0 k := ⟨by unfold PyData.showableAll; rfl, by unfold PyData.canLayAll0; rfl, by unfold PyData.depthAll; exact Nat.zero_le _, by unfold PyData.shownAll; exact Nat.le_refl _, by unfold PyData.shownAll; rfl, by unfold PyData.shownAll; exact fun t h => absurd h List.not_mem_nil⟩
theorem ShA.cons {d : PyData} {ds : List PyData} {n m k : Nat} (h : Sh d n k) (r : ShA ds m k) : ShA (d :: ds) (n + 2 + m) k := by
  refine ⟨?_, ?_, ?_, ?_, ?_, ?_⟩
  · unfold PyData.showableAll
    rw [h.ok, r.ok]
    rfl
  · unfold PyData.canLayAll0
    rw [h.lay, r.lay]
    rfl
  · unfold PyData.depthAll
    have := h.dep
    have := r.dep
    omega
  · unfold PyData.shownAll
    rw [piled_cons]
    have := h.len
    have := r.len
    omega
  · unfold PyData.shownAll
    rw [List.length_cons, List.length_cons, r.cnt]
  · unfold PyData.shownAll
    intro t ht
    rcases List.mem_cons.mp ht with e | e
    · rw [e]; exact h.txt
    · exact r.txt t e
theorem Sh.tup {ds : List PyData} {n k : Nat} (h : ShA ds n k) : Sh (.tuple ds) (n + 2) (k + 1) := by
  refine ⟨by unfold PyData.showable; exact h.ok, by unfold PyData.canLay0; exact h.lay, by unfold PyData.depth; have := h.dep; omega, ?_, ?_⟩
  · unfold PyData.shown
    have := fmt_text (PyData.shownAll ds)
    have := h.len
    omega
  · unfold PyData.shown tupleText
    rw [ok_app, ok_app, ok_join _ (ok_ofString _) _ h.txt, show PyData.strOk (Str.ofString "(") = true from ok_ofString _]
    rw [show PyData.strOk (Str.ofString (if ((PyData.shownAll ds).length == 1) = true then ",)" else ")" : String)) = true from ok_ofString _]
    rfl
theorem Sh.lst {ds : List PyData} {n k : Nat} (h : ShA ds n k) : Sh (.list ds) (n + 3) (k + 1) := by
  refine ⟨by unfold PyData.showable; exact h.ok, by unfold PyData.canLay0; exact h.lay, by unfold PyData.depth; have := h.dep; omega, ?_, by
    unfold PyData.shown listText
    rw [ok_app, ok_from _ _ _ (ok_ofString _) h.txt]
    rw [show PyData.strOk (Str.ofString "]") = true from ok_ofString _]
    rfl⟩
  unfold PyData.shown
  have e : ∀ ts : List Str, piled ts = (ts.map (·.length)).sum + 2 * ts.length := fun ts => by
    induction ts with
    | nil => rfl
    | cons t ts ih =>
      rw [piled_cons, ih, List.map_cons, List.sum_cons, List.length_cons]
      omega
  have h1 := listText_len_le (PyData.shownAll ds)
  have h2 := h.len
  rw [e] at h2
  omega
theorem ShA.nats : ∀ (E : List Nat), (∀ x ∈ E, x ≤ 1000) → ShA (E.map fun n : Nat => PyData.int (n : Int)) (1923 * E.length) 0
  | [], _ => ShA.nil
  | x :: E, h => by
    have := ShA.cons (Sh.int (i := (x : Int)) (by have := h x List.mem_cons_self; omega)) (ShA.nats E fun y hy => h y (List.mem_cons_of_mem _ hy))
    rw [List.map_cons, List.length_cons]
    rw [show 1923 * (E.length + 1) = 1921 + 2 + 1923 * E.length from by omega]
    exact this
theorem Sh.mono {d : PyData} {n k m j : Nat} (h : Sh d n k) (h1 : n ≤ m) (h2 : k ≤ j) : Sh d m j := ⟨h.ok, h.lay, Nat.le_trans h.dep h2, Nat.le_trans h.len h1, h.txt⟩
theorem shows_enc {E : List Nat} (h : ∀ x ∈ E, x ≤ 1000) (hl : E.length ≤ 100) : Shows (encN E) := by
  unfold encN
  exact (Sh.tup (ShA.nats E h)).shows (by omega) (by decide)
theorem shp {d : PyData} (h : d.canLay0 = true) (k : d.depth ≤ 10) : SeqAt.shaped d = true := by
  unfold SeqAt.shaped
  rw [h, decide_eq_true (Nat.le_trans k (by decide))]
  rfl
/-- a tuple of a word, a thing and True -/
theorem lay3 {s : String} {d : PyData} (h : d.canLay0 = true) (k : d.depth ≤ 5) : SeqAt.shaped (.tuple [.str (Str.ofString s), d, .bool true]) = true := by
  refine shp ?_ ?_
  · unfold PyData.canLay0 PyData.canLayAll0 PyData.canLayAll0 PyData.canLayAll0 PyData.canLayAll0
    rw [h, show PyData.canLay0 (.bool true) = true from by unfold PyData.canLay0; rfl, show PyData.canLay0 (.str (Str.ofString s)) = true from by unfold PyData.canLay0; exact ok_ofString s]
    rfl
  · unfold PyData.depth PyData.depthAll PyData.depthAll PyData.depthAll PyData.depthAll
    rw [show PyData.depth (.bool true) = 0 from by unfold PyData.depth; rfl, show PyData.depth (.str (Str.ofString s)) = 0 from by unfold PyData.depth; rfl]
    omega
theorem lay2 {s : String} {d : PyData} (h : d.canLay0 = true) (k : d.depth ≤ 5) : SeqAt.shaped (.tuple [.str (Str.ofString s), d]) = true := by
  refine shp ?_ ?_
  · unfold PyData.canLay0 PyData.canLayAll0 PyData.canLayAll0 PyData.canLayAll0
    rw [h, show PyData.canLay0 (.str (Str.ofString s)) = true from by unfold PyData.canLay0; exact ok_ofString s]
    rfl
  · unfold PyData.depth PyData.depthAll PyData.depthAll PyData.depthAll
    rw [show PyData.depth (.str (Str.ofString s)) = 0 from by unfold PyData.depth; rfl]
    omega
theorem sh_enc {E : List Nat} (h : ∀ x ∈ E, x ≤ 1000) : Sh (encN E) (1923 * E.length + 2) 1 := by
  unfold encN
  exact Sh.tup (ShA.nats E h)
theorem eqv_nats : ∀ E : List Nat, PyData.eqvAll (E.map fun n : Nat => PyData.int (n : Int)) (E.map fun n : Nat => PyData.int (n : Int)) = true
  | [] => by rw [List.map_nil]; unfold PyData.eqvAll; rfl
  | x :: E => by
    rw [List.map_cons]
    unfold PyData.eqvAll
    rw [eqv_nats E]
    unfold PyData.eqv
    simp
theorem eqv_enc (E : List Nat) : PyData.eqv (encN E) (encN E) = true := by
  unfold encN PyData.eqv
  exact eqv_nats E
theorem ly2 {s : String} {d : PyData} (h : d.canLay0 = true) : PyData.canLay0 (.tuple [.str (Str.ofString s), d]) = true := by
  simp only [PyData.canLay0, PyData.canLayAll0, h, ok_ofString, Bool.and_self]
theorem ly3 {s : String} {d e : PyData} (h : d.canLay0 = true) (k : e.canLay0 = true) : PyData.canLay0 (.tuple [.str (Str.ofString s), d, e]) = true := by
  simp only [PyData.canLay0, PyData.canLayAll0, h, k, ok_ofString, Bool.and_self]
theorem dp2 {s : Str} {d : PyData} {k : Nat} (h : d.depth ≤ k) : PyData.depth (.tuple [.str s, d]) ≤ k + 1 := by
  simp only [PyData.depth, PyData.depthAll]
  omega
theorem dp3 {s : Str} {d e : PyData} {k : Nat} (h : d.depth ≤ k) (h2 : e.depth ≤ k) : PyData.depth (.tuple [.str s, d, e]) ≤ k + 1 := by
  simp only [PyData.depth, PyData.depthAll]
  omega
theorem shp_pr {d : PyData} {n : Nat} (h : Sh d n 1) : SeqAt.shaped (.tuple [.tuple [.str "told", d], .tuple [.str "great", .int 1, .bool true]]) = true := by
  have h1 := h.lay
  have h2 := h.dep
  refine shp ?_ ?_
  · simp only [PyData.canLay0, PyData.canLayAll0, h1, ok_ofString, Bool.and_self]
  · simp only [PyData.depth, PyData.depthAll]
    omega
theorem eqv2 {s : Str} {d : PyData} (h : PyData.eqv d d = true) : PyData.eqv (.tuple [.str s, d]) (.tuple [.str s, d]) = true := by
  simp only [PyData.eqv, PyData.eqvAll, h, beq_self_eq_true, Bool.and_self]
theorem eqv3 {s : Str} {d : PyData} (h : PyData.eqv d d = true) : PyData.eqv (.tuple [.str s, d, .bool true]) (.tuple [.str s, d, .bool true]) = true := by
  simp only [PyData.eqv, PyData.eqvAll, h, beq_self_eq_true, Bool.and_self]
mutual
theorem dp_same {K : PySem.W.Frag} {H H' : Hp} {v : V} {d : PyData} (h : Dp K H v d) (s : Same H H') : Dp K H' v d := by
  match h with
  | .non => exact .non
  | .bl b => exact .bl b
  | .int i => exact .int i
  | .str x => exact .str x
  | .lst a b => exact .lst (sqL_same a s) (dps_same b s)
  | .tup a b => exact .tup (sqT_same a s) (dps_same b s)
theorem dps_same {K : PySem.W.Frag} {H H' : Hp} {vs : List V} {ds : List PyData} (h : DpAll K H vs ds) (s : Same H H') : DpAll K H' vs ds := by
  match h with
  | .nil => exact .nil
  | .cons a b => exact .cons (dp_same a s) (dps_same b s)
end
end Ag
set_option Elab.async false
set_option linter.all false
set_option maxRecDepth 100000
set_option maxHeartbeats 4000000
/-! ### the law: fewest_kept looked at -/
namespace Ag
open PySem PySem.Spec PyProof.Rows L2 RZ LamX
abbrev qLam : Str := (envOfC "law" (defScope sLaw) 0 0 .none).qual ++ "<lambda>"
structure LamC (mg : Str → Option Value) (base : Heap) (cdv : Value) (c Pt : Addr) : Prop where
  TB : TabB base mg c Pt
  cd : cdv = .ref c
section
variable {P : Program} {w : World} {K : PySem.W.Frag} {mg : Str → Option Value} {base : Heap} {C CA CT CB CL c Pt : Addr} {f : Addr} {cdv : Value} {A : Around} {outer : List Env} {s : Shared} {H0 : Hp} {E : XK}
def tM (C CL CB CT : Addr) : XK → TE := fun E => tCallN 3 (["most"] : List Str).length (spFewestKept C CL CB CT) (fun vs zs => vs ++ zs) E (tCons (tVar 4) (tCons (tVar 6) (tCons (tVar 8) tNil))) (tCons (tC (.int 1)) tNil)
theorem blkC (L : LawC P w K mg base C CA CT CB CL) (Lm : LamC mg base cdv c Pt) (hgs : A.guards = some []) (hr : Room 9 (A.deeper (envOfC "law" (defScope sLaw) s.heap.objs.size f cdv))) {rest : List Stmt} {u : TS} (hR : PSs (LX P w K mg base f cdv A outer s H0 E) rest u) :
    ∃ t, PSs (LX P w K mg base f cdv A outer s H0 E) ((lawBody.drop 7).take 3 ++ rest) t ∧ ∀ (D : Ends) (H : Hp) (B T M L' Cp En Du : Addr) (S : Nat) (tb : Tabs) (log : List Nat) (cs : List (Nat × Nat)) (es : List (List Nat)) (due : List Nat) (v0 v1 v7 v10 v12 v13 v14 v15 v16 v17 : Option V), BoxAt H B → LamX.Tabs [(Pt, qLam)] H →
        Lw C (hidB B H) S tb log cs es due T M L' Cp En Du →
      (∀ (H' : Hp), ExtN H H' → LamX.Tabs [(Pt, qLam)] H' → 
        u D [v0, v1, some (.ref B), some (.ref T), some (.ref M), some (.int (S : Int)), some (.ref L'), v7, some (.ref Cp), some (.ref En), v10, some (.ref Du), v12, v13, v14, v15, v16, v17] H') →
      t D [v0, v1, some (.ref B), some (.ref T), some (.ref M), some (.int (S : Int)), some (.ref L'), v7, some (.ref Cp), some (.ref En), v10, some (.ref Du), v12, v13, v14, v15, v16, v17] H := by
  have T := L.T
  obtain ⟨fk, fdk, FK, FD, mFK⟩ := L.fk
  obtain ⟨ds, hds, hbd⟩ := fk_plain FD
  obtain ⟨mv0, KB0⟩ := fk_kw FD
  obtain ⟨mv3, KB3⟩ := fk_most FD
  obtain ⟨gh, fdh, HD, mH⟩ := L.he
  have bH : L2.Binds K fdh ["_law_ask"] [] := HD.bindsN (ps := ["_law_ask"]) fun _ _ _ _ _ _ us hl => match us, hl with | [_], _ => rfl
  obtain ⟨och, odh, dVh, kVh, doch, pmh, anh, cdvh, cth, oslh, rfl, lkH, hcH, hDh, hKh⟩ := id HD.ex
  have hx0 : Passes (L2.CX P w) (LX P w K mg base f cdv A outer s H0 E) (fun _ _ _ => False) := passes_call takes0 (fun _ _ _ _ h => h)
  have hrp : CallR (LX P w K mg base f cdv A outer s H0 E) (.builtin "repr") (rRepr K) := call_repr hgs hr.units
  have hu65 : (LX P w K mg base f cdv A outer s H0 E).A.units + 65 < cLine := by
    have := hr.un
    show (A.deeper (envOfC "law" (defScope sLaw) s.heap.objs.size f cdv)).units + 65 < cLine
    omega
  refine ⟨_, (pss_cons (ps_if (pt_cmpR op_ne (pe_callB (hrp) (by rfl) T.repr (by decide +kernel) (pa_cons (pe_call FK (hr.mono (by decide)) rfl mFK FD.kp hbd hds hx0 (pa_cons (pv 4) (pa_cons (pv 6) (pa_cons (pv 8) pa_nil)))) pa_nil)) (pe_callB (hrp) (by rfl) T.repr (by decide +kernel) (pa_cons (pv 11) pa_nil)) (nomark _))
       (pss_one (ps_ret pe_bl))
       pss_nil)
       (pss_cons (ps_if (pt_cmpR (op_neD hr.units) (pe_callN0 FK (hr.mono (by decide)) rfl mFK FD.kp KB0 hx0 (pk_cons (pe_lc (own := [("_law_copy", 17)]) (g := (gName 17)) (te := tCB rListSq (tCons (tVar 17) tNil)) rfl scLaw.nd (pi_sq (pv 8)) (blkOk_by (own := [("_law_copy", 17)]) (N := nLaw) (sc := defScope sLaw) (by decide +kernel)) (fun _ _ _ _ _ => (pg_name (i := 17) scLaw.nd rfl (Or.inl rfl))) (fun _ _ _ _ _ => pts_nil) (fun _ _ _ _ _ => (pe_callTy (call_listSq) (by rfl) T.list (by decide +kernel) (pa_cons (pv 17) pa_nil)))) (pk_cons (pe_callTy (call_listSq) (by rfl) T.list (by decide +kernel) (pa_cons (pv 6) pa_nil)) (pk_cons (pv 4) (pk_cons pe_int pk_nil))))) (pv 11) (nomark _))
       (pss_one (ps_ret pe_bl))
       pss_nil)
       (pss_cons (ps_if (pt_cmpR (op_notInT hu65) (pe_lamcall (k := 6) (Ng := nHeard) (T := [(Pt, qLam)]) (P := Pt) (c := c) rfl mH HD.kp lkH hcH bH scHeard rfl (.inl rfl) (heard_gives T L.EA hgs (k := 8) hr) Lm.TB Lm.cd List.mem_cons_self (fun p hp _ => by rw [List.mem_singleton.mp hp]; rfl) (hr.mono (by decide)) (lamS_by (sc := defScope sLaw) (by decide +kernel)) rfl (fun _ _ _ _ _ => rfl) (t := tM C CL CB CT) (fun A outer s H E f c' hr2 => pe_callN FK (hr2.mono (by decide)) rfl mFK FD.kp KB3 (passes_call (takes_of rfl rfl rfl rfl) (fun _ _ _ _ h => h)) (pa_cons (pv 4) (pa_cons (pv 6) (pa_cons (pv 8) pa_nil))) (pk_cons pe_int pk_nil))) (pe_tup (pa_cons (pe_tup (pa_cons pe_str (pa_cons (pv 11) pa_nil))) (pa_cons (pe_tup (pa_cons pe_str (pa_cons pe_int (pa_cons pe_bl pa_nil)))) pa_nil))) rfl)
       (pss_one (ps_ret pe_bl))
       pss_nil)
       hR))), fun D H B Ta M L' Cp En Du S tb log cs es due v0 v1 v7 v10 v12 v13 v14 v15 v16 v17 hB hTT W q => ?_⟩
  have sub : ∀ {H' : Hp}, Same H H' → Same (hidB B H) H' := fun s => (hid_same s).trans hid_sub
  have dl : due.length ≤ 8 := Nat.le_trans (lot_len W.isd.1) W.ll
  have dk : ∀ x ∈ due, x ≤ 1000 := fun x hx => by
    have := W.isd.1.2 x hx
    have := W.ll
    omega
  have shD := shows_enc dk (by omega : due.length ≤ 100)
  have pD : SeqAt.shaped (encN due) = true := shp (sh_enc dk).lay (Nat.le_trans (sh_enc dk).dep (by decide))
  have dp : ∀ {H' : Hp} {p : Addr}, H' p = some (.tup (nV due)) → Dp K H' (.ref p) (encN due) := fun h => Dp.tup (.of h) (dp_nV due)
  have S12 := W.tok.s2
  have ll := W.ll
  -- repr(fewest_kept(..)) != repr(due)
  refine ⟨_, rfl, _, rfl, _, rfl, M, L', S, 20000, tb, log, .ref Cp, rfl, W.mach.same hid_sub, W.tok.wf, by omega, .inr (hid_sub _ _ W.logA), by omega, .inl ⟨W.ld, Cp, cs, rfl, ⟨(W.cps.same hid_sub).cps, W.cok, by have := W.cz; omega⟩, fun lot hlot p H1 s1 hp => ?_, .inl (Nat.le_refl _)⟩⟩
  obtain rfl := due_unique hlot W.isd
  have W1 := W.same (hid_same (B := B) s1)
  refine ⟨_, _, rfl, dp hp, shD, _, rfl, _, _, rfl, dp (hid_sub _ _ W1.dueA), shD, rfl, _, rfl, ifF (by simp) ?_⟩
  -- by keywords
  have B1 := hB.same s1
  obtain ⟨as, c1, c2, c3⟩ := W1.cpl
  have c1' := hid_sub _ _ c1
  refine ⟨_, rfl, Cp, _, rfl, .inl c1', fun J G wk hG D1 hD1 => lc_it wk (fun j H' => Same H1 H' ∧ ∃ ns : List Addr, H' D1 = some (.lst (ns.map V.ref)) ∧ ns.length = j ∧ ∀ (i : Nat) (b : Addr) (c : Nat × Nat), ns[i]? = some b → cs[i]? = some c → IsSq H' b (pairV c)) ⟨same_new hD1, [], upd_same, rfl, fun i b c e => by cases e⟩ (fun j H' _ ⟨s', _⟩ => hG _ (by rw [c1']; exact s' _ _ c1')) ?_ ?_⟩
  · rintro j x HQ H3 hj ⟨s2, ns, n1, n2, n3⟩ ⟨rfl, hx⟩
    have hja : j < as.length := by rw [List.length_map] at hj; exact hj
    rw [List.getElem?_map, List.getElem?_eq_getElem hja] at hx
    cases hx
    obtain ⟨cp, hcp⟩ : ∃ cp, cs[j]? = some cp := ⟨cs[j]'(by omega), List.getElem?_eq_getElem (by omega)⟩
    have hq := s2 _ _ (hid_sub _ _ (c3 j _ cp (List.getElem?_eq_getElem hja) hcp))
    refine ⟨rfl, _, rfl, as[j], _, rfl, .inr hq, fun l hl => ?_⟩
    have d2 := upd_keep (o := .lst (pairV cp)) hl n1
    refine ⟨_, d2, by rw [List.length_map]; exact wl _ (by have := W.cz; omega), sm_upd1 (sm_new s2 hl) hD1, ns ++ [l], by rw [upd_same, List.map_append]; rfl, by simp [n2], fun i b c e1 e2 => ?_⟩
    have nb : ∀ {b : Addr} {xs : List V}, IsSq (upd H3 l (.lst (pairV cp))) b xs → b ≠ D1 → IsSq (upd (upd H3 l (.lst (pairV cp))) D1 (.lst (ns.map V.ref ++ [V.ref l]))) b xs := fun h n => h.elim (fun h => .inl (by rw [upd_ne n]; exact h)) fun h => .inr (by rw [upd_ne n]; exact h)
    have pne : ∀ {b : Addr} {H' : Hp} {c : Nat × Nat} {ms : List Addr}, IsSq H' b (pairV c) → H' D1 = some (.lst (ms.map V.ref)) → b ≠ D1 := fun {b H' c ms} h hd z => by
      rw [z] at h
      rcases h with h | h
      · rw [hd] at h
        have := HO.lst.inj (Option.some.inj h)
        cases ms with
        | nil => cases this
        | cons a r => cases this
      · rw [hd] at h
        cases h
    by_cases hi : i < ns.length
    · rw [List.getElem?_append_left hi] at e1
      have h3 := (n3 i b c e1 e2).same (same_new (o := .lst (pairV cp)) hl)
      exact nb h3 (pne h3 d2)
    · rw [List.getElem?_append_right (by omega)] at e1
      cases hz : i - ns.length with
      | zero =>
        rw [hz] at e1
        cases e1
        have ei : i = j := by omega
        rw [ei, hcp] at e2
        cases e2
        have h3 : IsSq (upd H3 l (.lst (pairV cp))) l (pairV cp) := .inl upd_same
        exact nb h3 (pne h3 d2)
      | succ n => rw [hz] at e1; cases e1
  rintro H2 ⟨s2, ns, n1, n2, n3⟩
  rw [List.length_map] at n2
  have W2 := W1.same (hid_same (B := B) s2)
  refine ⟨_, rfl, L', _, rfl, .inr (hid_sub _ _ W2.logA), fun l hl => ⟨_, rfl, rfl, rfl, ?_⟩⟩
  have s3 : Same H2 (upd H2 l (.lst (nV log))) := same_new hl
  have l3 : (upd H2 l (.lst (nV log))) l = some (.lst (nV log)) := upd_same
  generalize upd H2 l (.lst (nV log)) = H3 at s3 l3
  have W3 := W2.same (hid_same (B := B) s3)
  refine ⟨M, l, S, 20000, tb, log, .ref D1, rfl, W3.mach.same hid_sub, W3.tok.wf, by omega, .inl l3, by omega, .inl ⟨W3.ld, D1, cs, rfl, ⟨⟨ns, .inl (s3 _ _ n1), by omega, fun i b c e1 e2 => (n3 i b c e1 e2).same s3⟩, W3.cok, by have := W3.cz; omega⟩, fun lot4 hlot p4 H4 s4 hp4 => ?_, .inl (Nat.le_refl _)⟩⟩
  have e4 := due_unique hlot W3.isd
  rw [e4] at hp4
  have W4 := W3.same (hid_same (B := B) s4)
  refine ⟨_, rfl, encN lot, encN lot, dp hp4, dp (hid_sub _ _ W4.dueA), pD, pD, _, rfl, ifF (by rw [eqv_enc]; rfl) ?_⟩
  -- at most one
  have s04 : Same H H4 := ((s1.trans s2).trans s3).trans s4
  refine ⟨tabsS hTT s04, fun H5 e5 T5 => ?_⟩
  have W5 := W4.same (hid_ext (B := B) e5)
  have sz2 : 2 ≤ sizeLine := by decide
  have sz3 : 3 ≤ sizeLine := by decide
  have fin : ∀ {H6 : Hp} {p : Addr} {d : PyData}, Same H5 H6 → Dp K H6 (.ref p) d → SeqAt.shaped d = true → (d = .tuple [.str "told", encN lot] ∨ d = .tuple [.str "great", .int 1, .bool true]) →
      (tTup (tCons (tTup (tCons (tC (V.str "told")) (tCons (tVar 11) tNil))) (tCons (tTup (tCons (tC (V.str "great")) (tCons (tC (V.int 1)) (tCons (tC (V.bl true)) tNil)))) tNil)))
        [v0, v1, some (V.ref B), some (V.ref Ta), some (V.ref M), some (V.int (S : Int)), some (V.ref L'), v7, some (V.ref Cp), some (V.ref En), v10, some (V.ref Du), v12, v13, v14, v15, v16, v17] H6 fun y H2 =>
        rNotInT K (.ref p) y H2 fun x H' => ∃ k, x = V.bl k ∧ if k = true then D.rt (.bl false) H' else u D [v0, v1, some (V.ref B), some (V.ref Ta), some (V.ref M), some (V.int (S : Int)), some (V.ref L'), v7, some (V.ref Cp), some (V.ref En), v10, some (V.ref Du), v12, v13, v14, v15, v16, v17] H' := by
    intro H6 p d s6 hd hsd hdd
    have W6 := W5.same (hid_same (B := B) s6)
    refine ⟨_, rfl, sz2, fun q1 hq1 => ⟨sz3, fun q2 hq2 => ⟨sz2, fun q3 hq3 => ?_⟩⟩⟩
    have k1 := same_new (o := .tup [V.str "told", V.ref Du]) hq1
    have k2 := same_new (o := .tup [V.str "great", V.int 1, V.bl true]) hq2
    have k3 := same_new (o := .tup [V.ref q1, V.ref q2]) hq3
    have g1 : (upd H6 q1 (.tup [V.str "told", V.ref Du])) q1 = some (.tup [V.str "told", V.ref Du]) := upd_same
    generalize upd H6 q1 (.tup [V.str "told", V.ref Du]) = H7 at hq2 k1 g1 k2 hq3 k3 ⊢
    have g2 : (upd H7 q2 (.tup [V.str "great", V.int 1, V.bl true])) q2 = some (.tup [V.str "great", V.int 1, V.bl true]) := upd_same
    generalize upd H7 q2 (.tup [V.str "great", V.int 1, V.bl true]) = H8 at k2 g2 hq3 k3 ⊢
    have g3 : (upd H8 q3 (.tup [V.ref q1, V.ref q2])) q3 = some (.tup [V.ref q1, V.ref q2]) := upd_same
    generalize upd H8 q3 (.tup [V.ref q1, V.ref q2]) = H9 at k3 g3 ⊢
    have k69 := (k1.trans k2).trans k3
    have W9 := W6.same (hid_same (B := B) k69)
    refine ⟨d, [.tuple [.str "told", encN lot], .tuple [.str "great", .int 1, .bool true]], dp_same hd k69, .tup (.of g3) (.cons (.tup (.of (k3 _ _ (k2 _ _ g1))) (.cons (.str _) (.cons (dp (hid_sub _ _ W9.dueA)) .nil))) (.cons (.tup (.of (k3 _ _ g2)) (.cons (.str _) (.cons (.int _) (.cons (.bl _) .nil)))) .nil)), hsd, shp_pr (sh_enc dk), _, rfl, ifF ?_ ?_⟩
    · rcases hdd with e | e
      · rw [e, List.any_cons, eqv2 (eqv_enc _)]
        rfl
      · rw [e, List.any_cons, List.any_cons, eqv3 (by unfold PyData.eqv; decide)]
        simp
    · exact q H9 (ExtN.trans (ExtN.of s04) (ExtN.trans e5 (ExtN.of (s6.trans k69)))) (tabsS T5 (s6.trans k69))
  unfold TTh
  refine ⟨_, rfl, _, rfl, _, rfl, rfl, rfl, M, L', S, 1, tb, log, .ref Cp, rfl, W5.mach.same hid_sub, W5.tok.wf, by omega, .inr (hid_sub _ _ W5.logA), by omega, .inl ⟨W5.ld, Cp, cs, rfl, ⟨(W5.cps.same hid_sub).cps, W5.cok, by have := W5.cz; omega⟩, fun lot6 hlot p6 H6 s6 hp6 => ?_, .inr (fun d H6 s6 hd => ?_)⟩⟩
  · have e6 := due_unique hlot W5.isd
    rw [e6] at hp6
    refine ⟨sz2, fun p1 hp1 => ?_⟩
    have hs := s6.trans (same_new (o := .tup [V.str "told", V.ref p6]) hp1)
    exact fin hs (.tup (.of upd_same) (.cons (.str _) (.cons (dp (upd_keep hp1 hp6)) .nil))) (shp (ly2 (sh_enc dk).lay) (Nat.le_trans (dp2 (sh_enc dk).dep) (by decide))) (.inl rfl)
  · refine .inl ⟨rfl, d, .int 1, rfl, hd, fun p1 hp1 => ?_⟩
    exact fin (s6.trans (same_new hp1)) (.tup (.of upd_same) (.cons (.str _) (.cons (.int _) (.cons (.bl _) .nil)))) (shp (by unfold PyData.canLay0; decide +kernel) (by decide +kernel)) (.inr rfl)
end
end Ag
set_option Elab.async false
set_option linter.all false
set_option maxRecDepth 100000
set_option maxHeartbeats 4000000
/-! ### the law: bad logs -/
namespace Ag
open PySem PySem.Spec PyProof.Rows L2 RZ LamX
section
variable {P : Program} {w : World} {K : PySem.W.Frag} {mg : Str → Option Value} {base : Heap} {C CA CT CB CL c Pt : Addr} {f : Addr} {cdv : Value} {A : Around} {outer : List Env} {s : Shared} {H0 : Hp} {E : XK}
def tBad (K : PySem.W.Frag) (r : TA) : TA := tCons (tVar 4) (tCons (tLst (tCons (tC (.int 0)) (tCons (tCB (fun xs H Q => ∃ x n, xs = [x] ∧ LenV K x H n ∧ Q (.int n) H) (tCons (tVar 3) tNil)) tNil))) r)
def tF1 (K : PySem.W.Frag) (C CL CB CT : Addr) : XK → TE := fun E => tCall (spFewestKept C CL CB CT) [V.int 20000] E (tBad K (tCons (tC .non) tNil))
def tF2 (K : PySem.W.Frag) (C CL CB : Addr) : XK → TE := fun E => tCall (spKeptRight C CL CB) [] E (tBad K (tCons (tC .non) (tCons (tC .non) tNil)))
theorem blkF (L : LawC P w K mg base C CA CT CB CL) (Lm : LamC mg base cdv c Pt) (hgs : A.guards = some []) (hr : Room 9 (A.deeper (envOfC "law" (defScope sLaw) s.heap.objs.size f cdv))) {rest : List Stmt} {u : TS} (hR : PSs (LX P w K mg base f cdv A outer s H0 E) rest u) :
    ∃ t, PSs (LX P w K mg base f cdv A outer s H0 E) ((lawBody.drop 14).take 2 ++ rest) t ∧ ∀ (D : Ends) (H : Hp) (B T M L' Cp En Du : Addr) (S : Nat) (tb : Tabs) (log : List Nat) (cs : List (Nat × Nat)) (es : List (List Nat)) (due : List Nat) (v0 v1 v7 v10 v12 v13 v14 v15 v16 v17 : Option V), BoxAt H B → LamX.Tabs [(Pt, qLam)] H →
        Lw C (hidB B H) S tb log cs es due T M L' Cp En Du →
      (∀ (H' : Hp), ExtN H H' → LamX.Tabs [(Pt, qLam)] H' → 
        u D [v0, v1, some (.ref B), some (.ref T), some (.ref M), some (.int (S : Int)), some (.ref L'), v7, some (.ref Cp), some (.ref En), v10, some (.ref Du), v12, v13, v14, v15, v16, v17] H') →
      t D [v0, v1, some (.ref B), some (.ref T), some (.ref M), some (.int (S : Int)), some (.ref L'), v7, some (.ref Cp), some (.ref En), v10, some (.ref Du), v12, v13, v14, v15, v16, v17] H := by
  have T := L.T
  obtain ⟨fk, fdk, FK, FD, mFK⟩ := L.fk
  obtain ⟨ds, hds, hbd⟩ := fk_plain FD
  obtain ⟨kr, kdk, KR, KD, mKR⟩ := L.kr
  have bKR : L2.Binds K kdk psKr [] := KD.bindsN (ps := psKr) fun _ _ _ _ _ _ us hl => match us, hl with | [_, _, _, _], _ => rfl
  obtain ⟨gh, fdh, HD, mH⟩ := L.he
  have bH : L2.Binds K fdh ["_law_ask"] [] := HD.bindsN (ps := ["_law_ask"]) fun _ _ _ _ _ _ us hl => match us, hl with | [_], _ => rfl
  obtain ⟨och, odh, dVh, kVh, doch, pmh, anh, cdvh, cth, oslh, rfl, lkH, hcH, hDh, hKh⟩ := id HD.ex
  refine ⟨_, (pss_cons (ps_if (pt_cmpR (op_neD hr.units) (pe_lamcall (k := 6) (Ng := nHeard) (T := [(Pt, qLam)]) (P := Pt) (c := c) rfl mH HD.kp lkH hcH bH scHeard rfl (.inl rfl) (heard_gives T L.EA hgs (k := 8) hr) Lm.TB Lm.cd List.mem_cons_self (fun p hp _ => by rw [List.mem_singleton.mp hp]; rfl) (hr.mono (by decide)) (lamS_by (sc := defScope sLaw) (by decide +kernel)) rfl (fun _ _ _ _ _ => rfl) (t := tF1 K C CL CB CT) (fun A outer s H E f c' hr2 => pe_call FK (hr2.mono (by decide)) rfl mFK FD.kp hbd hds (passes_call (takes_of rfl rfl rfl rfl) (fun _ _ _ _ h => h)) (pa_cons (pv 4) (pa_cons (pe_lst (pa_cons pe_int (pa_cons (pe_callB (call_len) (by rfl) T.len (by decide +kernel) (pa_cons (pv 3) pa_nil)) pa_nil))) (pa_cons pe_non pa_nil))))) (pe_tup (pa_cons pe_str (pa_cons pe_int (pa_cons pe_bl pa_nil)))) (nomark _))
       (pss_one (ps_ret pe_bl))
       pss_nil)
       (pss_cons (ps_if (pt_cmpR (op_neD hr.units) (pe_lamcall (k := 6) (Ng := nHeard) (T := [(Pt, qLam)]) (P := Pt) (c := c) rfl mH HD.kp lkH hcH bH scHeard rfl (.inl rfl) (heard_gives T L.EA hgs (k := 8) hr) Lm.TB Lm.cd List.mem_cons_self (fun p hp _ => by rw [List.mem_singleton.mp hp]; rfl) (hr.mono (by decide)) (lamS_by (sc := defScope sLaw) (by decide +kernel)) rfl (fun _ _ _ _ _ => rfl) (t := tF2 K C CL CB) (fun A outer s H E f c' hr2 => pe_call KR (hr2.mono (by decide)) rfl mKR KD.kp bKR .nil (passes_call (takes_of rfl rfl rfl rfl) (fun _ _ _ _ h => h)) (pa_cons (pv 4) (pa_cons (pe_lst (pa_cons pe_int (pa_cons (pe_callB (call_len) (by rfl) T.len (by decide +kernel) (pa_cons (pv 3) pa_nil)) pa_nil))) (pa_cons pe_non (pa_cons pe_non pa_nil)))))) (pe_tup (pa_cons pe_str (pa_cons pe_int (pa_cons pe_bl pa_nil)))) (nomark _))
       (pss_one (ps_ret pe_bl))
       pss_nil)
       hR)), fun D H B Ta M L' Cp En Du S tb log cs es due v0 v1 v7 v10 v12 v13 v14 v15 v16 v17 hB hTT W q => ?_⟩
  have sz2 : 2 ≤ sizeLine := by decide
  have sz3 : 3 ≤ sizeLine := by decide
  have hd1 := W.tok.d1
  have S12 := W.tok.s2
  have bad : badAt tb.length [0, tb.length] 1 := ⟨fun j x hj hx => by
    have : j = 0 := by omega
    subst this
    cases hx
    exact hd1, _, rfl, Nat.le_refl _⟩
  have hln : ∀ {H' : Hp}, TabAt H' Ta tb → LenV K (.ref Ta) H' tb.length := fun h => by
    obtain ⟨as, h1, h2, h3⟩ := h
    have := lenV_sq (K := K) h1
    rw [List.length_map, h2] at this
    exact this
  have shL : SeqAt.shaped (.tuple [.str "log", .int 1, .bool true]) = true := lay3 (by unfold PyData.canLay0; rfl) (by unfold PyData.depth; decide)
  have fin : ∀ {H' : Hp} {D0 : Ends} {k : TS} {σ : L2.St} {p : Addr}, H' p = some (.tup [V.str "log", .int 1, .bl true]) → (∀ H2, Same H' H2 → k D0 σ H2) →
      (tTup (tCons (tC (V.str "log")) (tCons (tC (V.int 1)) (tCons (tC (V.bl true)) tNil)))) σ H' fun y H2 => rNeD K (.ref p) y H2 fun x H' => ∃ b, x = V.bl b ∧ if b = true then D0.rt (.bl false) H' else k D0 σ H' := by
    intro H' D0 k σ p hp hk
    refine ⟨sz3, fun q1 hq1 => ?_⟩
    refine ⟨_, _, .tup (.of (upd_keep hq1 hp)) (.cons (.str _) (.cons (.int _) (.cons (.bl _) .nil))), .tup (.of upd_same) (.cons (.str _) (.cons (.int _) (.cons (.bl _) .nil))), shL, shL, _, rfl, ifF ?_ (hk _ (same_new hq1))⟩
    rw [eqv3 (by unfold PyData.eqv; decide)]
    rfl
  refine ⟨hTT, fun H1 e1 T1 => ?_⟩
  have W1 := W.same (hid_ext (B := B) e1)
  unfold TTh
  refine ⟨_, rfl, _, rfl, _, _, rfl, hln (W1.tab.same hid_sub), sz2, fun l hl => ?_⟩
  have s1 := same_new (o := .lst [V.int 0, V.int (tb.length : Int)]) hl
  have l1 : (upd H1 l (.lst [V.int 0, V.int (tb.length : Int)])) l = some (.lst (nV [0, tb.length])) := upd_same
  generalize upd H1 l (.lst [V.int 0, V.int (tb.length : Int)]) = H2 at s1 l1 ⊢
  have W2 := W1.same (hid_same (B := B) s1)
  refine ⟨M, l, S, 20000, tb, [0, tb.length], .non, rfl, W2.mach.same hid_sub, W2.tok.wf, by omega, .inl l1, (by show 2 ≤ 12; decide), .inr (.inr ⟨1, bad, fun d H3 s3 hd => .inr (.inr ⟨rfl, d, .int 1, rfl, hd, fun p hp => ?_⟩)⟩)⟩
  have k3 := same_new (o := .tup [V.str "log", .int 1, .bl true]) hp
  refine fin upd_same fun H4 s4 => ?_
  have s14 : Same H1 H4 := ((s1.trans s3).trans k3).trans s4
  have W4 := W1.same (hid_same (B := B) s14)
  refine ⟨tabsS T1 s14, fun H5 e5 T5 => ?_⟩
  have W5 := W4.same (hid_ext (B := B) e5)
  refine ⟨_, rfl, _, rfl, _, _, rfl, hln (W5.tab.same hid_sub), sz2, fun l hl => ?_⟩
  have s6 := same_new (o := .lst [V.int 0, V.int (tb.length : Int)]) hl
  have l6 : (upd H5 l (.lst [V.int 0, V.int (tb.length : Int)])) l = some (.lst (nV [0, tb.length])) := upd_same
  generalize upd H5 l (.lst [V.int 0, V.int (tb.length : Int)]) = H6 at s6 l6 ⊢
  have W6 := W5.same (hid_same (B := B) s6)
  refine ⟨M, l, S, tb, [0, tb.length], .non, .non, rfl, W6.mach.same hid_sub, W6.tok.wf, .inl l6, (by show 2 ≤ 100; decide), .inr (.inr ⟨1, bad, fun d H7 s7 hd => .inr (.inr ⟨rfl, d, .int 1, rfl, hd, fun p hp => ?_⟩)⟩)⟩
  have k7 := same_new (o := .tup [V.str "log", .int 1, .bl true]) hp
  refine fin upd_same fun H8 s8 => ?_
  have s58 : Same H5 H8 := ((s6.trans s7).trans k7).trans s8
  exact q H8 (ExtN.trans e1 (ExtN.trans (ExtN.of s14) (ExtN.trans e5 (ExtN.of s58)))) (tabsS T5 s58)
end
end Ag
set_option Elab.async false
set_option linter.all false
set_option maxRecDepth 100000
set_option maxHeartbeats 4000000
namespace L2
open PySem PySem.Spec PyProof.Rows
/-- x[::st], where st gives -1 -/
theorem pe_revBy {X : Cx} {e st : Expr} {te ts : TE} {p3 pos : Pos} (he : PE X e te) (hst : PE X st ts) (neg : ∀ σ H, tPart ts σ H fun o G => o = some (-1) ∧ G = H) : PE X (.Subscript e (.Slice none none (some st) p3) pos) (tRevL X.K te) := by
  refine ⟨fun pins s σ H Q I h => Subscript_ (thn (he.run pins s σ H _ I h) fun v s1 ⟨x, H1, I1, rv, a, xs, ex, hx, q⟩ => ?_)⟩
  cases ex
  cases rv
  refine wpAny_Slice (thn (po_none.run pins s1 σ H1 (fun o G => o = none ∧ G = H1) I1 ⟨rfl, rfl⟩) fun lo s2 ⟨l, H2, I2, pl, l0, e2⟩ => thn (po_none.run pins s2 σ H2 (fun o G => o = none ∧ G = H2) I2 ⟨rfl, rfl⟩) fun hi s3 ⟨u, H3, I3, pu, u0, e3⟩ => ?_)
  subst l0 e2 u0 e3
  refine thn ((po_some hst).run pins s3 σ H3 _ I3 (neg σ H3)) fun stp s4 ⟨o, H4, I4, ps, eo, e4⟩ => ?_
  subst eo e4
  have J := I4.kept (t' := s4.toks) (h' := s4.heap.push { cls := .type "slice", data := .fields #[lo, hi, stp] }) fun b ob z => Heap.get?_push_of_some _ z
  obtain ⟨its, r, ht, hz⟩ := J.list hx
  have short : its.length ≤ sizeLine := r.length ▸ hz
  refine tail_any (ops := [.ref a, .ref s4.heap.objs.size]) ht.isList.typeIs PySem.slot_list_getitem.lookup (wpAny_getItem_list_slice ht.isList (Heap.IsSliceOf.new _ lo hi stp) pl pu ps (by decide) ?_ (by rw [List.size_toArray]; omega)) (by with_unfolding_all rfl)
  rw [PySem.W.krv_pick]
  exact ⟨.ref _, _, J.laid (t' := s4.toks) (o := .lst xs.reverse) (fun b ob z => Heap.get?_push_of_some _ z) (Nat.le_refl _) ⟨(List.length_reverse ..).symm ▸ hz, _, 0, r.reverse, Heap.get?_push_size _ rfl⟩, rfl, q _ (J.hok.fresh (Nat.le_refl _))⟩
theorem pe_revL2 {X : Cx} {e : Expr} {te : TE} {k k2 : Nat} {p1 p2 p3 p4 pos : Pos} (he : PE X e te) : PE X (.Subscript e (.Slice none none (some (.BinOp (.Constant (.int 0) k2 p4) .Sub (.Constant (.int 1) k p1) p2)) p3) pos) (tRevL X.K te) :=
  pe_revBy he (pe_op op_sub pe_int pe_int) fun σ H => ⟨0, 1, rfl, rfl, _, rfl, rfl, rfl⟩
end L2
/-! ### the law: lots that are judged -/
namespace Ag
open PySem PySem.Spec PyProof.Rows L2 RZ LamX
section
variable {P : Program} {w : World} {K : PySem.W.Frag} {mg : Str → Option Value} {base : Heap} {C CA CT CB CL c Pt : Addr} {f : Addr} {cdv : Value} {A : Around} {outer : List Env} {s : Shared} {H0 : Hp} {E : XK}
/-- what kept_right may be handed -/
def GoodV (G : Hp) (v : V) : Prop := (flatI v = true) ∨ ∃ a xs, v = .ref a ∧ IsSq G a xs ∧ xs.all flatI = true ∧ (∀ x ∈ xs, PyData.canLay0 (flatD x) = true) ∧ xs.length ≤ 20
theorem GoodV.same {G G' : Hp} {v : V} (h : GoodV G v) (s : Same G G') : GoodV G' v := by
  rcases h with h | ⟨a, xs, e, h1, h2⟩
  · exact .inl h
  · exact .inr ⟨a, xs, e, h1.same s, h2⟩
theorem nV_flat (l : List Nat) : (nV l).all flatI = true := by
  rw [List.all_eq_true]
  intro x hx
  obtain ⟨n, _, rfl⟩ := List.mem_map.mp hx
  rfl
theorem nV_lay (l : List Nat) : ∀ x ∈ nV l, PyData.canLay0 (flatD x) = true := fun x hx => by
  obtain ⟨n, _, rfl⟩ := List.mem_map.mp hx
  rfl
def tJudge (K : PySem.W.Frag) (C CL CB : Addr) : TS := tSeq (tAsg (tCall (spKeptRight C CL CB) [] (fun _ _ _ => False) (tCons (tVar 4) (tCons (tVar 6) (tCons (tVar 8) (tCons (tVar 10) tNil))))) (gName 14)) (tSeq (tIfS (tTest (tOp rNe (tCB (rRepr K) (tCons (tVar 14) tNil)) (tCB (rRepr K) (tCons (tCall spJudged [] E0 (tCons (tVar 3) (tCons (tVar 6) (tCons (tVar 8) (tCons (tVar 10) tNil))))) tNil)))) (tRet (tC (V.bl false))) tNext) (tIfS (tTest (tOp rNe (tCB (rRepr K) (tCons (tCallN 0 (["value", "copies", "log", "machine"] : List Str).length (spKeptRight C CL CB) gR (fun _ _ _ => False) tNil (tCons (tVar 10) (tCons (tCB rTupSq (tCons (tVar 8) tNil)) (tCons (tVar 6) (tCons (tVar 4) tNil))))) tNil)) (tCB (rRepr K) (tCons (tVar 14) tNil)))) (tRet (tC (V.bl false))) tNext))
theorem at_nil {σ : L2.St} {H : Hp} {R : List V → Hp → Prop} (h : R [] H) : tNil σ H R := h
theorem judge_run {D' : Ends} {H9 : Hp} {B T M L' Cp En Du : Addr} {S : Nat} {tb : Tabs} {log : List Nat} {cs : List (Nat × Nat)} {es : List (List Nat)} {due : List Nat} {z : V} {v0 v1 v7 v12 v13 v14 v15 v16 v17 : Option V} (W : Lw C (hidB B H9) S tb log cs es due T M L' Cp En Du) (gv : GoodV (hidB B H9) z)
    (q : ∀ (H' : Hp) (v14 : Option V), Same H9 H' → D'.nx [v0, v1, some (.ref B), some (.ref T), some (.ref M), some (.int (S : Int)), some (.ref L'), v7, some (.ref Cp), some (.ref En), some z, some (.ref Du), v12, v13, v14, v15, v16, v17] H') :
    tJudge K C CL CB D' [v0, v1, some (.ref B), some (.ref T), some (.ref M), some (.int (S : Int)), some (.ref L'), v7, some (.ref Cp), some (.ref En), some z, some (.ref Du), v12, v13, v14, v15, v16, v17] H9 := by
  have ll := W.ll
  have cz := W.cz
  obtain ⟨b, hj, hk⟩ : ∃ b : Bool, (∀ {H' : Hp} {Q : VK} {E : XK}, Same H9 H' → (∀ H2, Same H' H2 → Q (.bl b) H2) → spJudged [.ref T, .ref L', .ref Cp, z] H' Q E) ∧
      (∀ {H' : Hp} {Q : VK} {E : XK} {ca : Addr}, Same H9 H' → CpsOk H' ca S log.length cs → (∀ H2, Same H' H2 → Q (.bl b) H2) → spKeptRight C CL CB [.ref M, .ref L', .ref ca, z] H' Q E) := by
    rcases gv with h | ⟨a, xs, rfl, h1, h2, h3, h4⟩
    · refine ⟨false, fun {H' Q E} s q => ?_, fun {H' Q E ca} s hc q => ?_⟩
      · have W1 := W.same (hid_same (B := B) s)
        exact ⟨T, L', Cp, S, tb, log, cs, z, rfl, W1.tab.same hid_sub, W1.tok.wf, hid_sub _ _ W1.logA, W1.ld, by omega, W1.cps.same hid_sub, W1.cok, by omega, .inl ⟨h, q⟩⟩
      · have W1 := W.same (hid_same (B := B) s)
        exact ⟨M, L', S, tb, log, .ref ca, z, rfl, W1.mach.same hid_sub, W1.tok.wf, .inr (hid_sub _ _ W1.logA), by omega, .inl ⟨W1.ld, ca, cs, rfl, hc, .inl ⟨h, q⟩⟩⟩
    · refine ⟨rightV tb log cs xs, fun {H' Q E} s q => ?_, fun {H' Q E ca} s hc q => ?_⟩
      · have W1 := W.same (hid_same (B := B) s)
        exact ⟨T, L', Cp, S, tb, log, cs, .ref a, rfl, W1.tab.same hid_sub, W1.tok.wf, hid_sub _ _ W1.logA, W1.ld, by omega, W1.cps.same hid_sub, W1.cok, by omega, .inr ⟨a, xs, rfl, (h1.same (hid_same (B := B) s)).same hid_sub, h2, h3, by omega, q⟩⟩
      · have W1 := W.same (hid_same (B := B) s)
        exact ⟨M, L', S, tb, log, .ref ca, .ref a, rfl, W1.mach.same hid_sub, W1.tok.wf, .inr (hid_sub _ _ W1.logA), by omega, .inl ⟨W1.ld, ca, cs, rfl, hc, .inr ⟨a, xs, rfl, (h1.same (hid_same (B := B) s)).same hid_sub, h2, by omega, q⟩⟩⟩
  have shb : Shows (.bool b) := Sh.bl.shows
  refine ⟨_, rfl, _, rfl, _, rfl, _, rfl, at_nil ?_⟩
  show spKeptRight C CL CB [.ref M, .ref L', .ref Cp, z] H9 _ _
  refine hk (Same.refl _) ⟨(W.cps.same hid_sub).cps, W.cok, by omega⟩ fun H1 s1 => ?_
  refine ⟨_, rfl, _, _, rfl, .bl b, shb, _, rfl, _, rfl, _, rfl, _, rfl, at_nil ?_⟩
  show spJudged [.ref T, .ref L', .ref Cp, z] H1 _ _
  refine hj s1 fun H2 s2 => ⟨_, _, rfl, .bl b, shb, rfl, _, rfl, ifF (by simp) ?_⟩
  have s12 := s1.trans s2
  have W2 := W.same (hid_same (B := B) s12)
  obtain ⟨as, c1, c2, c3⟩ := W2.cpl
  refine ⟨_, rfl, _, rfl, Cp, _, rfl, .inl (hid_sub _ _ c1), fun tc H3 s3 htc => ⟨_, rfl, _, rfl, rfl, rfl, ?_⟩⟩
  have W3 := W2.same (hid_same (B := B) s3)
  show spKeptRight C CL CB [.ref M, .ref L', .ref tc, z] H3 _ _
  refine hk (s12.trans s3) ⟨⟨as, .inr htc, c2, fun i b c e1 e2 => .inr (s3 _ _ (hid_sub _ _ (c3 i b c e1 e2)))⟩, W3.cok, by omega⟩ fun H4 s4 => ?_
  exact ⟨_, _, rfl, .bl b, shb, _, rfl, _, _, rfl, .bl b, shb, rfl, _, rfl, ifF (by simp) (q H4 _ ((s12.trans s3).trans s4))⟩
theorem blkD (L : LawC P w K mg base C CA CT CB CL) (hgs : A.guards = some []) (hr : Room 9 (A.deeper (envOfC "law" (defScope sLaw) s.heap.objs.size f cdv))) {rest : List Stmt} {u : TS} (hR : PSs (LX P w K mg base f cdv A outer s H0 E) rest u) :
    ∃ t, PSs (LX P w K mg base f cdv A outer s H0 E) ((lawBody.drop 10).take 1 ++ rest) t ∧ ∀ (D : Ends) (H : Hp) (B T M L' Cp En Du : Addr) (S : Nat) (tb : Tabs) (log : List Nat) (cs : List (Nat × Nat)) (es : List (List Nat)) (due : List Nat) (TT : List (Addr × Str)) (v0 v1 v7 v10 v12 v13 v14 v15 v16 v17 : Option V), BoxAt H B → LamX.Tabs TT H →
        Lw C (hidB B H) S tb log cs es due T M L' Cp En Du →
      (∀ (H' : Hp) (v7 v10 v12 v13 v14 : Option V), SameB B H H' → BoxAt H' B → LamX.Tabs TT H' → 
        u D [v0, v1, some (.ref B), some (.ref T), some (.ref M), some (.int (S : Int)), some (.ref L'), v7, some (.ref Cp), some (.ref En), v10, some (.ref Du), v12, v13, v14, v15, v16, v17] H') →
      t D [v0, v1, some (.ref B), some (.ref T), some (.ref M), some (.int (S : Int)), some (.ref L'), v7, some (.ref Cp), some (.ref En), v10, some (.ref Du), v12, v13, v14, v15, v16, v17] H := by
  have T := L.T
  have C_law_take := L.take
  have C_law_pick := L.pick
  have C_law_lots := L.lots
  have C_law_judged := L.judged
  obtain ⟨kr, kdk, KR, KD, mKR⟩ := L.kr
  have bKR : L2.Binds K kdk psKr [] := KD.bindsN (ps := psKr) fun _ _ _ _ _ _ us hl => match us, hl with | [_, _, _, _], _ => rfl
  have KB0 := kr_kw KD
  have hx0 : Passes (L2.CX P w) (LX P w K mg base f cdv A outer s H0 E) (fun _ _ _ => False) := passes_call takes0 (fun _ _ _ _ h => h)
  have hrp : CallR (LX P w K mg base f cdv A outer s H0 E) (.builtin "repr") (rRepr K) := call_repr hgs hr.units
  refine ⟨_, (pss_cons (ps_for PassesOwn.never rfl (pi_range1 rfl T.range (pa_cons pe_int pa_nil)) (pg_name (i := 7) scLaw.nd rfl (Or.inl rfl))
       (pss_cons (ps_set (i := 10) scLaw.nd rfl (Or.inl rfl) (pe_cl C_law_pick hr (by decide) rfl (pa_cons (pv 2) (pa_cons (pe_lst (pa_cons (pv 11) (pa_cons (pe_callTy (call_listSq) (by rfl) T.list (by decide +kernel) (pa_cons (pv 11) pa_nil)) (pa_cons (pe_cl C_law_pick hr (by decide) rfl (pa_cons (pv 2) (pa_cons (pe_cl C_law_lots hr (by decide) rfl (pa_cons (pe_callB (call_len) (by rfl) T.len (by decide +kernel) (pa_cons (pv 6) pa_nil)) pa_nil)) pa_nil))) (pa_cons (pe_cl C_law_pick hr (by decide) rfl (pa_cons (pv 2) (pa_cons (pv 9) pa_nil))) pa_nil))))) pa_nil))))
       (pss_cons (ps_if (pt_cmpR op_eq (pe_cl C_law_take hr (by decide) rfl (pa_cons (pv 2) (pa_cons pe_int pa_nil))) pe_int (nomark _))
       (pss_cons (ps_set (i := 12) scLaw.nd rfl (Or.inl rfl) (pe_lst (pa_cons (pe_callB (call_len) (by rfl) T.len (by decide +kernel) (pa_cons (pv 6) pa_nil)) (pa_cons (pe_op op_sub pe_int pe_int) (pa_cons pe_non (pa_cons pe_bl (pa_cons pe_str pa_nil)))))))
       (pss_cons (ps_set (i := 13) scLaw.nd rfl (Or.inr rfl) (pe_lst (pa_cons pe_non (pa_cons pe_str (pa_cons (pe_op op_cat (pe_callTy (call_listSq) (by rfl) T.list (by decide +kernel) (pa_cons (pv 10) pa_nil)) (pe_lst (pa_cons (pe_cl C_law_pick hr (by decide) rfl (pa_cons (pv 2) (pa_cons (pv 12) pa_nil))) pa_nil))) (pa_cons (pe_revL2 (pe_callTy (call_listSq) (by rfl) T.list (by decide +kernel) (pa_cons (pv 10) pa_nil))) pa_nil))))))
       (pss_one (ps_set (i := 10) scLaw.nd rfl (Or.inl rfl) (pe_cl C_law_pick hr (by decide) rfl (pa_cons (pv 2) (pa_cons (pe_op op_cat (pv 13) (pe_lst (pa_cons (pe_op op_cat (pe_callTy (call_listSq) (by rfl) T.list (by decide +kernel) (pa_cons (pv 10) pa_nil)) (pe_callTy (call_listSq) (by rfl) T.list (by decide +kernel) (pa_cons (pv 10) pa_nil))) pa_nil))) pa_nil)))))))
       pss_nil)
       (pss_cons (ps_set (i := 14) scLaw.nd rfl (Or.inl rfl) (pe_call KR (hr.mono (by decide)) rfl mKR KD.kp bKR .nil hx0 (pa_cons (pv 4) (pa_cons (pv 6) (pa_cons (pv 8) (pa_cons (pv 10) pa_nil))))))
       (pss_cons (ps_if (pt_cmpR op_ne (pe_callB (hrp) (by rfl) T.repr (by decide +kernel) (pa_cons (pv 14) pa_nil)) (pe_callB (hrp) (by rfl) T.repr (by decide +kernel) (pa_cons (pe_cl C_law_judged hr (by decide) rfl (pa_cons (pv 3) (pa_cons (pv 6) (pa_cons (pv 8) (pa_cons (pv 10) pa_nil))))) pa_nil)) (nomark _))
       (pss_one (ps_ret pe_bl))
       pss_nil)
       (pss_one (ps_if (pt_cmpR op_ne (pe_callB (hrp) (by rfl) T.repr (by decide +kernel) (pa_cons (pe_callN0 KR (hr.mono (by decide)) rfl mKR KD.kp KB0 hx0 (pk_cons (pv 10) (pk_cons (pe_callTy (call_tupleSq) (by rfl) T.tuple (by decide +kernel) (pa_cons (pv 8) pa_nil)) (pk_cons (pv 6) (pk_cons (pv 4) pk_nil))))) pa_nil)) (pe_callB (hrp) (by rfl) T.repr (by decide +kernel) (pa_cons (pv 14) pa_nil)) (nomark _))
       (pss_one (ps_ret pe_bl))
       pss_nil)))))))
       hR), fun D H B Ta M L' Cp En Du S tb log cs es due TT v0 v1 v7 v10 v12 v13 v14 v15 v16 v17 hB hTT W q => ?_⟩
  have hll := W.ll
  have dl := lot_len W.isd.1
  have sz1 : 1 ≤ sizeLine := by decide
  have sz4 : 4 ≤ sizeLine := by decide
  have sz5 : 5 ≤ sizeLine := by decide
  refine ⟨_, rfl, by decide, by decide, for_it walk_range (fun i σ H' => (∃ v7 v10 v12 v13 v14, σ = [v0, v1, some (.ref B), some (.ref Ta), some (.ref M), some (.int (S : Int)), some (.ref L'), v7, some (.ref Cp), some (.ref En), v10, some (.ref Du), v12, v13, v14, v15, v16, v17]) ∧ SameB B H H' ∧ BoxAt H' B) ⟨⟨_, _, _, _, _, rfl⟩, SameB.refl, hB⟩ (fun _ _ _ _ _ => trivial) ?_ ?_⟩
  rotate_left
  · rintro σ H' ⟨⟨w7, w10, w12, w13, w14, rfl⟩, s1, b1⟩
    exact q H' w7 w10 w12 w13 w14 s1 b1 (tabsB hTT s1 hB)
  rintro i x σ HQ H1 hi ⟨⟨w7, w10, w12, w13, w14, rfl⟩, s1, b1⟩ ⟨rfl, rfl⟩
  have W1 := W.same (hid_sameB (B := B) s1)
  -- four lots, one of them
  refine ⟨_, rfl, _, rfl, _, rfl, Du, _, rfl, .inr (hid_sub _ _ W1.dueA), fun l1 hl1 => ?_⟩
  have k1 := same_new (o := .lst (nV due)) hl1
  have g1 : (upd H1 l1 (.lst (nV due))) l1 = some (.lst (nV due)) := upd_same
  have n1 := box_ne b1 hl1
  generalize upd H1 l1 (.lst (nV due)) = H2 at k1 g1 ⊢
  have b2 := b1.same k1
  have W2 := W1.same (hid_same (B := B) k1)
  refine ⟨_, rfl, _, rfl, _, _, rfl, lenV_sq (.inr (hid_sub _ _ W2.logA)), log.length, by rw [nV_length]; rfl, hll, fun p as ls H3 s3 hp hpa hN hperm hpair => ?_⟩
  have b3 := b2.same s3
  have lsl : ls.length ≤ 256 := by
    rw [hperm.length_eq, lotsRaw_len]
    exact Nat.le_trans (Nat.pow_le_pow_right (by decide) hll) (by decide)
  have lsp : 1 ≤ ls.length := by
    rw [hperm.length_eq, lotsRaw_len]
    exact Nat.one_le_two_pow
  refine ⟨B, p, _, rfl, b3, box_ne b2 hp, hpa, by rw [List.length_map, hN.len]; exact lsp, by rw [List.length_map, hN.len]; omega, fun x H4 hx s4 b4 => ?_⟩
  have W4 := W2.same ((hid_same (B := B) s3).trans (hid_sameB s4))
  obtain ⟨es', he1, he2⟩ := W4.en
  have hen := hid_sub _ _ he1
  have hesl : 1 ≤ es.length := List.length_pos_iff.mpr W.ene
  have heln := W.eln
  refine ⟨_, rfl, _, rfl, B, En, _, rfl, b4, box_refs b4 (.inl hen), hen, by rw [List.length_map, he2.len]; exact hesl, by rw [List.length_map, he2.len]; omega, fun y H5 hy s5 b5 => ⟨sz4, fun a5 ha5 => ?_⟩⟩
  have k5 := same_new (o := .lst [V.ref Du, .ref l1, x, y]) ha5
  have g5 : (upd H5 a5 (.lst [V.ref Du, .ref l1, x, y])) a5 = some (.lst [V.ref Du, .ref l1, x, y]) := upd_same
  have n5 := box_ne b5 ha5
  generalize upd H5 a5 (.lst [V.ref Du, .ref l1, x, y]) = H6 at k5 g5 ⊢
  refine ⟨B, a5, _, rfl, b5.same k5, n5, g5, (by show 1 ≤ 4; decide), (by show 4 ≤ 100000; decide), fun z H7 hz s7 b7 => ?_⟩
  have s57 : SameB B H5 H7 := (SameB.of k5).trans s7
  have s47 : SameB B H4 H7 := s5.trans s57
  have s27 : SameB B H2 H7 := ((SameB.of s3).trans s4).trans s47
  have s17 : SameB B H1 H7 := (SameB.of k1).trans s27
  have W7 := W1.same (hid_sameB (B := B) s17)
  obtain ⟨a, lot, rfl, han, ha, hlot⟩ : ∃ a lot, z = .ref a ∧ a ≠ B ∧ IsSq (hidB B H7) a (nV lot) ∧ IsLot log.length lot := by
    rcases List.mem_cons.mp hz with e | hz
    · exact ⟨Du, due, e, (hidB_some W7.dueA).1, .inr W7.dueA, W.isd.1⟩
    rcases List.mem_cons.mp hz with e | hz
    · exact ⟨l1, due, e, n1, .inl (hidB_of n1 (s27 _ _ n1 g1) (fun _ z => by cases z)), W.isd.1⟩
    rcases List.mem_cons.mp hz with e | hz
    · obtain ⟨b, hb, eb⟩ := List.mem_map.mp hx
      obtain ⟨j, hj⟩ := List.mem_iff_getElem?.mp hb
      have hjl : j < as.length := (List.getElem?_eq_some_iff.mp hj).1
      have hE : ls[j]? = some (ls[j]'(by rw [← hN.len]; exact hjl)) := List.getElem?_eq_getElem _
      have hbt := hN.at_ j b _ hj hE
      have nb := box_tup b3 hbt
      exact ⟨b, _, e.trans eb.symm, nb, .inr (hidB_of nb ((s4.trans s47) _ _ nb hbt) (fun _ z => by cases z)), lotsRaw_mem.mp (hperm.mem_iff.mp (List.mem_of_getElem? hE))⟩
    rcases List.mem_cons.mp hz with e | hz
    · obtain ⟨b, hb, eb⟩ := List.mem_map.mp hy
      obtain ⟨j, hj⟩ := List.mem_iff_getElem?.mp hb
      have hjl : j < es'.length := (List.getElem?_eq_some_iff.mp hj).1
      have hE : es[j]? = some (es[j]'(by rw [← he2.len]; exact hjl)) := List.getElem?_eq_getElem _
      have hbt := he2.at_ j b _ hj hE
      have hbt7 := hid_sameB (B := B) s47 _ _ hbt
      exact ⟨b, _, e.trans eb.symm, (hidB_some hbt).1, .inr hbt7, W.eok _ (List.mem_of_getElem? hE)⟩
    · cases hz
  have hlen := lot_len hlot
  have lenN : (nV lot).length ≤ 8 := by rw [nV_length]; omega
  -- the end of a turn
  have key : ∀ (H9 : Hp) (z : V) (u12 u13 : Option V), SameB B H7 H9 → BoxAt H9 B → GoodV (hidB B H9) z →
      tJudge K C CL CB { nx := fun σ' H' => (∃ v7 v10 v12 v13 v14, σ' = [v0, v1, some (.ref B), some (.ref Ta), some (.ref M), some (.int (S : Int)), some (.ref L'), v7, some (.ref Cp), some (.ref En), v10, some (.ref Du), v12, v13, v14, v15, v16, v17]) ∧ SameB B H H' ∧ BoxAt H' B, rt := D.rt, bk := fun σ H' => u { nx := D.nx, rt := D.rt, bk := D.bk, ct := D.ct } σ H', ct := fun σ' H' => (∃ v7 v10 v12 v13 v14, σ' = [v0, v1, some (.ref B), some (.ref Ta), some (.ref M), some (.int (S : Int)), some (.ref L'), v7, some (.ref Cp), some (.ref En), v10, some (.ref Du), v12, v13, v14, v15, v16, v17]) ∧ SameB B H H' ∧ BoxAt H' B }
        [v0, v1, some (.ref B), some (.ref Ta), some (.ref M), some (.int (S : Int)), some (.ref L'), some (.int (0 + ((i : Nat) : Int))), some (.ref Cp), some (.ref En), some z, some (.ref Du), u12, u13, w14, v15, v16, v17] H9 := by
    intro H9 z u12 u13 s9 b9 gv
    exact judge_run (W7.same (hid_sameB (B := B) s9)) gv fun H' v14 s' => ⟨⟨_, _, _, _, _, rfl⟩, ((s1.trans s17).trans s9).same s', b9.same s'⟩
  refine ⟨_, rfl, B, 4, rfl, b7, by decide, by decide, fun j H8 hj s8 b8 => ⟨rfl, _, rfl, ite2 (fun c => ?_) (fun c => ?_)⟩⟩
  rotate_left
  · exact key H8 (.ref a) _ _ s8 b8 (.inr ⟨a, nV lot, rfl, ha.same (hid_sameB s8), nV_flat lot, nV_lay lot, by omega⟩)
  have W8 := W7.same (hid_sameB (B := B) s8)
  have ha8 := (ha.same (hid_sameB (B := B) s8)).same hid_sub
  -- a spoiled one
  refine ⟨_, rfl, _, _, rfl, lenV_sq (.inr (hid_sub _ _ W8.logA)), _, _, rfl, rfl, sz5, fun bd hbd => ?_⟩
  have nbd := box_ne b8 hbd
  have k9 := same_new (o := .lst [V.int ((nV log).length : Int), .int (0 - 1), .non, .bl true, .str "0"]) hbd
  have g9 : (upd H8 bd (.lst [V.int ((nV log).length : Int), .int (0 - 1), .non, .bl true, .str "0"])) bd = some (.lst [V.int ((nV log).length : Int), .int (0 - 1), .non, .bl true, .str "0"]) := upd_same
  generalize upd H8 bd (.lst [V.int ((nV log).length : Int), .int (0 - 1), .non, .bl true, .str "0"]) = H9 at k9 g9 ⊢
  have b9 := b8.same k9
  refine ⟨_, rfl, a, _, rfl, ha8.same k9, fun c1 hc1 => ?_⟩
  have nc1 := box_ne b9 hc1
  have k10 := same_new (o := .lst (nV lot)) hc1
  have g10 : (upd H9 c1 (.lst (nV lot))) c1 = some (.lst (nV lot)) := upd_same
  generalize upd H9 c1 (.lst (nV lot)) = H10 at k10 g10 ⊢
  have b10 := b9.same k10
  refine ⟨_, rfl, _, rfl, B, bd, _, rfl, b10, nbd, k10 _ _ g9, (by show 1 ≤ 5; decide), (by show 5 ≤ 100000; decide), fun x2 H11 hx2 s11 b11 => ⟨sz1, fun c2 hc2 => ?_⟩⟩
  have nc2 := box_ne b11 hc2
  have k12 := same_new (o := .lst [x2]) hc2
  have g12 : (upd H11 c2 (.lst [x2])) c2 = some (.lst [x2]) := upd_same
  generalize upd H11 c2 (.lst [x2]) = H12 at k12 g12 ⊢
  refine ⟨c1, c2, nV lot, [x2], rfl, rfl, k12 _ _ (s11 _ _ nc1 g10), g12, by show (nV lot).length + 1 ≤ sizeLine; rw [sizeLine_eq]; omega, fun c3 hc3 => ?_⟩
  have b12 := b11.same k12
  have nc3 := box_ne b12 hc3
  have k13 := same_new (o := .lst (nV lot ++ [x2])) hc3
  have g13 : (upd H12 c3 (.lst (nV lot ++ [x2]))) c3 = some (.lst (nV lot ++ [x2])) := upd_same
  generalize upd H12 c3 (.lst (nV lot ++ [x2])) = H13 at k13 g13 ⊢
  have b13 := b12.same k13
  have s8d : SameB B H8 H13 := (((SameB.of (k9.trans k10)).trans s11).same k12).same k13
  have had := ((ha.same (hid_sameB (B := B) s8)).same (hid_sameB (B := B) s8d)).same hid_sub
  refine ⟨_, rfl, a, _, rfl, had, fun c4 hc4 => ?_⟩
  have nc4 := box_ne b13 hc4
  have k14 := same_new (o := .lst (nV lot)) hc4
  have g14 : (upd H13 c4 (.lst (nV lot))) c4 = some (.lst (nV lot)) := upd_same
  generalize upd H13 c4 (.lst (nV lot)) = H14 at k14 g14 ⊢
  have b14 := b13.same k14
  refine ⟨c4, _, rfl, .of g14, fun c5 hc5 => ⟨sz4, fun A6 hA6 => ?_⟩⟩
  have nc5 := box_ne b14 hc5
  have k15 := same_new (o := .lst (nV lot).reverse) hc5
  have g15 : (upd H14 c5 (.lst (nV lot).reverse)) c5 = some (.lst (nV lot).reverse) := upd_same
  generalize upd H14 c5 (.lst (nV lot).reverse) = H15 at k15 g15 hA6 ⊢
  have b15 := b14.same k15
  have nA6 := box_ne b15 hA6
  have k16 := same_new (o := .lst [V.non, .str "01", .ref c3, .ref c5]) hA6
  have g16 : (upd H15 A6 (.lst [V.non, .str "01", .ref c3, .ref c5])) A6 = some (.lst [V.non, .str "01", .ref c3, .ref c5]) := upd_same
  generalize upd H15 A6 (.lst [V.non, .str "01", .ref c3, .ref c5]) = H16 at k16 g16 ⊢
  have b16 := b15.same k16
  have kd6 := (k14.trans k15).trans k16
  refine ⟨_, rfl, _, rfl, _, rfl, a, _, rfl, had.same kd6, fun c7 hc7 => ?_⟩
  have k17 := same_new (o := .lst (nV lot)) hc7
  have g17 : (upd H16 c7 (.lst (nV lot))) c7 = some (.lst (nV lot)) := upd_same
  generalize upd H16 c7 (.lst (nV lot)) = H17 at k17 g17 ⊢
  refine ⟨_, rfl, a, _, rfl, (had.same kd6).same k17, fun c8 hc8 => ?_⟩
  have k18 := same_new (o := .lst (nV lot)) hc8
  have g18 : (upd H17 c8 (.lst (nV lot))) c8 = some (.lst (nV lot)) := upd_same
  generalize upd H17 c8 (.lst (nV lot)) = H18 at k18 g18 ⊢
  have b18 := (b16.same k17).same k18
  refine ⟨c7, c8, _, _, rfl, rfl, k18 _ _ g17, g18, by rw [sizeLine_eq]; omega, fun c9 hc9 => ⟨sz1, fun A7 hA7 => ?_⟩⟩
  have nc9 := box_ne b18 hc9
  have k19 := same_new (o := .lst (nV lot ++ nV lot)) hc9
  have g19 : (upd H18 c9 (.lst (nV lot ++ nV lot))) c9 = some (.lst (nV lot ++ nV lot)) := upd_same
  generalize upd H18 c9 (.lst (nV lot ++ nV lot)) = H19 at k19 g19 hA7 ⊢
  have b19 := b18.same k19
  have k20 := same_new (o := .lst [V.ref c9]) hA7
  have g20 : (upd H19 A7 (.lst [V.ref c9])) A7 = some (.lst [V.ref c9]) := upd_same
  generalize upd H19 A7 (.lst [V.ref c9]) = H20 at k20 g20 ⊢
  have b20 := b19.same k20
  have k6t := ((k17.trans k18).trans k19).trans k20
  refine ⟨A6, A7, _, _, rfl, rfl, k6t _ _ g16, g20, by show 4 + 1 ≤ sizeLine; decide, fun A8 hA8 => ?_⟩
  have nA8 := box_ne b20 hA8
  have k21 := same_new (o := .lst ([V.non, .str "01", .ref c3, .ref c5] ++ [V.ref c9])) hA8
  have g21 : (upd H20 A8 (.lst ([V.non, .str "01", .ref c3, .ref c5] ++ [V.ref c9]))) A8 = some (.lst ([V.non, .str "01", .ref c3, .ref c5] ++ [V.ref c9])) := upd_same
  generalize upd H20 A8 (.lst ([V.non, .str "01", .ref c3, .ref c5] ++ [V.ref c9])) = H21 at k21 g21 ⊢
  have b21 := b20.same k21
  refine ⟨B, A8, _, rfl, b21, nA8, g21, (by show 1 ≤ 5; decide), (by show 5 ≤ 100000; decide), fun z2 H22 hz2 s22 b22 => ?_⟩
  have s7v : SameB B H7 H22 := ((((s8.trans s8d).same kd6).same k6t).same k21).trans s22
  refine key H22 z2 _ _ s7v b22 ?_
  have fx2 : flatI x2 = true ∧ PyData.canLay0 (flatD x2) = true := by
    rcases List.mem_cons.mp hx2 with e | h
    · rw [e]; exact ⟨rfl, rfl⟩
    rcases List.mem_cons.mp h with e | h
    · rw [e]; exact ⟨rfl, rfl⟩
    rcases List.mem_cons.mp h with e | h
    · rw [e]; exact ⟨rfl, rfl⟩
    rcases List.mem_cons.mp h with e | h
    · rw [e]; exact ⟨rfl, rfl⟩
    rcases List.mem_cons.mp h with e | h
    · rw [e]; exact ⟨rfl, by unfold flatD PyData.canLay0; exact ok_ofString "0"⟩
    · cases h
  have put : ∀ {b : Addr} {xs : List V}, b ≠ B → H21 b = some (.lst xs) → xs.all flatI = true → (∀ x ∈ xs, PyData.canLay0 (flatD x) = true) → xs.length ≤ 20 → GoodV (hidB B H22) (.ref b) := fun n h h1 h2 h3 =>
    .inr ⟨_, _, rfl, .inl (hidB_of n (s22 _ _ n h) (fun _ z => by cases z)), h1, h2, h3⟩
  have kd1 : Same H13 H21 := (kd6.trans k6t).trans k21
  rcases List.mem_cons.mp hz2 with e | h
  · rw [e]; exact .inl rfl
  rcases List.mem_cons.mp h with e | h
  · rw [e]; exact .inl rfl
  rcases List.mem_cons.mp h with e | h
  · rw [e]
    refine put nc3 (kd1 _ _ g13) ?_ (fun x hx => ?_) (by rw [List.length_append]; show (nV lot).length + 1 ≤ 20; omega)
    · rw [List.all_append, nV_flat, List.all_cons, fx2.1]
      rfl
    · rcases List.mem_append.mp hx with h | h
      · exact nV_lay lot x h
      · rw [List.mem_singleton.mp h]; exact fx2.2
  rcases List.mem_cons.mp h with e | h
  · rw [e]
    refine put nc5 (k21 _ _ (k6t _ _ (k16 _ _ g15))) (by rw [List.all_reverse]; exact nV_flat lot) (fun x hx => nV_lay lot x (List.mem_reverse.mp hx)) (by rw [List.length_reverse]; omega)
  rcases List.mem_cons.mp h with e | h
  · rw [e]
    refine put nc9 (k21 _ _ (k20 _ _ g19)) (by rw [List.all_append, nV_flat]; rfl) (fun x hx => ?_) (by rw [List.length_append]; omega)
    rcases List.mem_append.mp hx with h | h
    · exact nV_lay lot x h
    · exact nV_lay lot x h
  · cases h
end
end Ag
set_option Elab.async false
set_option linter.all false
set_option maxRecDepth 100000
set_option maxHeartbeats 4000000
/-! ### the law: bad copies, asked through lambdas -/
namespace Ag
open PySem PySem.Spec PyProof.Rows L2 RZ LamX NdefX
theorem tabsL {T : List (Addr × Str)} {H H1 : Hp} {B : Addr} {xs : List V} (h : LamX.Tabs T H) (s : SameB B H H1) (hb : H B = some (.lst xs)) : LamX.Tabs T H1 := fun p hp => by
  obtain ⟨ps, h1, h2, h3⟩ := h p hp
  have nP : p.1 ≠ B := fun z => by rw [z, hb] at h1; cases h1
  refine ⟨ps, s _ _ nP h1, h2, fun pos cv hc => ?_⟩
  obtain ⟨c, e1, e2⟩ := h3 pos cv hc
  refine ⟨c, e1, s _ _ (fun z => ?_) e2⟩
  rw [z, hb] at e2
  have e2 : some (HO.lst xs) = some (CodeO B p.2) := e2
  unfold CodeO at e2
  cases e2
abbrev nLamW : List Str := ["_law_some", "_law_machine", "_law_log"]
abbrev frLamW : List Str := ["_law_machine", "_law_log"]
def FamL (X : Cx) : NF → Expr → (XK → TE) → Prop := fun F b tb => LamOk X.prog X.w X.K X.mg X.base 7 F b nLamW ["_law_some"] frLamW tb ∧ (X.Ok → Caps X F.cl frLamW [4, 6])
def tW (X : Cx) : XK → TE := fun E σ H Q => tCallW (FamL X) nLamW (["_law_some"] : List Str).length 16 (([4, 6] : List Nat).map (slotAt σ)) E (tCons (tVar 13) tNil) σ H Q
theorem callW_pe {X Z : Cx} {σ : L2.St} {b : Expr} {E : XK} {cl : (cl : List (Str × Addr)) → (fr : List Str) → (js : List Nat) → (X.Ok → Caps X cl fr js) → Prop} {k : Nat} {A : Around} (_ : ∀ a b c d, cl a b c d) (_ : Room k A)
    (h : PE Z b (tCallW (FamL X) nLamW (["_law_some"] : List Str).length 16 (([4, 6] : List Nat).map (slotAt σ)) E (tCons (tVar 13) tNil))) : PE Z b (fun σ1 H1 Q => σ1 = σ ∧ tW X E σ1 H1 Q) := ⟨fun pins s σ1 H1 Q I q => by
  obtain ⟨rfl, q⟩ := q
  exact h.run pins s _ H1 Q I q⟩
def tL1 (C CL CB CT : Addr) : XK → TE := fun E => tCall (spFewestKept C CL CB CT) [V.int 20000] E (tCons (tVar 1) (tCons (tVar 2) (tCons (tVar 0) tNil)))
def tL2 (C CL CB : Addr) : XK → TE := fun E => tCall (spKeptRight C CL CB) [] E (tCons (tVar 1) (tCons (tVar 2) (tCons (tVar 0) (tCons (tC .non) tNil))))
/-- a copy list that is refused, and its text -/
def SomeOk (K : PySem.W.Frag) (G : Hp) (S n : Nat) (z : V) : Prop := BadCps G S n z ∧ ∃ e, Dp K G z e ∧ Shows e ∧ PyData.strOk e.shown = true
theorem SomeOk.same {K : PySem.W.Frag} {G G' : Hp} {S n : Nat} {z : V} (h : SomeOk K G S n z) (s : Same G G') : SomeOk K G' S n z := by
  obtain ⟨h1, e, h2, h3⟩ := h
  exact ⟨h1.same s, e, dp_same h2 s, h3⟩
theorem some_lst {K : PySem.W.Frag} {G : Hp} {S n m : Nat} {a p : Addr} {ys : List V} (ha : G a = some (.lst [.ref p])) (hp : G p = some (.tup ys)) (hf : ys.all flatI = true) (hs : ShA (ys.map flatD) m 0) (hm : m ≤ 10000) (hc : ys.length ≠ 2 ∨ ∃ x y, ys = [x, y] ∧ (below S x && below (n + 1 : Nat) y) = false) : SomeOk K G S n (.ref a) := by
  have h2 : Sh (.list [.tuple (ys.map flatD)]) (m + 2 + 2 + 0 + 3) 2 := Sh.lst (ShA.cons (Sh.tup hs) ShA.nil)
  exact ⟨.inr ⟨a, p, ys, rfl, .inl ha, .inr hp, hf, hc⟩, _, .lst (.of ha) (.cons (.tup (.of hp) (dp_flats hf)) .nil), h2.shows (by omega) (by decide), h2.txt⟩
theorem lamO_ne {f : Addr} {F : NF} {b : Expr} (ps : Array Value) : LamO f F b ≠ .tbl ps := fun z => by
  unfold LamO at z
  cases z
theorem lamO_box {H : Hp} {B f : Addr} {F : NF} {b : Expr} (bx : BoxAt H B) (h : H f = some (LamO f F b)) : f ≠ B := fun z => by
  obtain ⟨g, r, hb, _⟩ := bx
  rw [z, hb] at h
  have e2 : some (HO.lst (boxV g r)) = some (LamO B F b) := h
  unfold LamO at e2
  cases e2
theorem codeO_box {H : Hp} {B c : Addr} {q : Str} (bx : BoxAt H B) (h : H c = some (CodeO c q)) : c ≠ B := fun z => by
  obtain ⟨g, r, hb, _⟩ := bx
  rw [z, hb] at h
  have e2 : some (HO.lst (boxV g r)) = some (CodeO B q) := h
  unfold CodeO at e2
  cases e2
theorem BoxAt.ext {H H1 : Hp} {B : Addr} (b : BoxAt H B) (e : ExtN H H1) : BoxAt H1 B := by
  obtain ⟨g, r, hb, hr⟩ := b
  exact ⟨g, r, e _ _ hb (fun _ z => by cases z), hr⟩
/-- what such a lambda does with bad copies -/
def GoodTb (C CB : Addr) (M L' : Addr) (S : Nat) (tb : Tabs) (log : List Nat) (t : XK → TE) : Prop := ∀ (E : XK) (H : Hp) (Q : VK) (z : V), MachAt C H M tb S → H L' = some (.tup (nV log)) → BadCps H S log.length z → (∀ d H', Same H H' → H' d = some (.xd [(("at" : Str), z)]) → E (.ref CB) (some d) H') → t E (startF nLamW [z] [some (.ref M), some (.ref L')]) H Q
theorem good1 {C CL CB CT M L' : Addr} {S : Nat} {tb : Tabs} {log : List Nat} (hok : TabsOk tb S) (hl : log.length ≤ 8) (hd : ∀ d ∈ log, d < tb.length) : GoodTb C CB M L' S tb log (tL1 C CL CB CT) := fun E H Q z h1 h2 h3 h4 => by
  have := hok.s2
  exact ⟨_, rfl, _, rfl, _, rfl, M, L', S, 20000, tb, log, z, rfl, h1, hok.wf, by omega, .inr h2, by omega, .inr (.inl ⟨hd, h3, h4⟩)⟩
theorem good2 {C CL CB M L' : Addr} {S : Nat} {tb : Tabs} {log : List Nat} (hok : TabsOk tb S) (hl : log.length ≤ 8) (hd : ∀ d ∈ log, d < tb.length) : GoodTb C CB M L' S tb log (tL2 C CL CB) := fun E H Q z h1 h2 h3 h4 => by
  exact ⟨_, rfl, _, rfl, _, rfl, M, L', S, tb, log, z, .non, rfl, h1, hok.wf, .inr h2, by omega, .inr (.inl ⟨hd, h3, h4⟩)⟩
def WorkAt (X : Cx) (C CB : Addr) (M L' : Addr) (S : Nat) (tb : Tabs) (log : List Nat) (G : Hp) (f : Addr) : Prop := ∃ F b t, FamL X F b t ∧ GoodTb C CB M L' S tb log t ∧ G f = some (LamO f F b) ∧ G F.c = some (CodeO F.c F.qual)
theorem WorkAt.same {X : Cx} {C CB : Addr} {M L' : Addr} {S : Nat} {tb : Tabs} {log : List Nat} {G G' : Hp} {f : Addr} (h : WorkAt X C CB M L' S tb log G f) (s : Same G G') : WorkAt X C CB M L' S tb log G' f := by
  obtain ⟨F, b, t, h1, h2, h3, h4⟩ := h
  exact ⟨F, b, t, h1, h2, s _ _ h3, s _ _ h4⟩
section
variable {P : Program} {w : World} {K : PySem.W.Frag} {mg : Str → Option Value} {base : Heap} {C CA CT CB CL c Pt : Addr} {f : Addr} {cdv : Value} {A : Around} {outer : List Env} {s : Shared} {H0 : Hp} {E : XK}
theorem blkE (L : LawC P w K mg base C CA CT CB CL) (Lm : LamC mg base cdv c Pt) (hgs : A.guards = some []) (hr : Room 9 (A.deeper (envOfC "law" (defScope sLaw) s.heap.objs.size f cdv))) {rest : List Stmt} {u : TS} (hR : PSs (LX P w K mg base f cdv A outer s H0 E) rest u) :
    ∃ t, PSs (LX P w K mg base f cdv A outer s H0 E) ((lawBody.drop 11).take 3 ++ rest) t ∧ ∀ (D : Ends) (H : Hp) (B T M L' Cp En Du : Addr) (S : Nat) (tb : Tabs) (log : List Nat) (cs : List (Nat × Nat)) (es : List (List Nat)) (due : List Nat) (v0 v1 v7 v10 v12 v13 v14 v15 v16 v17 : Option V), BoxAt H B → LamX.Tabs [(Pt, qLam)] H →
        Lw C (hidB B H) S tb log cs es due T M L' Cp En Du →
      (∀ (H' : Hp) (v13 v15 v16 : Option V), Same (hidB B H) (hidB B H') → BoxAt H' B → LamX.Tabs [(Pt, qLam)] H' → 
        u D [v0, v1, some (.ref B), some (.ref T), some (.ref M), some (.int (S : Int)), some (.ref L'), v7, some (.ref Cp), some (.ref En), v10, some (.ref Du), v12, v13, v14, v15, v16, v17] H') →
      t D [v0, v1, some (.ref B), some (.ref T), some (.ref M), some (.int (S : Int)), some (.ref L'), v7, some (.ref Cp), some (.ref En), v10, some (.ref Du), v12, v13, v14, v15, v16, v17] H := by
  have T := L.T
  have C_law_pick := L.pick
  obtain ⟨fk, fdk, FK, FD, mFK⟩ := L.fk
  obtain ⟨ds, hds, hbd⟩ := fk_plain FD
  obtain ⟨kr, kdk, KR, KD, mKR⟩ := L.kr
  have bKR : L2.Binds K kdk psKr [] := KD.bindsN (ps := psKr) fun _ _ _ _ _ _ us hl => match us, hl with | [_, _, _, _], _ => rfl
  obtain ⟨gh, fdh, HD, mH⟩ := L.he
  have bH : L2.Binds K fdh ["_law_ask"] [] := HD.bindsN (ps := ["_law_ask"]) fun _ _ _ _ _ _ us hl => match us, hl with | [_], _ => rfl
  obtain ⟨och, odh, dVh, kVh, doch, pmh, anh, cdvh, cth, oslh, rfl, lkH, hcH, hDh, hKh⟩ := id HD.ex
  have hrp : CallR (LX P w K mg base f cdv A outer s H0 E) (.builtin "repr") (rRepr K) := call_repr hgs hr.units
  refine ⟨_, (pss_cons (ps_set (i := 15) scLaw.nd rfl (Or.inl rfl) (pe_lst (pa_cons (pe_lamP (T := [(Pt, qLam)]) (P := Pt) (c := c) Lm.TB Lm.cd List.mem_cons_self (fun p hp _ => by rw [List.mem_singleton.mp hp]; rfl) rfl (NdefX.ndef_free (sc := defScope sLaw) (fr := []) (by decide +kernel))) pa_nil)))
       (pss_cons (ps_expr (pe_bm PySem.F.plainAttrs_list PySem.F.slot_list_append PySem.F.type_list_append mt_append (pv 15) (pa_cons (pe_lamP (T := [(Pt, qLam)]) (P := Pt) (c := c) Lm.TB Lm.cd List.mem_cons_self (fun p hp _ => by rw [List.mem_singleton.mp hp]; rfl) rfl (NdefX.ndef_free (sc := defScope sLaw) (fr := []) (by decide +kernel))) pa_nil)))
       (pss_cons (ps_for PassesOwn.never rfl (pi_sq (pv 15)) (pg_name (i := 16) scLaw.nd rfl (Or.inr rfl))
       (pss_cons (ps_set (i := 13) scLaw.nd rfl (Or.inr rfl) (pe_cl C_law_pick hr (by decide) rfl (pa_cons (pv 2) (pa_cons (pe_lst (pa_cons pe_non (pa_cons pe_int (pa_cons (pe_lst (pa_cons (pe_tup (pa_cons pe_int pa_nil)) pa_nil)) (pa_cons (pe_lst (pa_cons (pe_tup (pa_cons (pv 5) (pa_cons pe_int pa_nil))) pa_nil)) (pa_cons (pe_lst (pa_cons (pe_tup (pa_cons pe_int (pa_cons (pe_op op_add (pe_callB (call_len) (by rfl) T.len (by decide +kernel) (pa_cons (pv 6) pa_nil)) pe_int) pa_nil))) pa_nil)) (pa_cons (pe_lst (pa_cons (pe_tup (pa_cons pe_int (pa_cons pe_non pa_nil))) pa_nil)) (pa_cons (pe_lst (pa_cons (pe_tup (pa_cons pe_bl (pa_cons pe_int pa_nil))) pa_nil)) pa_nil)))))))) pa_nil))))
       (pss_one (ps_if (pt_cmpR (op_neD hr.units) (pe_lamcallC (k := 7) (Ng := nHeard) (T := [(Pt, qLam)]) (P := Pt) (c := c) rfl mH HD.kp lkH hcH bH scHeard rfl (.inl rfl) (heard_gives T L.EA hgs (k := 8) hr) Lm.TB Lm.cd List.mem_cons_self (fun p hp _ => by rw [List.mem_singleton.mp hp]; rfl) (hr.mono (by decide)) (lamS_by (sc := defScope sLaw) (by decide +kernel)) rfl (fun _ _ _ _ _ => rfl) (t := tW (LX P w K mg base f cdv A outer s H0 E)) (fun σ A outer s H E f c' hC hr2 => callW_pe hC hr2 (pe_callW (i := 16) (fun F b tb h => h.1) (fun F b tb h => hC _ _ _ h.2) rfl hr2 (Nat.le_refl _) (passes_call (takes_of rfl rfl rfl rfl) (fun _ _ _ _ h => h)) rfl (.inr (.inr rfl)) (pa_cons (pv 13) pa_nil)))) (pe_tup (pa_cons pe_str (pa_cons (pe_callB (hrp) (by rfl) T.repr (by decide +kernel) (pa_cons (pv 13) pa_nil)) (pa_cons pe_bl pa_nil)))) (nomark _))
       (pss_one (ps_ret pe_bl))
       pss_nil))))
       hR))), fun D H B Ta M L' Cp En Du S tb log cs es due v0 v1 v7 v10 v12 v13 v14 v15 v16 v17 hB hTT W q => ?_⟩
  have hll := W.ll
  have S12 := W.tok.s2
  have sz1 : 1 ≤ sizeLine := by decide
  have sz2 : 2 ≤ sizeLine := by decide
  have sz3 : 3 ≤ sizeLine := by decide
  have sz7 : 7 ≤ sizeLine := by decide
  refine ⟨hTT, fun f1 c1 H1 e1 T1 n1 hf1 hc1 => ⟨sz1, fun Wk hWk => ?_⟩⟩
  have b1 := hB.ext e1
  have wk1 : WorkAt (LX P w K mg base f cdv A outer s H0 E) C CB M L' S tb log (hidB B H1) f1 := by
    refine ⟨_, _, tL1 C CL CB CT, ?fam, good1 W.tok W.ll W.ld, hidB_of (lamO_box b1 hf1) hf1 lamO_ne, hidB_of (codeO_box b1 hc1) hc1 codeO_ne⟩
    refine ⟨lamOk_of (k := 6) (NdefX.nscope_by (sc := { kind := ScopeKind.function, names := [("_law_some", NameKind.local), ("_law_log", NameKind.free), ("_law_machine", NameKind.free), ("fewest_kept", NameKind.globalImplicit)], isGenerator := false, isCoroutine := false, more := [] }) (by decide +kernel)) (fun pm ctv us hl => match us, hl with | [_], _ => rfl) (fun f2 A2 o2 s2 H2 E2 hr2 => pe_call FK hr2 rfl mFK FD.kp hbd hds (passes_call (takes_of rfl rfl rfl rfl) (fun _ _ _ _ h => h)) (pa_cons (pv 1) (pa_cons (pv 2) (pa_cons (pv 0) pa_nil)))), fun ok => Caps.made ok (NdefX.ndef_free (sc := defScope sLaw) (fr := frLamW) (by decide +kernel)) (NdefX.ndef_fr (sc := defScope sLaw) (fr := frLamW) (by decide +kernel)) rfl⟩
  have k2 := same_new (o := .lst [V.ref f1]) hWk
  have g2 : (upd H1 Wk (.lst [V.ref f1])) Wk = some (.lst [V.ref f1]) := upd_same
  have nW := box_ne b1 hWk
  generalize upd H1 Wk (.lst [V.ref f1]) = H2 at k2 g2 ⊢
  have b2 := b1.same k2
  refine ⟨_, rfl, .inl ⟨rfl, _, .of g2⟩, tabsS T1 k2, fun f2 c2 H3 e3 T3 n3 hf2 hc2 => ?_⟩
  have b3 := b2.ext e3
  have g3 : H3 Wk = some (.lst [V.ref f1]) := e3 _ _ g2 (fun _ z => by cases z)
  have wk2 : WorkAt (LX P w K mg base f cdv A outer s H0 E) C CB M L' S tb log (hidB B H3) f2 := by
    refine ⟨_, _, tL2 C CL CB, ?fam2, good2 W.tok W.ll W.ld, hidB_of (lamO_box b3 hf2) hf2 lamO_ne, hidB_of (codeO_box b3 hc2) hc2 codeO_ne⟩
    refine ⟨lamOk_of (k := 6) (NdefX.nscope_by (sc := { kind := ScopeKind.function, names := [("_law_some", NameKind.local), ("_law_log", NameKind.free), ("_law_machine", NameKind.free), ("kept_right", NameKind.globalImplicit)], isGenerator := false, isCoroutine := false, more := [] }) (by decide +kernel)) (fun pm ctv us hl => match us, hl with | [_], _ => rfl) (fun f2 A2 o2 s2 H2 E2 hr2 => pe_call KR hr2 rfl mKR KD.kp bKR .nil (passes_call (takes_of rfl rfl rfl rfl) (fun _ _ _ _ h => h)) (pa_cons (pv 1) (pa_cons (pv 2) (pa_cons (pv 0) (pa_cons pe_non pa_nil))))), fun ok => Caps.made ok (NdefX.ndef_free (sc := defScope sLaw) (fr := frLamW) (by decide +kernel)) (NdefX.ndef_fr (sc := defScope sLaw) (fr := frLamW) (by decide +kernel)) rfl⟩
  refine ⟨Wk, _, .ref f2, rfl, rfl, g3, by show 1 < sizeLine; decide, ?_⟩
  have k4 : SameB Wk H3 (upd H3 Wk (.lst ([V.ref f1] ++ [V.ref f2]))) := SameB.refl.put
  have g4 : (upd H3 Wk (.lst ([V.ref f1] ++ [V.ref f2]))) Wk = some (.lst [V.ref f1, V.ref f2]) := upd_same
  generalize upd H3 Wk (.lst ([V.ref f1] ++ [V.ref f2])) = H4 at k4 g4 ⊢
  have b4 : BoxAt H4 B := by
    obtain ⟨g, r, hb, hr⟩ := b3
    exact ⟨g, r, k4 _ _ (Ne.symm nW) hb, hr⟩
  have T4 := tabsL T3 k4 g3
  have hW1 : ∀ (b : Addr) (o : HO), H1 b = some o → b ≠ Wk := fun b o e => ne_of_none e hWk
  have s14 : Same (hidB B H1) (hidB B H4) := fun b o e => by
    obtain ⟨m1, m2, m3⟩ := hidB_some e
    exact hidB_of m1 (k4 _ _ (hW1 b o m2) (e3 _ _ (k2 _ _ m2) m3)) m3
  have s04 : Same (hidB B H) (hidB B H4) := (hid_ext e1).trans s14
  have wk1' := wk1.same s14
  have wk2' : WorkAt (LX P w K mg base f cdv A outer s H0 E) C CB M L' S tb log (hidB B H4) f2 := by
    obtain ⟨F, b, t, h1, h2, h3, h4⟩ := wk2
    have l3 : ∀ {x : Addr} {o : HO}, hidB B H3 x = some o → (∀ ys, o ≠ .lst ys) → hidB B H4 x = some o := fun {x o} e no => by
      obtain ⟨m1, m2, m3⟩ := hidB_some e
      exact hidB_of m1 (k4 _ _ (fun z => by rw [z, g3] at m2; exact no _ (Option.some.inj m2).symm) m2) m3
    refine ⟨F, b, t, h1, h2, l3 h3 (fun ys z => ?_), l3 h4 (fun ys z => ?_)⟩
    · unfold LamO at z
      cases z
    · unfold CodeO at z
      cases z
  have g4' := hidB_of (B := B) nW g4 (fun _ z => by cases z)
  have W4 := W.same s04
  refine ⟨_, rfl, Wk, _, rfl, .inl g4, fun J G wk hG => for_it wk (fun i σ H' => (∃ v13 v16, σ = [v0, v1, some (.ref B), some (.ref Ta), some (.ref M), some (.int (S : Int)), some (.ref L'), v7, some (.ref Cp), some (.ref En), v10, some (.ref Du), v12, v13, v14, some (.ref Wk), v16, v17]) ∧ Same (hidB B H4) (hidB B H') ∧ BoxAt H' B ∧ LamX.Tabs [(Pt, qLam)] H') ⟨⟨_, _, rfl⟩, Same.refl _, b4, T4⟩ (fun i σ H' _ ⟨_, s', _⟩ => hG _ (by rw [g4]; exact hid_sub _ _ (s' _ _ g4'))) ?_ ?_⟩
  rotate_left
  · rintro σ H' ⟨⟨w13, w16, rfl⟩, s', b', T'⟩
    exact q H' w13 _ w16 (s04.trans s') b' T'
  rintro i x σ HQ H5 hi ⟨⟨w13, w16, rfl⟩, s5, b5, T5⟩ ⟨rfl, hx⟩
  obtain ⟨fw, rfl, hw⟩ : ∃ fw, x = .ref fw ∧ WorkAt (LX P w K mg base f cdv A outer s H0 E) C CB M L' S tb log (hidB B H4) fw := by
    match i, hi, hx with
    | 0, _, hx => cases hx; exact ⟨f1, rfl, wk1'⟩
    | 1, _, hx => cases hx; exact ⟨f2, rfl, wk2'⟩
  have W5 := W4.same s5
  have hw5 := hw.same s5
  refine ⟨_, rfl, sz1, fun p1 hp1 => ⟨sz1, fun a1 ha1 => ?_⟩⟩
  have kp1 := same_new (o := .tup [V.int 0]) hp1
  have gp1 : (upd H5 p1 (.tup [V.int 0])) p1 = some (.tup [V.int 0]) := upd_same
  generalize upd H5 p1 (.tup [V.int 0]) = X1 at kp1 gp1 ha1 ⊢
  have ka1 := same_new (o := .lst [V.ref p1]) ha1
  have ga1 : (upd X1 a1 (.lst [V.ref p1])) a1 = some (.lst [V.ref p1]) := upd_same
  generalize upd X1 a1 (.lst [V.ref p1]) = X2 at ka1 ga1 ⊢
  have kk1 := kp1.trans ka1
  refine ⟨_, rfl, sz2, fun p2 hp2 => ⟨sz1, fun a2 ha2 => ?_⟩⟩
  have kp2 := same_new (o := .tup [V.int (S : Int), .int 0]) hp2
  have gp2 : (upd X2 p2 (.tup [V.int (S : Int), .int 0])) p2 = some (.tup [V.int (S : Int), .int 0]) := upd_same
  generalize upd X2 p2 (.tup [V.int (S : Int), .int 0]) = X3 at kp2 gp2 ha2 ⊢
  have ka2 := same_new (o := .lst [V.ref p2]) ha2
  have ga2 : (upd X3 a2 (.lst [V.ref p2])) a2 = some (.lst [V.ref p2]) := upd_same
  generalize upd X3 a2 (.lst [V.ref p2]) = X4 at ka2 ga2 ⊢
  have kk2 := (kk1.trans kp2).trans ka2
  have WLOG := W5.same (hid_same (B := B) (kk2))
  refine ⟨_, rfl, _, _, rfl, lenV_sq (.inr (hid_sub _ _ WLOG.logA)), _, _, rfl, rfl, sz2, fun p3 hp3 => ⟨sz1, fun a3 ha3 => ?_⟩⟩
  have kp3 := same_new (o := .tup [V.int 0, .int (((nV log).length : Int) + 1)]) hp3
  have gp3 : (upd X4 p3 (.tup [V.int 0, .int (((nV log).length : Int) + 1)])) p3 = some (.tup [V.int 0, .int (((nV log).length : Int) + 1)]) := upd_same
  generalize upd X4 p3 (.tup [V.int 0, .int (((nV log).length : Int) + 1)]) = X5 at kp3 gp3 ha3 ⊢
  have ka3 := same_new (o := .lst [V.ref p3]) ha3
  have ga3 : (upd X5 a3 (.lst [V.ref p3])) a3 = some (.lst [V.ref p3]) := upd_same
  generalize upd X5 a3 (.lst [V.ref p3]) = X6 at ka3 ga3 ⊢
  have kk3 := (kk2.trans kp3).trans ka3
  refine ⟨sz2, fun p4 hp4 => ⟨sz1, fun a4 ha4 => ?_⟩⟩
  have kp4 := same_new (o := .tup [V.int 0, .non]) hp4
  have gp4 : (upd X6 p4 (.tup [V.int 0, .non])) p4 = some (.tup [V.int 0, .non]) := upd_same
  generalize upd X6 p4 (.tup [V.int 0, .non]) = X7 at kp4 gp4 ha4 ⊢
  have ka4 := same_new (o := .lst [V.ref p4]) ha4
  have ga4 : (upd X7 a4 (.lst [V.ref p4])) a4 = some (.lst [V.ref p4]) := upd_same
  generalize upd X7 a4 (.lst [V.ref p4]) = X8 at ka4 ga4 ⊢
  have kk4 := (kk3.trans kp4).trans ka4
  refine ⟨sz2, fun p5 hp5 => ⟨sz1, fun a5 ha5 => ?_⟩⟩
  have kp5 := same_new (o := .tup [V.bl true, .int 0]) hp5
  have gp5 : (upd X8 p5 (.tup [V.bl true, .int 0])) p5 = some (.tup [V.bl true, .int 0]) := upd_same
  generalize upd X8 p5 (.tup [V.bl true, .int 0]) = X9 at kp5 gp5 ha5 ⊢
  have ka5 := same_new (o := .lst [V.ref p5]) ha5
  have ga5 : (upd X9 a5 (.lst [V.ref p5])) a5 = some (.lst [V.ref p5]) := upd_same
  generalize upd X9 a5 (.lst [V.ref p5]) = X10 at ka5 ga5 ⊢
  have kk5 := (kk4.trans kp5).trans ka5
  refine ⟨sz7, fun a6 ha6 => ?_⟩
  have b6 := b5.same kk5
  have n6 := box_ne b6 ha6
  have k6 := same_new (o := .lst [V.non, .int 5, .ref a1, .ref a2, .ref a3, .ref a4, .ref a5]) ha6
  have g6 : (upd X10 a6 (.lst [V.non, .int 5, .ref a1, .ref a2, .ref a3, .ref a4, .ref a5])) a6 = some (.lst [V.non, .int 5, .ref a1, .ref a2, .ref a3, .ref a4, .ref a5]) := upd_same
  generalize upd X10 a6 (.lst [V.non, .int 5, .ref a1, .ref a2, .ref a3, .ref a4, .ref a5]) = X11 at k6 g6 ⊢
  have b11 := b6.same k6
  refine ⟨B, a6, _, rfl, b11, n6, g6, (by show 1 ≤ 7; decide), (by show 7 ≤ 100000; decide), fun z H7 hz s7 b7 => ?_⟩
  have s57 : SameB B H5 H7 := ((SameB.of kk5).same k6).trans s7
  have hs57 := hid_sameB s57
  have lL : (nV log).length = log.length := nV_length log
  have fl : ∀ {a p : Addr} {Y Z : Hp} {o : HO} {q : Addr}, True := fun {a p Y Z o q} => trivial
  have hso : SomeOk K (hidB B H7) S log.length z := by
    have st : ∀ {b : Addr} {Y : Hp} {o : HO}, Same Y X11 → b ≠ B → Y b = some o → (∀ ps, o ≠ .tbl ps) → hidB B H7 b = some o := fun sy nb hy nt => hidB_of nb (s7 _ _ nb (sy _ _ hy)) nt
    rcases List.mem_cons.mp hz with e | hz
    · rw [e]
      exact ⟨.inl rfl, .none, .non, Sh.non.shows, Sh.non.txt⟩
    rcases List.mem_cons.mp hz with e | hz
    · rw [e]
      exact ⟨.inl rfl, .int 5, .int 5, (Sh.int (by decide)).shows, (Sh.int (by decide)).txt⟩
    rcases List.mem_cons.mp hz with e | hz
    · rw [e]
      exact some_lst (st ((((((((kp2.trans ka2).trans kp3).trans ka3).trans kp4).trans ka4).trans kp5).trans ka5).trans k6) (box_ne (b5.same kp1) ha1) ga1 (fun _ z => by cases z)) (st ((ka1.trans (((((((kp2.trans ka2).trans kp3).trans ka3).trans kp4).trans ka4).trans kp5).trans ka5)).trans k6) (box_ne b5 hp1) gp1 (fun _ z => by cases z)) rfl (ShA.cons (Sh.int (by decide)) ShA.nil) (by omega) (.inl (by decide))
    rcases List.mem_cons.mp hz with e | hz
    · rw [e]
      exact some_lst (st ((((((kp3.trans ka3).trans kp4).trans ka4).trans kp5).trans ka5).trans k6) (box_ne ((b5.same kk1).same kp2) ha2) ga2 (fun _ z => by cases z)) (st ((ka2.trans (((((kp3.trans ka3).trans kp4).trans ka4).trans kp5).trans ka5)).trans k6) (box_ne (b5.same kk1) hp2) gp2 (fun _ z => by cases z)) rfl (ShA.cons (Sh.int (by omega)) (ShA.cons (Sh.int (by decide)) ShA.nil)) (by omega) (.inr ⟨_, _, rfl, by unfold below; simp⟩)
    rcases List.mem_cons.mp hz with e | hz
    · rw [e]
      exact some_lst (st ((((kp4.trans ka4).trans kp5).trans ka5).trans k6) (box_ne ((b5.same kk2).same kp3) ha3) ga3 (fun _ z => by cases z)) (st ((ka3.trans (((kp4.trans ka4).trans kp5).trans ka5)).trans k6) (box_ne (b5.same kk2) hp3) gp3 (fun _ z => by cases z)) rfl (ShA.cons (Sh.int (by decide)) (ShA.cons (Sh.int (by omega)) ShA.nil)) (by omega) (.inr ⟨_, _, rfl, by unfold below; rw [lL]; simp⟩)
    rcases List.mem_cons.mp hz with e | hz
    · rw [e]
      exact some_lst (st ((kp5.trans ka5).trans k6) (box_ne ((b5.same kk3).same kp4) ha4) ga4 (fun _ z => by cases z)) (st ((ka4.trans (kp5.trans ka5)).trans k6) (box_ne (b5.same kk3) hp4) gp4 (fun _ z => by cases z)) rfl (ShA.cons (Sh.int (by decide)) (ShA.cons Sh.non ShA.nil)) (by omega) (.inr ⟨_, _, rfl, by unfold below; simp⟩)
    rcases List.mem_cons.mp hz with e | hz
    · rw [e]
      exact some_lst (st k6 (box_ne ((b5.same kk4).same kp5) ha5) ga5 (fun _ z => by cases z)) (st (ka5.trans k6) (box_ne (b5.same kk4) hp5) gp5 (fun _ z => by cases z)) rfl (ShA.cons Sh.bl (ShA.cons (Sh.int (by decide)) ShA.nil)) (by omega) (.inr ⟨_, _, rfl, by unfold below; simp⟩)
    · cases hz
  have T7 := tabsB T5 s57 b5
  refine ⟨T7, fun H8 e8 T8 => ?_⟩
  have b8 := b7.ext e8
  have s58 := hs57.trans (hid_ext (B := B) e8)
  have W8 := W5.same s58
  obtain ⟨F, b, t, fam, good, hF, hcF⟩ := hw5.same s58
  have so8 := hso.same (hid_ext (B := B) e8)
  refine ⟨fw, F, b, t, fam, rfl, hid_sub _ _ hF, _, rfl, hid_sub _ _ hF, hid_sub _ _ hcF, rfl, good _ _ _ z (W8.mach.same hid_sub) (hid_sub _ _ W8.logA) (so8.1.same hid_sub) fun d H9 s9 hd => ?_⟩
  have so9 := so8.same (hid_same (B := B) s9)
  obtain ⟨bc, e, hDp, hSh, hTx⟩ := so9
  refine .inr (.inl ⟨rfl, d, z, e, rfl, hd, dp_same hDp hid_sub, hSh, fun p hp => ?_⟩)
  have k10 := same_new (o := .tup [V.str "copy", .str e.shown, .bl true]) hp
  have g10 : (upd H9 p (.tup [V.str "copy", .str e.shown, .bl true])) p = some (.tup [V.str "copy", .str e.shown, .bl true]) := upd_same
  generalize upd H9 p (.tup [V.str "copy", .str e.shown, .bl true]) = H10 at k10 g10 ⊢
  refine ⟨_, rfl, z, e, rfl, dp_same hDp (hid_sub.trans k10), hSh, sz3, fun q3 hq3 => ?_⟩
  have k11 := same_new (o := .tup [V.str "copy", .str e.shown, .bl true]) hq3
  have shp3 : SeqAt.shaped (.tuple [.str "copy", .str e.shown, .bool true]) = true := lay3 (by unfold PyData.canLay0; exact hTx) (by unfold PyData.depth; decide)
  refine ⟨_, _, .tup (.of (upd_keep hq3 g10)) (.cons (.str _) (.cons (.str _) (.cons (.bl _) .nil))), .tup (.of upd_same) (.cons (.str _) (.cons (.str _) (.cons (.bl _) .nil))), shp3, shp3, _, rfl, ifF ?_ ?_⟩
  · rw [eqv3 (by unfold PyData.eqv; exact beq_self_eq_true _)]
    rfl
  · have s8z := (s9.trans k10).trans k11
    exact ⟨⟨_, _, rfl⟩, (s5.trans s58).trans (hid_same (B := B) s8z), b8.same s8z, tabsS T8 s8z⟩
end
end Ag
set_option Elab.async false
set_option linter.all false
set_option maxRecDepth 100000
set_option maxHeartbeats 4000000
/-! ### the law, whole -/
namespace Ag
open PySem PySem.Spec PyProof.Rows L2 RZ LamX
def spLaw (K : PySem.W.Frag) (Pt : Addr) : Sp := fun vs H Q _ => ∃ (sc : Addr) (ns : List Int), vs = [.ref sc] ∧ SqL K H sc (ns.map V.int) ∧ LamX.Tabs [(Pt, qLam)] H ∧ ∀ H', Q (.bl true) H'
section
variable {P : Program} {w : World} {K : PySem.W.Frag} {mg : Str → Option Value} {base : Heap} {C CA CT CB CL c Pt : Addr} {f : Addr} {dV kV doc pm ct oc : Value} {an od : Option Addr} {osl : Array (Option Value)}
theorem ok_law (L : LawC P w K mg base C CA CT CB CL) (TB : TabB base mg c Pt) (lk : K.lookup f = some ⟨oc, od, .func (PySem.W.fnOf "law" "law" (defArgs sLaw) (defBody sLaw) (defScope sLaw) dV kV doc pm an (.ref c) ct), osl⟩) (hcd : PySem.W.codeIn K (.ref c) "law" = true) :
    KeptG P w K mg base CX0 10 f (PySem.W.fnOf "law" "law" (defArgs sLaw) (defBody sLaw) (defScope sLaw) dV kV doc pm an (.ref c) ct) "_law_script" (spLaw K Pt) := by
  intro A outer s H u v Q E hgs hr0 e0 hb rv h
  refine run_ofS (ps := ["_law_script"]) (us := [u]) lk hcd scLaw hr0 e0 hb (.cons rv .nil) rfl fun hr => ?_
  have Lm : LamC mg base (.ref c) c Pt := ⟨TB, rfl⟩
  have T := L.T
  obtain ⟨tF, pF, rF⟩ := blkF (outer := outer) (H0 := H) (E := E) (f := f) L Lm hgs hr (rest := []) pss_nil
  obtain ⟨tE, pE, rE⟩ := blkE L Lm hgs hr pF
  obtain ⟨tD, pD, rD⟩ := blkD L hgs hr pE
  obtain ⟨tC, pC, rC⟩ := blkC L Lm hgs hr pD
  obtain ⟨tB, pB, rB⟩ := blkB L hr pC
  obtain ⟨tA, pA, rA⟩ := blkA L hr pB
  have pA' : PSs (LX P w K mg base f (.ref c) A outer s H E) lawBody tA := pA
  obtain ⟨sc, ns, ev, hS, hT, q⟩ := h
  cases ev
  refine ⟨_, PSs.nox (pss_cons (ps_for PassesOwn.never rfl (pi_range1 rfl T.range (pa_cons pe_int pa_nil)) (pg_name (i := 1) scLaw.nd rfl (Or.inl rfl)) pA') (pss_one (ps_ret pe_bl))), ?_⟩
  refine ⟨_, rfl, by decide, by decide, for_it walk_range (fun i σ H' => (∃ v1 v2 v3 v4 v5 v6 v7 v8 v9 v10 v11 v12 v13 v14 v15 v16 v17, σ = [some (.ref sc), v1, v2, v3, v4, v5, v6, v7, v8, v9, v10, v11, v12, v13, v14, v15, v16, v17]) ∧ SqL K H' sc (ns.map V.int) ∧ LamX.Tabs [(Pt, qLam)] H')
    ⟨⟨none, none, none, none, none, none, none, none, none, none, none, none, none, none, none, none, none, rfl⟩, hS, hT⟩ (fun _ _ _ _ _ => trivial) ?_ ?_⟩
  rotate_left
  · rintro σ H' ⟨⟨v1, v2, v3, v4, v5, v6, v7, v8, v9, v10, v11, v12, v13, v14, v15, v16, v17, rfl⟩, _, _⟩
    exact q H'
  rintro i x σ HQ H1 hi ⟨⟨v1, v2, v3, v4, v5, v6, v7, v8, v9, v10, v11, v12, v13, v14, v15, v16, v17, rfl⟩, hS1, hT1⟩ ⟨rfl, rfl⟩
  show tA _ [some (.ref sc), some (.int (0 + ((i : Nat) : Int))), v2, v3, v4, v5, v6, v7, v8, v9, v10, v11, v12, v13, v14, v15, v16, v17] H1
  rw [Int.zero_add]
  have hi2 : i ≤ 100 := by
    have : i < (2 : Int).toNat := by simpa using hi
    have : (2 : Int).toNat = 2 := rfl
    omega
  refine rA _ H1 sc i ns [(Pt, qLam)] v2 v3 v4 v5 v6 v7 v8 v9 v10 v11 v12 v13 v14 v15 v16 v17 hS1 hi2 hT1 fun H2 B Ta M L' Cp S tb log cs w7 hB hS2 s2 b2 T2 tab tok mach lg ll ld cp cok cz => ?_
  refine rB _ H2 B Ta M L' Cp S tb log cs [(Pt, qLam)] _ _ _ _ _ _ _ _ _ _ _ _ b2 T2 tab tok mach lg ll ld cp cok cz fun H3 En Du es due s3 W => ?_
  have b3 := b2.same s3
  have T3 := tabsS T2 s3
  refine rC _ H3 B Ta M L' Cp En Du S tb log cs es due _ _ _ _ _ _ _ _ _ _ b3 T3 W fun H4 e4 T4 => ?_
  have b4 := b3.ext e4
  have W4 := W.same (hid_ext (B := B) e4)
  refine rD _ H4 B Ta M L' Cp En Du S tb log cs es due [(Pt, qLam)] _ _ _ _ _ _ _ _ _ _ b4 T4 W4 fun H5 x7 x10 x12 x13 x14 s5 b5 T5 => ?_
  have W5 := W4.same (hid_sameB s5)
  refine rE _ H5 B Ta M L' Cp En Du S tb log cs es due _ _ _ _ _ _ _ _ _ _ b5 T5 W5 fun H6 y13 y15 y16 s6 b6 T6 => ?_
  have W6 := W5.same s6
  refine rF _ H6 B Ta M L' Cp En Du S tb log cs es due _ _ _ _ _ _ _ _ _ _ b6 T6 W6 fun H7 e7 T7 => ?_
  have s27 : Same (hidB B H2) (hidB B H7) := ((((hid_same s3).trans (hid_ext e4)).trans (hid_sameB s5)).trans s6).trans (hid_ext e7)
  exact ⟨⟨_, _, _, _, _, _, _, _, _, _, _, _, _, _, _, _, _, rfl⟩, sqL_same (sqL_same hS2 s27) hid_sub, T7⟩
end
end Ag
set_option Elab.async false
set_option linter.all false
set_option maxRecDepth 100000
set_option maxHeartbeats 0
namespace Ag
open PySem PySem.Spec PyProof.Rows L2
def dsIsInt : He.DefD := ⟨("is_integer", none), "is_integer", "is_integer", defArgs sIsInt, defBody sIsInt, defScope sIsInt, [], []⟩
def dsIsNum : He.DefD := ⟨("is_number", none), "is_number", "is_number", defArgs sIsNum, defBody sIsNum, defScope sIsNum, [], []⟩
def dsIsBelow : He.DefD := ⟨("is_below", none), "is_below", "is_below", defArgs sIsBelow, defBody sIsBelow, defScope sIsBelow, [], []⟩
def dsIsSeq : He.DefD := ⟨("is_sequence", none), "is_sequence", "is_sequence", defArgs sIsSeq, defBody sIsSeq, defScope sIsSeq, [], []⟩
def dsIsTable : He.DefD := ⟨("is_table", none), "is_table", "is_table", defArgs sIsTable, defBody sIsTable, defScope sIsTable, [], []⟩
def dsCheckTables : He.DefD := ⟨("check_tables", none), "check_tables", "check_tables", defArgs sCheckTables, defBody sCheckTables, defScope sCheckTables, [], []⟩
def dsCheckLog : He.DefD := ⟨("check_log", none), "check_log", "check_log", defArgs sCheckLog, defBody sCheckLog, defScope sCheckLog, [], []⟩
def dsBehind : He.DefD := ⟨("behind", none), "behind", "behind", defArgs sBehind, defBody sBehind, defScope sBehind, [], []⟩
def dsCheckCopies : He.DefD := ⟨("check_copies", none), "check_copies", "check_copies", defArgs sCheckCopies, defBody sCheckCopies, defScope sCheckCopies, [], []⟩
def dsIsCopy : He.DefD := ⟨("is_copy", none), "is_copy", "is_copy", defArgs sIsCopy, defBody sIsCopy, defScope sIsCopy, [], []⟩
def dsKeptEnd : He.DefD := ⟨("kept_end", none), "kept_end", "kept_end", defArgs sKeptEnd, defBody sKeptEnd, defScope sKeptEnd, [], []⟩
def dsIsLot : He.DefD := ⟨("is_lot", none), "is_lot", "is_lot", defArgs sIsLot, defBody sIsLot, defScope sIsLot, [], []⟩
def dsKeptRight : He.DefD := ⟨("kept_right", none), "kept_right", "kept_right", defArgs sKeptRight, defBody sKeptRight, defScope sKeptRight, [], []⟩
def dsDueEnds : He.DefD := ⟨("due_ends", none), "due_ends", "due_ends", defArgs sDueEnds, defBody sDueEnds, defScope sDueEnds, [], []⟩
def dsDoesFit : He.DefD := ⟨("does_fit", none), "does_fit", "does_fit", defArgs sDoesFit, defBody sDoesFit, defScope sDoesFit, [], []⟩
def dsFewestTables : He.DefD := ⟨("fewest_tables", none), "fewest_tables", "fewest_tables", defArgs sFewestTables, defBody sFewestTables, defScope sFewestTables, [], []⟩
def dsFewestKept : He.DefD := ⟨("fewest_kept", none), "fewest_kept", "fewest_kept", defArgs sFewestKept, defBody sFewestKept, defScope sFewestKept, [], [("most", .int 20000)]⟩
def dsBox : He.DefD := ⟨("_law_box", none), "_law_box", "_law_box", defArgs sBox, defBody sBox, defScope sBox, [], []⟩
def dsTake : He.DefD := ⟨("_law_take", none), "_law_take", "_law_take", defArgs sTake, defBody sTake, defScope sTake, [], []⟩
def dsPick : He.DefD := ⟨("_law_pick", none), "_law_pick", "_law_pick", defArgs sPick, defBody sPick, defScope sPick, [], []⟩
def dsTables : He.DefD := ⟨("_law_tables", none), "_law_tables", "_law_tables", defArgs sTables, defBody sTables, defScope sTables, [], []⟩
def dsLed : He.DefD := ⟨("_law_led", none), "_law_led", "_law_led", defArgs sLed, defBody sLed, defScope sLed, [], []⟩
def dsLots : He.DefD := ⟨("_law_lots", none), "_law_lots", "_law_lots", defArgs sLots, defBody sLots, defScope sLots, [], []⟩
def dsIsEnough : He.DefD := ⟨("_law_is_enough", none), "_law_is_enough", "_law_is_enough", defArgs sIsEnough, defBody sIsEnough, defScope sIsEnough, [], []⟩
def dsJudged : He.DefD := ⟨("_law_judged", none), "_law_judged", "_law_judged", defArgs sJudged, defBody sJudged, defScope sJudged, [], []⟩
def dsHeard : He.DefD := ⟨("_law_heard", none), "_law_heard", "_law_heard", defArgs sHeard, defBody sHeard, defScope sHeard, [], []⟩
def dsLaw : He.DefD := ⟨("law", none), "law", "law", defArgs sLaw, defBody sLaw, defScope sLaw, [], []⟩
def dsInit : He.DefD := ⟨("Machine", some "__init__"), "__init__", "Machine.__init__", defArgs sInit, defBody sInit, defScope sInit, [], []⟩
def fnL : List He.DefD := [dsIsInt, dsIsNum, dsIsBelow, dsIsSeq, dsIsTable, dsCheckTables, dsCheckLog, dsBehind, dsCheckCopies, dsIsCopy, dsKeptEnd, dsIsLot, dsKeptRight, dsDueEnds, dsDoesFit, dsFewestTables, dsFewestKept, dsBox, dsTake, dsPick, dsTables, dsLed, dsLots, dsIsEnough, dsJudged, dsHeard, dsLaw, dsInit]
def faL : List He.Fa := [.glo "is_integer", .glo "is_number", .glo "is_below", .glo "is_sequence", .glo "is_table", .glo "check_tables", .glo "check_log", .glo "behind", .glo "check_copies", .glo "is_copy", .glo "kept_end", .glo "is_lot", .glo "kept_right", .glo "due_ends", .glo "does_fit", .glo "fewest_tables", .glo "fewest_kept", .glo "_law_box", .glo "_law_take", .glo "_law_pick", .glo "_law_tables", .glo "_law_led", .glo "_law_lots", .glo "_law_is_enough", .glo "_law_judged", .glo "_law_heard", .glo "law", .glo "AgeError", .glo "BadMachine", .glo "BadLog", .glo "BadCopy", .glo "TooGreat", .glo "Machine", .free "isinstance", .free "int", .free "bool", .free "list", .free "tuple", .free "len", .free "all", .free "zip", .free "range", .free "min", .free "repr", .free "sorted", .free "set", .free "abs", .free "enumerate", .free "super", .free "ValueError", .free "str", .int "MOST_DEEDS" 8, .int "MOST_STATES" 12, .int "MOST_LOG" 10000, .cls "Machine", .noat "Machine" "tables", .noat "Machine" "deeds", .noat "Machine" "states", .mkr "Machine", .exm "TooGreat" "TooGreat" true, .exm "BadCopy" "TooGreat" false, .exm "BadCopy" "BadCopy" true, .exm "BadLog" "TooGreat" false, .exm "BadLog" "BadCopy" false, .exm "BadLog" "BadLog" true, .keep "AgeError", .keep "BadMachine", .keep "BadLog", .keep "BadCopy", .keep "TooGreat", .keep "Machine"]
abbrev R : PySem.W.OpenRow := PySem.W.OpenLaw.row PySem.Challenge.rw_agedcopy_k35_whole_deeds_that_can_be_str
/-! ### own exceptions with an __init__ of their own -/
def exOne (K : PySem.W.Frag) (x fld qual : Str) : Bool :=
  He.eqO (PySem.W.findIn K (.ref (He.ga K x)) "__init__") (some (some (.ref (He.ma K (He.ga K x) "__init__")))) &&
  (decide (PySem.W.typeIn K (.ref (He.ma K (He.ga K x) "__init__")) = some (.type "function")) &&
  ((match K.lookup (He.ma K (He.ga K x) "__init__") with
    | some ⟨_, _, .func fd, _⟩ => (match fd.code, fd.closure with
      | .ref cda, [(nm, cc)] => decide (nm = "__class__") && ((match fd.defaults with
        | .none => true
        | _ => false) && (PySem.W.codeIn K (.ref cda) qual && ((match K.lookup cda with
          | some ⟨_, _, .fields vs, _⟩ => (match vs.toList[2]? with
            | some (Value.str file _) => ("/claim/cut.py" : Str) == file
            | _ => false)
          | _ => false) && (match K.lookup cc with
          | some ⟨_, _, .cell (some (.ref c)), _⟩ => decide (c = He.ga K x)
          | _ => false))))
      | _, _ => false)
    | _ => false) &&
  (decide (PySem.W.mroIn K (He.ga K x) (.ref (He.ga K x)) = some true) &&
  (He.eqO (PySem.W.nsIn K cStatics "thirdparty.any") (some none) &&
  (He.eqO (PySem.W.ks_superIn K (He.ga K x) (He.ga K x) "__init__") (some (some (.builtin "ValueError.__init__"))) &&
  (decide (PySem.W.subIn K (.ref (He.ga K x)) (.type "ValueError") = some true) &&
  (He.eqO (PySem.W.findIn K (.ref (He.ga K x)) fld) (some none) &&
  ((match K.lookup (He.ga K x) with
    | some ⟨.type T, _, .cls cd, sl⟩ => decide (T = "type") && (cd.hasDict && (!cd.hasDel && ((match cd.mro with
        | .ref c :: bm => decide (c = He.ga K x) && PySem.HandSPX.refsVE bm
        | _ => false) && (match sl.toList with
        | [_, _, _, _, some (.builtin n), _] => decide (n = "ValueError.__new__")
        | _ => false))))
    | _ => false) &&
  (He.eqO (PySem.W.findIn K (.ref (He.ga K x)) "__setattr__") (some (some (.builtin "object.__setattr__"))) &&
  (decide (PySem.W.subIn K (.ref (He.ga K x)) (.type "BaseException") = some true) &&
  (decide (PySem.W.typeIn K (.ref (He.ga K x)) = some (.type "type")) &&
  PySem.W.keepIn K (.ref (He.ga K x)))))))))))))
/-- isinstance, the fields read back -/
def exTwo (K : PySem.W.Frag) (x : Str) : Bool :=
  decide (PySem.W.kitOne K (.ref (He.ga K x)) (.ref (He.ga K "AgeError")) = some true) && (xfB K (He.ga K x) &&
  (He.eqO (PySem.W.findIn K (.ref (He.ga K x)) "__class__") (some (some (.builtin "object.__class__"))) &&
  (decide (PySem.W.specialIn K (.builtin "object.__class__") "__get__" = some (some (.builtin "getset_descriptor.__get__"))) &&
  (decide (PySem.W.takesIn K (.builtin "object.__class__") = some true) && decide (PySem.W.mroIn K (He.ga K x) (.type "object") = some true)))))
def exB (K : PySem.W.Frag) : Bool := exOne K "BadLog" "at" "BadLog.__init__" && (exOne K "BadCopy" "at" "BadCopy.__init__" && (exOne K "TooGreat" "most" "TooGreat.__init__" && (exOne K "BadMachine" "at" "BadMachine.__init__" && (exTwo K "BadLog" && (exTwo K "BadCopy" && exTwo K "TooGreat")))))
/-! ### the hook: with the statics, and functions that close over their class -/
abbrev XW : Type := Option (Str × Str × Arguments × FuncBody × Scope × Addr × List Str × Addr)
def xW (K : PySem.W.Frag) (x : Str) : XW := match K.lookup (He.ma K (He.ga K x) "__init__") with
  | some ⟨_, _, .func fd, _⟩ => some (fd.name, fd.qualname, fd.params, fd.body, fd.scope, fd.globals, fd.closure.map (·.1), fd.builtins)
  | _ => none
abbrev sXL : Stmt := inClass (top 3) 0
abbrev sXC : Stmt := inClass (top 4) 0
abbrev sXT : Stmt := inClass (top 5) 0
def xVal (st : Stmt) (qual : Str) : XW := some ("__init__", qual, defArgs st, .stmts (defBody st), defScope st, mainGlobals, ["__class__"], builtinsNs)
def kY (g : Addr → Option Obj) : PySem.W.Frag := He.frT g (He.asD g 6 ++ [cStatics])
abbrev tfY : List He.Defn := [("law", none)]
abbrev AlY : Type := He.AlX × List XW
def obsY (g : Addr → Option Obj) : AlY := ((He.obsT faL fnL [] (kY g), exB (kY g) && He.tabsB g tfY (kY g)), [xW (kY g) "BadLog", xW (kY g) "BadCopy", xW (kY g) "TooGreat"])
def valY (w : World) : AlY := (He.valX fnL [] w, [xVal sXL "BadLog.__init__", xVal sXC "BadCopy.__init__", xVal sXT "TooGreat.__init__"])
structure SaysY (w : World) (h : Heap) (K : PySem.W.Frag) : Prop where
  x : He.SaysX faL fnL [] tfY exB w h K
  l : xW K "BadLog" = xVal sXL "BadLog.__init__"
  c : xW K "BadCopy" = xVal sXC "BadCopy.__init__"
  t : xW K "TooGreat" = xVal sXT "TooGreat.__init__"
theorem saysY_of {w : World} {h : Heap} (e : obsY h.get? = valY w) : SaysY w h (kY h.get?) := by
  have e' : ((He.obsT faL fnL [] (kY h.get?), exB (kY h.get?) && He.tabsB h.get? tfY (kY h.get?)), [xW (kY h.get?) "BadLog", xW (kY h.get?) "BadCopy", xW (kY h.get?) "TooGreat"]) = ((He.valT fnL [] w, true), [xVal sXL "BadLog.__init__", xVal sXC "BadCopy.__init__", xVal sXT "TooGreat.__init__"]) := e
  obtain ⟨ea, e3⟩ := Prod.mk.inj e'
  obtain ⟨e1, e2⟩ := Prod.mk.inj ea
  clear e e' ea
  obtain ⟨h1, h2⟩ := He.ba e2
  have key : ∀ p ∈ tfY, PySem.W.codeHdIn (kY h.get?) (He.cT (kY h.get?) p).1 (He.cT (kY h.get?) p).2 = true ∧ ∃ o, h.get? (He.cT (kY h.get?) p).2 = some o ∧ He.emptyTab o = true := fun p hp => by
    obtain ⟨h3, h4⟩ := He.ba (List.all_eq_true.mp h2 p hp)
    refine ⟨h3, ?_⟩
    cases q : h.get? (He.cT (kY h.get?) p).2 with
    | none =>
      rw [q] at h4
      cases h4
    | some o =>
      rw [q] at h4
      exact ⟨o, rfl, h4⟩
  have l1 := (List.cons.inj e3).1
  have e4 := (List.cons.inj e3).2
  have l2 := (List.cons.inj e4).1
  have l3 := (List.cons.inj (List.cons.inj e4).2).1
  exact ⟨⟨e1, h1, fun p hp => (key p hp).1, fun p hp => by
    obtain ⟨_, o, q, z⟩ := key p hp
    exact He.frT_none q z, fun p hp => by
    obtain ⟨_, o, q, z⟩ := key p hp
    rw [q, He.emptyTab_eq z]⟩, l1, l2, l3⟩
def hkY : PySem.W.Hook where
  α := AlY
  obs := fun s => obsY s.heap.get?
  val := fun w => valY w
  says := fun w h => ∃ K : PySem.W.Frag, K.In h ∧ SaysY w h K
  of := fun _ _ e => ⟨_, He.frT_in, saysY_of e⟩
  keeps := fun _ _ _ ⟨K, hK, c⟩ k => ⟨K, PySem.W.Frag.In.keeps hK k, ⟨⟨c.x.t, c.x.more, c.x.hd, c.x.out, fun p hp => k _ _ (c.x.empty p hp)⟩, c.l, c.c, c.t⟩⟩
def ob (s : PySem.W.SharedT) : AlY := obsY (HandSHeadRun.getT s)
theorem ob_eq (s : PySem.W.SharedT) : ob s = hkY.obs s.abs := by
  have e : HandSHeadRun.getT s = s.abs.heap.get? := funext fun a => HandSHeadRun.getT_eq s a
  unfold ob
  rw [e] <;> rfl
def looseA : List Str := [("is_integer" : Str), ("is_number" : Str), ("is_below" : Str), ("is_sequence" : Str), ("is_table" : Str), ("check_tables" : Str), ("check_log" : Str), ("behind" : Str), ("check_copies" : Str), ("is_copy" : Str), ("kept_end" : Str), ("is_lot" : Str), ("kept_right" : Str), ("due_ends" : Str), ("does_fit" : Str), ("fewest_tables" : Str)]
def looseB : List Str := [("fewest_kept" : Str), ("_law_box" : Str), ("_law_take" : Str), ("_law_pick" : Str), ("_law_tables" : Str), ("_law_led" : Str), ("_law_lots" : Str), ("_law_is_enough" : Str), ("_law_judged" : Str), ("_law_heard" : Str), ("AgeError" : Str), ("BadMachine" : Str), ("BadLog" : Str), ("BadCopy" : Str), ("TooGreat" : Str), ("Machine" : Str), ("MOST_DEEDS" : Str), ("MOST_STATES" : Str), ("MOST_LOG" : Str)]
def looseL : List Str := looseA ++ looseB
end Ag
set_option Elab.async false
set_option linter.all false
set_option maxRecDepth 100000
set_option maxHeartbeats 0
namespace Ag
open PySem PySem.Spec PyProof.Rows L2
theorem run (w : World) : HandSHeadRun.RunEq R (PySem.W.view R.prog [41]) hkY ob 4000 looseL w := by
  intro os
  kernel_rfl
end Ag
set_option Elab.async false
set_option linter.all false
set_option maxRecDepth 100000
set_option maxHeartbeats 4000000
namespace Ag
open PySem PySem.Spec PyProof.Rows L2
abbrev PW : Program := PySem.Challenge.pw_agedcopy_k35_whole_deeds_that_can_be_str
theorem oex_of {K : PySem.W.Frag} {x fld qual : Str} (h : exOne K x fld qual = true) : OexC K (He.ga K x) ∧ PySem.W.findIn K (.ref (He.ga K x)) "__init__" = some (some (.ref (He.ma K (He.ga K x) "__init__"))) ∧ PySem.W.typeIn K (.ref (He.ma K (He.ga K x) "__init__")) = some (.type "function") ∧
    PySem.W.mroIn K (He.ga K x) (.ref (He.ga K x)) = some true ∧ PySem.W.nsIn K cStatics "thirdparty.any" = some none ∧ PySem.W.ks_superIn K (He.ga K x) (He.ga K x) "__init__" = some (some (.builtin "ValueError.__init__")) ∧ PySem.W.subIn K (.ref (He.ga K x)) (.type "ValueError") = some true ∧ PySem.W.findIn K (.ref (He.ga K x)) fld = some none := by
  unfold exOne at h
  obtain ⟨h1, h⟩ := He.ba h
  obtain ⟨h2, h⟩ := He.ba h
  obtain ⟨h3, h⟩ := He.ba h
  obtain ⟨h4, h⟩ := He.ba h
  obtain ⟨h5, h⟩ := He.ba h
  obtain ⟨h6, h⟩ := He.ba h
  obtain ⟨h7, h⟩ := He.ba h
  obtain ⟨h8, h⟩ := He.ba h
  obtain ⟨h9, h⟩ := He.ba h
  obtain ⟨h10, h⟩ := He.ba h
  obtain ⟨h11, h⟩ := He.ba h
  obtain ⟨h12, h13⟩ := He.ba h
  refine ⟨⟨?_, He.eqO_ok h10, of_decide_eq_true h11, of_decide_eq_true h12, h13⟩, He.eqO_ok h1, of_decide_eq_true h2, of_decide_eq_true h4, He.eqO_ok h5, He.eqO_ok h6, of_decide_eq_true h7, He.eqO_ok h8⟩
  split at h9
  · rename_i T dd cd sl q
    obtain ⟨a1, h9⟩ := He.ba h9
    obtain ⟨a2, h9⟩ := He.ba h9
    obtain ⟨a3, h9⟩ := He.ba h9
    obtain ⟨a4, a5⟩ := He.ba h9
    have e1 : T = "type" := of_decide_eq_true a1
    subst e1
    obtain ⟨n1, n2, n3, n4, n5, n6, n7, n8, n9, n10, n11⟩ := cd
    have y2 : n6 = true := a2
    have y3 : n11 = false := by
      cases n11 with
      | false => rfl
      | true => cases a3
    subst y2
    subst y3
    split at a4
    · rename_i c bm hbm
      have hbm : n3 = .ref c :: bm := hbm
      obtain ⟨b1, b2⟩ := He.ba a4
      have e2 : c = He.ga K x := of_decide_eq_true b1
      subst e2
      subst hbm
      split at a5
      · rename_i k0 k1 k2 k3 nn k5 hsl
        have e3 : nn = "ValueError.__new__" := of_decide_eq_true a5
        subst e3
        have e4 : sl = #[k0, k1, k2, k3, some (.builtin "ValueError.__new__"), k5] := by
          rw [← Array.toArray_toList (xs := sl), hsl]
        subst e4
        exact ⟨_, _, _, _, _, _, _, _, _, _, _, _, _, _, _, q, b2⟩
      · cases a5
    · cases a4
  · cases h9
end Ag
set_option Elab.async false
set_option linter.all false
set_option maxRecDepth 100000
set_option maxHeartbeats 4000000
namespace Ag
open PySem PySem.Spec PyProof.Rows L2
/-- the function, its code object, its cell -/
theorem ini_of {K : PySem.W.Frag} {x fld qual : Str} {st : Stmt} (h : exOne K x fld qual = true) (hw : xW K x = xVal st qual) :
    ∃ cda cc oc od kV doc pm an ct osl, K.lookup (He.ma K (He.ga K x) "__init__") = some ⟨oc, od, .func (PySem.W.ksFn "__init__" qual (defArgs st) (defBody st) (defScope st) .none kV doc pm an (.ref cda) ct cc), osl⟩ ∧ PySem.W.codeIn K (.ref cda) qual = true ∧
      (∃ ccl cdd vs ccs file tf, K.lookup cda = some ⟨ccl, cdd, .fields vs, ccs⟩ ∧ vs[2]? = some (.str file tf) ∧ ((PW.main.file : Str) == file) = true) ∧ ∃ cl cld csl, K.lookup cc = some ⟨cl, cld, .cell (some (.ref (He.ga K x))), csl⟩ := by
  unfold exOne at h
  obtain ⟨h1, h⟩ := He.ba h
  obtain ⟨h2, h⟩ := He.ba h
  obtain ⟨h3, h⟩ := He.ba h
  clear h h1 h2
  unfold xW at hw
  split at h3
  · rename_i oc od fd osl q
    rw [q] at hw
    obtain ⟨n1, n2, n3, n4, n5, n6, n7, n8, n9, n10, n11, n12, n13, n14, n15⟩ := fd
    have e : (some (n1, n2, n3, n4, n5, n6, n7.map (·.1), n15) : XW) = (some (("__init__" : Str), qual, defArgs st, FuncBody.stmts (defBody st), defScope st, mainGlobals, [("__class__" : Str)], builtinsNs) : XW) := hw
    simp only [Option.some.injEq, Prod.mk.injEq] at e
    obtain ⟨e1, e2, e3, e4, e5, e6, e7, e8⟩ := e
    split at h3
    · rename_i cda nm cc hcd hcl
      have hcd : n13 = .ref cda := hcd
      have hcl : n7 = [(nm, cc)] := hcl
      obtain ⟨a1, h3⟩ := He.ba h3
      obtain ⟨a0, h3⟩ := He.ba h3
      have a0' : n8 = .none := by
        cases n8 with
        | none => rfl
        | _ => cases a0
      obtain ⟨a2, h3⟩ := He.ba h3
      obtain ⟨a3, a4⟩ := He.ba h3
      have a1 : nm = "__class__" := of_decide_eq_true a1
      subst a1 hcd hcl
      subst e1 e2 e3 e4 e5 e6 e8
      subst a0'
      refine ⟨cda, cc, oc, od, n9, n10, n11, n12, n14, osl, q, a2, ?_, ?_⟩
      · split at a3
        · rename_i ccl cdd vs ccs q2
          split at a3
          · rename_i file tf hv
            exact ⟨ccl, cdd, vs, ccs, file, tf, q2, by rw [← Array.getElem?_toList]; exact hv, a3⟩
          · cases a3
        · cases a3
      · split at a4
        · rename_i c q2
          have e : _ = He.ga K x := of_decide_eq_true a4
          rw [e] at q2
          exact ⟨_, _, _, q2⟩
        · cases a4
    · cases h3
  · cases h3
end Ag
set_option Elab.async false
set_option linter.all false
set_option maxRecDepth 100000
set_option maxHeartbeats 4000000
namespace Ag
open PySem PySem.Spec PyProof.Rows L2
theorem xcl_log {K : PySem.W.Frag} {mg : Str → Option Value} (h : exOne K "BadLog" "at" "BadLog.__init__" = true) (hw : xW K "BadLog" = xVal sXL "BadLog.__init__") (hm : mg "BadLog" = some (.ref (He.ga K "BadLog"))) (hs : mg "super" = none) : XCl PW K mg "BadLog" "at" (He.ga K "BadLog") := by
  obtain ⟨O, h1, h2, h4, h5, h6, h7, h8⟩ := oex_of h
  obtain ⟨cda, cc, oc, od, kV, doc, pm, an, ct, osl, lk, cd, file, cell⟩ := ini_of h hw
  refine ⟨O, ⟨_, "BadLog.__init__", "no such log", 0, _, _, _, _, _, _, _, _, _, _, defArgs sXL, defScope sXL, cda, cc, ⟨h1, h2, ⟨oc, od, _, kV, doc, pm, an, ct, osl, lk, fun a b => rfl⟩, cd, file, cell, h4, h5, h6, h7, h8, ⟨_, rfl, rfl⟩, rfl, rfl, rfl, rfl, by decide +kernel, rfl, rfl, rfl, by decide, by decide, fun L => ?_, fun L => rfl, fun L => rfl, fun L => rfl, rfl⟩⟩, hm, hs⟩
  exact ⟨_, rfl⟩
theorem xcl_copy {K : PySem.W.Frag} {mg : Str → Option Value} (h : exOne K "BadCopy" "at" "BadCopy.__init__" = true) (hw : xW K "BadCopy" = xVal sXC "BadCopy.__init__") (hm : mg "BadCopy" = some (.ref (He.ga K "BadCopy"))) (hs : mg "super" = none) : XCl PW K mg "BadCopy" "at" (He.ga K "BadCopy") := by
  obtain ⟨O, h1, h2, h4, h5, h6, h7, h8⟩ := oex_of h
  obtain ⟨cda, cc, oc, od, kV, doc, pm, an, ct, osl, lk, cd, file, cell⟩ := ini_of h hw
  refine ⟨O, ⟨_, "BadCopy.__init__", "no such copy", 0, _, _, _, _, _, _, _, _, _, _, defArgs sXC, defScope sXC, cda, cc, ⟨h1, h2, ⟨oc, od, _, kV, doc, pm, an, ct, osl, lk, fun a b => rfl⟩, cd, file, cell, h4, h5, h6, h7, h8, ⟨_, rfl, rfl⟩, rfl, rfl, rfl, rfl, by decide +kernel, rfl, rfl, rfl, by decide, by decide, fun L => ?_, fun L => rfl, fun L => rfl, fun L => rfl, rfl⟩⟩, hm, hs⟩
  exact ⟨_, rfl⟩
theorem xcl_great {K : PySem.W.Frag} {mg : Str → Option Value} (h : exOne K "TooGreat" "most" "TooGreat.__init__" = true) (hw : xW K "TooGreat" = xVal sXT "TooGreat.__init__") (hm : mg "TooGreat" = some (.ref (He.ga K "TooGreat"))) (hs : mg "super" = none) : XCl PW K mg "TooGreat" "most" (He.ga K "TooGreat") := by
  obtain ⟨O, h1, h2, h4, h5, h6, h7, h8⟩ := oex_of h
  obtain ⟨cda, cc, oc, od, kV, doc, pm, an, ct, osl, lk, cd, file, cell⟩ := ini_of h hw
  refine ⟨O, ⟨_, "TooGreat.__init__", "more than is looked at", 0, _, _, _, _, _, _, _, _, _, _, defArgs sXT, defScope sXT, cda, cc, ⟨h1, h2, ⟨oc, od, _, kV, doc, pm, an, ct, osl, lk, fun a b => rfl⟩, cd, file, cell, h4, h5, h6, h7, h8, ⟨_, rfl, rfl⟩, rfl, rfl, rfl, rfl, by decide +kernel, rfl, rfl, rfl, by decide, by decide, fun L => ?_, fun L => rfl, fun L => rfl, fun L => rfl, rfl⟩⟩, hm, hs⟩
  exact ⟨_, rfl⟩
end Ag
set_option Elab.async false
set_option linter.all false
set_option maxRecDepth 100000
set_option maxHeartbeats 4000000
namespace Ag
open PySem PySem.Spec PyProof.Rows L2
theorem txt_of {w : World} {K : PySem.W.Frag} {h : Heap} {mg : Str → Option Value} (X : K.In h) (G : h.Ns mainGlobals mg) (c : SaysY w h K) : Txt mg := by
  have d := c.x.t.d
  exact ⟨(He.free_ok X G (d.fact 33 (f := .free "isinstance") rfl)), (He.free_ok X G (d.fact 34 (f := .free "int") rfl)), (He.free_ok X G (d.fact 35 (f := .free "bool") rfl)), (He.free_ok X G (d.fact 36 (f := .free "list") rfl)), (He.free_ok X G (d.fact 37 (f := .free "tuple") rfl)), (He.free_ok X G (d.fact 38 (f := .free "len") rfl)), (He.free_ok X G (d.fact 39 (f := .free "all") rfl)), (He.free_ok X G (d.fact 40 (f := .free "zip") rfl)), (He.free_ok X G (d.fact 41 (f := .free "range") rfl)), (He.free_ok X G (d.fact 42 (f := .free "min") rfl)), (He.free_ok X G (d.fact 43 (f := .free "repr") rfl)), (He.free_ok X G (d.fact 44 (f := .free "sorted") rfl)), (He.free_ok X G (d.fact 45 (f := .free "set") rfl)), (He.free_ok X G (d.fact 46 (f := .free "abs") rfl)), (He.free_ok X G (d.fact 47 (f := .free "enumerate") rfl)), (He.free_ok X G (d.fact 48 (f := .free "super") rfl)), (He.free_ok X G (d.fact 49 (f := .free "ValueError") rfl)), (He.int_ok X G (d.fact 51 (f := .int "MOST_DEEDS" 8) rfl)), (He.int_ok X G (d.fact 52 (f := .int "MOST_STATES" 12) rfl)), (He.int_ok X G (d.fact 53 (f := .int "MOST_LOG" 10000) rfl))⟩
theorem mtxt_of {w : World} {K : PySem.W.Frag} {h : Heap} {mg : Str → Option Value} (X : K.In h) (G : h.Ns mainGlobals mg) (c : SaysY w h K) : MTxt K mg (He.ga K "Machine") := by
  have d := c.x.t.d
  exact ⟨He.cls_ok (d.fact 54 (f := .cls "Machine") rfl), He.noat_ok (d.fact 55 (f := .noat "Machine" "tables") rfl), He.noat_ok (d.fact 56 (f := .noat "Machine" "deeds") rfl), He.noat_ok (d.fact 57 (f := .noat "Machine" "states") rfl), (He.glo_ok X G (d.fact 32 (f := .glo "Machine") rfl))⟩
theorem two_ok {K : PySem.W.Frag} {x : Str} (h : exTwo K x = true) : PySem.W.kitOne K (.ref (He.ga K x)) (.ref (He.ga K "AgeError")) = some true ∧ XfC K (He.ga K x) ∧ ExcC K (He.ga K x) := by
  unfold exTwo at h
  obtain ⟨h1, h⟩ := He.ba h
  obtain ⟨h2, h⟩ := He.ba h
  obtain ⟨h3, h⟩ := He.ba h
  obtain ⟨h4, h⟩ := He.ba h
  obtain ⟨h5, h6⟩ := He.ba h
  have xf := xfB_ok h2
  exact ⟨of_decide_eq_true h1, xf, ⟨xf.ga, xf.gg, xf.exC, xf.hdC, He.eqO_ok h3, of_decide_eq_true h4, of_decide_eq_true h5, of_decide_eq_true h6⟩⟩
theorem lawC_of {w : World} {K : PySem.W.Frag} {h : Heap} {mg : Str → Option Value} (X : K.In h) (G : h.Ns mainGlobals mg) (c : SaysY w h K) (base : Heap) : LawC PW w K mg base (He.ga K "Machine") (He.ga K "AgeError") (He.ga K "TooGreat") (He.ga K "BadCopy") (He.ga K "BadLog") := by
  have d := c.x.t.d
  have T := txt_of X G c
  have M := mtxt_of X G c
  have mo : exB K = true := c.x.more
  unfold exB at mo
  obtain ⟨xl, z⟩ := He.ba mo
  obtain ⟨xc, z⟩ := He.ba z
  obtain ⟨xt, z⟩ := He.ba z
  obtain ⟨_, z⟩ := He.ba z
  obtain ⟨yl, z⟩ := He.ba z
  obtain ⟨yc, yt⟩ := He.ba z
  obtain ⟨kl, fl, el⟩ := two_ok yl
  obtain ⟨kc, fc, ec⟩ := two_ok yc
  obtain ⟨kt, ft, et⟩ := two_ok yt
  have XL := xcl_log xl c.l (He.glo_ok X G (d.fact 29 (f := .glo "BadLog") rfl)) T.super
  have XC := xcl_copy xc c.c (He.glo_ok X G (d.fact 30 (f := .glo "BadCopy") rfl)) T.super
  have XT := xcl_great xt c.t (He.glo_ok X G (d.fact 31 (f := .glo "TooGreat") rfl)) T.super
  have nl := (oex_of xl).2.2.2.2.2.2.2
  have nc := (oex_of xc).2.2.2.2.2.2.2
  have nt := (oex_of xt).2.2.2.2.2.2.2
  have EA : ExA K mg (He.ga K "AgeError") (He.ga K "TooGreat") (He.ga K "BadCopy") (He.ga K "BadLog") := ⟨(He.glo_ok X G (d.fact 27 (f := .glo "AgeError") rfl)), (He.glo_ok X G (d.fact 31 (f := .glo "TooGreat") rfl)), (He.glo_ok X G (d.fact 30 (f := .glo "BadCopy") rfl)), (He.glo_ok X G (d.fact 29 (f := .glo "BadLog") rfl)), He.exm_ok (d.fact 59 (f := .exm "TooGreat" "TooGreat" true) rfl), He.exm_ok (d.fact 60 (f := .exm "BadCopy" "TooGreat" false) rfl), He.exm_ok (d.fact 61 (f := .exm "BadCopy" "BadCopy" true) rfl), He.exm_ok (d.fact 62 (f := .exm "BadLog" "TooGreat" false) rfl), He.exm_ok (d.fact 63 (f := .exm "BadLog" "BadCopy" false) rfl), He.exm_ok (d.fact 64 (f := .exm "BadLog" "BadLog" true) rfl), kt, kc, kl, ft, fc, fl, nt, nc, nl, et, ec, el⟩
  obtain ⟨fddsIsInt, FdsIsInt⟩ := (d.def_ 0 (d := dsIsInt) rfl)
  have mdsIsInt := (He.glo_ok X G (d.fact 0 (f := .glo "is_integer") rfl))
  obtain ⟨fddsIsNum, FdsIsNum⟩ := (d.def_ 1 (d := dsIsNum) rfl)
  have mdsIsNum := (He.glo_ok X G (d.fact 1 (f := .glo "is_number") rfl))
  obtain ⟨fddsIsBelow, FdsIsBelow⟩ := (d.def_ 2 (d := dsIsBelow) rfl)
  have mdsIsBelow := (He.glo_ok X G (d.fact 2 (f := .glo "is_below") rfl))
  obtain ⟨fddsIsSeq, FdsIsSeq⟩ := (d.def_ 3 (d := dsIsSeq) rfl)
  have mdsIsSeq := (He.glo_ok X G (d.fact 3 (f := .glo "is_sequence") rfl))
  obtain ⟨fddsIsTable, FdsIsTable⟩ := (d.def_ 4 (d := dsIsTable) rfl)
  have mdsIsTable := (He.glo_ok X G (d.fact 4 (f := .glo "is_table") rfl))
  obtain ⟨fddsCheckTables, FdsCheckTables⟩ := (d.def_ 5 (d := dsCheckTables) rfl)
  have mdsCheckTables := (He.glo_ok X G (d.fact 5 (f := .glo "check_tables") rfl))
  obtain ⟨fddsCheckLog, FdsCheckLog⟩ := (d.def_ 6 (d := dsCheckLog) rfl)
  have mdsCheckLog := (He.glo_ok X G (d.fact 6 (f := .glo "check_log") rfl))
  obtain ⟨fddsBehind, FdsBehind⟩ := (d.def_ 7 (d := dsBehind) rfl)
  have mdsBehind := (He.glo_ok X G (d.fact 7 (f := .glo "behind") rfl))
  obtain ⟨fddsCheckCopies, FdsCheckCopies⟩ := (d.def_ 8 (d := dsCheckCopies) rfl)
  have mdsCheckCopies := (He.glo_ok X G (d.fact 8 (f := .glo "check_copies") rfl))
  obtain ⟨fddsIsCopy, FdsIsCopy⟩ := (d.def_ 9 (d := dsIsCopy) rfl)
  have mdsIsCopy := (He.glo_ok X G (d.fact 9 (f := .glo "is_copy") rfl))
  obtain ⟨fddsKeptEnd, FdsKeptEnd⟩ := (d.def_ 10 (d := dsKeptEnd) rfl)
  have mdsKeptEnd := (He.glo_ok X G (d.fact 10 (f := .glo "kept_end") rfl))
  obtain ⟨fddsIsLot, FdsIsLot⟩ := (d.def_ 11 (d := dsIsLot) rfl)
  have mdsIsLot := (He.glo_ok X G (d.fact 11 (f := .glo "is_lot") rfl))
  obtain ⟨fddsKeptRight, FdsKeptRight⟩ := (d.def_ 12 (d := dsKeptRight) rfl)
  have mdsKeptRight := (He.glo_ok X G (d.fact 12 (f := .glo "kept_right") rfl))
  obtain ⟨fddsDueEnds, FdsDueEnds⟩ := (d.def_ 13 (d := dsDueEnds) rfl)
  have mdsDueEnds := (He.glo_ok X G (d.fact 13 (f := .glo "due_ends") rfl))
  obtain ⟨fddsDoesFit, FdsDoesFit⟩ := (d.def_ 14 (d := dsDoesFit) rfl)
  have mdsDoesFit := (He.glo_ok X G (d.fact 14 (f := .glo "does_fit") rfl))
  obtain ⟨fddsFewestTables, FdsFewestTables⟩ := (d.def_ 15 (d := dsFewestTables) rfl)
  have mdsFewestTables := (He.glo_ok X G (d.fact 15 (f := .glo "fewest_tables") rfl))
  obtain ⟨fddsFewestKept, FdsFewestKept⟩ := (d.def_ 16 (d := dsFewestKept) rfl)
  have mdsFewestKept := (He.glo_ok X G (d.fact 16 (f := .glo "fewest_kept") rfl))
  obtain ⟨fddsBox, FdsBox⟩ := (d.def_ 17 (d := dsBox) rfl)
  have mdsBox := (He.glo_ok X G (d.fact 17 (f := .glo "_law_box") rfl))
  obtain ⟨fddsTake, FdsTake⟩ := (d.def_ 18 (d := dsTake) rfl)
  have mdsTake := (He.glo_ok X G (d.fact 18 (f := .glo "_law_take") rfl))
  obtain ⟨fddsPick, FdsPick⟩ := (d.def_ 19 (d := dsPick) rfl)
  have mdsPick := (He.glo_ok X G (d.fact 19 (f := .glo "_law_pick") rfl))
  obtain ⟨fddsTables, FdsTables⟩ := (d.def_ 20 (d := dsTables) rfl)
  have mdsTables := (He.glo_ok X G (d.fact 20 (f := .glo "_law_tables") rfl))
  obtain ⟨fddsLed, FdsLed⟩ := (d.def_ 21 (d := dsLed) rfl)
  have mdsLed := (He.glo_ok X G (d.fact 21 (f := .glo "_law_led") rfl))
  obtain ⟨fddsLots, FdsLots⟩ := (d.def_ 22 (d := dsLots) rfl)
  have mdsLots := (He.glo_ok X G (d.fact 22 (f := .glo "_law_lots") rfl))
  obtain ⟨fddsIsEnough, FdsIsEnough⟩ := (d.def_ 23 (d := dsIsEnough) rfl)
  have mdsIsEnough := (He.glo_ok X G (d.fact 23 (f := .glo "_law_is_enough") rfl))
  obtain ⟨fddsJudged, FdsJudged⟩ := (d.def_ 24 (d := dsJudged) rfl)
  have mdsJudged := (He.glo_ok X G (d.fact 24 (f := .glo "_law_judged") rfl))
  obtain ⟨fddsHeard, FdsHeard⟩ := (d.def_ 25 (d := dsHeard) rfl)
  have mdsHeard := (He.glo_ok X G (d.fact 25 (f := .glo "_law_heard") rfl))
  obtain ⟨fdI, FI⟩ := (d.def_ 27 (d := dsInit) rfl)
  have isInt := ok_isInt (P := PW) (w := w) (base := base) T FdsIsInt mdsIsInt
  have isNum := ok_isNum isInt FdsIsNum mdsIsNum
  have isBelow := ok_isBelow isNum FdsIsBelow mdsIsBelow
  have isSeq := ok_isSeq (P := PW) (w := w) (base := base) T FdsIsSeq mdsIsSeq
  have beh := ok_behind (P := PW) (w := w) (base := base) FdsBehind mdsBehind
  have led := ok_led (P := PW) (w := w) (base := base) FdsLed mdsLed
  have isTable := ok_isTable T isSeq isBelow FdsIsTable mdsIsTable
  have chT := ok_checkTables T isSeq isTable FdsCheckTables mdsCheckTables
  have chL := ok_checkLog T M XL isSeq isBelow FdsCheckLog mdsCheckLog
  have isCopy := ok_isCopy T M isBelow FdsIsCopy mdsIsCopy
  have chC := ok_checkCopies T M XC isSeq isCopy FdsCheckCopies mdsCheckCopies
  have kEnd := ok_keptEnd M beh FdsKeptEnd mdsKeptEnd
  have isLot := ok_isLot T isSeq isBelow FdsIsLot mdsIsLot
  have kR := ok_keptRight T M chL chC isLot kEnd beh FdsKeptRight mdsKeptRight
  have dE := ok_dueEnds T M beh FdsDueEnds mdsDueEnds
  have fit := ok_fit (P := PW) (w := w) (base := base) T FdsDoesFit mdsDoesFit
  have fT := ok_fewestTables T M XT fit FdsFewestTables mdsFewestTables
  have fK := ok_fewestKept T M chL chC dE fT FdsFewestKept
  have box := ok_box (P := PW) (w := w) (base := base) T FdsBox mdsBox
  have take := ok_take (P := PW) (w := w) (base := base) T FdsTake mdsTake
  have pick := ok_pick T take FdsPick mdsPick
  have tabs := ok_tables T take pick FdsTables mdsTables
  have lots := ok_lots (P := PW) (w := w) (base := base) T FdsLots mdsLots
  have eno := ok_isEnough T led FdsIsEnough mdsIsEnough
  have jud := ok_judged T eno FdsJudged mdsJudged
  have ini := ok_init T M chT FI
  have bI : L2.Binds K fdI ["self", "tables"] [] := FI.bindsN (ps := ["self", "tables"]) fun _ _ _ _ _ _ us hl => match us, hl with | [_, _], _ => rfl
  exact ⟨T, M, EA, box, take, pick, tabs, lots, eno, jud, ⟨_, fdI, He.mkr_ok (d.fact 58 (f := .mkr "Machine") rfl), ini, bI⟩, ⟨_, _, fK, FdsFewestKept, mdsFewestKept⟩, ⟨_, _, kR, FdsKeptRight, mdsKeptRight⟩, ⟨_, _, FdsHeard, mdsHeard⟩⟩
end Ag
set_option Elab.async false
set_option linter.all false
set_option maxRecDepth 100000
set_option maxHeartbeats 0
namespace Ag
open PySem PySem.Spec PyProof.Rows L2 LamX
/-- the law's call at the end of the program's top -/
theorem law_run {w : World} {K : PySem.W.Frag} {s₁ : Shared} {mg mb : Str → Option Value} {fa a : Addr} {us : List Value} {ns : List Int} (X : K.In s₁.heap) (c : SaysY w s₁.heap K) (hm : mg "law" = some (.ref fa))
    (G : s₁.heap.Ns mainGlobals mg) (B : s₁.heap.Ns builtinsNs mb) (hB : ∀ x : Str, x ≠ "__name__" → mb x = bootBuiltins x) (L : s₁.heap.NoLimit) (hg : s₁.gens = #[])
    (hbm : ∃ (bm : Addr) (ob : Obj), mg "__builtins__" = some (.ref bm) ∧ bm ≠ builtinsNs ∧ s₁.heap.get? bm = some ob ∧ ob.cls = .type "module" ∧ ob.dict = some builtinsNs ∧ ob.data = .plain)
    (ha : s₁.heap.get? a = some (scrO us)) (hi : IntsAre us ns) (hl : ns.length ≤ 63) :
    codeAny (model PySem.Challenge.rw_agedcopy_k35_whole_deeds_that_can_be_str.prog w) callerA (.call (.ref fa) ⟨[.ref a], []⟩) (fun r s' => r = .ok (.ret (.bool true)) ∧ OldK s₁.heap s'.heap ∧ s'.os = s₁.os ∧ AllBare s'.gens) s₁ := by
  have d := c.x.t.d
  obtain ⟨fd, F⟩ := d.def_ 26 (d := dsLaw) rfl
  cases hm.symm.trans (He.glo_ok X G (d.fact 26 (f := .glo "law") rfl))
  have hb := FunD.bindsA (ps := ["_law_script"]) F fun _ _ _ _ _ _ us hl => match us, hl with | [_], _ => rfl
  obtain ⟨oc, od, dV, kV, doc, pm, an, cdv, ct, osl, rfl, lk, hcd, hD, hK⟩ := id F.ex
  obtain ⟨cd, rfl⟩ := He.codeIn_ref hcd
  have hc : (He.cT K ("law", none)).1 = cd := He.codeOf_eq (p := ("law", none)) lk rfl
  refine top_call (CX := CX0) (c := (He.cT K ("law", none)).1) (T := (He.cT K ("law", none)).2) (k := 10) (sp := spLaw K (He.cT K ("law", none)).2) X G B hB L hg hbm (c.x.empty _ List.mem_cons_self) (c.x.out _ List.mem_cons_self)
    (PySem.W.codeHd_of_K X (c.x.hd _ List.mem_cons_self)) ha hi (Nat.le_trans hl (by decide)) ⟨rfl, by decide, by decide⟩ (fun base KB GB TB => ?_) (fun s u => hb s [u] rfl) (fun H hH hS => ?_) fun _ _ _ z => z
  · rw [hc] at TB
    exact ok_law (lawC_of X G c base) TB lk hcd
  · exact ⟨a, ns, rfl, hS, fun p hp => by rw [List.mem_singleton.mp hp]; exact TabS.nil hH, fun _ => rfl⟩
end Ag
open PySem PySem.W PySem.Calls PyProof.Rows
theorem PySem.Challenge.cw_agedcopy_k35_whole_deeds_that_can_be_str_holds : PySem.Challenge.rw_agedcopy_k35_whole_deeds_that_can_be_str.Holds := by
  w_on; o_law
  refine HandSHeadRun.head_any (r := OpenLaw.row PySem.Challenge.rw_agedcopy_k35_whole_deeds_that_can_be_str) (q := view (OpenLaw.row PySem.Challenge.rw_agedcopy_k35_whole_deeds_that_can_be_str).prog [41]) (H := Ag.hkY) (ob := Ag.ob) (M := 4000) (loose := Ag.looseL) (d := HandSHeadRun.topDef (OpenLaw.row PySem.Challenge.rw_agedcopy_k35_whole_deeds_that_can_be_str).prog 41) (kwd := []) Ag.ob_eq
    (by kernel_rfl) (fun s => by kernel_rfl) Ag.run (by kernel_rfl) (by kernel_rfl) (by kernel_rfl) (by rfl) (by first | assumption | decide +kernel) (by decide +kernel) ⟨rfl, rfl, rfl, rfl, rfl, by decide +kernel⟩ ?hw ?hc
  case hw => w_witness2
  case hc =>
    refine Att.attach_callB (l := PySem.Challenge.rw_agedcopy_k35_whole_deeds_that_can_be_str) (n := 63) rfl (by kernel_rfl) fun w s₀ s₁ mg mb fa o pm cd doc a us ns G Y _ _ _ hmg0 ha hi hl _ hg => ?_
    obtain ⟨K, KX, c⟩ := Y
    have e : (HandSHeadRun.topDef (OpenLaw.row PySem.Challenge.rw_agedcopy_k35_whole_deeds_that_can_be_str).prog 41).name = ("law" : PySem.Str) := by kernel_rfl
    rw [e] at hmg0
    exact Ag.law_run KX c hmg0 G.T.g G.T.b G.T.builtins G.T.nolimit hg G.T.bmain ha hi hl
