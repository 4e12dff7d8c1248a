import PyProof.Rows.All
import Wide.All
import OpenK.AllK
import Wide.FinOn
import KE.KOpsOwn
import HandS.ForMost
import HandS.OwnEq
import KE.KDictKeyed
import KE.KDictCopyH
import HandS.SetKeys
import KE.GoesNew
import HandS.TupSets
import KE.KDictList
import HandS.TupMul
import HandS.DeepEq
import HandS.DictEq
import KE.KDictWalk
import PyProof.ReprRoads
import HandS.Walk
import HandS.DictComp
import PyProof.Rows.TupDisplay
import HandS.Property
import HandS.Codes
import HandS.IsInst
import HandS.Conv
import HandS.Zip
import HandS.TupAny
import HandS.Star
import HandS.Style
import HandS.Deep
import HandS.WideBits
import PySem.Challenge.RW_whatcounts_k28_whole_least_readers_and_p
/-! ## M1 -/
set_option linter.all false
/-! Plain mathematics: queues that keep first ones, machines, least machines, partings. -/
namespace WC

/-! ### lists -/
theorem snocInd {α : Type} {P : List α → Prop} (h0 : P []) (hs : ∀ l x, P l → P (l ++ [x])) : ∀ l, P l := by
  intro l
  have h : ∀ m : List α, P m.reverse := by
    intro m
    induction m with
    | nil => simpa using h0
    | cons x m ih => rw [List.reverse_cons]; exact hs _ _ ih
  simpa using h l.reverse

theorem nodup_len {α : Type} [DecidableEq α] : ∀ {l S : List α}, l.Nodup → (∀ x ∈ l, x ∈ S) → l.length ≤ S.length
  | [], _, _, _ => Nat.zero_le _
  | x :: l, S, hn, hs => by
    have hx : x ∈ S := hs x List.mem_cons_self
    obtain ⟨hxl, hl⟩ := List.nodup_cons.mp hn
    have h1 : l.length ≤ (S.erase x).length := nodup_len hl fun y hy => by
      have hne : y ≠ x := fun e => hxl (e ▸ hy)
      exact (List.mem_erase_of_ne hne).mpr (hs y (List.mem_cons_of_mem _ hy))
    have h2 : (S.erase x).length = S.length - 1 := List.length_erase_of_mem hx
    have h3 : 0 < S.length := List.length_pos_of_mem hx
    rw [List.length_cons]
    omega

theorem nodup_sub {α : Type} [DecidableEq α] {l S : List α} (hn : l.Nodup) (hs : ∀ x ∈ l, x ∈ S) (hl : S.length ≤ l.length) : ∀ x ∈ S, x ∈ l := by
  intro x hx
  by_cases h : x ∈ l
  · exact h
  · have : (x :: l).length ≤ S.length := nodup_len (List.nodup_cons.mpr ⟨h, hn⟩) fun y hy => by
      rcases List.mem_cons.mp hy with e | hy
      · rw [e]; exact hx
      · exact hs y hy
    rw [List.length_cons] at this
    omega

theorem nodup_lt {l : List Nat} {n : Nat} (hn : l.Nodup) (h : ∀ x ∈ l, x < n) : l.length ≤ n := by
  have := nodup_len (S := List.range n) hn fun x hx => List.mem_range.mpr (h x hx)
  simpa using this

section bfs
variable {ι α : Type} [DecidableEq α]
/-- x behind q, if its key is new -/
def push (κ : ι → α) (q : List ι) (x : ι) : List ι := if κ x ∈ q.map κ then q else q ++ [x]
def pushs (κ : ι → α) (q xs : List ι) : List ι := xs.foldl (push κ) q
def bq (κ : ι → α) (sc : ι → List ι) (x0 : ι) : Nat → List ι
  | 0 => [x0]
  | k + 1 => match (bq κ sc x0 k)[k]? with
    | some x => pushs κ (bq κ sc x0 k) (sc x)
    | none => bq κ sc x0 k

variable {κ : ι → α} {sc : ι → List ι} {x0 : ι}
theorem push_old {q : List ι} {x : ι} (h : κ x ∈ q.map κ) : push κ q x = q := if_pos h
theorem push_new {q : List ι} {x : ι} (h : κ x ∉ q.map κ) : push κ q x = q ++ [x] := if_neg h
theorem push_pre (q : List ι) (x : ι) : q <+: push κ q x := by
  unfold push
  split
  · exact List.prefix_refl _
  · exact List.prefix_append _ _
theorem pushs_nil (q : List ι) : pushs κ q [] = q := rfl
theorem pushs_cons (q : List ι) (x : ι) (xs : List ι) : pushs κ q (x :: xs) = pushs κ (push κ q x) xs := rfl
theorem pushs_append (q xs ys : List ι) : pushs κ q (xs ++ ys) = pushs κ (pushs κ q xs) ys := List.foldl_append
theorem pushs_snoc (q xs : List ι) (x : ι) : pushs κ q (xs ++ [x]) = push κ (pushs κ q xs) x := by rw [pushs_append]; rfl
theorem pushs_pre : ∀ (xs q : List ι), q <+: pushs κ q xs
  | [], q => List.prefix_refl _
  | x :: xs, q => (push_pre q x).trans (pushs_pre xs (push κ q x))
theorem key_push {q : List ι} {x : ι} {a : α} : a ∈ (push κ q x).map κ ↔ a ∈ q.map κ ∨ a = κ x := by
  by_cases h : κ x ∈ q.map κ
  · rw [push_old h]
    constructor
    · exact .inl
    · rintro (h' | rfl)
      · exact h'
      · exact h
  · rw [push_new h, List.map_append, List.mem_append, List.map_singleton, List.mem_singleton]
theorem key_pushs {a : α} : ∀ {xs q : List ι}, a ∈ (pushs κ q xs).map κ ↔ a ∈ q.map κ ∨ a ∈ xs.map κ
  | [], q => by rw [pushs_nil]; simp
  | x :: xs, q => by
    rw [pushs_cons, key_pushs, key_push, List.map_cons, List.mem_cons]
    constructor
    · rintro ((h | h) | h)
      · exact .inl h
      · exact .inr (.inl h)
      · exact .inr (.inr h)
    · rintro (h | h | h)
      · exact .inl (.inl h)
      · exact .inl (.inr h)
      · exact .inr h
theorem mem_push {q : List ι} {x y : ι} (h : y ∈ push κ q x) : y ∈ q ∨ y = x := by
  unfold push at h
  split at h
  · exact .inl h
  · rcases List.mem_append.mp h with h | h
    · exact .inl h
    · exact .inr (List.mem_singleton.mp h)
theorem mem_pushs {y : ι} : ∀ {xs q : List ι}, y ∈ pushs κ q xs → y ∈ q ∨ y ∈ xs
  | [], q, h => .inl h
  | x :: xs, q, h => by
    rw [pushs_cons] at h
    rcases mem_pushs h with h | h
    · rcases mem_push h with h | h
      · exact .inl h
      · exact .inr (h ▸ List.mem_cons_self)
    · exact .inr (List.mem_cons_of_mem _ h)
theorem nodup_push {q : List ι} {x : ι} (h : (q.map κ).Nodup) : ((push κ q x).map κ).Nodup := by
  by_cases hx : κ x ∈ q.map κ
  · rw [push_old hx]; exact h
  · rw [push_new hx, List.map_append, List.map_singleton]
    refine List.nodup_append.mpr ⟨h, by simp, fun a ha b hb => ?_⟩
    rw [List.mem_singleton.mp hb]
    rintro rfl
    exact hx ha
theorem nodup_pushs : ∀ {xs q : List ι}, (q.map κ).Nodup → ((pushs κ q xs).map κ).Nodup
  | [], _, h => h
  | _ :: xs, _, h => nodup_pushs (xs := xs) (nodup_push h)
theorem pushs_old : ∀ {xs q : List ι}, (∀ x ∈ xs, κ x ∈ q.map κ) → pushs κ q xs = q
  | [], _, _ => rfl
  | x :: xs, q, h => by
    rw [pushs_cons, push_old (h x List.mem_cons_self)]
    exact pushs_old fun y hy => h y (List.mem_cons_of_mem _ hy)
/-- keys that tell the same apart push the same -/
theorem pushs_congr {β : Type} [DecidableEq β] {κ' : ι → β} : ∀ {xs q : List ι}, (∀ x ∈ q ++ xs, ∀ y ∈ q ++ xs, κ x = κ y ↔ κ' x = κ' y) → pushs κ q xs = pushs κ' q xs
  | [], _, _ => rfl
  | x :: xs, q, h => by
    have e : push κ q x = push κ' q x := by
      have hx : x ∈ q ++ x :: xs := List.mem_append_right _ List.mem_cons_self
      by_cases hk : κ x ∈ q.map κ
      · rw [push_old hk]
        obtain ⟨y, hy, e⟩ := List.mem_map.mp hk
        rw [push_old (List.mem_map.mpr ⟨y, hy, (h y (List.mem_append_left _ hy) x hx).mp e⟩)]
      · rw [push_new hk, push_new fun hk' => ?_]
        obtain ⟨y, hy, e⟩ := List.mem_map.mp hk'
        exact hk (List.mem_map.mpr ⟨y, hy, (h y (List.mem_append_left _ hy) x hx).mpr e⟩)
    rw [pushs_cons, pushs_cons, ← e]
    refine pushs_congr fun a ha b hb => ?_
    have sub : ∀ a, a ∈ push κ q x ++ xs → a ∈ q ++ x :: xs := fun a ha => by
      rcases List.mem_append.mp ha with ha | ha
      · rcases mem_push ha with ha | ha
        · exact List.mem_append_left _ ha
        · exact List.mem_append_right _ (ha ▸ List.mem_cons_self)
      · exact List.mem_append_right _ (List.mem_cons_of_mem _ ha)
    exact h a (sub a ha) b (sub b hb)
/-- an image of a queue by a map of the keys -/
theorem pushs_map {ι' β : Type} [DecidableEq β] {κ' : ι' → β} (f : ι → ι') (hf : ∀ x y, κ x = κ y ↔ κ' (f x) = κ' (f y)) : ∀ {xs q : List ι}, (pushs κ q xs).map f = pushs κ' (q.map f) (xs.map f)
  | [], _ => rfl
  | x :: xs, q => by
    have e : (push κ q x).map f = push κ' (q.map f) (f x) := by
      by_cases hk : κ x ∈ q.map κ
      · rw [push_old hk]
        obtain ⟨y, hy, e⟩ := List.mem_map.mp hk
        rw [push_old (List.mem_map.mpr ⟨f y, List.mem_map.mpr ⟨y, hy, rfl⟩, (hf y x).mp e⟩)]
      · rw [push_new hk, push_new fun hk' => ?_]
        · rw [List.map_append, List.map_singleton]
        · obtain ⟨z, hz, e⟩ := List.mem_map.mp hk'
          obtain ⟨y, hy, rfl⟩ := List.mem_map.mp hz
          exact hk (List.mem_map.mpr ⟨y, hy, (hf y x).mpr e⟩)
    rw [pushs_cons, List.map_cons, pushs_cons, ← e]
    exact pushs_map f hf

/-! ### the queue -/
theorem bq_some {k : Nat} {x : ι} (h : (bq κ sc x0 k)[k]? = some x) : bq κ sc x0 (k + 1) = pushs κ (bq κ sc x0 k) (sc x) := by
  show (match (bq κ sc x0 k)[k]? with | some x => pushs κ (bq κ sc x0 k) (sc x) | none => bq κ sc x0 k) = _
  rw [h]
theorem bq_none {k : Nat} (h : (bq κ sc x0 k).length ≤ k) : bq κ sc x0 (k + 1) = bq κ sc x0 k := by
  show (match (bq κ sc x0 k)[k]? with | some x => pushs κ (bq κ sc x0 k) (sc x) | none => bq κ sc x0 k) = _
  rw [List.getElem?_eq_none h]
theorem bq_pre1 (k : Nat) : bq κ sc x0 k <+: bq κ sc x0 (k + 1) := by
  by_cases h : k < (bq κ sc x0 k).length
  · rw [bq_some (List.getElem?_eq_getElem h)]
    exact pushs_pre _ _
  · rw [bq_none (by omega)]
    exact List.prefix_refl _
theorem bq_pre (k : Nat) : ∀ j, bq κ sc x0 k <+: bq κ sc x0 (k + j)
  | 0 => List.prefix_refl _
  | j + 1 => (bq_pre k j).trans (bq_pre1 (k + j))
theorem bq_done {k : Nat} (h : (bq κ sc x0 k).length ≤ k) : ∀ j, bq κ sc x0 (k + j) = bq κ sc x0 k
  | 0 => rfl
  | j + 1 => by
    have e := bq_done h j
    show bq κ sc x0 (k + j + 1) = _
    rw [bq_none (by rw [e]; omega), e]
theorem bq_fin {k k' : Nat} (h : (bq κ sc x0 k).length ≤ k) (h' : (bq κ sc x0 k').length ≤ k') : bq κ sc x0 k = bq κ sc x0 k' := by
  rcases Nat.le_total k k' with e | e
  · obtain ⟨j, rfl⟩ := Nat.exists_eq_add_of_le e
    exact (bq_done h j).symm
  · obtain ⟨j, rfl⟩ := Nat.exists_eq_add_of_le e
    exact bq_done h' j
theorem bq_nodup : ∀ k, ((bq κ sc x0 k).map κ).Nodup
  | 0 => by simp [bq]
  | k + 1 => by
    by_cases h : k < (bq κ sc x0 k).length
    · rw [bq_some (List.getElem?_eq_getElem h)]
      exact nodup_pushs (bq_nodup k)
    · rw [bq_none (by omega)]
      exact bq_nodup k
theorem bq_head (k : Nat) : (bq κ sc x0 k)[0]? = some x0 := by
  obtain ⟨t, e⟩ := bq_pre (κ := κ) (sc := sc) (x0 := x0) 0 k
  rw [Nat.zero_add] at e
  rw [← e]
  rfl
theorem bq_pos (k : Nat) : 0 < (bq κ sc x0 k).length := (List.getElem?_eq_some_iff.mp (bq_head k)).1
theorem bq_inv {P : ι → Prop} (h0 : P x0) (hs : ∀ x, P x → ∀ y ∈ sc x, P y) : ∀ k, ∀ x ∈ bq κ sc x0 k, P x
  | 0, x, hx => by rw [List.mem_singleton.mp hx]; exact h0
  | k + 1, x, hx => by
    by_cases h : k < (bq κ sc x0 k).length
    · rw [bq_some (List.getElem?_eq_getElem h)] at hx
      rcases mem_pushs hx with hx | hx
      · exact bq_inv h0 hs k x hx
      · exact hs _ (bq_inv h0 hs k _ (List.getElem_mem h)) x hx
    · rw [bq_none (by omega)] at hx
      exact bq_inv h0 hs k x hx
theorem bq_closed : ∀ (k i : Nat), i < k → ∀ x, (bq κ sc x0 k)[i]? = some x → ∀ y ∈ sc x, κ y ∈ (bq κ sc x0 k).map κ
  | 0, i, hi, _, _, _, _ => absurd hi (Nat.not_lt_zero _)
  | k + 1, i, hi, x, hx, y, hy => by
    have up : ∀ a, a ∈ (bq κ sc x0 k).map κ → a ∈ (bq κ sc x0 (k + 1)).map κ := fun a ha => by
      obtain ⟨t, e⟩ := bq_pre1 (κ := κ) (sc := sc) (x0 := x0) k
      rw [← e, List.map_append]
      exact List.mem_append_left _ ha
    by_cases h : k < (bq κ sc x0 k).length
    · have hg : i < (bq κ sc x0 k).length := by omega
      have hx' : (bq κ sc x0 k)[i]? = some x := by
        obtain ⟨t, e⟩ := bq_pre1 (κ := κ) (sc := sc) (x0 := x0) k
        rw [← e, List.getElem?_append_left hg] at hx
        exact hx
      by_cases hik : i < k
      · exact up _ (bq_closed k i hik x hx' y hy)
      · have e : i = k := by omega
        subst e
        rw [bq_some hx']
        exact key_pushs.mpr (.inr (List.mem_map.mpr ⟨y, hy, rfl⟩))
    · rw [bq_none (by omega)] at hx ⊢
      have hg := (List.getElem?_eq_some_iff.mp hx).1
      exact bq_closed k i (by omega) x hx y hy
/-- at the end the queue is closed -/
theorem bq_end {k : Nat} (h : (bq κ sc x0 k).length ≤ k) : ∀ x ∈ bq κ sc x0 k, ∀ y ∈ sc x, κ y ∈ (bq κ sc x0 k).map κ := fun x hx y hy => by
  obtain ⟨i, hi, e⟩ := List.getElem_of_mem hx
  exact bq_closed k i (by omega) x (by rw [List.getElem?_eq_getElem hi, e]) y hy
/-- an image of the whole queue -/
theorem bq_map {ι' β : Type} [DecidableEq β] {κ' : ι' → β} {sc' : ι' → List ι'} (f : ι → ι') (hf : ∀ x y, κ x = κ y ↔ κ' (f x) = κ' (f y)) (hs : ∀ x, sc' (f x) = (sc x).map f) : ∀ k, (bq κ sc x0 k).map f = bq κ' sc' (f x0) k
  | 0 => rfl
  | k + 1 => by
    have ih := bq_map f hf hs k
    by_cases h : k < (bq κ sc x0 k).length
    · have e : (bq κ' sc' (f x0) k)[k]? = some (f (bq κ sc x0 k)[k]) := by
        rw [← ih, List.getElem?_map, List.getElem?_eq_getElem h]
        rfl
      rw [bq_some (List.getElem?_eq_getElem h), bq_some e, hs, ← ih]
      exact pushs_map f hf
    · have e : (bq κ' sc' (f x0) k).length ≤ k := by rw [← ih, List.length_map]; omega
      rw [bq_none (by omega), bq_none e, ih]
end bfs

/-! ### first ones -/
section dd
variable {α : Type} [DecidableEq α]
/-- each item once, where it first stands -/
def dd (xs : List α) : List α := pushs id [] xs
theorem mem_dd {x : α} {xs : List α} : x ∈ dd xs ↔ x ∈ xs := by
  have h := key_pushs (κ := (id : α → α)) (a := x) (xs := xs) (q := [])
  simpa [dd] using h
theorem nodup_dd (xs : List α) : (dd xs).Nodup := by
  have h := nodup_pushs (κ := (id : α → α)) (xs := xs) (q := []) (by simp)
  simpa [dd] using h
theorem dd_snoc (xs : List α) (x : α) : dd (xs ++ [x]) = push id (dd xs) x := pushs_snoc _ _ _
theorem dd_append (xs ys : List α) : dd (xs ++ ys) = pushs id (dd xs) ys := pushs_append _ _ _
theorem dd_nodup {xs : List α} : xs.Nodup → dd xs = xs := by
  refine snocInd (P := fun xs => xs.Nodup → dd xs = xs) (fun _ => rfl) (fun l x ih h => ?_) xs
  obtain ⟨h1, _, h3⟩ := List.nodup_append.mp h
  rw [dd_snoc, ih h1, push_new]
  simp only [List.map_id, id]
  exact fun hx => h3 x hx x (List.mem_singleton.mpr rfl) rfl
theorem dd_pre {xs ys : List α} (h : xs <+: ys) : dd xs <+: dd ys := by
  obtain ⟨t, rfl⟩ := h
  rw [dd_append]
  exact pushs_pre _ _
/-- representatives: the first x of each value of f -/
theorem dd_reps {ι : Type} {f : ι → α} (xs : List ι) : (pushs f [] xs).map f = dd (xs.map f) := by
  refine snocInd (P := fun xs => (pushs f [] xs).map f = dd (xs.map f)) rfl (fun l x ih => ?_) xs
  rw [pushs_snoc, List.map_append, List.map_singleton, dd_snoc, ← ih]
  by_cases h : f x ∈ (pushs f [] l).map f
  · rw [push_old h, push_old (by simpa using h)]
  · rw [push_new h, push_new (by simpa using h), List.map_append, List.map_singleton]
theorem dd_map_push {β : Type} [DecidableEq β] (f : α → β) (q : List α) (x : α) : dd ((push id q x).map f) = push id (dd (q.map f)) (f x) := by
  by_cases h : x ∈ q
  · rw [push_old (by simpa using h), push_old]
    simp only [List.map_id, id]
    exact mem_dd.mpr (List.mem_map.mpr ⟨x, h, rfl⟩)
  · rw [push_new (by simpa using h), List.map_append, List.map_singleton, dd_snoc]
theorem dd_map_pushs {β : Type} [DecidableEq β] (f : α → β) : ∀ (xs q : List α), dd ((pushs id q xs).map f) = pushs id (dd (q.map f)) (xs.map f)
  | [], _ => rfl
  | x :: xs, q => by
    rw [pushs_cons, List.map_cons, pushs_cons, dd_map_pushs f xs, dd_map_push]
/-- the number of the items that differ -/
theorem idx_dd {ι : Type} {β : Type} [DecidableEq β] {f : ι → α} {g : ι → β} {xs : List ι} (h : ∀ x ∈ xs, ∀ y ∈ xs, f x = f y ↔ g x = g y) : (dd (xs.map f)).length = (dd (xs.map g)).length ∧ ∀ x ∈ xs, (dd (xs.map f)).idxOf (f x) = (dd (xs.map g)).idxOf (g x) := by
  have e : pushs f [] xs = pushs g [] xs := pushs_congr (by simpa using h)
  have sub : ∀ y ∈ pushs f [] xs, y ∈ xs := fun y hy => by
    rcases mem_pushs hy with hy | hy
    · cases hy
    · exact hy
  rw [← dd_reps, ← dd_reps, ← e]
  refine ⟨by simp, fun x hx => ?_⟩
  generalize pushs f [] xs = r at sub
  clear e
  induction r with
  | nil => rfl
  | cons y r ih =>
    rw [List.map_cons, List.map_cons, List.idxOf_cons, List.idxOf_cons, ih fun z hz => sub z (List.mem_cons_of_mem _ hz)]
    have hy := h y (sub y List.mem_cons_self) x hx
    by_cases e : f y = f x
    · rw [show (f y == f x) = true from beq_iff_eq.mpr e, show (g y == g x) = true from beq_iff_eq.mpr (hy.mp e)]
    · rw [show (f y == f x) = false from beq_eq_false_iff_ne.mpr e, show (g y == g x) = false from beq_eq_false_iff_ne.mpr fun q => e (hy.mpr q)]
end dd

/-! ### an image that puts states together -/
section hom
variable {α β : Type} [DecidableEq α] [DecidableEq β] {sc : α → List α} {sc' : β → List β} {x0 : α} (f : α → β)
theorem bq_hom (hs : ∀ x, sc' (f x) = (sc x).map f) : ∀ k, dd ((bq id sc x0 k).map f) = bq id sc' (f x0) (dd (((bq id sc x0 k).take k).map f)).length
  | 0 => rfl
  | k + 1 => by
    have ih := bq_hom hs k
    by_cases h : k < (bq id sc x0 k).length
    · have hq := bq_some (κ := (id : α → α)) (sc := sc) (x0 := x0) (List.getElem?_eq_getElem h)
      have ht : (bq id sc x0 (k + 1)).take (k + 1) = (bq id sc x0 k).take k ++ [(bq id sc x0 k)[k]] := by
        obtain ⟨t, e⟩ := bq_pre1 (κ := (id : α → α)) (sc := sc) (x0 := x0) k
        rw [← e, List.take_append_of_le_length (by omega), List.take_add_one, List.getElem?_eq_getElem h]
        rfl
      have hd : dd ((bq id sc x0 k).map f) = pushs id (dd (((bq id sc x0 k).take k ++ [(bq id sc x0 k)[k]]).map f)) (((bq id sc x0 k).drop (k + 1)).map f) := by
        rw [← dd_append, ← List.map_append]
        congr 2
        rw [List.append_assoc, List.singleton_append, List.getElem_cons_drop, List.take_append_drop]
      rw [ht, hq, dd_map_pushs, List.map_append, List.map_singleton, dd_snoc]
      generalize hx : (bq id sc x0 k)[k] = x at *
      by_cases hin : f x ∈ dd (((bq id sc x0 k).take k).map f)
      · rw [push_old (by simpa using hin), ← ih]
        refine pushs_old fun y hy => ?_
        simp only [List.map_id, id]
        obtain ⟨z, hz, e⟩ := List.mem_map.mp (mem_dd.mp hin)
        rw [← hs, ← e, hs] at hy
        obtain ⟨u, hu, rfl⟩ := List.mem_map.mp hy
        obtain ⟨i, hi, e2⟩ := List.getElem_of_mem hz
        rw [List.length_take] at hi
        rw [List.getElem_take] at e2
        have cl := bq_closed (κ := (id : α → α)) (sc := sc) (x0 := x0) k i (by omega) z (by rw [List.getElem?_eq_getElem (by omega), e2]) u hu
        simp only [List.map_id, id] at cl
        exact mem_dd.mpr (List.mem_map.mpr ⟨u, cl, rfl⟩)
      · rw [push_new (by simpa using hin), List.length_append, List.length_singleton]
        have hg : (bq id sc' (f x0) (dd (((bq id sc x0 k).take k).map f)).length)[(dd (((bq id sc x0 k).take k).map f)).length]? = some (f x) := by
          rw [← ih, hd, List.map_append, List.map_singleton, dd_snoc, push_new (by simpa using hin)]
          obtain ⟨t, e⟩ := pushs_pre (κ := (id : β → β)) (((bq id sc x0 k).drop (k + 1)).map f) (dd (((bq id sc x0 k).take k).map f) ++ [f x])
          rw [← e, List.append_assoc, List.getElem?_append_right (Nat.le_refl _), Nat.sub_self]
          rfl
        rw [bq_some hg, ← ih, hs]
    · have e := bq_none (κ := (id : α → α)) (sc := sc) (x0 := x0) (k := k) (by omega)
      rw [e, List.take_of_length_le (by omega)]
      rw [List.take_of_length_le (by omega)] at ih
      exact ih
theorem bq_hom_end (hs : ∀ x, sc' (f x) = (sc x).map f) {k : Nat} (h : (bq id sc x0 k).length ≤ k) : dd ((bq id sc x0 k).map f) = bq id sc' (f x0) (dd ((bq id sc x0 k).map f)).length ∧ (bq id sc' (f x0) (dd ((bq id sc x0 k).map f)).length).length ≤ (dd ((bq id sc x0 k).map f)).length := by
  have e := bq_hom (x0 := x0) f hs k
  rw [List.take_of_length_le h] at e
  exact ⟨e, by rw [← e]; exact Nat.le_refl _⟩
end hom
end WC

/-! ## M2 -/
set_option linter.all false
/-! Plain mathematics: machines, languages, the least machine in one canonical form. -/
namespace WC
abbrev Lang := List Nat → Bool
noncomputable instance : DecidableEq Lang := fun a b => Classical.propDecidable (a = b)
/-- rows of states by letter; the states that answer yes -/
structure Mch where
  ways : List (List Nat)
  good : List Nat
  deriving DecidableEq
namespace Mch
def k (M : Mch) : Nat := M.ways.length
def n (M : Mch) : Nat := (M.ways.headD []).length
/-- a letter that there isn't moves nothing -/
def d (M : Mch) (a s : Nat) : Nat := match M.ways[a]? with
  | some r => r.getD s 0
  | none => s
def ok (M : Mch) (s : Nat) : Bool := M.good.contains s
def sc (M : Mch) (s : Nat) : List Nat := M.ways.map fun r => r.getD s 0
def run (M : Mch) (s : Nat) : List Nat → Nat
  | [] => s
  | a :: w => run M (M.d a s) w
def L (M : Mch) (s : Nat) : Lang := fun w => M.ok (M.run s w)
structure WF (M : Mch) : Prop where
  k0 : 0 < M.k
  row : ∀ r ∈ M.ways, r.length = M.n
  lt : ∀ r ∈ M.ways, ∀ x ∈ r, x < M.n
  n0 : 0 < M.n
  asc : M.good.Pairwise (· < ·)
  glt : ∀ g ∈ M.good, g < M.n
end Mch
def deriv (a : Nat) (l : Lang) : Lang := fun w => l (a :: w)
theorem L_d (M : Mch) (a s : Nat) : M.L (M.d a s) = deriv a (M.L s) := rfl
theorem L_nil (M : Mch) (s : Nat) : M.L s [] = M.ok s := rfl
theorem ok_iff {M : Mch} {s : Nat} : M.ok s = true ↔ s ∈ M.good := by unfold Mch.ok; exact List.contains_iff_mem
theorem run_append (M : Mch) (s : Nat) (w v : List Nat) : M.run s (w ++ v) = M.run (M.run s w) v := by
  induction w generalizing s with
  | nil => rfl
  | cons a w ih => exact ih _
theorem run_snoc (M : Mch) (s : Nat) (w : List Nat) (a : Nat) : M.run s (w ++ [a]) = M.d a (M.run s w) := by rw [run_append]; rfl
theorem d_some {M : Mch} {a : Nat} {r : List Nat} (h : M.ways[a]? = some r) (s : Nat) : M.d a s = r.getD s 0 := by unfold Mch.d; rw [h]
theorem sc_range (M : Mch) (s : Nat) : M.sc s = (List.range M.k).map fun a => M.d a s := by
  refine List.ext_getElem (by simp [Mch.sc, Mch.k]) fun i h1 h2 => ?_
  simp only [Mch.sc, List.length_map] at h1
  simp only [Mch.sc, List.getElem_map, List.getElem_range]
  rw [d_some (List.getElem?_eq_getElem h1)]
theorem getD_lt {r : List Nat} {n s : Nat} (h : ∀ x ∈ r, x < n) (h0 : 0 < n) : r.getD s 0 < n := by
  rw [List.getD_eq_getElem?_getD]
  by_cases hs : s < r.length
  · rw [List.getElem?_eq_getElem hs]
    exact h _ (List.getElem_mem hs)
  · rw [List.getElem?_eq_none (by omega)]
    exact h0
section
variable {M : Mch} (W : M.WF)
include W
theorem d_lt {a s : Nat} (hs : s < M.n) : M.d a s < M.n := by
  unfold Mch.d
  split
  · rename_i r h
    exact getD_lt (W.lt r (List.mem_of_getElem? h)) W.n0
  · exact hs
theorem sc_lt {s : Nat} : ∀ y ∈ M.sc s, y < M.n := fun y hy => by
  obtain ⟨r, hr, rfl⟩ := List.mem_map.mp hy
  exact getD_lt (W.lt r hr) W.n0
theorem run_lt {s : Nat} (hs : s < M.n) (w : List Nat) : M.run s w < M.n := by
  induction w generalizing s with
  | nil => exact hs
  | cons a w ih => exact ih (d_lt W hs)
end

/-! ### the states that are reached, by the order of first texts -/
namespace Mch
def bfs (M : Mch) (s0 : Nat) : List Nat := bq id M.sc s0 M.n
/-- the machine of the states of O, numbered by their places -/
def rel (M : Mch) (O : List Nat) : Mch := { ways := M.ways.map fun r => O.map fun s => O.idxOf (r.getD s 0), good := (O.filter fun s => M.good.contains s).map fun s => O.idxOf s }
end Mch
/-- what a queue of states is -/
structure Ord (M : Mch) (s0 : Nat) (O : List Nat) : Prop where
  nodup : O.Nodup
  lt : ∀ x ∈ O, x < M.n
  head : O[0]? = some s0
  closed : ∀ x ∈ O, ∀ y ∈ M.sc x, y ∈ O
section
variable {M : Mch} {s0 : Nat}
theorem bq_state_lt (W : M.WF) (h0 : s0 < M.n) (k : Nat) : ∀ x ∈ bq id M.sc s0 k, x < M.n := bq_inv (P := fun x => x < M.n) h0 (fun _ _ y hy => sc_lt W y hy) k
theorem bq_state_nodup (k : Nat) : (bq id M.sc s0 k).Nodup := by simpa using bq_nodup (κ := (id : Nat → Nat)) (sc := M.sc) (x0 := s0) k
theorem bq_state_len (W : M.WF) (h0 : s0 < M.n) (k : Nat) : (bq id M.sc s0 k).length ≤ M.n := nodup_lt (bq_state_nodup k) (bq_state_lt W h0 k)
theorem bfs_done (W : M.WF) (h0 : s0 < M.n) : (bq id M.sc s0 M.n).length ≤ M.n := bq_state_len W h0 _
theorem bfs_of {k : Nat} (W : M.WF) (h0 : s0 < M.n) (h : (bq id M.sc s0 k).length ≤ k) : bq id M.sc s0 k = M.bfs s0 := bq_fin h (bfs_done W h0)
theorem bfs_ord (W : M.WF) (h0 : s0 < M.n) : Ord M s0 (M.bfs s0) := ⟨bq_state_nodup _, bq_state_lt W h0 _, bq_head _, fun x hx y hy => by
    have h := bq_end (κ := (id : Nat → Nat)) (bfs_done W h0) x hx y hy
    rw [List.map_id] at h
    exact h⟩
theorem bfs_len (W : M.WF) (h0 : s0 < M.n) : (M.bfs s0).length ≤ M.n := bfs_done W h0
end
theorem Ord.pos {M : Mch} {s0 : Nat} {O : List Nat} (h : Ord M s0 O) : 0 < O.length := (List.getElem?_eq_some_iff.mp h.head).1
theorem getD_of {l : List Nat} {i : Nat} (h : i < l.length) (d : Nat) : l.getD i d = l[i] := by
  rw [List.getD_eq_getElem?_getD, List.getElem?_eq_getElem h]; rfl
theorem map_getD {f : Nat → Nat} {l : List Nat} {i : Nat} (h : i < l.length) (d : Nat) : (l.map f).getD i d = f l[i] := by
  rw [getD_of (by simpa using h), List.getElem_map]
theorem idxOf_get {α : Type} [DecidableEq α] {l : List α} (hn : l.Nodup) {i : Nat} (h : i < l.length) : l.idxOf l[i] = i := by
  have h1 : l.idxOf l[i] < l.length := List.idxOf_lt_length_of_mem (List.getElem_mem h)
  have h2 : l[l.idxOf l[i]] = l[i] := List.getElem_idxOf h1
  exact (List.getElem_inj hn).mp h2
section
variable {M : Mch} {s0 : Nat} {O : List Nat} (W : M.WF) (o : Ord M s0 O)
include W o
theorem rel_k : (M.rel O).k = M.k := by simp [Mch.rel, Mch.k]
theorem rel_n : (M.rel O).n = O.length := by
  have h : ∃ r rs, M.ways = r :: rs := by
    have := W.k0
    unfold Mch.k at this
    cases e : M.ways with
    | nil => rw [e] at this; simp at this
    | cons r rs => exact ⟨r, rs, rfl⟩
  obtain ⟨r, rs, e⟩ := h
  simp [Mch.rel, Mch.n, e]
theorem rel_d {a i : Nat} (hi : i < O.length) : (M.rel O).d a i = O.idxOf (M.d a O[i]) := by
  unfold Mch.d
  show (match (M.ways.map fun r => O.map fun s => O.idxOf (r.getD s 0))[a]? with | some r => r.getD i 0 | none => i) = _
  rw [List.getElem?_map]
  cases e : M.ways[a]? with
  | none =>
    show i = O.idxOf O[i]
    rw [idxOf_get o.nodup hi]
  | some r =>
    show (O.map fun s => O.idxOf (r.getD s 0)).getD i 0 = O.idxOf (r.getD O[i] 0)
    rw [map_getD hi]
theorem ord_d {a s : Nat} (hs : s ∈ O) : M.d a s ∈ O := by
  unfold Mch.d
  split
  · rename_i r h
    exact o.closed s hs _ (List.mem_map.mpr ⟨r, List.mem_of_getElem? h, rfl⟩)
  · exact hs
theorem rel_get {a i : Nat} (hi : i < O.length) : ∃ h : (M.rel O).d a i < O.length, O[(M.rel O).d a i] = M.d a O[i] := by
  have h := rel_d W o (a := a) hi
  have hm := ord_d W o (a := a) (List.getElem_mem hi)
  rw [h]
  exact ⟨List.idxOf_lt_length_of_mem hm, List.getElem_idxOf _⟩
theorem rel_ok {i : Nat} (hi : i < O.length) : (M.rel O).ok i = M.ok O[i] := by
  rw [Bool.eq_iff_iff, ok_iff, ok_iff]
  show i ∈ (O.filter fun s => M.good.contains s).map (fun s => O.idxOf s) ↔ _
  rw [List.mem_map]
  constructor
  · rintro ⟨s, hs, e⟩
    obtain ⟨h1, h2⟩ := List.mem_filter.mp hs
    have : O[i] = s := by
      subst e
      exact List.getElem_idxOf _
    rw [this]
    exact List.contains_iff_mem.mp h2
  · intro h
    exact ⟨O[i], List.mem_filter.mpr ⟨List.getElem_mem hi, List.contains_iff_mem.mpr h⟩, idxOf_get o.nodup hi⟩
theorem rel_run {i : Nat} (hi : i < O.length) (w : List Nat) : ∃ h : (M.rel O).run i w < O.length, O[(M.rel O).run i w] = M.run O[i] w := by
  induction w generalizing i with
  | nil => exact ⟨hi, rfl⟩
  | cons a w ih =>
    obtain ⟨h1, h2⟩ := rel_get W o (a := a) hi
    obtain ⟨h3, h4⟩ := ih h1
    refine ⟨h3, h4.trans ?_⟩
    rw [h2]
    rfl
theorem rel_L {i : Nat} (hi : i < O.length) : (M.rel O).L i = M.L O[i] := by
  funext w
  obtain ⟨h1, h2⟩ := rel_run W o hi w
  show (M.rel O).ok _ = M.ok _
  rw [rel_ok W o h1, h2]
theorem rel_WF : (M.rel O).WF where
  k0 := by rw [rel_k W o]; exact W.k0
  row := fun r hr => by
    obtain ⟨r', _, rfl⟩ := List.mem_map.mp hr
    rw [rel_n W o, List.length_map]
  lt := fun r hr x hx => by
    obtain ⟨r', hr', rfl⟩ := List.mem_map.mp hr
    obtain ⟨s, hs, rfl⟩ := List.mem_map.mp hx
    rw [rel_n W o]
    exact List.idxOf_lt_length_of_mem (o.closed s hs _ (List.mem_map.mpr ⟨r', hr', rfl⟩))
  n0 := by rw [rel_n W o]; exact o.pos
  asc := by
    have h : (O.map fun s => O.idxOf s) = List.range O.length := by
      refine List.ext_getElem (by simp) fun i h1 h2 => ?_
      rw [List.getElem_map, List.getElem_range]
      exact idxOf_get o.nodup (by simpa using h1)
    have hs : ((O.filter fun s => M.good.contains s).map fun s => O.idxOf s).Sublist (List.range O.length) := by
      rw [← h]
      exact List.Sublist.map _ List.filter_sublist
    exact List.Pairwise.sublist hs List.pairwise_lt_range
  glt := fun g hg => by
    obtain ⟨s, hs, rfl⟩ := List.mem_map.mp hg
    rw [rel_n W o]
    exact List.idxOf_lt_length_of_mem (List.mem_filter.mp hs).1
end

theorem map_inj {α β : Type} {f : α → β} : ∀ {l l' : List α}, (∀ x ∈ l, ∀ y ∈ l', f x = f y → x = y) → l.map f = l'.map f → l = l'
  | [], [], _, _ => rfl
  | [], _ :: _, _, h => by simp at h
  | _ :: _, [], _, h => by simp at h
  | x :: l, y :: l', hf, h => by
    rw [List.map_cons, List.map_cons] at h
    injection h with h1 h2
    rw [hf x List.mem_cons_self y List.mem_cons_self h1, map_inj (fun a ha b hb => hf a (List.mem_cons_of_mem _ ha) b (List.mem_cons_of_mem _ hb)) h2]
theorem idx_range {i n : Nat} (h : i < n) : (List.range n).idxOf i = i := by
  have := idxOf_get (l := List.range n) List.nodup_range (i := i) (by simpa using h)
  simpa using this
/-! ### the canonical least machine -/
/-- the languages of the states that are reached, by the order of first texts -/
noncomputable def ls (M : Mch) : List Lang := dd ((M.bfs 0).map M.L)
noncomputable def canonOf (k : Nat) (l : List Lang) : Mch := { ways := (List.range k).map fun a => l.map fun x => l.idxOf (deriv a x), good := (List.range l.length).filter fun i => (l.getD i fun _ => false) [] }
noncomputable def canon (M : Mch) : Mch := canonOf M.k (ls M)
def lsc (k : Nat) (l : Lang) : List Lang := (List.range k).map fun a => deriv a l
theorem L_sc (M : Mch) (s : Nat) : lsc M.k (M.L s) = (M.sc s).map M.L := by
  rw [sc_range, List.map_map]
  rfl
/-- the same list, by the languages alone -/
theorem ls_fin {M : Mch} (W : M.WF) : ls M = bq id (lsc M.k) (M.L 0) (ls M).length ∧ (bq id (lsc M.k) (M.L 0) (ls M).length).length ≤ (ls M).length :=
  bq_hom_end (sc := M.sc) (sc' := lsc M.k) (x0 := 0) M.L (fun x => L_sc M x) (bfs_done W W.n0)
theorem ls_eq {M M' : Mch} (W : M.WF) (W' : M'.WF) (hk : M.k = M'.k) (h : M.L 0 = M'.L 0) : ls M = ls M' := by
  obtain ⟨e1, f1⟩ := ls_fin W
  obtain ⟨e2, f2⟩ := ls_fin W'
  rw [← hk, ← h] at e2 f2
  rw [e1, e2]
  exact bq_fin f1 f2
theorem canon_eq {M M' : Mch} (W : M.WF) (W' : M'.WF) (hk : M.k = M'.k) (h : M.L 0 = M'.L 0) : canon M = canon M' := by
  unfold canon
  rw [ls_eq W W' hk h, hk]
section
variable {M : Mch} (W : M.WF)
theorem ls_nodup : (ls M).Nodup := nodup_dd _
include W
theorem ls_len : (ls M).length ≤ M.n := by
  have h : (ls M).length = (pushs M.L [] (M.bfs 0)).length := by
    unfold ls
    rw [← dd_reps, List.length_map]
  have h2 : (pushs M.L [] (M.bfs 0)).Sublist (M.bfs 0) := by
    have := snocInd (P := fun l => (pushs M.L [] l).Sublist l) (List.Sublist.refl _) (fun l x ih => by
      rw [pushs_snoc]
      unfold push
      split
      · exact ih.trans (List.sublist_append_left _ _)
      · exact List.Sublist.append ih (List.Sublist.refl _)) (M.bfs 0)
    exact this
  rw [h]
  exact Nat.le_trans h2.length_le (bfs_len W W.n0)
theorem ls_head : (ls M)[0]? = some (M.L 0) := by
  have h := (ls_fin W).1
  rw [h]
  exact bq_head _
theorem ls_pos : 0 < (ls M).length := (List.getElem?_eq_some_iff.mp (ls_head W)).1
theorem ls_closed {l : Lang} (h : l ∈ ls M) {a : Nat} : deriv a l ∈ ls M := by
  obtain ⟨s, hs, rfl⟩ := List.mem_map.mp (mem_dd.mp h)
  rw [← L_d]
  exact mem_dd.mpr (List.mem_map.mpr ⟨_, ord_d W (bfs_ord W W.n0) hs, rfl⟩)
theorem canon_k : (canon M).k = M.k := by simp [canon, canonOf, Mch.k]
theorem canon_n : (canon M).n = (ls M).length := by
  have h := W.k0
  obtain ⟨j, hj⟩ : ∃ j, M.k = j + 1 := ⟨M.k - 1, by omega⟩
  simp [canon, canonOf, Mch.n, hj, List.range_succ_eq_map]
theorem canon_way {a : Nat} (ha : a < M.k) : (canon M).ways[a]? = some ((ls M).map fun x => (ls M).idxOf (deriv a x)) := by
  simp [canon, canonOf, List.getElem?_map, List.getElem?_range ha]
theorem canon_d {a i : Nat} (hi : i < (ls M).length) : ∃ h : (canon M).d a i < (ls M).length, (ls M)[(canon M).d a i] = deriv a (ls M)[i] := by
  by_cases ha : a < M.k
  · have e : (canon M).d a i = (ls M).idxOf (deriv a (ls M)[i]) := by
      rw [d_some (canon_way W ha), getD_of (by simpa using hi), List.getElem_map]
    rw [e]
    exact ⟨List.idxOf_lt_length_of_mem (ls_closed W (List.getElem_mem hi)), List.getElem_idxOf _⟩
  · have e : (canon M).d a i = i := by
      unfold Mch.d
      rw [List.getElem?_eq_none (by rw [show (canon M).ways.length = M.k from canon_k W]; omega)]
    rw [e]
    refine ⟨hi, ?_⟩
    obtain ⟨s, hs, e2⟩ := List.mem_map.mp (mem_dd.mp (List.getElem_mem hi))
    rw [← e2, ← L_d]
    have : M.d a s = s := by
      unfold Mch.d
      rw [List.getElem?_eq_none (by show M.k ≤ a; omega)]
    rw [this]
theorem canon_ok {i : Nat} (hi : i < (ls M).length) : (canon M).ok i = (ls M)[i] [] := by
  rw [Bool.eq_iff_iff, ok_iff]
  show i ∈ (List.range (ls M).length).filter (fun i => ((ls M).getD i fun _ => false) []) ↔ _
  rw [List.mem_filter, List.mem_range, List.getD_eq_getElem?_getD, List.getElem?_eq_getElem hi]
  exact ⟨fun h => h.2, fun h => ⟨hi, h⟩⟩
theorem canon_L {i : Nat} (hi : i < (ls M).length) : (canon M).L i = (ls M)[i] := by
  funext w
  induction w generalizing i with
  | nil => exact canon_ok W hi
  | cons a w ih =>
    obtain ⟨h1, h2⟩ := canon_d W (a := a) hi
    have := ih h1
    rw [h2] at this
    exact this
theorem canon_L0 : (canon M).L 0 = M.L 0 := by
  rw [canon_L W (ls_pos W)]
  exact (List.getElem?_eq_some_iff.mp (ls_head W)).2
theorem canon_WF : (canon M).WF where
  k0 := by rw [canon_k W]; exact W.k0
  row := fun r hr => by
    obtain ⟨a, _, rfl⟩ := List.mem_map.mp hr
    rw [canon_n W, List.length_map]
  lt := fun r hr x hx => by
    obtain ⟨a, _, rfl⟩ := List.mem_map.mp hr
    obtain ⟨l, hl, rfl⟩ := List.mem_map.mp hx
    rw [canon_n W]
    exact List.idxOf_lt_length_of_mem (ls_closed W hl)
  n0 := by rw [canon_n W]; exact ls_pos W
  asc := List.Pairwise.sublist List.filter_sublist List.pairwise_lt_range
  glt := fun g hg => by
    rw [canon_n W]
    exact List.mem_range.mp (List.mem_filter.mp hg).1
theorem canon_canon : canon (canon M) = canon M := canon_eq (canon_WF W) W (canon_k W) (canon_L0 W)
theorem canon_inj {i j : Nat} (hi : i < (ls M).length) (hj : j < (ls M).length) (h : (canon M).L i = (canon M).L j) : i = j := by
  rw [canon_L W hi, canon_L W hj] at h
  exact (List.getElem_inj ls_nodup).mp h
/-- the canonical machine's states are numbered by first texts -/
theorem canon_bfs : (canon M).bfs 0 = List.range (ls M).length := by
  have Wc := canon_WF W
  have o := bfs_ord Wc Wc.n0
  have e : (List.range (ls M).length).map (canon M).L = ls M := by
    refine List.ext_getElem (by simp) fun i h1 h2 => ?_
    rw [List.getElem_map, List.getElem_range, canon_L W (by simpa using h1)]
  have e2 : dd (((canon M).bfs 0).map (canon M).L) = ls M := ls_eq Wc W (canon_k W) (canon_L0 W)
  have hb : ∀ x ∈ (canon M).bfs 0, x < (ls M).length := fun x hx => by
    have := o.lt x hx
    rwa [canon_n W] at this
  have nd : (((canon M).bfs 0).map (canon M).L).Nodup := by
    rw [List.Nodup, List.pairwise_map]
    refine List.Pairwise.imp_of_mem (fun {x y} hx hy hne q => hne (canon_inj W (hb x hx) (hb y hy) q)) o.nodup
  rw [dd_nodup nd, ← e] at e2
  exact map_inj (fun x hx y hy h => canon_inj W (hb x hx) (List.mem_range.mp hy) h) e2
theorem canon_from : (canon M).rel ((canon M).bfs 0) = canon M := by
  rw [canon_bfs W]
  have Wc := canon_WF W
  have hr : ∀ r ∈ (canon M).ways, ((List.range (ls M).length).map fun s => (List.range (ls M).length).idxOf (r.getD s 0)) = r := fun r hr => by
    have hl : r.length = (ls M).length := (Wc.row r hr).trans (canon_n W)
    refine List.ext_getElem (by simp [hl]) fun i h1 h2 => ?_
    rw [List.getElem_map, List.getElem_range, getD_of h2]
    refine idx_range ?_
    have := Wc.lt r hr _ (List.getElem_mem h2)
    rwa [canon_n W] at this
  have hw : ((canon M).ways.map fun r => (List.range (ls M).length).map fun s => (List.range (ls M).length).idxOf (r.getD s 0)) = (canon M).ways := by
    conv => rhs; rw [← List.map_id (canon M).ways]
    exact List.map_congr_left hr
  have hg : (((List.range (ls M).length).filter fun s => (canon M).good.contains s).map fun s => (List.range (ls M).length).idxOf s) = (canon M).good := by
    have e : ((List.range (ls M).length).filter fun s => (canon M).good.contains s) = (canon M).good := by
      show _ = (List.range (ls M).length).filter (fun i => ((ls M).getD i fun _ => false) [])
      refine List.filter_congr fun s hs => ?_
      have hs := List.mem_range.mp hs
      show (canon M).ok s = _
      rw [canon_ok W hs, List.getD_eq_getElem?_getD, List.getElem?_eq_getElem hs]
      rfl
    rw [e]
    conv => rhs; rw [← List.map_id (canon M).good]
    refine List.map_congr_left fun s hs => ?_
    have := Wc.glt s hs
    rw [canon_n W] at this
    exact idx_range this
  unfold Mch.rel
  rw [hw, hg]
end
end WC

/-! ## M3 -/
set_option linter.all false
/-! Plain mathematics: states put together; the program's least machine and the law's. -/
namespace WC
section moore
variable {M : Mch} {β γ : Type} [DecidableEq β] [DecidableEq γ]
def Coarse (M : Mch) (f : Nat → β) : Prop := (∀ p q, p < M.n → q < M.n → M.L p = M.L q → f p = f q) ∧ ∀ p q, p < M.n → q < M.n → f p = f q → M.ok p = M.ok q
def Step (M : Mch) (f : Nat → β) (g : Nat → γ) : Prop := ∀ p q, p < M.n → q < M.n → (g p = g q ↔ f p = f q ∧ ∀ r ∈ M.ways, f (r.getD p 0) = f (r.getD q 0))
def cnt (M : Mch) (f : Nat → β) : Nat := (dd ((List.range M.n).map f)).length
/-- told the states apart that have unlike answers, and no others -/
def Kern (M : Mch) (f : Nat → β) : Prop := ∀ p q, p < M.n → q < M.n → (f p = f q ↔ M.L p = M.L q)
theorem coarse_ok : Coarse M fun s => M.ok s := ⟨fun p q _ _ h => congrFun h [], fun _ _ _ _ h => h⟩
theorem L_way {p q : Nat} (h : M.L p = M.L q) {r : List Nat} (hr : r ∈ M.ways) : M.L (r.getD p 0) = M.L (r.getD q 0) := by
  obtain ⟨a, ha⟩ := List.getElem?_of_mem hr
  have e : ∀ s, M.L (r.getD s 0) = deriv a (M.L s) := fun s => by rw [← L_d, d_some ha]
  rw [e, e, h]
theorem coarse_step (W : M.WF) {f : Nat → β} {g : Nat → γ} (c : Coarse M f) (st : Step M f g) : Coarse M g := by
  refine ⟨fun p q hp hq h => (st p q hp hq).mpr ⟨c.1 p q hp hq h, fun r hr => ?_⟩, fun p q hp hq h => c.2 p q hp hq ((st p q hp hq).mp h).1⟩
  exact c.1 _ _ (getD_lt (W.lt r hr) W.n0) (getD_lt (W.lt r hr) W.n0) (L_way h hr)
theorem reps_sub {f : Nat → β} {g : Nat → γ} {xs : List Nat} (h : ∀ p ∈ xs, ∀ q ∈ xs, g p = g q → f p = f q) : ∀ x ∈ pushs f [] xs, x ∈ pushs g [] xs := by
  have key := snocInd (P := fun l => (∀ p ∈ l, p ∈ xs) → ∀ x ∈ pushs f [] l, x ∈ pushs g [] l) (fun _ x hx => hx) (fun l x ih hl y hy => by
    have ih := ih fun p hp => hl p (List.mem_append_left _ hp)
    rw [pushs_snoc] at hy ⊢
    by_cases hf : f x ∈ (pushs f [] l).map f
    · rw [push_old hf] at hy
      exact (push_pre _ _).subset (ih y hy)
    · rw [push_new hf] at hy
      rcases List.mem_append.mp hy with hy | hy
      · exact (push_pre _ _).subset (ih y hy)
      · have hg : g x ∉ (pushs g [] l).map g := fun hg => by
          have hg := (key_pushs.mp hg).resolve_left (by simp)
          obtain ⟨z, hz, e⟩ := List.mem_map.mp hg
          have := h z (hl z (List.mem_append_left _ hz)) x (hl x (List.mem_append_right _ List.mem_cons_self)) e
          exact hf (key_pushs.mpr (.inr (List.mem_map.mpr ⟨z, hz, this⟩)))
        rw [push_new hg]
        exact List.mem_append_right _ hy) xs
  exact key fun _ hp => hp
theorem nodup_of_map {α δ : Type} {f : α → δ} {l : List α} (h : (l.map f).Nodup) : l.Nodup := by
  rw [List.Nodup, List.pairwise_map] at h
  exact List.Pairwise.imp (R := fun a b => f a ≠ f b) (fun {a b} hne e => hne (congrArg f e)) h
theorem cnt_reps (f : Nat → β) : cnt M f = (pushs f [] (List.range M.n)).length := by
  unfold cnt
  rw [← dd_reps, List.length_map]
theorem cnt_le {f : Nat → β} {g : Nat → γ} (h : ∀ p q, p < M.n → q < M.n → g p = g q → f p = f q) : cnt M f ≤ cnt M g := by
  rw [cnt_reps, cnt_reps]
  refine nodup_len (nodup_of_map (nodup_pushs (κ := f) (by simp))) (reps_sub fun p hp q hq e => h p q (List.mem_range.mp hp) (List.mem_range.mp hq) e)
theorem cnt_n (f : Nat → β) : cnt M f ≤ M.n := by
  rw [cnt_reps]
  refine nodup_lt (nodup_of_map (nodup_pushs (κ := f) (by simp))) fun x hx => ?_
  rcases mem_pushs hx with hx | hx
  · cases hx
  · exact List.mem_range.mp hx
theorem cnt_pos (W : M.WF) (f : Nat → β) : 0 < cnt M f := by
  unfold cnt
  exact List.length_pos_of_mem (mem_dd.mpr (List.mem_map.mpr ⟨0, List.mem_range.mpr W.n0, rfl⟩))
theorem reps_has {f : Nat → β} {p : Nat} (hp : p < M.n) : ∃ p' ∈ pushs f [] (List.range M.n), f p' = f p := by
  have h : f p ∈ (pushs f [] (List.range M.n)).map f := key_pushs.mpr (.inr (List.mem_map.mpr ⟨p, List.mem_range.mpr hp, rfl⟩))
  obtain ⟨p', h1, h2⟩ := List.mem_map.mp h
  exact ⟨p', h1, h2⟩
theorem reps_inj {f : Nat → β} {xs : List Nat} {p q : Nat} (hp : p ∈ pushs f [] xs) (hq : q ∈ pushs f [] xs) (h : f p = f q) : p = q := by
  have hn : ((pushs f [] xs).map f).Nodup := nodup_pushs (κ := f) (by simp)
  obtain ⟨i, hi, ei⟩ := List.getElem_of_mem hp
  obtain ⟨j, hj, ej⟩ := List.getElem_of_mem hq
  have : i = j := (List.getElem_inj (h₀ := by simpa using hi) (h₁ := by simpa using hj) hn).mp (by rw [List.getElem_map, List.getElem_map, ei, ej, h])
  subst this
  rw [← ei, ← ej]
/-- where a step makes no more classes, they are the right ones -/
theorem kern_of (W : M.WF) {f : Nat → β} {g : Nat → γ} (c : Coarse M f) (st : Step M f g) (hc : cnt M g ≤ cnt M f) : Kern M g := by
  have back : ∀ p q, p < M.n → q < M.n → f p = f q → g p = g q := fun p q hp hq e => by
    have hs := nodup_sub (nodup_of_map (nodup_pushs (κ := f) (q := []) (xs := List.range M.n) (by simp))) (reps_sub (g := g) fun a ha b hb e => ((st a b (List.mem_range.mp ha) (List.mem_range.mp hb)).mp e).1) (by rw [← cnt_reps, ← cnt_reps]; exact hc)
    have lt : ∀ x ∈ pushs g [] (List.range M.n), x < M.n := fun x hx => by
      rcases mem_pushs hx with hx | hx
      · cases hx
      · exact List.mem_range.mp hx
    obtain ⟨p', h1, h2⟩ := reps_has (f := g) hp
    obtain ⟨q', h3, h4⟩ := reps_has (f := g) hq
    have e1 := ((st p' p (lt _ h1) hp).mp h2).1
    have e2 := ((st q' q (lt _ h3) hq).mp h4).1
    have := reps_inj (hs p' h1) (hs q' h3) (by rw [e1, e2, e])
    rw [← h2, ← h4, this]
  intro p q hp hq
  constructor
  · intro h
    funext w
    have key : ∀ (w : List Nat) (p q : Nat), p < M.n → q < M.n → f p = f q → M.L p w = M.L q w := by
      intro w
      induction w with
      | nil => intro p q hp hq h; exact c.2 p q hp hq h
      | cons a w ih =>
        intro p q hp hq h
        refine ih (M.d a p) (M.d a q) (d_lt W hp) (d_lt W hq) ?_
        unfold Mch.d
        split
        · rename_i r hr
          exact ((st p q hp hq).mp (back p q hp hq h)).2 r (List.mem_of_getElem? hr)
        · exact h
    exact key w p q hp hq ((st p q hp hq).mp h).1
  · exact fun h => (coarse_step W c st).1 p q hp hq h
end moore

/-- the numbers of rows, alike ones being numbered alike -/
def nums {ρ : Type} [DecidableEq ρ] (rows : List ρ) : List Nat := rows.map fun r => (dd rows).idxOf r
theorem nums_len {ρ : Type} [DecidableEq ρ] (rows : List ρ) : (nums rows).length = rows.length := List.length_map _
theorem nums_get {ρ : Type} [DecidableEq ρ] {rows : List ρ} {i : Nat} (h : i < rows.length) : (nums rows).getD i 0 = (dd rows).idxOf rows[i] := by
  unfold nums
  rw [getD_of (by simpa using h), List.getElem_map]
theorem idxOf_inj {α : Type} [DecidableEq α] {l : List α} {x y : α} (hx : x ∈ l) (h : l.idxOf x = l.idxOf y) : x = y := by
  have h1 : l.idxOf x < l.length := List.idxOf_lt_length_of_mem hx
  have h2 : l[l.idxOf x] = x := List.getElem_idxOf h1
  have h3 : l.idxOf y < l.length := h ▸ h1
  have h4 : l[l.idxOf y] = y := List.getElem_idxOf h3
  rw [← h2, ← h4]
  congr 1
theorem nums_iff {ρ : Type} [DecidableEq ρ] {rows : List ρ} {i j : Nat} (hi : i < rows.length) (hj : j < rows.length) : (nums rows).getD i 0 = (nums rows).getD j 0 ↔ rows[i] = rows[j] := by
  rw [nums_get hi, nums_get hj]
  exact ⟨fun h => idxOf_inj (mem_dd.mpr (List.getElem_mem hi)) h, fun h => by rw [h]⟩
theorem dd_map_inj {α β : Type} [DecidableEq α] [DecidableEq β] {f : α → β} {xs : List α} (h : ∀ x ∈ xs, ∀ y ∈ xs, f x = f y → x = y) : (dd (xs.map f)).length = (dd xs).length := by
  have := (idx_dd (f := (id : α → α)) (g := f) (xs := xs) fun x hx y hy => ⟨fun e => congrArg f e, h x hx y hy⟩).1
  rw [List.map_id] at this
  exact this.symm
theorem nums_cnt {ρ : Type} [DecidableEq ρ] (rows : List ρ) : (dd (nums rows)).length = (dd rows).length := dd_map_inj fun x hx y _ h => idxOf_inj (mem_dd.mpr hx) h
/-- a list over the states as a function of them -/
theorem cnt_list {M : Mch} {β : Type} [DecidableEq β] {l : List β} {f : Nat → β} (hl : l = (List.range M.n).map f) : cnt M f = (dd l).length := by
  unfold cnt
  rw [hl]

/-! ### the program's classes -/
/-- what classes_of gives: the states' numbers, by the first of each class -/
noncomputable def cls (M : Mch) : List Nat := nums ((List.range M.n).map M.L)
theorem cls_len (M : Mch) : (cls M).length = M.n := by unfold cls; rw [nums_len, List.length_map, List.length_range]
/-- rows that tell states apart as their answers do are numbered so -/
theorem cls_of {M : Mch} {ρ : Type} [DecidableEq ρ] {g : Nat → ρ} (h : Kern M g) : nums ((List.range M.n).map g) = cls M := by
  unfold cls nums
  rw [List.map_map, List.map_map]
  refine List.map_congr_left fun s hs => ?_
  exact (idx_dd (f := g) (g := M.L) (xs := List.range M.n) fun x hx y hy => h x y (List.mem_range.mp hx) (List.mem_range.mp hy)).2 s hs
section
variable {M : Mch} (W : M.WF)
include W
theorem cls_rel : cls (M.rel (M.bfs 0)) = (M.bfs 0).map fun s => (ls M).idxOf (M.L s) := by
  have o := bfs_ord W W.n0
  have hn : (M.rel (M.bfs 0)).n = (M.bfs 0).length := rel_n W o
  have e : (List.range (M.rel (M.bfs 0)).n).map (M.rel (M.bfs 0)).L = (M.bfs 0).map M.L := by
    refine List.ext_getElem (by simp [hn]) fun i h1 h2 => ?_
    rw [List.getElem_map, List.getElem_map, List.getElem_range, rel_L W o (by simpa using h2)]
  unfold cls nums
  rw [e, List.map_map]
  rfl
theorem cls_at {i : Nat} (hi : i < (M.bfs 0).length) : (cls (M.rel (M.bfs 0))).getD i 0 = (ls M).idxOf (M.L (M.bfs 0)[i]) := by
  rw [cls_rel W, map_getD hi]
theorem ls_mem {s : Nat} (hs : s ∈ M.bfs 0) : M.L s ∈ ls M := mem_dd.mpr (List.mem_map.mpr ⟨s, hs, rfl⟩)
theorem cls_lt : ∀ x ∈ cls (M.rel (M.bfs 0)), x < (ls M).length := fun x hx => by
  rw [cls_rel W] at hx
  obtain ⟨s, hs, rfl⟩ := List.mem_map.mp hx
  exact List.idxOf_lt_length_of_mem (ls_mem W hs)
theorem cls_has {c : Nat} (hc : c < (ls M).length) : c ∈ cls (M.rel (M.bfs 0)) := by
  rw [cls_rel W]
  obtain ⟨s, hs, e⟩ := List.mem_map.mp (mem_dd.mp (List.getElem_mem hc))
  exact List.mem_map.mpr ⟨s, hs, by rw [e]; exact idxOf_get ls_nodup hc⟩
theorem cls_max {m : Nat} (hm : m ∈ cls (M.rel (M.bfs 0))) (h : ∀ x ∈ cls (M.rel (M.bfs 0)), x ≤ m) : m + 1 = (ls M).length := by
  have h1 := cls_lt W m hm
  have h2 := h _ (cls_has W (c := (ls M).length - 1) (by have := ls_pos W; omega))
  omega
theorem cls_head : (cls (M.rel (M.bfs 0))).getD 0 0 = 0 := by
  have o := bfs_ord W W.n0
  rw [cls_at W o.pos]
  have e : (M.bfs 0)[0]'o.pos = 0 := (List.getElem?_eq_some_iff.mp o.head).2
  rw [e]
  have h := ls_head W
  have h0 := ls_pos W
  have e2 : (ls M)[0] = M.L 0 := (List.getElem?_eq_some_iff.mp h).2
  rw [← e2]
  exact idxOf_get ls_nodup h0
end
/-- the machine of classes, told by the first state of each -/
def quo (R : Mch) (cl : List Nat) (m : Nat) : Mch := { ways := R.ways.map fun r => ((List.range m).map fun c => cl.idxOf c).map fun s => cl.getD (r.getD s 0) 0, good := (List.range m).filter fun c => R.good.contains (cl.idxOf c) }
theorem quo_canon {M : Mch} (W : M.WF) : quo (M.rel (M.bfs 0)) (cls (M.rel (M.bfs 0))) (ls M).length = canon M := by
  have o := bfs_ord W W.n0
  have WR := rel_WF W o
  have hn := rel_n W o
  -- the first state of a class
  have first : ∀ {c : Nat} (hc : c < (ls M).length), ∃ h : (cls (M.rel (M.bfs 0))).idxOf c < (M.bfs 0).length, (M.rel (M.bfs 0)).L ((cls (M.rel (M.bfs 0))).idxOf c) = (ls M)[c] := fun {c} hc => by
    have hm := cls_has W hc
    have hl : (cls (M.rel (M.bfs 0))).idxOf c < (cls (M.rel (M.bfs 0))).length := List.idxOf_lt_length_of_mem hm
    have e : (cls (M.rel (M.bfs 0)))[(cls (M.rel (M.bfs 0))).idxOf c] = c := List.getElem_idxOf hl
    have hl' : (cls (M.rel (M.bfs 0))).idxOf c < (M.bfs 0).length := by rw [cls_len, hn] at hl; exact hl
    refine ⟨hl', ?_⟩
    rw [rel_L W o hl']
    rw [← getD_of hl 0, cls_at W hl'] at e
    have h2 : (ls M).idxOf (M.L (M.bfs 0)[(cls (M.rel (M.bfs 0))).idxOf c]) < (ls M).length := by rw [e]; exact hc
    have h3 := List.getElem_idxOf h2
    rw [← h3]
    congr 1
  have clL : ∀ {i : Nat}, i < (M.bfs 0).length → (cls (M.rel (M.bfs 0))).getD i 0 = (ls M).idxOf ((M.rel (M.bfs 0)).L i) := fun {i} hi => by rw [cls_at W hi, rel_L W o hi]
  have hw : (quo (M.rel (M.bfs 0)) (cls (M.rel (M.bfs 0))) (ls M).length).ways = (canon M).ways := by
    refine List.ext_getElem? fun a => ?_
    by_cases ha : a < M.k
    · rw [canon_way W ha]
      show ((M.rel (M.bfs 0)).ways.map _)[a]? = _
      have ha' : a < (M.rel (M.bfs 0)).ways.length := by have := rel_k W o; unfold Mch.k at this ha; omega
      rw [List.getElem?_map, List.getElem?_eq_getElem ha']
      show some _ = some _
      congr 1
      dsimp only
      rw [List.map_map]
      refine List.ext_getElem (by simp) fun c h1 h2 => ?_
      have hc : c < (ls M).length := by simpa using h2
      rw [List.getElem_map, List.getElem_map, List.getElem_range]
      obtain ⟨hf, e⟩ := first hc
      show (cls (M.rel (M.bfs 0))).getD ((M.rel (M.bfs 0)).ways[a].getD ((cls (M.rel (M.bfs 0))).idxOf c) 0) 0 = _
      have ed : (M.rel (M.bfs 0)).ways[a].getD ((cls (M.rel (M.bfs 0))).idxOf c) 0 = (M.rel (M.bfs 0)).d a ((cls (M.rel (M.bfs 0))).idxOf c) := (d_some (List.getElem?_eq_getElem ha') _).symm
      rw [ed, clL (by have := d_lt WR (a := a) (s := (cls (M.rel (M.bfs 0))).idxOf c) (by rw [hn]; exact hf); rwa [hn] at this), L_d, e]
    · rw [List.getElem?_eq_none (by show _ ≤ a; simp [quo]; have := rel_k W o; unfold Mch.k at this ha; omega), List.getElem?_eq_none (by have := canon_k W; unfold Mch.k at this ha; omega)]
  have hg : (quo (M.rel (M.bfs 0)) (cls (M.rel (M.bfs 0))) (ls M).length).good = (canon M).good := by
    show (List.range (ls M).length).filter _ = (List.range (ls M).length).filter _
    refine List.filter_congr fun c hc => ?_
    have hc := List.mem_range.mp hc
    obtain ⟨hf, e⟩ := first hc
    show (M.rel (M.bfs 0)).ok _ = _
    rw [← L_nil, e, List.getD_eq_getElem?_getD, List.getElem?_eq_getElem hc]
    rfl
  generalize quo (M.rel (M.bfs 0)) (cls (M.rel (M.bfs 0))) (ls M).length = q at hw hg
  cases q
  cases hc : canon M
  rw [hc] at hw hg
  simp only at hw hg
  rw [hw, hg]

/-! ### the law's least machine -/
/-- the first states of each mark, by the order of first texts -/
def reps (M : Mch) (mk : Nat → Nat) : List Nat := pushs mk [] (M.bfs 0)
def lean (M : Mch) (mk : Nat → Nat) : Mch := { ways := M.ways.map fun r => (reps M mk).map fun s => ((reps M mk).map mk).idxOf (mk (r.getD s 0)), good := (List.range (reps M mk).length).filter fun i => M.good.contains ((reps M mk).getD i 0) }
theorem idxOf_map_inj {α β : Type} [DecidableEq α] [DecidableEq β] {f : α → β} : ∀ {l : List α} {x : α}, (∀ y ∈ l, f y = f x ↔ y = x) → (l.map f).idxOf (f x) = l.idxOf x
  | [], _, _ => rfl
  | y :: l, x, h => by
    rw [List.map_cons, List.idxOf_cons, List.idxOf_cons, idxOf_map_inj fun z hz => h z (List.mem_cons_of_mem _ hz)]
    have hy := h y List.mem_cons_self
    by_cases e : y = x
    · rw [show (f y == f x) = true from beq_iff_eq.mpr (hy.mpr e), show (y == x) = true from beq_iff_eq.mpr e]
    · rw [show (f y == f x) = false from beq_eq_false_iff_ne.mpr fun q => e (hy.mp q), show (y == x) = false from beq_eq_false_iff_ne.mpr e]
theorem idxOf_map2 {β γ : Type} [DecidableEq β] [DecidableEq γ] {f : Nat → β} {g : Nat → γ} {x : Nat} : ∀ {l : List Nat}, (∀ y ∈ l, f y = f x ↔ g y = g x) → (l.map f).idxOf (f x) = (l.map g).idxOf (g x)
  | [], _ => rfl
  | y :: l, h => by
    rw [List.map_cons, List.map_cons, List.idxOf_cons, List.idxOf_cons, idxOf_map2 fun z hz => h z (List.mem_cons_of_mem _ hz)]
    have hy := h y List.mem_cons_self
    by_cases e : f y = f x
    · rw [show (f y == f x) = true from beq_iff_eq.mpr e, show (g y == g x) = true from beq_iff_eq.mpr (hy.mp e)]
    · rw [show (f y == f x) = false from beq_eq_false_iff_ne.mpr e, show (g y == g x) = false from beq_eq_false_iff_ne.mpr fun q => e (hy.mpr q)]
theorem reps_L {M : Mch} (W : M.WF) {mk : Nat → Nat} (h : Kern M mk) : (reps M mk).map M.L = ls M := by
  have o := bfs_ord W W.n0
  have e : reps M mk = pushs M.L [] (M.bfs 0) := pushs_congr fun x hx y hy => h x y (o.lt x (by simpa using hx)) (o.lt y (by simpa using hy))
  rw [e, dd_reps]
  rfl
theorem reps_sub_bfs {M : Mch} {mk : Nat → Nat} {x : Nat} (hx : x ∈ reps M mk) : x ∈ M.bfs 0 := by
  rcases mem_pushs hx with hx | hx
  · cases hx
  · exact hx
theorem lean_canon {M : Mch} (W : M.WF) {mk : Nat → Nat} (h : Kern M mk) : lean M mk = canon M := by
  have o := bfs_ord W W.n0
  have eL := reps_L W h
  have el : (reps M mk).length = (ls M).length := by rw [← eL, List.length_map]
  have lt : ∀ x ∈ reps M mk, x < M.n := fun x hx => o.lt x (reps_sub_bfs hx)
  have get : ∀ {i : Nat} (hi : i < (reps M mk).length), (ls M)[i]'(el ▸ hi) = M.L (reps M mk)[i] := fun {i} hi => by
    have : ((reps M mk).map M.L)[i]'(by simpa using hi) = M.L (reps M mk)[i] := List.getElem_map _
    rw [← this]
    congr 1
    exact eL.symm
  have hw : (lean M mk).ways = (canon M).ways := by
    refine List.ext_getElem? fun a => ?_
    by_cases ha : a < M.k
    · rw [canon_way W ha]
      have ha' : a < M.ways.length := ha
      show (M.ways.map _)[a]? = _
      rw [List.getElem?_map, List.getElem?_eq_getElem ha']
      show some _ = some _
      congr 1
      refine List.ext_getElem (by simp [el]) fun i h1 h2 => ?_
      have hi : i < (reps M mk).length := by simpa using h1
      rw [List.getElem_map, List.getElem_map, get hi, ← L_d, d_some (List.getElem?_eq_getElem ha'), ← eL]
      refine idxOf_map2 fun y hy => h y _ (lt y hy) (getD_lt (W.lt _ (List.getElem_mem ha')) W.n0)
    · rw [List.getElem?_eq_none (by show _ ≤ a; simp [lean]; unfold Mch.k at ha; omega), List.getElem?_eq_none (by have := canon_k W; unfold Mch.k at this ha; omega)]
  have hg : (lean M mk).good = (canon M).good := by
    show (List.range (reps M mk).length).filter _ = (List.range (ls M).length).filter _
    rw [el]
    refine List.filter_congr fun c hc => ?_
    have hc := List.mem_range.mp hc
    have hc' : c < (reps M mk).length := by omega
    rw [getD_of hc', List.getD_eq_getElem?_getD, List.getElem?_eq_getElem hc]
    show M.ok _ = (ls M)[c] []
    rw [get hc', L_nil]
  generalize lean M mk = q at hw hg
  cases q
  cases hc : canon M
  rw [hc] at hw hg
  simp only at hw hg
  rw [hw, hg]
end WC

/-! ## M4 -/
set_option linter.all false
/-! Plain mathematics: texts that part two machines; machines with more states. -/
namespace WC
abbrev Itm := (Nat × Nat) × List Nat
def scP (M M' : Mch) (x : Itm) : List Itm := (List.range M.k).map fun a => ((M.d a x.1.1, M'.d a x.1.2), x.2 ++ [a])
def pq (M M' : Mch) (K : Nat) : List Itm := bq (fun x : Itm => x.1) (scP M M') ((0, 0), []) K
def dif (M M' : Mch) (x : Itm) : Bool := M.ok x.1.1 != M'.ok x.1.2
/-- the first text that parts them -/
def part (M M' : Mch) : Option (List Nat) := ((pq M M' (M.n * M'.n)).find? (dif M M')).map (·.2)
section
variable {M M' : Mch} (W : M.WF) (W' : M'.WF)
theorem pq_word (K : Nat) : ∀ x ∈ pq M M' K, x.1.1 = M.run 0 x.2 ∧ x.1.2 = M'.run 0 x.2 :=
  bq_inv (P := fun x : Itm => x.1.1 = M.run 0 x.2 ∧ x.1.2 = M'.run 0 x.2) ⟨rfl, rfl⟩ (fun x h y hy => by
    obtain ⟨a, _, rfl⟩ := List.mem_map.mp hy
    obtain ⟨⟨p, q⟩, w⟩ := x
    obtain ⟨h1, h2⟩ := h
    simp only at h1 h2 ⊢
    rw [run_snoc, run_snoc, ← h1, ← h2]
    exact ⟨rfl, rfl⟩) K
theorem pq_letters (K : Nat) : ∀ x ∈ pq M M' K, ∀ a ∈ x.2, a < M.k :=
  bq_inv (P := fun x : Itm => ∀ a ∈ x.2, a < M.k) (by simp) (fun x h y hy => by
    obtain ⟨a, ha, rfl⟩ := List.mem_map.mp hy
    intro b hb
    rcases List.mem_append.mp hb with hb | hb
    · exact h b hb
    · rw [List.mem_singleton.mp hb]
      exact List.mem_range.mp ha) K
theorem pq_short : ∀ K, ∀ x ∈ pq M M' K, x.2.length ≤ K
  | 0, x, hx => by rw [List.mem_singleton.mp hx]; exact Nat.le_refl _
  | K + 1, x, hx => by
    by_cases h : K < (pq M M' K).length
    · have e : pq M M' (K + 1) = pushs (fun x : Itm => x.1) (pq M M' K) (scP M M' (pq M M' K)[K]) := bq_some (List.getElem?_eq_getElem h)
      rw [e] at hx
      rcases mem_pushs hx with hx | hx
      · exact Nat.le_succ_of_le (pq_short K x hx)
      · obtain ⟨a, _, rfl⟩ := List.mem_map.mp hx
        have := pq_short K _ (List.getElem_mem h)
        rw [List.length_append, List.length_singleton]
        omega
    · have e : pq M M' (K + 1) = pq M M' K := bq_none (by unfold pq at h; omega)
      rw [e] at hx
      exact Nat.le_succ_of_le (pq_short K x hx)
theorem pq_nodup (K : Nat) : ((pq M M' K).map (·.1)).Nodup := bq_nodup (κ := fun x : Itm => x.1) (sc := scP M M') (x0 := ((0, 0), [])) K
include W W' in
theorem pq_lt (K : Nat) : ∀ x ∈ pq M M' K, x.1.1 < M.n ∧ x.1.2 < M'.n := fun x hx => by
  obtain ⟨h1, h2⟩ := pq_word K x hx
  rw [h1, h2]
  exact ⟨run_lt W W.n0 _, run_lt W' W'.n0 _⟩
include W W' in
theorem pq_len (K : Nat) : (pq M M' K).length ≤ M.n * M'.n := by
  have h := nodup_len (S := (List.range M.n).flatMap fun p => (List.range M'.n).map fun q => (p, q)) (pq_nodup (M := M) (M' := M') K) fun x hx => by
    obtain ⟨y, hy, rfl⟩ := List.mem_map.mp hx
    obtain ⟨h1, h2⟩ := pq_lt W W' K y hy
    exact List.mem_flatMap.mpr ⟨_, List.mem_range.mpr h1, List.mem_map.mpr ⟨_, List.mem_range.mpr h2, rfl⟩⟩
  have e : ((List.range M.n).flatMap fun p => (List.range M'.n).map fun q => (p, q)).length = M.n * M'.n := by
    rw [List.length_flatMap]
    have hc : ∀ l : List Nat, (l.map fun p => ((List.range M'.n).map fun q => (p, q)).length).sum = l.length * M'.n := by
      intro l
      induction l with
      | nil => simp
      | cons a l ih =>
        rw [List.map_cons, List.sum_cons, ih, List.length_map, List.length_range, List.length_cons, Nat.succ_mul, Nat.add_comm]
    rw [hc, List.length_range]
  rw [e, List.length_map] at h
  exact h
include W W' in
theorem pq_fin {K : Nat} (h : (pq M M' K).length ≤ K) : pq M M' K = pq M M' (M.n * M'.n) := bq_fin h (pq_len W W' _)
include W W' in
/-- all that is reached agrees, or a place where it parts first: at a prefix of the queue -/
theorem part_of {K i : Nat} {x : Itm} (hx : (pq M M' K)[i]? = some x) (hb : ∀ j y, j < i → (pq M M' K)[j]? = some y → dif M M' y = false) (hd : dif M M' x = true) : part M M' = some x.2 := by
  -- the whole queue begins with this one
  obtain ⟨t, e⟩ : pq M M' K <+: pq M M' (K + M.n * M'.n) := bq_pre K _
  have hf : pq M M' (K + M.n * M'.n) = pq M M' (M.n * M'.n) := pq_fin W W' (Nat.le_trans (pq_len W W' _) (Nat.le_add_left _ _))
  have hi := (List.getElem?_eq_some_iff.mp hx).1
  have hx2 : (pq M M' (M.n * M'.n))[i]? = some x := by
    rw [← hf, ← e, List.getElem?_append_left hi]
    exact hx
  have hb2 : ∀ j y, j < i → (pq M M' (M.n * M'.n))[j]? = some y → dif M M' y = false := fun j y hj hy => by
    rw [← hf, ← e, List.getElem?_append_left (by omega)] at hy
    exact hb j y hj hy
  unfold part
  have key : (pq M M' (M.n * M'.n)).find? (dif M M') = some x := by
    rw [List.find?_eq_some_iff_getElem]
    obtain ⟨h1, h2⟩ := List.getElem?_eq_some_iff.mp hx2
    refine ⟨hd, i, h1, h2, fun j hj => ?_⟩
    rw [hb2 j _ hj (List.getElem?_eq_getElem (by omega))]
    rfl
  rw [key]
  rfl
include W W' in
theorem part_none_of {K : Nat} (h : (pq M M' K).length ≤ K) (hb : ∀ y ∈ pq M M' K, dif M M' y = false) : part M M' = none := by
  unfold part
  rw [← pq_fin W W' h, Option.map_eq_none_iff, List.find?_eq_none]
  intro y hy
  rw [hb y hy]
  exact Bool.false_ne_true
include W W' in
theorem part_some {w : List Nat} (h : part M M' = some w) : M.L 0 w ≠ M'.L 0 w ∧ w.length ≤ M.n * M'.n ∧ ∀ a ∈ w, a < M.k := by
  unfold part at h
  obtain ⟨x, hx, e⟩ := Option.map_eq_some_iff.mp h
  have hm := List.mem_of_find?_eq_some hx
  have hd := List.find?_some hx
  obtain ⟨h1, h2⟩ := pq_word _ x hm
  subst e
  refine ⟨fun e => ?_, pq_short _ x hm, pq_letters _ x hm⟩
  unfold dif at hd
  rw [h1, h2] at hd
  have e : M.ok (M.run 0 x.2) = M'.ok (M'.run 0 x.2) := e
  rw [e] at hd
  simp at hd
include W W' in
theorem part_none (hk : M.k = M'.k) (h : part M M' = none) : M.L 0 = M'.L 0 := by
  unfold part at h
  rw [Option.map_eq_none_iff, List.find?_eq_none] at h
  have cl : ∀ x ∈ pq M M' (M.n * M'.n), ∀ a, ∃ y ∈ pq M M' (M.n * M'.n), y.1 = (M.d a x.1.1, M'.d a x.1.2) := fun x hx a => by
    by_cases ha : a < M.k
    · have := bq_end (κ := fun x : Itm => x.1) (sc := scP M M') (x0 := ((0, 0), [])) (pq_len W W' _) x hx ((M.d a x.1.1, M'.d a x.1.2), x.2 ++ [a]) (List.mem_map.mpr ⟨a, List.mem_range.mpr ha, rfl⟩)
      obtain ⟨y, hy, e⟩ := List.mem_map.mp this
      exact ⟨y, hy, e⟩
    · refine ⟨x, hx, ?_⟩
      have e1 : M.d a x.1.1 = x.1.1 := by
        unfold Mch.d
        rw [List.getElem?_eq_none (by show M.k ≤ a; omega)]
      have e2 : M'.d a x.1.2 = x.1.2 := by
        unfold Mch.d
        rw [List.getElem?_eq_none (by show M'.k ≤ a; omega)]
      rw [e1, e2]
  have key : ∀ (w : List Nat) (x : Itm), x ∈ pq M M' (M.n * M'.n) → M.L x.1.1 w = M'.L x.1.2 w := by
    intro w
    induction w with
    | nil =>
      intro x hx
      have := h x hx
      unfold dif at this
      show M.ok x.1.1 = M'.ok x.1.2
      simpa using this
    | cons a w ih =>
      intro x hx
      obtain ⟨y, hy, e⟩ := cl x hx a
      have := ih y hy
      rw [e] at this
      exact this
  funext w
  exact key w ((0, 0), []) (List.mem_of_getElem? (bq_head (κ := fun x : Itm => x.1) (sc := scP M M') (x0 := ((0, 0), [])) _))
include W W' in
theorem part_iff (hk : M.k = M'.k) : part M M' = none ↔ M.L 0 = M'.L 0 := by
  refine ⟨part_none W W' hk, fun h => ?_⟩
  cases e : part M M' with
  | none => rfl
  | some w => exact absurd (congrFun h w) (part_some W W' e).1
include W W' in
theorem part_canon (hk : M.k = M'.k) : part M M' = none ↔ canon M = canon M' := by
  rw [part_iff W W' hk]
  refine ⟨canon_eq W W' hk, fun h => ?_⟩
  rw [← canon_L0 W, ← canon_L0 W', h]
def swp (x : Itm) : Itm := ((x.1.2, x.1.1), x.2)
theorem pq_swap (hk : M.k = M'.k) (K : Nat) : pq M' M K = (pq M M' K).map swp := by
  have h := bq_map (κ := fun x : Itm => x.1) (κ' := fun x : Itm => x.1) (sc := scP M M') (sc' := scP M' M) (x0 := ((0, 0), [])) swp (fun x y => by
    obtain ⟨⟨a, b⟩, _⟩ := x
    obtain ⟨⟨c, d⟩, _⟩ := y
    simp only [swp, Prod.mk.injEq]
    exact And.comm) (fun x => by
    unfold scP
    rw [List.map_map, ← hk]
    rfl) K
  exact h.symm
theorem part_swap (hk : M.k = M'.k) : part M' M = part M M' := by
  unfold part
  rw [pq_swap hk, Nat.mul_comm, List.find?_map, Option.map_map]
  have : (dif M' M ∘ swp) = dif M M' := by
    funext x
    show (M'.ok x.1.2 != M.ok x.1.1) = (M.ok x.1.1 != M'.ok x.1.2)
    exact bne_comm
  rw [this]
  rfl
theorem part_self (W : M.WF) : part M M = none := (part_iff W W rfl).mpr rfl
end

/-! ### the same machine with more states -/
def twice (M : Mch) : Mch := { ways := M.ways.map fun r => (r.map fun s => s + M.n) ++ r, good := M.good ++ M.good.map fun s => s + M.n }
def idle (M : Mch) (xs : List Nat) (g : Bool) : Mch := { ways := (M.ways.zip xs).map fun p => p.1 ++ [p.2], good := M.good ++ if g then [M.n] else [] }
theorem ways_cons {M : Mch} (W : M.WF) : ∃ r rs, M.ways = r :: rs := by
  have := W.k0
  unfold Mch.k at this
  cases e : M.ways with
  | nil => rw [e] at this; simp at this
  | cons r rs => exact ⟨r, rs, rfl⟩
section
variable {M : Mch} (W : M.WF)
include W
theorem twice_k : (twice M).k = M.k := by simp [twice, Mch.k]
theorem twice_n : (twice M).n = M.n + M.n := by
  obtain ⟨r, rs, e⟩ := ways_cons W
  have h := W.row r (by rw [e]; exact List.mem_cons_self)
  have e2 : (twice M).n = ((r.map fun s => s + M.n) ++ r).length := by
    show ((M.ways.map _).headD []).length = _
    rw [e]
    rfl
  rw [e2, List.length_append, List.length_map, h]
theorem twice_WF : (twice M).WF where
  k0 := by rw [twice_k W]; exact W.k0
  row := fun r hr => by
    obtain ⟨r', hr', rfl⟩ := List.mem_map.mp hr
    rw [twice_n W, List.length_append, List.length_map, W.row r' hr']
  lt := fun r hr x hx => by
    obtain ⟨r', hr', rfl⟩ := List.mem_map.mp hr
    rw [twice_n W]
    rcases List.mem_append.mp hx with hx | hx
    · obtain ⟨s, hs, rfl⟩ := List.mem_map.mp hx
      have := W.lt r' hr' s hs
      omega
    · have := W.lt r' hr' x hx
      omega
  n0 := by rw [twice_n W]; have := W.n0; omega
  asc := by
    refine List.pairwise_append.mpr ⟨W.asc, ?_, fun a ha b hb => ?_⟩
    · rw [List.pairwise_map]
      exact W.asc.imp fun h => by omega
    · obtain ⟨s, _, rfl⟩ := List.mem_map.mp hb
      have := W.glt a ha
      omega
  glt := fun g hg => by
    rw [twice_n W]
    rcases List.mem_append.mp hg with hg | hg
    · have := W.glt g hg; omega
    · obtain ⟨s, hs, rfl⟩ := List.mem_map.mp hg
      have := W.glt s hs; omega
theorem twice_d {a s : Nat} (hs : s < M.n) : ((twice M).d a s = M.d a s ∨ (twice M).d a s = M.d a s + M.n) ∧ ((twice M).d a (s + M.n) = M.d a s ∨ (twice M).d a (s + M.n) = M.d a s + M.n) := by
  unfold Mch.d
  show (((match (M.ways.map fun r => (r.map fun s => s + M.n) ++ r)[a]? with | some r => r.getD s 0 | none => s) = _) ∨ ((match (M.ways.map fun r => (r.map fun s => s + M.n) ++ r)[a]? with | some r => r.getD s 0 | none => s) = _)) ∧ (((match (M.ways.map fun r => (r.map fun s => s + M.n) ++ r)[a]? with | some r => r.getD (s + M.n) 0 | none => s + M.n) = _) ∨ ((match (M.ways.map fun r => (r.map fun s => s + M.n) ++ r)[a]? with | some r => r.getD (s + M.n) 0 | none => s + M.n) = _))
  rw [List.getElem?_map]
  cases e : M.ways[a]? with
  | none => exact ⟨.inl rfl, .inr rfl⟩
  | some r =>
    have hr := W.row r (List.mem_of_getElem? e)
    refine ⟨.inr ?_, .inl ?_⟩
    · show ((r.map fun s => s + M.n) ++ r).getD s 0 = r.getD s 0 + M.n
      rw [getD_of (by rw [List.length_append, List.length_map]; omega), getD_of (by omega), List.getElem_append_left (by rw [List.length_map]; omega), List.getElem_map]
    · show ((r.map fun s => s + M.n) ++ r).getD (s + M.n) 0 = r.getD s 0
      rw [getD_of (by rw [List.length_append, List.length_map]; omega), getD_of (by omega), List.getElem_append_right (by rw [List.length_map]; omega)]
      congr 1
      rw [List.length_map]
      omega
theorem twice_ok {s : Nat} (hs : s < M.n) : (twice M).ok s = M.ok s ∧ (twice M).ok (s + M.n) = M.ok s := by
  have k1 : s ∈ M.good ++ M.good.map (fun s => s + M.n) ↔ s ∈ M.good := by
    rw [List.mem_append, List.mem_map]
    refine ⟨fun h => ?_, .inl⟩
    rcases h with h | ⟨t, _, e⟩
    · exact h
    · omega
  have k2 : s + M.n ∈ M.good ++ M.good.map (fun s => s + M.n) ↔ s ∈ M.good := by
    rw [List.mem_append, List.mem_map]
    refine ⟨fun h => ?_, fun h => .inr ⟨s, h, rfl⟩⟩
    rcases h with h | ⟨t, ht, e⟩
    · have := W.glt _ h; omega
    · have : t = s := by omega
      exact this ▸ ht
  exact ⟨Bool.eq_iff_iff.mpr (ok_iff.trans (k1.trans ok_iff.symm)), Bool.eq_iff_iff.mpr (ok_iff.trans (k2.trans ok_iff.symm))⟩
theorem twice_L (w : List Nat) : ∀ {s : Nat}, s < M.n → (twice M).L s w = M.L s w ∧ (twice M).L (s + M.n) w = M.L s w := by
  induction w with
  | nil => intro s hs; exact twice_ok W hs
  | cons a w ih =>
    intro s hs
    have hd := d_lt W (a := a) hs
    obtain ⟨i1, i2⟩ := ih hd
    obtain ⟨h1, h2⟩ := twice_d W (a := a) hs
    constructor
    · show (twice M).L ((twice M).d a s) w = M.L (M.d a s) w
      rcases h1 with e | e <;> rw [e] <;> assumption
    · show (twice M).L ((twice M).d a (s + M.n)) w = M.L (M.d a s) w
      rcases h2 with e | e <;> rw [e] <;> assumption
theorem twice_L0 : (twice M).L 0 = M.L 0 := by
  funext w
  exact (twice_L W w W.n0).1
variable {xs : List Nat} {g : Bool} (hx : xs.length = M.k) (hl : ∀ x ∈ xs, x < M.n + 1)
include hx
theorem idle_k : (idle M xs g).k = M.k := by
  show ((M.ways.zip xs).map _).length = M.ways.length
  rw [List.length_map, List.length_zip, hx]
  show min M.ways.length M.ways.length = _
  exact Nat.min_self _
theorem idle_n : (idle M xs g).n = M.n + 1 := by
  obtain ⟨r, rs, e⟩ := ways_cons W
  have h := W.row r (by rw [e]; exact List.mem_cons_self)
  have h0 := W.k0
  obtain ⟨y, ys, e2⟩ : ∃ y ys, xs = y :: ys := by
    cases xs with
    | nil => simp at hx; omega
    | cons y ys => exact ⟨y, ys, rfl⟩
  have e3 : (idle M xs g).n = (r ++ [y]).length := by
    show (((M.ways.zip xs).map fun p => p.1 ++ [p.2]).headD []).length = _
    rw [e, e2]
    rfl
  rw [e3, List.length_append, h]
  rfl
theorem idle_way {a : Nat} {r : List Nat} (h : M.ways[a]? = some r) : ∃ y ∈ xs, (idle M xs g).ways[a]? = some (r ++ [y]) := by
  have ha := (List.getElem?_eq_some_iff.mp h).1
  have ha2 : a < xs.length := by rw [hx]; exact ha
  refine ⟨xs[a], List.getElem_mem ha2, ?_⟩
  show ((M.ways.zip xs).map fun p => p.1 ++ [p.2])[a]? = _
  rw [List.getElem?_map, List.getElem?_eq_getElem (by rw [List.length_zip]; omega), List.getElem_zip]
  have := (List.getElem?_eq_some_iff.mp h).2
  rw [this]
  rfl
theorem idle_d {a s : Nat} (hs : s < M.n) : (idle M xs g).d a s = M.d a s := by
  cases e : M.ways[a]? with
  | none =>
    have h1 : (idle M xs g).ways[a]? = none := by
      rw [List.getElem?_eq_none_iff] at e ⊢
      have := idle_k W (g := g) hx
      unfold Mch.k at this
      omega
    unfold Mch.d
    rw [e, h1]
  | some r =>
    obtain ⟨y, _, e2⟩ := idle_way W (g := g) hx e
    have hr := W.row r (List.mem_of_getElem? e)
    rw [d_some e, d_some e2, getD_of (by rw [List.length_append]; omega), getD_of (by omega), List.getElem_append_left (by omega)]
theorem idle_ok {s : Nat} (hs : s < M.n) : (idle M xs g).ok s = M.ok s := by
  rw [Bool.eq_iff_iff, ok_iff, ok_iff]
  show s ∈ M.good ++ (if g then [M.n] else []) ↔ _
  rw [List.mem_append]
  refine ⟨fun h => h.elim id fun h => ?_, .inl⟩
  cases g with
  | true => have := List.mem_singleton.mp h; omega
  | false => cases h
theorem idle_L0 : (idle M xs g).L 0 = M.L 0 := by
  have key : ∀ (w : List Nat) (s : Nat), s < M.n → (idle M xs g).L s w = M.L s w := by
    intro w
    induction w with
    | nil => intro s hs; exact idle_ok W hx hs
    | cons a w ih =>
      intro s hs
      have := ih (M.d a s) (d_lt W hs)
      show (idle M xs g).L ((idle M xs g).d a s) w = _
      rw [idle_d W hx hs]
      exact this
  funext w
  exact key w 0 W.n0
include hl
theorem idle_WF : (idle M xs g).WF where
  k0 := by rw [idle_k W hx]; exact W.k0
  row := fun r hr => by
    obtain ⟨p, hp, rfl⟩ := List.mem_map.mp hr
    rw [idle_n W hx, List.length_append, W.row p.1 (List.of_mem_zip hp).1]
    rfl
  lt := fun r hr x hx' => by
    obtain ⟨p, hp, rfl⟩ := List.mem_map.mp hr
    rw [idle_n W hx]
    rcases List.mem_append.mp hx' with h | h
    · have := W.lt p.1 (List.of_mem_zip hp).1 x h; omega
    · rw [List.mem_singleton.mp h]
      exact hl _ (List.of_mem_zip hp).2
  n0 := by rw [idle_n W hx]; omega
  asc := by
    refine List.pairwise_append.mpr ⟨W.asc, ?_, fun a ha b hb => ?_⟩
    · cases g
      · exact List.Pairwise.nil
      · exact List.pairwise_singleton _ _
    · cases g with
      | true => have := List.mem_singleton.mp hb; have := W.glt a ha; omega
      | false => cases hb
  glt := fun x hx' => by
    rw [idle_n W hx]
    rcases List.mem_append.mp hx' with h | h
    · have := W.glt x h; omega
    · cases g with
      | true => have := List.mem_singleton.mp h; omega
      | false => cases h
end
end WC

/-! ## R1 -/
set_option Elab.async false
set_option linter.all false
set_option maxRecDepth 100000
set_option maxHeartbeats 4000000
/-! Operators of an own class: ==, in, binary, ~, len. -/
namespace WR
open PySem PySem.Spec PyProof.Rows L2
section
variable {X : Cx} {CX : CXT} {n : Nat} {C f : Addr} {fd : FuncData} {ps : List Str} {sp : Sp} {E : XK}
/-- a def called from below the running body -/
theorem own_call {A : Around} {pins : List (Addr × Obj)} {s : Shared} {σ : L2.St} {H : Hp} {vs : List V} {us : List Value} {Q : VK} (F : FnOk X.prog X.w X.K X.mg X.base CX n f fd ps sp) (hb : Binds X.K fd ps []) (hx : Passes CX X E) (sb : Sub X n A)
    (I : Inv X pins σ H s) (r : Vals vs us) (h : sp vs H Q E) : wpAny (model X.prog X.w) A (call (.ref f) us) (EP X pins σ Q) X.xe s := by
  have e0 : Env0 X.prog X.w X.K X.mg X.base A X.stack s H := by
    have e := I.env0
    exact ⟨by rw [sb.fr]; exact e.frames, e.mod, e.bs, e.bsz, e.funs, e.frf, e.hok, e.bare⟩
  have hl := F.len _ _ _ _ h
  have hl2 : us.length = ps.length := by rw [← r.length, hl]
  refine wpAny_call (codeAny_mono (F.run A X.stack s H ⟨us, []⟩ us vs Q E sb.room e0 (by
    have := hb s us I.kIn (by simpa using hl2)
    simpa using this) r h) fun r s' hq => ?_)
  cases r with
  | error e => exact hx pins σ H s e s' I hq
  | ok fl =>
    cases fl with
    | ret w => exact I.after hq
    | next => exact False.elim hq
    | brk => exact False.elim hq
    | cont => exact False.elim hq

theorem vals_2 (a b : Addr) : Vals [V.ref a, V.ref b] [Value.ref a, Value.ref b] := .cons rfl (.cons rfl .nil)
/-- x op y, x an instance: what its method promises -/
def rOwn2 (C : Addr) (sp : Sp) (E : XK) : R2 := fun x y H Q => ∃ a dx fs, x = .ref a ∧ H a = some (.ins C dx fs) ∧ (∃ b dy gs, y = .ref b ∧ H b = some (.ins C dy gs)) ∧ sp [.ref a, y] H Q E
theorem cmpBack {pins : List (Addr × Obj)} {σ : L2.St} {Q : VK} {v : Value} {s' : Shared} (h : EP X pins σ Q v s') : PySem.W.CmpBack (EP X pins σ Q) v s' := by
  obtain ⟨z, H', I', r, q⟩ := h
  have h : EP X pins σ Q v s' := ⟨z, H', I', r, q⟩
  cases v <;> first | exact h | (cases z <;> first | (obtain ⟨_, r⟩ := r; cases r) | cases r)
theorem op_eqOwn (F : FnOk X.prog X.w X.K X.mg X.base CX n f fd ps sp) (hs : PySem.W.findIn X.K (.ref C) "__eq__" = some (some (.ref f))) (hf : PySem.W.isFn X.K (.ref f) = true) (hb : Binds X.K fd ps []) (hr : Room n X.A) (hx : Passes CX X E) :
    OpR X (compareOp .Eq) (rOwn2 C sp E) := by
  intro pins s σ H x y v u Q I rx ry h
  obtain ⟨a, dx, fs, rfl, ha, ⟨b, dy, gs, rfl, hb'⟩, h⟩ := h
  cases rx
  cases ry
  obtain ⟨mA, J, _⟩ := ins_get I.hok ha
  obtain ⟨mB, J', _⟩ := ins_get I.hok hb'
  obtain ⟨od, J, _⟩ := J.look
  obtain ⟨od', J', _⟩ := J'.look
  obtain ⟨m, hF⟩ := I.fr
  show wpAny (model X.prog X.w) X.A (richCompare .Eq (.ref a) (.ref b)) (EP X pins σ Q) X.xe s
  refine PySem.W.cmp_K (op := .Eq) (tb := .ref C) hr.units0 hF I.ok.mod.kin J J'.type (by simp [PySem.W.notFirst]) hs hf ?_
  exact wpAny_mono (own_call F hb hx ⟨hr, rfl⟩ I (vals_2 a b) h) (fun _ _ z => cmpBack z) fun _ _ z => z
theorem op_binOwn {op : Operator} (F : FnOk X.prog X.w X.K X.mg X.base CX n f fd ps sp) (hs : PySem.W.findIn X.K (.ref C) (PySem.dunder op.info.2) = some (some (.ref f))) (hf : PySem.W.isFn X.K (.ref f) = true) (hsf : PySem.W.selfFirst X.K C = true) (hb : Binds X.K fd ps []) (hr : Room n X.A) (hx : Passes CX X E) :
    OpR X (binaryOp op) (rOwn2 C sp E) := by
  intro pins s σ H x y v u Q I rx ry h
  obtain ⟨a, dx, fs, rfl, ha, ⟨b, dy, gs, rfl, hb'⟩, h⟩ := h
  cases rx
  cases ry
  obtain ⟨mA, J, _⟩ := ins_get I.hok ha
  obtain ⟨mB, J', _⟩ := ins_get I.hok hb'
  obtain ⟨od, J, _⟩ := J.look
  obtain ⟨od', J', _⟩ := J'.look
  obtain ⟨m, hF⟩ := I.fr
  refine PySem.W.binop_K hF I.ok.mod.kin J J'.type hsf hs hf ?_
  exact wpAny_mono (own_call F hb hx ⟨hr, rfl⟩ I (vals_2 a b) h) (fun _ _ z => cmpBack z) fun _ _ z => z
/-- y in x, x an instance: a bool comes back -/
def rOwnIn (C : Addr) (sp : Sp) (E : XK) : R2 := fun y x H Q => ∃ a dx fs, x = .ref a ∧ H a = some (.ins C dx fs) ∧ sp [.ref a, y] H (fun v H' => ∃ b, v = .bl b ∧ Q (.bl b) H') E
theorem op_inOwn (F : FnOk X.prog X.w X.K X.mg X.base CX n f fd ps sp) (hs : PySem.W.findIn X.K (.ref C) "__contains__" = some (some (.ref f))) (hf : PySem.W.isFn X.K (.ref f) = true) (hb : Binds X.K fd ps []) (hr : Room n X.A) (hx : Passes CX X E) :
    OpR X (compareOp .In) (rOwnIn C sp E) := by
  intro pins s σ H y x u v Q I ry rx h
  obtain ⟨a, dx, fs, rfl, ha, h⟩ := h
  cases rx
  obtain ⟨mA, J, _⟩ := ins_get I.hok ha
  obtain ⟨od, J, _⟩ := J.look
  obtain ⟨m, hF⟩ := I.fr
  refine PySem.W.in_K hF I.ok.mod.kin J hs hf (wpAny_mono (own_call F hb hx ⟨hr, rfl⟩ I (.cons (show RelV (.ref a) (.ref a) from rfl) (.cons ry .nil)) h) (fun r s' z => ?_) fun _ _ z => z)
  obtain ⟨z, H', I', rz, b, rfl, q⟩ := z
  cases rz
  exact wpAny_truthy_bool ⟨.bl b, H', I', rfl, q⟩
/-- ~x -/
def rOwn1 (C : Addr) (sp : Sp) (E : XK) : V → Hp → VK → Prop := fun x H Q => ∃ a dx fs, x = .ref a ∧ H a = some (.ins C dx fs) ∧ sp [.ref a] H Q E
theorem un_invOwn (F : FnOk X.prog X.w X.K X.mg X.base CX n f fd ps sp) (hs : PySem.W.findIn X.K (.ref C) "__invert__" = some (some (.ref f))) (hf : PySem.W.isFn X.K (.ref f) = true) (hb : Binds X.K fd ps []) (hr : Room n X.A) (hx : Passes CX X E) :
    UnR X (unaryOp .Invert) (rOwn1 C sp E) := by
  intro pins s σ H x v Q I rx h
  obtain ⟨a, dx, fs, rfl, ha, h⟩ := h
  cases rx
  obtain ⟨mA, J, _⟩ := ins_get I.hok ha
  obtain ⟨od, J, _⟩ := J.look
  obtain ⟨m, hF⟩ := I.fr
  exact PySem.W.ksp_inv hF I.ok.mod.kin J hs hf (own_call F hb hx ⟨hr, rfl⟩ I (.cons (show RelV (.ref a) (.ref a) from rfl) .nil) h)
/-- len(x), x an instance -/
def rOwnLen (C : Addr) (sp : Sp) (E : XK) : List V → Hp → VK → Prop := fun xs H Q => ∃ a dx fs, xs = [.ref a] ∧ H a = some (.ins C dx fs) ∧ sp [.ref a] H (fun v H' => ∃ i, v = .int i ∧ 0 ≤ i ∧ i < 2 ^ 63 ∧ Q (.int i) H') E
theorem call_lenOwn (F : FnOk X.prog X.w X.K X.mg X.base CX n f fd ps sp) (hs : PySem.W.findIn X.K (.ref C) "__len__" = some (some (.ref f))) (hf : PySem.W.isFn X.K (.ref f) = true) (hb : Binds X.K fd ps []) (hr : Room (n + 1) X.A) (hx : Passes CX X E) :
    CallR X (.builtin "len") (rOwnLen C sp E) := by
  intro pins s σ H xs us Q I r h
  obtain ⟨a, dx, fs, rfl, ha, h⟩ := h
  obtain ⟨u, rfl, rx⟩ := vals1 r
  cases rx
  obtain ⟨mA, J, _⟩ := ins_get I.hok ha
  obtain ⟨od, J, _⟩ := J.look
  obtain ⟨m, hF⟩ := I.fr
  refine PySem.W.len_K hF I.ok.mod.kin J hs hf (wpAny_mono (own_call F hb hx (Sub.in1 ⟨hr, rfl⟩) I (.cons (show RelV (.ref a) (.ref a) from rfl) .nil) h) (fun r s' z => ?_) fun _ _ z => z)
  obtain ⟨z, H', I', rz, i, rfl, h0, h1, q⟩ := z
  obtain ⟨t, rfl⟩ := rz
  refine ⟨⟨h0, h1⟩, ?_⟩
  exact ⟨.int i, H', I'.tok _, ⟨_, rfl⟩, q⟩
end
end WR

/-! ## R2 -/
set_option Elab.async false
set_option linter.all false
set_option maxRecDepth 100000
set_option maxHeartbeats 4000000
/-! The dict of numbers_of: rows to their numbers; rows are bools, or pairs of a number and a tuple of numbers. -/
namespace WR
open PySem PySem.Spec PyProof.Rows L2
abbrev NK := NestedKey
/-- the dict's object: the k-th row has the number k -/
def numsRaw {prog : Program} {w : World} (knd : HeapKind prog w NK) (h : Heap) (d : Addr) (ks : List (NK × Addr)) : Prop :=
  (d == sysModules) = false ∧ ∃ xs : List (NK × Addr × Value), xs.map (fun x => (x.1, x.2.1)) = ks ∧ (∀ (i : Nat) x, xs[i]? = some x → ∃ t, x.2.2 = Value.int (i : Int) t) ∧
    ∃ o es ep, h.get? d = some o ∧ o.ExactDict ∧ o.data = .dict es ep ∧ es.toList = xs.map (entryOfKey knd) ∧ (xs.map (·.1)).Nodup
def NumO (prog : Program) (w : World) (d : Addr) (ks : List (NK × Addr)) : HO := .ext fun h => numsRaw (nestedKind prog w) h d ks
theorem numO_ok {prog : Program} {w : World} {H : Hp} {h : Heap} {d : Addr} {ks : List (NK × Addr)} (r : numsRaw (nestedKind prog w) h d ks) : ObjOk prog w H h d (NumO prog w d ks) := by
  obtain ⟨hd, xs, e1, e2, o, es, ep, ho, r2⟩ := id r
  refine ⟨r, ⟨o, ho⟩, fun h1 h2 q k => ?_⟩
  obtain ⟨hd, xs, e1, e2, o, es, ep, ho, r2⟩ := q
  exact ⟨hd, xs, e1, e2, o, es, ep, k _ ho, r2⟩
/-- the key of a row -/
def rowK (c : Int) (ns : List Int) : NK := .tup [.num c, .tup (ns.map .num)]
theorem num_map_inj : ∀ {ns ms : List Int}, ns.map NestedKey.num = ms.map NestedKey.num → ns = ms
  | [], [], _ => rfl
  | [], _ :: _, h => by simp at h
  | _ :: _, [], h => by simp at h
  | a :: ns, b :: ms, h => by
    rw [List.map_cons, List.map_cons] at h
    injection h with h1 h2
    injection h1 with h1
    rw [h1, num_map_inj h2]
theorem rowK_inj {c d : Int} {ns ms : List Int} (h : rowK c ns = rowK d ms) : c = d ∧ ns = ms := by
  unfold rowK at h
  injection h with h
  injection h with h1 h2
  injection h1 with h1
  injection h2 with h2 _
  injection h2 with h2
  exact ⟨h1, num_map_inj h2⟩
/-- y is the row of the key r -/
def IsRow (H : Hp) (r : NK) (y : V) : Prop := ∃ c ns a b, r = rowK c ns ∧ y = .ref a ∧ H a = some (.tup [.int c, .ref b]) ∧ H b = some (.tup (ns.map V.int))
theorem IsRow.stay {H H' : Hp} {r : NK} {y : V} (x : IsRow H r y) (k : ∀ b xs, H b = some (.tup xs) → H' b = some (.tup xs)) : IsRow H' r y := by
  obtain ⟨c, ns, a, b, e1, e2, h1, h2⟩ := x
  exact ⟨c, ns, a, b, e1, e2, k _ _ h1, k _ _ h2⟩
theorem depth_nums : ∀ ns : List Int, NestedKey.depthAll (ns.map NestedKey.num) = 0
  | [] => rfl
  | n :: ns => by
    rw [List.map_cons]
    show max 0 (NestedKey.depthAll (ns.map NestedKey.num)) = 0
    rw [depth_nums ns]
    rfl
theorem nested_ints {h : Heap} : ∀ {ns : List Int} {us : List Value}, Vals (ns.map V.int) us → NestedAll h (ns.map .num) us
  | [], _, .nil => .nil
  | n :: ns, _, .cons r t => by
    obtain ⟨tk, rfl⟩ := r
    exact .cons (.int n tk) (nested_ints t)
section
variable {X : Cx} {pins : List (Addr × Obj)} {σ : L2.St} {H : Hp} {s : Shared}
theorem row_key (I : Inv X pins σ H s) {r : NK} {a : Addr} (x : IsRow H r (.ref a)) : (nestedKind X.prog X.w).is s.heap r a := by
  obtain ⟨c, ns, a', b, rfl, e, h1, h2⟩ := x
  cases e
  obtain ⟨_, its, r1, o, ho, hc, n, hd⟩ := (show ObjOk X.prog X.w H s.heap a (.tup [.int c, .ref b]) from I.hok a _ h1)
  obtain ⟨_, its2, r2, o2, ho2, hc2, n2, hd2⟩ := (show ObjOk X.prog X.w H s.heap b (.tup (ns.map V.int)) from I.hok b _ h2)
  refine ⟨.tup ho hc hd ?_, ?_⟩
  · cases r1 with
    | cons q1 q2 =>
      obtain ⟨tk, rfl⟩ := q1
      cases q2 with
      | cons q3 q4 =>
        cases q4
        cases (show _ = Value.ref b from q3)
        exact .cons (.int c tk) (.cons (.tup ho2 hc2 hd2 (nested_ints r2)) .nil)
  · show NestedKey.depth (rowK c ns) ≤ 8
    unfold rowK
    show max 0 (max (NestedKey.depthAll (ns.map NestedKey.num) + 1) 0) + 1 ≤ 8
    rw [depth_nums]
    decide
/-- at d the dict of the rows ks, in order -/
def NumD (X : Cx) (H : Hp) (d : Addr) (ks : List NK) : Prop := ∃ as : List Addr, as.length = ks.length ∧ H d = some (NumO X.prog X.w d (ks.zip as)) ∧ ∀ p ∈ ks.zip as, IsRow H p.1 (.ref p.2)
theorem NumD.stay {H' : Hp} {d : Addr} {ks : List NK} (x : NumD X H d ks) (hd : H' d = H d) (k : ∀ b xs, H b = some (.tup xs) → H' b = some (.tup xs)) : NumD X H' d ks := by
  obtain ⟨as, e, h1, h2⟩ := x
  exact ⟨as, e, hd.trans h1, fun p hp => (h2 p hp).stay k⟩
theorem fst_zip {α β : Type} : ∀ {l : List α} {m : List β}, m.length = l.length → (l.zip m).map (·.1) = l
  | [], _, _ => by simp
  | a :: l, [], h => by simp at h
  | a :: l, b :: m, h => by
    rw [List.zip_cons_cons, List.map_cons, fst_zip (by simpa using h)]
/-- what stands in the heap -/
theorem NumD.raw (I : Inv X pins σ H s) {d : Addr} {ks : List NK} (x : NumD X H d ks) : ∃ (as : List Addr) (xs : List (NK × Addr × Value)), as.length = ks.length ∧ H d = some (NumO X.prog X.w d (ks.zip as)) ∧ (∀ p ∈ ks.zip as, IsRow H p.1 (.ref p.2)) ∧
    xs.map (fun x => (x.1, x.2.1)) = ks.zip as ∧ (∀ (i : Nat) x, xs[i]? = some x → ∃ t, x.2.2 = Value.int (i : Int) t) ∧ s.heap.DictOfH (nestedKind X.prog X.w) d xs ∧ (d == sysModules) = false ∧ xs.map (·.1) = ks := by
  obtain ⟨as, e, h1, h2⟩ := x
  obtain ⟨⟨hd, xs, e1, e2, o, es, ep, ho, hx, hdt, he, hn⟩, _⟩ := (show ObjOk X.prog X.w H s.heap d (NumO X.prog X.w d (ks.zip as)) from I.hok d _ h1)
  have ek : xs.map (·.1) = ks := by
    have := congrArg (List.map (fun p : NK × Addr => p.1)) e1
    rw [List.map_map, fst_zip e] at this
    exact this
  refine ⟨as, xs, e, h1, h2, e1, e2, ⟨o, es, ep, ho, hx, hdt, he, fun y hy => ?_, hn⟩, hd, ek⟩
  have hm : (y.1, y.2.1) ∈ ks.zip as := by
    rw [← e1]
    exact List.mem_map.mpr ⟨y, hy, rfl⟩
  exact row_key I (h2 _ hm)
theorem at_none {xs : List (NK × Addr × Value)} {r : NK} (h : r ∉ xs.map (·.1)) : atKey xs r = none := by
  unfold atKey
  rw [Option.map_eq_none_iff, List.find?_eq_none]
  intro x hx
  simp only [decide_eq_true_eq]
  exact fun e => h (List.mem_map.mpr ⟨x, hx, e⟩)
theorem at_some : ∀ {xs : List (NK × Addr × Value)} {r : NK}, r ∈ xs.map (·.1) → ∃ x, xs[(xs.map (·.1)).idxOf r]? = some x ∧ atKey xs r = some x.2
  | [], r, h => by simp at h
  | x :: xs, r, h => by
    rw [List.map_cons, List.idxOf_cons]
    unfold atKey
    rw [List.find?_cons]
    by_cases e : x.1 = r
    · rw [show (x.1 == r) = true from beq_iff_eq.mpr e, decide_eq_true e]
      exact ⟨x, rfl, rfl⟩
    · rw [show (x.1 == r) = false from beq_eq_false_iff_ne.mpr e, decide_eq_false e]
      rw [List.map_cons, List.mem_cons] at h
      obtain ⟨y, h1, h2⟩ := at_some (xs := xs) (r := r) (h.resolve_left fun q => e q.symm)
      exact ⟨y, by simpa using h1, h2⟩
theorem num_setd {A : Around} {E : Value → Shared → Prop} {d a : Addr} {ks : List NK} {r : NK} {t : Tok} {Q : Value → Shared → Prop} (hu : A.units + 64 < cLine) (I : Inv X pins σ H s) (x : NumD X H d ks) (hr : IsRow H r (.ref a)) (hl : ks.length ≤ 1000)
    (h1 : r ∈ ks → ∀ v s', Inv X pins σ H s' → (∃ i t, v = Value.int i t) → Q v s')
    (h2 : r ∉ ks → ∀ H' v s', Inv X pins σ H' s' → (∀ b, b ≠ d → H' b = H b) → NumD X H' d (ks ++ [r]) → (∃ i t, v = Value.int i t) → Q v s') :
    wpAny (model X.prog X.w) A (call (.builtin "dict.setdefault") [.ref d, .ref a, .int (ks.length : Int) t]) Q E s := by
  obtain ⟨as, xs, e, hd1, hk, e1, e2, hm, hd, ek⟩ := x.raw I
  have hlen : xs.length = ks.length := by rw [← ek, List.length_map]
  refine call_setdefault_heap (hsz := by rw [hlen]; exact Nat.le_trans hl (by decide)) (show A.in1.units + 8 < cLine by show A.units + 1 + 8 < cLine; omega) (row_key I hr) hd hm (fun p hp => ?_) fun hn h' hm' hs => ?_
  · have hin : r ∈ xs.map (·.1) := by
      by_cases q : r ∈ xs.map (·.1)
      · exact q
      · rw [at_none q] at hp
        cases hp
    obtain ⟨y, hy1, hy2⟩ := at_some hin
    rw [hy2] at hp
    cases hp
    obtain ⟨t', ht⟩ := e2 _ _ hy1
    exact h1 (ek ▸ hin) _ _ (I.tok _) ⟨_, t', ht⟩
  · have hnin : r ∉ xs.map (·.1) := fun q => by
      obtain ⟨y, _, hy2⟩ := at_some q
      rw [hy2] at hn
      cases hn
    rw [storedH_new hn] at hm'
    obtain ⟨o, es, ep, ho, hx, hdt, he, _, hnd⟩ := id hm'
    have raw : numsRaw (nestedKind X.prog X.w) h' d ((ks ++ [r]).zip (as ++ [a])) := by
      refine ⟨hd, xs ++ [(r, a, .int (ks.length : Int) t)], ?_, fun i y hy => ?_, o, es, ep, ho, hx, hdt, he, hnd⟩
      · rw [List.map_append, e1, List.zip_append e.symm]
        rfl
      · rcases Nat.lt_or_ge i xs.length with q | q
        · rw [List.getElem?_append_left q] at hy
          exact e2 i y hy
        · rw [List.getElem?_append_right q] at hy
          have hi : i - xs.length < 1 := (List.getElem?_eq_some_iff.mp hy).1
          have hi2 : i = ks.length := by omega
          subst hi2
          rw [hlen, Nat.sub_self] at hy
          cases hy
          exact ⟨t, rfl⟩
    have I' : Inv X pins σ (upd H d (NumO X.prog X.w d ((ks ++ [r]).zip (as ++ [a])))) { s with heap := h', toks := s.toks + (nestedKind X.prog X.w).draws r } :=
      d_write (t' := s.toks + (nestedKind X.prog X.w).draws r) I (by rw [hd1]; exact True.intro) hs ⟨o, ho⟩ (numO_ok raw)
    have keep : ∀ b ys, H b = some (.tup ys) → upd H d (NumO X.prog X.w d ((ks ++ [r]).zip (as ++ [a]))) b = some (.tup ys) := fun b ys q => by
      rw [upd_ne (ne_of q hd1 (by intro z; cases z))]
      exact q
    refine h2 (fun q => hnin (ek ▸ q)) _ _ _ I' (fun b hb => upd_ne hb) ⟨as ++ [a], by simp [e], upd_same, fun p hp => ?_⟩ ⟨_, t, rfl⟩
    rw [List.zip_append e.symm] at hp
    rcases List.mem_append.mp hp with hp | hp
    · exact (hk p hp).stay keep
    · have : p = (r, a) := by simpa using hp
      rw [this]
      exact hr.stay keep
theorem num_get {A : Around} {E : Value → Shared → Prop} {d a : Addr} {ks : List NK} {r : NK} {Q : Value → Shared → Prop} (hu : A.units + 64 < cLine) (I : Inv X pins σ H s) (x : NumD X H d ks) (hr : IsRow H r (.ref a)) (hin : r ∈ ks)
    (h : ∀ t s', Inv X pins σ H s' → Q (.int ((ks.idxOf r : Nat) : Int) t) s') : wpAny (model X.prog X.w) A (getItem (.ref d) (.ref a)) Q E s := by
  obtain ⟨as, xs, e, hd1, hk, e1, e2, hm, hd, ek⟩ := x.raw I
  obtain ⟨y, hy1, hy2⟩ := at_some (xs := xs) (r := r) (by rw [ek]; exact hin)
  obtain ⟨t, ht⟩ := e2 _ _ hy1
  refine wpAny_getItem_heap (show A.in1.units + 8 < cLine by show A.units + 1 + 8 < cLine; omega) (row_key I hr) hm hy2 ?_
  rw [ht, ek]
  exact h t _ (I.tok _)
theorem num_len {A : Around} {E : Value → Shared → Prop} {d : Addr} {ks : List NK} {Q : Value → Shared → Prop} (I : Inv X pins σ H s) (x : NumD X H d ks) (hl : ks.length ≤ 1000)
    (h : ∀ t s', Inv X pins σ H s' → Q (.int ((ks.length : Nat) : Int) t) s') : wpAny (model X.prog X.w) A (call (.builtin "len") [.ref d]) Q E s := by
  obtain ⟨as, xs, e, hd1, hk, e1, e2, hm, hd, ek⟩ := x.raw I
  have hlen : (pairsH xs).length = ks.length := by rw [pairsH_length, ← ek, List.length_map]
  have hk : s.heap.DictKeyed (nestedKind X.prog X.w) d (pairsH xs) := ⟨xs, hm, rfl⟩
  refine PyProof.Rows.call_len_slot (n := ((pairsH xs).length : Int)) hm.typeIs PySem.F.slot_dict_len (fun Q' hq => len_keyed hd hk hq) (by omega) (by rw [hlen]; omega) ?_
  rw [hlen]
  exact h _ _ ((I.tok (s.toks + 1)).tok _)
theorem num_type (I : Inv X pins σ H s) {d : Addr} {ks : List NK} (x : NumD X H d ks) : s.TypeIs (.ref d) "dict" ∧ (∀ b, Value.ref d = .ref b → ∃ ob, s.heap.get? b = some ob ∧ ob.dict = none) := by
  obtain ⟨as, xs, e, hd1, hk, e1, e2, hm, hd, ek⟩ := x.raw I
  refine ⟨hm.typeIs, fun b q => ?_⟩
  cases q
  obtain ⟨o, es, ep, ho, hx, _⟩ := hm
  exact ⟨o, ho, hx.2.1⟩
theorem num_new {d : Addr} (hb : sysModules < s.heap.objs.size) (hd : d = s.heap.objs.size) {H : Hp} : ObjOk X.prog X.w H (s.heap.push { cls := .type "dict", data := .dict #[] }) d (NumO X.prog X.w d []) := by
  subst hd
  refine numO_ok ⟨beq_eq_false_iff_ne.mpr (Ne.symm (Nat.ne_of_lt hb)), [], rfl, fun i x h => by simp at h, _, #[], 0, Heap.get?_push_size _ rfl, ⟨rfl, rfl, rfl⟩, rfl, rfl, List.nodup_nil⟩
end
end WR

/-! ## R3 -/
set_option Elab.async false
set_option linter.all false
set_option maxRecDepth 100000
set_option maxHeartbeats 4000000
/-! One form for both dicts of numbers_of. -/
namespace WR
open PySem PySem.Spec PyProof.Rows L2
/-- tuples stay -/
abbrev Tups (H H' : Hp) : Prop := ∀ b xs, H b = some (.tup xs) → H' b = some (.tup xs)
structure NumKit (X : Cx) (ρ : Type) [DecidableEq ρ] where
  D : Hp → Addr → List ρ → Prop
  row : Hp → ρ → V → Prop
  dstay : ∀ {H H' : Hp} {d : Addr} {ks : List ρ}, D H d ks → H' d = H d → Tups H H' → D H' d ks
  rstay : ∀ {H H' : Hp} {r : ρ} {y : V}, row H r y → Tups H H' → row H' r y
  notTup : ∀ {H : Hp} {d : Addr} {ks : List ρ}, D H d ks → ∃ φ, H d = some (.ext φ)
  new : ∀ {pos : Pos}, PE X (.Dict [] [] pos) (fun _ H Q => ∀ p H', H p = none → (∀ b, b ≠ p → H' b = H b) → D H' p [] → Q (.ref p) H')
  len : CallR X (.builtin "len") (fun xs H Q => ∃ d ks, xs = [.ref d] ∧ D H d ks ∧ ks.length ≤ 1000 ∧ Q (.int ((ks.length : Nat) : Int)) H)
  setd : ∀ {o e f : Expr} {apos cpos : Pos} {td ty tx : TE}, PE X o td → PE X e ty → PE X f tx → M2 X o "setdefault" apos e f cpos → PE X (.Call (.Attribute o "setdefault" apos) [e, f] [] cpos)
    (fun σ H Q => td σ H fun x H1 => ∃ d ks, x = .ref d ∧ D H1 d ks ∧ ty σ H1 fun y H2 => tx σ H2 fun z H3 => ∃ ks r, D H3 d ks ∧ row H3 r y ∧ z = .int ((ks.length : Nat) : Int) ∧ ks.length ≤ 1000 ∧ ∀ v H', (∀ b, b ≠ d → H' b = H3 b) → D H' d (WC.push id ks r) → Q v H')
  get : ∀ {o i : Expr} {pos : Pos} {td ty : TE}, NoSl i → PE X o td → PE X i ty → PE X (.Subscript o i pos)
    (fun σ H Q => td σ H fun x H1 => ty σ H1 fun y H2 => ∃ d ks r, x = .ref d ∧ D H2 d ks ∧ row H2 r y ∧ r ∈ ks ∧ Q (.int ((ks.idxOf r : Nat) : Int)) H2)

section
variable {X : Cx}
theorem push_in {ρ : Type} [DecidableEq ρ] {ks : List ρ} {r : ρ} (h : r ∈ ks) : WC.push id ks r = ks := WC.push_old (by simpa using h)
theorem push_out {ρ : Type} [DecidableEq ρ] {ks : List ρ} {r : ρ} (h : r ∉ ks) : WC.push id ks r = ks ++ [r] := WC.push_new (by simpa using h)
def kitN (hu : X.A.units + 64 < cLine) : NumKit X NK where
  D := fun H d ks => NumD X H d ks
  row := IsRow
  dstay := fun x hd k => x.stay hd k
  rstay := fun x k => x.stay k
  notTup := fun ⟨as, _, h, _⟩ => ⟨_, h⟩
  new := ⟨fun pins s σ H Q I h => wpAny_Dict_empty ⟨.ref s.heap.objs.size, _, I.laid (a := s.heap.objs.size) (o := NumO X.prog X.w s.heap.objs.size []) (t' := s.toks) (fun _ _ q => Heap.get?_push_of_some _ q) (Nat.le_refl _) (num_new I.big rfl), rfl,
    h _ _ (I.hok.fresh (Nat.le_refl _)) (fun b hb => upd_ne hb) ⟨[], rfl, upd_same, fun p hp => by simp at hp⟩⟩⟩
  len := by
    intro pins s σ H xs us Q I r h
    obtain ⟨d, ks, rfl, hd, hl, q⟩ := h
    obtain ⟨u, rfl, ru⟩ := vals1 r
    cases ru
    exact num_len I hd hl fun t s' I' => ⟨.int _, H, I', ⟨t, rfl⟩, q⟩
  setd := by
    intro o e f apos cpos td ty tx ho he hf m
    refine ⟨fun pins s σ H Q I h => ?_⟩
    refine wpAny_Call_method m.base m.few m.line PySem.F.plainAttrs_dict PySem.F.slot_dict_setdefault PySem.F.type_dict_setdefault (thn (ho.run pins s σ H _ I h) fun u s1 hx => ?_)
    obtain ⟨x, H1, I1, rx, d, ks0, ex, hd, q1⟩ := hx
    subst ex
    obtain rfl : u = Value.ref d := rx
    obtain ⟨t1, t2⟩ := num_type I1 hd
    refine ⟨t1, t2, ?_⟩
    rw [m.trees]
    refine Calls.callWith_builtin rfl (Calls.evalArgs_plain (Calls.spliced_cons (thn (he.run pins s1 σ H1 _ I1 q1) fun iv s2 hy => ?_)))
    obtain ⟨y, H2, I2, ry, q2⟩ := hy
    refine Calls.spliced_cons (thn (hf.run pins s2 σ H2 _ I2 q2) fun fv s3 hz => ?_)
    obtain ⟨z, H3, I3, rz, ks, r, hd3, hr, ez, hl, q3⟩ := hz
    subst ez
    obtain ⟨tz, rfl⟩ := rz
    obtain ⟨c, ns, a, b, er, ey, h1, h2⟩ := id hr
    subst ey
    obtain rfl : iv = Value.ref a := ry
    refine Calls.spliced_nil (num_setd hu I3 hd3 hr hl (fun hin v s4 I4 hv => ?_) fun hin H' v s4 I4 hb hd4 hv => ?_)
    · obtain ⟨i, t, rfl⟩ := hv
      refine ⟨.int i, H3, I4, ⟨t, rfl⟩, q3 _ _ (fun _ _ => rfl) ?_⟩
      rw [push_in hin]
      exact hd3
    · obtain ⟨i, t, rfl⟩ := hv
      refine ⟨.int i, H', I4, ⟨t, rfl⟩, q3 _ _ hb ?_⟩
      rw [push_out hin]
      exact hd4
  get := by
    intro o i pos td ty hs ho hi
    refine ⟨fun pins s σ H Q I h => ?_⟩
    refine subD_of PySem.F.slot_dict_getitem.lookup hs (thn (ho.run pins s σ H _ I h) fun u s1 hx => ?_)
    obtain ⟨x, H1, I1, rx, q1⟩ := hx
    refine thn (hi.run pins s1 σ H1 _ I1 q1) fun iv s2 hy => ?_
    obtain ⟨y, H2, I2, ry, d, ks, r, ex, hd, hr, hin, q2⟩ := hy
    subst ex
    obtain rfl : u = Value.ref d := rx
    obtain ⟨c, ns, a, b, er, ey, h1, h2⟩ := id hr
    subst ey
    obtain rfl : iv = Value.ref a := ry
    exact ⟨(num_type I2 hd).1, num_get hu I2 hd hr hin fun t s3 I3 => ⟨.int _, H2, I3, ⟨t, rfl⟩, q2⟩⟩

/-! ### bools -/
def blLeaf (b : Bool) : Leaf := .num (if b = true then 1 else 0)
theorem blLeaf_inj {a b : Bool} (h : blLeaf a = blLeaf b) : a = b := by
  cases a <;> cases b <;> first | rfl | (revert h; decide)
theorem bl_is {P : Program} {w : World} (b : Bool) : (leafKind P w).is (blLeaf b) (.bool b) = true := by
  show Leaf.isOf (blLeaf b) (.bool b) = true
  cases b <;> rfl
def blRaw (P : Program) (w : World) (h : Heap) (d : Addr) (ks : List Bool) : Prop :=
  (d == sysModules) = false ∧ ∃ vs : List (Leaf × Value), vs.map (·.1) = ks.map blLeaf ∧ (∀ (i : Nat) x, vs[i]? = some x → ∃ t, x.2 = Value.int (i : Int) t) ∧ h.DictOf (leafKind P w) d vs
def BlO (P : Program) (w : World) (d : Addr) (ks : List Bool) : HO := .ext fun h => blRaw P w h d ks
theorem blO_ok {P : Program} {w : World} {H : Hp} {h : Heap} {d : Addr} {ks : List Bool} (r : blRaw P w h d ks) : ObjOk P w H h d (BlO P w d ks) := by
  obtain ⟨hd, vs, e1, e2, o, es, ep, ho, r2⟩ := id r
  refine ⟨r, ⟨o, ho⟩, fun h1 h2 q k => ?_⟩
  obtain ⟨hd, vs, e1, e2, o, es, ep, ho, r2⟩ := q
  exact ⟨hd, vs, e1, e2, o, es, ep, k _ ho, r2⟩
theorem valueAt_none {vs : List (Leaf × Value)} {r : Leaf} (h : r ∉ vs.map (·.1)) : valueAt vs r = none := by
  unfold valueAt
  rw [Option.map_eq_none_iff, List.find?_eq_none]
  intro x hx
  simp only [decide_eq_true_eq]
  exact fun e => h (List.mem_map.mpr ⟨x, hx, e⟩)
theorem valueAt_idx : ∀ {vs : List (Leaf × Value)} {r : Leaf}, r ∈ vs.map (·.1) → ∃ x, vs[(vs.map (·.1)).idxOf r]? = some x ∧ valueAt vs r = some x.2
  | [], r, h => by simp at h
  | x :: xs, r, h => by
    rw [List.map_cons, List.idxOf_cons]
    unfold valueAt
    rw [List.find?_cons]
    by_cases e : x.1 = r
    · rw [show (x.1 == r) = true from beq_iff_eq.mpr e, decide_eq_true e]
      exact ⟨x, rfl, rfl⟩
    · rw [show (x.1 == r) = false from beq_eq_false_iff_ne.mpr e, decide_eq_false e]
      rw [List.map_cons, List.mem_cons] at h
      obtain ⟨y, h1, h2⟩ := valueAt_idx (vs := xs) (r := r) (h.resolve_left fun q => e q.symm)
      exact ⟨y, by simpa using h1, h2⟩
theorem stored_new {vs : List (Leaf × Value)} {r : Leaf} {v : Value} (h : r ∉ vs.map (·.1)) : stored vs r v = vs ++ [(r, v)] := by
  unfold stored
  rw [if_neg]
  intro q
  obtain ⟨x, hx, e⟩ := List.any_eq_true.mp q
  exact h (List.mem_map.mpr ⟨x, hx, of_decide_eq_true e⟩)
theorem idx_blLeaf : ∀ {ks : List Bool} {b : Bool}, (ks.map blLeaf).idxOf (blLeaf b) = ks.idxOf b
  | [], _ => rfl
  | a :: ks, b => by
    rw [List.map_cons, List.idxOf_cons, List.idxOf_cons, idx_blLeaf]
    by_cases e : a = b
    · rw [show (blLeaf a == blLeaf b) = true from beq_iff_eq.mpr (congrArg _ e), show (a == b) = true from beq_iff_eq.mpr e]
    · rw [show (blLeaf a == blLeaf b) = false from beq_eq_false_iff_ne.mpr fun q => e (blLeaf_inj q), show (a == b) = false from beq_eq_false_iff_ne.mpr e]
theorem mem_blLeaf {ks : List Bool} {b : Bool} : blLeaf b ∈ ks.map blLeaf ↔ b ∈ ks :=
  ⟨fun h => by obtain ⟨c, hc, e⟩ := List.mem_map.mp h; exact blLeaf_inj e ▸ hc, fun h => List.mem_map.mpr ⟨b, h, rfl⟩⟩
theorem bl_get {pins : List (Addr × Obj)} {σ : L2.St} {H : Hp} {s : Shared} {d : Addr} {ks : List Bool} (I : Inv X pins σ H s) (hd : H d = some (BlO X.prog X.w d ks)) : blRaw X.prog X.w s.heap d ks := (I.hok d _ hd).1
def kitB (hu : X.A.units + 64 < cLine) : NumKit X Bool where
  D := fun H d ks => H d = some (BlO X.prog X.w d ks)
  row := fun _ b y => y = .bl b
  dstay := fun x hd _ => hd.trans x
  rstay := fun x _ => x
  notTup := fun h => ⟨_, h⟩
  new := ⟨fun pins s σ H Q I h => wpAny_Dict_empty ⟨.ref s.heap.objs.size, _, I.laid (a := s.heap.objs.size) (o := BlO X.prog X.w s.heap.objs.size []) (t' := s.toks) (fun _ _ q => Heap.get?_push_of_some _ q) (Nat.le_refl _)
      (blO_ok ⟨beq_eq_false_iff_ne.mpr (Ne.symm (Nat.ne_of_lt I.big)), [], rfl, fun i x h => by simp at h, Heap.DictOf.new s.heap⟩), rfl,
    h _ _ (I.hok.fresh (Nat.le_refl _)) (fun b hb => upd_ne hb) upd_same⟩⟩
  len := by
    intro pins s σ H xs us Q I r h
    obtain ⟨d, ks, rfl, hd, hl, q⟩ := h
    obtain ⟨u, rfl, ru⟩ := vals1 r
    cases ru
    obtain ⟨hdm, vs, e1, e2, dd⟩ := bl_get I hd
    have el : vs.length = ks.length := by
      have := congrArg List.length e1
      simpa using this
    refine call_len_dict hdm dd (by rw [el]; omega) ?_
    rw [el]
    exact ⟨.int _, H, (I.tok _), ⟨_, rfl⟩, q⟩
  setd := by
    intro o e f apos cpos td ty tx ho he hf m
    refine ⟨fun pins s σ H Q I h => ?_⟩
    refine wpAny_Call_method m.base m.few m.line PySem.F.plainAttrs_dict PySem.F.slot_dict_setdefault PySem.F.type_dict_setdefault (thn (ho.run pins s σ H _ I h) fun u s1 hx => ?_)
    obtain ⟨x, H1, I1, rx, d, ks0, ex, hd, q1⟩ := hx
    subst ex
    obtain rfl : u = Value.ref d := rx
    obtain ⟨_, vs0, _, _, dd0⟩ := bl_get I1 hd
    refine ⟨dd0.typeIs, fun b q => ?_, ?_⟩
    · cases q
      obtain ⟨o0, es, ep, ho0, hx0, _⟩ := dd0
      exact ⟨o0, ho0, hx0.2.1⟩
    rw [m.trees]
    refine Calls.callWith_builtin rfl (Calls.evalArgs_plain (Calls.spliced_cons (thn (he.run pins s1 σ H1 _ I1 q1) fun iv s2 hy => ?_)))
    obtain ⟨y, H2, I2, ry, q2⟩ := hy
    refine Calls.spliced_cons (thn (hf.run pins s2 σ H2 _ I2 q2) fun fv s3 hz => ?_)
    obtain ⟨z, H3, I3, rz, ks, b, hd3, hr, ez, hl, q3⟩ := hz
    subst ez hr
    obtain ⟨tz, rfl⟩ := rz
    obtain rfl : iv = Value.bool b := ry
    refine Calls.spliced_nil ?_
    obtain ⟨hdm, vs, e1, e2, dd⟩ := bl_get I3 hd3
    have el : vs.length = ks.length := by
      have := congrArg List.length e1
      simpa using this
    refine call_meetsIn PySem.F.slot_dict_setdefault dd.typeIs PySem.F.entry_dict_setdefault (PySem.F.args_dict_setdefault_3 _ _ _) (kt_meets_setdefault (leafKind X.prog X.w) d (bl_is b) hdm _) ⟨vs, dd, by rw [el]; exact Nat.le_trans hl (by decide), fun v hv => ?_, fun hn h' dd' hs => ?_⟩
    · have hin : blLeaf b ∈ vs.map (·.1) := by
        by_cases q : blLeaf b ∈ vs.map (·.1)
        · exact q
        · rw [valueAt_none q] at hv
          cases hv
      obtain ⟨x, hx1, hx2⟩ := valueAt_idx hin
      rw [hx2] at hv
      cases hv
      obtain ⟨t, ht⟩ := e2 _ _ hx1
      rw [ht]
      refine ⟨.int _, H3, (I3.tok _), ⟨t, rfl⟩, q3 _ _ (fun _ _ => rfl) ?_⟩
      rw [push_in (mem_blLeaf.mp (e1 ▸ hin))]
      exact hd3
    · have hnin : blLeaf b ∉ vs.map (·.1) := fun q => by
        obtain ⟨x, _, hx2⟩ := valueAt_idx q
        rw [hx2] at hn
        cases hn
      rw [stored_new hnin] at dd'
      have raw : blRaw X.prog X.w h' d (ks ++ [b]) := by
        refine ⟨hdm, _, ?_, fun i y hy => ?_, dd'⟩
        · rw [List.map_append, e1, List.map_append]
          rfl
        · rcases Nat.lt_or_ge i vs.length with q | q
          · rw [List.getElem?_append_left q] at hy
            exact e2 i y hy
          · rw [List.getElem?_append_right q] at hy
            have hi : i - vs.length < 1 := (List.getElem?_eq_some_iff.mp hy).1
            have hi2 : i = ks.length := by omega
            subst hi2
            rw [el, Nat.sub_self] at hy
            cases hy
            exact ⟨tz, rfl⟩
      have he' : ∃ q, h'.get? d = some q := let ⟨q, _, _, hq, _⟩ := dd'; ⟨q, hq⟩
      refine ⟨.int _, _, d_write (t' := s3.toks + 1) I3 (by rw [hd3]; exact True.intro) hs he' (blO_ok raw), ⟨tz, rfl⟩, q3 _ _ (fun c hc => upd_ne hc) ?_⟩
      rw [push_out fun q => hnin (e1 ▸ mem_blLeaf.mpr q)]
      exact upd_same
  get := by
    intro o i pos td ty hs ho hi
    refine ⟨fun pins s σ H Q I h => ?_⟩
    refine subD_of PySem.F.slot_dict_getitem.lookup hs (thn (ho.run pins s σ H _ I h) fun u s1 hx => ?_)
    obtain ⟨x, H1, I1, rx, q1⟩ := hx
    refine thn (hi.run pins s1 σ H1 _ I1 q1) fun iv s2 hy => ?_
    obtain ⟨y, H2, I2, ry, d, ks, b, ex, hd, hr, hin, q2⟩ := hy
    subst ex hr
    obtain rfl : u = Value.ref d := rx
    obtain rfl : iv = Value.bool b := ry
    obtain ⟨hdm, vs, e1, e2, dd⟩ := bl_get I2 hd
    obtain ⟨y, hy1, hy2⟩ := valueAt_idx (vs := vs) (r := blLeaf b) (by rw [e1]; exact mem_blLeaf.mpr hin)
    obtain ⟨t, ht⟩ := e2 _ _ hy1
    refine ⟨dd.typeIs, wpAny_getItem_of (bl_is b) dd.mapOf hy2 ?_⟩
    rw [ht, e1, idx_blLeaf]
    exact ⟨.int _, H2, (I2.tok _), ⟨t, rfl⟩, q2⟩
end
end WR

/-! ## R4 -/
set_option Elab.async false
set_option linter.all false
set_option maxRecDepth 100000
set_option maxHeartbeats 4000000
/-! zip of two texts; len(set(ints)); a power of a great number; a short tuple taken not at all or once; a letter many times. -/
namespace WR
open PySem PySem.Spec PyProof.Rows L2
/-! ### zip of two texts -/
def ItzS (x y : Str) : It :=
  ⟨fun i _ => i < min x.cps.size y.cps.size,
    fun i H v H' => ∃ T c d, v = .ref T ∧ H T = none ∧ H' = upd H T (.tup [.str ⟨#[c]⟩, .str ⟨#[d]⟩]) ∧ x.cps[i]? = some c ∧ y.cps[i]? = some d,
    fun i _ => i = min x.cps.size y.cps.size⟩
theorem turn_zipS {P : Program} {w : World} {K : PySem.W.Frag} {elts : List Expr} {kk : Nat} {tpos : Pos} {x y : Str} {t u : Tok} {z TI TO i1 i2 : Addr} (S : ZipSep2 z TI TO i1 i2 [i1] [i2]) :
    Turn P w K (.Tuple elts kk tpos) (ItzS x y) (z :: TI :: TO :: ([i1] ++ [i2])) z
      (fun i h => IsZip h z TI TO .none ∧ IsTupOf2 h TI (.ref i1) (.ref i2) ∧ (∃ a1 a2, IsTupOf2 h TO a1 a2) ∧ h.IsStrIter i1 (strIterType x) x t i ∧ h.IsStrIter i2 (strIterType y) y u i) where
  mem := List.mem_cons_self
  obj := fun i h st c hc => by
    obtain ⟨hz, hTI, ⟨a1, a2, hTO⟩, ⟨o1, e1, _, d1⟩, ⟨o2, e2, _, d2⟩⟩ := st
    have e' : c = z ∨ c = TI ∨ c = TO ∨ c = i1 ∨ c = i2 := by simpa using hc
    rcases e' with rfl | rfl | rfl | rfl | rfl
    · exact ⟨_, hz, fun v q => nomatch q⟩
    · exact ⟨_, hTI, fun v q => nomatch q⟩
    · exact ⟨_, hTO, fun v q => nomatch q⟩
    · exact ⟨o1, e1, fun v q => by rw [d1] at q; cases q⟩
    · exact ⟨o2, e2, fun v q => by rw [d2] at q; cases q⟩
  keep := fun i h h' st k => by
    obtain ⟨hz, hTI, ⟨a1, a2, hTO⟩, ⟨o1, e1, r1⟩, ⟨o2, e2, r2⟩⟩ := st
    exact ⟨k z (by simp) _ hz, k TI (by simp) _ hTI, ⟨a1, a2, k TO (by simp) _ hTO⟩, ⟨o1, k i1 (by simp) _ e1, r1⟩, ⟨o2, k i2 (by simp) _ e2, r2⟩⟩
  item := by
    intro X hP hw hK hc i pins s σ H E I hf st hg
    subst hP hw hK
    have hh : X.A.in1.handled = none := I.ok.hd hc
    have G := GoesN.zip2 (prog := X.prog) (w := X.w) (A := X.A) (elts := elts) (x1 := kk) (pos := tpos) S (Draws.text hh i1 x t) (Draws.text hh i2 y u)
    have obj : ∀ b ∈ (z :: TI :: TO :: ([i1] ++ [i2])), ∃ o, s.heap.get? b = some o := fun b hb => by
      obtain ⟨hz, hTI, ⟨a1, a2, hTO⟩, ⟨o1, e1, _⟩, ⟨o2, e2, _⟩⟩ := st
      have e' : b = z ∨ b = TI ∨ b = TO ∨ b = i1 ∨ b = i2 := by simpa using hb
      rcases e' with rfl | rfl | rfl | rfl | rfl
      · exact ⟨_, hz⟩
      · exact ⟨_, hTI⟩
      · exact ⟨_, hTO⟩
      · exact ⟨_, e1⟩
      · exact ⟨_, e2⟩
    refine wpAny_mono (G.goes i s (fun v s2 => ∃ z' H', Inv X pins σ H' s2 ∧ RelV z' v ∧ (ItzS x y).yld i H z' H' ∧ _ ∧ ∀ b ∈ (z :: TI :: TO :: ([i1] ++ [i2])), H' b = none) E hg st fun v h' tk hY st' hk _ => ?_) (fun r s1 h => h) fun _ _ h => h
    obtain ⟨T, a, b, rfl, hT, ⟨c, u1, hc1, rfl⟩, ⟨d, u2, hc2, rfl⟩, o, ho, hcl, n, hd⟩ := hY
    have new : ObjOk X.prog X.w (upd H T (.tup [.str ⟨#[c]⟩, .str ⟨#[d]⟩])) h' T (.tup [.str ⟨#[c]⟩, .str ⟨#[d]⟩]) :=
      ⟨by show 2 ≤ sizeLine; decide, [.str ⟨#[c]⟩ u1, .str ⟨#[d]⟩ u2], .cons ⟨_, rfl⟩ (.cons ⟨_, rfl⟩ .nil), o, ho, hcl, n, hd⟩
    have I1 := I.turnedNew (t' := tk) (ch := [z, TO, i1, i2]) (T := T) (ob := .tup [.str ⟨#[c]⟩, .str ⟨#[d]⟩]) hk (fun b hb => hf b (by
      have e' : b = z ∨ b = TO ∨ b = i1 ∨ b = i2 := by simpa using hb
      rcases e' with rfl | rfl | rfl | rfl <;> simp)) hT new
    refine ⟨.ref T, _, I1, rfl, ⟨T, c, d, rfl, I.hok.fresh hT, rfl, hc1, hc2⟩, st', fun b hb => ?_⟩
    obtain ⟨o', ho'⟩ := obj b hb
    rw [upd_ne (Nat.ne_of_lt (Nat.lt_of_lt_of_le (Heap.lt_size ho') hT))]
    exact (hf b hb).1
  done := by
    intro X hP hw hK hc i pins s σ H E I hf st hg
    subst hP hw hK
    have hh : X.A.in1.handled = none := I.ok.hd hc
    have G := GoesN.zip2 (prog := X.prog) (w := X.w) (A := X.A) (elts := elts) (x1 := kk) (pos := tpos) S (Draws.text hh i1 x t) (Draws.text hh i2 y u)
    have e : i = min x.cps.size y.cps.size := hg
    subst e
    refine G.stops s (fun s' => Inv X pins σ H s') E st fun h' tk hk _ => ?_
    have obj : ∀ b ∈ [z, TO, i1, i2], FpOk X pins H b := fun b hb => hf b (by
      have e' : b = z ∨ b = TO ∨ b = i1 ∨ b = i2 := by simpa using hb
      rcases e' with rfl | rfl | rfl | rfl <;> simp)
    refine I.step (g' := s.gens) (d' := s.drawn) (ch := [z, TO, i1, i2]) (fun b hb => ⟨(obj b hb).2.2.2.1, (obj b hb).2.1, (obj b hb).2.2.2.2.1, (obj b hb).2.2.2.2.2⟩) (fun b o _ _ hc e _ => hk b o hc e) (fun b o _ _ hc e _ => ⟨o.slots, hk b o hc e⟩)
      (fun b o _ e n => n) (fun b o hc e => ⟨o, hk b o hc e⟩) (fun _ _ e => e) (fun _ _ _ e => e) (fun b ps e => ⟨#[], by rw [e]; simp⟩) (fun m hm => ?_) (fun b ob e => ?_) I.bare
    · obtain ⟨o, es, ep, ho, r⟩ := hm
      exact ⟨o, es, ep, hk _ o (fun z' => (obj _ z').2.1 rfl) ho, r⟩
    · have nit : ∀ b u, H b = some u → b ∉ [z, TO, i1, i2] := fun b u e z' => by
        rw [(obj b z').1] at e
        cases e
      refine (I.hok b ob e).stay (fun c v hc q => hk c v ?_ q) (fun _ q => q) fun _ _ q => q
      rcases hc with rfl | hc
      · exact nit _ _ e
      · exact nit _ _ hc
  self := fun A i s Q E st h => wpAny_pyIter_zip st.1 h
def iZipS (ta : TA) : TI := fun σ H R => ta σ H fun vs H1 => ∃ x y : Str, vs = [.str x, .str y] ∧ R (ItzS x y) H1
theorem pi_zipS {X : Cx} {e e2 : Expr} {ta : TA} {p pos tpos : Pos} {elts : List Expr} {kk : Nat} (hg : Gl X "zip") (hm : X.mg "zip" = none) (ha : PA X [e, e2] ta)
    (hs : starEach [e, e2] X.env = (false, eval e X.env) :: starEach [e2] X.env := by rfl) (hpl : (backTo pos (starEach [e2] X.env)).any (·.1) = false := by rfl) :
    PI X (.Tuple elts kk tpos) (.Call (.Name "zip" p) [e, e2] [] pos) (iZipS ta) := by
  refine ⟨fun pins s σ H R I h => ?_⟩
  refine Call_ (ld_blt I hg hm PyProof.Rows.boot_zip (PyProof.Rows.callWith_type1 (thn (ha.run pos pins s σ H _ I h) fun us s1 hv => ?_) hs hpl))
  obtain ⟨vs, H1, I1, r1, x, y, ex, q⟩ := hv
  subst ex
  obtain ⟨u1, u2, rfl, rx, ry⟩ := vals2 r1
  obtain ⟨t, rfl⟩ := rx
  obtain ⟨u, rfl⟩ := ry
  refine zip_begins2 (begins_text x t) (begins_text y u) trivial trivial fun h' hz hTI hTO h1 h2 hsz hk => wpAny_pyIter_zip hz ?_
  have I2 : Inv X pins σ H1 { s1 with heap := h' } := I1.kept (t' := s1.toks) hk
  have S : ZipSep2 (s1.heap.objs.size + 4) (s1.heap.objs.size + 2) (s1.heap.objs.size + 3) s1.heap.objs.size (s1.heap.objs.size + 1) [s1.heap.objs.size] [s1.heap.objs.size + 1] := zip_sep2 (N := s1.heap.objs.size) (fp1 := []) (fp2 := []) (by simp) (by simp)
  refine ⟨s1.heap.objs.size + 4, _, _, ItzS x y, H1, rfl, I2, turn_zipS (x := x) (y := y) (t := t) (u := u) S, ⟨hz, hTI, ⟨_, _, hTO⟩, ⟨_, h1, rfl, rfl⟩, ⟨_, h2, rfl, rfl⟩⟩, fun b hb => ?_, q⟩
  have e' : b = s1.heap.objs.size + 4 ∨ b = s1.heap.objs.size + 2 ∨ b = s1.heap.objs.size + 3 ∨ b = s1.heap.objs.size ∨ b = s1.heap.objs.size + 1 := by simpa using hb
  have hle : s1.heap.objs.size ≤ b := by
    rcases e' with rfl | rfl | rfl | rfl | rfl
    · exact Nat.le_add_right _ _
    · exact Nat.le_add_right _ _
    · exact Nat.le_add_right _ _
    · exact Nat.le_refl _
    · exact Nat.le_add_right _ _
  exact I1.fpOk hle (I1.hok.fresh hle)

/-! ### len(set(xs)), xs a list of ints -/
theorem firstMet_dd (ns : List Int) : PyProof.Rows.firstMet (fun i => ns.getD i 0) ns.length = WC.dd ns := by
  have e : (List.range ns.length).map (fun i => ns.getD i 0) = ns := by
    refine List.ext_getElem (by simp) fun i h1 h2 => ?_
    rw [List.getElem_map, List.getElem_range, List.getD_eq_getElem?_getD, List.getElem?_eq_getElem h2]
    rfl
  unfold PyProof.Rows.firstMet WC.dd WC.pushs
  rw [e]
  congr 1
  funext q x
  unfold PyProof.Rows.step_dedup WC.push
  by_cases h : x ∈ q
  · rw [if_pos (List.any_eq_true.mpr ⟨x, h, by simp⟩), if_pos (by simpa using h)]
  · rw [if_neg (fun hq => by obtain ⟨y, hy, e⟩ := List.any_eq_true.mp hq; exact h (eq_of_beq e ▸ hy)), if_neg (by simpa using h)]
section
variable {X : Cx}
def tLenSet2 (K : PySem.W.Frag) (ta : TE) : TE := fun σ H Q => ta σ H fun x H1 => ∃ (l : Addr) (ns : List Int), x = V.ref l ∧ SqL K H1 l (ns.map V.int) ∧ ns.length < 64 ∧ Q (.int ((WC.dd ns).length : Nat)) H1
theorem dd_le {α : Type} [DecidableEq α] (xs : List α) : (WC.dd xs).length ≤ xs.length := WC.nodup_len (WC.nodup_dd xs) fun x hx => WC.mem_dd.mp hx
theorem pe_lenSet2 {a : Expr} {ta : TE} {p p2 q pos : Pos} (hc : X.calm = true) (hg : Gl X "len") (hm : X.mg "len" = none) (hg2 : Gl X "set") (hm2 : X.mg "set" = none) (ha : PE X a ta)
    (na : starEach [a] X.env = (false, eval a X.env) :: starEach [] X.env := by rfl) : PE X (.Call (.Name "len" p) [.Call (.Name "set" p2) [a] [] q] [] pos) (tLenSet2 X.K ta) := by
  refine ⟨fun pins s σ H Q I h => ?_⟩
  refine Call_ (ld_blt I hg hm PySem.boot_len (PyProof.Rows.callWith_builtin1 (PyProof.Rows.args_cons ?_ rfl) rfl rfl))
  refine Call_ (ld_blt I hg2 hm2 PyProof.Rows.boot_set (PyProof.Rows.callWith_type1 (PyProof.Rows.args_cons (thn (ha.run pins s σ H _ I h) fun v s1 hv => PyProof.Rows.args_nil ?_) na) na rfl))
  obtain ⟨x, H1, I1, r1, l, ns, rfl, hq, h1, q1⟩ := hv
  cases r1
  obtain ⟨its, r, pl, hz⟩ := I1.list hq
  have hl : its.toArray.size = ns.length := by rw [List.size_toArray, ← r.length, List.length_map]
  refine call_set_list (I1.ok.hd hc) pl.isList (ns := ns) (by simpa using r.ints) (by unfold scanBound; omega) fun h' tk hS hk => ?_
  rw [hl, firstMet_dd] at hS
  refine PyProof.Rows.args_nil ?_
  obtain ⟨o, es, ep, t, ho, hex, hd, _, _, _, hf, hn⟩ := hS
  have I2 : Inv X pins σ H1 { s1 with heap := h', toks := tk } := I1.kept fun b o e => hk b o (Heap.lt_size e) e
  have hle := dd_le ns
  exact call_len_set ho hex hd hf (by rw [hn]; omega) ⟨.int ((WC.dd ns).length : Nat), H1, I2.tok _, ⟨_, by rw [hn]⟩, q1⟩

/-! ### powers of great numbers -/
theorem op_powW : OpR X (binaryOp .Pow) (rI (fun i j => 0 ≤ j ∧ (Builtin.Int.intBits i : Int) * j ≤ 2 ^ 27) fun i j => .int (i ^ j.toNat)) := opI fun _ _ _ _ _ _ _ hc q => pow_int hc.1 hc.2 q
end
end WR

/-! ## R5 -/
set_option Elab.async false
set_option linter.all false
set_option maxRecDepth 100000
set_option maxHeartbeats 4000000
/-! A short tuple taken not at all or once; a letter many times; list(d.values()); == of two dicts of tuples of ints. -/
namespace WR
open PySem PySem.Spec PyProof.Rows L2
open AutoSeq1 (wpAny_loadPart')
/-! ### (x,) * 0, (x,) * 1 -/
theorem tuple_mul0 (l : Addr) (items : Array Value) (n : Nat) (dd : Option Addr) (sl : Array (Option Value)) (u : Tok) (c1 : items.isEmpty = false) :
    Meets (Builtin.«tuple.__mul__» ⟨[.ref l, .int 0 u], []⟩) (fun _ R s => s.heap.get? l = some { cls := .type "tuple", dict := dd, data := .seq items n, slots := sl } ∧
      R (.ok (.ret (Value.ref s.heap.objs.size))) { s with heap := s.heap.push { cls := Value.type "tuple", data := Data.seq #[] }, toks := s.toks }) :=
  .of_wp fun prog w A R s h => by
    obtain ⟨hp, g, d, tk, os⟩ := s
    obtain ⟨hl, h⟩ := h
    have f1 := AutoSeq1.idx_int
    wp_walk using wpAny_loadPart' hl
    repeat (first
      | (refine wpAny_ite_false (decide_eq_false (by simp [c1])) ?_; wp_walk using wpAny_loadPart' hl)
      | (refine wpAny_ite_true (decide_eq_true (by simp)) ?_; wp_walk using wpAny_loadPart' hl))
    exact ⟨_, rfl, h⟩
theorem tuple_mul1 (l : Addr) (items : Array Value) (n : Nat) (dd : Option Addr) (sl : Array (Option Value)) (u : Tok) :
    Meets (Builtin.«tuple.__mul__» ⟨[.ref l, .int 1 u], []⟩) (fun _ R s => s.heap.get? l = some { cls := .type "tuple", dict := dd, data := .seq items n, slots := sl } ∧
      R (.ok (.ret (Value.ref l))) s) :=
  .of_wp fun prog w A R s h => by
    obtain ⟨hp, g, d, tk, os⟩ := s
    obtain ⟨hl, h⟩ := h
    have f1 := AutoSeq1.idx_int
    wp_walk using wpAny_loadPart' hl
    repeat (first
      | (refine wpAny_ite_false (decide_eq_false (by simp)) ?_; wp_walk using wpAny_loadPart' hl)
      | (refine wpAny_ite_true (decide_eq_true (by simp)) ?_; wp_walk using wpAny_loadPart' hl))
    exact ⟨_, rfl, h⟩
section
variable {X : Cx}
def rRep01 : R2 := fun x y H Q => ∃ l k xs, x = .ref l ∧ y = .int k ∧ H l = some (.tup xs) ∧ xs ≠ [] ∧ (k = 0 ∨ k = 1) ∧ (k = 0 → ∀ p, H p = none → Q (.ref p) (upd H p (.tup []))) ∧ (k = 1 → Q (.ref l) H)
theorem op_rep01 : OpR X (binaryOp .Mult) rRep01 := by
  intro pins s σ H x y v u Q I rx ry h
  obtain ⟨l, k, xs, rfl, rfl, hT, hne, hk, q0, q1⟩ := h
  cases rx
  obtain ⟨t, rfl⟩ := ry
  obtain ⟨its, r, ⟨⟨cls, dd, data, sl⟩, ho, hc, n, hd⟩, hs⟩ := I.tuple (.inl (.inl hT))
  simp only at hc hd
  subst hc hd
  have hi : its.toArray.isEmpty = false := by
    cases r with
    | nil => exact absurd rfl hne
    | cons a b => rfl
  rcases hk with rfl | rfl
  · refine wpAny_binaryOp_repeat_ref (T := "tuple") (U := "int") (by decide) ⟨_, ho, rfl⟩ (fun s' => typeIs_int s' 0 t) noFill_tuple_mul F.fills_int_mul F.slot_int_rmul repeat_tuple F.slot_int_index.lookup
      (call_meets F.slot_int_rmul (typeIs_int s 0 t) F.entry_int_rmul (F.args_int_rmul_2 _ _) (int_rmul_tuple 0 t l its.toArray n dd sl)
        ⟨ho, rfl, ⟨_, ho, rfl⟩, call_meets F.slot_tuple_mul ⟨_, ho, rfl⟩ F.entry_tuple_mul (F.args_tuple_mul_2 _ _) (tuple_mul0 l its.toArray n dd sl t hi) ⟨ho, ?_⟩⟩)
    exact ⟨.ref s.heap.objs.size, _, I.laid (t' := s.toks) (o := .tup []) (fun b ob q => Heap.get?_push_of_some _ q) (Nat.le_refl _) ⟨Nat.zero_le _, [], .nil, IsTup.new _ _⟩, rfl, q0 rfl _ (I.hok.fresh (Nat.le_refl _))⟩
  · refine wpAny_binaryOp_repeat_ref (T := "tuple") (U := "int") (by decide) ⟨_, ho, rfl⟩ (fun s' => typeIs_int s' 1 t) noFill_tuple_mul F.fills_int_mul F.slot_int_rmul repeat_tuple F.slot_int_index.lookup
      (call_meets F.slot_int_rmul (typeIs_int s 1 t) F.entry_int_rmul (F.args_int_rmul_2 _ _) (int_rmul_tuple 1 t l its.toArray n dd sl)
        ⟨ho, rfl, ⟨_, ho, rfl⟩, call_meets F.slot_tuple_mul ⟨_, ho, rfl⟩ F.entry_tuple_mul (F.args_tuple_mul_2 _ _) (tuple_mul1 l its.toArray n dd sl t) ⟨ho, ?_⟩⟩)
    exact ⟨.ref l, H, I, rfl, q1 rfl⟩
/-- one letter many times -/
theorem op_mul_str : OpR X (binaryOp .Mult) (fun x y H Q => ∃ (c : Nat) (n : Nat), x = .str ⟨#[c]⟩ ∧ y = .int n ∧ 2 ≤ n ∧ n ≤ 1000 ∧ Q (.str ⟨(List.replicate n c).toArray⟩) H) := by
  intro pins s σ H x y v u Q I rx ry h
  obtain ⟨c, n, rfl, rfl, h1, h2, q⟩ := h
  obtain ⟨t, rfl⟩ := rx
  obtain ⟨t', rfl⟩ := ry
  have hlen : (⟨#[c]⟩ : Str).length = 1 := rfl
  have e : (List.replicate n (#[c] : Array Nat)).foldl (· ++ ·) #[] = (List.replicate n c).toArray := by
    have key : ∀ (m : Nat) (acc : Array Nat), (List.replicate m (#[c] : Array Nat)).foldl (· ++ ·) acc = acc ++ (List.replicate m c).toArray := by
      intro m
      induction m with
      | zero => intro acc; simp
      | succ m ih =>
        intro acc
        rw [List.replicate_succ, List.foldl_cons, ih, List.replicate_succ, Array.append_assoc]
        congr 1
        rw [← Array.toList_inj]
        simp
    rw [key]
    simp
  refine P.mul_str (by rw [decide_eq_false (by omega), decide_eq_false (by omega)]; rfl) (fun _ _ => ?_) (fun _ _ => ?_) ?_
  · rw [hlen]
    have : (1 : Int) ≤ (2 ^ 63 - 1) / (n : Int) := by
      rw [Int.le_ediv_iff_mul_le (by omega)]
      omega
    omega
  · rw [hlen, Nat.one_mul, Int.toNat_natCast]
    unfold PySem.Builtin.Str.tooLong
    rw [sizeLine_eq]
    exact decide_eq_false (by omega)
  · rw [if_neg (by omega), if_neg (by
      rw [hlen, show ((n : Int) == 1) = false from beq_eq_false_iff_ne.mpr (by omega)]
      decide), Int.toNat_natCast]
    have e2 : (⟨(List.replicate n (#[c] : Array Nat)).foldl (· ++ ·) #[]⟩ : Str) = ⟨(List.replicate n c).toArray⟩ := by rw [e]
    show Made.post (Made.str ⟨(List.replicate n (#[c] : Array Nat)).foldl (· ++ ·) #[]⟩) _ s
    rw [e2]
    exact ⟨by rw [sizeLine_eq]; show (List.replicate n c).toArray.size ≤ _; simp; omega, .str _, H, I.tok _, ⟨_, rfl⟩, q⟩

/-! ### list(d.values()) -/
def tListVals (te : TE) : TE := fun σ H Q => te σ H fun x H1 => ∃ (d : Addr) (kvs : List (Key × V)), x = .ref d ∧ H1 d = some (.dK kvs) ∧ ∀ p, H1 p = none → Q (.ref p) (upd H1 p (.lst (kvs.map (·.2))))
theorem kv_get : ∀ {kvs : List (Key × V)} {vs : List (Key × Value)} {i : Nat} {p : Key × Value}, KV kvs vs → vs[i]? = some p → ∃ q, kvs[i]? = some q ∧ RelV q.2 p.2
  | _, _, _, _, .nil, e => by simp at e
  | q :: _, _, 0, _, .cons r _, e => by simp at e; subst e; exact ⟨q, rfl, r.2⟩
  | _ :: _, _ :: _, i + 1, p, .cons _ t, e => by
    obtain ⟨q, h1, h2⟩ := kv_get (i := i) (p := p) t (by simpa using e)
    exact ⟨q, by simpa using h1, h2⟩
theorem vals_of : ∀ {xs : List V} {us : List Value}, xs.length = us.length → (∀ (i : Nat) u, us[i]? = some u → ∃ x, xs[i]? = some x ∧ RelV x u) → Vals xs us
  | [], [], _, _ => .nil
  | [], _ :: _, h, _ => by simp at h
  | _ :: _, [], h, _ => by simp at h
  | x :: xs, u :: us, hl, h => by
    obtain ⟨y, e, r⟩ := h 0 u rfl
    simp at e
    subst e
    exact .cons r (vals_of (by simpa using hl) fun i v hv => by
      obtain ⟨z, h1, h2⟩ := h (i + 1) v (by simpa using hv)
      exact ⟨z, by simpa using h1, h2⟩)
theorem pe_listVals {e : Expr} {te : TE} {p apos cpos pos : Pos} (hc : X.calm = true) (he : PE X e te) (hg : Gl X "list") (hm : X.mg "list" = none) (hv : bootBuiltins "list" = some (.type "list") := by decide +kernel) (hbase : attributeBase e "values" X.env (eval e X.env) = eval e X.env := by rfl) (hline : (apos.endLine == cpos.line) = true := by rfl)
    (hs : starEach [.Call (.Attribute e "values" apos) [] [] cpos] X.env = (false, eval (.Call (.Attribute e "values" apos) [] [] cpos) X.env) :: starEach [] X.env := by rfl) :
    PE X (.Call (.Name "list" p) [.Call (.Attribute e "values" apos) [] [] cpos] [] pos) (tListVals te) := by
  refine ⟨fun pins s σ H Q I hq => ?_⟩
  refine wpAny_Call_Name_kw (ld_blt I hg hm hv (PyProof.Rows.callWith_type1 ?_ hs rfl))
  rw [hs]
  show wpAny _ _ (spliced ((false, eval (.Call (.Attribute e "values" apos) [] [] cpos) X.env) :: backTo pos (starEach [] X.env))) _ _ s
  refine Calls.spliced_cons (wpAny_Call_method (T := "dict") (id := "dict.values") hbase rfl hline PySem.F.plainAttrs_dict PySem.F.slot_dict_values PySem.F.type_dict_values (thn (he.run pins s σ H _ I hq) fun u s1 hx => ?_))
  obtain ⟨x, H1, I1, rx, d, kvs, ex, hd, q⟩ := hx
  subst ex
  obtain rfl : u = Value.ref d := rx
  obtain ⟨hz, hs0, vs, kv, hdo⟩ := I1.hok d _ hd
  obtain ⟨ep, hat⟩ := hdo.dictAt
  have lk : kvs.length = vs.length := Paired.length kv
  have I2 : Inv X pins σ H1 { s1 with heap := s1.heap.push { cls := .type "dict_values", data := .fields #[.ref d] } } := I1.kept (t' := s1.toks) fun b ob q => Heap.get?_push_of_some _ q
  refine ⟨hdo.typeIs, hdo.mapOf.noDict, ?_⟩
  show wpAny _ _ (callWith cpos (.builtin "dict.values") [.ref d] [] []) _ X.xe s1
  refine method_meetsIn PySem.F.slot_dict_values PySem.F.entry_dict_values rfl (PySem.evalArgs_none ⟨rfl, hdo.typeIs, PySem.F.args_dict_values_1 _, _, meets_dict_values (mixKind X.prog X.w) d hs0, ⟨vs, hdo⟩, Calls.spliced_nil ?_⟩)
  refine PySem.W.kdl_call (PySem.W.kdl_values (knd := mixKind X.prog X.w) (kvs := vs) (ep := ep) (r := s1.heap.objs.size) (d := d)) (I1.ok.hd hc) ⟨⟨_, Heap.get?_push_size _ rfl, rfl, rfl⟩, hat.push _⟩ (by omega) fun h' tk acc c hk hS hacc => ?_
  have I3 : Inv X pins σ (upd H1 (s1.heap.push { cls := .type "dict_values", data := .fields #[.ref d] }).objs.size (.lst (kvs.map (·.2)))) { s1 with heap := h', toks := tk } := by
    refine I2.laid (t' := tk) hk (Nat.le_refl _) ⟨by rw [List.length_map]; exact hz, acc.toList, c, vals_of ?_ fun i v hv => ?_, ?_⟩
    · have e1 : acc.toList.length = acc.size := by simp
      rw [List.length_map, e1, hacc.1, lk]
    · obtain ⟨k, hk2⟩ := hacc.2 i v (by rw [← Array.getElem?_toList]; exact hv)
      obtain ⟨q', h1, h2⟩ := kv_get kv hk2
      exact ⟨q'.2, by rw [List.getElem?_map, h1]; rfl, h2⟩
    · rw [Array.toArray_toList]
      exact hS
  exact ⟨.ref _, _, I3, rfl, q _ (I2.hok.fresh (Nat.le_refl _))⟩
end
end WR

/-! ## R6 -/
set_option Elab.async false
set_option linter.all false
set_option maxRecDepth 100000
set_option maxHeartbeats 4000000
/-! How readers and plain readers stand in the heap; == of two dicts of moves; what repr gives. -/
namespace WR
open PySem PySem.Spec PyProof.Rows L2 WC
def iv (ns : List Nat) : List V := ns.map fun (n : Nat) => V.int (n : Int)
theorem iv_len (ns : List Nat) : (iv ns).length = ns.length := List.length_map _
theorem iv_get {ns : List Nat} {i : Nat} (h : i < ns.length) : (iv ns)[i]? = some (V.int ((ns[i] : Nat) : Int)) := by
  unfold iv
  rw [List.getElem?_map, List.getElem?_eq_getElem h]
  rfl
theorem iv_ints (ns : List Nat) : iv ns = (ns.map fun n : Nat => (n : Int)).map V.int := by
  unfold iv
  rw [List.map_map]
  rfl
def ltr (c : Nat) : Str := ⟨#[c]⟩
theorem ltr_inj {c d : Nat} (h : ltr c = ltr d) : c = d := by
  unfold ltr at h
  injection h with h
  have := congrArg Array.toList h
  simpa using this
def txt (cs : List Nat) : Str := ⟨cs.toArray⟩
theorem txt_inj {cs ds : List Nat} (h : txt cs = txt ds) : cs = ds := by
  unfold txt at h
  injection h with h
  have := congrArg Array.toList h
  simpa using this
def mkv (cs : List Nat) (as : List Addr) : List (Key × V) := (cs.zip as).map fun p => (Sum.inr (ltr p.1), V.ref p.2)
abbrev RowsAt (H : Hp) : List Addr → List (List Nat) → Prop := Paired fun a r => H a = some (.tup (iv r))
/-- at d a dict from the letters cs to the rows -/
def MovesAt (H : Hp) (d : Addr) (cs : List Nat) (rows : List (List Nat)) : Prop := ∃ as : List Addr, as.length = cs.length ∧ H d = some (.dK (mkv cs as)) ∧ RowsAt H as rows
/-- letters -/
structure Ltrs (cs : List Nat) : Prop where
  pos : 0 < cs.length
  few : cs.length ≤ 3
  small : ∀ c ∈ cs, 97 ≤ c ∧ c ≤ 122
  asc : cs.Pairwise (· < ·)
theorem Ltrs.nodup {cs : List Nat} (h : Ltrs cs) : cs.Nodup := h.asc.imp fun h => Nat.ne_of_lt h
/-- a machine over the letters, of at most so many states -/
structure Good (cs : List Nat) (M : Mch) : Prop where
  ltrs : Ltrs cs
  wf : M.WF
  k : M.k = cs.length
  few : M.n ≤ 60
def rdrF (z : Str) (d y : Addr) : List (Str × V) := [("own_letters", .str z), ("own_moves", .ref d), ("own_yes", .ref y)]
/-- at p a reader of the class at C -/
def RdrAt (C : Addr) (H : Hp) (p : Addr) (cs : List Nat) (M : Mch) : Prop := Good cs M ∧ ∃ dx d y, H p = some (.ins C dx (rdrF (txt cs) d y)) ∧ MovesAt H d cs M.ways ∧ H y = some (.tup (iv M.good))
/-- at p a plain reader -/
def PlainAt (H : Hp) (p : Addr) (cs : List Nat) (M : Mch) : Prop := Good cs M ∧ ∃ d y, H p = some (.dK [(Sum.inr "signs", .str (txt cs)), (Sum.inr "ways", .ref d), (Sum.inr "good", .ref y)]) ∧ MovesAt H d cs M.ways ∧ H y = some (.tup (iv M.good))
/-- what stood stands, but for what stands at c -/
def SameBut (c : Addr) (H H' : Hp) : Prop := ∀ b o, b ≠ c → H b = some o → H' b = some o
section
variable {H H' : Hp}
theorem Same.upd {p : Addr} {o : HO} (h : H p = none) : Same H (L2.upd H p o) := fun b x e => by
  rw [upd_ne (ne_of_none e h)]
  exact e
theorem RowsAt.same (e : Same H H') : ∀ {as : List Addr} {rows : List (List Nat)}, RowsAt H as rows → RowsAt H' as rows
  | _, _, .nil => .nil
  | _, _, .cons r t => .cons (e _ _ r) (RowsAt.same e t)
theorem RowsAt.tups (e : ∀ b xs, H b = some (.tup xs) → H' b = some (.tup xs)) : ∀ {as : List Addr} {rows : List (List Nat)}, RowsAt H as rows → RowsAt H' as rows
  | _, _, .nil => .nil
  | _, _, .cons r t => .cons (e _ _ r) (RowsAt.tups e t)
theorem RowsAt.len {as : List Addr} {rows : List (List Nat)} (h : RowsAt H as rows) : as.length = rows.length := Paired.length h
theorem RowsAt.get : ∀ {as : List Addr} {rows : List (List Nat)} {i : Nat} {a : Addr}, RowsAt H as rows → as[i]? = some a → ∃ r, rows[i]? = some r ∧ H a = some (.tup (iv r))
  | _, _, _, _, .nil, e => by simp at e
  | _, r :: _, 0, _, .cons h _, e => by simp at e; subst e; exact ⟨r, rfl, h⟩
  | _ :: _, _ :: _, i + 1, a, .cons _ t, e => by
    obtain ⟨r, h1, h2⟩ := RowsAt.get (i := i) (a := a) t (by simpa using e)
    exact ⟨r, by simpa using h1, h2⟩
theorem MovesAt.same (e : Same H H') {d : Addr} {cs : List Nat} {rows : List (List Nat)} : MovesAt H d cs rows → MovesAt H' d cs rows
  | ⟨as, h1, h2, h3⟩ => ⟨as, h1, e _ _ h2, RowsAt.same e h3⟩
theorem RdrAt.same (e : Same H H') {C p : Addr} {cs : List Nat} {M : Mch} : RdrAt C H p cs M → RdrAt C H' p cs M
  | ⟨g, dx, d, y, h1, h2, h3⟩ => ⟨g, dx, d, y, e _ _ h1, h2.same e, e _ _ h3⟩
theorem PlainAt.same (e : Same H H') {p : Addr} {cs : List Nat} {M : Mch} : PlainAt H p cs M → PlainAt H' p cs M
  | ⟨g, d, y, h1, h2, h3⟩ => ⟨g, d, y, e _ _ h1, h2.same e, e _ _ h3⟩
theorem mkv_len {cs : List Nat} {as : List Addr} (h : as.length = cs.length) : (mkv cs as).length = cs.length := by
  unfold mkv
  rw [List.length_map, List.length_zip, h]
  exact Nat.min_self _
theorem mkv_get {cs : List Nat} {as : List Addr} (h : as.length = cs.length) {i : Nat} (hi : i < cs.length) : (mkv cs as)[i]? = some (Sum.inr (ltr cs[i]), V.ref (as[i]'(h ▸ hi))) := by
  unfold mkv
  rw [List.getElem?_map, List.getElem?_eq_getElem (by rw [List.length_zip]; omega), List.getElem_zip]
  rfl
theorem mkv_val : ∀ {cs : List Nat} {as : List Addr}, as.length = cs.length → cs.Nodup → ∀ {i : Nat} (hi : i < cs.length) (ha : i < as.length), valV (mkv cs as) (Sum.inr (ltr cs[i])) = some (.ref as[i])
  | [], _, _, _, i, hi, _ => absurd hi (Nat.not_lt_zero _)
  | _ :: _, [], h, _, _, _, _ => by simp at h
  | c :: cs, a :: as, h, hn, i, hi, ha => by
    unfold valV mkv
    rw [List.zip_cons_cons, List.map_cons, List.find?_cons]
    cases i with
    | zero =>
      rw [show (decide ((Sum.inr (ltr c) : Key) = Sum.inr (ltr (c :: cs)[0]))) = true from decide_eq_true rfl]
      rfl
    | succ i =>
      obtain ⟨h1, h2⟩ := List.nodup_cons.mp hn
      have hi' : i < cs.length := by simpa using hi
      have hne : ¬ (Sum.inr (ltr c) : Key) = Sum.inr (ltr (c :: cs)[i + 1]) := fun q => by
        injection q with q
        have := ltr_inj q
        rw [List.getElem_cons_succ] at this
        exact h1 (this ▸ List.getElem_mem hi')
      rw [decide_eq_false hne]
      exact mkv_val (cs := cs) (as := as) (by simpa using h) h2 hi' (by simpa using ha)
theorem mkv_keys {cs : List Nat} {as : List Addr} (h : as.length = cs.length) : (mkv cs as).map (·.1) = cs.map fun c => (Sum.inr (ltr c) : Key) := by
  refine List.ext_getElem? fun i => ?_
  rw [List.getElem?_map, List.getElem?_map]
  by_cases hi : i < cs.length
  · rw [mkv_get h hi, List.getElem?_eq_getElem hi]
    rfl
  · rw [List.getElem?_eq_none (by rw [mkv_len h]; omega), List.getElem?_eq_none (by omega)]
    rfl
end

/-! ### == of two dicts of moves -/
def dints (ns : List Nat) : List PyData := ns.map fun n : Nat => .int (n : Int)
theorem dp_ints {K : PySem.W.Frag} {H : Hp} : ∀ (ns : List Nat), DpAll K H (iv ns) (dints ns)
  | [] => .nil
  | n :: ns => .cons (.int _) (dp_ints ns)
theorem lay_ints : ∀ (ns : List Nat), PyData.canLayAll0 (dints ns) = true
  | [] => rfl
  | n :: ns => by
    show (PyData.canLay0 (.int (n : Int)) && PyData.canLayAll0 (dints ns)) = true
    rw [lay_ints ns]
    rfl
theorem eqv_ints : ∀ (ns ms : List Nat), PyData.eqvAll (dints ns) (dints ms) = decide (ns = ms)
  | [], [] => by simp [dints, PyData.eqvAll]
  | [], m :: ms => by simp [dints, PyData.eqvAll]
  | n :: ns, [] => by simp [dints, PyData.eqvAll]
  | n :: ns, m :: ms => by
    show PyData.eqvAll (.int (n : Int) :: dints ns) (.int (m : Int) :: dints ms) = _
    rw [PyData.eqvAll, PyData.eqv, eqv_ints ns ms]
    by_cases h : n = m
    · subst h
      by_cases h2 : ns = ms
      · subst h2; simp
      · simp [h2]
    · have : ((n : Int) == (m : Int)) = false := beq_eq_false_iff_ne.mpr (by omega)
      rw [this]
      simp [h]
theorem depth_ints : ∀ (ns : List Nat), PyData.depthAll (dints ns) ≤ 1
  | [] => by simp [dints, PyData.depthAll]
  | n :: ns => by
    have := depth_ints ns
    show PyData.depthAll (.int (n : Int) :: dints ns) ≤ 1
    simp only [PyData.depthAll, PyData.depth]
    omega
section
variable {X : Cx} {pins : List (Addr × Obj)} {σ : L2.St} {H : Hp} {s : Shared}
theorem eqP_tups (I : Inv X pins σ H s) {A : Around} (hu : A.units + 8 < cLine) {a b : Addr} {ns ms : List Nat} (ha : H a = some (.tup (iv ns))) (hb : H b = some (.tup (iv ms))) : SeqAt.EqP X.prog X.w A s (.ref a) (.ref b) (decide (ns = ms)) := by
  obtain ⟨as, r1⟩ := Dp.reads I (.tuple (dints ns)) (.ref a) (.ref a) (.tup (.inl (.inl ha)) (dp_ints ns)) rfl
  obtain ⟨bs, r2⟩ := Dp.reads I (.tuple (dints ms)) (.ref b) (.ref b) (.tup (.inl (.inl hb)) (dp_ints ms)) rfl
  have h := SeqAt.eqAt_reads _ _ A s _ _ as bs r1 r2 (by rw [PyData.canLay0]; exact lay_ints ns) (by rw [PyData.canLay0]; exact lay_ints ms) (by
    have h1 := depth_ints ns
    simp only [PyData.depth]
    omega)
  rw [PyData.eqv, eqv_ints] at h
  exact SeqAt.EqAt.eqP h
theorem hits_of (I : Inv X pins σ H s) {A : Around} (hu : A.units + 8 < cLine) {vb : List (Key × Value)} : ∀ {cs : List Nat} {as bs : List Addr} {rows rows' : List (List Nat)} {va : List (Key × Value)}, as.length = cs.length → bs.length = cs.length → RowsAt H as rows → RowsAt H bs rows' → KV (mkv cs as) va →
    (∀ (i : Nat) c b, cs[i]? = some c → bs[i]? = some b → valueAt vb (Sum.inr (ltr c)) = some (.ref b)) → PySem.W.KeqHitsP X.prog X.w A s vb va (decide (rows = rows'))
  | [], as, bs, rows, rows', va, h1, h2, ra, rb, kv, hv => by
    have e1 : as = [] := List.eq_nil_of_length_eq_zero h1
    have e2 : bs = [] := List.eq_nil_of_length_eq_zero h2
    subst e1 e2
    cases ra
    cases rb
    cases kv
    exact .nil
  | c :: cs, [], _, _, _, _, h1, _, _, _, _, _ => by simp at h1
  | c :: cs, _ :: _, [], _, _, _, _, h2, _, _, _, _ => by simp at h2
  | c :: cs, a :: as, b :: bs, _, _, va, h1, h2, .cons (b := r) hr ra, .cons (b := r') hr' rb, kv, hv => by
    rename_i rows rows'
    cases kv with
    | @cons p q ps qs hq t =>
      obtain ⟨e1, e2⟩ := hq
      obtain ⟨key, v⟩ := q
      have e1 : Sum.inr (ltr c) = key := e1
      have e2 : v = Value.ref a := e2
      subst e1 e2
      have ih := hits_of I hu (vb := vb) (cs := cs) (as := as) (bs := bs) (rows := rows) (rows' := rows') (va := qs) (by simpa using h1) (by simpa using h2) ra rb t fun i c' b' hc hb => hv (i + 1) c' b' (by simpa using hc) (by simpa using hb)
      have e : decide (r :: rows = r' :: rows') = (decide (r = r') && decide (rows = rows')) := by
        by_cases h3 : r = r'
        · by_cases h4 : rows = rows' <;> simp [h3, h4]
        · simp [h3]
      rw [e]
      exact .hit (hv 0 c b rfl rfl) (eqP_tups I hu hr hr') ih
def rEqMoves : R2 := fun x y H Q => ∃ a b cs rows rows', x = .ref a ∧ y = .ref b ∧ cs.Nodup ∧ MovesAt H a cs rows ∧ MovesAt H b cs rows' ∧ Q (.bl (decide (rows = rows'))) H
theorem op_eqMoves (hu : X.A.units + 64 < cLine) : OpR X (compareOp .Eq) rEqMoves := by
  intro pins s σ H x y v u Q I rx ry h
  obtain ⟨a, b, cs, rows, rows', rfl, rfl, hn, ⟨as, la, ha, ra⟩, ⟨bs, lb, hb, rb⟩, q⟩ := h
  cases rx
  cases ry
  obtain ⟨_, ya, va, kva, da⟩ := (show ObjOk X.prog X.w H s.heap a (.dK (mkv cs as)) from I.hok a _ ha)
  obtain ⟨_, yb, vb, kvb, db⟩ := (show ObjOk X.prog X.w H s.heap b (.dK (mkv cs bs)) from I.hok b _ hb)
  have hl : va.length = vb.length := by rw [← kva.length, ← kvb.length, mkv_len la, mkv_len lb]
  refine PySem.W.rcP_dicts (knd := mixKind X.prog X.w) (r := decide (rows = rows')) ya yb da db (by omega) (fun _ => hits_of I (A := X.A.in1) (by show X.A.units + 1 + 8 < cLine; omega) la lb ra rb kva fun i c b' hc hb' => ?_) X.xe _ ?_
  · obtain ⟨hi, rfl⟩ := List.getElem?_eq_some_iff.mp hc
    obtain ⟨hi', rfl⟩ := List.getElem?_eq_some_iff.mp hb'
    have hv := mkv_val lb hn hi hi'
    have rr : RelO (some (V.ref bs[i])) (valueAt vb (Sum.inr (ltr cs[i]))) := by rw [← hv]; exact kvb.val _
    obtain ⟨y, hy, ry⟩ := rr.some_of
    rw [hy]
    exact congrArg some ry
  · rw [show (va.length == vb.length && decide (rows = rows')) = decide (rows = rows') from by rw [hl]; simp]
    exact ⟨.bl _, H, I, rfl, q⟩
end
end WR

/-! ## R7 -/
set_option Elab.async false
set_option linter.all false
set_option maxRecDepth 100000
set_option maxHeartbeats 4000000
/-! Defs that are promised where no repr runs; repr of a list; the law's end over such a promise. -/
namespace WR
open PySem PySem.Spec PyProof.Rows L2 WC
/-- a promise where nothing guards -/
structure FnG (P : Program) (w : World) (K : PySem.W.Frag) (mg : Str → Option Value) (base : Heap) (CX : CXT) (k : Nat) (f : Addr) (fd : FuncData) (ps : List Str) (sp : Sp) : Prop where
  len : ∀ vs H Q E, sp vs H Q E → vs.length = ps.length
  run : ∀ (A : Around) (outer : List Env) (s : Shared) (H : Hp) (args : Args) (us : List Value) (vs : List V) (Q : VK) (E : XK), A.guards = some [] → Room k A → Env0 P w K mg base A outer s H → BindsTo s fd args (ps.zip us) → Vals vs us → sp vs H Q E →
    codeAny (model P w) A (.call (.ref f) args) (CR CX outer P w H s Q E) s
section
variable {P : Program} {w : World} {K : PySem.W.Frag} {mg : Str → Option Value} {base : Heap}
theorem fnG_mk {x qual : Str} {st : Stmt} {f : Addr} {fd : FuncData} {N ps : List Str} {k : Nat} {sp : Sp} (F : Fun K x qual st f fd) (S : FnScope N ps (defScope st)) (len : ∀ vs H Q E, sp vs H Q E → vs.length = ps.length)
    (hbody : ∀ (cdv : Value) (A : Around) (outer : List Env) (s : Shared) (H : Hp) (vs : List V) (Q : VK) (E : XK), A.guards = some [] → Room k (A.deeper (envOfC qual (defScope st) s.heap.objs.size f cdv)) → sp vs H Q E →
      ∃ t, PSs (cxOf CX0 P w K mg base N qual (defScope st) f cdv A outer s H E).nox (defBody st) t ∧ t { nx := fun _ H' => Q .non H', rt := Q } (start N vs) H) : FnG P w K mg base CX0 (k + 1) f fd ps sp := by
  obtain ⟨oc, od, kV, doc, pm, an, cdv, ct, osl, rfl, lk, hcd⟩ := F.ex
  refine ⟨len, fun A outer s H args us vs Q E hgd hr e0 hb r hsp => ?_⟩
  have KX : K.In s.heap := e0.mod.kin.keeps fun b o e => (e0.bs b o e).1
  have lim : s.heap.NoLimit := e0.mod.nolimit.keeps fun b o e => (e0.bs b o e).1
  have hkind : ∀ y ∈ ps.zip us, (defScope st).names.lookup y.1 = some .local ∨ ((defScope st).names.lookup y.1 = some .cell ∧ ((cellsFrom (s.heap.objs.size + 1) (defScope st).names []).lookup y.1).isSome = true) := fun y hy => by
    rcases S.par y.1 (List.of_mem_zip (show (y.1, y.2) ∈ ps.zip us from hy)).1 with q | q
    · exact .inl q
    · exact .inr ⟨q, PySem.W.cellsFrom_some _ _ _ (.inl q)⟩
  refine codeAny_call_function hr.depth (KX _ _ lk) rfl S.co S.gen rfl (PySem.W.codeRec_of KX hcd) (hb _ _ _ _ (wpAny_newFunctionEnv_cells S.kind hkind fun env he s1 x => ?_))
  subst he
  refine ⟨lim.keeps x.toInCall.keep, codeAny_func ?_⟩
  obtain ⟨t, ht, hq⟩ := hbody cdv A outer s H vs Q E hgd (hr.deeper _) hsp
  have I : Inv (cxOf CX0 P w K mg base N qual (defScope st) f cdv A outer s H E) [] (start N vs) H s1 := inv_start S hr.hd e0 (len _ _ _ _ hsp) r x
  refine wpAny_mono (ht.nox.run [] s1 (start N vs) H _ I hq) (fun fl s' hs => ?_) fun e s' hs => hs
  cases fl with
  | ret u =>
    obtain ⟨v, σ', H', J, rv, q⟩ := hs
    exact ⟨v, H', J.os, J.bare, J.base, J.hok, rv, q⟩
  | next =>
    obtain ⟨σ', H', J, q⟩ := hs
    exact ⟨V.non, H', J.os, J.bare, J.base, J.hok, rfl, q⟩
  | brk =>
    obtain ⟨_, _, _, q⟩ := hs
    exact False.elim q
  | cont =>
    obtain ⟨_, _, _, q⟩ := hs
    exact False.elim q
end
section
variable {X : Cx} {CX : CXT} {k : Nat} {f : Addr} {fd : FuncData} {ps : List Str} {sp : Sp} {E : XK} {x : Str} {p pos : Pos} {e : Expr} {es : List Expr} {t : TA}
theorem pe_callG (F : FnG X.prog X.w X.K X.mg X.base CX k f fd ps sp) (hgd : X.A.guards = some []) (hr : Room k X.A) (hg : Gl X x) (hm : X.mg x = some (.ref f)) (hk : PySem.W.keepIn X.K (.ref f) = true) (hb : Binds X.K fd ps []) (hx : Passes CX X E)
    (ha : PA X (e :: es) t) (hdb : (x == ("__debug__" : Str)) = false := by decide) (he : starEach (e :: es) X.env = (false, eval e X.env) :: starEach es X.env := by rfl) (hpl : (backTo pos (starEach es X.env)).any (·.1) = false := by rfl) :
    PE X (.Call (.Name x p) (e :: es) [] pos) (tCall sp [] E t) := by
  refine ⟨fun pins s σ H Q I h => wpAny_Call_Name_kw (ld_glob I hg hm ?_ hdb)⟩
  refine PySem.W.callWith_K (h₀ := X.base) I.ok.mod.kin hk (thn (ha.run pos pins s σ H _ I h) fun us s1 hu => ?_) he hpl
  obtain ⟨vs, H1, I1, r, q⟩ := hu
  refine ⟨I1.kIn, ?_⟩
  rw [List.append_nil] at q
  have hl : us.length = ps.length := by rw [← r.length]; exact F.len _ _ _ _ q
  refine wpAny_call (codeAny_mono (F.run X.A X.stack s1 H1 ⟨us, []⟩ us vs Q E hgd hr I1.env0 (by
    have := hb s1 us I1.kIn (by simpa using hl)
    simpa using this) r q) fun r s' hq => ?_)
  cases r with
  | error e => exact hx pins σ H1 s1 e s' I1 hq
  | ok fl =>
    cases fl with
    | ret w => exact I1.after hq
    | next => exact False.elim hq
    | brk => exact False.elim hq
    | cont => exact False.elim hq

/-! ### repr of a written list -/
/-- data that stands in the heap: None, a text, a tuple of ints, a dict of moves -/
inductive DX (H : Hp) : V → PyData → Prop
  | non : DX H .non .none
  | str (z : Str) : DX H (.str z) (.str z)
  | tup {a : Addr} {ns : List Nat} (h : H a = some (.tup (iv ns))) : DX H (.ref a) (.tuple (dints ns))
  | dic {a : Addr} {cs : List Nat} {rows : List (List Nat)} (h : MovesAt H a cs rows) : DX H (.ref a) (.dict ((cs.zip rows).map fun p => (.str (ltr p.1), .tuple (dints p.2))))
theorem reads_ints {h : Heap} : ∀ {ns : List Nat} {us : List Value}, Vals (iv ns) us → ReadsAll h us (dints ns) []
  | [], _, .nil => .nil
  | n :: ns, _, .cons r t => by
    obtain ⟨tk, rfl⟩ := r
    exact .cons (.int _ tk) (reads_ints t)
theorem reads_tup {pins : List (Addr × Obj)} {σ : L2.St} {H : Hp} {s : Shared} (I : Inv X pins σ H s) {a : Addr} {ns : List Nat} (h : H a = some (.tup (iv ns))) : Reads s.heap (.ref a) (.tuple (dints ns)) [] := by
  obtain ⟨_, its, r, o, ho, hc, n, hd⟩ := (show ObjOk X.prog X.w H s.heap a (.tup (iv ns)) from I.hok a _ h)
  exact .tuple ho hc hd (reads_ints r)
theorem reads_entries {pins : List (Addr × Obj)} {σ : L2.St} {H : Hp} {s : Shared} (I : Inv X pins σ H s) : ∀ {cs : List Nat} {as : List Addr} {rows : List (List Nat)} {vs : List (Key × Value)} {es : List DictEntry}, as.length = cs.length → RowsAt H as rows → KV (mkv cs as) vs → es.length = vs.length →
    (∀ (i : Nat) (e : DictEntry) k v, es[i]? = some e → vs[i]? = some (k, v) → keyIs k e.key = true ∧ e.val = v) →
    ReadsAll s.heap (es.map (·.key)) (((cs.zip rows).map fun p => ((.str (ltr p.1) : PyData), (.tuple (dints p.2) : PyData))).map (·.1)) [] ∧ ReadsAll s.heap (es.map (·.val)) (((cs.zip rows).map fun p => ((.str (ltr p.1) : PyData), (.tuple (dints p.2) : PyData))).map (·.2)) []
  | [], as, rows, vs, es, h1, ra, kv, hl, _ => by
    cases kv
    have : es = [] := List.eq_nil_of_length_eq_zero hl
    subst this
    exact ⟨.nil, .nil⟩
  | c :: cs, [], _, _, _, h1, _, _, _, _ => by simp at h1
  | c :: cs, a :: as, _, vs, es, h1, .cons (b := r) hr ra, kv, hl, he => by
    rename_i rows
    cases kv with
    | @cons p q ps qs hq t =>
      obtain ⟨e1, e2⟩ := hq
      obtain ⟨key, v⟩ := q
      have e1 : Sum.inr (ltr c) = key := e1
      have e2 : v = Value.ref a := e2
      subst e1 e2
      cases es with
      | nil => simp at hl
      | cons e es =>
        obtain ⟨k1, k2⟩ := he 0 e _ _ rfl rfl
        obtain ⟨tk, ek⟩ := Value.isStrOf_shape (show Value.isStrOf (ltr c) e.key = true from k1)
        have ih := reads_entries I (cs := cs) (as := as) (rows := rows) (vs := qs) (es := es) (by simpa using h1) ra t (by simpa using hl) fun i e' k v h2 h3 => he (i + 1) e' k v (by simpa using h2) (by simpa using h3)
        refine ⟨?_, ?_⟩
        · show ReadsAll s.heap (e.key :: es.map (·.key)) (.str (ltr c) :: _) ([] ++ [])
          rw [ek]
          exact .cons (.str _ tk) ih.1
        · show ReadsAll s.heap (e.val :: es.map (·.val)) (.tuple (dints r) :: _) ([] ++ [])
          rw [k2]
          exact .cons (reads_tup I hr) ih.2
theorem DX.reads {pins : List (Addr × Obj)} {σ : L2.St} {H : Hp} {s : Shared} (I : Inv X pins σ H s) {v : V} {d : PyData} {u : Value} (h : DX H v d) (r : RelV v u) : ∃ as, Reads s.heap u d as ∧ sysModules ∉ as := by
  cases h with
  | non => cases r; exact ⟨_, .none, by simp⟩
  | str z => obtain ⟨t, rfl⟩ := r; exact ⟨_, .str z t, by simp⟩
  | tup h => cases r; exact ⟨_, reads_tup I h, by simp⟩
  | @dic a cs rows h =>
    cases r
    obtain ⟨as, la, ha, ra⟩ := h
    obtain ⟨_, hsm, vs, kv, dd⟩ := (show ObjOk X.prog X.w H s.heap a (.dK (mkv cs as)) from I.hok a _ ha)
    obtain ⟨es, ep, ⟨o, ho, hx, hdt⟩, hsz, hent⟩ := dd.raw
    have hall := reads_entries I (es := es.toList) la ra kv (by simpa using hsz) fun i e k v he hv => by
      obtain ⟨hi, rfl⟩ := List.getElem?_eq_some_iff.mp he
      have hi' : i < es.size := by simpa using hi
      have := hent i hi' k v hv
      rw [Array.getElem_toList]
      exact this
    refine ⟨_, .dict ho hx.1 hdt hall.1 hall.2, ?_⟩
    simp only [List.append_nil, List.mem_singleton]
    intro z
    rw [z] at hsm
    simp at hsm
theorem DX.readsAll {pins : List (Addr × Obj)} {σ : L2.St} {H : Hp} {s : Shared} (I : Inv X pins σ H s) : ∀ {xs : List V} {ds : List PyData} {us : List Value}, Paired (DX H) xs ds → Vals xs us → ∃ as, ReadsAll s.heap us ds as ∧ sysModules ∉ as
  | _, _, _, .nil, .nil => ⟨_, .nil, by simp⟩
  | _, _, _, .cons h t, .cons r rt => by
    obtain ⟨as, h1, h2⟩ := h.reads I r
    obtain ⟨bs, h3, h4⟩ := DX.readsAll I t rt
    exact ⟨_, .cons h1 h3, by rw [List.mem_append]; exact fun z => z.elim h2 h4⟩
/-- repr([..]) -/
def tReprL (t : TA) : TE := fun σ H Q => t σ H fun xs H1 => ∃ ds : List PyData, Paired (DX H1) xs ds ∧ PyData.showableAll ds = true ∧ PyData.depthAll ds ≤ 8 ∧ (PyData.shown (.list ds)).length ≤ sizeLine ∧ Q (.str (PyData.shown (.list ds))) H1
theorem pe_reprL {q : Pos} (hgd : X.A.guards = some []) (hu : X.A.units + 64 < cLine) (hg : Gl X "repr") (hm : X.mg "repr" = none) (hv : bootBuiltins "repr" = some (.builtin "repr") := by decide +kernel) (ha : PA X es t) :
    PE X (.Call (.Name "repr" p) [.List es q] [] pos) (tReprL t) := by
  refine ⟨fun pins s σ H Q I h => ?_⟩
  refine Call_ (ld_blt I hg hm hv (PyProof.Rows.callWith_builtin1 (PyProof.Rows.args_cons (List_ (thn (ha.run _ pins s σ H _ I h) fun us s1 hx => ?_)) rfl) rfl rfl))
  obtain ⟨xs, H1, I1, r1, ds, hd, hs, hdp, hsz, q1⟩ := hx
  have hlen : us.length ≤ sizeLine := by
    have e1 := r1.length
    have e2 := Paired.length hd
    have e3 : ds.length ≤ (PyData.shown (.list ds)).length := by
      simp only [PyData.shown]
      have e4 : ∀ l : List PyData, l.length ≤ piled (PyData.shownAll l) := by
        intro l
        induction l with
        | nil => exact Nat.zero_le _
        | cons d l ih =>
          rw [PyData.shownAll, piled_cons, List.length_cons]
          omega
      exact Nat.le_trans (e4 ds) (piled_le_listText _)
    omega
  refine wpAny_newObj_type (PyProof.Rows.args_nil ?_) hlen
  have I2 : Inv X pins σ H1 { s1 with heap := s1.heap.push { cls := .type "list", data := .seq us.toArray } } := I1.kept (t' := s1.toks) fun b o e => Heap.get?_push_of_some _ e
  obtain ⟨as, hr, hnot⟩ := DX.readsAll I2 hd r1
  have hS : (s1.heap.push { cls := .type "list", data := .seq us.toArray }).get? s1.heap.objs.size = some { cls := .type "list", data := .seq us.toArray } := Heap.get?_push_size _ rfl
  have R : Reads (s1.heap.push { cls := .type "list", data := .seq us.toArray }) (.ref s1.heap.objs.size) (.list ds) (s1.heap.objs.size :: as) := .list hS rfl rfl (by simpa using hr)
  refine repr_of_reads' (s := { s1 with heap := s1.heap.push { cls := .type "list", data := .seq us.toArray } }) R (by simpa [PyData.showable] using hs) (fun _ hm' => ?_) hgd (by simp only [PyData.depth]; omega) (fun _ _ e => e) (fun h' u tk hk => ?_) hsz
  · rcases List.mem_cons.mp hm' with z | z
    · exact Nat.ne_of_lt I1.big z
    · exact hnot z
  · exact ⟨.str _, H1, I2.kept (t' := tk) hk, ⟨u, rfl⟩, q1⟩
end
end WR

/-! ## R8 -/
set_option Elab.async false
set_option linter.all false
set_option maxRecDepth 100000
set_option maxHeartbeats 4000000
/-! name = {..} on one line, the name a local. -/
namespace WR
open PySem PySem.Spec PyProof.Rows L2
section
variable {X : Cx}
theorem ps_setDc {i : Nat} {y : Str} {py : Pos} {kx vx tg iter : Expr} {ifs : List Expr} {scope : Scope} {own : List (Str × Nat)} {pos spos : Pos} {wi : TI} {g : TG} {tt : TT} {tk tv : TE} (hc : X.calm = true) (hN : X.N.Nodup) (hy : X.N[i]? = some y) (hyl : X.env.scope.names.lookup y = some .local)
    (hsw : swapsWith (.DictComp kx vx [⟨tg, iter, ifs, 0⟩] scope pos) (some (.Name y py)) spos.line X.env = pure true) (hi : PI X tg iter wi) (ok : BlkOk X.N X.env.scope scope own)
    (hg : ∀ (s : Shared) (H : Hp) (C : Addr) (cl : List (Str × Addr)) (fp : List Addr), PG (X.blk s H scope (compEnvC scope cl C X.env) fp) tg g) (ht : ∀ (s : Shared) (H : Hp) (C : Addr) (cl : List (Str × Addr)) (fp : List Addr), PTs (X.blk s H scope (compEnvC scope cl C X.env) fp) ifs tt)
    (hk : ∀ (s : Shared) (H : Hp) (C : Addr) (cl : List (Str × Addr)) (fp : List Addr), PE (X.blk s H scope (compEnvC scope cl C X.env) fp) kx tk)
    (he : ∀ (s : Shared) (H : Hp) (C : Addr) (cl : List (Str × Addr)) (fp : List Addr), PE (X.blk s H scope (compEnvC scope cl C X.env) fp) vx tv) (hs : ∀ x, foldedSetIterable iter X.env x = pure x := by intro _; rfl) :
    PS X (.Assign [.Name y py] (.DictComp kx vx [⟨tg, iter, ifs, 0⟩] scope pos) spos) (tAsg (tDc wi g tt tk tv (own.map (·.2))) (gName i)) := by
  constructor
  intro pins s σ H D I q
  have q : tDc wi g tt tk tv (own.map (·.2)) σ H (fun x H1 => gName i x σ H1 D.nx) := q
  rw [exec_Assign_Name_used _ _ _ _ hsw]
  have body := dc_core (pos := pos) (pos' := firstIterPos [⟨tg, iter, ifs, 0⟩] pos) (use := some (assign (.Name y py) X.env)) (Qf := fun _ s' => SP X pins D .next s') hc hN I hi ok hg ht hk he hs q fun L C s' m H' I' q2 hn f => by
    show wpAny _ _ (assign (.Name y py) X.env (.ref L)) _ _ _
    refine wpAny_assign_Name (store_ok2 (v := V.ref L) I' hN hy (.inl hyl) rfl (fun s2 I2 way => ?_) (.inr hyl))
    obtain ⟨a, sb, ha⟩ := way
    obtain ⟨f0, f1, f2, f3, f4, f5⟩ := f
    have haC : C ≠ a := ha.elim (fun z => z ▸ f1) fun z e => f4 y a z e.symm
    exact ⟨m, hn.sameBut sb haC, fun h3 sb3 => ⟨_, H', I2.turned (t' := s2.toks) (fun b o hb e => (sb3.2 b hb).trans e) f0 f1 f3 f4 f5, q2⟩⟩
  refine wpAny_bind (wpAny_standAt (wpAny_bind ?_))
  show wpAny _ X.A (do let _ ← comprehension (.DictComp kx vx [⟨tg, iter, ifs, 0⟩] scope pos) scope X.env (firstIterPos [⟨tg, iter, ifs, 0⟩] pos) newDict false (eval iter X.env) (some (assign (.Name y py) X.env))) _ _ s
  exact wpAny_bind (thn body fun _ s' hq => wpAny_pure (wpAny_pure hq))
theorem sw_trueD {kx vx : Expr} {gs : List Comprehension} {scope : Scope} {pos py : Pos} {y : Str} {l : Nat} {env : Env} (hk : env.scope.kind = .function) (hy : env.scope.names.lookup y = some .local) (hl : (py.line == pos.line) = true)
    (ha : (scope.names.any fun (n, k) => n == y && (k == .local || k == .cell)) = false) : swapsWith (.DictComp kx vx gs scope pos) (some (.Name y py)) l env = pure true := by
  have h1 : env.blockKind = .function := by
    unfold Env.blockKind
    rw [hk]
    rfl
  have h2 : env.kindOf y = some .local := hy
  unfold swapsWith
  simp only [h1, h2, ha, Expr.pos, hl]
  rfl
end
end WR

/-! ## R9 -/
set_option Elab.async false
set_option linter.all false
set_option maxRecDepth 100000
set_option maxHeartbeats 4000000
/-! {k: v}, k a tuple of flat things. -/
namespace WR
open PySem PySem.Spec PyProof.Rows L2
section
variable {X : Cx} {pins : List (Addr × Obj)} {σ : L2.St} {H : Hp} {s : Shared}
theorem dt_set {E : Value → Shared → Prop} {D b : Addr} {kvs : List (List Key × V)} {k : List Key} {v : V} {r : Value} {Q : Unit → Shared → Prop} (hu : X.A.units + 1 < cLine) (I : Inv X pins σ H s) (hD : H D = some (.dT kvs)) (eb : H b = some (.tup (k.map kV))) (hz : kvs.length < sizeLine)
    (rv : RelV v r) (h : ∀ s', Inv X pins σ (upd H D (.dT (putK kvs k v))) s' → Q () s') : wpAny (model X.prog X.w) X.A (dictSet D (.ref b) r) Q E s := by
  obtain ⟨z, hd, xs, rel, dd⟩ := dt_of I.hok hD
  have hl : (putK kvs k v).length ≤ sizeLine := Nat.le_trans (length_putK kvs k v) (by omega)
  refine wpAny_dictSet_heap (knd := tupleKind (mixKind X.prog X.w)) (hsz := by rw [← Paired.length rel]; exact z) (show X.A.units < cLine by omega) (key_of I.hok eb) dd fun h' dd' hs => ?_
  obtain ⟨q, es, ep, hq, h2, h3, h4, h6, h5⟩ := dd'
  have new : ObjOk X.prog X.w (upd H D (.dT (putK kvs k v))) h' D (.dT (putK kvs k v)) :=
    ⟨hl, hd, _, (rel.put k eb rv).keeps fun c ys ec => by rw [upd_ne (ne_of ec hD (fun z => nomatch z))]; exact ec, q, es, ep, hq, h2, h3, h4, h5⟩
  exact h _ (d_write I (by rw [hD]; exact True.intro) hs ⟨q, hq⟩ new)
def tDispT (tk tv : TE) : TE := fun σ H Q => ∀ p, H p = none → tk σ (upd H p (.dT [])) fun y H2 => tv σ H2 fun v H3 => ∃ b k, y = .ref b ∧ H3 b = some (.tup (k.map kV)) ∧ H3 p = some (.dT []) ∧ Q (.ref p) (upd H3 p (.dT [(k, v)]))
theorem pe_dispT {pos : Pos} {a b : Expr} {tk tv : TE} (hu : X.A.units + 1 < cLine) (hk : PE X a tk) (hv : PE X b tv) : PE X (.Dict [some a] [b] pos) (tDispT tk tv) := by
  refine ⟨fun pins s σ H Q I q => ?_⟩
  have hn := I.hok.fresh (Nat.le_refl s.heap.objs.size)
  have I1 := I.laid (a := s.heap.objs.size) (o := .dT []) (h' := s.heap.push { cls := .type "dict", data := .dict #[] }) (t' := s.toks) (fun _ _ q => Heap.get?_push_of_some _ q) (Nat.le_refl _) (dt_empty s.heap I.big)
  have two := (pps_cons (pos := pos) hk hv pps_nil).run pins { s with heap := s.heap.push { cls := .type "dict", data := .dict #[] } } σ _ (fun ps H3 => ∃ y v b k, ps = [(y, v)] ∧ y = .ref b ∧ H3 b = some (.tup (k.map kV)) ∧ H3 s.heap.objs.size = some (.dT []) ∧ Q (.ref s.heap.objs.size) (upd H3 s.heap.objs.size (.dT [(k, v)]))) I1 (by
    show tk σ _ fun y H2 => tv σ H2 fun v H3 => _
    have := q _ hn
    have e : (fun y H2 => tv σ H2 fun v H3 => ∃ b k, y = V.ref b ∧ H3 b = some (.tup (k.map kV)) ∧ H3 s.heap.objs.size = some (.dT []) ∧ Q (.ref s.heap.objs.size) (upd H3 s.heap.objs.size (.dT [(k, v)]))) = fun x H1 => tv σ H1 fun y H2 => ∃ y_1 v b k, [(x, y)] = [(y_1, v)] ∧ y_1 = V.ref b ∧ H2 b = some (.tup (k.map kV)) ∧ H2 s.heap.objs.size = some (.dT []) ∧ Q (.ref s.heap.objs.size) (upd H2 s.heap.objs.size (.dT [(k, v)])) := by
      funext x H1
      congr 1
      funext y H2
      refine propext ⟨fun ⟨b, k, h⟩ => ⟨x, y, b, k, rfl, h⟩, ?_⟩
      rintro ⟨x', y', b, k, e, h⟩
      cases e
      exact ⟨b, k, h⟩
    rw [e] at this
    exact this)
  refine wpAny_Dict_any rfl rfl (by simp) (show 1 ≤ 15 by decide) (thn two fun vs s1 hh => ?_)
  obtain ⟨ps, H3, I3, rel, y, v, c, k, rfl, rfl, hb, hp, q3⟩ := hh
  cases rel with
  | @cons x z xs zs h0 t0 =>
  cases t0
  obtain ⟨u, r⟩ := z
  obtain ⟨h1, h2⟩ := h0
  obtain rfl : u = Value.ref c := h1
  unfold storeAll
  rw [List.forIn_cons]
  refine wpAny_bind (wpAny_bind (dt_set hu I3 hp hb (by rw [sizeLine_eq]; show 0 < _; decide) h2 fun s' I' => wpAny_pure ?_))
  exact wpAny_pure ⟨.ref _, _, I', rfl, q3⟩
end
end WR

/-! ## R10 -/
set_option Elab.async false
set_option linter.all false
set_option maxRecDepth 100000
set_option maxHeartbeats 4000000
/-! {k: v for ..}, the keys tuples of flat things. -/
namespace WR
open PySem PySem.Spec PyProof.Rows L2
section
variable {X : Cx}
/-- what one turn of such a comprehension asks of the key and the value -/
def PutT (D : Addr) (Nx : Hp → Prop) (y z : V) (H : Hp) : Prop := ∃ kvs k b, y = V.ref b ∧ H b = some (.tup (k.map kV)) ∧ H D = some (.dT kvs) ∧ kvs.length < sizeLine ∧ Nx (upd H D (.dT (putK kvs k z)))
def tDcT (wi : TI) (g : TG) (tk tv : TE) (vs : List Nat) : TE := fun σ H Q => wi σ H fun J H1 => ∀ D, H1 D = none → ∃ W : Nat → Nat → Hp → Prop, (∃ m, W 0 m (upd H1 D (.dT []))) ∧ ∀ i m H, W i m H →
  (J.stop i H ∧ Q (.ref D) H) ∨ (J.go i H ∧ ∃ Nx : Hp → Prop, (∀ H', Nx H' → ∃ m', m' < m ∧ W (i + 1) m' H') ∧ ∀ x H', J.yld i H x H' → g x (wipe σ vs) H' fun σ2 H2 => wipe σ2 vs = wipe σ vs ∧
    tk σ2 H2 fun y H4 => tv σ2 H4 fun z H5 => PutT D Nx y z H5)
theorem pe_dcT {kx vx tg iter : Expr} {scope : Scope} {own : List (Str × Nat)} {pos : Pos} {wi : TI} {g : TG} {tk tv : TE} (hc : X.calm = true) (hu : X.A.units + 1 < cLine) (hN : X.N.Nodup) (hi : PI X tg iter wi) (ok : BlkOk X.N X.env.scope scope own)
    (hg : ∀ (s : Shared) (H : Hp) (C : Addr) (cl : List (Str × Addr)) (fp : List Addr), PG (X.blk s H scope (compEnvC scope cl C X.env) fp) tg g)
    (hk : ∀ (s : Shared) (H : Hp) (C : Addr) (cl : List (Str × Addr)) (fp : List Addr), PE (X.blk s H scope (compEnvC scope cl C X.env) fp) kx tk)
    (he : ∀ (s : Shared) (H : Hp) (C : Addr) (cl : List (Str × Addr)) (fp : List Addr), PE (X.blk s H scope (compEnvC scope cl C X.env) fp) vx tv) (hs : ∀ x, foldedSetIterable iter X.env x = pure x := by intro _; rfl) :
    PE X (.DictComp kx vx [⟨tg, iter, [], 0⟩] scope pos) (tDcT wi g tk tv (own.map (·.2))) := by
  refine ⟨fun pins s σ H Q I h => ?_⟩
  rw [arm_eval_DictComp]
  have hfree : ∀ y ∈ scope.names, y.2 = .free → ∃ c, X.env.cells.lookup y.1 = some c := fun y hy e => (ok.free y hy e).elim (fun k => I.ok.has _ (.inl k)) fun k => I.ok.has _ (.inr k)
  refine wpAny_comprehension_free (use := none) rfl hs (closure_ok hfree) ok.kind (fun y hy e => by rw [ok.uniq y hy, e])
    (thn (hi.run pins s σ H _ I h) fun xv s1 hx => thn hx fun itv s2 h2 => ?_)
  obtain ⟨it, fp, tn, J, H2, e, I2, T, st2, f2, q⟩ := h2
  subst e
  refine wpAny_newObj_type (newEnv_comp ?_)
  generalize hD : s2.heap.objs.size = D
  obtain ⟨W, ⟨m0, w0⟩, turn⟩ := q D (I2.hok.fresh (Nat.le_of_eq hD))
  generalize hs3 : ({ s2 with heap := s2.heap.push { cls := .type "dict", data := .dict #[] } } : Shared) = s3
  have h3 : s3.heap = s2.heap.push { cls := .type "dict", data := .dict #[] } := by rw [← hs3]
  have I3 : Inv X pins σ (upd H2 D (.dT [])) s3 := by
    rw [← hs3]
    refine I2.laid (t' := s2.toks) (fun b o e => Heap.get?_push_of_some _ e) (Nat.le_of_eq hD) ?_
    rw [← hD]
    exact dt_empty s2.heap I2.big
  have sz : ∀ b ∈ fp, b < s2.heap.objs.size := fun b hb => let ⟨o, e, _⟩ := T.obj _ _ st2 b hb; Heap.lt_size e
  have f3 : ∀ b ∈ fp, FpOk X pins (upd H2 D (.dT [])) b ∧ b < s3.heap.objs.size := fun b hb => by
    have hlt := sz b hb
    refine ⟨⟨?_, (f2 b hb).2⟩, by rw [h3, Heap.size_push]; exact Nat.lt_succ_of_lt hlt⟩
    rw [upd_ne (by rw [← hD]; exact Nat.ne_of_lt hlt)]
    exact (f2 b hb).1
  have st3 : tn 0 s3.heap := T.keep _ _ _ st2 fun b _ o e => by rw [h3]; exact Heap.get?_push_of_some _ e
  have I4 := block_start I3 ok hN f3
  have pg := hg s3 (upd H2 D (.dT [])) s3.heap.objs.size (cellsFrom (s3.heap.objs.size + 1) scope.names (cloFrom X.env.cells scope.names [])) fp
  have pk := hk s3 (upd H2 D (.dT [])) s3.heap.objs.size (cellsFrom (s3.heap.objs.size + 1) scope.names (cloFrom X.env.cells scope.names [])) fp
  have pe := he s3 (upd H2 D (.dT [])) s3.heap.objs.size (cellsFrom (s3.heap.objs.size + 1) scope.names (cloFrom X.env.cells scope.names [])) fp
  show codeAny _ _ (.compStart (.DictComp kx vx [⟨tg, iter, [], 0⟩] scope pos) 0 (.ref it) (.ref D) (compEnvC scope (cellsFrom (s3.heap.objs.size + 1) scope.names (cloFrom X.env.cells scope.names [])) s3.heap.objs.size X.env)) _ { s3 with heap := pushCells (s3.heap.push { cls := .type "dict", data := .dict #[] }) scope.names }
  have nfp : ∀ b ∈ fp, (upd H2 D (.dT [])) b = none := fun b hb => (f3 b hb).1.1
  generalize hce : compEnvC scope (cellsFrom (s3.heap.objs.size + 1) scope.names (cloFrom X.env.cells scope.names [])) s3.heap.objs.size X.env = ce at I4 pg pk pe ⊢
  have cL : ce.locals = s3.heap.objs.size := by subst hce; rfl
  generalize upd H2 D (.dT []) = H3 at I3 I4 pg pk pe w0 nfp f3
  generalize hs4 : ({ s3 with heap := pushCells (s3.heap.push { cls := .type "dict", data := .dict #[] }) scope.names } : Shared) = s4 at I4 ⊢
  have st4 : tn 0 s4.heap := T.keep _ _ _ st3 fun b _ o e => by rw [← hs4]; exact pushCells_keeps _ _ _ _ (Heap.get?_push_of_some _ e)
  have stat : ∀ {σ' : L2.St} {H' : Hp} {s' : Shared}, Inv (X.blk s3 H3 scope ce fp) [] σ' H' s' → (∀ b ∈ fp, H' b = none) → ∀ b ∈ fp, FpOk (X.blk s3 H3 scope ce fp) [] H' b := fun {σ' H' s'} I' hn b hb =>
    ⟨hn b hb, (I'.ok.exf b hb).1, I'.ok.exfs b hb, .inl hb, fun x c e => (I'.ok.exf b hb).2 x c e, fun p hp => absurd (show p ∈ ([] : List (Addr × Obj)) ++ [] from hp) (by simp)⟩
  have loop : codeAny (model X.prog X.w) X.A (.compLoop (.DictComp kx vx [⟨tg, iter, [], 0⟩] scope pos) 0 (.ref it) (.ref D) ce) (compPost (model X.prog X.w) X.A X.xe none (EP X pins σ Q) (.ref D) s3.heap.objs.size) s4 := by
    refine compLoop_anyD (fun n s' => ∃ i H', Inv (X.blk s3 H3 scope ce fp) [] (wipe σ (own.map (·.2))) H' s' ∧ tn i s'.heap ∧ (∀ b ∈ fp, H' b = none) ∧ W i n H') ?_ m0 ⟨0, H3, I4, st4, nfp, w0⟩
    rintro n s5 ⟨i, H5, I5, st5, n5, w5⟩
    rcases turn i n H5 w5 with ⟨stop, qq⟩ | ⟨go, Nx, hNx, step⟩
    · refine thnF (T.done (X.blk s3 H3 scope ce fp) rfl rfl rfl hc i [] s5 _ H5 (fun _ _ => False) I5 (stat I5 n5) st5 stop) fun r s6 ⟨hr, I6⟩ => ?_
      subst hr
      have I7 : Inv X pins σ H5 s6 := I3.call' (ch := fp) I6.os I6.base I6.hok I6.bare fun b hb => ⟨(f3 b hb).1.2.2.2.1, (f3 b hb).1.2.1, (f3 b hb).1.2.2.2.2.1, (f3 b hb).1.2.2.2.2.2⟩
      have nC : H5 s3.heap.objs.size = none := cL ▸ (show H5 ce.locals = none from I6.free)
      obtain ⟨m, hn, _⟩ := I6.loc
      have hn : s6.heap.Ns ce.locals m := hn
      rw [cL] at hn
      obtain ⟨g0, g1, _, g3, g4, g5⟩ := I3.fpOk (Nat.le_refl _) nC
      exact ⟨m, hn, fun h'' sb => ⟨.ref D, H5, I7.turned (t' := s6.toks) (fun b o hb e => (sb.2 b hb).trans e) g0 g1 g3 g4 g5, rfl, qq⟩⟩
    · refine thnF (T.item (X.blk s3 H3 scope ce fp) rfl rfl rfl hc i [] s5 _ H5 (fun _ _ => False) I5 (stat I5 n5) st5 go) fun r s6 ⟨u, hr, h6⟩ => ?_
      subst hr
      refine thnF h6 fun _ s7 ⟨x, H7, I7, r7, y7, st7, n7⟩ => ?_
      refine thnF (pg.run _ s7 _ H7 x u _ (I7.pinned (stat I7 n7) (T.obj _ _ st7)) r7 (step x H7 y7)) fun _ s8 ⟨σ8, H8, I8, hw8, q8⟩ => ?_
      refine wpAny_pure ?_
      simp only [if_true]
      refine thnF (pk.run _ s8 σ8 H8 _ I8 q8) fun z s10 ⟨yk, H10, I10, r10, q10⟩ => ?_
      refine thnF (pe.run _ s10 σ8 H10 _ I10 q10) fun z2 s11 ⟨yv, H11, I11, r11, kvs, k, b0, ek, hb0, hD11, hz11, nx⟩ => ?_
      subst ek
      obtain rfl : z = Value.ref b0 := r10
      refine dt_set (X := X.blk s3 H3 scope ce fp) hu I11 hD11 hb0 hz11 r11 fun s12 I12 => ?_
      obtain ⟨m', hm, w'⟩ := hNx _ nx
      have pin' : ∀ b ∈ fp, ∀ o, s7.heap.get? b = some o → s12.heap.get? b = some o ∧ upd H11 D (.dT (putK kvs k yv)) b = none := fun b hb o e =>
        let z := I12.pin (b, o) (List.mem_append_right _ (List.mem_append_right _ (mem_pinsAt hb e)))
        ⟨z.1, z.2.1⟩
      refine ⟨m', hm, i + 1, _, (I12.unpinned (pins := [])).weak (by rw [← hw8, wipe_length]) (fun j v e => ?_), T.keep _ _ _ st7 fun b hb o e => (pin' b hb o e).1, fun b hb => ?_, w'⟩
      · rw [← hw8] at e
        exact (wipe_some e).1
      · obtain ⟨o, e, _⟩ := T.obj _ _ st7 b hb
        exact (pin' b hb o e).2
  exact codeAny_compStart_dict loop (T.self X.A 0 _ _ _ st4 loop)
end
end WR

/-! ## M5 -/
set_option Elab.async false
set_option linter.all false
set_option maxRecDepth 100000
set_option maxHeartbeats 4000000
/-! The rounds of classes_of. -/
namespace WC
open PySem PySem.Spec WR
theorem nums_nums {ρ : Type} [DecidableEq ρ] (rows : List ρ) : nums (nums rows) = nums rows := by
  show (nums rows).map _ = nums rows
  unfold nums
  rw [List.map_map]
  refine List.map_congr_left fun r hr => ?_
  have := (idx_dd (f := (id : ρ → ρ)) (g := fun r => (dd rows).idxOf r) (xs := rows) fun x hx y hy => ⟨fun e => by rw [show x = y from e], fun e => idxOf_inj (mem_dd.mpr hx) e⟩).2 r hr
  rw [List.map_id] at this
  exact this.symm
structure CI (M : Mch) (cl : List Nat) : Prop where
  len : cl.length = M.n
  coarse : Coarse M fun s => cl.getD s 0
  canon : nums cl = cl
theorem range_getD {cl : List Nat} {n : Nat} (h : cl.length = n) : (List.range n).map (fun s => cl.getD s 0) = cl := by
  refine List.ext_getElem (by simp [h]) fun i h1 h2 => ?_
  rw [List.getElem_map, List.getElem_range, getD_of h2]
theorem CI.cnt {M : Mch} {cl : List Nat} (h : CI M cl) : WC.cnt M (fun s => cl.getD s 0) = (dd cl).length := by
  unfold WC.cnt
  rw [range_getD h.len]
theorem rows_get {α : Type} {n i : Nat} (f : Nat → α) (h : i < ((List.range n).map f).length) : ((List.range n).map f)[i] = f i := by
  rw [List.getElem_map, List.getElem_range]
theorem ci_rows {M : Mch} {ρ : Type} [DecidableEq ρ] {g : Nat → ρ} (h : Coarse M g) : CI M (nums ((List.range M.n).map g)) := by
  have hl : (nums ((List.range M.n).map g)).length = M.n := by rw [nums_len, List.length_map, List.length_range]
  have key : ∀ p q, p < M.n → q < M.n → ((nums ((List.range M.n).map g)).getD p 0 = (nums ((List.range M.n).map g)).getD q 0 ↔ g p = g q) := fun p q hp hq => by
    rw [nums_iff (by simpa using hp) (by simpa using hq), rows_get, rows_get]
  exact ⟨hl, ⟨fun p q hp hq e => (key p q hp hq).mpr (h.1 p q hp hq e), fun p q hp hq e => h.2 p q hp hq ((key p q hp hq).mp e)⟩, nums_nums _⟩
theorem ci_first (M : Mch) : CI M (nums ((List.range M.n).map M.ok)) := ci_rows coarse_ok
/-- the row of a state in a round -/
def cWay (M : Mch) (cl : List Nat) (s : Nat) : List Nat := M.ways.map fun r => cl.getD (r.getD s 0) 0
def cRow (M : Mch) (cl : List Nat) (s : Nat) : NK := rowK (cl.getD s 0 : Nat) ((cWay M cl s).map fun n : Nat => (n : Int))
def cRows (M : Mch) (cl : List Nat) : List NK := (List.range M.n).map (cRow M cl)
theorem cRow_eq {M : Mch} {cl : List Nat} {p q : Nat} : cRow M cl p = cRow M cl q ↔ cl.getD p 0 = cl.getD q 0 ∧ ∀ r ∈ M.ways, cl.getD (r.getD p 0) 0 = cl.getD (r.getD q 0) 0 := by
  constructor
  · intro h
    obtain ⟨h1, h2⟩ := rowK_inj h
    refine ⟨by omega, fun r hr => ?_⟩
    have h2 : cWay M cl p = cWay M cl q := map_inj (fun x _ y _ e => by have e : (x : Int) = (y : Int) := e; omega) h2
    exact (List.map_inj_left.mp h2) r hr
  · rintro ⟨h1, h2⟩
    have : cWay M cl p = cWay M cl q := List.map_congr_left h2
    unfold cRow
    rw [h1, this]
theorem step_rows (M : Mch) (cl : List Nat) : Step M (fun s => cl.getD s 0) (cRow M cl) := fun _ _ _ _ => cRow_eq
theorem ci_next {M : Mch} (W : M.WF) {cl : List Nat} (h : CI M cl) : CI M (nums (cRows M cl)) := ci_rows (coarse_step W h.coarse (step_rows M cl))
theorem ci_step {M : Mch} (W : M.WF) {cl : List Nat} (h : CI M cl) : Step M (fun s => cl.getD s 0) (fun s => (nums (cRows M cl)).getD s 0) := fun p q hp hq => by
  show (nums (cRows M cl)).getD p 0 = (nums (cRows M cl)).getD q 0 ↔ _
  unfold cRows
  rw [nums_iff (by simpa using hp) (by simpa using hq), rows_get, rows_get]
  exact cRow_eq
theorem ci_end {M : Mch} (W : M.WF) {f : Nat → Nat} {cl : List Nat} (hc : Coarse M f) (h : CI M cl) (st : Step M f fun s => cl.getD s 0) (hle : (dd cl).length ≤ cnt M f) : cl = cls M := by
  have k : Kern M fun s => cl.getD s 0 := kern_of W hc st (by rw [h.cnt]; exact hle)
  have := cls_of k
  rw [range_getD h.len, h.canon] at this
  exact this
theorem CI.lt {M : Mch} {cl : List Nat} (h : CI M cl) : ∀ x ∈ cl, x < M.n := fun x hx => by
  have e := h.canon
  rw [← e] at hx
  obtain ⟨r, hr, rfl⟩ := List.mem_map.mp hx
  have h1 : (dd cl).idxOf r < (dd cl).length := List.idxOf_lt_length_of_mem (mem_dd.mpr hr)
  have h2 : (dd cl).length ≤ cl.length := nodup_len (nodup_dd _) fun x hx => mem_dd.mp hx
  rw [h.len] at h2
  omega
end WC

/-! ## M6 -/
set_option linter.all false
/-! Plain mathematics: the machine of pairs; states with their texts; layers; marks. -/
namespace WC
theorem idxg {α : Type} [BEq α] [LawfulBEq α] {l : List α} (hn : l.Nodup) {i : Nat} (h : i < l.length) : l.idxOf l[i] = i := by
  have h1 : l.idxOf l[i] < l.length := List.idxOf_lt_length_of_mem (List.getElem_mem h)
  have h2 : l[l.idxOf l[i]] = l[i] := List.getElem_idxOf h1
  exact (List.getElem_inj hn).mp h2
theorem idxj {α : Type} [BEq α] [LawfulBEq α] {l : List α} {x y : α} (hx : x ∈ l) (h : l.idxOf x = l.idxOf y) : x = y := by
  have h1 : l.idxOf x < l.length := List.idxOf_lt_length_of_mem hx
  have h2 : l[l.idxOf x] = x := List.getElem_idxOf h1
  have h3 : l.idxOf y < l.length := h ▸ h1
  have h4 : l[l.idxOf y] = y := List.getElem_idxOf h3
  rw [← h2, ← h4]
  congr 1
/-! ### the machine of pairs -/
def scQ (M M' : Mch) (x : Nat × Nat) : List (Nat × Nat) := (List.range M.k).map fun a => (M.d a x.1, M'.d a x.2)
def pp (M M' : Mch) (K : Nat) : List (Nat × Nat) := bq id (scQ M M') (0, 0) K
theorem pp_pq (M M' : Mch) (K : Nat) : pp M M' K = (pq M M' K).map (·.1) :=
  (bq_map (κ := fun x : Itm => x.1) (κ' := (id : Nat × Nat → Nat × Nat)) (sc := scP M M') (sc' := scQ M M') (x0 := ((0, 0), [])) (fun x : Itm => x.1) (fun _ _ => Iff.rfl) (fun x => by
    unfold scP scQ
    rw [List.map_map]
    rfl) K).symm
structure Prs (M M' : Mch) (O : List (Nat × Nat)) : Prop where
  nodup : O.Nodup
  pos : 0 < O.length
  closed : ∀ x ∈ O, ∀ a, a < M.k → (M.d a x.1, M'.d a x.2) ∈ O
  lt : ∀ x ∈ O, x.1 < M.n ∧ x.2 < M'.n
def orm (M M' : Mch) (O : List (Nat × Nat)) : Mch := { ways := (List.range M.k).map fun a => O.map fun p => O.idxOf (M.d a p.1, M'.d a p.2), good := (O.filter fun p => M.ok p.1 || M'.ok p.2).map fun p => O.idxOf p }
/-- the machine that answers as one or the other does -/
def both (M M' : Mch) : Mch := orm M M' (pp M M' (M.n * M'.n))
section
variable {M M' : Mch} {O : List (Nat × Nat)}
theorem pp_nodup (K : Nat) : (pp M M' K).Nodup := by rw [pp_pq]; exact pq_nodup K
theorem pp_len (W : M.WF) (W' : M'.WF) (K : Nat) : (pp M M' K).length ≤ M.n * M'.n := by
  rw [pp_pq, List.length_map]
  exact pq_len W W' K
theorem pp_lt (W : M.WF) (W' : M'.WF) (K : Nat) : ∀ x ∈ pp M M' K, x.1 < M.n ∧ x.2 < M'.n := fun x hx => by
  rw [pp_pq] at hx
  obtain ⟨y, hy, rfl⟩ := List.mem_map.mp hx
  exact pq_lt W W' K y hy
theorem pp_done (W : M.WF) (W' : M'.WF) {K : Nat} (h : (pp M M' K).length ≤ K) : pp M M' K = pp M M' (M.n * M'.n) := bq_fin h (pp_len W W' _)
theorem pp_prs (W : M.WF) (W' : M'.WF) : Prs M M' (pp M M' (M.n * M'.n)) := ⟨pp_nodup _, bq_pos _, fun x hx a ha => by
    have h := bq_end (κ := (id : Nat × Nat → Nat × Nat)) (pp_len W W' _) x hx (M.d a x.1, M'.d a x.2) (List.mem_map.mpr ⟨a, List.mem_range.mpr ha, rfl⟩)
    rw [List.map_id] at h
    exact h, pp_lt W W' _⟩
theorem orm_k : (orm M M' O).k = M.k := by simp [orm, Mch.k]
theorem orm_n (W : M.WF) : (orm M M' O).n = O.length := by
  have h := W.k0
  obtain ⟨j, hj⟩ : ∃ j, M.k = j + 1 := ⟨M.k - 1, by omega⟩
  simp [orm, Mch.n, hj, List.range_succ_eq_map]
theorem orm_WF (W : M.WF) (p : Prs M M' O) : (orm M M' O).WF where
  k0 := by rw [orm_k]; exact W.k0
  row := fun r hr => by
    obtain ⟨a, _, rfl⟩ := List.mem_map.mp hr
    rw [orm_n W, List.length_map]
  lt := fun r hr x hx => by
    obtain ⟨a, ha, rfl⟩ := List.mem_map.mp hr
    obtain ⟨q, hq, rfl⟩ := List.mem_map.mp hx
    rw [orm_n W]
    exact List.idxOf_lt_length_of_mem (p.closed q hq a (List.mem_range.mp ha))
  n0 := by rw [orm_n W]; exact p.pos
  asc := by
    have h : (O.map fun s => O.idxOf s) = List.range O.length := by
      refine List.ext_getElem (by simp) fun i h1 h2 => ?_
      rw [List.getElem_map, List.getElem_range]
      exact idxg p.nodup (by simpa using h1)
    have hs : ((O.filter fun p => M.ok p.1 || M'.ok p.2).map fun s => O.idxOf s).Sublist (List.range O.length) := by
      rw [← h]
      exact List.Sublist.map _ List.filter_sublist
    exact List.Pairwise.sublist hs List.pairwise_lt_range
  glt := fun g hg => by
    obtain ⟨s, hs, rfl⟩ := List.mem_map.mp hg
    rw [orm_n W]
    exact List.idxOf_lt_length_of_mem (List.mem_filter.mp hs).1
theorem orm_way {a : Nat} (ha : a < M.k) : (orm M M' O).ways[a]? = some (O.map fun p => O.idxOf (M.d a p.1, M'.d a p.2)) := by
  simp [orm, List.getElem?_map, List.getElem?_range ha]
/-- where all states answer alike the least machine has one -/
theorem ls_one (W : M.WF) {b : Bool} (h : ∀ s, s < M.n → M.ok s = b) : (canon M).n = 1 := by
  have hL : ∀ l ∈ ls M, l = fun _ => b := fun l hl => by
    obtain ⟨s, hs, rfl⟩ := List.mem_map.mp (mem_dd.mp hl)
    funext w
    exact h _ (run_lt W ((bfs_ord W W.n0).lt s hs) w)
  have h1 : (ls M).length ≤ [fun _ : List Nat => b].length := nodup_len (ls_nodup) fun l hl => by rw [hL l hl]; exact List.mem_singleton.mpr rfl
  have h0 := ls_pos W
  rw [canon_n W]
  have : [fun _ : List Nat => b].length = 1 := rfl
  omega
end

/-! ### a layer of a queue -/
section layer
variable {ι α : Type} [DecidableEq α] {κ : ι → α} {sc : ι → List ι} {x0 : ι}
theorem bq_item {m j : Nat} {x : ι} (h : (bq κ sc x0 m)[m + j]? = some x) : bq κ sc x0 (m + j + 1) = pushs κ (bq κ sc x0 (m + j)) (sc x) := by
  refine bq_some ?_
  obtain ⟨t, e⟩ := bq_pre (κ := κ) (sc := sc) (x0 := x0) m j
  rw [← e, List.getElem?_append_left (List.getElem?_eq_some_iff.mp h).1]
  exact h
theorem pushs_drop_old {q : List ι} {x : ι} {N : Nat} (h : κ x ∈ q.map κ) : (push κ q x).drop N = q.drop N := by rw [push_old h]
theorem pushs_drop_new {q : List ι} {x : ι} {N : Nat} (h : κ x ∉ q.map κ) (hN : N ≤ q.length) : (push κ q x).drop N = q.drop N ++ [x] := by
  rw [push_new h, List.drop_append_of_le_length hN]
theorem bq_split (m j : Nat) : bq κ sc x0 m ++ (bq κ sc x0 (m + j)).drop (bq κ sc x0 m).length = bq κ sc x0 (m + j) := by
  obtain ⟨t, e⟩ := bq_pre (κ := κ) (sc := sc) (x0 := x0) m j
  rw [← e, List.drop_left]
theorem pushs_len_le {q xs : List ι} : q.length ≤ (pushs κ q xs).length := (pushs_pre xs q).length_le
theorem pushs_take_le {q xs : List ι} {i : Nat} : (pushs κ q (xs.take i)).length ≤ (pushs κ q xs).length := by
  have e : pushs κ q xs = pushs κ (pushs κ q (xs.take i)) (xs.drop i) := by rw [← pushs_append, List.take_append_drop]
  rw [e]
  exact pushs_len_le
end layer

/-! ### states with their first texts -/
abbrev SIt := Nat × List Nat
def scF (M : Mch) (x : SIt) : List SIt := (List.range M.k).map fun a => (M.d a x.1, x.2 ++ [a])
def fq (M : Mch) (K : Nat) : List SIt := bq (fun x : SIt => x.1) (scF M) (0, []) K
section
variable {M : Mch}
theorem fq_bfs (K : Nat) : (fq M K).map (·.1) = bq id M.sc 0 K :=
  bq_map (κ := fun x : SIt => x.1) (κ' := (id : Nat → Nat)) (sc := scF M) (sc' := M.sc) (x0 := (0, [])) (fun x : SIt => x.1) (fun _ _ => Iff.rfl) (fun x => by
    unfold scF
    rw [List.map_map, sc_range]
    rfl) K
theorem fq_len (W : M.WF) (K : Nat) : (fq M K).length ≤ M.n := by
  have := bq_state_len W W.n0 K
  rw [← fq_bfs, List.length_map] at this
  exact this
theorem fq_lt (W : M.WF) (K : Nat) : ∀ x ∈ fq M K, x.1 < M.n := fun x hx =>
  bq_state_lt W W.n0 K _ (by rw [← fq_bfs]; exact List.mem_map.mpr ⟨x, hx, rfl⟩)
theorem fq_letters (K : Nat) : ∀ x ∈ fq M K, ∀ a ∈ x.2, a < M.k :=
  bq_inv (P := fun x : SIt => ∀ a ∈ x.2, a < M.k) (by simp) (fun x h y hy => by
    obtain ⟨a, ha, rfl⟩ := List.mem_map.mp hy
    intro b hb
    rcases List.mem_append.mp hb with hb | hb
    · exact h b hb
    · rw [List.mem_singleton.mp hb]
      exact List.mem_range.mp ha) K
theorem fq_short : ∀ K, ∀ x ∈ fq M K, x.2.length ≤ K
  | 0, x, hx => by rw [List.mem_singleton.mp hx]; exact Nat.le_refl _
  | K + 1, x, hx => by
    by_cases h : K < (fq M K).length
    · have e : fq M (K + 1) = pushs (fun x : SIt => x.1) (fq M K) (scF M (fq M K)[K]) := bq_some (List.getElem?_eq_getElem h)
      rw [e] at hx
      rcases mem_pushs hx with hx | hx
      · exact Nat.le_succ_of_le (fq_short K x hx)
      · obtain ⟨a, _, rfl⟩ := List.mem_map.mp hx
        have := fq_short K _ (List.getElem_mem h)
        rw [List.length_append, List.length_singleton]
        omega
    · have e : fq M (K + 1) = fq M K := bq_none (by unfold fq at h; omega)
      rw [e] at hx
      exact Nat.le_succ_of_le (fq_short K x hx)
/-- behind the last layer all are found -/
theorem fq_end (W : M.WF) {K : Nat} (h : (fq M K).length ≤ K) : (fq M K).map (·.1) = M.bfs 0 := by
  rw [fq_bfs]
  refine bfs_of W W.n0 ?_
  rw [← fq_bfs, List.length_map]
  exact h
/-- .. and by a run as long as the states -/
theorem fq_fin (W : M.WF) {K : Nat} (h : (fq M K).length ≤ K) : fq M K = fq M M.n := bq_fin h (fq_len W _)
end

/-! ### marks -/
/-- the row of a state under marks -/
def kRow (M : Mch) (mk : List Nat) (s : Nat) : List Nat := mk.getD s 0 :: M.ways.map fun r => mk.getD (r.getD s 0) 0
theorem kRow_len {M : Mch} {mk : List Nat} {s : Nat} : (kRow M mk s).length = M.k + 1 := by simp [kRow, Mch.k]
theorem kRow_eq {M : Mch} {mk : List Nat} {p q : Nat} : kRow M mk p = kRow M mk q ↔ mk.getD p 0 = mk.getD q 0 ∧ ∀ r ∈ M.ways, mk.getD (r.getD p 0) 0 = mk.getD (r.getD q 0) 0 := by
  unfold kRow
  rw [List.cons.injEq, List.map_inj_left]
structure KI (M : Mch) (mk : List Nat) : Prop where
  len : mk.length = M.n
  lt : ∀ x ∈ mk, x < 60
  coarse : Coarse M fun s => mk.getD s 0
theorem KI.cnt {M : Mch} {mk : List Nat} (h : KI M mk) : WC.cnt M (fun s => mk.getD s 0) = (dd mk).length := by
  unfold WC.cnt
  have : (List.range M.n).map (fun s => mk.getD s 0) = mk := by
    refine List.ext_getElem (by simp [h.len]) fun i h1 h2 => ?_
    rw [List.getElem_map, List.getElem_range, getD_of h2]
  rw [this]
/-- marks by the places of the rows in a list of all of them -/
def kNext (M : Mch) (mk : List Nat) (rows : List (List Nat)) : List Nat := (List.range M.n).map fun s => rows.idxOf (kRow M mk s)
theorem kNext_get {M : Mch} {mk : List Nat} {rows : List (List Nat)} {s : Nat} (h : s < M.n) : (kNext M mk rows).getD s 0 = rows.idxOf (kRow M mk s) := by
  unfold kNext
  rw [getD_of (by simpa using h), List.getElem_map, List.getElem_range]
theorem kNext_step {M : Mch} {mk : List Nat} {rows : List (List Nat)} (hr : ∀ s, s < M.n → kRow M mk s ∈ rows) : Step M (fun s => mk.getD s 0) (fun s => (kNext M mk rows).getD s 0) := fun p q hp hq => by
  show (kNext M mk rows).getD p 0 = (kNext M mk rows).getD q 0 ↔ _
  rw [kNext_get hp, kNext_get hq, ← kRow_eq]
  exact ⟨fun h => idxj (hr p hp) h, fun h => by rw [h]⟩
theorem kNext_ki {M : Mch} (W : M.WF) {mk : List Nat} {rows : List (List Nat)} (h : KI M mk) (hl : rows.length ≤ 60) (hr : ∀ s, s < M.n → kRow M mk s ∈ rows) : KI M (kNext M mk rows) := by
  refine ⟨by simp [kNext], fun x hx => ?_, coarse_step W h.coarse (kNext_step hr)⟩
  obtain ⟨s, hs, rfl⟩ := List.mem_map.mp hx
  have := List.idxOf_lt_length_of_mem (hr s (List.mem_range.mp hs))
  omega
/-- the first marks: the answers -/
def kOk (M : Mch) : List Nat := (List.range M.n).map fun s => if M.ok s = true then 1 else 0
theorem kOk_get {M : Mch} {s : Nat} (h : s < M.n) : (kOk M).getD s 0 = if M.ok s = true then 1 else 0 := by
  unfold kOk
  rw [getD_of (by simpa using h), List.getElem_map, List.getElem_range]
theorem kOk_ki (M : Mch) : KI M (kOk M) := by
  refine ⟨by simp [kOk], fun x hx => ?_, fun p q hp hq h => ?_, fun p q hp hq h => ?_⟩
  · obtain ⟨s, hs, rfl⟩ := List.mem_map.mp hx
    split <;> decide
  · show (kOk M).getD p 0 = (kOk M).getD q 0
    have : M.ok p = M.ok q := congrFun h []
    rw [kOk_get hp, kOk_get hq, this]
  · have h : (kOk M).getD p 0 = (kOk M).getD q 0 := h
    rw [kOk_get hp, kOk_get hq] at h
    cases e1 : M.ok p <;> cases e2 : M.ok q <;> simp [e1, e2] at h ⊢
/-- what has been told of the marks when the loop begins a round -/
def KLast (M : Mch) (mk : List Nat) (la : Nat) : Prop := la = 0 ∨ ∃ f : Nat → Nat, Coarse M f ∧ Step M f (fun s => mk.getD s 0) ∧ la = cnt M f
theorem k_end {M : Mch} (W : M.WF) {mk : List Nat} {la : Nat} (h : KI M mk) (hla : KLast M mk la) (hle : (dd mk).length ≤ la) : Kern M fun s => mk.getD s 0 := by
  rcases hla with rfl | ⟨f, hf, st, rfl⟩
  · have := cnt_pos W (fun s => mk.getD s 0)
    rw [h.cnt] at this
    omega
  · exact kern_of W hf st (by rw [h.cnt]; exact hle)
end WC

/-! ## P0 -/
set_option Elab.async false
set_option linter.all false
set_option maxRecDepth 100000
set_option maxHeartbeats 4000000
/-! The text by places; what the top has written. Printed by gen_tx.py. -/
namespace WP
open PySem PySem.Spec L2
def top (i : Nat) : Stmt := PySem.Challenge.pw_whatcounts_k28_whole_least_readers_and_p.main.body.getD i (.Pass ⟨0, 0, 0, 0⟩)
abbrev meth (j : Nat) : Stmt := inClass (top 23) j
/-- a def of the top -/
structure At (K : PySem.W.Frag) (mg : Str → Option Value) (x : Str) (st : Stmt) (ps : List Str) (f : Addr) (fd : FuncData) : Prop where
  F : Fun K x x st f fd
  g : mg x = some (.ref f)
  b : Binds K fd ps []
/-- a method of the class at C -/
structure AtM (K : PySem.W.Frag) (C : Addr) (x qual : Str) (st : Stmt) (ps : List Str) (f : Addr) (fd : FuncData) : Prop where
  F : Fun K x qual st f fd
  at_ : PySem.W.findIn K (.ref C) x = some (some (.ref f))
  fn : PySem.W.isFn K (.ref f) = true
  b : Binds K fd ps []
theorem AtM.meth {K : PySem.W.Frag} {C : Addr} {x qual : Str} {st : Stmt} {ps : List Str} {f : Addr} {fd : FuncData} (a : AtM K C x qual st ps f fd) : Meth K C x f := ⟨a.at_, a.fn, a.F.kp⟩
/-- a property of the class at C -/
structure AtP (K : PySem.W.Frag) (C : Addr) (x qual : Str) (st : Stmt) (p f : Addr) (fd : FuncData) : Prop where
  F : Fun K x qual st f fd
  pr : PropOf K C x p f
  b : Binds K fd ["self"] []
/-- what the top has written -/
structure TX (K : PySem.W.Frag) (mg : Str → Option Value) (C : Addr) : Prop where
  cl : Cls K C
  mkC : PySem.W.makesIn K C = true
  kC : PySem.W.keepIn K (.ref C) = true
  sf : PySem.W.selfFirst K C = true
  gC : mg "Reader" = some (.ref C)
  nL : NoAttr K C "own_letters"
  nM : NoAttr K C "own_moves"
  nY : NoAttr K C "own_yes"
  b_len : mg "len" = none
  b_isinstance : mg "isinstance" = none
  b_int : mg "int" = none
  b_bool : mg "bool" = none
  b_str : mg "str" = none
  b_all : mg "all" = none
  b_zip : mg "zip" = none
  b_range : mg "range" = none
  b_tuple : mg "tuple" = none
  b_dict : mg "dict" = none
  b_list : mg "list" = none
  b_max : mg "max" = none
  b_min : mg "min" = none
  b_enumerate : mg "enumerate" = none
  b_set : mg "set" = none
  b_sorted : mg "sorted" = none
  b_abs : mg "abs" = none
  b_repr : mg "repr" = none
  c_GREATEST : ∃ t, mg "GREATEST" = some (.int (10 ^ 200 - 1) t)
  c_MAX_TEXT : ∃ t, mg "MAX_TEXT" = some (.int 4000 t)
  c_MOST_LETTERS : ∃ t, mg "MOST_LETTERS" = some (.int 3 t)
  c_MAX_STATES : ∃ t, mg "MAX_STATES" = some (.int 60 t)
  isR : C8.InsC K C
  f_is_integer : ∃ f fd, At K mg "is_integer" (top 12) ["value"] f fd
  f_is_integer_within : ∃ f fd, At K mg "is_integer_within" (top 13) ["value", "low", "high"] f fd
  f_are_small : ∃ f fd, At K mg "are_small" (top 14) ["text"] f fd
  f_is_letters : ∃ f fd, At K mg "is_letters" (top 15) ["value"] f fd
  f_is_text_within : ∃ f fd, At K mg "is_text_within" (top 16) ["letters", "value"] f fd
  f_require_letters : ∃ f fd, At K mg "require_letters" (top 17) ["value"] f fd
  f_are_states : ∃ f fd, At K mg "are_states" (top 20) ["many", "value"] f fd
  f_are_moves : ∃ f fd, At K mg "are_moves" (top 21) ["letters", "value"] f fd
  f_is_state_set : ∃ f fd, At K mg "is_state_set" (top 22) ["many", "value"] f fd
  f_state_behind : ∃ f fd, At K mg "state_behind" (top 24) ["reader", "state", "text"] f fd
  f_says : ∃ f fd, At K mg "says" (top 25) ["reader", "state"] f fd
  f_reader_from : ∃ f fd, At K mg "reader_from" (top 27) ["reader", "start"] f fd
  f_moved_pair : ∃ f fd, At K mg "moved_pair" (top 28) ["one", "other", "letter", "pair"] f fd
  f_pairs_led : ∃ f fd, At K mg "pairs_led" (top 29) ["one", "other"] f fd
  f_reader_of : ∃ f fd, At K mg "reader_of" (top 30) ["one", "other", "pairs", "good"] f fd
  f_require_reader : ∃ f fd, At K mg "require_reader" (top 31) ["value"] f fd
  f_numbers_of : ∃ f fd, At K mg "numbers_of" (top 33) ["rows"] f fd
  f_classes_of : ∃ f fd, At K mg "classes_of" (top 34) ["reader"] f fd
  f_least_of : ∃ f fd, At K mg "least_of" (top 35) ["reader"] f fd
  f_least_reader : ∃ f fd, At K mg "least_reader" (top 36) ["reader"] f fd
  f_parting : ∃ f fd, At K mg "parting" (top 37) ["one", "other"] f fd
  f_law_first_lines : ∃ f fd, At K mg "_law_first_lines" (top 39) ["_law_plain"] f fd
  f_law_kin : ∃ f fd, At K mg "_law_kin" (top 40) ["_law_plain"] f fd
  f_law_lean : ∃ f fd, At K mg "_law_lean" (top 41) ["_law_plain"] f fd
  f_law_parted : ∃ f fd, At K mg "_law_parted" (top 42) ["_law_plain", "_law_other"] f fd
  f_law_cup : ∃ f fd, At K mg "_law_cup" (top 43) ["_law_script", "_law_at"] f fd
  f_law_bit : ∃ f fd, At K mg "_law_bit" (top 44) ["_law_cup_here", "_law_much"] f fd
  f_law_pick : ∃ f fd, At K mg "_law_pick" (top 45) ["_law_cup_here", "_law_items"] f fd
  f_law_dealt : ∃ f fd, At K mg "_law_dealt" (top 46) ["_law_cup_here", "_law_items"] f fd
  f_law_signs : ∃ f fd, At K mg "_law_signs" (top 47) ["_law_cup_here"] f fd
  f_law_some_of : ∃ f fd, At K mg "_law_some_of" (top 48) ["_law_cup_here", "_law_many"] f fd
  f_law_any_ways : ∃ f fd, At K mg "_law_any_ways" (top 49) ["_law_cup_here", "_law_signs_here", "_law_many"] f fd
  f_law_turning_ways : ∃ f fd, At K mg "_law_turning_ways" (top 50) ["_law_cup_here", "_law_signs_here", "_law_many"] f fd
  f_law_ring_ways : ∃ f fd, At K mg "_law_ring_ways" (top 51) ["_law_cup_here", "_law_signs_here", "_law_many"] f fd
  f_law_pair_ways : ∃ f fd, At K mg "_law_pair_ways" (top 52) ["_law_cup_here", "_law_signs_here", "_law_many"] f fd
  f_law_turner : ∃ f fd, At K mg "_law_turner" (top 53) ["_law_cup_here", "_law_signs_here"] f fd
  f_law_plain_reader : ∃ f fd, At K mg "_law_plain_reader" (top 54) ["_law_cup_here", "_law_signs_here"] f fd
  f_law_made_reader : ∃ f fd, At K mg "_law_made_reader" (top 55) ["_law_plain"] f fd
  f_law_state_count : ∃ f fd, At K mg "_law_state_count" (top 56) ["_law_plain"] f fd
  f_law_twice : ∃ f fd, At K mg "_law_twice" (top 57) ["_law_plain"] f fd
  f_law_with_idle : ∃ f fd, At K mg "_law_with_idle" (top 58) ["_law_cup_here", "_law_plain"] f fd
  f_law_least_right : ∃ f fd, At K mg "_law_least_right" (top 59) ["_law_plain", "_law_made"] f fd
  f_law_cell_right : ∃ f fd, At K mg "_law_cell_right" (top 60) ["_law_cup_here"] f fd
  m_init : ∃ f fd, AtM K C "__init__" "Reader.__init__" (meth 0) ["self", "letters", "moves", "yes"] f fd
  m_invert : ∃ f fd, AtM K C "__invert__" "Reader.__invert__" (meth 8) ["self"] f fd
  m_or : ∃ f fd, AtM K C "__or__" "Reader.__or__" (meth 10) ["self", "other"] f fd
  m_contains : ∃ f fd, AtM K C "__contains__" "Reader.__contains__" (meth 12) ["self", "value"] f fd
  m_len : ∃ f fd, AtM K C "__len__" "Reader.__len__" (meth 13) ["self"] f fd
  m_eq : ∃ f fd, AtM K C "__eq__" "Reader.__eq__" (meth 14) ["self", "other"] f fd
  p_letters : ∃ p f fd, AtP K C "letters" "Reader.letters" (meth 1) p f fd
  p_moves : ∃ p f fd, AtP K C "moves" "Reader.moves" (meth 2) p f fd
  p_yes : ∃ p f fd, AtP K C "yes" "Reader.yes" (meth 3) p f fd
end WP

/-! ## W1 -/
set_option Elab.async false
set_option linter.all false
set_option maxRecDepth 100000
set_option maxHeartbeats 4000000
/-! Comprehensions and walks in short. -/
namespace WP
open PySem PySem.Spec PyProof.Rows L2 WR WC
theorem qeq {Q : VK} {v v' : V} {H : Hp} (k : Q v H) (e : v = v') : Q v' H := e ▸ k
theorem qtt {Q : VK} {b : Bool} {H : Hp} (k : Q (.bl true) H) (e : b = true) : Q (.bl b) H := by rw [e]; exact k
/-- a comprehension whose list so far is acc i -/
theorem lc_acc {J : It} {n : Nat} {G : Hp → Prop} {Y : Nat → Hp → V → Hp → Prop} {g : TG} {tt : TT} {te : TE} {vs : List Nat} {σ : L2.St} {H1 : Hp} {D : Addr} {Qd : Hp → Prop} (w : Walk J n G Y) (hD : H1 D = none) (acc : Nat → List V) (h0 : acc 0 = []) (hz : ∀ i, i < n → (acc i).length < sizeLine) (hG : ∀ H, Same H1 H → G H)
    (hs : ∀ i x H H', i < n → Same H1 H → H D = some (.lst (acc i)) → Y i H x H' → g x (wipe σ vs) H' fun σ2 H2 => wipe σ2 vs = wipe σ vs ∧ tt σ2 H2 fun b H3 =>
      if b = true then te σ2 H3 fun y H4 => acc (i + 1) = acc i ++ [y] ∧ H4 D = some (.lst (acc i)) ∧ Same H1 H4 else acc (i + 1) = acc i ∧ H3 D = some (.lst (acc i)) ∧ Same H1 H3)
    (mt : ∀ σ H Q Q', (∀ b H1, Q b H1 → Q' b H1) → tt σ H Q → tt σ H Q') (me : ∀ σ H Q Q', (∀ b H1, Q b H1 → Q' b H1) → te σ H Q → te σ H Q') (mg : ∀ v σ H Q Q', (∀ σ' H1, Q σ' H1 → Q' σ' H1) → g v σ H Q → g v σ H Q')
    (hd : ∀ H, Same H1 H → H D = some (.lst (acc n)) → Qd H) :
    ∃ W : Nat → Nat → Hp → Prop, (∃ m, W 0 m (upd H1 D (.lst []))) ∧ ∀ i m H, W i m H →
      (J.stop i H ∧ Qd H) ∨ (J.go i H ∧ ∃ Nx : Hp → Prop, (∀ H', Nx H' → ∃ m', m' < m ∧ W (i + 1) m' H') ∧ ∀ x H', J.yld i H x H' → g x (wipe σ vs) H' fun σ2 H2 => wipe σ2 vs = wipe σ vs ∧ tt σ2 H2 fun b H3 =>
        if b = true then te σ2 H3 fun y H4 => ∃ acc, H4 D = some (.lst acc) ∧ acc.length < sizeLine ∧ Nx (upd H4 D (.lst (acc ++ [y]))) else Nx H3) := by
  have put : ∀ {H : Hp} (o : HO), Same H1 H → Same H1 (upd H D o) := fun {H} o h b u e => by
    rw [upd_ne (ne_of_none e hD)]
    exact h b u e
  refine lc_it w (fun i H => H D = some (.lst (acc i)) ∧ Same H1 H) ⟨by rw [h0]; exact upd_same, Same.upd hD⟩ (fun i H _ h => hG H h.2) (fun i x H H' hi h hy => ?_) fun H h => hd H h.2 h.1
  refine mg _ _ _ _ _ (fun σ2 H2 h2 => ⟨h2.1, mt _ _ _ _ (fun b H3 h3 => ?_) h2.2⟩) (hs i x H H' hi h.2 h.1 hy)
  cases b with
  | true =>
    rw [if_pos rfl] at h3 ⊢
    refine me _ _ _ _ (fun y H4 h4 => ⟨acc i, h4.2.1, hz i hi, ?_, put _ h4.2.2⟩) h3
    rw [upd_same, h4.1]
  | false =>
    rw [if_neg Bool.false_ne_true] at h3 ⊢
    exact ⟨by rw [h3.1]; exact h3.2.1, h3.2.2⟩
/-- what a test or an expression asks grows with what is wanted behind -/
def MonoE (t : TE) : Prop := ∀ σ H Q Q', (∀ b H1, Q b H1 → Q' b H1) → t σ H Q → t σ H Q'
def MonoT (t : TT) : Prop := ∀ σ H Q Q', (∀ b H1, Q b H1 → Q' b H1) → t σ H Q → t σ H Q'
/-- a comprehension without a test: the items ys -/
theorem lc_map {J : It} {n : Nat} {G : Hp → Prop} {Y : Nat → Hp → V → Hp → Prop} {g : TG} {te : TE} {vs : List Nat} {σ : L2.St} {H1 : Hp} {D : Addr} {Qd : Hp → Prop} (w : Walk J n G Y) (hD : H1 D = none) (ys : List V) (hn : ys.length = n) (hz : n ≤ 100000) (hG : ∀ H, Same H1 H → G H)
    (hs : ∀ (i : Nat) (x : V) (H H' : Hp) (Nx : Hp → Prop), (hi : i < n) → Same H1 H → H D = some (.lst (ys.take i)) → Y i H x H' → (∀ H4, H4 D = some (.lst (ys.take i)) → Same H1 H4 → Nx (upd H4 D (.lst (ys.take i ++ [ys[i]])))) →
      g x (wipe σ vs) H' fun σ2 H2 => wipe σ2 vs = wipe σ vs ∧ te σ2 H2 fun y H4 => ∃ acc, H4 D = some (.lst acc) ∧ acc.length < sizeLine ∧ Nx (upd H4 D (.lst (acc ++ [y]))))
    (hd : ∀ H, Same H1 H → H D = some (.lst ys) → Qd H) :
    ∃ W : Nat → Nat → Hp → Prop, (∃ m, W 0 m (upd H1 D (.lst []))) ∧ ∀ i m H, W i m H →
      (J.stop i H ∧ Qd H) ∨ (J.go i H ∧ ∃ Nx : Hp → Prop, (∀ H', Nx H' → ∃ m', m' < m ∧ W (i + 1) m' H') ∧ ∀ x H', J.yld i H x H' → g x (wipe σ vs) H' fun σ2 H2 => wipe σ2 vs = wipe σ vs ∧ tYes σ2 H2 fun b H3 =>
        if b = true then te σ2 H3 fun y H4 => ∃ acc, H4 D = some (.lst acc) ∧ acc.length < sizeLine ∧ Nx (upd H4 D (.lst (acc ++ [y]))) else Nx H3) := by
  have put : ∀ {H : Hp} (o : HO), Same H1 H → Same H1 (upd H D o) := fun {H} o h b u e => by
    rw [upd_ne (ne_of_none e hD)]
    exact h b u e
  refine lc_it (tt := tYes) w (fun i H => H D = some (.lst (ys.take i)) ∧ Same H1 H) ⟨upd_same, Same.upd hD⟩ (fun i H _ h => hG H h.2) (fun i x H H' hi h hy => ?_) fun H h => hd H h.2 (by rw [h.1, List.take_of_length_le (by omega)])
  have hi' : i < ys.length := by omega
  have key := hs i x H H' (fun H' => H' D = some (.lst (ys.take (i + 1))) ∧ Same H1 H') hi h.2 h.1 hy fun H4 h4 h5 => ⟨by rw [upd_same, List.take_add_one, List.getElem?_eq_getElem hi']; rfl, put _ h5⟩
  exact key
theorem app_small {ys : List V} {n i : Nat} (hn : ys.length = n) (hz : n ≤ 100000) : (ys.take i).length < sizeLine := by
  rw [List.length_take, sizeLine_eq]
  omega

/-! ### a dict of moves, letter by letter -/
/-- the first i letters are there -/
def MovesPart (H : Hp) (d : Addr) (cs : List Nat) (rows : List (List Nat)) (i : Nat) : Prop := ∃ as : List Addr, as.length = i ∧ H d = some (.dK (mkv (cs.take i) as)) ∧ RowsAt H as (rows.take i)
theorem part_nil {H : Hp} {d : Addr} {cs : List Nat} {rows : List (List Nat)} (h : H d = some (.dK [])) : MovesPart H d cs rows 0 := ⟨[], rfl, h, .nil⟩
theorem part_all {H : Hp} {d : Addr} {cs : List Nat} {rows : List (List Nat)} (hr : rows.length = cs.length) (h : MovesPart H d cs rows cs.length) : MovesAt H d cs rows := by
  obtain ⟨as, h1, h2, h3⟩ := h
  rw [List.take_of_length_le (Nat.le_refl _)] at h2
  rw [List.take_of_length_le (by omega)] at h3
  exact ⟨as, h1, h2, h3⟩
theorem rows_snoc {H : Hp} {a : Addr} {r : List Nat} : ∀ {as : List Addr} {rows : List (List Nat)}, RowsAt H as rows → H a = some (.tup (iv r)) → RowsAt H (as ++ [a]) (rows ++ [r])
  | _, _, .nil, h => .cons h .nil
  | _, _, .cons q t, h => .cons q (rows_snoc t h)
theorem mkv_snoc {cs : List Nat} {as : List Addr} {c : Nat} {a : Addr} (h : as.length = cs.length) : mkv (cs ++ [c]) (as ++ [a]) = mkv cs as ++ [(Sum.inr (ltr c), V.ref a)] := by
  unfold mkv
  rw [List.zip_append h.symm, List.map_append]
  rfl
theorem putK_new {kvs : List (Key × V)} {k : Key} {v : V} (h : k ∉ kvs.map (·.1)) : putK kvs k v = kvs ++ [(k, v)] := by
  unfold putK
  rw [if_neg]
  intro q
  obtain ⟨x, hx, e⟩ := List.any_eq_true.mp q
  exact h (List.mem_map.mpr ⟨x, hx, of_decide_eq_true e⟩)
theorem part_len {cs : List Nat} {as : List Addr} {i : Nat} (h : as.length = i) (hi : i ≤ cs.length) : as.length = (cs.take i).length := by
  rw [List.length_take, h]
  omega
/-- the next letter is put -/
theorem part_put {cs : List Nat} {as : List Addr} {i : Nat} {a : Addr} (hn : cs.Nodup) (hi : i < cs.length) (h : as.length = i) : putK (mkv (cs.take i) as) (Sum.inr (ltr cs[i])) (.ref a) = mkv (cs.take (i + 1)) (as ++ [a]) := by
  have hl := part_len h (Nat.le_of_lt hi)
  rw [List.take_add_one, List.getElem?_eq_getElem hi]
  show _ = mkv (cs.take i ++ [cs[i]]) (as ++ [a])
  rw [mkv_snoc hl, putK_new]
  rw [mkv_keys hl]
  intro q
  obtain ⟨c, hc, e⟩ := List.mem_map.mp q
  have e : c = cs[i] := ltr_inj (Sum.inr.inj e)
  subst e
  obtain ⟨j, hj, e2⟩ := List.getElem_of_mem hc
  rw [List.length_take] at hj
  rw [List.getElem_take] at e2
  have := (List.getElem_inj hn).mp e2
  omega
theorem part_step {H H' : Hp} {d a : Addr} {cs : List Nat} {rows : List (List Nat)} {i : Nat} (hn : cs.Nodup) (hi : i < cs.length) (hr : i < rows.length) {as : List Addr} (h1 : as.length = i) (h3 : RowsAt H as (rows.take i)) (hd : H' d = some (.dK (putK (mkv (cs.take i) as) (Sum.inr (ltr cs[i])) (.ref a))))
    (ha : H a = some (.tup (iv rows[i]))) (hs : Tups H H') : MovesPart H' d cs rows (i + 1) := by
  rw [part_put hn hi h1] at hd
  refine ⟨as ++ [a], by rw [List.length_append, h1]; rfl, hd, ?_⟩
  rw [List.take_add_one, List.getElem?_eq_getElem hr]
  exact RowsAt.tups hs (rows_snoc h3 ha)
/-- {letter: .. for letter ..}: at each turn the letter, a tuple of the row -/
theorem dc_moves {J : It} {G : Hp → Prop} {Y : Nat → Hp → V → Hp → Prop} {g : TG} {tk tv : TE} {vs : List Nat} {σ : L2.St} {H1 : Hp} {D : Addr} {Qd : Hp → Prop} {cs : List Nat} {rows : List (List Nat)} (w : Walk J cs.length G Y) (hD : H1 D = none) (hn : cs.Nodup) (hr : rows.length = cs.length) (hz : cs.length ≤ 3) (hG : ∀ H, Same H1 H → G H)
    (hs : ∀ (i : Nat) (x : V) (H H' : Hp) (Nx : Hp → Prop), (hi : i < cs.length) → Same H1 H → (∃ kvs, H D = some (.dK kvs)) → Y i H x H' → (∀ (y z : V) (H5 : Hp), y = V.str (ltr cs[i]) → (∃ a, z = .ref a ∧ H5 a = some (.tup (iv (rows[i]'(hr ▸ hi))))) → H5 D = H D → Same H1 H5 → Tups H H5 → ∃ kvs k, y = kV k ∧ H5 D = some (.dK kvs) ∧ kvs.length < sizeLine ∧ Nx (upd H5 D (.dK (putK kvs k z)))) →
      g x (wipe σ vs) H' fun σ2 H2 => wipe σ2 vs = wipe σ vs ∧ tk σ2 H2 fun y H4 => tv σ2 H4 fun z H5 => ∃ kvs k, y = kV k ∧ H5 D = some (.dK kvs) ∧ kvs.length < sizeLine ∧ Nx (upd H5 D (.dK (putK kvs k z))))
    (hd : ∀ H, Same H1 H → MovesAt H D cs rows → Qd H) :
    ∃ W : Nat → Nat → Hp → Prop, (∃ m, W 0 m (upd H1 D (.dK []))) ∧ ∀ i m H, W i m H →
      (J.stop i H ∧ Qd H) ∨ (J.go i H ∧ ∃ Nx : Hp → Prop, (∀ H', Nx H' → ∃ m', m' < m ∧ W (i + 1) m' H') ∧ ∀ x H', J.yld i H x H' → g x (wipe σ vs) H' fun σ2 H2 => wipe σ2 vs = wipe σ vs ∧ tYes σ2 H2 fun b H3 =>
        if b = true then tk σ2 H3 fun y H4 => tv σ2 H4 fun z H5 => ∃ kvs k, y = kV k ∧ H5 D = some (.dK kvs) ∧ kvs.length < sizeLine ∧ Nx (upd H5 D (.dK (putK kvs k z))) else Nx H3) := by
  have put : ∀ {H : Hp} (o : HO), Same H1 H → Same H1 (upd H D o) := fun {H} o h b u e => by
    rw [upd_ne (ne_of_none e hD)]
    exact h b u e
  refine ⟨fun i m H => m = cs.length - i ∧ i ≤ cs.length ∧ MovesPart H D cs rows i ∧ Same H1 H, ⟨_, rfl, Nat.zero_le _, part_nil upd_same, Same.upd hD⟩, ?_⟩
  rintro i m H ⟨rfl, hi, p, sm⟩
  by_cases hlt : i < cs.length
  · refine .inr ⟨w.goes i H hlt (hG H sm), fun H' => MovesPart H' D cs rows (i + 1) ∧ Same H1 H', fun H' p' => ⟨cs.length - (i + 1), by omega, rfl, hlt, p'⟩, fun x H' y => ?_⟩
    obtain ⟨as, h1, h2, h3⟩ := p
    have key := hs i x H H' (fun H' => MovesPart H' D cs rows (i + 1) ∧ Same H1 H') hlt sm ⟨_, h2⟩ (w.yields i H x H' hlt (hG H sm) y) fun y z H5 ey hz' e5 s5 t5 => by
      obtain ⟨a, rfl, ha⟩ := hz'
      have hl := part_len h1 (Nat.le_of_lt hlt)
      refine ⟨_, Sum.inr (ltr cs[i]), ey, e5.trans h2, ?_, ?_, put _ s5⟩
      · rw [mkv_len hl, List.length_take]
        exact Nat.lt_of_le_of_lt (Nat.le_trans (Nat.min_le_right _ _) hz) (by decide)
      · have hnt : ∀ b xs, H5 b = some (.tup xs) → b ≠ D := fun b xs q e => by
          rw [e, e5, h2] at q
          cases q
        exact part_step (H := H5) hn hlt (by omega) h1 (RowsAt.tups t5 h3) upd_same ha fun b xs q => by
          rw [upd_ne (hnt b xs q)]
          exact q
    exact key
  · have e : i = cs.length := by omega
    subst e
    exact .inl ⟨w.stops H (hG H sm), hd H sm (part_all hr p)⟩
/-- a dict of pairs of the letters and the rows -/
theorem merge_mkv {cs : List Nat} {as : List Addr} (hn : cs.Nodup) (h : as.length = cs.length) : mergeK [] (mkv cs as) = mkv cs as := by
  have key : ∀ (n : Nat), n ≤ cs.length → (mkv (cs.take n) (as.take n)).foldl (fun acc kv => putK acc kv.1 kv.2) [] = mkv (cs.take n) (as.take n) := by
    intro n
    induction n with
    | zero => intro _; simp [mkv]
    | succ n ih =>
      intro hle
      have hl : (as.take n).length = n := by rw [List.length_take]; omega
      have ha : n < as.length := by omega
      have e : mkv (cs.take (n + 1)) (as.take (n + 1)) = mkv (cs.take n) (as.take n) ++ [(Sum.inr (ltr cs[n]), V.ref as[n])] := by
        have : as.take (n + 1) = as.take n ++ [as[n]] := by
          rw [List.take_add_one, List.getElem?_eq_getElem ha]
          rfl
        rw [this]
        have : cs.take (n + 1) = cs.take n ++ [cs[n]] := by
          rw [List.take_add_one, List.getElem?_eq_getElem (by omega)]
          rfl
        rw [this]
        exact mkv_snoc (part_len hl (by omega))
      rw [e, List.foldl_append, ih (by omega)]
      show putK (mkv (cs.take n) (as.take n)) (Sum.inr (ltr cs[n])) (V.ref as[n]) = _
      rw [part_put hn (by omega) hl, ← e]
      have : as.take n ++ [as[n]] = as.take (n + 1) := by
        rw [List.take_add_one, List.getElem?_eq_getElem ha]
        rfl
      rw [this]
  have := key cs.length (Nat.le_refl _)
  rw [List.take_of_length_le (Nat.le_refl _), List.take_of_length_le (by omega)] at this
  exact this
/-- the row of the letter -/
theorem moves_get {H : Hp} {d : Addr} {cs : List Nat} {rows : List (List Nat)} (hn : cs.Nodup) (h : MovesAt H d cs rows) {i : Nat} (hi : i < cs.length) : ∃ (a : Addr) (r : List Nat) (kvs : List (Key × V)), H d = some (.dK kvs) ∧ valV kvs (Sum.inr (ltr cs[i])) = some (.ref a) ∧ rows[i]? = some r ∧ H a = some (.tup (iv r)) := by
  obtain ⟨as, h1, h2, h3⟩ := h
  have ha : i < as.length := by omega
  obtain ⟨r, hr, hr2⟩ := h3.get (List.getElem?_eq_getElem ha)
  exact ⟨as[i], r, _, h2, mkv_val h1 hn hi ha, hr, hr2⟩
end WP

/-! ## P1 -/
set_option Elab.async false
set_option linter.all false
set_option maxRecDepth 100000
set_option maxHeartbeats 4000000
/-! The defs on integers, letters and texts. -/
namespace WP
open PySem PySem.Spec PyProof.Rows L2 WR WC
/-- the promise of a def of the top -/
abbrev Ok (P : Program) (w : World) (K : PySem.W.Frag) (mg : Str → Option Value) (base : Heap) (k : Nat) (x : Str) (st : Stmt) (ps : List Str) (sp : Sp) : Prop := ∃ f fd, At K mg x st ps f fd ∧ FnOk P w K mg base CX0 k f fd ps sp
theorem Ok.up {P : Program} {w : World} {K : PySem.W.Frag} {mg : Str → Option Value} {base : Heap} {j k : Nat} {x : Str} {st : Stmt} {ps : List Str} {sp : Sp} (h : Ok P w K mg base j x st ps sp) (hk : j ≤ k) : Ok P w K mg base k x st ps sp := by
  obtain ⟨f, fd, a, g⟩ := h
  exact ⟨f, fd, a, g.mono hk⟩
theorem lc_fin {ys : List V} {n i : Nat} {D : Addr} {H1 H4 : Hp} {Nx : Hp → Prop} {y : V} (hn : ys.length = n) (hz : n ≤ 100000) (hi : i < n) (k : ∀ H4 : Hp, H4 D = some (.lst (ys.take i)) → Same H1 H4 → Nx (upd H4 D (.lst (ys.take i ++ [ys[i]])))) (h4 : H4 D = some (.lst (ys.take i))) (s4 : Same H1 H4) (e : ys[i]? = some y) :
    ∃ acc, H4 D = some (.lst acc) ∧ acc.length < sizeLine ∧ Nx (upd H4 D (.lst (acc ++ [y]))) := by
  have e2 : ys[i] = y := (List.getElem?_eq_some_iff.mp e).2
  exact ⟨_, h4, app_small hn hz, by rw [← e2]; exact k H4 h4 s4⟩
/-- n times True -/
def trues (n : Nat) : List V := (List.replicate n true).map V.bl
theorem trues_len (n : Nat) : (trues n).length = n := by simp [trues]
theorem trues_get {n i : Nat} (h : i < n) : (trues n)[i]? = some (.bl true) := by simp [trues, h]
theorem all_trues (n : Nat) : (List.replicate n true).all id = true := by simp
theorem txt_get (cs : List Nat) (i : Nat) : (txt cs).cps[i]? = cs[i]? := by simp [txt]
theorem txt_size (cs : List Nat) : (txt cs).cps.size = cs.length := by simp [txt]
theorem txt_length (cs : List Nat) : (txt cs).length = cs.length := txt_size cs
theorem txt_list (cs : List Nat) : (txt cs).cps.toList = cs := by simp [txt]
theorem walk_zipS {x y : Str} : Walk (ItzS x y) (min x.cps.size y.cps.size) (fun _ => True) (YPair (fun i => x.cps[i]?.map fun c => V.str ⟨#[c]⟩) (fun i => y.cps[i]?.map fun c => V.str ⟨#[c]⟩)) := by
  refine ⟨fun i _ hi _ => hi, fun _ _ => rfl, fun i H v H' _ _ h => ?_⟩
  obtain ⟨T, c, d, h1, h2, h3, h4, h5⟩ := h
  exact ⟨T, _, _, h1, h2, h3, by simp [h4], by simp [h5]⟩
theorem one_lt {a b : Nat} : decide ((⟨#[a]⟩ : Str).cps.toList < (⟨#[b]⟩ : Str).cps.toList) = decide (a < b) := by
  have e : ((⟨#[a]⟩ : Str).cps.toList < (⟨#[b]⟩ : Str).cps.toList) ↔ a < b := by
    show [a] < [b] ↔ a < b
    rw [List.cons_lt_cons_iff]
    simp
  simp only [e]
theorem str_a : ("a" : Str) = ⟨#[97]⟩ := by decide +kernel
theorem str_z : ("z" : Str) = ⟨#[122]⟩ := by decide +kernel
theorem cut_txt (cs : List Nat) : cutS (txt cs) (some 1) none = txt (cs.drop 1) := by
  unfold cutS
  rw [show HT.sIx (txt cs).length 0 (some 1) = min 1 (txt cs).length from HT.sIx_nat _ 0 1, HT.sIx_none, txt_list, txt_length]
  unfold txt
  congr 2
  cases cs with
  | nil => rfl
  | cons c cs =>
    rw [show min 1 (c :: cs).length = 1 by rw [List.length_cons]; omega]
    show List.take (cs.length + 1 - 1) cs = cs
    rw [Nat.add_sub_cancel]
    exact List.take_length
section
variable {P : Program} {w : World} {K : PySem.W.Frag} {mg : Str → Option Value} {C : Addr} {base : Heap}
theorem sc_is_integer : FnScope ["value"] ["value"] (defScope (top 12)) := ⟨rfl, rfl, rfl, by decide +kernel, rfl, by decide +kernel, by decide +kernel⟩
def sp_is_integer : Sp := fun vs H Q _ => ∃ n : Nat, vs = [.int (n : Int)] ∧ n ≤ 1000 ∧ Q (.bl true) H
theorem ok_is_integer (T : TX K mg C) : Ok P w K mg base 1 "is_integer" (top 12) ["value"] sp_is_integer := by
  obtain ⟨f, fd, D⟩ := T.f_is_integer
  refine ⟨f, fd, D, D.F.ok sc_is_integer (fun vs H Q E h => ?_) (fun cdv A outer s H vs Q E hr h => ?_)⟩
  · obtain ⟨n, rfl, _⟩ := h
    rfl
  · obtain ⟨n, rfl, hn, k⟩ := h
    obtain ⟨tg, gG⟩ := T.c_GREATEST
    refine ⟨_, pss_one (ps_ret (pe_and (pe_callB call_isi (by rfl) T.b_isinstance (by decide +kernel) (pa_cons (pv 0) (pa_cons (pe_bltn (v := .ty "int") (by rfl) T.b_int (by decide +kernel) rfl) pa_nil)))
      (pe_and (pe_not (pe_callB call_isi (by rfl) T.b_isinstance (by decide +kernel) (pa_cons (pv 0) (pa_cons (pe_bltn (v := .ty "bool") (by rfl) T.b_bool (by decide +kernel) rfl) pa_nil))))
      (pe_one (pe_chain op_le op_le (pe_un un_neg (pe_glob (v := .int (10 ^ 200 - 1)) (by rfl) gG ⟨_, rfl⟩)) (pv 0) (pe_glob (v := .int (10 ^ 200 - 1)) (by rfl) gG ⟨_, rfl⟩)))))), ?_⟩
    refine ⟨_, rfl, _, .ty "int", .type "int", .type "int", true, rfl, .ty "int", .base (.int _), kit_ty (by decide +kernel), true, rfl, iteT ?_⟩
    refine ⟨_, rfl, _, .ty "bool", .type "int", .type "bool", false, rfl, .ty "bool", .base (.int _), kit_ty (by decide +kernel), false, rfl, true, rfl, iteT ?_⟩
    have h1 : decide (-(10 ^ 200 - 1 : Int) ≤ (n : Int)) = true := decide_eq_true (by omega)
    have h2 : decide ((n : Int) ≤ (10 ^ 200 - 1 : Int)) = true := decide_eq_true (by omega)
    refine ⟨_, rfl, _, rfl, _, _, rfl, rfl, _, rfl, ?_⟩
    rw [h1]
    exact iteT ⟨_, _, rfl, rfl, qtt k h2⟩
theorem sc_is_integer_within : FnScope ["value", "low", "high"] ["value", "low", "high"] (defScope (top 13)) := ⟨rfl, rfl, rfl, by decide +kernel, rfl, by decide +kernel, by decide +kernel⟩
def sp_is_integer_within : Sp := fun vs H Q _ => ∃ (n : Nat) (m : Int), vs = [.int (n : Int), .int 0, .int m] ∧ n ≤ 1000 ∧ (n : Int) ≤ m ∧ Q (.bl true) H
theorem ok_is_integer_within (T : TX K mg C) : Ok P w K mg base 2 "is_integer_within" (top 13) ["value", "low", "high"] sp_is_integer_within := by
  obtain ⟨f, fd, D⟩ := T.f_is_integer_within
  obtain ⟨f1, fd1, D1, G1⟩ := ok_is_integer (P := P) (w := w) (base := base) T
  refine ⟨f, fd, D, D.F.ok sc_is_integer_within (fun vs H Q E h => ?_) (fun cdv A outer s H vs Q E hr h => ?_)⟩
  · obtain ⟨n, m, rfl, _⟩ := h
    rfl
  · obtain ⟨n, m, rfl, hn, hm, k⟩ := h
    refine ⟨_, pss_one (ps_ret (pe_and (pe_call G1 hr (by rfl) D1.g D1.F.kp D1.b .nil pass0 (pa_cons (pv 0) pa_nil)) (pe_one (pe_chain op_le op_le (pv 1) (pv 0) (pv 2))))), ?_⟩
    refine ⟨_, rfl, n, rfl, hn, true, rfl, iteT ?_⟩
    have h1 : decide ((0 : Int) ≤ (n : Int)) = true := decide_eq_true (by omega)
    refine ⟨_, rfl, _, rfl, _, _, rfl, rfl, _, rfl, ?_⟩
    rw [h1]
    exact iteT ⟨_, rfl, _, _, rfl, rfl, qtt k (decide_eq_true hm)⟩
theorem sc_are_small : FnScope ["text", "sign"] ["text"] (defScope (top 14)) := ⟨rfl, rfl, rfl, by decide +kernel, rfl, by decide +kernel, by decide +kernel⟩
def sp_are_small : Sp := fun vs H Q _ => ∃ cs : List Nat, vs = [.str (txt cs)] ∧ cs.length ≤ 1000 ∧ (∀ c ∈ cs, 97 ≤ c ∧ c ≤ 122) ∧ ∀ H', Same H H' → Q (.bl true) H'
theorem ok_are_small (T : TX K mg C) : Ok P w K mg base 1 "are_small" (top 14) ["text"] sp_are_small := by
  obtain ⟨f, fd, D⟩ := T.f_are_small
  refine ⟨f, fd, D, D.F.ok sc_are_small (fun vs H Q E h => ?_) (fun cdv A outer s H vs Q E hr h => ?_)⟩
  · obtain ⟨cs, rfl, _⟩ := h
    rfl
  · obtain ⟨cs, rfl, hl, hc, k⟩ := h
    refine ⟨_, pss_one (ps_ret (pe_callB (cr_all rfl) (by rfl) T.b_all (by decide +kernel) (pa_cons (pe_lc (own := [("sign", 1)]) (g := gName 1) (tt := tYes) rfl sc_are_small.nd (pi_str (pv 0)) (blkOk_by (N := ["text", "sign"]) (sc := defScope (top 14)) (by decide +kernel))
      (fun _ _ _ _ _ => pg_name (i := 1) sc_are_small.nd rfl (Or.inl rfl)) (fun _ _ _ _ _ => pts_nil) (fun _ _ _ _ _ => pe_chain op_le_str op_le_str pe_str (pv 1) pe_str)) pa_nil))), ?_⟩
    refine ⟨_, rfl, txt cs, rfl, fun L hL => lc_map walk_str hL (trues cs.length) (by rw [trues_len, txt_size]) (by rw [txt_size]; omega) (fun _ _ => True.intro) (fun i x H2 H3 Nx hi sm hLi hy kk => ?_) fun H2 sm hL2 => ?_⟩
    · obtain ⟨rfl, c, hc1, rfl⟩ := hy
      rw [txt_get] at hc1
      rw [txt_size] at hi
      obtain ⟨h1, h2⟩ := hc c (List.mem_of_getElem? hc1)
      refine ⟨rfl, _, rfl, _, _, rfl, rfl, true, ?_, iteT ⟨_, _, rfl, rfl, ?_⟩⟩
      · show V.bl (!decide ((⟨#[c]⟩ : Str).cps.toList < ("a" : Str).cps.toList)) = V.bl true
        rw [str_a, one_lt, decide_eq_false (by omega)]
        rfl
      · rw [str_z, one_lt, decide_eq_false (by omega)]
        exact lc_fin (n := cs.length) (trues_len _) (by omega) hi kk hLi sm (trues_get hi)
    · exact ⟨L, List.replicate cs.length true, rfl, .inl (.inl hL2), qtt (k _ sm) (all_trues _)⟩
theorem sc_is_letters : FnScope ["value", "one", "other"] ["value"] (defScope (top 15)) := ⟨rfl, rfl, rfl, by decide +kernel, rfl, by decide +kernel, by decide +kernel⟩
def sp_is_letters : Sp := fun vs H Q _ => ∃ cs : List Nat, vs = [.str (txt cs)] ∧ Ltrs cs ∧ ∀ H', Same H H' → Q (.bl true) H'
theorem ok_is_letters (T : TX K mg C) : Ok P w K mg base 2 "is_letters" (top 15) ["value"] sp_is_letters := by
  obtain ⟨f, fd, D⟩ := T.f_is_letters
  obtain ⟨f1, fd1, D1, G1⟩ := ok_are_small (P := P) (w := w) (base := base) T
  obtain ⟨tm, gM⟩ := T.c_MOST_LETTERS
  refine ⟨f, fd, D, D.F.ok sc_is_letters (fun vs H Q E h => ?_) (fun cdv A outer s H vs Q E hr h => ?_)⟩
  · obtain ⟨cs, rfl, _⟩ := h
    rfl
  · obtain ⟨cs, rfl, hc, k⟩ := h
    have hp := hc.pos
    have hf := hc.few
    refine ⟨_, pss_cons (ps_if (PW.pt (pw_or (pt_not (pt_val (pe_callB call_isi (by rfl) T.b_isinstance (by decide +kernel) (pa_cons (pv 0) (pa_cons (pe_bltn (v := .ty "str") (by rfl) T.b_str (by decide +kernel) rfl) pa_nil)))))
        (pw_or (pt_not (pt_chain op_le op_le pe_int (pe_callB call_len_str (by rfl) T.b_len PySem.boot_len (pa_cons (pv 0) pa_nil)) (pe_glob (v := .int 3) (by rfl) gM ⟨_, rfl⟩)))
          (pw_or1 (pt_not (pt_val (pe_call G1 hr (by rfl) D1.g D1.F.kp D1.b .nil pass0 (pa_cons (pv 0) pa_nil))))))))
        (pss_one ps_never) pss_nil)
      (pss_one (ps_ret (pe_callB (cr_all rfl) (by rfl) T.b_all (by decide +kernel) (pa_cons (pe_lc (own := [("one", 1), ("other", 2)]) (g := gTup K 2 (gCons (gName 1) (gCons (gName 2) gNil))) (tt := tYes) rfl sc_is_letters.nd
        (pi_zipS (by rfl) T.b_zip (pa_cons (pv 0) (pa_cons (pe_slice sl_str (pv 0) (po_some pe_int) po_none) pa_nil))) (blkOk_by (N := ["value", "one", "other"]) (sc := defScope (top 15)) (by decide +kernel))
        (fun _ _ _ _ _ => pg_tup rfl (pgs_cons (pg_name (i := 1) sc_is_letters.nd rfl (Or.inl rfl)) (pgs_cons (pg_name (i := 2) sc_is_letters.nd rfl (Or.inl rfl)) pgs_nil))) (fun _ _ _ _ _ => pts_nil) (fun _ _ _ _ _ => pe_cmpR op_lt_str (pv 1) (pv 2) (nomark _))) pa_nil)))), ?_⟩
    refine ⟨_, rfl, _, .ty "str", .type "str", .type "str", true, rfl, .ty "str", .base (.str _), kit_ty (by decide +kernel), true, rfl, iteF ?_⟩
    refine ⟨_, rfl, txt cs, rfl, by rw [txt_length, sizeLine_eq]; omega, _, _, rfl, rfl, true, ?_, iteT ⟨_, _, rfl, rfl, true, ?_, iteF ?_⟩⟩
    · exact congrArg V.bl (decide_eq_true (by rw [txt_length]; omega))
    · exact congrArg V.bl (decide_eq_true (by rw [txt_length]; omega))
    refine ⟨_, rfl, cs, rfl, by omega, hc.small, fun H1 s1 => ⟨true, rfl, iteF ?_⟩⟩
    refine ⟨_, rfl, _, rfl, 1, rfl, txt cs, rfl, by rw [txt_length, sizeLine_eq]; omega, txt cs, txt (cs.drop 1), by rw [cut_txt], ?_⟩
    have hm : min (txt cs).cps.size (txt (cs.drop 1)).cps.size = cs.length - 1 := by rw [txt_size, txt_size, List.length_drop]; omega
    refine fun L hL => lc_map walk_zipS hL (trues (cs.length - 1)) (by rw [trues_len, hm]) (by rw [hm]; omega) (fun _ _ => True.intro) (fun i x H2 H3 Nx hi sm hLi hy kk => ?_) fun H2 sm hL2 => ?_
    · obtain ⟨a, x1, x2, rfl, hn, rfl, e1, e2⟩ := hy
      rw [hm] at hi
      dsimp only at e1 e2
      rw [txt_get, List.getElem?_eq_getElem (by omega)] at e1
      rw [txt_get, List.getElem?_drop, List.getElem?_eq_getElem (by omega)] at e2
      have e1 : V.str ⟨#[cs[i]]⟩ = x1 := Option.some.inj e1
      have e2 : V.str ⟨#[cs[1 + i]]⟩ = x2 := Option.some.inj e2
      subst e1 e2
      refine ⟨a, _, rfl, .inl (.inl upd_same), rfl, _, _, rfl, _, _, rfl, rfl, rfl, _, rfl, _, rfl, _, _, rfl, rfl, ?_⟩
      have hlt : cs[i] < cs[1 + i] := (List.pairwise_iff_getElem.mp hc.asc) i (1 + i) (by omega) (by omega) (by omega)
      have nL : L ≠ a := ne_of_none hLi hn
      rw [one_lt, decide_eq_true hlt]
      exact lc_fin (n := cs.length - 1) (trues_len _) (by omega) hi kk (by rw [upd_ne nL]; exact hLi) (sm.trans (Same.upd hn)) (trues_get hi)
    · exact ⟨L, List.replicate (cs.length - 1) true, rfl, .inl (.inl hL2), qtt (k _ (s1.trans sm)) (all_trues _)⟩
theorem sc_is_text_within : FnScope ["letters", "value", "sign"] ["letters", "value"] (defScope (top 16)) := ⟨rfl, rfl, rfl, by decide +kernel, rfl, by decide +kernel, by decide +kernel⟩
def sp_is_text_within : Sp := fun vs H Q _ => ∃ cs ws : List Nat, vs = [.str (txt cs), .str (txt ws)] ∧ ws.length ≤ 4000 ∧ (∀ c ∈ ws, c ∈ cs) ∧ ∀ H', Same H H' → Q (.bl true) H'
theorem ok_is_text_within (T : TX K mg C) : Ok P w K mg base 1 "is_text_within" (top 16) ["letters", "value"] sp_is_text_within := by
  obtain ⟨f, fd, D⟩ := T.f_is_text_within
  obtain ⟨tm, gM⟩ := T.c_MAX_TEXT
  refine ⟨f, fd, D, D.F.ok sc_is_text_within (fun vs H Q E h => ?_) (fun cdv A outer s H vs Q E hr h => ?_)⟩
  · obtain ⟨cs, ws, rfl, _⟩ := h
    rfl
  · obtain ⟨cs, ws, rfl, hl, hc, k⟩ := h
    refine ⟨_, pss_one (ps_ret (pe_and (pe_callB call_isi (by rfl) T.b_isinstance (by decide +kernel) (pa_cons (pv 1) (pa_cons (pe_bltn (v := .ty "str") (by rfl) T.b_str (by decide +kernel) rfl) pa_nil)))
      (pe_and (pe_cmpR op_le (pe_callB call_len_str (by rfl) T.b_len PySem.boot_len (pa_cons (pv 1) pa_nil)) (pe_glob (v := .int 4000) (by rfl) gM ⟨_, rfl⟩) (nomark _))
      (pe_one (pe_callB (cr_all rfl) (by rfl) T.b_all (by decide +kernel) (pa_cons (pe_lc (own := [("sign", 2)]) (g := gName 2) (tt := tYes) rfl sc_is_text_within.nd (pi_str (pv 1)) (blkOk_by (N := ["letters", "value", "sign"]) (sc := defScope (top 16)) (by decide +kernel))
      (fun _ _ _ _ _ => pg_name (i := 2) sc_is_text_within.nd rfl (Or.inl rfl)) (fun _ _ _ _ _ => pts_nil) (fun _ _ _ _ _ => pe_cmpR op_in_sign (pv 2) (pv 0) rfl)) pa_nil)))))), ?_⟩
    refine ⟨_, rfl, _, .ty "str", .type "str", .type "str", true, rfl, .ty "str", .base (.str _), kit_ty (by decide +kernel), true, rfl, iteT ?_⟩
    refine ⟨_, rfl, txt ws, rfl, by rw [txt_length, sizeLine_eq]; omega, _, _, rfl, rfl, true, ?_, iteT ?_⟩
    · exact congrArg V.bl (decide_eq_true (by rw [txt_length]; omega))
    refine ⟨_, rfl, txt ws, rfl, fun L hL => lc_map walk_str hL (trues ws.length) (by rw [trues_len, txt_size]) (by rw [txt_size]; omega) (fun _ _ => True.intro) (fun i x H2 H3 Nx hi sm hLi hy kk => ?_) fun H2 sm hL2 => ?_⟩
    · obtain ⟨rfl, c, hc1, rfl⟩ := hy
      rw [txt_get] at hc1
      rw [txt_size] at hi
      refine ⟨rfl, _, rfl, _, rfl, c, txt cs, rfl, rfl, ?_⟩
      rw [txt_list, decide_eq_true (hc c (List.mem_of_getElem? hc1))]
      exact lc_fin (n := ws.length) (trues_len _) (by omega) hi kk hLi sm (trues_get hi)
    · exact ⟨L, List.replicate ws.length true, rfl, .inl (.inl hL2), qtt (k _ sm) (all_trues _)⟩
theorem sc_require_letters : FnScope ["value"] ["value"] (defScope (top 17)) := ⟨rfl, rfl, rfl, by decide +kernel, rfl, by decide +kernel, by decide +kernel⟩
def sp_require_letters : Sp := fun vs H Q _ => ∃ cs : List Nat, vs = [.str (txt cs)] ∧ Ltrs cs ∧ ∀ H', Same H H' → Q .non H'
theorem ok_require_letters (T : TX K mg C) : Ok P w K mg base 3 "require_letters" (top 17) ["value"] sp_require_letters := by
  obtain ⟨f, fd, D⟩ := T.f_require_letters
  obtain ⟨f1, fd1, D1, G1⟩ := ok_is_letters (P := P) (w := w) (base := base) T
  refine ⟨f, fd, D, D.F.ok sc_require_letters (fun vs H Q E h => ?_) (fun cdv A outer s H vs Q E hr h => ?_)⟩
  · obtain ⟨cs, rfl, _⟩ := h
    rfl
  · obtain ⟨cs, rfl, hc, k⟩ := h
    refine ⟨_, pss_one (ps_if (pt_not (pt_val (pe_call G1 hr (by rfl) D1.g D1.F.kp D1.b .nil pass0 (pa_cons (pv 0) pa_nil)))) (pss_one ps_never) pss_nil), ?_⟩
    exact ⟨_, rfl, cs, rfl, hc, fun H1 s1 => ⟨true, rfl, iteF (k _ s1)⟩⟩
end
end WP

/-! ## P2 -/
set_option Elab.async false
set_option linter.all false
set_option maxRecDepth 100000
set_option maxHeartbeats 4000000
/-! States, moves, the making of a reader. -/
namespace WP
open PySem PySem.Spec PyProof.Rows L2 WR WC
theorem cut_iv (ns : List Nat) : cutV (iv ns) (some 1) none = iv (ns.drop 1) := by
  unfold cutV
  rw [show HT.sIx (iv ns).length 0 (some 1) = min 1 (iv ns).length from HT.sIx_nat _ 0 1, HT.sIx_none, iv_len]
  cases ns with
  | nil => rfl
  | cons n ns =>
    rw [show min 1 (n :: ns).length = 1 by rw [List.length_cons]; omega]
    show List.take (ns.length + 1 - 1) (iv ns) = iv ns
    rw [Nat.add_sub_cancel]
    exact List.take_of_length_le (by rw [iv_len]; omega)
theorem walk_zipT {K : PySem.W.Frag} {a b : Addr} {xs ys : List V} {n : Nat} (hn : n = min xs.length ys.length) : Walk (RZ.ItzT K a b) n (fun H => SqT K H a xs ∧ SqT K H b ys) (YPair (fun i => xs[i]?) (fun i => ys[i]?)) := by
  subst hn
  refine ⟨fun i _ hi q => ⟨xs, ys, xs[i]'(by omega), ys[i]'(by omega), q.1, q.2, List.getElem?_eq_getElem (by omega), List.getElem?_eq_getElem (by omega)⟩, fun _ q => ⟨xs, ys, q.1, q.2, by omega⟩, fun i H v H' _ q y => ?_⟩
  obtain ⟨T, x, z, h1, h2, h3, h4, h5⟩ := y
  exact ⟨T, x, z, h1, h2, h3, h4 xs q.1, h5 ys q.2⟩
theorem sqt_same {K : PySem.W.Frag} {H H' : Hp} {a : Addr} {xs : List V} (e : Same H H') (h : H a = some (.tup xs)) : SqT K H' a xs := .inl (.inl (e _ _ h))
section
variable {P : Program} {w : World} {K : PySem.W.Frag} {mg : Str → Option Value} {C : Addr} {base : Heap}
theorem sc_are_states : FnScope ["many", "value", "state"] ["many", "value"] (defScope (top 20)) := ⟨rfl, rfl, rfl, by decide +kernel, rfl, by decide +kernel, by decide +kernel⟩
def sp_are_states : Sp := fun vs H Q _ => ∃ (m : Nat) (a : Addr) (ns : List Nat), vs = [.int (m : Int), .ref a] ∧ H a = some (.tup (iv ns)) ∧ m ≤ 1000 ∧ ns.length ≤ 1000 ∧ (∀ x ∈ ns, x < m) ∧ ∀ H', Same H H' → Q (.bl true) H'
theorem ok_are_states (T : TX K mg C) : Ok P w K mg base 3 "are_states" (top 20) ["many", "value"] sp_are_states := by
  obtain ⟨f, fd, D⟩ := T.f_are_states
  obtain ⟨f1, fd1, D1, G1⟩ := ok_is_integer_within (P := P) (w := w) (base := base) T
  refine ⟨f, fd, D, D.F.ok sc_are_states (fun vs H Q E h => ?_) (fun cdv A outer s H vs Q E hr h => ?_)⟩
  · obtain ⟨m, a, ns, rfl, _⟩ := h
    rfl
  · obtain ⟨m, a, ns, rfl, ha, hm, hl, hx, k⟩ := h
    refine ⟨_, pss_one (ps_ret (pe_and (pe_callB call_isi (by rfl) T.b_isinstance (by decide +kernel) (pa_cons (pv 1) (pa_cons (pe_bltn (v := .ty "tuple") (by rfl) T.b_tuple (by decide +kernel) rfl) pa_nil)))
      (pe_one (pe_callB (cr_all rfl) (by rfl) T.b_all (by decide +kernel) (pa_cons (pe_lc (own := [("state", 2)]) (g := gName 2) (tt := tYes) rfl sc_are_states.nd (pi_tup (pv 1)) (blkOk_by (N := ["many", "value", "state"]) (sc := defScope (top 20)) (by decide +kernel))
      (fun _ _ _ _ _ => pg_name (i := 2) sc_are_states.nd rfl (Or.inl rfl)) (fun _ _ _ _ _ => pts_nil)
      (fun _ _ _ _ _ => pe_call G1 hr (by rfl) D1.g D1.F.kp D1.b .nil pass0 (pa_cons (pv 2) (pa_cons pe_int (pa_cons (pe_op op_sub (pv 0) pe_int) pa_nil))))) pa_nil))))), ?_⟩
    refine ⟨_, rfl, _, .ty "tuple", .type "tuple", .type "tuple", true, rfl, .ty "tuple", .base (.tup ha), kit_ty (by decide +kernel), true, rfl, iteT ?_⟩
    refine ⟨_, rfl, a, rfl, ⟨_, .inl (.inl ha)⟩, fun L hL => lc_map (walk_tup (xs := iv ns)) hL (trues ns.length) (by rw [trues_len, iv_len]) (by rw [iv_len]; omega) (fun _ e => sqt_same e ha) (fun i x H2 H3 Nx hi sm hLi hy kk => ?_) fun H2 sm hL2 => ?_⟩
    · obtain ⟨rfl, e⟩ := hy
      rw [iv_len] at hi
      rw [iv_get hi] at e
      have e := Option.some.inj e
      subst e
      have hlt := hx _ (List.getElem_mem hi)
      refine ⟨rfl, _, rfl, _, rfl, _, _, rfl, rfl, ns[i], (m : Int) - 1, rfl, by omega, by omega, ?_⟩
      exact lc_fin (n := ns.length) (trues_len _) (by omega) hi kk hLi sm (trues_get hi)
    · exact ⟨L, List.replicate ns.length true, rfl, .inl (.inl hL2), qtt (k _ sm) (all_trues _)⟩
theorem sc_is_state_set : FnScope ["many", "value", "one", "other"] ["many", "value"] (defScope (top 22)) := ⟨rfl, rfl, rfl, by decide +kernel, rfl, by decide +kernel, by decide +kernel⟩
def sp_is_state_set : Sp := fun vs H Q _ => ∃ (m : Nat) (a : Addr) (ns : List Nat), vs = [.int (m : Int), .ref a] ∧ H a = some (.tup (iv ns)) ∧ m ≤ 1000 ∧ ns.length ≤ 1000 ∧ (∀ x ∈ ns, x < m) ∧ ns.Pairwise (· < ·) ∧ ∀ H', Same H H' → Q (.bl true) H'
theorem ok_is_state_set (T : TX K mg C) : Ok P w K mg base 4 "is_state_set" (top 22) ["many", "value"] sp_is_state_set := by
  obtain ⟨f, fd, D⟩ := T.f_is_state_set
  obtain ⟨f1, fd1, D1, G1⟩ := ok_are_states (P := P) (w := w) (base := base) T
  refine ⟨f, fd, D, D.F.ok sc_is_state_set (fun vs H Q E h => ?_) (fun cdv A outer s H vs Q E hr h => ?_)⟩
  · obtain ⟨m, a, ns, rfl, _⟩ := h
    rfl
  · obtain ⟨m, a, ns, rfl, ha, hm, hl, hx, hasc, k⟩ := h
    refine ⟨_, pss_one (ps_ret (pe_and (pe_call G1 hr (by rfl) D1.g D1.F.kp D1.b .nil pass0 (pa_cons (pv 0) (pa_cons (pv 1) pa_nil)))
      (pe_one (pe_callB (cr_all rfl) (by rfl) T.b_all (by decide +kernel) (pa_cons (pe_lc (own := [("one", 2), ("other", 3)]) (g := gTup K 2 (gCons (gName 2) (gCons (gName 3) gNil))) (tt := tYes) rfl sc_is_state_set.nd
        (RZ.pi_zipA (by rfl) T.b_zip (pa_cons (pv 1) (pa_cons (pe_slice sl_tupA (pv 1) (po_some pe_int) po_none) pa_nil))) (blkOk_by (N := ["many", "value", "one", "other"]) (sc := defScope (top 22)) (by decide +kernel))
        (fun _ _ _ _ _ => pg_tup rfl (pgs_cons (pg_name (i := 2) sc_is_state_set.nd rfl (Or.inl rfl)) (pgs_cons (pg_name (i := 3) sc_is_state_set.nd rfl (Or.inl rfl)) pgs_nil))) (fun _ _ _ _ _ => pts_nil) (fun _ _ _ _ _ => pe_cmpR op_lt (pv 2) (pv 3) (nomark _))) pa_nil))))), ?_⟩
    refine ⟨_, rfl, _, rfl, m, a, ns, rfl, ha, hm, hl, hx, fun H1 s1 => ⟨true, rfl, iteT ?_⟩⟩
    -- the zip, wherever the slice lies
    have zip : ∀ (b : Addr) (H1 : Hp), Same H H1 → SqT K H1 b (iv (ns.drop 1)) → (∀ H2, Same H1 H2 → SqT K H2 b (iv (ns.drop 1))) → ∀ (L : Addr), H1 L = none → ∃ W : Nat → Nat → Hp → Prop, (∃ m, W 0 m (upd H1 L (.lst []))) ∧ ∀ i m' H, W i m' H →
        ((RZ.ItzT K a b).stop i H ∧ tNil (L2.start ["many", "value", "one", "other"] [V.int (m : Int), V.ref a]) H (fun vs H2 => rAll K (V.ref L :: vs) H2 Q)) ∨ ((RZ.ItzT K a b).go i H ∧ ∃ Nx : Hp → Prop, (∀ H', Nx H' → ∃ m'', m'' < m' ∧ W (i + 1) m'' H') ∧ ∀ x H', (RZ.ItzT K a b).yld i H x H' → gTup K 2 (gCons (gName 2) (gCons (gName 3) gNil)) x (wipe (L2.start ["many", "value", "one", "other"] [V.int (m : Int), V.ref a]) [2, 3]) H' fun σ2 H2 => wipe σ2 [2, 3] = wipe (L2.start ["many", "value", "one", "other"] [V.int (m : Int), V.ref a]) [2, 3] ∧ tYes σ2 H2 fun b H3 =>
          if b = true then tOp (rI0 fun i j => .bl (decide (i < j))) (tVar 2) (tVar 3) σ2 H3 fun y H4 => ∃ acc, H4 L = some (.lst acc) ∧ acc.length < sizeLine ∧ Nx (upd H4 L (.lst (acc ++ [y]))) else Nx H3) := by
      intro b H1 s1 hb1 hb L hL
      have hm2 : ns.length - 1 = min (iv ns).length (iv (ns.drop 1)).length := by rw [iv_len, iv_len, List.length_drop]; omega
      refine lc_map (walk_zipT (xs := iv ns) (ys := iv (ns.drop 1)) hm2) hL (trues (ns.length - 1)) (trues_len _) (by omega) (fun H2 e => ⟨sqt_same (s1.trans e) ha, hb H2 e⟩) (fun i x H2 H3 Nx hi sm hLi hy kk => ?_) fun H2 sm hL2 => ?_
      · obtain ⟨c, x1, x2, rfl, hn, rfl, e1, e2⟩ := hy
        dsimp only at e1 e2
        rw [iv_get (by omega)] at e1
        rw [iv_get (by rw [List.length_drop]; omega)] at e2
        have e1 := Option.some.inj e1
        have e2 := Option.some.inj e2
        rw [List.getElem_drop] at e2
        subst e1 e2
        refine ⟨c, _, rfl, .inl (.inl upd_same), rfl, _, _, rfl, _, _, rfl, rfl, rfl, _, rfl, _, rfl, _, _, rfl, rfl, ?_⟩
        have hlt : ns[i] < ns[1 + i] := (List.pairwise_iff_getElem.mp hasc) i (1 + i) (by omega) (by omega) (by omega)
        have nL : L ≠ c := ne_of_none hLi hn
        have hd : decide (((ns[i] : Nat) : Int) < ((ns[1 + i] : Nat) : Int)) = true := decide_eq_true (by omega)
        dsimp only
        rw [hd]
        exact lc_fin (n := ns.length - 1) (trues_len _) (by omega) hi kk (by rw [upd_ne nL]; exact hLi) (sm.trans (Same.upd hn)) (trues_get hi)
      · exact ⟨L, List.replicate (ns.length - 1) true, rfl, .inl (.inl hL2), qtt (k _ (s1.trans sm)) (all_trues _)⟩
    have ha1 : SqT K H1 a (iv ns) := sqt_same s1 ha
    refine ⟨_, rfl, _, rfl, 1, rfl, a, iv ns, rfl, ha1, fun e => ?_, fun e p hp => ?_⟩
    · -- the slice is the whole tuple: an empty one
      have h0 : ns = [] := by
        have e := e.1
        rw [show HT.sIx (iv ns).length 0 (some 1) = min 1 (iv ns).length from HT.sIx_nat _ 0 1, iv_len] at e
        exact List.eq_nil_of_length_eq_zero (by omega)
      subst h0
      refine ⟨a, a, iv [], iv [], rfl, .inr ⟨ha1, ha1, ?_⟩⟩
      exact fun L hL => zip a H1 s1 ha1 (fun H2 e => sqt_same (s1.trans e) ha) L hL
    · refine ⟨a, p, iv ns, _, rfl, .inr ⟨sqt_same (Same.upd hp) (s1 _ _ ha), .inl (.inl upd_same), ?_⟩⟩
      refine fun L hL => zip p _ (s1.trans (Same.upd hp)) ?_ (fun H2 e => ?_) L hL
      · rw [← cut_iv]
        exact .inl (.inl upd_same)
      · rw [← cut_iv]
        exact sqt_same e upd_same
end
end WP

/-! ## W2 -/
set_option Elab.async false
set_option linter.all false
set_option maxRecDepth 100000
set_option maxHeartbeats 4000000
/-! Rules with the written part named (for use within comprehensions). -/
namespace WP
open PySem PySem.Spec PyProof.Rows L2 WR WC
theorem _root_.L2.Room.u1 {k : Nat} {A : Around} (h : Room k A) : A.units + 1 < cLine := by have := h.un; omega
theorem _root_.L2.Room.u64 {k : Nat} {A : Around} (h : Room k A) : A.units + 64 < cLine := by have := h.un; omega
theorem _root_.L2.Room.u65 {k : Nat} {A : Around} (h : Room k A) : A.units + 65 < cLine := by have := h.un; omega
theorem sql_same {K : PySem.W.Frag} {H H' : Hp} {a : Addr} {xs : List V} (e : Same H H') (h : H a = some (.lst xs)) : SqL K H' a xs := .inl (.inl (e _ _ h))
theorem sql {K : PySem.W.Frag} {H : Hp} {a : Addr} {xs : List V} (h : H a = some (.lst xs)) : SqL K H a xs := .inl (.inl h)
theorem sqt {K : PySem.W.Frag} {H : Hp} {a : Addr} {xs : List V} (h : H a = some (.tup xs)) : SqT K H a xs := .inl (.inl h)
/-- what is asked of the value -/
def kLenQ (K : PySem.W.Frag) (x : V) (H : Hp) (Q : VK) : Prop := ∃ p ys, x = .ref p ∧ (SqL K H p ys ∨ SqT K H p ys) ∧ Q (.int ys.length) H
def kLenS (x : V) (H : Hp) (Q : VK) : Prop := ∃ z, x = .str z ∧ z.length ≤ sizeLine ∧ Q (.int z.length) H
def kLenK (x : V) (H : Hp) (Q : VK) : Prop := ∃ a kvs, x = V.ref a ∧ H a = some (.dK kvs) ∧ Q (.int kvs.length) H
def kIsY (K : PySem.W.Frag) (n : String) (x : V) (H : Hp) (Q : VK) : Prop := TyX K H x (.type n) ∧ Q (.bl true) H
def kIsR (C : Addr) (x : V) (H : Hp) (Q : VK) : Prop := ∃ a dx fs, x = .ref a ∧ H a = some (.ins C dx fs) ∧ Q (.bl true) H
def kAllQ (K : PySem.W.Frag) (x : V) (H : Hp) (Q : VK) : Prop := ∃ (a : Addr) (bs : List Bool), x = V.ref a ∧ SqL K H a (bs.map V.bl) ∧ Q (.bl (bs.all id)) H
def kFldR (C : Addr) (f : Str) (x : V) (H : Hp) (Q : VK) : Prop := ∃ a dx fs v, x = .ref a ∧ H a = some (.ins C dx fs) ∧ fs.lookup f = some v ∧ Q v H
/-- own fields -/
def ownF (f : Str) : Prop := f = "own_letters" ∨ f = "own_moves" ∨ f = "own_yes"
theorem TX.no {K : PySem.W.Frag} {mg : Str → Option Value} {C : Addr} (T : TX K mg C) {f : Str} (h : ownF f) : NoAttr K C f := by
  rcases h with rfl | rfl | rfl
  · exact T.nL
  · exact T.nM
  · exact T.nY
section
variable {X : Cx} {K : PySem.W.Frag} {mg : Str → Option Value} {C : Addr} {e o i : Expr} {te td ty : TE} {p p2 pos : Pos}
theorem pe_b1 {id : String} {x : Str} {r : List V → Hp → VK → Prop} {k : V → Hp → VK → Prop} (hc : CallR X (.builtin id) r) (hk : ∀ v H Q, k v H Q → r [v] H Q) (hg : Gl X x) (hm : X.mg x = none) (hv : bootBuiltins x = some (.builtin id)) (he : PE X e te)
    (na : starEach [e] X.env = (false, eval e X.env) :: starEach [] X.env) (hn : x ≠ "__name__" := by decide) (hdb : (x == ("__debug__" : Str)) = false := by decide) : PE X (.Call (.Name x p) [e] [] pos) (tThen te k) := by
  have hc' : CallR X (.builtin id) (fun xs H Q => ∃ x, xs = [x] ∧ k x H Q) := fun pins s σ H xs us Q I rv h => by
    obtain ⟨x, rfl, h⟩ := h
    exact hc pins s σ H [x] us Q I rv (hk x H Q h)
  refine ⟨fun pins s σ H Q I q => (pe_callB hc' hg hm hv (pa_cons he pa_nil na) hn hdb na rfl).run pins s σ H Q I ?_⟩
  have key : tCB (fun xs H Q => ∃ x, xs = [x] ∧ k x H Q) (tCons te tNil) σ H Q = tThen te k σ H Q := by
    unfold tCB tCons tNil tThen
    congr 1
    funext x H1
    refine propext ⟨?_, fun h => ⟨x, rfl, h⟩⟩
    rintro ⟨y, e, h⟩
    cases e
    exact h
  rw [key]
  exact q
theorem pe_lenQ (T : TX K mg C) (he : PE X e te) (hK : X.K = K := by rfl) (hm : X.mg = mg := by rfl) (hg : Gl X "len" := by rfl) (na : starEach [e] X.env = (false, eval e X.env) :: starEach [] X.env := by rfl) : PE X (.Call (.Name "len" p) [e] [] pos) (tThen te (kLenQ K)) := by
  subst hK
  refine pe_b1 call_len_seq (fun v H Q h => ?_) hg (by rw [hm]; exact T.b_len) PySem.boot_len he na
  obtain ⟨p, ys, rfl, h1, h2⟩ := h
  exact ⟨p, ys, rfl, h1, h2⟩
theorem pe_lenS (T : TX K mg C) (he : PE X e te) (hm : X.mg = mg := by rfl) (hg : Gl X "len" := by rfl) (na : starEach [e] X.env = (false, eval e X.env) :: starEach [] X.env := by rfl) : PE X (.Call (.Name "len" p) [e] [] pos) (tThen te kLenS) := by
  refine pe_b1 call_len_str (fun v H Q h => ?_) hg (by rw [hm]; exact T.b_len) PySem.boot_len he na
  obtain ⟨z, rfl, h1, h2⟩ := h
  exact ⟨z, rfl, h1, h2⟩
theorem pe_lenK (T : TX K mg C) (he : PE X e te) (hm : X.mg = mg := by rfl) (hg : Gl X "len" := by rfl) (na : starEach [e] X.env = (false, eval e X.env) :: starEach [] X.env := by rfl) : PE X (.Call (.Name "len" p) [e] [] pos) (tThen te kLenK) := by
  refine pe_b1 call_lenD (fun v H Q h => ?_) hg (by rw [hm]; exact T.b_len) PySem.boot_len he na
  obtain ⟨z, kvs, rfl, h1, h2⟩ := h
  exact ⟨z, kvs, rfl, h1, h2⟩
theorem pe_allQ (T : TX K mg C) (he : PE X e te) (hc : X.calm = true := by rfl) (hK : X.K = K := by rfl) (hm : X.mg = mg := by rfl) (hg : Gl X "all" := by rfl) (na : starEach [e] X.env = (false, eval e X.env) :: starEach [] X.env := by rfl) : PE X (.Call (.Name "all" p) [e] [] pos) (tThen te (kAllQ K)) := by
  subst hK
  refine pe_b1 (cr_all hc) (fun v H Q h => ?_) hg (by rw [hm]; exact T.b_all) (by decide +kernel) he na
  obtain ⟨z, bs, rfl, h1, h2⟩ := h
  exact ⟨z, bs, rfl, h1, h2⟩
theorem pe_is2 {t c : Expr} {u : Value} {v : V} (T : TX K mg C) (he : PE X e te) (hc : PE X c (tC v)) {k : V → Hp → VK → Prop} (hk : ∀ x H Q, k x H Q → rIsi X.K [x, v] H Q) (hm : X.mg = mg) (hg : Gl X "isinstance") (na : starEach [e, c] X.env = (false, eval e X.env) :: starEach [c] X.env)
    (nb : starEach [c] X.env = (false, eval c X.env) :: starEach [] X.env) (hpl : (backTo pos (starEach [c] X.env)).any (·.1) = false) : PE X (.Call (.Name "isinstance" p) [e, c] [] pos) (tThen te k) := by
  have hc' : CallR X (.builtin "isinstance") (fun xs H Q => ∃ x, xs = [x, v] ∧ k x H Q) := fun pins s σ H xs us Q I rv h => by
    obtain ⟨x, rfl, h⟩ := h
    exact call_isi pins s σ H [x, v] us Q I rv (hk x H Q h)
  refine ⟨fun pins s σ H Q I q => (pe_callB hc' hg (by rw [hm]; exact T.b_isinstance) (by decide +kernel) (pa_cons he (pa_cons hc pa_nil nb) na) (by decide) (by decide) na hpl).run pins s σ H Q I ?_⟩
  have key : tCB (fun xs H Q => ∃ x, xs = [x, v] ∧ k x H Q) (tCons te (tCons (tC v) tNil)) σ H Q = tThen te k σ H Q := by
    unfold tCB tCons tNil tThen tC
    congr 1
    funext x H1
    refine propext ⟨?_, fun h => ⟨x, rfl, h⟩⟩
    rintro ⟨y, e, h⟩
    cases e
    exact h
  rw [key]
  exact q
/-- isinstance(e, T): yes -/
theorem pe_isY {n : Str} {z : String} (T : TX K mg C) (he : PE X e te) (hn : mg n = none) (hv : bootBuiltins n = some (.type z)) (h2 : kitB z z = some true := by decide +kernel) (hK : X.K = K := by rfl) (hm : X.mg = mg := by rfl) (hg : Gl X "isinstance" := by rfl) (hg2 : Gl X n := by rfl)
    (na : starEach [e, .Name n p2] X.env = (false, eval e X.env) :: starEach [.Name n p2] X.env := by rfl) (nb : starEach [Expr.Name n p2] X.env = (false, eval (.Name n p2) X.env) :: starEach [] X.env := by rfl) (hpl : (backTo pos (starEach [Expr.Name n p2] X.env)).any (·.1) = false := by rfl)
    (d1 : n ≠ "__name__" := by decide) (d2 : (n == ("__debug__" : Str)) = false := by decide) : PE X (.Call (.Name "isinstance" p) [e, .Name n p2] [] pos) (tThen te (kIsY K z)) := by
  subst hK
  refine pe_is2 (t := e) (u := .none) T he (pe_bltn (v := .ty z) hg2 (by rw [hm]; exact hn) hv rfl d1 d2) (fun x H Q h => ?_) hm hg na nb hpl
  exact ⟨x, .ty z, .type z, .type z, true, rfl, .ty z, h.1, kit_ty h2, h.2⟩
/-- isinstance(e, Reader): yes -/
theorem pe_isR (T : TX K mg C) (he : PE X e te) (hK : X.K = K := by rfl) (hm : X.mg = mg := by rfl) (hg : Gl X "isinstance" := by rfl) (hg2 : Gl X "Reader" := by rfl)
    (na : starEach [e, .Name "Reader" p2] X.env = (false, eval e X.env) :: starEach [.Name "Reader" p2] X.env := by rfl) (nb : starEach [Expr.Name "Reader" p2] X.env = (false, eval (.Name "Reader" p2) X.env) :: starEach [] X.env := by rfl) (hpl : (backTo pos (starEach [Expr.Name "Reader" p2] X.env)).any (·.1) = false := by rfl) :
    PE X (.Call (.Name "isinstance" p) [e, .Name "Reader" p2] [] pos) (tThen te (kIsR C)) := by
  subst hK
  refine pe_is2 (t := e) (u := .none) T he (pe_glob (v := .ref C) hg2 (by rw [hm]; exact T.gC) rfl) (fun x H Q h => ?_) hm hg na nb hpl
  obtain ⟨a, dx, fs, rfl, ha, q⟩ := h
  exact ⟨.ref a, .ref C, .ref C, .ref C, true, rfl, .own C, .base (.ins ha T.isR.cl T.isR.ha T.isR.hn T.isR.htk T.isR.hm), T.isR.me, q⟩
/-- e.f, an own field -/
theorem pe_fldR {f : Str} (T : TX K mg C) (he : PE X e te) (hf : ownF f := by first | exact .inl rfl | exact .inr (.inl rfl) | exact .inr (.inr rfl)) (hb : attributeBase e f X.env (eval e X.env) = eval e X.env := by rfl) (hK : X.K = K := by rfl) : PE X (.Attribute e f pos) (tThen te (kFldR C f)) := by
  subst hK
  refine ⟨fun pins s σ H Q I q => ?_⟩
  refine attr_of hb (thn (he.run pins s σ H _ I q) fun u s1 ⟨x, H1, I1, rx, q1⟩ => ?_)
  obtain ⟨a, dx, fs, v, rfl, ha, hl, q2⟩ := q1
  obtain rfl : u = Value.ref a := rx
  exact getattr_ok I1 ha T.cl (T.no hf) hl fun w' s2 I2 rw' => ⟨v, H1, I2, rw', q2⟩
theorem ix_listQ (K : PySem.W.Frag) (h : X.K = K) : IxR X (rIxL K) := h ▸ ix_list
theorem ix_tupQ (K : PySem.W.Frag) (h : X.K = K) : IxR X (rIxT K) := h ▸ ix_tup
theorem op_inQ (K : PySem.W.Frag) (h : X.K = K) : OpR X (compareOp .In) (rIn K false) := h ▸ op_in_seq
theorem op_ninQ (K : PySem.W.Frag) (h : X.K = K) : OpR X (compareOp .NotIn) (rIn K true) := h ▸ op_notIn_seq
theorem pi_listQ {tg : Expr} (K : PySem.W.Frag) (h : X.K = K) (he : PE X e te) : PI X tg e (iList K te) := h ▸ pi_list he
theorem pi_tupQ {tg : Expr} (K : PySem.W.Frag) (h : X.K = K) (he : PE X e te) : PI X tg e (iTup K te) := h ▸ pi_tup he
theorem pe_tupQ (T : TX K mg C) (he : PE X e te) (hK : X.K = K := by rfl) (hm : X.mg = mg := by rfl) (hg : Gl X "tuple" := by rfl) (na : starEach [e] X.env = (false, eval e X.env) :: starEach [] X.env := by rfl) : PE X (.Call (.Name "tuple" p) [e] [] pos) (tThen te (kTup K)) := by
  subst hK
  exact pe_tupleOf hg (by rw [hm]; exact T.b_tuple) he na
end
end WP

/-! ## P3 -/
set_option Elab.async false
set_option linter.all false
set_option maxRecDepth 100000
set_option maxHeartbeats 4000000
/-! Moves. -/
namespace WP
open PySem PySem.Spec PyProof.Rows L2 WR WC
/-- rows of m states each -/
structure RowsOk (cs : List Nat) (rows : List (List Nat)) (m : Nat) : Prop where
  len : rows.length = cs.length
  pos : 1 ≤ m
  few : m ≤ 60
  row : ∀ r ∈ rows, r.length = m
  lt : ∀ r ∈ rows, ∀ x ∈ r, x < m
theorem _root_.WR.Good.rows {cs : List Nat} {M : Mch} (g : Good cs M) : RowsOk cs M.ways M.n := ⟨g.k, g.wf.n0, g.few, g.wf.row, g.wf.lt⟩
theorem mkv_snd {cs : List Nat} {as : List Addr} (h : as.length = cs.length) : (mkv cs as).map (·.2) = as.map V.ref := by
  refine List.ext_getElem? fun i => ?_
  rw [List.getElem?_map, List.getElem?_map]
  by_cases hi : i < cs.length
  · rw [mkv_get h hi, List.getElem?_eq_getElem (show i < as.length by omega)]
    rfl
  · rw [List.getElem?_eq_none (by rw [mkv_len h]; omega), List.getElem?_eq_none (by omega)]
    rfl
theorem ltr_kV (c : Nat) : V.str ⟨#[c]⟩ = kV (Sum.inr (ltr c)) := rfl
section
variable {P : Program} {w : World} {K : PySem.W.Frag} {mg : Str → Option Value} {C : Addr} {base : Heap}
theorem sc_are_moves : FnScope ["letters", "value", "rows", "letter", "row"] ["letters", "value"] (defScope (top 21)) := ⟨rfl, rfl, rfl, by decide +kernel, rfl, by decide +kernel, by decide +kernel⟩
def sp_are_moves : Sp := fun vs H Q _ => ∃ (cs : List Nat) (d : Addr) (rows : List (List Nat)) (m : Nat), vs = [.str (txt cs), .ref d] ∧ Ltrs cs ∧ MovesAt H d cs rows ∧ RowsOk cs rows m ∧ ∀ H', Same H H' → Q (.bl true) H'
theorem ok_are_moves (T : TX K mg C) : Ok P w K mg base 4 "are_moves" (top 21) ["letters", "value"] sp_are_moves := by
  obtain ⟨f, fd, D⟩ := T.f_are_moves
  obtain ⟨f1, fd1, D1, G1⟩ := ok_are_states (P := P) (w := w) (base := base) T
  refine ⟨f, fd, D, D.F.ok sc_are_moves (fun vs H Q E h => ?_) (fun cdv A outer s H vs Q E hr h => ?_)⟩
  · obtain ⟨cs, d, rows, m, rfl, _⟩ := h
    rfl
  · obtain ⟨cs, d, rows, m, rfl, hc, hd, hm, k⟩ := h
    have hp := hc.pos
    have hf := hc.few
    obtain ⟨tm, gM⟩ := T.c_MAX_STATES
    refine ⟨_, (pss_cons (ps_if (PW.pt (pw_or (pt_not (pt_val (pe_isY (z := "dict") T (pv 1) T.b_dict (by decide +kernel)))) (pw_or (pt_cmpR op_ne (pe_lenK T (pv 1)) (pe_lenS T (pv 0)) (nomark _)) (pw_or1 (pt_not (pt_val (pe_allQ T (pe_lc (own := [("letter", 3)]) (g := gName 3) (tt := tYes) rfl sc_are_moves.nd (pi_str (pv 0)) (blkOk_by (N := ["letters", "value", "rows", "letter", "row"]) (sc := defScope (top 21)) (by decide +kernel)) (fun _ _ _ _ _ => pg_name (i := 3) sc_are_moves.nd rfl (Or.inl rfl)) (fun _ _ _ _ _ => pts_nil) (fun _ _ _ _ _ => pe_cmp (pc_din hr.u1 (pv 3) (pv 1)) rfl))))))))) (pss_one ps_never) pss_nil)
      (pss_cons ((ps_set (i := 2) sc_are_moves.nd rfl (Or.inr rfl) (pe_listVals rfl (pv 1) (by rfl) T.b_list)))
      (pss_cons (ps_if (pt_not (pt_val (pe_allQ T (pe_lc (own := [("row", 4)]) (g := gName 4) (tt := tYes) rfl sc_are_moves.nd (pi_list (pv 2)) (blkOk_by (N := ["letters", "value", "rows", "letter", "row"]) (sc := defScope (top 21)) (by decide +kernel)) (fun _ _ _ _ _ => pg_name (i := 4) sc_are_moves.nd rfl (Or.inl rfl)) (fun _ _ _ _ _ => pts_nil) (fun _ _ _ _ _ => (pe_and (pe_isY (z := "tuple") T (pv 4) T.b_tuple (by decide +kernel)) (pe_one (pe_chain op_le op_le pe_int (pe_lenQ T (pv 4)) (pe_glob (v := .int 60) (by rfl) gM ⟨_, rfl⟩))))))))) (pss_one ps_never) pss_nil)
      (pss_one (ps_ret (pe_allQ T (pe_lc (own := [("row", 4)]) (g := gName 4) (tt := tYes) rfl sc_are_moves.nd (pi_list (pv 2)) (blkOk_by (N := ["letters", "value", "rows", "letter", "row"]) (sc := defScope (top 21)) (by decide +kernel)) (fun _ _ _ _ _ => pg_name (i := 4) sc_are_moves.nd rfl (Or.inl rfl)) (fun _ _ _ _ _ => pts_nil) (fun _ _ _ _ _ => (pe_and (pe_cmpR op_eq (pe_lenQ T (pv 4)) (pe_lenQ T (pe_ix (ix_listQ K rfl) (pv 2) pe_int (fun _ _ => rfl))) (nomark _)) (pe_one ((pe_call G1 (hr) (by rfl) D1.g D1.F.kp D1.b .nil pass0 (pa_cons (pe_lenQ T (pv 4)) (pa_cons ((pv 4)) pa_nil)))))))))))))), ?_⟩
    obtain ⟨as, la, hd1, ra⟩ := hd
    have hra := ra.len
    refine ⟨_, rfl, .base (.dK hd1), true, rfl, iteF ?_⟩
    refine ⟨_, rfl, d, _, rfl, hd1, _, rfl, _, rfl, by rw [txt_length, sizeLine_eq]; omega, rfl, _, rfl, ?_⟩
    have e1 : ((mkv cs as).length : Int) = (txt cs).length := by rw [mkv_len la, txt_length]
    rw [e1, decide_eq_true rfl]
    refine iteF ?_
    refine ⟨_, rfl, txt cs, rfl, fun L hL => lc_map walk_str hL (trues cs.length) (by rw [trues_len, txt_size]) (by rw [txt_size]; omega) (fun _ _ => True.intro) (fun i x H2 H3 Nx hi sm hLi hy kk => ?_) fun H2 sm hL2 => ?_⟩
    · obtain ⟨rfl, c, hc1, rfl⟩ := hy
      rw [txt_get] at hc1
      rw [txt_size] at hi
      rw [List.getElem?_eq_getElem hi] at hc1
      cases hc1
      refine ⟨rfl, _, rfl, _, rfl, d, _, rfl, DGet.k (k := Sum.inr (ltr cs[i])) (sm _ _ hd1), ?_⟩
      rw [mkv_val la hc.nodup hi (by omega)]
      exact lc_fin (n := cs.length) (trues_len _) (by omega) hi kk hLi sm (trues_get hi)
    refine ⟨L, List.replicate cs.length true, rfl, sql hL2, true, congrArg V.bl (all_trues _), iteF ?_⟩
    refine ⟨_, rfl, d, _, rfl, sm _ _ hd1, fun p hp => ?_⟩
    have hp2 : Same H2 (upd H2 p (.lst ((mkv cs as).map (·.2)))) := Same.upd hp
    rw [mkv_snd la]
    have sm3 : Same H (upd H2 p (.lst (as.map V.ref))) := sm.trans (Same.upd hp)
    have hl3 : (upd H2 p (.lst (as.map V.ref))) p = some (.lst (as.map V.ref)) := upd_same
    generalize upd H2 p (.lst (as.map V.ref)) = H3 at sm3 hl3
    refine ⟨_, rfl, p, rfl, ⟨_, sql hl3⟩, fun L hL => lc_map (walk_list (xs := as.map V.ref)) hL (trues cs.length) (by rw [trues_len, List.length_map, la]) (by rw [List.length_map]; omega) (fun _ e => sql_same e hl3) (fun i x H4 H5 Nx hi sm4 hLi hy kk => ?_) fun H4 sm4 hL4 => ?_⟩
    · obtain ⟨rfl, e⟩ := hy
      rw [List.length_map] at hi
      rw [List.getElem?_map, List.getElem?_eq_getElem hi] at e
      cases e
      obtain ⟨r, hr1, hr2⟩ := ra.get (List.getElem?_eq_getElem hi)
      have hr2 := sm4 _ _ (sm3 _ _ hr2)
      have hmem := List.mem_of_getElem? hr1
      refine ⟨rfl, _, rfl, .base (.tup hr2), true, rfl, iteT ?_⟩
      refine ⟨_, rfl, _, _, rfl, .inr (sqt hr2), _, _, rfl, rfl, true, ?_, iteT ⟨_, _, rfl, rfl, ?_⟩⟩
      · exact congrArg V.bl (decide_eq_true (by rw [iv_len, hm.row r hmem]; have := hm.pos; omega))
      · rw [iv_len, hm.row r hmem]
        dsimp only
        rw [decide_eq_true (show (m : Int) ≤ 60 by have := hm.few; omega)]
        exact lc_fin (n := cs.length) (trues_len _) (by omega) (by omega) kk hLi sm4 (trues_get (by omega))
    refine ⟨L, List.replicate cs.length true, rfl, sql hL4, true, congrArg V.bl (all_trues _), iteF ?_⟩
    have sm5 := sm3.trans sm4
    refine ⟨_, rfl, p, rfl, ⟨_, sql (sm4 _ _ hl3)⟩, fun L hL => lc_map (walk_list (xs := as.map V.ref)) hL (trues cs.length) (by rw [trues_len, List.length_map, la]) (by rw [List.length_map]; omega) (fun _ e => sql_same (sm4.trans e) hl3) (fun i x H6 H7 Nx hi sm6 hLi hy kk => ?_) fun H6 sm6 hL6 => ?_⟩
    · obtain ⟨rfl, e⟩ := hy
      rw [List.length_map] at hi
      rw [List.getElem?_map, List.getElem?_eq_getElem hi] at e
      cases e
      obtain ⟨r, hr1, hr2⟩ := ra.get (List.getElem?_eq_getElem hi)
      obtain ⟨r0, hr3, hr4⟩ := ra.get (List.getElem?_eq_getElem (show 0 < as.length by omega))
      have hr2 := sm6 _ _ (sm5 _ _ hr2)
      have hr4 := sm6 _ _ (sm5 _ _ hr4)
      have hmem := List.mem_of_getElem? hr1
      have hmem0 := List.mem_of_getElem? hr3
      refine ⟨rfl, _, rfl, _, _, rfl, .inr (sqt hr2), _, rfl, p, _, 0, .ref as[0], rfl, rfl, sql_same (sm4.trans sm6) hl3, ?_, _, _, rfl, .inr (sqt hr4), rfl, true, ?_, iteT ?_⟩
      · exact at_of (j := 0) rfl (by rw [List.getElem?_map, List.getElem?_eq_getElem (show 0 < as.length by omega)]; rfl)
      · rw [iv_len, iv_len, hm.row r hmem, hm.row r0 hmem0]
        exact congrArg V.bl (decide_eq_true rfl)
      · refine ⟨_, rfl, _, _, rfl, .inr (sqt hr2), _, rfl, m, _, r, ?_, hr2, by have := hm.few; omega, by rw [hm.row r hmem]; have := hm.few; omega, hm.lt r hmem, fun H8 s8 => ?_⟩
        · rw [iv_len, hm.row r hmem]
          rfl
        · exact lc_fin (n := cs.length) (trues_len _) (by omega) (by omega) kk (s8 _ _ hLi) (sm6.trans s8) (trues_get (by omega))
    · exact ⟨L, List.replicate cs.length true, rfl, sql hL6, qtt (k _ (sm5.trans sm6)) (all_trues _)⟩
end
end WP

/-! ## P4 -/
set_option Elab.async false
set_option linter.all false
set_option maxRecDepth 100000
set_option maxHeartbeats 4000000
/-! The making of a reader. -/
namespace WP
open PySem PySem.Spec PyProof.Rows L2 WR WC
/-- the promise of a method -/
abbrev OkM (P : Program) (w : World) (K : PySem.W.Frag) (mg : Str → Option Value) (base : Heap) (C : Addr) (k : Nat) (x q : Str) (st : Stmt) (ps : List Str) (sp : Sp) : Prop := ∃ f fd, AtM K C x q st ps f fd ∧ FnOk P w K mg base CX0 k f fd ps sp
theorem SameBut.refl {p : Addr} {H : Hp} : SameBut p H H := fun _ _ _ e => e
theorem SameBut.same {p : Addr} {H H1 H2 : Hp} (h : SameBut p H H1) (e : Same H1 H2) : SameBut p H H2 := fun b o n q => e _ _ (h b o n q)
theorem SameBut.upd {p : Addr} {H H1 : Hp} {o : HO} (h : SameBut p H H1) : SameBut p H (L2.upd H1 p o) := fun b u n q => by
  rw [upd_ne n]
  exact h b u n q
theorem MovesAt.but {p : Addr} {H H' : Hp} {d : Addr} {cs : List Nat} {rows : List (List Nat)} (e : SameBut p H H') (hp : ∀ xs, H p ≠ some (.tup xs)) (hk : ∀ kvs, H p ≠ some (.dK kvs)) : MovesAt H d cs rows → MovesAt H' d cs rows
  | ⟨as, h1, h2, h3⟩ => ⟨as, h1, e _ _ (fun z => hk _ (z ▸ h2)) h2, h3.tups fun b xs q => e _ _ (fun z => hp _ (z ▸ q)) q⟩
theorem walk_txt {cs : List Nat} : Walk (Its (txt cs)) cs.length (fun _ => True) (fun i H v H' => H' = H ∧ ∃ c, cs[i]? = some c ∧ v = .str (ltr c)) := by
  have h := walk_str (z := txt cs)
  rw [txt_size] at h
  exact h.mono (fun _ h => h) fun i H x H' _ _ ⟨h1, c, h2, h3⟩ => ⟨h1, c, by rw [← txt_get]; exact h2, h3⟩
theorem txt_at {cs : List Nat} {i : Nat} (h : i < cs.length) : atI (txt cs).cps.toList ((i : Nat) : Int) = some cs[i] := by
  rw [txt_list]
  exact atI_nat (List.getElem?_eq_getElem h)
section
variable {P : Program} {w : World} {K : PySem.W.Frag} {mg : Str → Option Value} {C : Addr} {base : Heap}
theorem sc_m_init : FnScope ["self", "letters", "moves", "yes", "letter"] ["self", "letters", "moves", "yes"] (defScope (meth 0)) := ⟨rfl, rfl, rfl, by decide +kernel, rfl, by decide +kernel, by decide +kernel⟩
def sp_m_init (C : Addr) : Sp := fun vs H Q _ => ∃ (cs : List Nat) (M : Mch) (p dx d y : Addr), vs = [.ref p, .str (txt cs), .ref d, .ref y] ∧ H p = some (.ins C dx []) ∧ Good cs M ∧ MovesAt H d cs M.ways ∧ H y = some (.tup (iv M.good)) ∧ ∀ H', SameBut p H H' → RdrAt C H' p cs M → Q .non H'
theorem ok_m_init (T : TX K mg C) : OkM P w K mg base C 5 "__init__" "Reader.__init__" (meth 0) ["self", "letters", "moves", "yes"] (sp_m_init C) := by
  obtain ⟨f, fd, D⟩ := T.m_init
  obtain ⟨f1, fd1, D1, G1⟩ := ok_require_letters (P := P) (w := w) (base := base) T
  obtain ⟨f2, fd2, D2, G2⟩ := ok_are_moves (P := P) (w := w) (base := base) T
  obtain ⟨f3, fd3, D3, G3⟩ := ok_is_state_set (P := P) (w := w) (base := base) T
  refine ⟨f, fd, D, D.F.ok sc_m_init (fun vs H Q E h => ?_) (fun cdv A outer s H vs Q E hr h => ?_)⟩
  · obtain ⟨cs, M, p, dx, d, y, rfl, _⟩ := h
    rfl
  · obtain ⟨cs, M, p, dx, d, y, rfl, hp, hg, hd, hy, k⟩ := h
    refine ⟨_, (pss_cons (ps_expr (pe_call G1 (hr.mono (by decide)) (by rfl) D1.g D1.F.kp D1.b .nil pass0 (pa_cons ((pv 1)) pa_nil)))
      (pss_cons (ps_if (pt_not (pt_val (pe_call G2 (hr.mono (by decide)) (by rfl) D2.g D2.F.kp D2.b .nil pass0 (pa_cons ((pv 1)) (pa_cons ((pv 2)) pa_nil))))) (pss_one ps_never) pss_nil)
      (pss_cons (ps_fld (pv 0) (pv 1) rfl)
      (pss_cons (ps_fld (pv 0) (pe_dc (own := [("letter", 4)]) (g := gName 4) (tt := tYes) rfl sc_m_init.nd (pi_str (pv 1)) (blkOk_by (N := ["self", "letters", "moves", "yes", "letter"]) (sc := defScope (meth 0)) (by decide +kernel)) (fun _ _ _ _ _ => pg_name (i := 4) sc_m_init.nd rfl (Or.inl rfl)) (fun _ _ _ _ _ => pts_nil) (fun _ _ _ _ _ => (pv 4)) (fun _ _ _ _ _ => pe_dget hr.u1 (pv 2) (pv 4) (fun _ _ => rfl))) rfl)
      (pss_cons (ps_if (pt_not (pt_val (pe_call G3 (hr.mono (by decide)) (by rfl) D3.g D3.F.kp D3.b .nil pass0 (pa_cons (pe_lenQ T (pe_dget hr.u1 (pv 2) (pe_ix ix_str (pv 1) pe_int (fun _ _ => rfl)) (fun _ _ => rfl))) (pa_cons ((pv 3)) pa_nil))))) (pss_one ps_never) pss_nil)
      (pss_one (ps_fld (pv 0) (pv 3) rfl))))))), ?_⟩
    have hl := hg.ltrs
    have hpos := hl.pos
    have hfew := hl.few
    refine ⟨_, rfl, cs, rfl, hl, fun H1 s1 => ?_⟩
    refine ⟨_, rfl, _, rfl, cs, d, M.ways, M.n, rfl, hl, hd.same s1, hg.rows, fun H2 s2 => ⟨true, rfl, iteF ?_⟩⟩
    have s2 := s1.trans s2
    refine ⟨_, rfl, _, rfl, p, C, dx, [], rfl, s2 _ _ hp, T.cl, T.nL, by decide, ?_⟩
    have nt : ∀ xs, H p ≠ some (.tup xs) := fun xs e => by rw [hp] at e; cases e
    have nk : ∀ kvs, H p ≠ some (.dK kvs) := fun xs e => by rw [hp] at e; cases e
    have b3 : SameBut p H (upd H2 p (.ins C dx (putF "own_letters" (.str (txt cs)) []))) := SameBut.upd (SameBut.same (SameBut.refl (p := p) (H := H)) s2)
    have hp3 : (upd H2 p (.ins C dx (putF "own_letters" (.str (txt cs)) []))) p = some (.ins C dx (putF "own_letters" (.str (txt cs)) [])) := upd_same
    generalize upd H2 p (.ins C dx (putF "own_letters" (.str (txt cs)) [])) = H3 at b3 hp3
    have hd3 := MovesAt.but b3 nt nk hd
    refine ⟨_, rfl, txt cs, rfl, fun L hL => dc_moves (cs := cs) (rows := M.ways) walk_txt hL hl.nodup hg.k hfew (fun _ _ => True.intro) (fun i x H4 H5 Nx hi s4 hL4 hy kk => ?_) fun H4 s4 hm4 => ?_⟩
    · obtain ⟨rfl, c, hc1, rfl⟩ := hy
      rw [List.getElem?_eq_getElem hi] at hc1
      cases hc1
      obtain ⟨a, r, kvs, h1, h2, h3, h4⟩ := moves_get hl.nodup (hd3.same s4) hi
      refine ⟨rfl, _, rfl, _, rfl, _, rfl, d, .ref a, rfl, ?_, ?_⟩
      · rw [← h2]
        exact DGet.k (k := Sum.inr (ltr cs[i])) h1
      · obtain ⟨hr1, hr2⟩ := List.getElem?_eq_some_iff.mp h3
        exact kk _ _ _ rfl ⟨a, rfl, by rw [hr2]; exact h4⟩ rfl s4 fun _ _ e => e
    refine ⟨_, rfl, p, C, dx, _, rfl, s4 _ _ hp3, T.cl, T.nM, show (1 : Nat) < 1000 by decide, ?_⟩
    have nt4 : ∀ xs, H4 p ≠ some (.tup xs) := fun xs e => by rw [s4 _ _ hp3] at e; cases e
    have nk4 : ∀ kvs, H4 p ≠ some (.dK kvs) := fun xs e => by rw [s4 _ _ hp3] at e; cases e
    have b5 : SameBut p H4 (upd H4 p (.ins C dx (putF "own_moves" (.ref L) (putF "own_letters" (.str (txt cs)) [])))) := SameBut.upd SameBut.refl
    have hp5 : (upd H4 p (.ins C dx (putF "own_moves" (.ref L) (putF "own_letters" (.str (txt cs)) [])))) p = some (.ins C dx (putF "own_moves" (.ref L) (putF "own_letters" (.str (txt cs)) []))) := upd_same
    generalize upd H4 p (.ins C dx (putF "own_moves" (.ref L) (putF "own_letters" (.str (txt cs)) []))) = H5 at b5 hp5
    have hm5 := MovesAt.but b5 nt4 nk4 hm4
    have hd5 := MovesAt.but b5 nt4 nk4 (hd3.same s4)
    have hy3 : H3 y = some (.tup (iv M.good)) := b3 _ _ (fun z => nt _ (z ▸ hy)) hy
    have hy5 : H5 y = some (.tup (iv M.good)) := b5 _ _ (fun z => nt4 _ (z ▸ s4 _ _ hy3)) (s4 _ _ hy3)
    have b6 : SameBut p H H5 := fun b o n q => b5 _ _ n (s4 _ _ (b3 _ _ n q))
    obtain ⟨a, r, kvs, h1, h2, h3, h4⟩ := moves_get hl.nodup hd5 hpos
    have hmem := List.mem_of_getElem? h3
    refine ⟨_, rfl, _, rfl, _, 0, cs[0], rfl, rfl, by rw [txt_length, sizeLine_eq]; omega, txt_at (i := 0) hpos, d, .ref a, rfl, ?_, ?_⟩
    · rw [← h2]
      exact DGet.k (k := Sum.inr (ltr cs[0])) h1
    refine ⟨_, _, rfl, .inr (sqt h4), _, rfl, M.n, y, M.good, ?_, hy5, by have := hg.few; omega, ?_, hg.wf.glt, hg.wf.asc, fun H6 s6 => ⟨true, rfl, iteF ?_⟩⟩
    · rw [iv_len, hg.wf.row r hmem]
      rfl
    · exact Nat.le_trans (nodup_lt (hg.wf.asc.imp fun h => Nat.ne_of_lt h) hg.wf.glt) (Nat.le_trans hg.few (by decide))
    refine ⟨_, rfl, _, rfl, p, C, dx, _, rfl, s6 _ _ hp5, T.cl, T.nY, show (2 : Nat) < 1000 by decide, ?_⟩
    have nt6 : ∀ xs, H6 p ≠ some (.tup xs) := fun xs e => by rw [s6 _ _ hp5] at e; cases e
    have nk6 : ∀ kvs, H6 p ≠ some (.dK kvs) := fun xs e => by rw [s6 _ _ hp5] at e; cases e
    refine k _ (SameBut.upd (SameBut.same b6 s6)) ⟨hg, dx, L, y, upd_same, MovesAt.but (SameBut.upd SameBut.refl) nt6 nk6 (hm5.same s6), ?_⟩
    rw [upd_ne (fun z => nt6 _ (z ▸ s6 _ _ hy5))]
    exact s6 _ _ hy5
/-- what a call of the class asks -/
theorem mkR_at {cs : List Nat} {M : Mch} {d y : Addr} {H1 : Hp} {Q : VK} {E : XK} (hg : Good cs M) (hd : MovesAt H1 d cs M.ways) (hy : H1 y = some (.tup (iv M.good))) (k : ∀ p H2, Same H1 H2 → RdrAt C H2 p cs M → Q (.ref p) H2) :
    ∀ x dx, H1 x = none → H1 dx = none → dx ≠ x → sp_m_init C (.ref x :: ([.str (txt cs), .ref d, .ref y] ++ [])) (upd (upd H1 dx (.own x)) x (.ins C dx [])) (fun v H2 => v = .non ∧ Q (.ref x) H2) E := by
  intro x dx hx hdx hne
  have s1 : Same H1 (upd (upd H1 dx (.own x)) x (.ins C dx [])) := (Same.upd hdx).trans (Same.upd (by rw [upd_ne (Ne.symm hne)]; exact hx))
  refine ⟨cs, M, x, dx, d, y, rfl, upd_same, hg, hd.same s1, s1 _ _ hy, fun H' e r => ⟨rfl, k x H' (fun b o q => e b o (ne_of_none q hx) (s1 _ _ q)) r⟩⟩
end
end WP

/-! ## P5 -/
set_option Elab.async false
set_option linter.all false
set_option maxRecDepth 100000
set_option maxHeartbeats 4000000
/-! Reading a reader. -/
namespace WP
open PySem PySem.Spec PyProof.Rows L2 WR WC
theorem inV_iv (s : Nat) (ns : List Nat) : inV (.int (s : Int)) (iv ns) = ns.contains s := by
  unfold inV iv
  rw [List.any_map]
  rw [Bool.eq_iff_iff, List.any_eq_true, List.contains_iff_mem]
  constructor
  · rintro ⟨x, hx, e⟩
    have e : ((x : Int) == (s : Int)) = true := e
    have : x = s := by have := eq_of_beq e; omega
    exact this ▸ hx
  · intro h
    exact ⟨s, h, by show ((s : Int) == (s : Int)) = true; simp⟩
theorem flat_iv (ns : List Nat) : (iv ns).all flatV = true := by
  unfold iv
  rw [List.all_map, List.all_eq_true]
  intro x _
  rfl
/-- what stands at a reader -/
theorem _root_.WR.RdrAt.row {C : Addr} {H : Hp} {p : Addr} {cs : List Nat} {M : Mch} (h : RdrAt C H p cs M) : ∃ dx d y, H p = some (.ins C dx (rdrF (txt cs) d y)) ∧ H y = some (.tup (iv M.good)) ∧ MovesAt H d cs M.ways ∧
    ∀ i (hi : i < cs.length), ∃ a r, DGet H d (.str (ltr cs[i])) (some (.ref a)) ∧ M.ways[i]? = some r ∧ r.length = M.n ∧ H a = some (.tup (iv r)) := by
  obtain ⟨g, dx, d, y, h1, h2, h3⟩ := h
  refine ⟨dx, d, y, h1, h3, h2, fun i hi => ?_⟩
  obtain ⟨a, r, kvs, q1, q2, q3, q4⟩ := moves_get g.ltrs.nodup h2 hi
  exact ⟨a, r, by rw [← q2]; exact DGet.k (k := Sum.inr (ltr cs[i])) q1, q3, g.wf.row r (List.mem_of_getElem? q3), q4⟩
theorem _root_.WR.RdrAt.good {C : Addr} {H : Hp} {p : Addr} {cs : List Nat} {M : Mch} (h : RdrAt C H p cs M) : Good cs M := h.1
theorem lk_letters (z : Str) (d y : Addr) : (rdrF z d y).lookup ("own_letters" : Str) = some (.str z) := rfl
theorem lk_moves (z : Str) (d y : Addr) : (rdrF z d y).lookup ("own_moves" : Str) = some (.ref d) := rfl
theorem lk_yes (z : Str) (d y : Addr) : (rdrF z d y).lookup ("own_yes" : Str) = some (.ref y) := rfl
theorem iv_at {ns : List Nat} {i : Nat} (h : i < ns.length) : atI (iv ns) ((i : Nat) : Int) = some (.int ((ns.getD i 0 : Nat) : Int)) := by
  rw [atI_nat (iv_get h)]
  congr
  rw [List.getD_eq_getElem?_getD, List.getElem?_eq_getElem h]
  rfl
theorem d_at {M : Mch} {a s : Nat} {r : List Nat} (h : M.ways[a]? = some r) : r.getD s 0 = M.d a s := (d_some h s).symm
section
variable {P : Program} {w : World} {K : PySem.W.Frag} {mg : Str → Option Value} {C : Addr} {base : Heap}
/-! properties -/
theorem sc_get1 : FnScope ["self"] ["self"] (defScope (meth 1)) := ⟨rfl, rfl, rfl, by decide +kernel, rfl, by decide +kernel, by decide +kernel⟩
theorem sc_get2 : FnScope ["self"] ["self"] (defScope (meth 2)) := ⟨rfl, rfl, rfl, by decide +kernel, rfl, by decide +kernel, by decide +kernel⟩
theorem sc_get3 : FnScope ["self"] ["self"] (defScope (meth 3)) := ⟨rfl, rfl, rfl, by decide +kernel, rfl, by decide +kernel, by decide +kernel⟩
abbrev OkP (P : Program) (w : World) (K : PySem.W.Frag) (mg : Str → Option Value) (base : Heap) (C : Addr) (k : Nat) (x q : Str) (st : Stmt) (sp : Sp) : Prop := ∃ p f fd, AtP K C x q st p f fd ∧ FnOk P w K mg base CX0 k f fd ["self"] sp
def sp_get1 (C : Addr) : Sp := fun vs H Q _ => ∃ p cs M, vs = [.ref p] ∧ RdrAt C H p cs M ∧ Q (.str (txt cs)) H
def sp_get2 (C : Addr) : Sp := fun vs H Q _ => ∃ p cs M, vs = [.ref p] ∧ RdrAt C H p cs M ∧ ∀ d H', Same H H' → MovesAt H' d cs M.ways → Q (.ref d) H'
def sp_get3 (C : Addr) : Sp := fun vs H Q _ => ∃ p cs M, vs = [.ref p] ∧ RdrAt C H p cs M ∧ ∀ y, H y = some (.tup (iv M.good)) → Q (.ref y) H
theorem ok_get1 (T : TX K mg C) : OkP P w K mg base C 1 "letters" "Reader.letters" (meth 1) (sp_get1 C) := by
  obtain ⟨p, f, fd, D⟩ := T.p_letters
  refine ⟨p, f, fd, D, D.F.ok sc_get1 (fun vs H Q E h => ?_) (fun cdv A outer s H vs Q E hr h => ?_)⟩
  · obtain ⟨p, cs, M, rfl, _⟩ := h
    rfl
  · obtain ⟨p, cs, M, rfl, hR, k⟩ := h
    obtain ⟨dx, d, y, h1, h2, h3, _⟩ := hR.row
    exact ⟨_, pss_one (ps_ret (pe_fldR T (pv 0))), _, rfl, p, dx, _, _, rfl, h1, lk_letters _ _ _, k⟩
theorem ok_get2 (T : TX K mg C) : OkP P w K mg base C 1 "moves" "Reader.moves" (meth 2) (sp_get2 C) := by
  obtain ⟨p, f, fd, D⟩ := T.p_moves
  refine ⟨p, f, fd, D, D.F.ok sc_get2 (fun vs H Q E h => ?_) (fun cdv A outer s H vs Q E hr h => ?_)⟩
  · obtain ⟨p, cs, M, rfl, _⟩ := h
    rfl
  · obtain ⟨p, cs, M, rfl, hR, k⟩ := h
    obtain ⟨dx, d, y, h1, h2, h3, _⟩ := hR.row
    obtain ⟨as, la, hd, ra⟩ := h3
    refine ⟨_, pss_one (ps_ret (pe_callTy call_dictD (by rfl) T.b_dict (by decide +kernel) (pa_cons (pe_fldR T (pv 0)) pa_nil))), ?_⟩
    refine ⟨_, rfl, p, dx, _, _, rfl, h1, lk_moves _ _ _, d, _, rfl, .inl hd, fun q hq => ?_⟩
    have sm : Same H (upd H q (.dK (mkv cs as))) := Same.upd hq
    exact k q _ sm ⟨as, la, upd_same, ra.same sm⟩
theorem ok_get3 (T : TX K mg C) : OkP P w K mg base C 1 "yes" "Reader.yes" (meth 3) (sp_get3 C) := by
  obtain ⟨p, f, fd, D⟩ := T.p_yes
  refine ⟨p, f, fd, D, D.F.ok sc_get3 (fun vs H Q E h => ?_) (fun cdv A outer s H vs Q E hr h => ?_)⟩
  · obtain ⟨p, cs, M, rfl, _⟩ := h
    rfl
  · obtain ⟨p, cs, M, rfl, hR, k⟩ := h
    obtain ⟨dx, d, y, h1, h2, h3, _⟩ := hR.row
    exact ⟨_, pss_one (ps_ret (pe_fldR T (pv 0))), _, rfl, p, dx, _, _, rfl, h1, lk_yes _ _ _, k y h2⟩
theorem sc_m_len : FnScope ["self"] ["self"] (defScope (meth 13)) := ⟨rfl, rfl, rfl, by decide +kernel, rfl, by decide +kernel, by decide +kernel⟩
def sp_m_len (C : Addr) : Sp := fun vs H Q _ => ∃ p cs M, vs = [.ref p] ∧ RdrAt C H p cs M ∧ Q (.int (M.n : Nat)) H
theorem ok_m_len (T : TX K mg C) : OkM P w K mg base C 1 "__len__" "Reader.__len__" (meth 13) ["self"] (sp_m_len C) := by
  obtain ⟨f, fd, D⟩ := T.m_len
  refine ⟨f, fd, D, D.F.ok sc_m_len (fun vs H Q E h => ?_) (fun cdv A outer s H vs Q E hr h => ?_)⟩
  · obtain ⟨p, cs, M, rfl, _⟩ := h
    rfl
  · obtain ⟨p, cs, M, rfl, hR, k⟩ := h
    obtain ⟨dx, d, y, h1, h2, h3, hrow⟩ := hR.row
    have hpos := hR.good.ltrs.pos
    have hfew := hR.good.ltrs.few
    obtain ⟨a, r, q1, q2, q3, q4⟩ := hrow 0 hpos
    refine ⟨_, pss_one (ps_ret (pe_lenQ T (pe_dget hr.u1 (pe_fldR T (pv 0)) (pe_ix ix_str (pe_fldR T (pv 0)) pe_int (fun _ _ => rfl)) (fun _ _ => rfl)))), ?_⟩
    refine ⟨_, rfl, p, dx, _, _, rfl, h1, lk_moves _ _ _, _, rfl, p, dx, _, _, rfl, h1, lk_letters _ _ _, _, 0, cs[0], rfl, rfl, by rw [txt_length, sizeLine_eq]; omega, txt_at (i := 0) hpos, d, .ref a, rfl, q1, a, _, rfl, .inr (sqt q4), ?_⟩
    rw [iv_len, q3]
    exact k
theorem sc_says : FnScope ["reader", "state"] ["reader", "state"] (defScope (top 25)) := ⟨rfl, rfl, rfl, by decide +kernel, rfl, by decide +kernel, by decide +kernel⟩
def sp_says (C : Addr) : Sp := fun vs H Q _ => ∃ p cs M, ∃ s : Nat, vs = [.ref p, .int s] ∧ RdrAt C H p cs M ∧ Q (.bl (M.ok s)) H
theorem ok_says (T : TX K mg C) : Ok P w K mg base 1 "says" (top 25) ["reader", "state"] (sp_says C) := by
  obtain ⟨f, fd, D⟩ := T.f_says
  refine ⟨f, fd, D, D.F.ok sc_says (fun vs H Q E h => ?_) (fun cdv A outer s H vs Q E hr h => ?_)⟩
  · obtain ⟨p, cs, M, st, rfl, _⟩ := h
    rfl
  · obtain ⟨p, cs, M, st, rfl, hR, k⟩ := h
    obtain ⟨dx, d, y, h1, h2, h3, hrow⟩ := hR.row
    refine ⟨_, pss_one (ps_ret (pe_cmpR (op_inQ K rfl) (pv 1) (pe_fldR T (pv 0)) rfl)), ?_⟩
    refine ⟨_, rfl, _, rfl, p, dx, _, _, rfl, h1, lk_yes _ _ _, y, _, rfl, .inr (sqt h2), rfl, flat_iv _, ?_⟩
    show Q (.bl (inV (.int (st : Int)) (iv M.good))) H
    rw [inV_iv]
    exact k
theorem sc_moved_pair : FnScope ["one", "other", "letter", "pair"] ["one", "other", "letter", "pair"] (defScope (top 28)) := ⟨rfl, rfl, rfl, by decide +kernel, rfl, by decide +kernel, by decide +kernel⟩
/-- a pair of states at t -/
def PairAt (H : Hp) (t : Addr) (x y : Nat) : Prop := H t = some (.tup [.int (x : Int), .int (y : Int)])
def sp_moved_pair (C : Addr) : Sp := fun vs H Q _ => ∃ p q cs M M' a t, ∃ x y : Nat, ∃ ha : a < cs.length, vs = [.ref p, .ref q, .str (ltr cs[a]), .ref t] ∧ RdrAt C H p cs M ∧ RdrAt C H q cs M' ∧ PairAt H t x y ∧ x < M.n ∧ y < M'.n ∧ ∀ b, H b = none → Q (.ref b) (upd H b (.tup [.int (M.d a x : Nat), .int (M'.d a y : Nat)]))
theorem ok_moved_pair (T : TX K mg C) : Ok P w K mg base 1 "moved_pair" (top 28) ["one", "other", "letter", "pair"] (sp_moved_pair C) := by
  obtain ⟨f, fd, D⟩ := T.f_moved_pair
  refine ⟨f, fd, D, D.F.ok sc_moved_pair (fun vs H Q E h => ?_) (fun cdv A outer s H vs Q E hr h => ?_)⟩
  · obtain ⟨p, q, cs, M, M', a, t, x, y, ha, rfl, _⟩ := h
    rfl
  · obtain ⟨p, q, cs, M, M', a, t, x, y, ha, rfl, hR, hR', ht, hx, hy, k⟩ := h
    obtain ⟨dx, d, yy, h1, h2, h3, hrow⟩ := hR.row
    obtain ⟨dx', d', yy', h1', h2', h3', hrow'⟩ := hR'.row
    obtain ⟨b, r, q1, q2, q3, q4⟩ := hrow a ha
    obtain ⟨b', r', q1', q2', q3', q4'⟩ := hrow' a ha
    refine ⟨_, pss_one (ps_ret (pe_tup (pa_cons (pe_ix (ix_tupQ K rfl) (pe_dget hr.u1 (pe_fldR T (pv 0)) (pv 2) (fun _ _ => rfl)) (pe_ix (ix_tupQ K rfl) (pv 3) pe_int (fun _ _ => rfl)) (fun _ _ => rfl)) (pa_cons (pe_ix (ix_tupQ K rfl) (pe_dget hr.u1 (pe_fldR T (pv 1)) (pv 2) (fun _ _ => rfl)) (pe_ix (ix_tupQ K rfl) (pv 3) pe_int (fun _ _ => rfl)) (fun _ _ => rfl)) pa_nil)))), ?_⟩
    refine ⟨_, rfl, p, dx, _, _, rfl, h1, lk_moves _ _ _, _, rfl, d, _, rfl, q1, _, rfl, t, _, 0, _, rfl, rfl, sqt ht, at_of (j := 0) rfl rfl, b, _, x, _, rfl, rfl, sqt q4, iv_at (by omega), ?_⟩
    refine ⟨_, rfl, q, dx', _, _, rfl, h1', lk_moves _ _ _, _, rfl, d', _, rfl, q1', _, rfl, t, _, 1, _, rfl, rfl, sqt ht, at_of (j := 1) rfl rfl, b', _, y, _, rfl, rfl, sqt q4', iv_at (by omega), ?_⟩
    rw [d_at q2, d_at q2']
    exact ⟨by rw [sizeLine_eq]; show 2 ≤ _; omega, k⟩
theorem sc_require_reader : FnScope ["value"] ["value"] (defScope (top 31)) := ⟨rfl, rfl, rfl, by decide +kernel, rfl, by decide +kernel, by decide +kernel⟩
def sp_require_reader (C : Addr) : Sp := fun vs H Q _ => ∃ p cs M, vs = [.ref p] ∧ RdrAt C H p cs M ∧ Q .non H
theorem ok_require_reader (T : TX K mg C) : Ok P w K mg base 1 "require_reader" (top 31) ["value"] (sp_require_reader C) := by
  obtain ⟨f, fd, D⟩ := T.f_require_reader
  refine ⟨f, fd, D, D.F.ok sc_require_reader (fun vs H Q E h => ?_) (fun cdv A outer s H vs Q E hr h => ?_)⟩
  · obtain ⟨p, cs, M, rfl, _⟩ := h
    rfl
  · obtain ⟨p, cs, M, rfl, hR, k⟩ := h
    obtain ⟨dx, d, y, h1, h2, h3, hrow⟩ := hR.row
    exact ⟨_, pss_one (ps_if (pt_not (pt_val (pe_isR T (pv 0)))) (pss_one ps_never) pss_nil), _, rfl, p, dx, _, rfl, h1, true, rfl, iteF k⟩
end
end WP

/-! ## P6 -/
set_option Elab.async false
set_option linter.all false
set_option maxRecDepth 100000
set_option maxHeartbeats 4000000
/-! reader_from. -/
namespace WP
open PySem PySem.Spec PyProof.Rows L2 WR WC
/-- the scope of a comprehension -/
def cScope : Expr → Scope
  | .ListComp _ _ s _ => s
  | .DictComp _ _ _ s _ => s
  | _ => defScope (top 0)
def stExpr (st : Stmt) (i : Nat) : Expr := match (defBody st)[i]? with
  | some (.Assign _ e _) => e
  | some (.Return (some e) _) => e
  | _ => .Name "" ⟨0, 0, 0, 0⟩
theorem lookup_re {env : Env} : ∀ {names : List (Str × NameKind)} {x : Str}, names.lookup x = some .cell ∨ names.lookup x = some .free →
    (names.map fun (n, k) => if (k == NameKind.free && env.scope.kind == .function && env.kindOf n == some .cell) then (n, NameKind.cell) else (n, k)).lookup x = some .cell ∨ (names.map fun (n, k) => if (k == NameKind.free && env.scope.kind == .function && env.kindOf n == some .cell) then (n, NameKind.cell) else (n, k)).lookup x = some .free
  | [], _, h => by simp at h
  | (n, k) :: r, x, h => by
    have ih := @lookup_re env r x
    simp only [List.map_cons]
    by_cases hx : x = n
    · subst hx
      have h : k = .cell ∨ k = .free := by simpa [List.lookup_cons] using h
      split
      · left; simp [List.lookup_cons]
      · rcases h with rfl | rfl
        · left; simp [List.lookup_cons]
        · right; simp [List.lookup_cons]
    · have hb : (x == n) = false := by simpa using hx
      have h : r.lookup x = some .cell ∨ r.lookup x = some .free := by simpa [List.lookup_cons, hb] using h
      have ih := ih h
      split
      · simpa [List.lookup_cons, hb] using ih
      · simpa [List.lookup_cons, hb] using ih
/-- a block within a block -/
theorem blkOk_re {N N' : List Str} {S sc' scope : Scope} {own : List (Str × Nat)} {env : Env} (e : N' = N) (e' : sc' = relabel S env) (h : blkC N S scope own = true) : BlkOk N' sc' scope own := by
  subst e e'
  obtain ⟨h1, h2, h3, h4, h5⟩ := blkOk_by h
  exact ⟨h1, h2, h3, fun y hy e => lookup_re (h4 y hy e), h5⟩
/-- a dict comprehension whose dict so far is acc i -/
theorem dc_acc {J : It} {n : Nat} {G : Hp → Prop} {Y : Nat → Hp → V → Hp → Prop} {g : TG} {tk tv : TE} {vs : List Nat} {σ : L2.St} {H1 : Hp} {D : Addr} {Qd : Hp → Prop} (w : Walk J n G Y) (hD : H1 D = none) (acc : Nat → List (Key × V)) (h0 : acc 0 = []) (hz : ∀ i, i < n → (acc i).length < sizeLine) (hG : ∀ H, Same H1 H → G H)
    (hs : ∀ (i : Nat) (x : V) (H H' : Hp) (Nx : Hp → Prop), i < n → Same H1 H → H D = some (.dK (acc i)) → Y i H x H' → (∀ (y z : V) (H5 : Hp) (k : Key), y = kV k → acc (i + 1) = putK (acc i) k z → H5 D = some (.dK (acc i)) → Same H1 H5 → ∃ kvs k, y = kV k ∧ H5 D = some (.dK kvs) ∧ kvs.length < sizeLine ∧ Nx (upd H5 D (.dK (putK kvs k z)))) →
      g x (wipe σ vs) H' fun σ2 H2 => wipe σ2 vs = wipe σ vs ∧ tk σ2 H2 fun y H4 => tv σ2 H4 fun z H5 => ∃ kvs k, y = kV k ∧ H5 D = some (.dK kvs) ∧ kvs.length < sizeLine ∧ Nx (upd H5 D (.dK (putK kvs k z))))
    (hd : ∀ H, Same H1 H → H D = some (.dK (acc n)) → Qd H) :
    ∃ W : Nat → Nat → Hp → Prop, (∃ m, W 0 m (upd H1 D (.dK []))) ∧ ∀ i m H, W i m H →
      (J.stop i H ∧ Qd H) ∨ (J.go i H ∧ ∃ Nx : Hp → Prop, (∀ H', Nx H' → ∃ m', m' < m ∧ W (i + 1) m' H') ∧ ∀ x H', J.yld i H x H' → g x (wipe σ vs) H' fun σ2 H2 => wipe σ2 vs = wipe σ vs ∧ tYes σ2 H2 fun b H3 =>
        if b = true then tk σ2 H3 fun y H4 => tv σ2 H4 fun z H5 => ∃ kvs k, y = kV k ∧ H5 D = some (.dK kvs) ∧ kvs.length < sizeLine ∧ Nx (upd H5 D (.dK (putK kvs k z))) else Nx H3) := by
  have put : ∀ {H : Hp} (o : HO), Same H1 H → Same H1 (upd H D o) := fun {H} o h b u e => by
    rw [upd_ne (ne_of_none e hD)]
    exact h b u e
  refine ⟨fun i m H => m = n - i ∧ i ≤ n ∧ H D = some (.dK (acc i)) ∧ Same H1 H, ⟨_, rfl, Nat.zero_le _, by rw [h0]; exact upd_same, Same.upd hD⟩, ?_⟩
  rintro i m H ⟨rfl, hi, p, sm⟩
  by_cases hlt : i < n
  · refine .inr ⟨w.goes i H hlt (hG H sm), fun H' => H' D = some (.dK (acc (i + 1))) ∧ Same H1 H', fun H' p' => ⟨n - (i + 1), by omega, rfl, hlt, p'⟩, fun x H' y => ?_⟩
    have key := hs i x H H' (fun H' => H' D = some (.dK (acc (i + 1))) ∧ Same H1 H') hlt sm p (w.yields i H x H' hlt (hG H sm) y) fun y z H5 k ey ea e5 s5 => by
      refine ⟨_, k, ey, e5, hz i hlt, ?_, put _ s5⟩
      rw [upd_same, ea]
    exact key
  · have e : i = n := by omega
    subst e
    exact .inl ⟨w.stops H (hG H sm), hd H sm p⟩
/-- the place of each -/
def plc (ns : List Nat) (i : Nat) : List (Key × V) := (List.range i).map fun j => (Sum.inl ((ns.getD j 0 : Nat) : Int), V.int (j : Nat))
theorem plc_len (ns : List Nat) (i : Nat) : (plc ns i).length = i := by simp [plc]
theorem plc_put {ns : List Nat} (hn : ns.Nodup) {i : Nat} (hi : i < ns.length) : plc ns (i + 1) = putK (plc ns i) (Sum.inl ((ns[i] : Nat) : Int)) (.int (i : Nat)) := by
  rw [putK_new]
  · unfold plc
    rw [List.range_succ, List.map_append]
    congr 1
    show [((Sum.inl ((ns.getD i 0 : Nat) : Int) : Key), V.int (i : Nat))] = [_]
    rw [List.getD_eq_getElem?_getD, List.getElem?_eq_getElem hi]
    rfl
  · intro q
    unfold plc at q
    rw [List.map_map] at q
    obtain ⟨j, hj, e⟩ := List.mem_map.mp q
    rw [List.mem_range] at hj
    have e : ((ns.getD j 0 : Nat) : Int) = ((ns[i] : Nat) : Int) := Sum.inl.inj e
    rw [List.getD_eq_getElem?_getD, List.getElem?_eq_getElem (show j < ns.length by omega)] at e
    have e : ns[j] = ns[i] := by
      have : ((ns[j] : Nat) : Int) = ((ns[i] : Nat) : Int) := e
      omega
    have := (List.getElem_inj hn).mp e
    omega
theorem find_plc {ns : List Nat} {s : Nat} : ∀ i, i ≤ ns.length → valV (plc ns i) (Sum.inl (s : Int)) = if s ∈ ns.take i then some (.int ((ns.take i).idxOf s : Nat)) else none := by
  intro i
  induction i with
  | zero => intro _; simp [plc, valV]
  | succ i ih =>
    intro hi
    have hlt : i < ns.length := hi
    have e1 : plc ns (i + 1) = plc ns i ++ [(Sum.inl ((ns[i] : Nat) : Int), V.int (i : Nat))] := by
      unfold plc
      rw [List.range_succ, List.map_append]
      congr 1
      show [((Sum.inl ((ns.getD i 0 : Nat) : Int) : Key), V.int (i : Nat))] = [_]
      rw [List.getD_eq_getElem?_getD, List.getElem?_eq_getElem hlt]
      rfl
    have e2 : ns.take (i + 1) = ns.take i ++ [ns[i]] := by
      rw [List.take_add_one, List.getElem?_eq_getElem hlt]
      rfl
    have ih := ih (by omega)
    unfold valV at ih ⊢
    rw [e1, e2, List.find?_append]
    by_cases h : s ∈ ns.take i
    · rw [if_pos h] at ih
      rw [if_pos (List.mem_append_left _ h), List.idxOf_append, if_pos h]
      cases hf : List.find? (fun p => decide (p.1 = Sum.inl (s : Int))) (plc ns i) with
      | none => rw [hf] at ih; cases ih
      | some y => rw [hf] at ih; exact ih
    · rw [if_neg h] at ih
      cases hf : List.find? (fun p => decide (p.1 = Sum.inl (s : Int))) (plc ns i) with
      | some y => rw [hf] at ih; cases ih
      | none =>
        by_cases hs : ns[i] = s
        · rw [if_pos (by rw [hs]; simp), List.idxOf_append, if_neg h]
          simp [hs, List.length_take]
          omega
        · have hne : ¬ (((ns[i] : Nat) : Int) = (s : Int)) := by omega
          rw [if_neg (fun q => by
            rcases List.mem_append.mp q with q | q
            · exact h q
            · exact hs (List.mem_singleton.mp q).symm)]
          simp [hne]
theorem plc_get {ns : List Nat} {s : Nat} (h : s ∈ ns) {H : Hp} {a : Addr} (ha : H a = some (.dK (plc ns ns.length))) : DGet H a (.int (s : Int)) (some (.int (ns.idxOf s : Nat))) := by
  have := find_plc (ns := ns) (s := s) ns.length (Nat.le_refl _)
  rw [List.take_of_length_le (Nat.le_refl _), if_pos h] at this
  rw [← this]
  exact DGet.k (k := Sum.inl (s : Int)) ha
end WP

/-! ## P7 -/
set_option Elab.async false
set_option linter.all false
set_option maxRecDepth 100000
set_option maxHeartbeats 4000000
/-! reader_from. -/
namespace WP
open PySem PySem.Spec PyProof.Rows L2 WR WC
theorem iv_append (a b : List Nat) : iv (a ++ b) = iv a ++ iv b := List.map_append
theorem lt_mono {i : Nat} {K : PySem.W.Frag} {j : Nat} : ∀ σ H Q Q', (∀ b H1, Q b H1 → Q' b H1) → tTest (tOp (rI0 fun i j => .bl (decide (i < j))) (tVar i) (tThen (tVar j) (kLenQ K))) σ H Q → tTest (tOp (rI0 fun i j => .bl (decide (i < j))) (tVar i) (tThen (tVar j) (kLenQ K))) σ H Q' := by
  intro σ H Q Q' m h
  obtain ⟨v, h1, w', h2, p, ys, h3, h4, a, b, h5, h6, c, h7, h8⟩ := h
  exact ⟨v, h1, w', h2, p, ys, h3, h4, a, b, h5, h6, c, h7, m _ _ h8⟩
theorem g2 {i j : Nat} {x y : V} {σ : L2.St} {H : Hp} {Q : L2.St → Hp → Prop} (h : Q ((σ.set i (some x)).set j (some y)) H) : gCons (gName i) (gCons (gName j) gNil) [x, y] σ H Q := ⟨x, _, rfl, y, _, rfl, rfl, h⟩
theorem seq_ {t u : TS} {D : Ends} {σ : L2.St} {H : Hp} (h : t { D with nx := u D } σ H) : tSeq t u D σ H := h
theorem SameOf {H1 H2 : Hp} (h : Same H1 H2) {b : Addr} {o : HO} (e : H1 b = some o) : H2 b = some o := h _ _ e
section
variable {P : Program} {w : World} {K : PySem.W.Frag} {mg : Str → Option Value} {C : Addr} {base : Heap}
theorem sc_reader_from : FnScope ["reader", "start", "order", "at", "ways", "letter", "state", "places", "place", "moves", "row"] ["reader", "start"] (defScope (top 27)) := ⟨rfl, rfl, rfl, by decide +kernel, rfl, by decide +kernel, by decide +kernel⟩
def sp_reader_from (C : Addr) : Sp := fun vs H Q _ => ∃ p cs M, ∃ s : Nat, vs = [.ref p, .int s] ∧ RdrAt C H p cs M ∧ s < M.n ∧ ∀ q H', Same H H' → RdrAt C H' q cs (M.rel (M.bfs s)) → Q (.ref q) H'
theorem ok_reader_from (T : TX K mg C) : Ok P w K mg base 7 "reader_from" (top 27) ["reader", "start"] (sp_reader_from C) := by
  obtain ⟨f, fd, D⟩ := T.f_reader_from
  obtain ⟨f1, fd1, D1, G1⟩ := ok_m_init (P := P) (w := w) (base := base) T
  refine ⟨f, fd, D, D.F.ok sc_reader_from (fun vs H Q E h => ?_) (fun cdv A outer s H vs Q E hr h => ?_)⟩
  · obtain ⟨p, cs, M, s0, rfl, _⟩ := h
    rfl
  · obtain ⟨p, cs, M, s0, rfl, hR, hs0, k⟩ := h
    obtain ⟨dx, d, y, h1, h2, h3, hrow⟩ := hR.row
    have hg := hR.good
    have W := hg.wf
    have hpos := hg.ltrs.pos
    have hfew := hg.ltrs.few
    have hn60 := hg.few
    refine ⟨_, (pss_cons (ps_asg (pe_tup (pa_cons (pe_lst (pa_cons ((pv 1)) pa_nil)) (pa_cons (pe_int) pa_nil))) (pg_tup rfl (pgs_cons (pg_name (i := 2) sc_reader_from.nd rfl (Or.inr rfl)) (pgs_cons (pg_name (i := 3) sc_reader_from.nd rfl (Or.inr rfl)) pgs_nil))))
      (pss_cons (ps_while PassesOwn.never (pt_cmpR op_lt (pv 3) (pe_lenQ T (pv 2)) (nomark _)) (pss_cons ((ps_setLc (i := 4) (own := [("letter", 5)]) (g := gName 5) (tt := tYes) rfl sc_reader_from.nd rfl rfl (sw_true rfl rfl rfl (by decide +kernel)) (pi_str (pe_fldR T (pv 0))) (blkOk_by (N := ["reader", "start", "order", "at", "ways", "letter", "state", "places", "place", "moves", "row"]) (sc := defScope (top 27)) (by decide +kernel)) (fun _ _ _ _ _ => pg_name (i := 5) sc_reader_from.nd rfl (Or.inl rfl)) (fun _ _ _ _ _ => pts_nil) (fun _ _ _ _ _ => pe_ix (ix_tupQ K rfl) (pe_dget hr.u1 (pe_fldR T (pv 0)) (pv 5) (fun _ _ => rfl)) (pe_ix (ix_listQ K rfl) (pv 2) (pv 3) (fun _ _ => rfl)) (fun _ _ => rfl))))
      (pss_cons (ps_for PassesOwn.never rfl (pi_list (pv 4)) (pg_name (i := 6) sc_reader_from.nd rfl (Or.inl rfl)) (pss_one (ps_set (i := 2) sc_reader_from.nd rfl (Or.inr rfl) (pe_ifExp (pt_cmpR (op_inQ K rfl) (pv 6) (pv 2) rfl) (pv 2) (pe_lst (StX.pa_star (pv 2) (pa_cons ((pv 6)) pa_nil)))))))
      (pss_one (ps_aug (i := 3) sc_reader_from.nd rfl (Or.inr rfl) pe_int ip_add)))))
      (pss_cons ((ps_set (i := 7) sc_reader_from.nd rfl (Or.inr rfl) ((pe_dc (own := [("place", 8), ("state", 6)]) (g := gTup K 2 (gCons (gName 8) (gCons (gName 6) (gNil)))) (tt := tYes) rfl sc_reader_from.nd (pi_enum (by rfl) T.b_enumerate (pa_cons (pv 2) pa_nil)) (blkOk_by (N := ["reader", "start", "order", "at", "ways", "letter", "state", "places", "place", "moves", "row"]) (sc := defScope (top 27)) (by decide +kernel)) (fun _ _ _ _ _ => pg_tup rfl (pgs_cons (pg_name (i := 8) sc_reader_from.nd rfl (Or.inl rfl)) (pgs_cons (pg_name (i := 6) sc_reader_from.nd rfl (Or.inl rfl)) (pgs_nil)))) (fun _ _ _ _ _ => pts_nil) (fun _ _ _ _ _ => (pv 6)) (fun _ _ _ _ _ => (pv 8))))))
      (pss_cons (ps_lock (ps_setDc (i := 9) (own := [("letter", 5), ("row", 10)]) (g := gTup K 2 (gCons (gName 5) (gCons (gName 10) (gNil)))) (tt := tYes) rfl sc_reader_from.nd rfl rfl (sw_trueD rfl rfl rfl (by decide +kernel)) (pi_items (pe_fldR T (pv 0))) (blkOk_by (N := ["reader", "start", "order", "at", "ways", "letter", "state", "places", "place", "moves", "row"]) (sc := defScope (top 27)) (by decide +kernel)) (fun _ _ _ _ _ => pg_tup rfl (pgs_cons (pg_name (i := 5) sc_reader_from.nd rfl (Or.inl rfl)) (pgs_cons (pg_name (i := 10) sc_reader_from.nd rfl (Or.inr rfl)) (pgs_nil)))) (fun _ _ _ _ _ => pts_nil) (fun _ _ _ _ _ => (pv 5)) (fun _ _ _ _ _ => pe_tupQ T (pe_lc (own := [("state", 6)]) (g := gName 6) (tt := tYes) rfl sc_reader_from.nd (pi_listQ K rfl (pv 2)) (blkOk_re (N := ["reader", "start", "order", "at", "ways", "letter", "state", "places", "place", "moves", "row"]) (S := cScope (stExpr (top 27) 3)) rfl rfl (by decide +kernel)) (fun _ _ _ _ _ => pg_name (i := 6) sc_reader_from.nd rfl (Or.inl rfl)) (fun _ _ _ _ _ => pts_nil) (fun _ _ _ _ _ => pe_dget hr.u1 (pv 7) (pe_ix (ix_tupQ K rfl) (pv 10) (pv 6) (fun _ _ => rfl)) (fun _ _ => rfl))))))
      (pss_one (ps_ret (pe_make (C := C) ⟨T.mkC, D1.at_, D1.fn, T.kC⟩ G1 hr (by rfl) T.gC D1.b .nil pass0 (pa_cons (pe_fldR T (pv 0)) (pa_cons ((pv 9)) (pa_cons (pe_tupQ T (pe_lc (own := [("state", 6)]) (g := gName 6) rfl sc_reader_from.nd (pi_list (pv 2)) (blkOk_by (N := ["reader", "start", "order", "at", "ways", "letter", "state", "places", "place", "moves", "row"]) (sc := defScope (top 27)) (by decide +kernel)) (fun _ _ _ _ _ => pg_name (i := 6) sc_reader_from.nd rfl (Or.inl rfl)) (fun _ _ _ _ _ => pts_one (pt_cmpR (op_inQ K rfl) (pv 6) (pe_fldR T (pv 0)) rfl)) (fun _ _ _ _ _ => pe_dget hr.u1 (pv 7) (pv 6) (fun _ _ => rfl)))) pa_nil)))))))))), ?_⟩
    have W0 : ∀ n, (bq id M.sc s0 n).length ≤ M.n := fun n => bq_state_len W hs0 n
    refine ⟨_, rfl, by rw [sizeLine_eq]; show 1 ≤ _; omega, fun l hl => ?_⟩
    refine ⟨by rw [sizeLine_eq]; show 2 ≤ _; omega, fun t ht => ?_⟩
    have s2 : Same H (upd (upd H l (.lst [.int (s0 : Int)])) t (.tup [.ref l, .int 0])) := (Same.upd hl).trans (Same.upd ht)
    have hl2 : (upd (upd H l (.lst [.int (s0 : Int)])) t (.tup [.ref l, .int 0])) l = some (.lst (iv (bq id M.sc s0 0))) := by
      rw [upd_ne (fun z => by rw [← z, upd_same] at ht; cases ht)]
      exact upd_same
    refine ⟨t, _, rfl, sqt upd_same, rfl, ?_⟩
    generalize upd (upd H l (.lst [.int (s0 : Int)])) t (.tup [.ref l, .int 0]) = H2 at s2 hl2
    refine g2 (seq_ ?_)
    refine while_by (fun σ H' => ∃ (n : Nat) (l : Addr) (u v : Option V), σ = [some (.ref p), some (.int (s0 : Int)), some (.ref l), some (.int (n : Int)), u, none, v, none, none, none, none] ∧ Same H H' ∧ H' l = some (.lst (iv (bq id M.sc s0 n))))
      (fun σ _ => match σ with | [_, _, _, some (.int n), _, _, _, _, _, _, _] => M.n - n.toNat | _ => 0) ⟨0, l, none, none, rfl, s2, hl2⟩ (fun σ H' h => ?_) lt_mono
    obtain ⟨n, l, u, v, rfl, s3, hl3⟩ := h
    refine ⟨_, rfl, _, rfl, l, _, rfl, .inl (sql hl3), _, _, rfl, rfl, _, rfl, ?_⟩
    rw [iv_len]
    by_cases hn : n < (bq id M.sc s0 n).length
    · rw [decide_eq_true (show (n : Int) < ((bq id M.sc s0 n).length : Nat) by omega)]
      refine iteT ?_
      have hR3 := hR.same s3
      have hx : (bq id M.sc s0 n)[n]? = some (bq id M.sc s0 n)[n] := List.getElem?_eq_getElem hn
      have hxlt : (bq id M.sc s0 n)[n] < M.n := bq_state_lt W hs0 n _ (List.getElem_mem hn)
      have hstep := bq_some hx
      generalize hxe : (bq id M.sc s0 n)[n] = x at hx hxlt hstep
      have hsl : (M.sc x).length = cs.length := by rw [← hg.k]; simp [Mch.sc, Mch.k]
      refine seq_ ?_
      obtain ⟨dx, d, y, h1, h2, h3, hrow⟩ := hR3.row
      refine ⟨_, rfl, p, dx, _, _, rfl, h1, lk_letters _ _ _, txt cs, rfl, fun L hL => lc_map walk_txt hL (iv (M.sc x)) (by rw [iv_len, hsl]) (by omega) (fun _ _ => True.intro) (fun i c H4 H5 Nx hi s4 hL4 hy kk => ?_) fun H4 s4 hL4 => ?_⟩
      · obtain ⟨rfl, c, hc, rfl⟩ := hy
        rw [List.getElem?_eq_getElem hi] at hc
        cases hc
        obtain ⟨dx, d, y, h1, h2, h3, hrow⟩ := (hR3.same s4).row
        obtain ⟨a, r, q1, q2, q3, q4⟩ := hrow i hi
        refine ⟨rfl, _, rfl, p, dx, _, _, rfl, h1, lk_moves _ _ _, _, rfl, d, _, rfl, q1, _, rfl, _, rfl, l, _, n, _, rfl, rfl, sql_same s4 hl3, iv_at hn, a, _, _, _, rfl, rfl, sqt q4, iv_at (i := (bq id M.sc s0 n).getD n 0) ?_, ?_⟩
        · rw [List.getD_eq_getElem?_getD, hx]
          show x < _
          omega
        · refine lc_fin (n := cs.length) (by rw [iv_len, hsl]) (by omega) hi kk hL4 s4 ?_
          rw [iv_get (by omega), List.getD_eq_getElem?_getD (l := bq id M.sc s0 n), hx]
          simp [Mch.sc, (List.getElem?_eq_some_iff.mp q2).2]
      · refine seq_ ?_
        refine ⟨_, rfl, L, rfl, ⟨_, sql hL4⟩, ?_⟩
        refine for_it (walk_list (xs := iv (M.sc x))) (fun i σ H' => ∃ (l : Addr) (v : Option V), σ = [some (.ref p), some (.int (s0 : Int)), some (.ref l), some (.int (n : Int)), some (.ref L), none, v, none, none, none, none] ∧ Same H4 H' ∧ H' l = some (.lst (iv (pushs id (bq id M.sc s0 n) ((M.sc x).take i)))))
          ⟨l, v, rfl, fun _ _ e => e, s4 _ _ hl3⟩ (fun i σ H' hi ⟨_, _, _, e, _⟩ => sql_same e hL4) (fun i z σ H5 H6 hi hP hy => ?_) fun σ H5 hP => ?_
        · obtain ⟨l, v, rfl, s5, hl5⟩ := hP
          obtain ⟨rfl, e⟩ := hy
          rw [iv_len] at hi
          rw [iv_get hi] at e
          cases e
          have hsn : pushs id (bq id M.sc s0 n) ((M.sc x).take (i + 1)) = push id (pushs id (bq id M.sc s0 n) ((M.sc x).take i)) (M.sc x)[i] := by
            rw [List.take_add_one, List.getElem?_eq_getElem hi]
            exact pushs_snoc _ _ _
          have hbig : (pushs id (bq id M.sc s0 n) ((M.sc x).take i)).length ≤ M.n := by
            refine nodup_lt ?_ fun z hz => ?_
            · have := nodup_pushs (κ := (id : Nat → Nat)) (xs := (M.sc x).take i) (q := bq id M.sc s0 n) (by simpa using bq_state_nodup n)
              simpa using this
            · rcases mem_pushs hz with q | q
              · exact bq_state_lt W hs0 n z q
              · exact sc_lt W z (List.mem_of_mem_take q)
          refine ⟨_, rfl, _, rfl, l, _, rfl, .inl (sql hl5), rfl, flat_iv _, _, rfl, ?_⟩
          dsimp only
          rw [if_neg Bool.false_ne_true, inV_iv]
          cases hm : (pushs id (bq id M.sc s0 n) ((M.sc x).take i)).contains (M.sc x)[i] with
          | true =>
            refine iteT ⟨_, rfl, l, _, rfl, s5, ?_⟩
            rw [hsn, push_old (by simpa using hm)]
            exact hl5
          | false =>
            refine iteF ⟨_, rfl, l, _, rfl, .inr (sql hl5), _, rfl, by rw [List.length_append, iv_len, sizeLine_eq]; show _ + 1 ≤ _; omega, fun l' hl' => ⟨l', _, rfl, s5.trans (Same.upd hl'), ?_⟩⟩
            rw [hsn, push_new (by simpa using hm), iv_append]
            exact upd_same
        · obtain ⟨l, v, rfl, s5, hl5⟩ := hP
          refine ⟨_, rfl, _, _, rfl, rfl, ⟨n + 1, l, _, _, rfl, (s3.trans s4).trans s5, ?_⟩, ?_⟩
          · rw [hstep]
            rw [iv_len, List.take_of_length_le (Nat.le_refl _)] at hl5
            exact hl5
          · have := W0 n
            show M.n - ((n : Int) + 1).toNat < M.n - (n : Int).toNat
            omega
    · rw [decide_eq_false (show ¬ ((n : Int) < ((bq id M.sc s0 n).length : Nat)) by omega)]
      refine iteF ?_
      rw [bfs_of W hs0 (by omega)] at hl3
      have hO := bfs_ord W hs0
      have hOl := bfs_len W hs0
      have hG2 : Good cs (M.rel (M.bfs s0)) := ⟨hg.ltrs, rel_WF W hO, (rel_k W hO).trans hg.k, by rw [rel_n W hO]; omega⟩
      generalize hOe : M.bfs s0 = O at hl3 hO hOl hG2 k
      refine seq_ ?_
      refine ⟨_, rfl, l, _, rfl, sql hl3, fun D hD => dc_acc (walk_enum (xs := iv O)) hD (plc O) rfl (fun i hi => by rw [plc_len, sizeLine_eq]; rw [iv_len] at hi; omega) (fun _ e => sql_same e hl3) (fun i c H4 H5 Nx hi s4 hD4 hy kk => ?_) fun H4 s4 hD4 => ?_⟩
      · obtain ⟨t, a, b, rfl, ht, rfl, e1, e2⟩ := hy
        rw [iv_len] at hi
        dsimp only at e1 e2
        rw [iv_get hi] at e2
        cases e1
        cases e2
        refine ⟨t, _, rfl, sqt upd_same, rfl, _, _, rfl, _, _, rfl, rfl, rfl, _, rfl, _, rfl, ?_⟩
        exact kk _ _ _ (Sum.inl ((O[i] : Nat) : Int)) rfl (plc_put hO.nodup hi) (by rw [upd_ne (ne_of_none hD4 ht)]; exact hD4) (s4.trans (Same.upd ht))
      rw [iv_len] at hD4
      have s5 := s3.trans s4
      obtain ⟨as, la, hd0, ra0⟩ := h3
      have h1 := s5 _ _ h1
      have h2 := s5 _ _ h2
      have hd := s5 _ _ hd0
      have ra := ra0.same s5
      have dD : D ≠ d := fun z => by rw [z, s3 _ _ hd0] at hD; cases hD
      have hl4 := s4 _ _ hl3
      refine seq_ ?_
      refine ⟨d, _, hd, True.intro, fun od => ?_⟩
      have wk := walk_items (d := d) (o := od) (kvs := mkv cs as)
      rw [mkv_len la] at wk
      have pd : p ≠ d := fun z => by rw [z, hd] at h1; cases h1
      refine ⟨_, rfl, p, dx, _, _, rfl, by rw [upd_ne pd]; exact h1, lk_moves _ _ _, d, od, _, rfl, upd_same, fun D2 hD2 => dc_moves wk hD2 hg.ltrs.nodup (rows := (M.rel O).ways) (hG2.k) hfew (fun _ e => e _ _ upd_same) (fun i c H6 H7 Nx hi s6 hD6 hy kk => ?_) fun H6 s6 hm6 => ?_⟩
      · obtain ⟨t, a, b, rfl, ht, rfl, e1, e2⟩ := hy
        dsimp only at e1 e2
        rw [mkv_get la hi] at e1 e2
        cases e1
        cases e2
        have hai : i < as.length := by omega
        obtain ⟨r, hr1, hr2⟩ := ra.get (List.getElem?_eq_getElem hai)
        have hrl := W.row r (List.mem_of_getElem? hr1)
        have inL : ∀ {b : Addr} {xs : List V}, H4 b = some (.tup xs) → H6 b = some (.tup xs) := fun {b xs} e => s6 _ _ (by rw [upd_ne (fun z => by rw [z, hd] at e; cases e)]; exact e)
        have inL2 : ∀ {b : Addr} {xs : List V}, H4 b = some (.lst xs) → H6 b = some (.lst xs) := fun {b xs} e => s6 _ _ (by rw [upd_ne (fun z => by rw [z, hd] at e; cases e)]; exact e)
        have hD6' : H6 D = some (.dK (plc O O.length)) := s6 _ _ (by rw [upd_ne dD]; exact hD4)
        have st : Same H6 (upd H6 t (.tup [kV (Sum.inr (ltr cs[i])), .ref as[i]])) := Same.upd ht
        refine ⟨t, _, rfl, sqt upd_same, rfl, _, _, rfl, _, _, rfl, rfl, rfl, _, rfl, ?_⟩
        refine ⟨_, rfl, l, rfl, ⟨_, sql (st _ _ (inL2 hl4))⟩, fun L2 hL2 => lc_map (walk_list (xs := iv O)) hL2 (iv (O.map fun s => O.idxOf (r.getD s 0))) (by rw [iv_len, iv_len, List.length_map]) (by rw [iv_len]; omega) (fun _ e => sql_same e (st _ _ (inL2 hl4))) (fun j z H8 H9 Nx2 hj s8 hL8 hy2 kk2 => ?_) fun H8 s8 hL8 => ?_⟩
        · obtain ⟨rfl, e⟩ := hy2
          rw [iv_len] at hj
          rw [iv_get hj] at e
          cases e
          have s8' := st.trans s8
          have hsl : O[j] < r.length := by rw [hrl]; exact hO.lt _ (List.getElem_mem hj)
          refine ⟨rfl, _, rfl, _, rfl, _, rfl, as[i], _, O[j], _, rfl, rfl, sqt (s8' _ _ (inL hr2)), iv_at hsl, D, _, rfl, plc_get ?_ (s8' _ _ hD6'), ?_⟩
          · have := ord_d W hO (a := i) (List.getElem_mem hj)
            rw [d_some hr1] at this
            exact this
          · refine lc_fin (n := O.length) (by rw [iv_len, List.length_map]) (by omega) hj kk2 hL8 s8 ?_
            rw [iv_get (by rw [List.length_map]; exact hj), List.getElem_map]
        · refine .inl ⟨L2, _, rfl, sql hL8, fun q hq => ?_⟩
          obtain ⟨kvs, hkvs⟩ := hD6
          have s9 : Same H6 (upd H8 q (.tup (iv (O.map fun s => O.idxOf (r.getD s 0))))) := (st.trans s8).trans (Same.upd hq)
          refine kk _ _ _ rfl ⟨q, rfl, ?_⟩ ((s9 _ _ hkvs).trans hkvs.symm) (s6.trans s9) fun b xs e => s9 _ _ e
          rw [upd_same]
          have : ((M.rel O).ways)[i]? = some (O.map fun s => O.idxOf (r.getD s 0)) := by
            show (M.ways.map _)[i]? = _
            rw [List.getElem?_map, hr1]
            rfl
          rw [(List.getElem?_eq_some_iff.mp this).2]
      · have hd6 : H6 d = some (.frz od (.dK (mkv cs as))) := s6 _ _ upd_same
        have s7 : Same H4 (upd H6 d (.dK (mkv cs as))) := fun b o e => by
          by_cases hb : b = d
          · rw [hb, upd_same, ← hd, ← hb, e]
          · rw [upd_ne hb]
            exact s6 _ _ (by rw [upd_ne hb]; exact e)
        have hm7 : MovesAt (upd H6 d (.dK (mkv cs as))) D2 cs (M.rel O).ways := by
          obtain ⟨as2, q1, q2, q3⟩ := hm6
          have hne : D2 ≠ d := fun z => by rw [z, upd_same] at hD2; cases hD2
          exact ⟨as2, q1, by rw [upd_ne hne]; exact q2, q3.tups fun b xs e => by rw [upd_ne (fun z => by rw [z, hd6] at e; cases e)]; exact e⟩
        refine ⟨hd6, ?_⟩
        generalize upd H6 d (.dK (mkv cs as)) = H7 at s7 hm7
        have s8 := s5.trans s7
        have h1 := s7 _ _ h1
        have h2 := s7 _ _ h2
        have hl7 := s7 _ _ hl4
        have hD7 := s7 _ _ hD4
        refine ⟨_, rfl, p, dx, _, _, rfl, h1, lk_letters _ _ _, _, rfl, ?_⟩
        refine ⟨_, rfl, l, rfl, ⟨_, sql hl7⟩, fun L hL => lc_acc (walk_list (xs := iv O)) hL (fun i => iv (((O.take i).filter fun s => M.good.contains s).map O.idxOf)) rfl ?_ (fun _ e => sql_same e hl7) (fun i z H8 H9 hi s9 hL9 hy => ?_) ?_ ?_ ?_ fun H8 s9 hL9 => ?_⟩
        · intro i hi
          rw [iv_len, List.length_map, sizeLine_eq]
          have := List.length_filter_le (fun s => M.good.contains s) (O.take i)
          rw [List.length_take] at this
          omega
        · obtain ⟨rfl, e⟩ := hy
          rw [iv_len] at hi
          rw [iv_get hi] at e
          cases e
          have e3 : O.take (i + 1) = O.take i ++ [O[i]] := by rw [List.take_add_one, List.getElem?_eq_getElem hi]; rfl
          refine ⟨rfl, _, rfl, _, rfl, p, dx, _, _, rfl, s9 _ _ h1, lk_yes _ _ _, y, _, rfl, .inr (sqt (s9 _ _ h2)), rfl, flat_iv _, _, rfl, ?_⟩
          dsimp only
          rw [if_neg Bool.false_ne_true, inV_iv, e3, List.filter_append, List.map_append, iv_append]
          cases hm : M.good.contains O[i] with
          | true =>
            refine iteT ⟨_, rfl, _, rfl, D, _, rfl, plc_get (List.getElem_mem hi) (s9 _ _ hD7), ?_, hL9, s9⟩
            rw [List.filter_cons, hm]
            rfl
          | false =>
            refine iteF ⟨?_, hL9, s9⟩
            rw [List.filter_cons, hm]
            exact List.append_nil _
        · intro σ H Q Q' m h
          obtain ⟨a1, a2, a3, a4, b1, b2, b3, b4, c1, c2, c3, d1, d2, e1, e2, e3, e4, k0, hk, q⟩ := h
          exact ⟨a1, a2, a3, a4, b1, b2, b3, b4, c1, c2, c3, d1, d2, e1, e2, e3, e4, k0, hk, m _ _ q⟩
        · intro σ H Q Q' m h
          obtain ⟨a1, a2, a3, a4, b1, b2, b3, b4, q⟩ := h
          exact ⟨a1, a2, a3, a4, b1, b2, b3, b4, m _ _ q⟩
        · intro v σ H Q Q' m h
          exact m _ _ h
        · rw [iv_len, List.take_of_length_le (Nat.le_refl _)] at hL9
          refine .inl ⟨L, _, rfl, sql hL9, fun q hq => ?_⟩
          have s10 : Same H7 (upd H8 q (.tup (iv ((O.filter fun s => M.good.contains s).map O.idxOf)))) := s9.trans (Same.upd hq)
          exact mkR_at (M := M.rel O) hG2 (hm7.same s10) upd_same fun p2 H10 s11 r => k p2 H10 ((s8.trans s10).trans s11) r
end
end WP

/-! ## P8 -/
set_option Elab.async false
set_option linter.all false
set_option maxRecDepth 100000
set_option maxHeartbeats 4000000
/-! numbers_of. -/
namespace WP
open PySem PySem.Spec PyProof.Rows L2 WR WC
theorem mem_take_succ {ρ : Type} {rs : List ρ} {i : Nat} (hi : i < rs.length) : rs[i] ∈ rs.take (i + 1) := by
  rw [List.take_add_one, List.getElem?_eq_getElem hi]
  exact List.mem_append_right _ (List.mem_singleton.mpr rfl)
theorem dd_take_idx {ρ : Type} [DecidableEq ρ] {rs : List ρ} {i : Nat} (hi : i < rs.length) : (dd (rs.take (i + 1))).idxOf rs[i] = (dd rs).idxOf rs[i] := by
  have hp : rs.take (i + 1) <+: rs := List.take_prefix _ _
  obtain ⟨t, ht⟩ := dd_pre hp
  have hm : rs[i] ∈ dd (rs.take (i + 1)) := mem_dd.mpr (mem_take_succ hi)
  rw [← ht, List.idxOf_append, if_pos hm]
theorem dd_take {ρ : Type} [DecidableEq ρ] {rs : List ρ} {i : Nat} (hi : i < rs.length) : dd (rs.take (i + 1)) = push id (dd (rs.take i)) rs[i] := by
  rw [List.take_add_one, List.getElem?_eq_getElem hi]
  exact dd_snoc _ _
theorem dd_len_le {α : Type} [DecidableEq α] (xs : List α) : (dd xs).length ≤ xs.length := nodup_len (nodup_dd xs) fun x hx => mem_dd.mp hx
section
variable {P : Program} {w : World} {K : PySem.W.Frag} {mg : Str → Option Value} {C : Addr} {base : Heap}
theorem sc_numbers_of : FnScope ["rows", "known", "found", "row"] ["rows"] (defScope (top 33)) := ⟨rfl, rfl, rfl, by decide +kernel, rfl, by decide +kernel, by decide +kernel⟩
def NumGoal (l : Addr) (H : Hp) (Q : VK) (ns : List Nat) (m : Nat) : Prop := ∀ t L H', Same H H' → H' L = some (.lst (iv ns)) → H' t = some (.tup [.ref L, .int (m : Nat)]) → Q (.ref t) H'
def sp_numbers_of : Sp := fun vs H Q _ => ∃ (l : Addr) (ys : List V), vs = [.ref l] ∧ H l = some (.lst ys) ∧ ys.length ≤ 60 ∧
  ((∃ rs : List NK, rs.length = ys.length ∧ (∀ i (hi : i < rs.length), ∃ y, ys[i]? = some y ∧ IsRow H rs[i] y) ∧ NumGoal l H Q (nums rs) (dd rs).length) ∨ ∃ bs : List Bool, ys = bs.map V.bl ∧ NumGoal l H Q (nums bs) (dd bs).length)
theorem ok_numbers_of (T : TX K mg C) : Ok P w K mg base 1 "numbers_of" (top 33) ["rows"] sp_numbers_of := by
  obtain ⟨f, fd, D⟩ := T.f_numbers_of
  refine ⟨f, fd, D, D.F.ok sc_numbers_of (fun vs H Q E h => ?_) (fun cdv A outer s H vs Q E hr h => ?_)⟩
  · obtain ⟨l, ys, rfl, _⟩ := h
    rfl
  · obtain ⟨l, ys, rfl, hl, hlen, h⟩ := h
    have key : ∀ (ρ : Type) [DecidableEq ρ] (kit : NumKit (cxOf CX0 P w K mg base ["rows", "known", "found", "row"] "numbers_of" (defScope (top 33)) f cdv A outer s H E).nox ρ) (rs : List ρ), rs.length = ys.length →
        (∀ i (hi : i < rs.length), ∃ y, ys[i]? = some y ∧ kit.row H rs[i] y) → NumGoal l H Q (nums rs) (dd rs).length → ∃ t, PSs (cxOf CX0 P w K mg base ["rows", "known", "found", "row"] "numbers_of" (defScope (top 33)) f cdv A outer s H E).nox (defBody (top 33)) t ∧ t { nx := fun _ H' => Q .non H', rt := Q } (start ["rows", "known", "found", "row"] [.ref l]) H := by
      intro ρ _ kit rs hrl hrow k
      refine ⟨_, (pss_cons ((ps_set (i := 1) sc_numbers_of.nd rfl (Or.inl rfl) (kit.new)))
      (pss_cons ((ps_set (i := 2) sc_numbers_of.nd rfl (Or.inl rfl) (pe_lst pa_nil)))
      (pss_cons (ps_for PassesOwn.never rfl (pi_list (pv 0)) (pg_name (i := 3) sc_numbers_of.nd rfl (Or.inl rfl)) (pss_cons (ps_expr (kit.setd (pv 1) (pv 3) (pe_callB kit.len (by rfl) T.b_len PySem.boot_len (pa_cons (pv 1) pa_nil)) ⟨rfl, rfl, rfl, rfl⟩))
      (pss_one (ps_expr (pe_bm PySem.F.plainAttrs_list PySem.F.slot_list_append PySem.F.type_list_append mt_append (pv 2) (pa_cons (kit.get (fun _ _ => rfl) (pv 1) (pv 3)) pa_nil))))))
      (pss_one (ps_ret (pe_tup (pa_cons ((pv 2)) (pa_cons (pe_callB kit.len (by rfl) T.b_len PySem.boot_len (pa_cons (pv 1) pa_nil)) pa_nil)))))))), ?_⟩
      intro d H1 hd hb1 hD1
      have s1 : Same H H1 := fun b o e => by rw [hb1 b (ne_of_none e hd)]; exact e
      refine ⟨by rw [sizeLine_eq]; exact Nat.zero_le _, fun L hL => ?_⟩
      have hLd : L ≠ d := fun z => by
        obtain ⟨φ, q⟩ := kit.notTup hD1
        rw [z, q] at hL
        cases hL
      refine ⟨_, rfl, l, rfl, ⟨_, sql ((Same.upd hL) _ _ (s1 _ _ hl))⟩, ?_⟩
      refine for_it (walk_list (xs := ys)) (fun i σ H' => ∃ v : Option V, σ = [some (.ref l), some (.ref d), some (.ref L), v] ∧ Same H H' ∧ kit.D H' d (dd (rs.take i)) ∧ H' L = some (.lst (iv ((rs.take i).map fun r => (dd rs).idxOf r))))
        ⟨none, rfl, s1.trans (Same.upd hL), kit.dstay hD1 (upd_ne (Ne.symm hLd)) (fun b xs e => (Same.upd hL) b _ e), upd_same⟩ (fun i σ H' hi ⟨_, _, e, _⟩ => sql_same e hl) (fun i z σ H2 H3 hi hP hy => ?_) fun σ H2 hP => ?_
      · obtain ⟨v, rfl, s2, hD2, hL2⟩ := hP
        obtain ⟨rfl, e⟩ := hy
        have hi' : i < rs.length := by omega
        obtain ⟨y, hy1, hy2⟩ := hrow i hi'
        rw [hy1] at e
        cases e
        have hdl := dd_len_le (rs.take i)
        rw [List.length_take] at hdl
        have hrow2 := kit.rstay hy2 (fun b xs e => s2 b _ e)
        obtain ⟨φ, hφ⟩ := kit.notTup hD2
        refine ⟨_, rfl, d, _, rfl, hD2, _, rfl, _, rfl, d, _, rfl, hD2, by omega, _, rs[i], hD2, hrow2, rfl, by omega, fun v H4 hb4 hD4 => ?_⟩
        have t4 : Tups H3 H4 := fun b xs e => by rw [hb4 b (fun z => by rw [z, hφ] at e; cases e)]; exact e
        have s4 : Same H H4 := fun b o e => by rw [hb4 b (ne_of_none e hd)]; exact s2 _ _ e
        have hL4 : H4 L = some (.lst (iv ((rs.take i).map fun r => (dd rs).idxOf r))) := by rw [hb4 L hLd]; exact hL2
        have hrow4 := kit.rstay hrow2 t4
        rw [← dd_take hi'] at hD4
        have hmem : rs[i] ∈ dd (rs.take (i + 1)) := mem_dd.mpr (mem_take_succ hi')
        refine ⟨_, rfl, .inl ⟨rfl, _, sql hL4⟩, _, rfl, _, rfl, d, _, _, rfl, hD4, hrow4, hmem, ?_⟩
        have hLs : ((rs.take i).map fun r => (dd rs).idxOf r).length ≤ 60 := by rw [List.length_map, List.length_take]; omega
        refine ⟨L, _, _, rfl, rfl, hL4, by rw [iv_len, sizeLine_eq]; omega, _, rfl, fun b o e => ?_, ?_, ?_⟩
        · rw [upd_ne (fun z => ?_)]
          · exact s4 _ _ e
          · have h1 : H1 L = none := hL
            rw [← z, s1 _ _ e] at h1
            cases h1
        · exact kit.dstay hD4 (upd_ne (Ne.symm hLd)) fun b xs e => by rw [upd_ne (fun z => by rw [z, hL4] at e; cases e)]; exact e
        · rw [upd_same, dd_take_idx hi']
          have e3 : rs.take (i + 1) = rs.take i ++ [rs[i]] := by rw [List.take_add_one, List.getElem?_eq_getElem hi']; rfl
          rw [e3, List.map_append, iv_append]
          rfl
      · obtain ⟨v, rfl, s2, hD2, hL2⟩ := hP
        rw [List.take_of_length_le (by omega)] at hD2 hL2
        have := dd_len_le rs
        refine ⟨_, rfl, _, rfl, d, _, rfl, hD2, by omega, by rw [sizeLine_eq]; show 2 ≤ _; omega, fun t ht => ?_⟩
        exact k t L _ (s2.trans (Same.upd ht)) ((Same.upd ht) _ _ hL2) upd_same
    rcases h with ⟨rs, hrl, hrow, k⟩ | ⟨bs, rfl, k⟩
    · exact key NK (kitN hr.u64) rs hrl hrow k
    · exact key Bool (kitB hr.u64) bs (by rw [List.length_map]) (fun i hi => ⟨.bl bs[i], by rw [List.getElem?_map, List.getElem?_eq_getElem hi]; rfl, rfl⟩) k
end
end WP

/-! ## P9 -/
set_option Elab.async false
set_option linter.all false
set_option maxRecDepth 100000
set_option maxHeartbeats 4000000
/-! classes_of. -/
namespace WP
open PySem PySem.Spec PyProof.Rows L2 WR WC
/-- an expression in a loop's body -/
def inExpr (st : Stmt) (i j : Nat) : Expr :=
  match (match (defBody st)[i]? with
    | some (Stmt.While _ b _ _) => b
    | some (Stmt.For _ _ b _ _) => b
    | _ => ([] : List Stmt))[j]? with
  | some (Stmt.Assign _ e _) => e
  | _ => .Name "" ⟨0, 0, 0, 0⟩
/-- what was locked stands again -/
theorem same_unlock {H H6 : Hp} {d : Addr} {u : HO} {od : Obj} (hd : H d = some u) (s : Same (upd H d (.frz od u)) H6) : Same H (upd H6 d u) := fun b o e => by
  by_cases hb : b = d
  · rw [hb, upd_same, ← hd, ← hb, e]
  · rw [upd_ne hb]
    exact s _ _ (by rw [upd_ne hb]; exact e)
/-- a comprehension that gives new things, one per turn: R tells the i-th -/
theorem lc_refs {J : It} {n : Nat} {G : Hp → Prop} {Y : Nat → Hp → V → Hp → Prop} {g : TG} {te : TE} {vs : List Nat} {σ : L2.St} {H1 : Hp} {D : Addr} {Qd : Hp → Prop} (w : Walk J n G Y) (hD : H1 D = none) (R : Nat → Hp → Addr → Prop) (hR : ∀ i a H H', Tups H H' → R i H a → R i H' a) (hz : n ≤ 100000) (hG : ∀ H, Same H1 H → G H)
    (hs : ∀ (i : Nat) (x : V) (H H' : Hp) (Nx : Hp → Prop), i < n → Same H1 H → (∃ as : List Addr, H D = some (.lst (as.map V.ref))) → Y i H x H' → (∀ a H5, R i H5 a → Same H H5 → ∃ acc, H5 D = some (.lst acc) ∧ acc.length < sizeLine ∧ Nx (upd H5 D (.lst (acc ++ [.ref a])))) →
      g x (wipe σ vs) H' fun σ2 H2 => wipe σ2 vs = wipe σ vs ∧ te σ2 H2 fun y H4 => ∃ acc, H4 D = some (.lst acc) ∧ acc.length < sizeLine ∧ Nx (upd H4 D (.lst (acc ++ [y]))))
    (hd : ∀ H (as : List Addr), Same H1 H → as.length = n → H D = some (.lst (as.map V.ref)) → (∀ i (hi : i < as.length), R i H as[i]) → Qd H) :
    ∃ W : Nat → Nat → Hp → Prop, (∃ m, W 0 m (upd H1 D (.lst []))) ∧ ∀ i m H, W i m H →
      (J.stop i H ∧ Qd H) ∨ (J.go i H ∧ ∃ Nx : Hp → Prop, (∀ H', Nx H' → ∃ m', m' < m ∧ W (i + 1) m' H') ∧ ∀ x H', J.yld i H x H' → g x (wipe σ vs) H' fun σ2 H2 => wipe σ2 vs = wipe σ vs ∧ tYes σ2 H2 fun b H3 =>
        if b = true then te σ2 H3 fun y H4 => ∃ acc, H4 D = some (.lst acc) ∧ acc.length < sizeLine ∧ Nx (upd H4 D (.lst (acc ++ [y]))) else Nx H3) := by
  have put : ∀ {H : Hp} (o : HO), Same H1 H → Same H1 (upd H D o) := fun {H} o h b u e => by
    rw [upd_ne (ne_of_none e hD)]
    exact h b u e
  refine lc_it (tt := tYes) w (fun i H => ∃ as : List Addr, as.length = i ∧ H D = some (.lst (as.map V.ref)) ∧ (∀ j (hj : j < as.length), R j H as[j]) ∧ Same H1 H) ⟨[], rfl, upd_same, fun j hj => absurd hj (Nat.not_lt_zero _), Same.upd hD⟩ (fun i H _ ⟨_, _, _, _, h⟩ => hG H h) (fun i x H H' hi h hy => ?_) fun H ⟨as, h1, h2, h3, h4⟩ => hd H as h4 h1 h2 h3
  obtain ⟨as, h1, h2, h3, h4⟩ := h
  have key := hs i x H H' (fun H' => ∃ as : List Addr, as.length = i + 1 ∧ H' D = some (.lst (as.map V.ref)) ∧ (∀ j (hj : j < as.length), R j H' as[j]) ∧ Same H1 H') hi h4 ⟨as, h2⟩ hy fun a H5 r5 s5 => by
    have h5 := s5 _ _ h2
    have tp : Tups H5 (upd H5 D (.lst (as.map V.ref ++ [.ref a]))) := fun b xs e => by rw [upd_ne (fun z => by rw [z, h5] at e; cases e)]; exact e
    refine ⟨_, h5, by rw [List.length_map, sizeLine_eq]; omega, as ++ [a], by rw [List.length_append, h1]; rfl, by rw [upd_same, List.map_append]; rfl, fun j hj => ?_, put _ (h4.trans s5)⟩
    refine hR _ _ _ _ tp ?_
    by_cases hja : j < as.length
    · rw [List.getElem_append_left hja]
      exact hR _ _ _ _ (fun b xs e => s5 _ _ e) (h3 j hja)
    · have hj' : j = as.length := by rw [List.length_append] at hj; have : j < as.length + 1 := hj; omega
      subst hj'
      rw [List.getElem_append_right (Nat.le_refl _)]
      simp only [Nat.sub_self, List.getElem_singleton]
      rw [h1]
      exact r5
  exact key
theorem gt_mono {i j : Nat} : ∀ σ H Q Q', (∀ b H1, Q b H1 → Q' b H1) → tTest (tOp (rI0 fun i j => .bl (decide (i > j))) (tVar i) (tVar j)) σ H Q → tTest (tOp (rI0 fun i j => .bl (decide (i > j))) (tVar i) (tVar j)) σ H Q' := by
  intro σ H Q Q' m h
  obtain ⟨v, h1, w', h2, a, b, h5, h6, c, h7, h8⟩ := h
  exact ⟨v, h1, w', h2, a, b, h5, h6, c, h7, m _ _ h8⟩
theorem rgV_iv (n : Nat) : rgV 0 (n : Int) = iv (List.range n) := by
  unfold rgV iv
  simp
section
variable {P : Program} {w : World} {K : PySem.W.Frag} {mg : Str → Option Value} {C : Addr} {base : Heap}
theorem sc_classes_of : FnScope ["reader", "states", "classes", "many", "last", "ways", "state", "row"] ["reader"] (defScope (top 34)) := ⟨rfl, rfl, rfl, by decide +kernel, rfl, by decide +kernel, by decide +kernel⟩
def sp_classes_of (C : Addr) : Sp := fun vs H Q _ => ∃ p cs M, vs = [.ref p] ∧ RdrAt C H p cs M ∧ ∀ L H', Same H H' → H' L = some (.lst (iv (cls M))) → Q (.ref L) H'
theorem ok_classes_of (T : TX K mg C) : Ok P w K mg base 3 "classes_of" (top 34) ["reader"] (sp_classes_of C) := by
  obtain ⟨f, fd, D⟩ := T.f_classes_of
  obtain ⟨f1, fd1, D1, G1⟩ := ok_says (P := P) (w := w) (base := base) T
  obtain ⟨f2, fd2, D2, G2⟩ := ok_numbers_of (P := P) (w := w) (base := base) T
  refine ⟨f, fd, D, D.F.ok sc_classes_of (fun vs H Q E h => ?_) (fun cdv A outer s H vs Q E hr h => ?_)⟩
  · obtain ⟨p, cs, M, rfl, _⟩ := h
    rfl
  · obtain ⟨p, cs, M, rfl, hR, k⟩ := h
    obtain ⟨fl, fdl, Dl, Gl'⟩ := ok_m_len (P := P) (w := w) (base := base) T
    refine ⟨_, (pss_cons ((ps_set (i := 1) sc_classes_of.nd rfl (Or.inl rfl) (pe_listRg rfl (by rfl) T.b_list (prg_1 (by rfl) T.b_range (pe_callB (call_lenOwn (C := C) Gl' Dl.at_ Dl.fn Dl.b hr pass0) (by rfl) T.b_len PySem.boot_len (pa_cons (pv 0) pa_nil))))))
      (pss_cons (ps_asg (pe_call G2 (hr.mono (by decide)) (by rfl) D2.g D2.F.kp D2.b .nil pass0 (pa_cons ((pe_lc (own := [("state", 6)]) (g := gName 6) (tt := tYes) rfl sc_classes_of.nd (pi_list (pv 1)) (blkOk_by (N := ["reader", "states", "classes", "many", "last", "ways", "state", "row"]) (sc := defScope (top 34)) (by decide +kernel)) (fun _ _ _ _ _ => pg_name (i := 6) sc_classes_of.nd rfl (Or.inl rfl)) (fun _ _ _ _ _ => pts_nil) (fun _ _ _ _ _ => (pe_call G1 (hr.mono (by decide)) (by rfl) D1.g D1.F.kp D1.b .nil pass0 (pa_cons ((pv 0)) (pa_cons ((pv 6)) pa_nil)))))) pa_nil)) (pg_tup rfl (pgs_cons (pg_name (i := 2) sc_classes_of.nd rfl (Or.inr rfl)) (pgs_cons (pg_name (i := 3) sc_classes_of.nd rfl (Or.inl rfl)) pgs_nil))))
      (pss_cons ((ps_set (i := 4) sc_classes_of.nd rfl (Or.inl rfl) (pe_int)))
      (pss_cons (ps_while PassesOwn.never (pt_cmpR op_gt (pv 3) (pv 4) (nomark _)) (pss_cons ((ps_set (i := 4) sc_classes_of.nd rfl (Or.inl rfl) ((pv 3))))
      (pss_cons ((ps_set (i := 5) sc_classes_of.nd rfl (Or.inr rfl) ((pe_lc (own := [("state", 6)]) (g := gName 6) (tt := tYes) rfl sc_classes_of.nd (pi_list (pv 1)) (blkOk_by (N := ["reader", "states", "classes", "many", "last", "ways", "state", "row"]) (sc := defScope (top 34)) (by decide +kernel)) (fun _ _ _ _ _ => pg_name (i := 6) sc_classes_of.nd rfl (Or.inr rfl)) (fun _ _ _ _ _ => pts_nil) (fun _ _ _ _ _ => pe_tupQ T (pe_lock (pe_lc (own := [("row", 7)]) (g := gName 7) (tt := tYes) rfl sc_classes_of.nd (pi_values (pe_fldR T (pv 0))) (blkOk_re (N := ["reader", "states", "classes", "many", "last", "ways", "state", "row"]) (S := cScope (inExpr (top 34) 3 1)) rfl rfl (by decide +kernel)) (fun _ _ _ _ _ => pg_name (i := 7) sc_classes_of.nd rfl (Or.inl rfl)) (fun _ _ _ _ _ => pts_nil) (fun _ _ _ _ _ => pe_ix (ix_listQ K rfl) (pv 2) (pe_ix (ix_tupQ K rfl) (pv 7) (pv 6) (fun _ _ => rfl)) (fun _ _ => rfl)))))))))
      (pss_one (ps_asg (pe_call G2 (hr.mono (by decide)) (by rfl) D2.g D2.F.kp D2.b .nil pass0 (pa_cons ((pe_lc (own := [("state", 6)]) (g := gName 6) (tt := tYes) rfl sc_classes_of.nd (pi_list (pv 1)) (blkOk_by (N := ["reader", "states", "classes", "many", "last", "ways", "state", "row"]) (sc := defScope (top 34)) (by decide +kernel)) (fun _ _ _ _ _ => pg_name (i := 6) sc_classes_of.nd rfl (Or.inl rfl)) (fun _ _ _ _ _ => pts_nil) (fun _ _ _ _ _ => pe_tup (pa_cons (pe_ix (ix_listQ K rfl) (pv 2) (pv 6) (fun _ _ => rfl)) (pa_cons (pe_ix (ix_listQ K rfl) (pv 5) (pv 6) (fun _ _ => rfl)) pa_nil))))) pa_nil)) (pg_tup rfl (pgs_cons (pg_name (i := 2) sc_classes_of.nd rfl (Or.inr rfl)) (pgs_cons (pg_name (i := 3) sc_classes_of.nd rfl (Or.inl rfl)) pgs_nil))))))))
      (pss_one (ps_ret (pv 2))))))), ?_⟩
    obtain ⟨dx, d, y, h1, h2, hd0, hrow⟩ := hR.row
    have hg := hR.good
    have W := hg.wf
    have hpos := hg.ltrs.pos
    have hfew := hg.ltrs.few
    have hn60 := hg.few
    have hn0 := W.n0
    refine ⟨_, rfl, p, dx, _, rfl, h1, p, cs, M, rfl, hR, _, rfl, by omega, by omega, (M.n : Int), rfl, ?_, fun S hS => ?_⟩
    · exact RgOk.of_le (by omega) (by omega) (by omega) (by omega)
    rw [rgV_iv]
    have s1 : Same H (upd H S (.lst (iv (List.range M.n)))) := Same.upd hS
    have hS1 : (upd H S (.lst (iv (List.range M.n)))) S = some (.lst (iv (List.range M.n))) := upd_same
    generalize upd H S (.lst (iv (List.range M.n))) = H1 at s1 hS1
    refine seq_ ?_
    refine ⟨_, rfl, S, rfl, ⟨_, sql hS1⟩, fun L hL => lc_map (walk_list (xs := iv (List.range M.n))) hL (((List.range M.n).map M.ok).map V.bl) (by rw [iv_len, List.length_map, List.length_map]) (by rw [iv_len, List.length_range]; omega) (fun _ e => sql_same e hS1) (fun i x H2 H3 Nx hi sm hLi hy kk => ?_) fun H2 s2 hL2 => ?_⟩
    · obtain ⟨rfl, e⟩ := hy
      rw [iv_len] at hi
      rw [iv_get hi] at e
      cases e
      refine ⟨rfl, _, rfl, _, rfl, p, cs, M, _, rfl, hR.same (s1.trans sm), ?_⟩
      rw [List.length_range] at hi
      exact lc_fin (n := M.n) (by simp) (by omega) hi kk hLi sm (by simp [hi])
    have hcl0 := ci_first M
    refine ⟨L, _, rfl, hL2, by simp; omega, .inr ⟨_, rfl, fun t Lc H3 s3 hLc ht => ?_⟩⟩
    rw [← nums_cnt] at ht
    have s4 := (s1.trans s2).trans s3
    have hS3 := s3 _ _ (s2 _ _ hS1)
    refine ⟨t, _, rfl, sqt ht, rfl, g2 (seq_ (seq_ ?_))⟩
    generalize nums ((List.range M.n).map M.ok) = cl0 at hcl0 hLc
    refine while_by (fun σ H' => ∃ (Lc : Addr) (cl : List Nat) (la : Nat) (u : Option V), σ = [some (.ref p), some (.ref S), some (.ref Lc), some (.int ((dd cl).length : Nat)), some (.int (la : Int)), u, none, none] ∧ Same H3 H' ∧ H' Lc = some (.lst (iv cl)) ∧ CI M cl ∧ (la = 0 ∨ ∃ f : Nat → Nat, Coarse M f ∧ Step M f (fun s => cl.getD s 0) ∧ la = cnt M f))
      (fun σ _ => match σ with | [_, _, _, _, some (.int l), _, _, _] => M.n + 1 - l.toNat | _ => 0) ⟨Lc, cl0, 0, none, rfl, fun _ _ e => e, hLc, hcl0, .inl rfl⟩ (fun σ H4 h => ?_) gt_mono
    obtain ⟨Lc, cl, la, u, rfl, s5, hLc, hcl, hla⟩ := h
    have hm : (dd cl).length ≤ M.n := by rw [← hcl.cnt]; exact cnt_n _
    have hm0 : 0 < (dd cl).length := by rw [← hcl.cnt]; exact cnt_pos W _
    refine ⟨_, rfl, _, rfl, _, _, rfl, rfl, _, rfl, ?_⟩
    by_cases hgt : (dd cl).length > la
    · rw [decide_eq_true (show ((dd cl).length : Int) > (la : Int) by omega)]
      refine iteT (seq_ ⟨_, rfl, seq_ ?_⟩)
      have s6 := s4.trans s5
      have hS4 := s5 _ _ hS3
      have h1 := s6 _ _ h1
      obtain ⟨as, las, hd, ra⟩ := hd0.same s6
      refine ⟨_, rfl, S, rfl, ⟨_, sql hS4⟩, fun L hL => lc_refs (walk_list (xs := iv (List.range M.n))) hL (fun i H a => H a = some (.tup (iv (cWay M cl i)))) (fun i a H H' t e => t _ _ e) (by rw [iv_len, List.length_range]; omega) (fun _ e => sql_same e hS4) (fun i x H5 H6 Nx hi sm hLi hy kk => ?_) fun H5 asw s7 hasl hL5 hasw => ?_⟩
      · obtain ⟨rfl, e⟩ := hy
        rw [iv_len] at hi
        rw [iv_get hi] at e
        cases e
        rw [List.length_range] at hi
        rw [List.getElem_range]
        refine ⟨rfl, d, _, sm _ _ hd, True.intro, fun od => ?_⟩
        have pd : p ≠ d := fun z => by rw [z, hd] at h1; cases h1
        have wk := walk_values (d := d) (o := od) (kvs := mkv cs as)
        rw [mkv_len las] at wk
        have hLd : Lc ≠ d := fun z => by rw [z, hd] at hLc; cases hLc
        refine ⟨_, rfl, p, dx, _, _, rfl, by rw [upd_ne pd]; exact sm _ _ h1, lk_moves _ _ _, d, od, _, rfl, upd_same, fun D hD => lc_map wk hD (iv (cWay M cl i)) (by rw [iv_len, cWay, List.length_map]; exact hg.k) (by omega) (fun _ e => e _ _ upd_same) (fun j x H7 H8 Nx2 hj sm2 hDj hy kk2 => ?_) fun H7 s8 hD7 => ?_⟩
        · obtain ⟨rfl, kk0, e⟩ := hy
          rw [mkv_get las hj] at e
          cases e
          have haj : j < as.length := by omega
          obtain ⟨r, hr1, hr2⟩ := ra.get (List.getElem?_eq_getElem haj)
          have hrl := W.row r (List.mem_of_getElem? hr1)
          have ne : as[j] ≠ d := fun z => by
            rw [z, hd] at hr2
            cases hr2
          have hr3 := sm2 as[j] (.tup (iv r)) (by rw [upd_ne ne]; exact sm _ _ hr2)
          have hL3 := sm2 Lc (.lst (iv cl)) (by rw [upd_ne hLd]; exact sm _ _ hLc)
          have hlt : r.getD i 0 < M.n := getD_lt (W.lt r (List.mem_of_getElem? hr1)) hn0
          refine ⟨rfl, _, rfl, _, rfl, _, rfl, as[j], _, i, _, rfl, rfl, sqt hr3, iv_at (by omega), Lc, _, r.getD i 0, _, rfl, rfl, sql hL3, iv_at (by rw [hcl.len]; exact hlt), ?_⟩
          refine lc_fin (n := cs.length) (by rw [iv_len, cWay, List.length_map]; exact hg.k) (by omega) hj kk2 hDj sm2 ?_
          have hj2 : j < (cWay M cl i).length := by rw [cWay, List.length_map]; have := hg.k; unfold Mch.k at this; omega
          rw [iv_get hj2]
          simp [cWay, (List.getElem?_eq_some_iff.mp hr1).2]
        · refine ⟨s8 _ _ upd_same, .inl ⟨D, _, rfl, sql (show (upd H7 d (.dK (mkv cs as))) D = some (.lst (iv (cWay M cl i))) by rw [upd_ne (fun z => by rw [z, s8 _ _ upd_same] at hD7; cases hD7)]; exact hD7), fun q hq => kk q _ upd_same ((same_unlock (sm _ _ hd) s8).trans (Same.upd hq))⟩⟩
      · rw [iv_len, List.length_range] at hasl
        have hS5 := s7 _ _ hS4
        have hLc5 := s7 _ _ hLc
        refine seq_ ?_
        refine ⟨_, rfl, S, rfl, ⟨_, sql hS5⟩, fun L2 hL2 => lc_refs (walk_list (xs := iv (List.range M.n))) hL2 (fun i H a => IsRow H (cRow M cl i) (.ref a)) (fun i a H H' t e => e.stay t) (by rw [iv_len, List.length_range]; omega) (fun _ e => sql_same e hS5) (fun i x H6 H7 Nx hi sm hLi hy kk => ?_) fun H6 asr s8 harl hL6 hasr => ?_⟩
        · obtain ⟨rfl, e⟩ := hy
          rw [iv_len] at hi
          rw [iv_get hi] at e
          cases e
          rw [List.length_range] at hi
          rw [List.getElem_range]
          have hia : i < asw.length := by omega
          refine ⟨rfl, _, rfl, _, rfl, Lc, _, i, _, rfl, rfl, sql_same sm hLc5, iv_at (by rw [hcl.len]; exact hi), _, rfl, _, rfl, L, _, i, _, rfl, rfl, sql_same sm hL5, atI_nat (by rw [List.getElem?_map, List.getElem?_eq_getElem hia]; rfl), by rw [sizeLine_eq]; show 2 ≤ _; omega, fun t ht => ?_⟩
          have hw := hasw i hia
          refine kk t _ ⟨_, _, t, asw[i], rfl, rfl, upd_same, ?_⟩ (Same.upd ht)
          rw [(Same.upd ht) _ _ (sm _ _ hw), iv_ints]
        · rw [iv_len, List.length_range] at harl
          have hrl : (cRows M cl).length = M.n := by rw [cRows, List.length_map, List.length_range]
          refine ⟨L2, _, rfl, hL6, by rw [List.length_map]; omega, .inl ⟨cRows M cl, by rw [hrl, List.length_map, harl], fun i hi => ?_, fun t Lc' H7 s9 hLc' ht' => ?_⟩⟩
          · rw [hrl] at hi
            refine ⟨.ref asr[i], by rw [List.getElem?_map, List.getElem?_eq_getElem (by omega)]; rfl, ?_⟩
            have := hasr i (by omega)
            have e : (cRows M cl)[i]'(by rw [hrl]; exact hi) = cRow M cl i := by simp [cRows]
            rw [e]
            exact this
          · rw [← nums_cnt] at ht'
            refine ⟨t, _, rfl, sqt ht', rfl, g2 ⟨⟨Lc', nums (cRows M cl), (dd cl).length, _, rfl, ((s5.trans s7).trans s8).trans s9, hLc', ci_next W hcl, .inr ⟨_, hcl.coarse, ci_step W hcl, hcl.cnt.symm⟩⟩, ?_⟩⟩
            show M.n + 1 - ((dd cl).length : Int).toNat < M.n + 1 - (la : Int).toNat
            omega
    · rw [decide_eq_false (show ¬ (((dd cl).length : Int) > (la : Int)) by omega)]
      refine iteF ⟨_, rfl, ?_⟩
      rcases hla with rfl | ⟨f, hf, st, rfl⟩
      · omega
      · rw [ci_end W hf hcl st (by omega)] at hLc
        exact k Lc _ (s4.trans s5) hLc
end
end WP

/-! ## P10 -/
set_option Elab.async false
set_option linter.all false
set_option maxRecDepth 100000
set_option maxHeartbeats 4000000
/-! least_of. -/
namespace WP
open PySem PySem.Spec PyProof.Rows L2 WR WC
section
variable {X : Cx} {o e : Expr} {to te : TE} {apos cpos : Pos}
theorem pe_indexQ (K : PySem.W.Frag) (hK : X.K = K) (ho : PE X o to) (ha : PE X e te) (hbase : attributeBase o "index" X.env (eval o X.env) = eval o X.env := by rfl)
    (hfew : ((backTo cpos (starEach [e] X.env)).all (fun x => !x.1) && (backToKw cpos (keywordEach [] X.env)).all (fun x => x.1.isSome)
      && decide (([e] : List Expr).length + ([] : List Keyword).length + (if ([] : List Keyword).isEmpty then 0 else 1) < 30)) = true := by rfl)
    (hline : (apos.endLine == cpos.line) = true := by rfl) (hs : starEach [e] X.env = (false, eval e X.env) :: starEach [] X.env := by rfl) (hplain : (backTo cpos (starEach [] X.env)).any (·.1) = false := by rfl) :
    PE X (.Call (.Attribute o "index" apos) [e] [] cpos) (tBM K "list" (rIndex K) to (tCons te tNil)) := by
  subst hK
  exact pe_bm PySem.F.plainAttrs_list PySem.F.slot_list_index PySem.F.type_list_index mt_index ho (pa_cons ha pa_nil hs) hbase hfew hline hs hplain
end
theorem walk_rg {n : Nat} : Walk (Itr 0 n) n (fun _ => True) (fun i H x H' => H' = H ∧ x = .int (i : Nat)) :=
  (walk_range (lo := 0) (n := n)).mono (fun _ h => h) fun i H x H' _ _ ⟨h1, h2⟩ => ⟨h1, by rw [h2]; show V.int (0 + (i : Int)) = V.int (i : Int); rw [Int.zero_add]⟩
/-- what a call of the class asks, at its new thing -/
theorem mkR_at2 {C : Addr} {cs : List Nat} {M : Mch} {d y x dx : Addr} {H1 : Hp} {Q : VK} {E : XK} (hg : Good cs M) (hd : MovesAt H1 d cs M.ways) (hy : H1 y = some (.tup (iv M.good))) (hx : H1 x = none) (hdx : H1 dx = none) (hne : dx ≠ x) (k : ∀ H2, Same H1 H2 → RdrAt C H2 x cs M → Q .non H2) :
    sp_m_init C (.ref x :: ([.str (txt cs), .ref d, .ref y] ++ [])) (upd (upd H1 dx (.own x)) x (.ins C dx [])) Q E := by
  have s1 : Same H1 (upd (upd H1 dx (.own x)) x (.ins C dx [])) := (Same.upd hdx).trans (Same.upd (by rw [upd_ne (Ne.symm hne)]; exact hx))
  exact ⟨cs, M, x, dx, d, y, rfl, upd_same, hg, hd.same s1, s1 _ _ hy, fun H' e r => k H' (fun b o q => e b o (ne_of_none q hx) (s1 _ _ q)) r⟩
theorem idx_at {cl : List Nat} {c : Nat} (hc : c ∈ cl) {K : PySem.W.Frag} {H : Hp} {a : Addr} (ha : SqL K H a (iv cl)) {Q : VK} (k : Q (.int (cl.idxOf c : Nat)) H) : rIndex K (.ref a) [.int (c : Int)] H Q := by
  have h1 : cl.idxOf c < cl.length := List.idxOf_lt_length_of_mem hc
  refine ⟨a, iv cl, .int (c : Int), cl.idxOf c, .int (c : Int), rfl, rfl, ha, rfl, flat_iv _, ?_, ?_, fun m z hm hz => ?_, k⟩
  · rw [iv_get h1]
    have : cl[cl.idxOf c] = c := List.getElem_idxOf h1
    rw [this]
  · show ((c : Int) == (c : Int)) = true
    simp
  · rw [iv_get (by omega)] at hz
    cases hz
    show (((cl[m]'(by omega) : Nat) : Int) == (c : Int)) = false
    have : cl[m]'(by omega) ≠ c := by
      have := List.not_of_lt_findIdx (p := (· == c)) (xs := cl) hm
      simpa using this
    rw [beq_eq_false_iff_ne]
    omega
theorem good_canon {cs : List Nat} {M : Mch} (g : Good cs M) : Good cs (canon M) := ⟨g.ltrs, canon_WF g.wf, (canon_k g.wf).trans g.k, by rw [canon_n g.wf]; exact Nat.le_trans (ls_len g.wf) g.few⟩
section
variable {P : Program} {w : World} {K : PySem.W.Frag} {mg : Str → Option Value} {C : Addr} {base : Heap}
theorem sc_least_of : FnScope ["reader", "reached", "classes", "firsts", "number", "moves", "letter", "row", "state", "yes"] ["reader"] (defScope (top 35)) := ⟨rfl, rfl, rfl, by decide +kernel, rfl, by decide +kernel, by decide +kernel⟩
def sp_least_of (C : Addr) : Sp := fun vs H Q _ => ∃ p cs M, vs = [.ref p] ∧ RdrAt C H p cs M ∧ ∀ q H', Same H H' → RdrAt C H' q cs (canon M) → Q (.ref q) H'
theorem ok_least_of (T : TX K mg C) : Ok P w K mg base 8 "least_of" (top 35) ["reader"] (sp_least_of C) := by
  obtain ⟨f, fd, D⟩ := T.f_least_of
  obtain ⟨f1, fd1, D1, G1⟩ := ok_m_init (P := P) (w := w) (base := base) T
  obtain ⟨f2, fd2, D2, G2⟩ := ok_reader_from (P := P) (w := w) (base := base) T
  obtain ⟨f3, fd3, D3, G3⟩ := ok_classes_of (P := P) (w := w) (base := base) T
  obtain ⟨f4, fd4, D4, G4⟩ := ok_says (P := P) (w := w) (base := base) T
  refine ⟨f, fd, D, D.F.ok sc_least_of (fun vs H Q E h => ?_) (fun cdv A outer s H vs Q E hr h => ?_)⟩
  · obtain ⟨p, cs, M, rfl, _⟩ := h
    rfl
  · obtain ⟨p, cs, M, rfl, hR, k⟩ := h
    refine ⟨_, (pss_cons ((ps_set (i := 1) sc_least_of.nd rfl (Or.inr rfl) ((pe_call G2 (hr.mono (by decide)) (by rfl) D2.g D2.F.kp D2.b .nil pass0 (pa_cons ((pv 0)) (pa_cons (pe_int) pa_nil))))))
      (pss_cons ((ps_set (i := 2) sc_least_of.nd rfl (Or.inr rfl) ((pe_call G3 (hr.mono (by decide)) (by rfl) D3.g D3.F.kp D3.b .nil pass0 (pa_cons ((pv 1)) pa_nil)))))
      (pss_cons ((ps_setLc (i := 3) (own := [("number", 4)]) (g := gName 4) (tt := tYes) rfl sc_least_of.nd rfl rfl (sw_true rfl rfl rfl (by decide +kernel)) (pi_range1 (by rfl) T.b_range (pa_cons (pe_op op_add (pe_callB (cr_max rfl) (by rfl) T.b_max (by decide +kernel) (pa_cons ((pv 2)) pa_nil)) pe_int) pa_nil)) (blkOk_by (N := ["reader", "reached", "classes", "firsts", "number", "moves", "letter", "row", "state", "yes"]) (sc := defScope (top 35)) (by decide +kernel)) (fun _ _ _ _ _ => pg_name (i := 4) sc_least_of.nd rfl (Or.inl rfl)) (fun _ _ _ _ _ => pts_nil) (fun _ _ _ _ _ => pe_indexQ K rfl (pv 2) (pv 4))))
      (pss_cons ((ps_set (i := 5) sc_least_of.nd rfl (Or.inl rfl) (pe_dnewK)))
      (pss_cons (ps_lock (ps_for PassesOwn.never rfl (pi_items (pe_fldR T (pv 1))) (pg_tup rfl (pgs_cons (pg_name (i := 6) sc_least_of.nd rfl (Or.inl rfl)) (pgs_cons (pg_name (i := 7) sc_least_of.nd rfl (Or.inr rfl)) pgs_nil)))
        (pss_one (ps_dput hr.u1 (pv 5) (pv 6) (pe_tupQ T (pe_lc (own := [("state", 8)]) (g := gName 8) (tt := tYes) rfl sc_least_of.nd (pi_list (pv 3)) (blkOk_by (N := ["reader", "reached", "classes", "firsts", "number", "moves", "letter", "row", "state", "yes"]) (sc := defScope (top 35)) (by decide +kernel)) (fun _ _ _ _ _ => pg_name (i := 8) sc_least_of.nd rfl (Or.inl rfl)) (fun _ _ _ _ _ => pts_nil) (fun _ _ _ _ _ => pe_ix (ix_listQ K rfl) (pv 2) (pe_ix (ix_tupQ K rfl) (pv 7) (pv 8) (fun _ _ => rfl)) (fun _ _ => rfl)))) rfl))))
      (pss_cons ((ps_setLc (i := 9) (own := [("number", 4), ("state", 8)]) (g := gTup K 2 (gCons (gName 4) (gCons (gName 8) (gNil)))) rfl sc_least_of.nd rfl rfl (sw_true rfl rfl rfl (by decide +kernel)) (pi_enum (by rfl) T.b_enumerate (pa_cons ((pv 3)) pa_nil)) (blkOk_by (N := ["reader", "reached", "classes", "firsts", "number", "moves", "letter", "row", "state", "yes"]) (sc := defScope (top 35)) (by decide +kernel)) (fun _ _ _ _ _ => pg_tup rfl (pgs_cons (pg_name (i := 4) sc_least_of.nd rfl (Or.inl rfl)) (pgs_cons (pg_name (i := 8) sc_least_of.nd rfl (Or.inl rfl)) (pgs_nil)))) (fun _ _ _ _ _ => pts_one (pt_val (pe_call G4 (hr.mono (by decide)) (by rfl) D4.g D4.F.kp D4.b .nil pass0 (pa_cons ((pv 1)) (pa_cons ((pv 8)) pa_nil))))) (fun _ _ _ _ _ => (pv 4))))
      (pss_one (ps_ret (pe_call G2 (hr.mono (by decide)) (by rfl) D2.g D2.F.kp D2.b .nil pass0 (pa_cons (pe_make (C := C) ⟨T.mkC, D1.at_, D1.fn, T.kC⟩ G1 (hr.mono (by decide)) (by rfl) T.gC D1.b .nil pass0 (pa_cons (pe_fldR T (pv 0)) (pa_cons ((pv 5)) (pa_cons (pe_tupQ T (pv 9)) pa_nil)))) (pa_cons (pe_ix (ix_listQ K rfl) (pv 2) pe_int (fun _ _ => rfl)) pa_nil))))))))))), ?_⟩
    have hg := hR.good
    have W := hg.wf
    have hpos := hg.ltrs.pos
    have hfew := hg.ltrs.few
    have hn60 := hg.few
    have hn0 := W.n0
    have o := bfs_ord W hn0
    have Wr := rel_WF W o
    refine ⟨_, rfl, p, cs, M, 0, rfl, hR, hn0, fun q H1 s1 hR1 => seq_ ?_⟩
    refine ⟨_, rfl, q, cs, _, rfl, hR1, fun Lc H2 s2 hLc => seq_ ?_⟩
    have hR2 := hR1.same s2
    have hlsn := ls_len W
    have hls0 := ls_pos W
    have hcl := cls_len (M.rel (M.bfs 0))
    have hclt := cls_lt W
    have hhas := fun {c : Nat} => cls_has W (c := c)
    have hmax := fun {m : Nat} => cls_max W (m := m)
    have hhead := cls_head W
    have hquo := quo_canon W
    have hgc := good_canon hg
    have hRn : (M.rel (M.bfs 0)).n ≤ 60 := hR1.good.few
    generalize hRe : M.rel (M.bfs 0) = R at *
    generalize hce : cls R = cl at *
    generalize hme : (ls M).length = m at *
    have s3 := s1.trans s2
    have hFl : ((List.range m).map fun c => cl.idxOf c).length = m := by rw [List.length_map, List.length_range]
    have hFlt : ∀ c, c < m → cl.idxOf c < R.n := fun c hc => by rw [← hcl]; exact List.idxOf_lt_length_of_mem (hhas hc)
    have hFget : ∀ c, c < m → ((List.range m).map fun c => cl.idxOf c).getD c 0 = cl.idxOf c := fun c hc => by
      rw [getD_of (by rw [hFl]; exact hc), List.getElem_map, List.getElem_range]
    refine ⟨_, rfl, Lc, _, rfl, by rw [← iv_ints]; exact sql hLc, by rw [List.length_map, hcl]; exact Wr.n0, fun mx hmx hle => ?_⟩
    obtain ⟨c0, hc0, rfl⟩ := List.mem_map.mp hmx
    have hc1 : c0 + 1 = m := hmax hc0 fun x hx => by
      have := hle _ (List.mem_map.mpr ⟨x, hx, rfl⟩)
      omega
    have hj : ((c0 : Int) + 1).toNat = m := by omega
    refine ⟨_, _, rfl, rfl, _, rfl, by omega, by omega, ?_⟩
    rw [hj]
    refine fun F hF => lc_map (walk_rg (n := m)) hF (iv ((List.range m).map fun c => cl.idxOf c)) (by rw [iv_len, hFl]) (by omega) (fun _ _ => True.intro) (fun i x H3 H4 Nx hi sm hLi hy kk => ?_) fun H3 s4 hF3 => ?_
    · obtain ⟨rfl, rfl⟩ := hy
      refine ⟨rfl, _, rfl, .inl ⟨rfl, _, sql_same sm hLc⟩, _, rfl, ?_⟩
      dsimp only [tNil]
      refine idx_at (hhas hi) (sql_same sm hLc) ?_
      refine lc_fin (n := m) (by rw [iv_len, hFl]) (by omega) hi kk hLi sm ?_
      rw [iv_get (by rw [hFl]; exact hi), List.getElem_map, List.getElem_range]
    generalize hfe : ((List.range m).map fun c => cl.idxOf c) = fi at *
    have hR3 := hR2.same s4
    have hLc3 := s4 _ _ hLc
    obtain ⟨dx, d, y, h1, h2, ⟨as, las, hd, ra⟩, _⟩ := hR3.row
    refine seq_ (seq_ ?_)
    intro D hD
    have hDd : D ≠ d := fun z => by rw [z, hd] at hD; cases hD
    have qd : q ≠ d := fun z => by rw [z, hd] at h1; cases h1
    refine seq_ ⟨d, .dK (mkv cs as), by rw [upd_ne (Ne.symm hDd)]; exact hd, True.intro, fun od => ?_⟩
    have b0 : Same (upd H3 d (.frz od (.dK (mkv cs as)))) (upd (upd H3 D (.dK [])) d (.frz od (.dK (mkv cs as)))) := fun b o e => by
      by_cases hb : b = d
      · rw [hb, upd_same] at e ⊢
        exact e
      · rw [upd_ne hb] at e ⊢
        rw [upd_ne (ne_of_none e hD)]
        exact e
    have hbD : (upd H3 d (.frz od (.dK (mkv cs as)))) D = none := by rw [upd_ne hDd]; exact hD
    have wk := walk_items (d := d) (o := od) (kvs := mkv cs as)
    rw [mkv_len las] at wk
    have rows : (quo R cl m).ways = R.ways.map fun r => fi.map fun s => cl.getD (r.getD s 0) 0 := by
      rw [← hfe]
      rfl
    have rlen : (quo R cl m).ways.length = cs.length := by rw [rows, List.length_map]; exact hR1.good.k
    refine ⟨_, rfl, q, dx, _, _, rfl, b0 _ _ (by rw [upd_ne qd]; exact h1), lk_moves _ _ _, d, od, _, rfl, b0 _ _ upd_same, ?_⟩
    refine for_it wk (fun i σ H' => ∃ u v : Option V, σ = [some (.ref p), some (.ref q), some (.ref Lc), some (.ref F), none, some (.ref D), u, v, none, none] ∧ Same (upd H3 d (.frz od (.dK (mkv cs as)))) H' ∧ MovesPart H' D cs (quo R cl m).ways i)
      ⟨none, none, rfl, b0, part_nil (by rw [upd_ne hDd]; exact upd_same)⟩ (fun i σ H' hi ⟨_, _, _, e, _⟩ => e _ _ upd_same) (fun i x σ H5 H6 hi hP hy => ?_) fun σ H5 hP => ?_
    · obtain ⟨u, v, rfl, s5, as', q1, q2, q3⟩ := hP
      obtain ⟨t, a, b, rfl, ht, rfl, e1, e2⟩ := hy
      dsimp only at e1 e2
      rw [mkv_get las hi] at e1 e2
      cases e1
      cases e2
      have hai : i < as.length := by omega
      obtain ⟨r, hr1, hr2⟩ := ra.get (List.getElem?_eq_getElem hai)
      have hrl := Wr.row r (List.mem_of_getElem? hr1)
      have inT : ∀ {b : Addr} {xs : List V}, H3 b = some (.tup xs) → H5 b = some (.tup xs) := fun {b xs} e => s5 _ _ (by rw [upd_ne (fun z => by rw [z, hd] at e; cases e)]; exact e)
      have inL : ∀ {b : Addr} {xs : List V}, H3 b = some (.lst xs) → H5 b = some (.lst xs) := fun {b xs} e => s5 _ _ (by rw [upd_ne (fun z => by rw [z, hd] at e; cases e)]; exact e)
      have st : Same H5 (upd H5 t (.tup [kV (Sum.inr (ltr cs[i])), .ref as[i]])) := Same.upd ht
      refine ⟨t, _, rfl, sqt upd_same, rfl, _, _, rfl, _, _, rfl, rfl, ?_⟩
      refine ⟨_, rfl, F, rfl, ⟨_, sql (st _ _ (inL hF3))⟩, fun L2 hL2 => lc_map (walk_list (xs := iv fi)) hL2 (iv (fi.map fun s => cl.getD (r.getD s 0) 0)) (by rw [iv_len, iv_len, List.length_map]) (by rw [iv_len, hFl]; omega) (fun _ e => sql_same e (st _ _ (inL hF3))) (fun j z H8 H9 Nx2 hj s8 hL8 hy2 kk2 => ?_) fun H8 s8 hL8 => ?_⟩
      · obtain ⟨rfl, e⟩ := hy2
        rw [iv_len] at hj
        rw [iv_get hj] at e
        cases e
        have s8' := st.trans s8
        have hsl : fi[j] < r.length := by
          rw [hrl]
          have := hFlt j (by omega)
          rw [← hFget j (by omega), getD_of hj] at this
          exact this
        have hlt : r.getD fi[j] 0 < cl.length := by rw [hcl]; exact getD_lt (Wr.lt r (List.mem_of_getElem? hr1)) Wr.n0
        refine ⟨rfl, _, rfl, _, rfl, _, rfl, as[i], _, fi[j], _, rfl, rfl, sqt (s8' _ _ (inT hr2)), iv_at hsl, Lc, _, r.getD fi[j] 0, _, rfl, rfl, sql (s8' _ _ (inL hLc3)), iv_at hlt, ?_⟩
        refine lc_fin (n := m) (by rw [iv_len, List.length_map, hFl]) (by omega) (by omega) kk2 hL8 s8 ?_
        rw [iv_get (by rw [List.length_map]; exact hj), List.getElem_map]
      · refine .inl ⟨L2, _, rfl, sql hL8, fun t2 ht2 => ?_⟩
        have s9 : Same H5 (upd H8 t2 (.tup (iv (fi.map fun s => cl.getD (r.getD s 0) 0)))) := (st.trans s8).trans (Same.upd ht2)
        have hD9 := s9 _ _ q2
        have ht9 : (upd H8 t2 (.tup (iv (fi.map fun s => cl.getD (r.getD s 0) 0)))) t2 = some (.tup (iv (fi.map fun s => cl.getD (r.getD s 0) 0))) := upd_same
        generalize upd H8 t2 (.tup (iv (fi.map fun s => cl.getD (r.getD s 0) 0))) = H9 at s9 hD9 ht9
        refine ⟨_, rfl, _, rfl, D, _, rfl, DPut.k (k := Sum.inr (ltr cs[i])) hD9 (by rw [mkv_len (part_len q1 (by omega)), List.length_take, sizeLine_eq]; omega), _, _, rfl, fun b o e => ?_, ?_⟩
        · rw [upd_ne (ne_of_none e hbD)]
          exact s9 _ _ (s5 _ _ e)
        · refine part_step (H := H9) hg.ltrs.nodup hi (by rw [rlen]; exact hi) q1 (q3.tups fun b xs e => s9 _ _ e) upd_same ?_ fun b xs e => by rw [upd_ne (fun z => by rw [z, hD9] at e; cases e)]; exact e
          rw [ht9]
          have : (quo R cl m).ways[i]? = some (fi.map fun s => cl.getD (r.getD s 0) 0) := by rw [rows, List.getElem?_map, hr1]; rfl
          rw [(List.getElem?_eq_some_iff.mp this).2]
    · obtain ⟨u, v, rfl, s5, pt⟩ := hP
      have hd5 : H5 d = some (.frz od (.dK (mkv cs as))) := s5 _ _ upd_same
      have s6 := same_unlock hd s5
      have hm6 : MovesAt (upd H5 d (.dK (mkv cs as))) D cs (quo R cl m).ways := by
        obtain ⟨as2, q1, q2, q3⟩ := part_all rlen pt
        exact ⟨as2, q1, by rw [upd_ne hDd]; exact q2, q3.tups fun b xs e => by rw [upd_ne (fun z => by rw [z, hd5] at e; cases e)]; exact e⟩
      refine ⟨hd5, seq_ ?_⟩
      generalize upd H5 d (.dK (mkv cs as)) = H6 at s6 hm6
      have hF6 := s6 _ _ hF3
      have hR6 := hR3.same s6
      have hLc6 := s6 _ _ hLc3
      refine ⟨_, rfl, F, _, rfl, sql hF6, fun L hL => lc_acc (walk_enum (xs := iv fi)) hL (fun i => iv ((List.range i).filter fun c => R.good.contains (cl.idxOf c))) rfl ?_ (fun _ e => sql_same e hF6) (fun i z H8 H9 hi s9 hL9 hy => ?_) ?_ ?_ ?_ fun H8 s9 hL9 => ?_⟩
      · intro i hi
        rw [iv_len, hFl] at hi
        rw [iv_len, sizeLine_eq]
        have := List.length_filter_le (fun c => R.good.contains (cl.idxOf c)) (List.range i)
        rw [List.length_range] at this
        omega
      · obtain ⟨t, a, b, rfl, ht, rfl, e1, e2⟩ := hy
        rw [iv_len] at hi
        dsimp only at e1 e2
        rw [iv_get hi] at e2
        cases e1
        cases e2
        have st : Same H8 (upd H8 t (.tup [.int (i : Nat), .int (fi[i] : Nat)])) := Same.upd ht
        have hfi : fi[i] = cl.idxOf i := by rw [← hFget i (by omega), getD_of hi]
        refine ⟨t, _, rfl, sqt upd_same, rfl, _, _, rfl, _, _, rfl, rfl, rfl, _, rfl, _, rfl, q, cs, R, _, rfl, hR6.same (s9.trans st), _, rfl, ?_⟩
        rw [List.range_succ, List.filter_append, iv_append, hfi]
        have e0 : R.ok (cl.idxOf i) = R.good.contains (cl.idxOf i) := rfl
        rw [e0]
        rw [hfi] at st
        cases hm : R.good.contains (cl.idxOf i) with
        | true =>
          refine iteT ⟨_, rfl, ?_, st _ _ hL9, s9.trans st⟩
          rw [List.filter_cons, hm]
          rfl
        | false =>
          refine iteF ⟨?_, st _ _ hL9, s9.trans st⟩
          rw [List.filter_cons, hm]
          exact List.append_nil _
      · intro σ H Q Q' m h
        obtain ⟨a1, a2, a3, a4, b1, b2, b3, b4, b5, b6, k0, hk, q⟩ := h
        exact ⟨a1, a2, a3, a4, b1, b2, b3, b4, b5, b6, k0, hk, m _ _ q⟩
      · intro σ H Q Q' m h
        obtain ⟨a1, a2, q⟩ := h
        exact ⟨a1, a2, m _ _ q⟩
      · intro v σ H Q Q' m h
        obtain ⟨a1, a2, a3, a4, a5, b1, b2, b3, b4, b5, b6, b7, q⟩ := h
        exact ⟨a1, a2, a3, a4, a5, b1, b2, b3, b4, b5, b6, b7, m _ _ q⟩
      · rw [iv_len, hFl] at hL9
        have s10 := (s3.trans s4).trans (s6.trans s9)
        obtain ⟨dx', d', y', h1', _, _, _⟩ := (hR.same s10).row
        refine ⟨_, rfl, p, dx', _, _, rfl, h1', lk_letters _ _ _, _, rfl, _, rfl, .inl ⟨L, _, rfl, sql hL9, fun t ht => ?_⟩⟩
        have s11 : Same H8 (upd H8 t (.tup (iv ((List.range m).filter fun c => R.good.contains (cl.idxOf c))))) := Same.upd ht
        have hgq : (quo R cl m).good = (List.range m).filter fun c => R.good.contains (cl.idxOf c) := rfl
        intro p2 dx2 hp2 hdx2 hne2
        refine mkR_at2 (M := canon M) hgc ?_ ?_ hp2 hdx2 hne2 fun H10 s12 r => ⟨rfl, ?_⟩
        · rw [← hquo]
          exact hm6.same (s9.trans s11)
        · rw [← hquo, hgq]
          exact upd_same
        · have hLc10 := s12 _ _ (s11 _ _ (s9 _ _ hLc6))
          refine ⟨_, rfl, Lc, _, 0, _, rfl, rfl, sql hLc10, iv_at (i := 0) (by rw [hcl]; exact Wr.n0), p2, cs, canon M, 0, ?_, r, (canon_WF W).n0, fun q' H' s r' => k q' H' ((s10.trans s11).trans (s12.trans s)) ?_⟩
          · rw [hhead]
            rfl
          · rw [canon_from W] at r'
            exact r'
end
end WP

/-! ## P11 -/
set_option Elab.async false
set_option linter.all false
set_option maxRecDepth 100000
set_option maxHeartbeats 4000000
/-! least_reader and the methods. -/
namespace WP
open PySem PySem.Spec PyProof.Rows L2 WR WC
theorem shaped_ints (ns : List Nat) : SeqAt.shaped (.tuple (dints ns)) = true := by
  have h1 := lay_ints ns
  have h2 := depth_ints ns
  unfold SeqAt.shaped
  have e1 : PyData.canLay0 (.tuple (dints ns)) = true := by
    rw [show PyData.canLay0 (.tuple (dints ns)) = PyData.canLayAll0 (dints ns) from rfl]
    exact h1
  have e2 : PyData.depth (.tuple (dints ns)) ≤ 64 := by
    simp only [PyData.depth]
    omega
  rw [e1, decide_eq_true e2]
  rfl
theorem eqv_tup (ns ms : List Nat) : PyData.eqv (.tuple (dints ns)) (.tuple (dints ms)) = decide (ns = ms) := by
  rw [← eqv_ints]
  simp [PyData.eqv]
theorem dp_tup {K : PySem.W.Frag} {H : Hp} {a : Addr} {ns : List Nat} (h : H a = some (.tup (iv ns))) : Dp K H (.ref a) (.tuple (dints ns)) := .tup (sqt h) (dp_ints ns)
/-- the other answer everywhere -/
def inv (M : Mch) : Mch := { ways := M.ways, good := (List.range M.n).filter fun s => !M.good.contains s }
theorem inv_good {cs : List Nat} {M : Mch} (g : Good cs M) : Good cs (inv M) := by
  have w := g.wf
  refine ⟨g.ltrs, ⟨w.k0, w.row, w.lt, w.n0, ?_, fun x hx => ?_⟩, g.k, g.few⟩
  · exact List.Pairwise.sublist List.filter_sublist List.pairwise_lt_range
  · exact List.mem_range.mp (List.mem_filter.mp hx).1
theorem mch_eq {M M' : Mch} : M = M' ↔ M.ways = M'.ways ∧ M.good = M'.good := by
  cases M
  cases M'
  simp
/-- a word in the letters -/
def wtx (cs : List Nat) (w : List Nat) : Str := txt (w.map fun a => cs.getD a 0)
section
variable {P : Program} {w : World} {K : PySem.W.Frag} {mg : Str → Option Value} {C : Addr} {base : Heap}
theorem sc_least_reader : FnScope ["reader"] ["reader"] (defScope (top 36)) := ⟨rfl, rfl, rfl, by decide +kernel, rfl, by decide +kernel, by decide +kernel⟩
def sp_least_reader (C : Addr) : Sp := fun vs H Q _ => ∃ p cs M, vs = [.ref p] ∧ RdrAt C H p cs M ∧ ∀ q H', Same H H' → RdrAt C H' q cs (canon M) → Q (.ref q) H'
theorem ok_least_reader (T : TX K mg C) : Ok P w K mg base 9 "least_reader" (top 36) ["reader"] (sp_least_reader C) := by
  obtain ⟨f, fd, D⟩ := T.f_least_reader
  obtain ⟨f1, fd1, D1, G1⟩ := ok_require_reader (P := P) (w := w) (base := base) T
  obtain ⟨f2, fd2, D2, G2⟩ := ok_least_of (P := P) (w := w) (base := base) T
  refine ⟨f, fd, D, D.F.ok sc_least_reader (fun vs H Q E h => ?_) (fun cdv A outer s H vs Q E hr h => ?_)⟩
  · obtain ⟨p, cs, M, rfl, _⟩ := h
    rfl
  · obtain ⟨p, cs, M, rfl, hR, k⟩ := h
    refine ⟨_, (pss_cons (ps_expr (pe_call G1 (hr.mono (by decide)) (by rfl) D1.g D1.F.kp D1.b .nil pass0 (pa_cons ((pv 0)) pa_nil)))
      (pss_one (ps_ret (pe_call G2 (hr.mono (by decide)) (by rfl) D2.g D2.F.kp D2.b .nil pass0 (pa_cons ((pv 0)) pa_nil))))), ?_⟩
    exact ⟨_, rfl, p, cs, M, rfl, hR, _, rfl, p, cs, M, rfl, hR, k⟩
theorem sc_m_eq : FnScope ["self", "other"] ["self", "other"] (defScope (meth 14)) := ⟨rfl, rfl, rfl, by decide +kernel, rfl, by decide +kernel, by decide +kernel⟩
def sp_m_eq (C : Addr) : Sp := fun vs H Q _ => ∃ p q cs M M', vs = [.ref p, .ref q] ∧ RdrAt C H p cs M ∧ RdrAt C H q cs M' ∧ Q (.bl (decide (M = M'))) H
theorem ok_m_eq (T : TX K mg C) : OkM P w K mg base C 1 "__eq__" "Reader.__eq__" (meth 14) ["self", "other"] (sp_m_eq C) := by
  obtain ⟨f, fd, D⟩ := T.m_eq
  refine ⟨f, fd, D, D.F.ok sc_m_eq (fun vs H Q E h => ?_) (fun cdv A outer s H vs Q E hr h => ?_)⟩
  · obtain ⟨p, q, cs, M, M', rfl, _⟩ := h
    rfl
  · obtain ⟨p, q, cs, M, M', rfl, hR, hR', k⟩ := h
    refine ⟨_, (pss_cons (ps_if (PW.pt (pw_or (pt_not (pt_val (pe_isR T (pv 1)))) (pw_or1 (pt_cmpR op_ne (pe_fldR T (pv 0)) (pe_fldR T (pv 1)) (nomark _))))) (pss_one ps_never) pss_nil)
      (pss_one (ps_ret (pe_and (pe_cmpR (op_eqMoves hr.u64) (pe_fldR T (pv 0)) (pe_fldR T (pv 1)) (nomark _)) (pe_one (pe_cmpR (op_eqD hr.u64) (pe_fldR T (pv 0)) (pe_fldR T (pv 1)) (nomark _))))))), ?_⟩
    obtain ⟨dx, d, y, h1, h2, h3, _⟩ := hR.row
    obtain ⟨dx', d', y', h1', h2', h3', _⟩ := hR'.row
    refine ⟨_, rfl, q, dx', _, rfl, h1', true, rfl, iteF ⟨_, rfl, p, dx, _, _, rfl, h1, lk_letters _ _ _, _, rfl, q, dx', _, _, rfl, h1', lk_letters _ _ _, rfl, _, rfl, ?_⟩⟩
    rw [decide_eq_true rfl]
    refine iteF ⟨_, rfl, p, dx, _, _, rfl, h1, lk_moves _ _ _, _, rfl, q, dx', _, _, rfl, h1', lk_moves _ _ _, d, d', cs, M.ways, M'.ways, rfl, rfl, hR.good.ltrs.nodup, h3, h3', _, rfl, ?_⟩
    by_cases hw : M.ways = M'.ways
    · rw [decide_eq_true hw]
      refine iteT ⟨_, rfl, p, dx, _, _, rfl, h1, lk_yes _ _ _, _, rfl, q, dx', _, _, rfl, h1', lk_yes _ _ _, _, _, dp_tup h2, dp_tup h2', shaped_ints _, shaped_ints _, ?_⟩
      rw [eqv_tup]
      have e : decide (M.good = M'.good) = decide (M = M') := by rw [decide_eq_decide, mch_eq]; exact ⟨fun h => ⟨hw, h⟩, fun h => h.2⟩
      rw [e]
      exact k
    · rw [decide_eq_false hw]
      refine iteF ?_
      have e : decide (M = M') = false := decide_eq_false fun z => hw (mch_eq.mp z).1
      rw [e] at k
      exact k
theorem sc_state_behind : FnScope ["reader", "state", "text", "letter"] ["reader", "state", "text"] (defScope (top 24)) := ⟨rfl, rfl, rfl, by decide +kernel, rfl, by decide +kernel, by decide +kernel⟩
def sp_state_behind (C : Addr) : Sp := fun vs H Q _ => ∃ p cs M, ∃ (s : Nat) (ws : List Nat), vs = [.ref p, .int s, .str (wtx cs ws)] ∧ RdrAt C H p cs M ∧ s < M.n ∧ (∀ a ∈ ws, a < cs.length) ∧ Q (.int (M.run s ws : Nat)) H
theorem ok_state_behind (T : TX K mg C) : Ok P w K mg base 1 "state_behind" (top 24) ["reader", "state", "text"] (sp_state_behind C) := by
  obtain ⟨f, fd, D⟩ := T.f_state_behind
  refine ⟨f, fd, D, D.F.ok sc_state_behind (fun vs H Q E h => ?_) (fun cdv A outer s H vs Q E hr h => ?_)⟩
  · obtain ⟨p, cs, M, s0, ws, rfl, _⟩ := h
    rfl
  · obtain ⟨p, cs, M, s0, ws, rfl, hR, hs, hw, k⟩ := h
    refine ⟨_, (pss_cons (ps_for PassesOwn.never rfl (pi_str (pv 2)) (pg_name (i := 3) sc_state_behind.nd rfl (Or.inl rfl)) (pss_one (ps_set (i := 1) sc_state_behind.nd rfl (Or.inl rfl) (pe_ix (ix_tupQ K rfl) (pe_dget hr.u1 (pe_fldR T (pv 0)) (pv 3) (fun _ _ => rfl)) (pv 1) (fun _ _ => rfl)))))
      (pss_one (ps_ret (pv 1)))), ?_⟩
    obtain ⟨dx, d, y, h1, h2, h3, hrow⟩ := hR.row
    have W := hR.good.wf
    refine seq_ ⟨_, rfl, _, rfl, ?_⟩
    refine for_it (walk_txt (cs := ws.map fun a => cs.getD a 0)) (fun i σ H' => ∃ v : Option V, σ = [some (.ref p), some (.int (M.run s0 (ws.take i) : Nat)), some (.str (wtx cs ws)), v] ∧ H' = H) ⟨none, rfl, rfl⟩ (fun _ _ _ _ _ => True.intro) (fun i x σ H1 H2 hi hP hy => ?_) fun σ H1 hP => ?_
    · obtain ⟨v, rfl, rfl⟩ := hP
      obtain ⟨rfl, c, hc, rfl⟩ := hy
      rw [List.length_map] at hi
      rw [List.getElem?_map, List.getElem?_eq_getElem hi] at hc
      cases hc
      have ha := hw _ (List.getElem_mem hi)
      obtain ⟨a, r, q1, q2, q3, q4⟩ := hrow _ ha
      have e : cs.getD ws[i] 0 = cs[ws[i]] := getD_of ha 0
      refine ⟨_, rfl, p, dx, _, _, rfl, h1, lk_moves _ _ _, _, rfl, d, .ref a, rfl, by rw [show (fun a => cs.getD a 0) ws[i] = cs[ws[i]] from e]; exact q1, _, rfl, a, _, M.run s0 (ws.take i), _, rfl, rfl, sqt q4, iv_at (by rw [q3]; exact run_lt W hs _), some (.str (ltr (cs.getD ws[i] 0))), ?_, rfl⟩
      rw [d_at q2, ← run_snoc]
      have e3 : ws.take (i + 1) = ws.take i ++ [ws[i]] := by rw [List.take_add_one, List.getElem?_eq_getElem hi]; rfl
      rw [e3]
      rfl
    · obtain ⟨v, rfl, rfl⟩ := hP
      rw [List.length_map, List.take_of_length_le (Nat.le_refl _)]
      exact ⟨_, rfl, k⟩
theorem sc_m_contains : FnScope ["self", "value"] ["self", "value"] (defScope (meth 12)) := ⟨rfl, rfl, rfl, by decide +kernel, rfl, by decide +kernel, by decide +kernel⟩
def sp_m_contains (C : Addr) : Sp := fun vs H Q _ => ∃ p cs M, ∃ ws : List Nat, vs = [.ref p, .str (wtx cs ws)] ∧ RdrAt C H p cs M ∧ ws.length ≤ 4000 ∧ (∀ a ∈ ws, a < cs.length) ∧ ∀ H', Same H H' → Q (.bl (M.L 0 ws)) H'
theorem ok_m_contains (T : TX K mg C) : OkM P w K mg base C 2 "__contains__" "Reader.__contains__" (meth 12) ["self", "value"] (sp_m_contains C) := by
  obtain ⟨f, fd, D⟩ := T.m_contains
  obtain ⟨f1, fd1, D1, G1⟩ := ok_is_text_within (P := P) (w := w) (base := base) T
  obtain ⟨f2, fd2, D2, G2⟩ := ok_state_behind (P := P) (w := w) (base := base) T
  refine ⟨f, fd, D, D.F.ok sc_m_contains (fun vs H Q E h => ?_) (fun cdv A outer s H vs Q E hr h => ?_)⟩
  · obtain ⟨p, cs, M, ws, rfl, _⟩ := h
    rfl
  · obtain ⟨p, cs, M, ws, rfl, hR, hl, hw, k⟩ := h
    refine ⟨_, pss_one (ps_ret (pe_and ((pe_call G1 (hr.mono (by decide)) (by rfl) D1.g D1.F.kp D1.b .nil pass0 (pa_cons (pe_fldR T (pv 0)) (pa_cons ((pv 1)) pa_nil)))) (pe_one (pe_cmpR (op_inQ K rfl) (pe_call G2 (hr.mono (by decide)) (by rfl) D2.g D2.F.kp D2.b .nil pass0 (pa_cons ((pv 0)) (pa_cons (pe_int) (pa_cons ((pv 1)) pa_nil)))) (pe_fldR T (pv 0)) rfl)))), ?_⟩
    obtain ⟨dx, d, y, h1, h2, h3, hrow⟩ := hR.row
    refine ⟨_, rfl, p, dx, _, _, rfl, h1, lk_letters _ _ _, _, rfl, cs, ws.map fun a => cs.getD a 0, rfl, by rw [List.length_map]; exact hl, fun c hc => ?_, fun H1 s1 => ⟨true, rfl, iteT ?_⟩⟩
    · obtain ⟨a, ha, rfl⟩ := List.mem_map.mp hc
      have := hw a ha
      rw [getD_of this]
      exact List.getElem_mem this
    refine ⟨_, rfl, _, rfl, p, cs, M, 0, ws, rfl, hR.same s1, hR.good.wf.n0, hw, _, rfl, p, dx, _, _, rfl, s1 _ _ h1, lk_yes _ _ _, y, _, rfl, .inr (sqt (s1 _ _ h2)), rfl, flat_iv _, ?_⟩
    show Q (.bl (inV (.int (M.run 0 ws : Nat)) (iv M.good))) H1
    rw [inV_iv]
    exact k _ s1
theorem sc_m_invert : FnScope ["self", "no", "state"] ["self"] (defScope (meth 8)) := ⟨rfl, rfl, rfl, by decide +kernel, rfl, by decide +kernel, by decide +kernel⟩
def sp_m_invert (C : Addr) : Sp := fun vs H Q _ => ∃ p cs M, vs = [.ref p] ∧ RdrAt C H p cs M ∧ ∀ q H', Same H H' → RdrAt C H' q cs (inv M) → Q (.ref q) H'
theorem ok_m_invert (T : TX K mg C) : OkM P w K mg base C 7 "__invert__" "Reader.__invert__" (meth 8) ["self"] (sp_m_invert C) := by
  obtain ⟨f, fd, D⟩ := T.m_invert
  obtain ⟨f1, fd1, D1, G1⟩ := ok_m_init (P := P) (w := w) (base := base) T
  refine ⟨f, fd, D, D.F.ok sc_m_invert (fun vs H Q E h => ?_) (fun cdv A outer s H vs Q E hr h => ?_)⟩
  · obtain ⟨p, cs, M, rfl, _⟩ := h
    rfl
  · obtain ⟨p, cs, M, rfl, hR, k⟩ := h
    obtain ⟨fl, fdl, Dl, Gl'⟩ := ok_m_len (P := P) (w := w) (base := base) T
    refine ⟨_, (pss_cons ((ps_setLc (i := 1) (own := [("state", 2)]) (g := gName 2) rfl sc_m_invert.nd rfl rfl (sw_true rfl rfl rfl (by decide +kernel)) (pi_range1 (by rfl) T.b_range (pa_cons (pe_callB (call_lenOwn (C := C) Gl' Dl.at_ Dl.fn Dl.b (hr.mono (by decide)) pass0) (by rfl) T.b_len PySem.boot_len (pa_cons (pv 0) pa_nil)) pa_nil)) (blkOk_by (N := ["self", "no", "state"]) (sc := defScope (meth 8)) (by decide +kernel)) (fun _ _ _ _ _ => pg_name (i := 2) sc_m_invert.nd rfl (Or.inl rfl)) (fun _ _ _ _ _ => pts_one (pt_cmpR (op_ninQ K rfl) (pv 2) (pe_fldR T (pv 0)) rfl)) (fun _ _ _ _ _ => (pv 2))))
      (pss_one (ps_ret (pe_make (C := C) ⟨T.mkC, D1.at_, D1.fn, T.kC⟩ G1 (hr.mono (by decide)) (by rfl) T.gC D1.b .nil pass0 (pa_cons (pe_fldR T (pv 0)) (pa_cons (pe_fldR T (pv 0)) (pa_cons (pe_tupQ T (pv 1)) pa_nil))))))), ?_⟩
    obtain ⟨dx, d, y, h1, h2, h3, hrow⟩ := hR.row
    have hn60 := hR.good.few
    refine seq_ ⟨_, rfl, p, dx, _, rfl, h1, p, cs, M, rfl, hR, _, rfl, by omega, by omega, _, rfl, by omega, by omega, fun L hL => ?_⟩
    refine lc_acc (walk_rg (n := M.n)) hL (fun i => iv ((List.range i).filter fun s => !M.good.contains s)) rfl ?_ (fun _ _ => True.intro) (fun i z H8 H9 hi s9 hL9 hy => ?_) ?_ ?_ ?_ fun H8 s9 hL9 => ?_
    · intro i hi
      rw [iv_len, sizeLine_eq]
      have := List.length_filter_le (fun s => !M.good.contains s) (List.range i)
      rw [List.length_range] at this
      omega
    · obtain ⟨rfl, rfl⟩ := hy
      refine ⟨rfl, _, rfl, _, rfl, p, dx, _, _, rfl, s9 _ _ h1, lk_yes _ _ _, y, _, rfl, .inr (sqt (s9 _ _ h2)), rfl, flat_iv _, _, rfl, ?_⟩
      dsimp only
      rw [if_pos rfl, inV_iv, List.range_succ, List.filter_append, iv_append]
      cases hm : M.good.contains i with
      | true =>
        refine iteF ⟨?_, hL9, s9⟩
        rw [List.filter_cons, hm]
        exact List.append_nil _
      | false =>
        refine iteT ⟨_, rfl, ?_, hL9, s9⟩
        rw [List.filter_cons, hm]
        rfl
    · intro σ H Q Q' m h
      obtain ⟨a1, a2, a3, a4, b1, b2, b3, b4, c1, c2, c3, d1, d2, e1, e2, e3, e4, k0, hk, q⟩ := h
      exact ⟨a1, a2, a3, a4, b1, b2, b3, b4, c1, c2, c3, d1, d2, e1, e2, e3, e4, k0, hk, m _ _ q⟩
    · intro σ H Q Q' m h
      obtain ⟨a1, a2, q⟩ := h
      exact ⟨a1, a2, m _ _ q⟩
    · intro v σ H Q Q' m h
      exact m _ _ h
    · refine ⟨_, rfl, p, dx, _, _, rfl, s9 _ _ h1, lk_letters _ _ _, _, rfl, p, dx, _, _, rfl, s9 _ _ h1, lk_moves _ _ _, _, rfl, .inl ⟨L, _, rfl, sql hL9, fun t ht => ?_⟩⟩
      have s10 : Same H8 (upd H8 t (.tup (iv ((List.range M.n).filter fun s => !M.good.contains s)))) := Same.upd ht
      exact mkR_at (M := inv M) (inv_good hR.good) (h3.same (s9.trans s10)) upd_same fun p2 H10 s11 r => k p2 H10 ((s9.trans s10).trans s11) r
end
end WP

/-! ## P12 -/
set_option Elab.async false
set_option linter.all false
set_option maxRecDepth 100000
set_option maxHeartbeats 4000000
/-! parting. -/
namespace WP
open PySem PySem.Spec PyProof.Rows L2 WR WC
def pk (p : Nat × Nat) : List Key := [Sum.inl (p.1 : Int), Sum.inl (p.2 : Int)]
theorem pk_inj {p q : Nat × Nat} (h : pk p = pk q) : p = q := by
  obtain ⟨a, b⟩ := p
  obtain ⟨c, d⟩ := q
  unfold pk at h
  injection h with h1 h2
  injection h2 with h2 _
  have h1 : (a : Int) = (c : Int) := Sum.inl.inj h1
  have h2 : (b : Int) = (d : Int) := Sum.inl.inj h2
  congr 1 <;> omega
def SeenAt (H : Hp) (k : Addr) (ks : List (Nat × Nat)) : Prop := H k = some (.dT (ks.map fun p => (pk p, V.bl true)))
theorem seen_get {H : Hp} {k b : Addr} {ks : List (Nat × Nat)} {x y : Nat} (h : SeenAt H k ks) (hb : PairAt H b x y) : ∃ o, DGet H k (.ref b) o ∧ o.isSome = decide ((x, y) ∈ ks) := by
  refine ⟨_, DGet.t (k := pk (x, y)) h hb, ?_⟩
  unfold valV
  rw [Option.isSome_map, Bool.eq_iff_iff, List.find?_isSome, decide_eq_true_iff]
  constructor
  · rintro ⟨z, hz, e⟩
    obtain ⟨p, hp, rfl⟩ := List.mem_map.mp hz
    have := pk_inj (of_decide_eq_true e)
    exact this ▸ hp
  · intro hp
    exact ⟨_, List.mem_map.mpr ⟨_, hp, rfl⟩, decide_eq_true rfl⟩
theorem seen_put {H : Hp} {k b : Addr} {ks : List (Nat × Nat)} {x y : Nat} (h : SeenAt H k ks) (hb : PairAt H b x y) (hn : (x, y) ∉ ks) (hl : ks.length < 100000) : DPut H k (.ref b) (.bl true) (upd H k (.dT ((ks ++ [(x, y)]).map fun p => (pk p, V.bl true)))) := by
  have e : putK (ks.map fun p => (pk p, V.bl true)) (pk (x, y)) (.bl true) = (ks ++ [(x, y)]).map fun p => (pk p, V.bl true) := by
    unfold putK
    rw [if_neg, List.map_append]
    · rfl
    · intro q
      obtain ⟨z, hz, e⟩ := List.any_eq_true.mp q
      obtain ⟨p, hp, rfl⟩ := List.mem_map.mp hz
      exact hn (pk_inj (of_decide_eq_true e) ▸ hp)
  rw [← e]
  exact DPut.t h hb (by rw [List.length_map, sizeLine_eq]; omega)
def ItemAt (H : Hp) (cs : List Nat) (a : Addr) (it : Itm) : Prop := ∃ t, H a = some (.tup [.ref t, .str (wtx cs it.2)]) ∧ PairAt H t it.1.1 it.1.2
theorem ItemAt.tups {H H' : Hp} {cs : List Nat} {a : Addr} {it : Itm} (e : Tups H H') : ItemAt H cs a it → ItemAt H' cs a it
  | ⟨t, h1, h2⟩ => ⟨t, e _ _ h1, e _ _ h2⟩
theorem paired_tups {α β : Type} {F G : α → β → Prop} (h : ∀ a b, F a b → G a b) : ∀ {xs : List α} {ys : List β}, Paired F xs ys → Paired G xs ys
  | _, _, .nil => .nil
  | _, _, .cons r t => .cons (h _ _ r) (paired_tups h t)
theorem paired_snoc {α β : Type} {F : α → β → Prop} {a : α} {b : β} (r : F a b) : ∀ {xs : List α} {ys : List β}, Paired F xs ys → Paired F (xs ++ [a]) (ys ++ [b])
  | _, _, .nil => .cons r .nil
  | _, _, .cons q t => .cons q (paired_snoc r t)
theorem paired_get {α β : Type} {F : α → β → Prop} : ∀ {xs : List α} {ys : List β} {i : Nat} {b : β}, Paired F xs ys → ys[i]? = some b → ∃ a, xs[i]? = some a ∧ F a b
  | _, _, i, b, .nil, h => by simp at h
  | _, _, 0, b, .cons r t, h => by
    simp at h
    subst h
    exact ⟨_, rfl, r⟩
  | _, _, i + 1, b, .cons r t, h => by
    obtain ⟨a, h1, h2⟩ := paired_get (i := i) t (by simpa using h)
    exact ⟨a, by simpa using h1, h2⟩
def LstAt (H : Hp) (l : Addr) (cs : List Nat) (q : List Itm) : Prop := ∃ as : List Addr, H l = some (.lst (as.map V.ref)) ∧ Paired (ItemAt H cs) as q
theorem LstAt.stay {H H' : Hp} {l : Addr} {cs : List Nat} {q : List Itm} (hl : ∀ xs, H l = some (.lst xs) → H' l = some (.lst xs)) (t : Tups H H') : LstAt H l cs q → LstAt H' l cs q
  | ⟨as, h1, h2⟩ => ⟨as, hl _ h1, paired_tups (fun _ _ h => h.tups t) h2⟩
/-- a new item is appended -/
theorem lst_app {H : Hp} {l a t : Addr} {cs : List Nat} {q : List Itm} {it : Itm} (h : LstAt H l cs q) (ha : H a = none) (hp : PairAt H t it.1.1 it.1.2) :
    ∃ xs, (upd H a (.tup [.ref t, .str (wtx cs it.2)])) l = some (.lst xs) ∧ xs.length = q.length ∧ LstAt (upd (upd H a (.tup [.ref t, .str (wtx cs it.2)])) l (.lst (xs ++ [.ref a]))) l cs (q ++ [it]) := by
  obtain ⟨as, h1, h2⟩ := h
  have hla : l ≠ a := ne_of_none h1 ha
  have t1 : Tups H (upd (upd H a (.tup [.ref t, .str (wtx cs it.2)])) l (.lst (as.map V.ref ++ [.ref a]))) := fun b xs e => by
    rw [upd_ne (fun z => by rw [z, h1] at e; cases e), upd_ne (ne_of_none e ha)]
    exact e
  refine ⟨as.map V.ref, by rw [upd_ne hla]; exact h1, by rw [List.length_map]; exact Paired.length h2, as ++ [a], ?_, ?_⟩
  · rw [upd_same, List.map_append]
    rfl
  · refine paired_snoc ⟨t, ?_, t1 _ _ hp⟩ (paired_tups (fun _ _ h => h.tups t1) h2)
    rw [upd_ne (Ne.symm hla)]
    exact upd_same
theorem wtx_snoc {cs w : List Nat} {i : Nat} (hi : i < cs.length) : wtx cs w ++ ltr cs[i] = wtx cs (w ++ [i]) := by
  show Str.append _ _ = _
  unfold wtx txt ltr Str.append
  simp only [List.map_append]
  congr 1
  simp [List.getD_eq_getElem?_getD, List.getElem?_eq_getElem hi]
theorem wtx_len (cs w : List Nat) : (wtx cs w).length = w.length := by
  unfold wtx
  rw [txt_length, List.length_map]
/-- a text or None -/
def optV (cs : List Nat) : Option (List Nat) → V
  | none => .non
  | some w => .str (wtx cs w)
section
variable {P : Program} {w : World} {K : PySem.W.Frag} {mg : Str → Option Value} {C : Addr} {base : Heap}
theorem sc_parting : FnScope ["one", "other", "pairs", "known", "at", "pair", "text", "letter", "later"] ["one", "other"] (defScope (top 37)) := ⟨rfl, rfl, rfl, by decide +kernel, rfl, by decide +kernel, by decide +kernel⟩
def sp_parting (C : Addr) : Sp := fun vs H Q _ => ∃ p q cs M M', vs = [.ref p, .ref q] ∧ RdrAt C H p cs M ∧ RdrAt C H q cs M' ∧ ∀ H', Same H H' → Q (optV cs (part M M')) H'
theorem ok_parting (T : TX K mg C) : Ok P w K mg base 2 "parting" (top 37) ["one", "other"] (sp_parting C) := by
  obtain ⟨f, fd, D⟩ := T.f_parting
  obtain ⟨f1, fd1, D1, G1⟩ := ok_require_reader (P := P) (w := w) (base := base) T
  obtain ⟨f2, fd2, D2, G2⟩ := ok_says (P := P) (w := w) (base := base) T
  obtain ⟨f3, fd3, D3, G3⟩ := ok_moved_pair (P := P) (w := w) (base := base) T
  refine ⟨f, fd, D, D.F.ok sc_parting (fun vs H Q E h => ?_) (fun cdv A outer s H vs Q E hr h => ?_)⟩
  · obtain ⟨p, q, cs, M, M', rfl, _⟩ := h
    rfl
  · obtain ⟨p, q, cs, M, M', rfl, hR, hR', k⟩ := h
    refine ⟨_, (pss_cons (ps_expr (pe_call G1 (hr.mono (by decide)) (by rfl) D1.g D1.F.kp D1.b .nil pass0 (pa_cons ((pv 0)) pa_nil)))
      (pss_cons (ps_expr (pe_call G1 (hr.mono (by decide)) (by rfl) D1.g D1.F.kp D1.b .nil pass0 (pa_cons ((pv 1)) pa_nil)))
      (pss_cons (ps_if (pt_cmpR op_ne (pe_fldR T (pv 0)) (pe_fldR T (pv 1)) (nomark _)) (pss_one ps_never) pss_nil)
      (pss_cons (ps_par3 (i := 2) (j := 3) (l := 4) rfl sc_parting.nd rfl rfl rfl (by decide) (by decide) (by decide) rfl rfl rfl (pa_cons (pe_lst (pa_cons (pe_tup (pa_cons (pe_tup (pa_cons (pe_int) (pa_cons (pe_int) pa_nil))) (pa_cons (pe_str) pa_nil))) pa_nil)) (pa_cons (pe_dispT hr.u1 (pe_tup (pa_cons (pe_int) (pa_cons (pe_int) pa_nil))) pe_bl) (pa_cons (pe_int) pa_nil))) (by rfl))
      (pss_cons (ps_while PassesOwn.never (pt_cmpR op_lt (pv 4) (pe_lenQ T (pv 2)) (nomark _)) (pss_cons (ps_asg (pe_ix (ix_listQ K rfl) (pv 2) (pv 4) (fun _ _ => rfl)) (pg_tup rfl (pgs_cons (pg_name (i := 5) sc_parting.nd rfl (Or.inl rfl)) (pgs_cons (pg_name (i := 6) sc_parting.nd rfl (Or.inl rfl)) pgs_nil))))
      (pss_cons (ps_if (pt_cmpR op_ne (pe_call G2 (hr.mono (by decide)) (by rfl) D2.g D2.F.kp D2.b .nil pass0 (pa_cons ((pv 0)) (pa_cons (pe_ix (ix_tupQ K rfl) (pv 5) pe_int (fun _ _ => rfl)) pa_nil))) (pe_call G2 (hr.mono (by decide)) (by rfl) D2.g D2.F.kp D2.b .nil pass0 (pa_cons ((pv 1)) (pa_cons (pe_ix (ix_tupQ K rfl) (pv 5) pe_int (fun _ _ => rfl)) pa_nil))) (nomark _)) (pss_one (ps_ret (pv 6))) pss_nil)
      (pss_cons (ps_for PassesOwn.never rfl (pi_str (pe_fldR T (pv 0))) (pg_name (i := 7) sc_parting.nd rfl (Or.inl rfl)) (pss_cons ((ps_set (i := 8) sc_parting.nd rfl (Or.inl rfl) ((pe_call G3 (hr.mono (by decide)) (by rfl) D3.g D3.F.kp D3.b .nil pass0 (pa_cons ((pv 0)) (pa_cons ((pv 1)) (pa_cons ((pv 7)) (pa_cons ((pv 5)) pa_nil))))))))
      (pss_one (ps_if (pt_cmp (pc_dnotin hr.u1 (pv 8) (pv 3))) (pss_cons (ps_dput hr.u1 (pv 3) (pv 8) pe_bl rfl)
      (pss_one (ps_expr (pe_bm PySem.F.plainAttrs_list PySem.F.slot_list_append PySem.F.type_list_append mt_append (pv 2) (pa_cons (pe_tup (pa_cons ((pv 8)) (pa_cons (pe_op op_add_str (pv 6) (pv 7)) pa_nil))) pa_nil))))) pss_nil))))
      (pss_one (ps_aug (i := 4) sc_parting.nd rfl (Or.inl rfl) pe_int ip_add))))))
      (pss_one (ps_ret pe_non))))))), ?_⟩
    have hg := hR.good
    have W := hg.wf
    have W' := hR'.good.wf
    have hkk : M.k = cs.length := hg.k
    have hfew := hg.ltrs.few
    obtain ⟨dx, d, y, h1, h2, h3, hrow⟩ := hR.row
    obtain ⟨dx', d', y', h1', h2', h3', hrow'⟩ := hR'.row
    refine ⟨_, rfl, p, cs, M, rfl, hR, _, rfl, q, cs, M', rfl, hR', _, rfl, p, dx, _, _, rfl, h1, lk_letters _ _ _, _, rfl, q, dx', _, _, rfl, h1', lk_letters _ _ _, rfl, _, rfl, ?_⟩
    rw [decide_eq_true rfl]
    have two : (2 : Nat) ≤ sizeLine := by rw [sizeLine_eq]; omega
    refine iteF (seq_ ⟨two, fun t0 ht0 => ⟨two, fun a0 ha0 => ⟨by rw [sizeLine_eq]; show 1 ≤ _; omega, fun Lp hLp => fun Kn hKn => ⟨two, fun b hb => ⟨b, pk (0, 0), rfl, upd_same, ?_, ?_⟩⟩⟩⟩⟩)
    · rw [upd_ne (fun z => by rw [← z, upd_same] at hb; cases hb)]
      exact upd_same
    have s1 : Same H (upd H t0 (.tup [.int 0, .int 0])) := Same.upd ht0
    have s2 := s1.trans (Same.upd (o := .tup [.ref t0, .str ""]) ha0)
    have hLp0 : H Lp = none := by
      cases e : H Lp with
      | none => rfl
      | some o => rw [s2 _ _ e] at hLp; cases hLp
    have s3 := s2.trans (Same.upd (o := .lst [.ref a0]) hLp)
    have hKn0 : H Kn = none := by
      cases e : H Kn with
      | none => rfl
      | some o => rw [s3 _ _ e] at hKn; cases hKn
    have s4 := s3.trans (Same.upd (o := .dT []) hKn)
    have s5 := s4.trans (Same.upd (o := .tup [.int 0, .int 0]) hb)
    have hLK : Lp ≠ Kn := fun z => by rw [← z, upd_same] at hKn; cases hKn
    have hl5 : LstAt (upd (upd (upd (upd (upd H t0 (.tup [.int 0, .int 0])) a0 (.tup [.ref t0, .str ""])) Lp (.lst [.ref a0])) Kn (.dT [])) b (.tup [.int 0, .int 0])) Lp cs (pq M M' 0) := by
      have sx := ((Same.upd (o := .lst [.ref a0]) hLp).trans (Same.upd (o := .dT []) hKn)).trans (Same.upd (o := .tup [.int 0, .int 0]) hb)
      refine ⟨[a0], ((Same.upd hKn).trans (Same.upd hb)) _ _ upd_same, .cons ⟨t0, ?_, ?_⟩ .nil⟩
      · have e : ("" : Str) = wtx cs [] := by rw [show ("" : Str) = ⟨#[]⟩ by decide +kernel]; rfl
        rw [← e]
        exact sx _ _ upd_same
      · exact sx _ _ ((Same.upd ha0) _ _ upd_same)
    generalize hH5 : (upd (upd (upd (upd (upd H t0 (.tup [.int 0, .int 0])) a0 (.tup [.ref t0, .str ""])) Lp (.lst [.ref a0])) Kn (.dT [])) b (.tup [.int 0, .int 0])) = H5 at s5 hl5
    have sK : ∀ {o : HO}, Same H (upd H5 Kn o) := fun {o} c u e => by
      rw [upd_ne (ne_of_none e hKn0)]
      exact s5 _ _ e
    have hK5 : H5 Kn = some (.dT []) := by
      rw [← hH5, upd_ne (fun z => by rw [← z, upd_same] at hb; cases hb)]
      exact upd_same
    have hl6 : LstAt (upd H5 Kn (.dT [(pk (0, 0), .bl true)])) Lp cs (pq M M' 0) := hl5.stay (fun xs e => by rw [upd_ne hLK]; exact e) fun c xs e => by rw [upd_ne (fun z => by rw [z, hK5] at e; cases e)]; exact e
    have hk6 : SeenAt (upd H5 Kn (.dT [(pk (0, 0), .bl true)])) Kn ((pq M M' 0).map (·.1)) := upd_same
    have s6 : Same H (upd H5 Kn (.dT [(pk (0, 0), .bl true)])) := sK
    generalize upd H5 Kn (.dT [(pk (0, 0), .bl true)]) = H6 at hl6 hk6 s6
    refine ⟨_, _, _, rfl, seq_ ?_⟩
    have hlen : ∀ n, (pq M M' n).length ≤ 3600 := fun n => Nat.le_trans (pq_len W W' n) (Nat.le_trans (Nat.mul_le_mul hg.few hR'.good.few) (by decide))
    refine while_by (fun σ H' => ∃ (n : Nat) (u v x y : Option V), σ = [some (.ref p), some (.ref q), some (.ref Lp), some (.ref Kn), some (.int (n : Int)), u, v, x, y] ∧ n ≤ 3600 ∧ Same H H' ∧ LstAt H' Lp cs (pq M M' n) ∧ SeenAt H' Kn ((pq M M' n).map (·.1)) ∧ ∀ j z, j < n → (pq M M' n)[j]? = some z → dif M M' z = false)
      (fun σ _ => match σ with | [_, _, _, _, some (.int n), _, _, _, _] => 3600 - n.toNat | _ => 0) ⟨0, none, none, none, none, rfl, Nat.zero_le _, s6, hl6, hk6, fun j z hj => absurd hj (Nat.not_lt_zero _)⟩ (fun σ H7 h => ?_) lt_mono
    obtain ⟨n, u, v, x1, x2, rfl, hn36, s7, hl7, hk7, hb7⟩ := h
    obtain ⟨as, hla, hpa⟩ := hl7
    have hal : as.length = (pq M M' n).length := Paired.length hpa
    refine ⟨_, rfl, _, rfl, Lp, _, rfl, .inl (sql hla), _, _, rfl, rfl, _, rfl, ?_⟩
    rw [List.length_map, hal]
    by_cases hlt : n < (pq M M' n).length
    · rw [decide_eq_true (show (n : Int) < ((pq M M' n).length : Nat) by omega)]
      have hx : (pq M M' n)[n]? = some (pq M M' n)[n] := List.getElem?_eq_getElem hlt
      have hstep : pq M M' (n + 1) = pushs (fun x : Itm => x.1) (pq M M' n) (scP M M' (pq M M' n)[n]) := bq_some hx
      have hxlt := pq_lt W W' n _ (List.getElem_mem hlt)
      have hxs := pq_short n _ (List.getElem_mem hlt)
      generalize hxe : (pq M M' n)[n] = x at hx hstep hxlt hxs
      obtain ⟨a, ha1, t, ha2, ha3⟩ := paired_get hpa hx
      refine iteT (seq_ ⟨_, rfl, _, rfl, Lp, _, n, _, rfl, rfl, sql hla, atI_nat (by rw [List.getElem?_map, ha1]; rfl), a, _, rfl, sqt ha2, rfl, g2 (seq_ ?_)⟩)
      refine ⟨_, rfl, _, rfl, t, _, 0, _, rfl, rfl, sqt ha3, at_of (j := 0) rfl rfl, p, cs, M, x.1.1, rfl, hR.same s7, _, rfl, _, rfl, t, _, 1, _, rfl, rfl, sqt ha3, at_of (j := 1) rfl rfl, q, cs, M', x.1.2, rfl, hR'.same s7, rfl, _, rfl, ?_⟩
      have hde : (!decide (V.bl (M.ok x.1.1) = V.bl (M'.ok x.1.2))) = dif M M' x := by
        unfold dif
        cases M.ok x.1.1 <;> cases M'.ok x.1.2 <;> simp
      rw [hde]
      cases hd : dif M M' x with
      | true =>
        refine iteT ⟨_, rfl, ?_⟩
        have hp := part_of W W' hx hb7 hd
        have := k H7 s7
        rw [hp] at this
        exact this
      | false =>
        refine iteF (seq_ ⟨_, rfl, p, dx, _, _, rfl, s7 _ _ h1, lk_letters _ _ _, txt cs, rfl, ?_⟩)
        have hscl : (scP M M' x).length = cs.length := by rw [← hkk]; simp [scP]
        have hsci : ∀ i (hi : i < cs.length), (scP M M' x)[i]'(by rw [hscl]; exact hi) = ((M.d i x.1.1, M'.d i x.1.2), x.2 ++ [i]) := fun i hi => by simp [scP]
        have hql : ∀ i, (pushs (fun x : Itm => x.1) (pq M M' n) ((scP M M' x).take i)).length ≤ 3600 := fun i => by
          have h1 : pushs (fun x : Itm => x.1) (pq M M' n) ((scP M M' x).take i) <+: pushs (fun x : Itm => x.1) (pq M M' n) (scP M M' x) := by
            have : pushs (fun x : Itm => x.1) (pq M M' n) (scP M M' x) = pushs (fun x : Itm => x.1) (pushs (fun x : Itm => x.1) (pq M M' n) ((scP M M' x).take i)) ((scP M M' x).drop i) := by
              rw [← pushs_append, List.take_append_drop]
            rw [this]
            exact pushs_pre _ _
          have h2 := h1.length_le
          rw [← hstep] at h2
          exact Nat.le_trans h2 (hlen _)
        refine for_it (walk_txt (cs := cs)) (fun i σ H' => ∃ v w : Option V, σ = [some (.ref p), some (.ref q), some (.ref Lp), some (.ref Kn), some (.int (n : Int)), some (.ref t), some (.str (wtx cs x.2)), v, w] ∧ Same H H' ∧ LstAt H' Lp cs (pushs (fun x : Itm => x.1) (pq M M' n) ((scP M M' x).take i)) ∧ SeenAt H' Kn ((pushs (fun x : Itm => x.1) (pq M M' n) ((scP M M' x).take i)).map (·.1)) ∧ PairAt H' t x.1.1 x.1.2)
          ⟨_, _, rfl, s7, ⟨as, hla, hpa⟩, hk7, ha3⟩ (fun _ _ _ _ _ => True.intro) (fun i z σ H8 H9 hi hP hy => ?_) fun σ H8 hP => ?_
        · obtain ⟨v, w, rfl, s8, hl8, hk8, ht8⟩ := hP
          obtain ⟨rfl, c, hc, rfl⟩ := hy
          rw [List.getElem?_eq_getElem hi] at hc
          cases hc
          have htk : (scP M M' x).take (i + 1) = (scP M M' x).take i ++ [((M.d i x.1.1, M'.d i x.1.2), x.2 ++ [i])] := by
            rw [List.take_add_one, List.getElem?_eq_getElem (by rw [hscl]; exact hi), hsci i hi]
            rfl
          have hps : pushs (fun x : Itm => x.1) (pq M M' n) ((scP M M' x).take (i + 1)) = push (fun x : Itm => x.1) (pushs (fun x : Itm => x.1) (pq M M' n) ((scP M M' x).take i)) ((M.d i x.1.1, M'.d i x.1.2), x.2 ++ [i]) := by
            rw [htk]
            exact pushs_snoc _ _ _
          have hq36 := hql i
          generalize pushs (fun x : Itm => x.1) (pq M M' n) ((scP M M' x).take i) = qq at hl8 hk8 hps hq36
          refine seq_ ⟨_, rfl, _, rfl, _, rfl, _, rfl, p, q, cs, M, M', i, t, x.1.1, x.1.2, hi, rfl, hR.same s8, hR'.same s8, ht8, hxlt.1, hxlt.2, fun b hb => ?_⟩
          have s9 := s8.trans (Same.upd (o := .tup [.int (M.d i x.1.1 : Nat), .int (M'.d i x.1.2 : Nat)]) hb)
          have hb9 : PairAt (upd H9 b (.tup [.int (M.d i x.1.1 : Nat), .int (M'.d i x.1.2 : Nat)])) b (M.d i x.1.1) (M'.d i x.1.2) := upd_same
          have t9 : Same H9 (upd H9 b (.tup [.int (M.d i x.1.1 : Nat), .int (M'.d i x.1.2 : Nat)])) := Same.upd hb
          have hl9 := hl8.stay (fun xs e => t9 _ _ e) fun c xs e => t9 _ _ e
          have hk9 : SeenAt _ Kn (qq.map (·.1)) := t9 _ _ hk8
          have ht9 : PairAt _ t x.1.1 x.1.2 := t9 _ _ ht8
          generalize upd H9 b (.tup [.int (M.d i x.1.1 : Nat), .int (M'.d i x.1.2 : Nat)]) = HA at s9 hb9 hl9 hk9 ht9
          obtain ⟨o, ho1, ho2⟩ := seen_get hk9 hb9
          refine ⟨_, rfl, _, rfl, Kn, o, rfl, ho1, _, rfl, ?_⟩
          rw [ho2]
          by_cases hm : (M.d i x.1.1, M'.d i x.1.2) ∈ qq.map (·.1)
          · rw [decide_eq_true hm]
            refine iteF ⟨_, _, rfl, s9, ?_, ?_, ht9⟩
            · rw [hps, push_old hm]
              exact hl9
            · rw [hps, push_old hm]
              exact hk9
          · rw [decide_eq_false hm]
            refine iteT (seq_ ⟨_, rfl, _, rfl, Kn, _, rfl, seen_put hk9 hb9 hm (by rw [List.length_map]; omega), ?_⟩)
            have tB : Tups HA (upd HA Kn (.dT ((qq.map (·.1) ++ [(M.d i x.1.1, M'.d i x.1.2)]).map fun p => (pk p, V.bl true)))) := fun c xs e => by rw [upd_ne (fun z => by rw [z, hk9] at e; cases e)]; exact e
            have sB : Same H (upd HA Kn (.dT ((qq.map (·.1) ++ [(M.d i x.1.1, M'.d i x.1.2)]).map fun p => (pk p, V.bl true)))) := fun c u e => by
              rw [upd_ne (ne_of_none e hKn0)]
              exact s9 _ _ e
            have hlB := hl9.stay (H' := upd HA Kn (.dT ((qq.map (·.1) ++ [(M.d i x.1.1, M'.d i x.1.2)]).map fun p => (pk p, V.bl true)))) (fun xs e => by rw [upd_ne hLK]; exact e) tB
            have hkB : SeenAt (upd HA Kn (.dT ((qq.map (·.1) ++ [(M.d i x.1.1, M'.d i x.1.2)]).map fun p => (pk p, V.bl true)))) Kn (qq.map (·.1) ++ [(M.d i x.1.1, M'.d i x.1.2)]) := upd_same
            have hbB := tB _ _ hb9
            have htB : PairAt _ t x.1.1 x.1.2 := tB _ _ ht9
            generalize upd HA Kn (.dT ((qq.map (·.1) ++ [(M.d i x.1.1, M'.d i x.1.2)]).map fun p => (pk p, V.bl true))) = HB at sB hlB hkB hbB htB
            have ⟨asB, hB1, hB2⟩ := hlB
            refine ⟨_, rfl, .inl ⟨rfl, _, sql hB1⟩, _, rfl, _, rfl, _, rfl, _, _, rfl, rfl, ?_, two, fun aN haN => ?_⟩
            · rw [wtx_len, sizeLine_eq]
              show _ + 1 ≤ _
              omega
            · dsimp only [tNil]
              rw [wtx_snoc hi]
              obtain ⟨xs, e1, e2, e3⟩ := lst_app (it := ((M.d i x.1.1, M'.d i x.1.2), x.2 ++ [i])) hlB haN hbB
              refine ⟨Lp, xs, _, rfl, rfl, e1, by rw [e2, sizeLine_eq]; omega, _, _, rfl, fun c u e => ?_, ?_, ?_, ?_⟩
              · rw [upd_ne (ne_of_none e hLp0)]
                exact (Same.upd haN) _ _ (sB _ _ e)
              · rw [hps, push_new hm]
                exact e3
              · rw [hps, push_new hm, List.map_append]
                show (upd (upd HB aN _) Lp _) Kn = _
                rw [upd_ne (Ne.symm hLK), (Same.upd haN) _ _ hkB]
                rfl
              · show (upd (upd HB aN _) Lp _) t = _
                rw [upd_ne (fun z => by rw [z] at htB; unfold PairAt at htB; rw [hB1] at htB; cases htB)]
                exact (Same.upd haN) _ _ htB
        · obtain ⟨v, w, rfl, s8, hl8, hk8, ht8⟩ := hP
          rw [List.take_of_length_le (by omega), ← hstep] at hl8 hk8
          refine ⟨_, rfl, _, _, rfl, rfl, ⟨n + 1, _, _, _, _, rfl, ?_, s8, hl8, hk8, fun j z hj hz => ?_⟩, ?_⟩
          · have := hlen n
            omega
          · have hpre : pq M M' n <+: pq M M' (n + 1) := bq_pre1 n
            obtain ⟨tt, htt⟩ := hpre
            rw [← htt, List.getElem?_append_left (by omega)] at hz
            by_cases hjn : j < n
            · exact hb7 j z hjn hz
            · have : j = n := by omega
              subst this
              rw [hx] at hz
              cases hz
              exact hd
          · have := hlen n
            show 3600 - ((n : Int) + 1).toNat < 3600 - (n : Int).toNat
            omega
    · rw [decide_eq_false (show ¬ ((n : Int) < ((pq M M' n).length : Nat)) by omega)]
      refine iteF ?_
      have hp : part M M' = none := part_none_of W W' (K := n) (by omega) fun z hz => by
        obtain ⟨j, hj, e⟩ := List.getElem_of_mem hz
        exact hb7 j z (by omega) (by rw [List.getElem?_eq_getElem hj, e])
      have := k H7 s7
      rw [hp] at this
      exact this
end
end WP

/-! ## P13 -/
set_option Elab.async false
set_option linter.all false
set_option maxRecDepth 100000
set_option maxHeartbeats 4000000
/-! The cup; picks. -/
namespace WP
open PySem PySem.Spec PyProof.Rows L2 WR WC
def CupAt (H : Hp) (c : Addr) : Prop := ∃ x0 x1 x2 : Int, H c = some (.lst [.int x0, .int x1, .int x2])
theorem CupAt.same {H H' : Hp} {c : Addr} (e : Same H H') : CupAt H c → CupAt H' c
  | ⟨a, b, d, h⟩ => ⟨a, b, d, e _ _ h⟩
theorem SameBut.trans {c : Addr} {H H1 H2 : Hp} (h : SameBut c H H1) (e : SameBut c H1 H2) : SameBut c H H2 := fun b o n q => e b o n (h b o n q)
theorem SameBut.of {c : Addr} {H H1 : Hp} (h : Same H H1) : SameBut c H H1 := fun b o _ q => h b o q
/-- what is no list stands at another place than the cup -/
theorem cup_ne {H : Hp} {c b : Addr} {o : HO} (h : CupAt H c) (hb : H b = some o) (hn : ∀ xs, o ≠ .lst xs) : b ≠ c := fun z => by
  obtain ⟨x0, x1, x2, hc⟩ := h
  rw [z, hc] at hb
  exact hn _ (Option.some.inj hb).symm
theorem SameBut.tup {H H' : Hp} {c b : Addr} {xs : List V} (h : CupAt H c) (s : SameBut c H H') (hb : H b = some (.tup xs)) : H' b = some (.tup xs) := s b _ (cup_ne h hb fun _ z => nomatch z) hb
theorem SameBut.dK {H H' : Hp} {c b : Addr} {xs : List (Key × V)} (h : CupAt H c) (s : SameBut c H H') (hb : H b = some (.dK xs)) : H' b = some (.dK xs) := s b _ (cup_ne h hb fun _ z => nomatch z) hb
theorem SameBut.moves {H H' : Hp} {c d : Addr} {cs : List Nat} {rows : List (List Nat)} (h : CupAt H c) (s : SameBut c H H') : MovesAt H d cs rows → MovesAt H' d cs rows
  | ⟨as, h1, h2, h3⟩ => ⟨as, h1, SameBut.dK h s h2, h3.tups fun b xs e => SameBut.tup h s e⟩
theorem SameBut.plain {H H' : Hp} {c p : Addr} {cs : List Nat} {M : Mch} (h : CupAt H c) (s : SameBut c H H') : PlainAt H p cs M → PlainAt H' p cs M
  | ⟨g, d, y, h1, h2, h3⟩ => ⟨g, d, y, SameBut.dK h s h1, SameBut.moves h s h2, SameBut.tup h s h3⟩
theorem mod_nat {x : Int} {m : Nat} (h : 0 < m) : ∃ r : Nat, r < m ∧ x % (m : Int) = (r : Int) := by
  have h1 := Int.emod_nonneg x (show (m : Int) ≠ 0 by omega)
  have h2 := Int.emod_lt_of_pos x (show (0 : Int) < (m : Int) by omega)
  exact ⟨(x % (m : Int)).toNat, by omega, by omega⟩
theorem mod_mid (x : Int) : -2 ^ 64 < x % 2147483179 ∧ x % 2147483179 < 2 ^ 64 := by
  have h1 := Int.emod_nonneg x (show (2147483179 : Int) ≠ 0 by decide)
  have h2 := Int.emod_lt_of_pos x (show (0 : Int) < 2147483179 by decide)
  constructor <;> omega
theorem mod_mid2 (x : Int) : -2 ^ 64 < x % 2305843009213693921 ∧ x % 2305843009213693921 < 2 ^ 64 := by
  have h1 := Int.emod_nonneg x (show (2305843009213693921 : Int) ≠ 0 by decide)
  have h2 := Int.emod_lt_of_pos x (show (0 : Int) < 2305843009213693921 by decide)
  constructor <;> omega
theorem mod_mid3 (x : Int) : -2 ^ 64 < x % 2305843009213693951 ∧ x % 2305843009213693951 < 2 ^ 64 := by
  have h1 := Int.emod_nonneg x (show (2305843009213693951 : Int) ≠ 0 by decide)
  have h2 := Int.emod_lt_of_pos x (show (0 : Int) < 2305843009213693951 by decide)
  constructor <;> omega
section
variable {P : Program} {w : World} {K : PySem.W.Frag} {mg : Str → Option Value} {C : Addr} {base : Heap}
theorem sc_law_cup : FnScope ["_law_script", "_law_at", "_law_cell", "_law_great", "_law_blend"] ["_law_script", "_law_at"] (defScope (top 43)) := ⟨rfl, rfl, rfl, by decide +kernel, rfl, by decide +kernel, by decide +kernel⟩
def sp_law_cup (K : PySem.W.Frag) : Sp := fun vs H Q _ => ∃ (l : Addr) (ns : List Int) (i : Nat), vs = [.ref l, .int i] ∧ SqL K H l (ns.map V.int) ∧ ∀ c H', Same H H' → H c = none → CupAt H' c → Q (.ref c) H'
theorem ok_law_cup (T : TX K mg C) : Ok P w K mg base 1 "_law_cup" (top 43) ["_law_script", "_law_at"] (sp_law_cup K) := by
  obtain ⟨f, fd, D⟩ := T.f_law_cup
  refine ⟨f, fd, D, D.F.ok sc_law_cup (fun vs H Q E h => ?_) (fun cdv A outer s H vs Q E hr h => ?_)⟩
  · obtain ⟨l, ns, i, rfl, _⟩ := h
    rfl
  · obtain ⟨l, ns, i, rfl, hl, k⟩ := h
    refine ⟨_, (C8.pss_cut ((ps_set (i := 2) sc_law_cup.nd rfl (Or.inl rfl) (pe_ifExp (pt_cmpR op_lt (pv 1) (pe_lenQ T (pv 0)) (nomark _)) (pe_ix (ix_listQ K rfl) (pv 0) (pv 1) (fun _ _ => rfl)) (pe_op op_add (pe_op op_mul pe_int (pv 1)) pe_int))))
      (pss_cons ((ps_set (i := 3) sc_law_cup.nd rfl (Or.inl rfl) (pe_op op_mod (pe_callTy call_int1 (by rfl) T.b_int (by decide +kernel) (pa_cons (pe_callB call_abs (by rfl) T.b_abs (by decide +kernel) (pa_cons ((pv 2)) pa_nil)) pa_nil)) (pe_op op_powW (pe_op op_pow pe_int pe_int) pe_int))))
      (pss_cons ((ps_set (i := 4) sc_law_cup.nd rfl (Or.inl rfl) (pe_op op_add (pe_op op_add (pe_op op_add (pe_op op_mul (pe_op op_mod (pe_callTy call_int1 (by rfl) T.b_int (by decide +kernel) (pa_cons ((pv 3)) pa_nil)) pe_int) pe_int) (pe_op op_mul pe_int (pv 1))) (pe_op op_mul pe_int (pe_callTy call_int1 (by rfl) T.b_int (by decide +kernel) (pa_cons (pe_cmpR op_lt (pv 2) pe_int (nomark _)) pa_nil)))) pe_int)))
      (pss_one (ps_ret (pe_lst (pa_cons (pe_callB (call_max2 rfl) (by rfl) T.b_max (by decide +kernel) (pa_cons (pe_int) (pa_cons (pe_op op_sub (pv 3) (pe_op op_pow pe_int pe_int)) pa_nil))) (pa_cons (pe_op op_mod (pe_callTy call_int1 (by rfl) T.b_int (by decide +kernel) (pa_cons ((pv 4)) pa_nil)) pe_int) (pa_cons (pe_int) pa_nil))))))))), ?_⟩
    refine ⟨fun σ' H' => ∃ x : Int, σ' = [some (.ref l), some (.int (i : Int)), some (.int x), none, none] ∧ H' = H, ⟨_, rfl, _, rfl, l, _, rfl, .inl hl, _, _, rfl, rfl, _, rfl, ?_⟩, fun σ' H' h => ?_⟩
    · rw [List.length_map]
      by_cases hi : i < ns.length
      · rw [decide_eq_true (show (i : Int) < (ns.length : Nat) by omega)]
        exact iteT ⟨_, rfl, _, rfl, l, _, i, _, rfl, rfl, hl, atI_nat (by rw [List.getElem?_map, List.getElem?_eq_getElem hi]; rfl), _, rfl, rfl⟩
      · rw [decide_eq_false (show ¬ ((i : Int) < (ns.length : Nat)) by omega)]
        exact iteF ⟨_, rfl, _, _, rfl, rfl, .inl ⟨by decide, by decide⟩, _, _, rfl, rfl, _, rfl, rfl⟩
    · obtain ⟨x, rfl, rfl⟩ := h
      refine seq_ ⟨_, rfl, _, rfl, .inl ⟨_, rfl, _, _, rfl, rfl, ⟨by decide, by decide, by decide⟩, _, _, rfl, rfl, ⟨by decide, by decide +kernel⟩, _, _, rfl, rfl, (show (0 : Int) < (10 ^ (61 : Int).toNat) ^ (11 : Int).toNat by decide +kernel), ?_⟩⟩
      refine seq_ ⟨_, rfl, .inl ⟨_, rfl, _, _, rfl, rfl, (show (0 : Int) < 2147483179 by decide), _, _, rfl, rfl, .inl (mod_mid _), _, rfl, _, _, rfl, rfl, .inl ⟨by decide, by decide⟩, _, _, rfl, rfl, _, rfl, _, _, rfl, rfl, .inr ⟨_, rfl, _, _, rfl, rfl, .inl ⟨by decide, by decide⟩, _, _, rfl, rfl, _, _, rfl, rfl, ?_⟩⟩⟩
      refine ⟨_, rfl, _, _, rfl, rfl, ⟨by decide, by decide, by decide⟩, _, _, rfl, rfl, _, _, rfl, _, rfl, .inl ⟨_, rfl, _, _, rfl, rfl, (show (0 : Int) < 2305843009213693907 by decide), by rw [sizeLine_eq]; show 3 ≤ _; omega, fun c hc => ?_⟩⟩
      exact k c _ (Same.upd hc) hc ⟨_, _, _, upd_same⟩
end
end WP

/-! ## P14 -/
set_option Elab.async false
set_option linter.all false
set_option maxRecDepth 100000
set_option maxHeartbeats 4000000
/-! A number below; picks. -/
namespace WP
open PySem PySem.Spec PyProof.Rows L2 WR WC
theorem q_mod {Q : VK} {H : Hp} {x : Int} {m : Nat} (hm : 0 < m) (k : ∀ r : Nat, r < m → Q (.int r) H) : Q (.int (x % (m : Int))) H := by
  obtain ⟨r, hr, er⟩ := mod_nat (x := x) hm
  rw [er]
  exact k r hr
/-- a comprehension that draws from the cup: Pi tells the list so far -/
theorem lc_cup {J : It} {n : Nat} {G : Hp → Prop} {Y : Nat → Hp → V → Hp → Prop} {g : TG} {tt : TT} {te : TE} {vs : List Nat} {σ : L2.St} {H1 : Hp} {D c : Addr} {Qd : Hp → Prop} (w : Walk J n G Y) (hD : H1 D = none) (hc : CupAt H1 c) (Pi : Nat → Hp → List V → Prop) (hP : ∀ i H xs H', Tups H H' → Pi i H xs → Pi i H' xs) (h0 : ∀ H, Pi 0 H [])
    (hz : ∀ i H xs, Pi i H xs → xs.length < sizeLine) (hG : ∀ H, SameBut c H1 H → G H)
    (hs : ∀ (i : Nat) (x : V) (H H' : Hp) (xs : List V) (Nx : Hp → Prop), i < n → SameBut c H1 H → CupAt H c → H D = some (.lst xs) → D ≠ c → Pi i H xs → Y i H x H' →
      (∀ y H4, SameBut c H H4 → CupAt H4 c → Pi (i + 1) H4 (xs ++ [y]) → ∃ acc, H4 D = some (.lst acc) ∧ acc.length < sizeLine ∧ Nx (upd H4 D (.lst (acc ++ [y])))) → (∀ H4, SameBut c H H4 → CupAt H4 c → Pi (i + 1) H4 xs → Nx H4) →
      g x (wipe σ vs) H' fun σ2 H2 => wipe σ2 vs = wipe σ vs ∧ tt σ2 H2 fun b H3 => if b = true then te σ2 H3 fun y H4 => ∃ acc, H4 D = some (.lst acc) ∧ acc.length < sizeLine ∧ Nx (upd H4 D (.lst (acc ++ [y]))) else Nx H3)
    (hd : ∀ H xs, SameBut c H1 H → CupAt H c → H D = some (.lst xs) → Pi n H xs → Qd H) :
    ∃ W : Nat → Nat → Hp → Prop, (∃ m, W 0 m (upd H1 D (.lst []))) ∧ ∀ i m H, W i m H →
      (J.stop i H ∧ Qd H) ∨ (J.go i H ∧ ∃ Nx : Hp → Prop, (∀ H', Nx H' → ∃ m', m' < m ∧ W (i + 1) m' H') ∧ ∀ x H', J.yld i H x H' → g x (wipe σ vs) H' fun σ2 H2 => wipe σ2 vs = wipe σ vs ∧ tt σ2 H2 fun b H3 =>
        if b = true then te σ2 H3 fun y H4 => ∃ acc, H4 D = some (.lst acc) ∧ acc.length < sizeLine ∧ Nx (upd H4 D (.lst (acc ++ [y]))) else Nx H3) := by
  have Dc : D ≠ c := fun z => by
    obtain ⟨a, b, d, e⟩ := hc
    rw [z, e] at hD
    cases hD
  have put : ∀ {H : Hp} (o : HO), SameBut c H1 H → SameBut c H1 (upd H D o) := fun {H} o h b u n e => by
    rw [upd_ne (ne_of_none e hD)]
    exact h b u n e
  have cput : ∀ {H : Hp} (o : HO), CupAt H c → CupAt (upd H D o) c := fun {H} o h => by
    obtain ⟨a, b, d, e⟩ := h
    exact ⟨a, b, d, by rw [upd_ne (Ne.symm Dc)]; exact e⟩
  refine lc_it w (fun i H => ∃ xs, H D = some (.lst xs) ∧ Pi i H xs ∧ SameBut c H1 H ∧ CupAt H c) ⟨[], upd_same, h0 _, put _ SameBut.refl, cput _ hc⟩ (fun i H _ ⟨_, _, _, h, _⟩ => hG H h) (fun i x H H' hi h hy => ?_) fun H ⟨xs, h1, h2, h3, h4⟩ => hd H xs h3 h4 h1 h2
  obtain ⟨xs, h1, p2, h3, h4⟩ := h
  have key := hs i x H H' xs (fun H' => ∃ xs, H' D = some (.lst xs) ∧ Pi (i + 1) H' xs ∧ SameBut c H1 H' ∧ CupAt H' c) hi h3 h4 h1 Dc p2 hy (fun y H4 s5 c5 p5 => by
    have hD4 := s5 _ _ Dc h1
    refine ⟨xs, hD4, hz i _ _ p2, xs ++ [y], upd_same, hP _ _ _ _ (fun b ys e => ?_) p5, put _ (SameBut.trans h3 s5), cput _ c5⟩
    rw [upd_ne (fun z => by rw [z, hD4] at e; cases e)]
    exact e) fun H4 s5 c5 p5 => ⟨xs, s5 _ _ Dc h1, p5, SameBut.trans h3 s5, c5⟩
  exact key
section
variable {P : Program} {w : World} {K : PySem.W.Frag} {mg : Str → Option Value} {C : Addr} {base : Heap}
theorem sc_law_bit : FnScope ["_law_cup_here", "_law_much", "_law_found", "_law_first", "_law_later"] ["_law_cup_here", "_law_much"] (defScope (top 44)) := ⟨rfl, rfl, rfl, by decide +kernel, rfl, by decide +kernel, by decide +kernel⟩
def sp_law_bit : Sp := fun vs H Q _ => ∃ (c : Addr) (m : Nat), vs = [.ref c, .int m] ∧ 0 < m ∧ m ≤ 1000 ∧ CupAt H c ∧ ∀ (r : Nat) H', r < m → SameBut c H H' → CupAt H' c → Q (.int r) H'
theorem ok_law_bit (T : TX K mg C) : Ok P w K mg base 1 "_law_bit" (top 44) ["_law_cup_here", "_law_much"] sp_law_bit := by
  obtain ⟨f, fd, D⟩ := T.f_law_bit
  refine ⟨f, fd, D, D.F.ok sc_law_bit (fun vs H Q E h => ?_) (fun cdv A outer s H vs Q E hr h => ?_)⟩
  · obtain ⟨c, m, rfl, _⟩ := h
    rfl
  · obtain ⟨c, m, rfl, hm0, hm, ⟨x0, x1, x2, hc⟩, k⟩ := h
    refine ⟨_, (pss_cons (ps_if (pt_cmpR op_gt (pe_ix (ix_listQ K rfl) (pv 0) pe_int (fun _ _ => rfl)) pe_int (nomark _)) (pss_cons ((ps_set (i := 2) sc_law_bit.nd rfl (Or.inl rfl) (pe_op op_mod (pe_callTy call_int1 (by rfl) T.b_int (by decide +kernel) (pa_cons (pe_ix (ix_listQ K rfl) (pv 0) pe_int (fun _ _ => rfl)) pa_nil)) (pv 1))))
      (pss_cons (ps_asg (pe_op op_fdivN (pe_ix (ix_listQ K rfl) (pv 0) pe_int (fun _ _ => rfl)) (pv 1)) (pg_sub (pv 0) pe_int L2.set_list))
      (pss_one (ps_ret (pv 2))))) pss_nil)
      (pss_cons (ps_asg (pe_op op_add (pe_ix (ix_listQ K rfl) (pv 0) pe_int (fun _ _ => rfl)) pe_int) (pg_sub (pv 0) pe_int L2.set_list))
      (pss_cons ((ps_set (i := 3) sc_law_bit.nd rfl (Or.inl rfl) (pe_op op_mod (pe_callTy call_int1 (by rfl) T.b_int (by decide +kernel) (pa_cons (pe_op op_add (pe_ix (ix_listQ K rfl) (pv 0) pe_int (fun _ _ => rfl)) (pe_op op_mul pe_int (pe_ix (ix_listQ K rfl) (pv 0) pe_int (fun _ _ => rfl)))) pa_nil)) pe_int)))
      (pss_cons ((ps_set (i := 4) sc_law_bit.nd rfl (Or.inl rfl) (pe_op op_add (pe_op op_mul (pe_op op_mod (pe_callTy call_int1 (by rfl) T.b_int (by decide +kernel) (pa_cons (pe_op op_mul (pv 3) (pv 3)) pa_nil)) pe_int) (pv 3)) (pe_op op_mul pe_int (pe_ix (ix_listQ K rfl) (pv 0) pe_int (fun _ _ => rfl))))))
      (pss_one (ps_ret (pe_op op_mod (pe_callTy call_int1 (by rfl) T.b_int (by decide +kernel) (pa_cons (pe_op op_fdivN (pe_op op_mod (pe_callTy call_int1 (by rfl) T.b_int (by decide +kernel) (pa_cons ((pv 4)) pa_nil)) pe_int) pe_int) pa_nil)) (pv 1)))))))), ?_⟩
    have at0 : atI [V.int x0, .int x1, .int x2] 0 = some (.int x0) := at_of (j := 0) rfl rfl
    have at2 : atI [V.int x0, .int x1, .int x2] 2 = some (.int x2) := at_of (j := 2) rfl rfl
    have sm : ∀ {y0 y1 y2 : Int}, SameBut c H (upd H c (.lst [.int y0, .int y1, .int y2])) := SameBut.upd SameBut.refl
    refine ⟨_, rfl, c, _, 0, _, rfl, rfl, sql hc, at0, _, _, rfl, rfl, _, rfl, ?_⟩
    cases decide (x0 > 0) with
    | true =>
      refine iteT (seq_ ⟨_, rfl, c, _, 0, _, rfl, rfl, sql hc, at0, .inl ⟨_, rfl, _, rfl, _, _, rfl, rfl, show (0 : Int) < (m : Int) by omega, seq_ ?_⟩⟩)
      refine ⟨_, rfl, c, _, 0, _, rfl, rfl, sql hc, at0, _, rfl, _, _, rfl, rfl, ⟨show (m : Int) ≠ 0 by omega, show (m : Int).natAbs < 1073741824 by omega⟩, _, rfl, c, _, 0, 0, rfl, rfl, hc, rfl, ?_⟩
      obtain ⟨r, hr, er⟩ := mod_nat (x := x0) hm0
      refine ⟨_, rfl, ?_⟩
      show Q (.int (x0 % (m : Int))) _
      rw [er]
      exact k r _ hr sm ⟨_, _, _, upd_same⟩
    | false =>
      refine iteF (seq_ ⟨_, rfl, c, _, 2, _, rfl, rfl, sql hc, at2, _, _, rfl, rfl, _, rfl, c, _, 2, 2, rfl, rfl, hc, rfl, ?_⟩)
      have hc1 : (upd H c (.lst [.int x0, .int x1, .int (x2 + 1)])) c = some (.lst [.int x0, .int x1, .int (x2 + 1)]) := upd_same
      have s1 : SameBut c H (upd H c (.lst [.int x0, .int x1, .int (x2 + 1)])) := sm
      show (tSeq _ _) _ _ (upd H c (.lst [.int x0, .int x1, .int (x2 + 1)]))
      generalize upd H c (.lst [.int x0, .int x1, .int (x2 + 1)]) = H1 at hc1 s1
      have at1 : atI [V.int x0, .int x1, .int (x2 + 1)] 1 = some (.int x1) := at_of (j := 1) rfl rfl
      have at2 : atI [V.int x0, .int x1, .int (x2 + 1)] 2 = some (.int (x2 + 1)) := at_of (j := 2) rfl rfl
      refine seq_ ⟨_, rfl, c, _, 1, _, rfl, rfl, sql hc1, at1, _, rfl, c, _, 2, _, rfl, rfl, sql hc1, at2, _, _, rfl, rfl, .inl ⟨by decide, by decide⟩, _, _, rfl, rfl, .inl ⟨_, rfl, _, _, rfl, rfl, (show (0 : Int) < 2305843009213693951 by decide), seq_ ?_⟩⟩
      refine ⟨_, rfl, _, rfl, _, _, rfl, rfl, .inl (mod_mid3 _), .inl ⟨_, rfl, _, _, rfl, rfl, (show (0 : Int) < 2305843009213693921 by decide), _, rfl, _, _, rfl, rfl, .inl (mod_mid2 _), _, rfl, c, _, 2, _, rfl, rfl, sql hc1, at2, _, _, rfl, rfl, .inl ⟨by decide, by decide⟩, _, _, rfl, rfl, ?_⟩⟩
      refine ⟨_, rfl, .inl ⟨_, rfl, _, _, rfl, rfl, (show (0 : Int) < 2305843009213693907 by decide), _, _, rfl, rfl, ⟨by decide, by decide⟩, .inl ⟨_, rfl, _, rfl, _, _, rfl, rfl, show (0 : Int) < (m : Int) by omega, ?_⟩⟩⟩
      exact q_mod hm0 fun r hr => k r _ hr s1 ⟨_, _, _, hc1⟩
end
end WP

/-! ## P15 -/
set_option Elab.async false
set_option linter.all false
set_option maxRecDepth 100000
set_option maxHeartbeats 4000000
/-! Picks, deals. -/
namespace WP
open PySem PySem.Spec PyProof.Rows L2 WR WC
section
variable {X : Cx} {o e : Expr} {to te : TE} {apos cpos : Pos}
theorem pe_popAtQ (K : PySem.W.Frag) (hK : X.K = K) (ho : PE X o to) (ha : PE X e te) (hbase : attributeBase o "pop" X.env (eval o X.env) = eval o X.env := by rfl)
    (hfew : ((backTo cpos (starEach [e] X.env)).all (fun x => !x.1) && (backToKw cpos (keywordEach [] X.env)).all (fun x => x.1.isSome)
      && decide (([e] : List Expr).length + ([] : List Keyword).length + (if ([] : List Keyword).isEmpty then 0 else 1) < 30)) = true := by rfl)
    (hline : (apos.endLine == cpos.line) = true := by rfl) (hs : starEach [e] X.env = (false, eval e X.env) :: starEach [] X.env := by rfl) (hplain : (backTo cpos (starEach [] X.env)).any (·.1) = false := by rfl) :
    PE X (.Call (.Attribute o "pop" apos) [e] [] cpos) (tBM K "list" rPopAt to (tCons te tNil)) := by
  subst hK
  exact pe_bm PySem.F.plainAttrs_list PySem.F.slot_list_pop PySem.F.type_list_pop mt_popAt ho (pa_cons ha pa_nil hs) hbase hfew hline hs hplain
end
theorem iv_erase : ∀ (ns : List Nat) (r : Nat), (iv ns).eraseIdx r = iv (ns.eraseIdx r)
  | [], _ => rfl
  | _ :: _, 0 => rfl
  | n :: ns, r + 1 => by
    show V.int (n : Int) :: (iv ns).eraseIdx r = V.int (n : Int) :: iv (ns.eraseIdx r)
    rw [iv_erase ns r]
theorem seq_nat {r n : Nat} (h : r < n) : seqIndex? (r : Int) n = some r := by
  unfold seqIndex?
  have h1 : ¬ (r : Int) < 0 := by omega
  have h2 : (0 : Int) ≤ (r : Int) := by omega
  have h3 : (r : Int) < (n : Int) := by omega
  simp [h1, h2, h3]
section
variable {P : Program} {w : World} {K : PySem.W.Frag} {mg : Str → Option Value} {C : Addr} {base : Heap}
theorem sc_law_pick : FnScope ["_law_cup_here", "_law_items"] ["_law_cup_here", "_law_items"] (defScope (top 45)) := ⟨rfl, rfl, rfl, by decide +kernel, rfl, by decide +kernel, by decide +kernel⟩
def sp_law_pick : Sp := fun vs H Q _ => ∃ (c l : Addr) (ys : List V), vs = [.ref c, .ref l] ∧ l ≠ c ∧ H l = some (.lst ys) ∧ 0 < ys.length ∧ ys.length ≤ 1000 ∧ CupAt H c ∧ ∀ y H', y ∈ ys → SameBut c H H' → CupAt H' c → Q y H'
theorem ok_law_pick (T : TX K mg C) : Ok P w K mg base 2 "_law_pick" (top 45) ["_law_cup_here", "_law_items"] sp_law_pick := by
  obtain ⟨f, fd, D⟩ := T.f_law_pick
  obtain ⟨f1, fd1, D1, G1⟩ := ok_law_bit (P := P) (w := w) (base := base) T
  refine ⟨f, fd, D, D.F.ok sc_law_pick (fun vs H Q E h => ?_) (fun cdv A outer s H vs Q E hr h => ?_)⟩
  · obtain ⟨c, l, ys, rfl, _⟩ := h
    rfl
  · obtain ⟨c, l, ys, rfl, hne, hl, h0, h1, hc, k⟩ := h
    refine ⟨_, pss_one (ps_ret (pe_ix (ix_listQ K rfl) (pv 1) (pe_call G1 (hr.mono (by decide)) (by rfl) D1.g D1.F.kp D1.b .nil pass0 (pa_cons ((pv 0)) (pa_cons (pe_lenQ T (pv 1)) pa_nil))) (fun _ _ => rfl))), ?_⟩
    exact ⟨_, rfl, _, rfl, _, rfl, l, _, rfl, .inl (sql hl), c, ys.length, rfl, h0, h1, hc, fun r H' hr sb hc' => ⟨l, ys, r, ys[r], rfl, rfl, sql (sb _ _ hne hl), atI_nat (List.getElem?_eq_getElem hr), k _ _ (List.getElem_mem hr) sb hc'⟩⟩
theorem sc_law_signs : FnScope ["_law_cup_here"] ["_law_cup_here"] (defScope (top 47)) := ⟨rfl, rfl, rfl, by decide +kernel, rfl, by decide +kernel, by decide +kernel⟩
def sp_law_signs : Sp := fun vs H Q _ => ∃ (c : Addr), vs = [.ref c] ∧ CupAt H c ∧ ∀ cs H', Ltrs cs → SameBut c H H' → CupAt H' c → Q (.str (txt cs)) H'
theorem ok_law_signs (T : TX K mg C) : Ok P w K mg base 3 "_law_signs" (top 47) ["_law_cup_here"] sp_law_signs := by
  obtain ⟨f, fd, D⟩ := T.f_law_signs
  obtain ⟨f1, fd1, D1, G1⟩ := ok_law_pick (P := P) (w := w) (base := base) T
  refine ⟨f, fd, D, D.F.ok sc_law_signs (fun vs H Q E h => ?_) (fun cdv A outer s H vs Q E hr h => ?_)⟩
  · obtain ⟨c, rfl, _⟩ := h
    rfl
  · obtain ⟨c, rfl, hc, k⟩ := h
    refine ⟨_, pss_one (ps_ret (pe_call G1 (hr.mono (by decide)) (by rfl) D1.g D1.F.kp D1.b .nil pass0 (pa_cons ((pv 0)) (pa_cons (pe_lst (pa_cons (pe_str) (pa_cons (pe_str) (pa_cons (pe_str) (pa_cons (pe_str) (pa_cons (pe_str) (pa_cons (pe_str) pa_nil))))))) pa_nil)))), ?_⟩
    refine ⟨_, rfl, by rw [sizeLine_eq]; show 6 ≤ _; omega, fun l hl => ?_⟩
    have hlc : l ≠ c := fun z => by
      obtain ⟨a, b, d, e⟩ := hc
      rw [z, e] at hl
      cases hl
    refine ⟨c, l, _, rfl, hlc, upd_same, by decide, by decide, hc.same (Same.upd hl), fun y H' hy sb hc' => ?_⟩
    have s1 : SameBut c H H' := fun b o n e => sb b o n ((Same.upd hl) _ _ e)
    have e1 : ("ab" : Str) = txt [97, 98] := by decide +kernel
    have e2 : ("xy" : Str) = txt [120, 121] := by decide +kernel
    have e3 : ("a" : Str) = txt [97] := by decide +kernel
    have e4 : ("abc" : Str) = txt [97, 98, 99] := by decide +kernel
    have g1 : Ltrs [97, 98] := ⟨by decide, by decide, by decide, by decide⟩
    have g2 : Ltrs [120, 121] := ⟨by decide, by decide, by decide, by decide⟩
    have g3 : Ltrs [97] := ⟨by decide, by decide, by decide, by decide⟩
    have g4 : Ltrs [97, 98, 99] := ⟨by decide, by decide, by decide, by decide⟩
    have hy : y = .str "ab" ∨ y = .str "xy" ∨ y = .str "a" ∨ y = .str "abc" := by
      simp only [List.mem_cons, List.not_mem_nil, or_false] at hy
      rcases hy with h | h | h | h | h | h
      · exact .inl h
      · exact .inl h
      · exact .inl h
      · exact .inr (.inl h)
      · exact .inr (.inr (.inl h))
      · exact .inr (.inr (.inr h))
    rcases hy with rfl | rfl | rfl | rfl
    · rw [e1]; exact k _ _ g1 s1 hc'
    · rw [e2]; exact k _ _ g2 s1 hc'
    · rw [e3]; exact k _ _ g3 s1 hc'
    · rw [e4]; exact k _ _ g4 s1 hc'
theorem sc_law_dealt : FnScope ["_law_cup_here", "_law_items", "_law_waits", "_law_turn"] ["_law_cup_here", "_law_items"] (defScope (top 46)) := ⟨rfl, rfl, rfl, by decide +kernel, rfl, by decide +kernel, by decide +kernel⟩
def sp_law_dealt : Sp := fun vs H Q _ => ∃ (c l : Addr) (ns : List Nat) (m : Nat), vs = [.ref c, .ref l] ∧ l ≠ c ∧ H l = some (.lst (iv ns)) ∧ ns.length ≤ 1000 ∧ (∀ x ∈ ns, x < m) ∧ CupAt H c ∧ ∀ L ns' H', ns'.length = ns.length → (∀ x ∈ ns', x < m) → H' L = some (.lst (iv ns')) → SameBut c H H' → CupAt H' c → Q (.ref L) H'
theorem ok_law_dealt (T : TX K mg C) : Ok P w K mg base 2 "_law_dealt" (top 46) ["_law_cup_here", "_law_items"] sp_law_dealt := by
  obtain ⟨f, fd, D⟩ := T.f_law_dealt
  obtain ⟨f1, fd1, D1, G1⟩ := ok_law_bit (P := P) (w := w) (base := base) T
  refine ⟨f, fd, D, D.F.ok sc_law_dealt (fun vs H Q E h => ?_) (fun cdv A outer s H vs Q E hr h => ?_)⟩
  · obtain ⟨c, l, ns, m, rfl, _⟩ := h
    rfl
  · obtain ⟨c, l, ns, m, rfl, hne, hl, h1, hm, hc, k⟩ := h
    refine ⟨_, (pss_cons ((ps_set (i := 2) sc_law_dealt.nd rfl (Or.inr rfl) (pe_callTy call_list_of (by rfl) T.b_list (by decide +kernel) (pa_cons ((pv 1)) pa_nil))))
      (pss_one (ps_ret (pe_lc (own := [("_law_turn", 3)]) (g := gName 3) (tt := tYes) rfl sc_law_dealt.nd (pi_range1 (by rfl) T.b_range (pa_cons (pe_lenQ T (pv 1)) pa_nil)) (blkOk_by (N := ["_law_cup_here", "_law_items", "_law_waits", "_law_turn"]) (sc := defScope (top 46)) (by decide +kernel)) (fun _ _ _ _ _ => pg_name (i := 3) sc_law_dealt.nd rfl (Or.inl rfl)) (fun _ _ _ _ _ => pts_nil) (fun _ _ _ _ _ => pe_popAtQ K rfl (pv 2) (pe_call G1 (hr.mono (by decide)) (by rfl) D1.g D1.F.kp D1.b .nil pass0 (pa_cons ((pv 0)) (pa_cons (pe_lenQ T (pv 2)) pa_nil)))))))), ?_⟩
    refine seq_ ⟨_, rfl, l, _, rfl, .inl (sql hl), fun W hW => ?_⟩
    have s1 : Same H (upd H W (.lst (iv ns))) := Same.upd hW
    have hW1 : (upd H W (.lst (iv ns))) W = some (.lst (iv ns)) := upd_same
    have Wc : W ≠ c := fun z => by
      obtain ⟨a, b, d, e⟩ := hc
      rw [z, e] at hW
      cases hW
    have hc1 := hc.same s1
    have hl1 := s1 _ _ hl
    generalize upd H W (.lst (iv ns)) = H1 at s1 hW1 hc1 hl1
    refine ⟨_, rfl, l, _, rfl, .inl (sql hl1), _, rfl, by rw [iv_len]; omega, by rw [iv_len]; omega, fun D hD => ?_⟩
    have Dc : D ≠ c := fun z => by
      obtain ⟨a, b, d, e⟩ := hc1
      rw [z, e] at hD
      cases hD
    have DW : D ≠ W := fun z => by
      rw [z, hW1] at hD
      cases hD
    refine lc_it (tt := tYes) (walk_rg (n := (((iv ns).length : Nat) : Int).toNat)) (fun i H' => ∃ ms rem : List Nat, H' D = some (.lst (iv ms)) ∧ ms.length = i ∧ (∀ x ∈ ms, x < m) ∧ H' W = some (.lst (iv rem)) ∧ rem.length + i = ns.length ∧ (∀ x ∈ rem, x < m) ∧ CupAt H' c ∧ SameBut c H H')
      ⟨[], ns, upd_same, rfl, by simp, by rw [upd_ne (Ne.symm DW)]; exact hW1, rfl, hm, hc1.same (Same.upd hD), SameBut.of (s1.trans (Same.upd hD))⟩ (fun _ _ _ _ => True.intro) (fun i x H2 H3 hi hP hy => ?_) fun H2 hP => ?_
    · obtain ⟨ms, rem, hD2, hml, hmm, hW2, hrl, hrm, hc2, s2⟩ := hP
      obtain ⟨rfl, rfl⟩ := hy
      rw [iv_len] at hi
      have hr0 : 0 < rem.length := by omega
      refine ⟨rfl, _, rfl, .inl ⟨rfl, _, sql hW2⟩, _, rfl, _, rfl, W, _, rfl, .inl (sql hW2), c, rem.length, by rw [iv_len]; rfl, hr0, by omega, hc2, fun r H4 hr sb hc4 => ?_⟩
      have hW4 := sb _ _ Wc hW2
      have hD4 := sb _ _ Dc hD2
      dsimp only [tNil]
      refine ⟨W, iv rem, (r : Int), r, _, rfl, rfl, hW4, by omega, by omega, by rw [iv_len]; exact seq_nat hr, iv_get hr, iv ms, by rw [upd_ne DW]; exact hD4, by rw [iv_len, sizeLine_eq]; omega, ms ++ [rem[r]], rem.eraseIdx r, ?_, ?_, ?_, ?_, ?_, ?_, ?_, ?_⟩
      · rw [upd_same, iv_append]
        rfl
      · rw [List.length_append, hml]
        rfl
      · intro x hx
        rcases List.mem_append.mp hx with h | h
        · exact hmm x h
        · rw [List.mem_singleton.mp h]
          exact hrm _ (List.getElem_mem hr)
      · rw [upd_ne (Ne.symm DW), upd_same, iv_erase]
      · rw [List.length_eraseIdx_of_lt hr]
        omega
      · exact fun x hx => hrm x (List.mem_of_mem_eraseIdx hx)
      · obtain ⟨a, b, d, e⟩ := hc4
        exact ⟨a, b, d, by rw [upd_ne (Ne.symm Dc), upd_ne (Ne.symm Wc)]; exact e⟩
      · intro b o n e
        have hb1 := s1 _ _ e
        rw [upd_ne (ne_of_none hb1 hD), upd_ne (ne_of_none e hW)]
        exact sb _ _ n (s2 _ _ n e)
    · obtain ⟨ms, rem, hD2, hml, hmm, hW2, hrl, hrm, hc2, s2⟩ := hP
      rw [iv_len] at hml
      exact k D ms H2 (by omega) hmm hD2 s2 hc2
end
end WP

/-! ## P16 -/
set_option Elab.async false
set_option linter.all false
set_option maxRecDepth 100000
set_option maxHeartbeats 4000000
/-! Ways drawn from the cup. -/
namespace WP
open PySem PySem.Spec PyProof.Rows L2 WR WC
def arg0 : Expr → Expr
  | .Call _ (e :: _) _ _ => e
  | e => e
/-- the first i pairs of a list of pairs: the letter, a tuple of m below m -/
def PairsAt (H : Hp) (cs : List Nat) (m i : Nat) (xs : List V) : Prop := ∃ (ts as : List Addr) (rows : List (List Nat)), xs = ts.map V.ref ∧ ts.length = i ∧ as.length = i ∧ Paired (fun t kv => H t = some (.tup [kV kv.1, kv.2])) ts (mkv (cs.take i) as) ∧ RowsAt H as rows ∧ ∀ r ∈ rows, r.length = m ∧ ∀ x ∈ r, x < m
theorem pairs_tups {H H' : Hp} {cs : List Nat} {m i : Nat} {xs : List V} (e : Tups H H') : PairsAt H cs m i xs → PairsAt H' cs m i xs
  | ⟨ts, as, rows, h1, h2, h3, h4, h5, h6⟩ => ⟨ts, as, rows, h1, h2, h3, paired_tups (fun _ _ q => e _ _ q) h4, h5.tups e, h6⟩
theorem pairs_nil {H : Hp} {cs : List Nat} {m : Nat} : PairsAt H cs m 0 [] := ⟨[], [], [], rfl, rfl, rfl, .nil, .nil, fun r h => by simp at h⟩
theorem pairs_snoc {H : Hp} {cs : List Nat} {m i : Nat} {xs : List V} {t a : Addr} {r : List Nat} (hi : i < cs.length) (h : PairsAt H cs m i xs) (ht : H t = some (.tup [.str (ltr cs[i]), .ref a])) (ha : H a = some (.tup (iv r))) (hr : r.length = m) (hx : ∀ x ∈ r, x < m) : PairsAt H cs m (i + 1) (xs ++ [.ref t]) := by
  obtain ⟨ts, as, rows, rfl, h2, h3, h4, h5, h6⟩ := h
  refine ⟨ts ++ [t], as ++ [a], rows ++ [r], by rw [List.map_append]; rfl, by rw [List.length_append, h2]; rfl, by rw [List.length_append, h3]; rfl, ?_, rows_snoc h5 ha, fun r' hr' => ?_⟩
  · have e : cs.take (i + 1) = cs.take i ++ [cs[i]] := by rw [List.take_add_one, List.getElem?_eq_getElem hi]; rfl
    rw [e, mkv_snoc (part_len h3 (Nat.le_of_lt hi))]
    exact paired_snoc (F := fun t kv => H t = some (.tup [kV kv.1, kv.2])) (b := (Sum.inr (ltr cs[i]), V.ref a)) ht h4
  · rcases List.mem_append.mp hr' with q | q
    · exact h6 r' q
    · rw [List.mem_singleton.mp q]
      exact ⟨hr, hx⟩
theorem pairs_small {H : Hp} {cs : List Nat} {m i : Nat} {xs : List V} (hl : Ltrs cs) (h : PairsAt H cs m i xs) : xs.length < sizeLine := by
  obtain ⟨ts, as, rows, rfl, h2, h3, h4, h5, h6⟩ := h
  have e := Paired.length h4
  have := hl.few
  unfold mkv at e
  rw [List.length_map, List.length_zip, List.length_take] at e
  rw [List.length_map, sizeLine_eq]
  omega
/-- what is promised of ways -/
def GoWays (c : Addr) (cs : List Nat) (m : Nat) (H : Hp) (Q : VK) : Prop := ∀ d rows H', RowsOk cs rows m → MovesAt H' d cs rows → SameBut c H H' → CupAt H' c → Q (.ref d) H'
/-- dict(pairs) -/
theorem dictP_at {K : PySem.W.Frag} {c L : Addr} {cs : List Nat} {m : Nat} {xs : List V} {H0 H : Hp} {Q : VK} (hl : Ltrs cs) (h1 : 1 ≤ m) (hm : m ≤ 60) (k : GoWays c cs m H0 Q) (s : SameBut c H0 H) (hc : CupAt H c) (hL : H L = some (.lst xs)) (hp : PairsAt H cs m cs.length xs) :
    ∃ (a : Addr) (ps : List Addr) (kvs : List (Key × V)), [V.ref L] = [.ref a] ∧ SqL K H a (ps.map V.ref) ∧ Paired (fun p kv => SqT K H p [kV kv.1, kv.2]) ps kvs ∧ ∀ p, H p = none → Q (.ref p) (upd H p (.dK (mergeK [] kvs))) := by
  obtain ⟨ts, as, rows, rfl, h2, h3, h4, h5, h6⟩ := hp
  rw [List.take_of_length_le (Nat.le_refl _)] at h4
  refine ⟨L, ts, mkv cs as, rfl, sql hL, paired_tups (fun _ _ q => sqt q) h4, fun p hp => ?_⟩
  rw [merge_mkv hl.nodup h3]
  have sp : Same H (upd H p (.dK (mkv cs as))) := Same.upd hp
  refine k p rows _ ⟨h5.len ▸ h3, h1, hm, fun r hr => (h6 r hr).1, fun r hr => (h6 r hr).2⟩ ⟨as, h3, upd_same, h5.same sp⟩ (SameBut.same s sp) (hc.same sp)
section
variable {P : Program} {w : World} {K : PySem.W.Frag} {mg : Str → Option Value} {C : Addr} {base : Heap}
theorem sc_law_some_of : FnScope ["_law_cup_here", "_law_many", "_law_at"] ["_law_cup_here", "_law_many"] (defScope (top 48)) := ⟨rfl, rfl, rfl, by decide +kernel, rfl, by decide +kernel, by decide +kernel⟩
def sp_law_some_of : Sp := fun vs H Q _ => ∃ (c : Addr) (m : Nat), vs = [.ref c, .int m] ∧ m ≤ 1000 ∧ CupAt H c ∧ ∀ y ns H', ns.Pairwise (· < ·) → (∀ x ∈ ns, x < m) → H' y = some (.tup (iv ns)) → SameBut c H H' → CupAt H' c → Q (.ref y) H'
theorem ok_law_some_of (T : TX K mg C) : Ok P w K mg base 2 "_law_some_of" (top 48) ["_law_cup_here", "_law_many"] sp_law_some_of := by
  obtain ⟨f, fd, D⟩ := T.f_law_some_of
  obtain ⟨f1, fd1, D1, G1⟩ := ok_law_bit (P := P) (w := w) (base := base) T
  refine ⟨f, fd, D, D.F.ok sc_law_some_of (fun vs H Q E h => ?_) (fun cdv A outer s H vs Q E hr h => ?_)⟩
  · obtain ⟨c, m, rfl, _⟩ := h
    rfl
  · obtain ⟨c, m, rfl, hm, hc, k⟩ := h
    refine ⟨_, pss_one (ps_ret (pe_tupQ T (pe_lc (own := [("_law_at", 2)]) (g := gName 2) rfl sc_law_some_of.nd (pi_range1 (by rfl) T.b_range (pa_cons ((pv 1)) pa_nil)) (blkOk_by (N := ["_law_cup_here", "_law_many", "_law_at"]) (sc := defScope (top 48)) (by decide +kernel)) (fun _ _ _ _ _ => pg_name (i := 2) sc_law_some_of.nd rfl (Or.inl rfl)) (fun _ _ _ _ _ => pts_one (pt_cmpR op_eq (pe_call G1 (hr.mono (by decide)) (by rfl) D1.g D1.F.kp D1.b .nil pass0 (pa_cons ((pv 0)) (pa_cons (pe_int) pa_nil))) pe_int (nomark _))) (fun _ _ _ _ _ => (pv 2))))), ?_⟩
    refine ⟨_, rfl, _, rfl, by omega, by omega, fun D hD => ?_⟩
    refine lc_cup (walk_rg (n := ((m : Nat) : Int).toNat)) hD hc (fun i _ xs => ∃ ns : List Nat, xs = iv ns ∧ ns.Pairwise (· < ·) ∧ (∀ x ∈ ns, x < i) ∧ i ≤ m + 1 ∧ ns.length ≤ i) (fun _ _ _ _ _ h => h) (fun _ => ⟨[], rfl, .nil, by simp, by omega, Nat.le_refl _⟩) (fun i H xs ⟨ns, e, _, _, h1, h2⟩ => by rw [e, iv_len, sizeLine_eq]; omega) (fun _ _ => True.intro) (fun i x H1 H2 xs Nx hi sb hc1 hD1 Dc hP hy k1 k0 => ?_) fun H1 xs sb hc1 hD1 hP => ?_
    · obtain ⟨rfl, rfl⟩ := hy
      obtain ⟨ns, rfl, h1, h2, h3, h4⟩ := hP
      refine ⟨rfl, _, rfl, c, 2, rfl, by decide, by decide, hc1, fun r H3 hr s3 c3 => ⟨rfl, _, rfl, ?_⟩⟩
      cases hb : decide (V.int (r : Nat) = V.int 0) with
      | true =>
        refine iteT ⟨_, rfl, k1 _ _ s3 c3 ⟨ns ++ [i], by rw [iv_append]; rfl, ?_, fun x hx => ?_, by omega, by rw [List.length_append]; show _ + 1 ≤ _; omega⟩⟩
        · rw [List.pairwise_append]
          exact ⟨h1, List.pairwise_singleton _ _, fun a ha b hb => by rw [List.mem_singleton.mp hb]; exact h2 a ha⟩
        · rcases List.mem_append.mp hx with q | q
          · have := h2 x q
            omega
          · rw [List.mem_singleton.mp q]
            omega
      | false => exact iteF (k0 _ s3 c3 ⟨ns, rfl, h1, fun x hx => by have := h2 x hx; omega, by omega, by omega⟩)
    · obtain ⟨ns, rfl, h1, h2, _, _⟩ := hP
      have hm2 : ((m : Nat) : Int).toNat = m := by omega
      rw [hm2] at h2
      refine .inl ⟨D, _, rfl, sql hD1, fun y hy => ?_⟩
      exact k y ns _ h1 h2 upd_same (SameBut.same sb (Same.upd hy)) (hc1.same (Same.upd hy))
theorem sc_law_any_ways : FnScope ["_law_cup_here", "_law_signs_here", "_law_many", "_law_sign", "_law_at"] ["_law_cup_here", "_law_signs_here", "_law_many"] (defScope (top 49)) := ⟨rfl, rfl, rfl, by decide +kernel, rfl, by decide +kernel, by decide +kernel⟩
def sp_law_any_ways : Sp := fun vs H Q _ => ∃ (c : Addr) (cs : List Nat) (m : Nat), vs = [.ref c, .str (txt cs), .int m] ∧ Ltrs cs ∧ 1 ≤ m ∧ m ≤ 60 ∧ CupAt H c ∧ GoWays c cs m H Q
theorem ok_law_any_ways (T : TX K mg C) : Ok P w K mg base 2 "_law_any_ways" (top 49) ["_law_cup_here", "_law_signs_here", "_law_many"] sp_law_any_ways := by
  obtain ⟨f, fd, D⟩ := T.f_law_any_ways
  obtain ⟨f1, fd1, D1, G1⟩ := ok_law_bit (P := P) (w := w) (base := base) T
  refine ⟨f, fd, D, D.F.ok sc_law_any_ways (fun vs H Q E h => ?_) (fun cdv A outer s H vs Q E hr h => ?_)⟩
  · obtain ⟨c, cs, m, rfl, _⟩ := h
    rfl
  · obtain ⟨c, cs, m, rfl, hl, h1, hm, hc, k⟩ := h
    have hfew := hl.few
    refine ⟨_, pss_one (ps_ret (pe_callTy (call_dictP rfl) (by rfl) T.b_dict (by decide +kernel) (pa_cons ((pe_lc (own := [("_law_sign", 3)]) (g := gName 3) (tt := tYes) rfl sc_law_any_ways.nd (pi_str (pv 1)) (blkOk_by (N := ["_law_cup_here", "_law_signs_here", "_law_many", "_law_sign", "_law_at"]) (sc := defScope (top 49)) (by decide +kernel)) (fun _ _ _ _ _ => pg_name (i := 3) sc_law_any_ways.nd rfl (Or.inl rfl)) (fun _ _ _ _ _ => pts_nil) (fun _ _ _ _ _ => pe_tup (pa_cons ((pv 3)) (pa_cons (pe_tupQ T (pe_lc (own := [("_law_at", 4)]) (g := gName 4) (tt := tYes) rfl sc_law_any_ways.nd (pi_range1 (by rfl) T.b_range (pa_cons ((pv 2)) pa_nil)) (blkOk_re (N := ["_law_cup_here", "_law_signs_here", "_law_many", "_law_sign", "_law_at"]) (S := cScope (arg0 (stExpr (top 49) 0))) rfl rfl (by decide +kernel)) (fun _ _ _ _ _ => pg_name (i := 4) sc_law_any_ways.nd rfl (Or.inl rfl)) (fun _ _ _ _ _ => pts_nil) (fun _ _ _ _ _ => (pe_call G1 (hr.mono (by decide)) (by rfl) D1.g D1.F.kp D1.b .nil pass0 (pa_cons ((pv 0)) (pa_cons ((pv 2)) pa_nil)))))) pa_nil))))) pa_nil))), ?_⟩
    refine ⟨_, rfl, _, rfl, fun D hD => ?_⟩
    refine lc_cup (walk_txt (cs := cs)) hD hc (fun i H xs => PairsAt H cs m i xs) (fun _ _ _ _ t h => pairs_tups t h) (fun _ => pairs_nil) (fun i H xs h => pairs_small hl h) (fun _ _ => True.intro) (fun i x H1 H2 xs Nx hi sb hc1 hD1 Dc hP hy k1 k0 => ?_) fun H1 xs sb hc1 hD1 hP => dictP_at hl h1 hm k sb hc1 hD1 hP
    obtain ⟨rfl, c0, hc0, rfl⟩ := hy
    rw [List.getElem?_eq_getElem hi] at hc0
    cases hc0
    refine ⟨rfl, _, rfl, _, rfl, _, rfl, by omega, by omega, fun D2 hD2 => ?_⟩
    refine lc_cup (walk_rg (n := ((m : Nat) : Int).toNat)) hD2 hc1 (fun i _ xs => ∃ ns : List Nat, xs = iv ns ∧ ns.length = i ∧ (∀ x ∈ ns, x < m) ∧ i ≤ m + 1) (fun _ _ _ _ _ h => h) (fun _ => ⟨[], rfl, rfl, by simp, by omega⟩) (fun i H xs ⟨ns, e, h1, _, h2⟩ => by rw [e, iv_len, sizeLine_eq]; omega) (fun _ _ => True.intro) (fun j x H3 H4 xs2 Nx2 hj sb2 hc2 hD3 Dc2 hP2 hy2 k3 k2 => ?_) fun H3 xs2 sb2 hc2 hD3 hP2 => ?_
    · obtain ⟨rfl, rfl⟩ := hy2
      obtain ⟨ns, rfl, e1, e2, e3⟩ := hP2
      refine ⟨rfl, _, rfl, _, rfl, c, m, rfl, h1, by omega, hc2, fun r H5 hr s5 c5 => k3 _ _ s5 c5 ⟨ns ++ [r], by rw [iv_append]; rfl, by rw [List.length_append, e1]; rfl, fun x hx => ?_, by omega⟩⟩
      rcases List.mem_append.mp hx with q | q
      · exact e2 x q
      · rw [List.mem_singleton.mp q]
        exact hr
    · obtain ⟨ns, rfl, e1, e2, e3⟩ := hP2
      refine .inl ⟨D2, _, rfl, sql hD3, fun a ha => ⟨by rw [sizeLine_eq]; show 2 ≤ _; omega, fun t ht => ?_⟩⟩
      have s6 : Same H3 (upd (upd H3 a (.tup (iv ns))) t (.tup [.str (ltr cs[i]), .ref a])) := (Same.upd ha).trans (Same.upd ht)
      have t6 : Tups H2 (upd (upd H3 a (.tup (iv ns))) t (.tup [.str (ltr cs[i]), .ref a])) := fun b xs e => s6 _ _ (SameBut.tup hc1 sb2 e)
      exact k1 _ _ (SameBut.same sb2 s6) (hc2.same s6) (pairs_snoc hi (pairs_tups t6 hP) upd_same ((Same.upd ht) _ _ upd_same) (by omega) e2)
theorem sc_law_turning_ways : FnScope ["_law_cup_here", "_law_signs_here", "_law_many", "_law_sign"] ["_law_cup_here", "_law_signs_here", "_law_many"] (defScope (top 50)) := ⟨rfl, rfl, rfl, by decide +kernel, rfl, by decide +kernel, by decide +kernel⟩
def sp_law_turning_ways : Sp := fun vs H Q _ => ∃ (c : Addr) (cs : List Nat) (m : Nat), vs = [.ref c, .str (txt cs), .int m] ∧ Ltrs cs ∧ 1 ≤ m ∧ m ≤ 60 ∧ CupAt H c ∧ GoWays c cs m H Q
theorem ok_law_turning_ways (T : TX K mg C) : Ok P w K mg base 3 "_law_turning_ways" (top 50) ["_law_cup_here", "_law_signs_here", "_law_many"] sp_law_turning_ways := by
  obtain ⟨f, fd, D⟩ := T.f_law_turning_ways
  obtain ⟨f1, fd1, D1, G1⟩ := ok_law_dealt (P := P) (w := w) (base := base) T
  refine ⟨f, fd, D, D.F.ok sc_law_turning_ways (fun vs H Q E h => ?_) (fun cdv A outer s H vs Q E hr h => ?_)⟩
  · obtain ⟨c, cs, m, rfl, _⟩ := h
    rfl
  · obtain ⟨c, cs, m, rfl, hl, h1, hm, hc, k⟩ := h
    have hfew := hl.few
    refine ⟨_, pss_one (ps_ret (pe_callTy (call_dictP rfl) (by rfl) T.b_dict (by decide +kernel) (pa_cons ((pe_lc (own := [("_law_sign", 3)]) (g := gName 3) (tt := tYes) rfl sc_law_turning_ways.nd (pi_str (pv 1)) (blkOk_by (N := ["_law_cup_here", "_law_signs_here", "_law_many", "_law_sign"]) (sc := defScope (top 50)) (by decide +kernel)) (fun _ _ _ _ _ => pg_name (i := 3) sc_law_turning_ways.nd rfl (Or.inl rfl)) (fun _ _ _ _ _ => pts_nil) (fun _ _ _ _ _ => pe_tup (pa_cons ((pv 3)) (pa_cons (pe_tupQ T (pe_call G1 (hr.mono (by decide)) (by rfl) D1.g D1.F.kp D1.b .nil pass0 (pa_cons ((pv 0)) (pa_cons (pe_listRg rfl (by rfl) T.b_list (prg_1 (by rfl) T.b_range (pv 2))) pa_nil)))) pa_nil))))) pa_nil))), ?_⟩
    refine ⟨_, rfl, _, rfl, fun D hD => ?_⟩
    refine lc_cup (walk_txt (cs := cs)) hD hc (fun i H xs => PairsAt H cs m i xs) (fun _ _ _ _ t h => pairs_tups t h) (fun _ => pairs_nil) (fun i H xs h => pairs_small hl h) (fun _ _ => True.intro) (fun i x H1 H2 xs Nx hi sb hc1 hD1 Dc hP hy k1 k0 => ?_) fun H1 xs sb hc1 hD1 hP => dictP_at hl h1 hm k sb hc1 hD1 hP
    obtain ⟨rfl, c0, hc0, rfl⟩ := hy
    rw [List.getElem?_eq_getElem hi] at hc0
    cases hc0
    refine ⟨rfl, _, rfl, _, rfl, _, rfl, _, rfl, RgOk.of_le (by omega) (by omega) (by omega) (by omega), fun q hq => ?_⟩
    rw [rgV_iv]
    have sq : Same H2 (upd H2 q (.lst (iv (List.range m)))) := Same.upd hq
    have qc : q ≠ c := fun z => by
      obtain ⟨a, b, d, e⟩ := hc1
      rw [z, e] at hq
      cases hq
    refine ⟨c, q, List.range m, m, rfl, qc, upd_same, by rw [List.length_range]; omega, fun x hx => List.mem_range.mp hx, hc1.same sq, fun L ns' H3 e1 e2 hL s3 c3 => ?_⟩
    refine .inl ⟨L, _, rfl, sql hL, fun a ha => ⟨by rw [sizeLine_eq]; show 2 ≤ _; omega, fun t ht => ?_⟩⟩
    have s6 : Same H3 (upd (upd H3 a (.tup (iv ns'))) t (.tup [.str (ltr cs[i]), .ref a])) := (Same.upd ha).trans (Same.upd ht)
    have s7 : SameBut c H2 H3 := fun b o n e => s3 b o n (sq _ _ e)
    have t6 : Tups H2 (upd (upd H3 a (.tup (iv ns'))) t (.tup [.str (ltr cs[i]), .ref a])) := fun b xs e => s6 _ _ (SameBut.tup hc1 s7 e)
    exact k1 _ _ (SameBut.same s7 s6) (c3.same s6) (pairs_snoc hi (pairs_tups t6 hP) upd_same ((Same.upd ht) _ _ upd_same) (by rw [e1, List.length_range]) e2)
end
end WP

/-! ## P17 -/
set_option Elab.async false
set_option linter.all false
set_option maxRecDepth 100000
set_option maxHeartbeats 4000000
/-! Rings and pairs of rings. -/
namespace WP
open PySem PySem.Spec PyProof.Rows L2 WR WC
def WaysPart (H : Hp) (D : Addr) (cs : List Nat) (m i : Nat) : Prop := ∃ (as : List Addr) (rows : List (List Nat)), as.length = i ∧ H D = some (.dK (mkv (cs.take i) as)) ∧ RowsAt H as rows ∧ ∀ r ∈ rows, r.length = m ∧ ∀ x ∈ r, x < m
theorem WaysPart.stay {H H' : Hp} {D : Addr} {cs : List Nat} {m i : Nat} (hd : ∀ kvs, H D = some (.dK kvs) → H' D = some (.dK kvs)) (t : Tups H H') : WaysPart H D cs m i → WaysPart H' D cs m i
  | ⟨as, rows, h1, h2, h3, h4⟩ => ⟨as, rows, h1, hd _ h2, h3.tups t, h4⟩
theorem ways_put {H : Hp} {D t : Addr} {cs : List Nat} {m i : Nat} {r : List Nat} (hl : Ltrs cs) (hi : i < cs.length) (h : WaysPart H D cs m i) (ht : H t = some (.tup (iv r))) (hr : r.length = m) (hx : ∀ x ∈ r, x < m) :
    ∃ H', DPut H D (.str (ltr cs[i])) (.ref t) H' ∧ WaysPart H' D cs m (i + 1) ∧ ∀ b, b ≠ D → H' b = H b := by
  obtain ⟨as, rows, h1, h2, h3, h4⟩ := h
  have hfew := hl.few
  refine ⟨_, DPut.k (k := Sum.inr (ltr cs[i])) h2 (by rw [mkv_len (part_len h1 (Nat.le_of_lt hi)), List.length_take, sizeLine_eq]; omega), ?_, fun b hb => upd_ne hb⟩
  have tp : Tups H (upd H D (.dK (putK (mkv (cs.take i) as) (Sum.inr (ltr cs[i])) (.ref t)))) := fun b xs e => by rw [upd_ne (fun z => by rw [z, h2] at e; cases e)]; exact e
  refine ⟨as ++ [t], rows ++ [r], by rw [List.length_append, h1]; rfl, by rw [upd_same, part_put hl.nodup hi h1], rows_snoc (h3.tups tp) (tp _ _ ht), fun r' hr' => ?_⟩
  rcases List.mem_append.mp hr' with q | q
  · exact h4 r' q
  · rw [List.mem_singleton.mp q]
    exact ⟨hr, hx⟩
theorem ways_all {H : Hp} {D : Addr} {cs : List Nat} {m : Nat} (h : WaysPart H D cs m cs.length) (h1 : 1 ≤ m) (hm : m ≤ 60) : ∃ rows, RowsOk cs rows m ∧ MovesAt H D cs rows := by
  obtain ⟨as, rows, e1, e2, e3, e4⟩ := h
  rw [List.take_of_length_le (Nat.le_refl _)] at e2
  exact ⟨rows, ⟨e3.len ▸ e1, h1, hm, fun r hr => (e4 r hr).1, fun r hr => (e4 r hr).2⟩, as, e1, e2, e3⟩
section
variable {P : Program} {w : World} {K : PySem.W.Frag} {mg : Str → Option Value} {C : Addr} {base : Heap}
theorem sc_law_ring_ways : FnScope ["_law_cup_here", "_law_signs_here", "_law_many", "_law_found", "_law_sign", "_law_step", "_law_at"] ["_law_cup_here", "_law_signs_here", "_law_many"] (defScope (top 51)) := ⟨rfl, rfl, rfl, by decide +kernel, rfl, by decide +kernel, by decide +kernel⟩
def sp_law_ring_ways : Sp := fun vs H Q _ => ∃ (c : Addr) (cs : List Nat) (m : Nat), vs = [.ref c, .str (txt cs), .int m] ∧ Ltrs cs ∧ 1 ≤ m ∧ m ≤ 60 ∧ CupAt H c ∧ GoWays c cs m H Q
theorem ok_law_ring_ways (T : TX K mg C) : Ok P w K mg base 2 "_law_ring_ways" (top 51) ["_law_cup_here", "_law_signs_here", "_law_many"] sp_law_ring_ways := by
  obtain ⟨f, fd, D⟩ := T.f_law_ring_ways
  obtain ⟨f1, fd1, D1, G1⟩ := ok_law_bit (P := P) (w := w) (base := base) T
  refine ⟨f, fd, D, D.F.ok sc_law_ring_ways (fun vs H Q E h => ?_) (fun cdv A outer s H vs Q E hr h => ?_)⟩
  · obtain ⟨c, cs, m, rfl, _⟩ := h
    rfl
  · obtain ⟨c, cs, m, rfl, hl, h1, hm, hc, k⟩ := h
    have hfew := hl.few
    refine ⟨_, (pss_cons ((ps_set (i := 3) sc_law_ring_ways.nd rfl (Or.inl rfl) (pe_dnewK)))
      (pss_cons (ps_for PassesOwn.never rfl (pi_str (pv 1)) (pg_name (i := 4) sc_law_ring_ways.nd rfl (Or.inl rfl)) (pss_cons ((ps_set (i := 5) sc_law_ring_ways.nd rfl (Or.inr rfl) ((pe_call G1 (hr.mono (by decide)) (by rfl) D1.g D1.F.kp D1.b .nil pass0 (pa_cons ((pv 0)) (pa_cons ((pv 2)) pa_nil))))))
      (pss_one (ps_dput hr.u1 (pv 3) (pv 4) (pe_tupQ T (pe_lc (own := [("_law_at", 6)]) (g := gName 6) (tt := tYes) rfl sc_law_ring_ways.nd (pi_range1 (by rfl) T.b_range (pa_cons ((pv 2)) pa_nil)) (blkOk_by (N := ["_law_cup_here", "_law_signs_here", "_law_many", "_law_found", "_law_sign", "_law_step", "_law_at"]) (sc := defScope (top 51)) (by decide +kernel)) (fun _ _ _ _ _ => pg_name (i := 6) sc_law_ring_ways.nd rfl (Or.inl rfl)) (fun _ _ _ _ _ => pts_nil) (fun _ _ _ _ _ => pe_op op_mod (pe_callTy call_int1 (by rfl) T.b_int (by decide +kernel) (pa_cons (pe_op op_add (pv 6) (pv 5)) pa_nil)) (pv 2)))) rfl))))
      (pss_one (ps_ret (pv 3))))), ?_⟩
    refine seq_ fun D hD => seq_ ⟨_, rfl, _, rfl, ?_⟩
    have Dc : D ≠ c := fun z => by
      obtain ⟨a, b, d, e⟩ := hc
      rw [z, e] at hD
      cases hD
    refine for_it (walk_txt (cs := cs)) (fun i σ H' => ∃ u v : Option V, σ = [some (.ref c), some (.str (txt cs)), some (.int (m : Int)), some (.ref D), u, v, none] ∧ SameBut c H H' ∧ CupAt H' c ∧ WaysPart H' D cs m i)
      ⟨none, none, rfl, SameBut.of (Same.upd hD), hc.same (Same.upd hD), [], [], rfl, upd_same, .nil, by simp⟩ (fun _ _ _ _ _ => True.intro) (fun i x σ H1 H2 hi hP hy => ?_) fun σ H1 hP => ?_
    · obtain ⟨u, v, rfl, s1, c1, wp⟩ := hP
      obtain ⟨rfl, c0, hc0, rfl⟩ := hy
      rw [List.getElem?_eq_getElem hi] at hc0
      cases hc0
      refine seq_ ⟨_, rfl, _, rfl, c, m, rfl, by omega, by omega, c1, fun st H3 hst s3 c3 => ?_⟩
      refine ⟨_, rfl, m, rfl, by omega, by omega, ?_⟩
      have hm2 : ((m : Nat) : Int).toNat = m := by omega
      rw [hm2]
      refine fun L hL => lc_map (walk_rg (n := m)) hL (iv ((List.range m).map fun j => (j + st) % m)) (by rw [iv_len, List.length_map, List.length_range]) (by omega) (fun _ _ => True.intro) (fun j x H4 H5 Nx hj s4 hL4 hy kk => ?_) fun H4 s4 hL4 => ?_
      · obtain ⟨rfl, rfl⟩ := hy
        refine ⟨rfl, _, rfl, _, rfl, _, _, rfl, rfl, .inl ⟨_, rfl, _, rfl, _, _, rfl, rfl, show (0 : Int) < (m : Int) by omega, ?_⟩⟩
        refine lc_fin (n := m) (by rw [iv_len, List.length_map, List.length_range]) (by omega) hj kk hL4 s4 ?_
        rw [iv_get (by rw [List.length_map, List.length_range]; exact hj), List.getElem_map, List.getElem_range]
        simp
      · refine .inl ⟨L, _, rfl, sql hL4, fun t ht => ?_⟩
        have s5 : Same H3 (upd H4 t (.tup (iv ((List.range m).map fun j => (j + st) % m)))) := s4.trans (Same.upd ht)
        have ht5 : (upd H4 t (.tup (iv ((List.range m).map fun j => (j + st) % m)))) t = some (.tup (iv ((List.range m).map fun j => (j + st) % m))) := upd_same
        generalize upd H4 t (.tup (iv ((List.range m).map fun j => (j + st) % m))) = H5 at s5 ht5
        have s6 : SameBut c H2 H5 := SameBut.same s3 s5
        have wp5 := wp.stay (fun kvs e => s6 _ _ Dc e) fun b xs e => SameBut.tup c1 s6 e
        obtain ⟨H6, d1, d2, d3⟩ := ways_put (r := (List.range m).map fun j => (j + st) % m) hl hi wp5 ht5 (by rw [List.length_map, List.length_range]) (fun x hx => by
          obtain ⟨j, _, rfl⟩ := List.mem_map.mp hx
          exact Nat.mod_lt _ h1)
        refine ⟨_, rfl, _, rfl, D, H6, rfl, d1, _, _, rfl, fun b o n e => ?_, ?_, d2⟩
        · rw [d3 b (ne_of_none e hD)]
          exact s6 _ _ n (s1 _ _ n e)
        · obtain ⟨a, b, d, e⟩ := c3.same s5
          exact ⟨a, b, d, by rw [d3 c (Ne.symm Dc)]; exact e⟩
    · obtain ⟨u, v, rfl, s1, c1, wp⟩ := hP
      obtain ⟨rows, r1, r2⟩ := ways_all wp h1 hm
      exact ⟨_, rfl, k D rows H1 r1 r2 s1 c1⟩
end
end WP

/-! ## P18 -/
set_option Elab.async false
set_option linter.all false
set_option maxRecDepth 100000
set_option maxHeartbeats 4000000
/-! Pairs of rings. -/
namespace WP
open PySem PySem.Spec PyProof.Rows L2 WR WC
theorem pair_lt {m a b : Nat} (ha : a < m) (hb : b < m) : m * a + b < m * m := by
  have h1 : m * (a + 1) ≤ m * m := Nat.mul_le_mul_left _ ha
  rw [Nat.mul_succ] at h1
  omega
theorem div_small {m j : Nat} (h : j < m * m) : j / m < m := Nat.div_lt_of_lt_mul h
section
variable {P : Program} {w : World} {K : PySem.W.Frag} {mg : Str → Option Value} {C : Addr} {base : Heap}
theorem sc_law_pair_ways : FnScope ["_law_cup_here", "_law_signs_here", "_law_many", "_law_found", "_law_at", "_law_sign", "_law_step", "_law_times", "_law_row", "_law_later"] ["_law_cup_here", "_law_signs_here", "_law_many"] (defScope (top 52)) := ⟨rfl, rfl, rfl, by decide +kernel, rfl, by decide +kernel, by decide +kernel⟩
def sp_law_pair_ways : Sp := fun vs H Q _ => ∃ (c : Addr) (cs : List Nat) (m : Nat), vs = [.ref c, .str (txt cs), .int m] ∧ Ltrs cs ∧ 2 ≤ m ∧ m ≤ 7 ∧ CupAt H c ∧ GoWays c cs (m * m) H Q
theorem ok_law_pair_ways (T : TX K mg C) : Ok P w K mg base 2 "_law_pair_ways" (top 52) ["_law_cup_here", "_law_signs_here", "_law_many"] sp_law_pair_ways := by
  obtain ⟨f, fd, D⟩ := T.f_law_pair_ways
  obtain ⟨f1, fd1, D1, G1⟩ := ok_law_bit (P := P) (w := w) (base := base) T
  refine ⟨f, fd, D, D.F.ok sc_law_pair_ways (fun vs H Q E h => ?_) (fun cdv A outer s H vs Q E hr h => ?_)⟩
  · obtain ⟨c, cs, m, rfl, _⟩ := h
    rfl
  · obtain ⟨c, cs, m, rfl, hl, h1, hm, hc, k⟩ := h
    have hfew := hl.few
    have hpos := hl.pos
    have hmm : m * m ≤ 49 := Nat.mul_le_mul hm hm
    have hm0 : 0 < m * m := Nat.mul_pos (by omega) (by omega)
    refine ⟨_, (pss_cons ((ps_set (i := 3) sc_law_pair_ways.nd rfl (Or.inl rfl) (pe_disp (pps_cons (pe_ix ix_str (pv 1) pe_int (fun _ _ => rfl)) (pe_tupQ T (pe_lc (own := [("_law_at", 4)]) (g := gName 4) (tt := tYes) rfl sc_law_pair_ways.nd (pi_range1 (by rfl) T.b_range (pa_cons (pe_op op_mul (pv 2) (pv 2)) pa_nil)) (blkOk_by (N := ["_law_cup_here", "_law_signs_here", "_law_many", "_law_found", "_law_at", "_law_sign", "_law_step", "_law_times", "_law_row", "_law_later"]) (sc := defScope (top 52)) (by decide +kernel)) (fun _ _ _ _ _ => pg_name (i := 4) sc_law_pair_ways.nd rfl (Or.inl rfl)) (fun _ _ _ _ _ => pts_nil) (fun _ _ _ _ _ => pe_op op_add (pe_op op_mul (pv 2) (pe_callTy call_int1 (by rfl) T.b_int (by decide +kernel) (pa_cons (pe_op op_fdivNN (pv 4) (pv 2)) pa_nil))) (pe_op op_mod (pe_callTy call_int1 (by rfl) T.b_int (by decide +kernel) (pa_cons (pe_op op_add (pv 4) pe_int) pa_nil)) (pv 2))))) pps_nil) (by rfl) (by rfl) (fun z => by cases z) (by decide))))
      (pss_cons (ps_for PassesOwn.never rfl (pi_str (pe_slice sl_str (pv 1) (po_some pe_int) po_none)) (pg_name (i := 5) sc_law_pair_ways.nd rfl (Or.inl rfl)) (pss_cons (ps_par (i := 6) (j := 7) rfl sc_law_pair_ways.nd rfl rfl (by decide) rfl rfl (pa_cons ((pe_call G1 (hr.mono (by decide)) (by rfl) D1.g D1.F.kp D1.b .nil pass0 (pa_cons ((pv 0)) (pa_cons ((pv 2)) pa_nil)))) (pa_cons ((pe_call G1 (hr.mono (by decide)) (by rfl) D1.g D1.F.kp D1.b .nil pass0 (pa_cons ((pv 0)) (pa_cons ((pv 2)) pa_nil)))) pa_nil)) (by rfl))
      (pss_cons ((ps_set (i := 8) sc_law_pair_ways.nd rfl (Or.inl rfl) (pe_lst pa_nil)))
      (pss_cons (ps_for PassesOwn.never rfl (pi_range1 (by rfl) T.b_range (pa_cons (pe_op op_mul (pv 2) (pv 2)) pa_nil)) (pg_name (i := 4) sc_law_pair_ways.nd rfl (Or.inl rfl)) (pss_cons ((ps_set (i := 9) sc_law_pair_ways.nd rfl (Or.inl rfl) (pe_op op_mod (pe_callTy call_int1 (by rfl) T.b_int (by decide +kernel) (pa_cons (pe_op op_add (pe_op op_add (pe_op op_fdivNN (pv 4) (pv 2)) (pv 6)) (pe_op op_mul (pv 7) (pe_op op_mod (pe_callTy call_int1 (by rfl) T.b_int (by decide +kernel) (pa_cons ((pv 4)) pa_nil)) (pv 2)))) pa_nil)) (pv 2))))
      (pss_one (ps_expr (pe_bm PySem.F.plainAttrs_list PySem.F.slot_list_append PySem.F.type_list_append mt_append (pv 8) (pa_cons (pe_op op_add (pe_op op_mul (pv 2) (pv 9)) (pe_op op_mod (pe_callTy call_int1 (by rfl) T.b_int (by decide +kernel) (pa_cons ((pv 4)) pa_nil)) (pv 2))) pa_nil))))))
      (pss_one (ps_dput hr.u1 (pv 3) (pv 5) (pe_tupQ T (pv 8)) rfl))))))
      (pss_one (ps_ret (pv 3))))), ?_⟩
    have em : ((m : Int) * (m : Int)) = ((m * m : Nat) : Int) := by simp
    have m64 : -(2 ^ 64 : Int) < (m : Int) ∧ (m : Int) < 2 ^ 64 := by constructor <;> omega
    refine seq_ fun D hD => ?_
    have Dc : D ≠ c := fun z => by
      obtain ⟨a, b, d, e⟩ := hc
      rw [z, e] at hD
      cases hD
    have hm2 : ((m : Int) * (m : Int)).toNat = m * m := by rw [em]; omega
    refine ⟨_, rfl, _, 0, cs[0], rfl, rfl, by rw [txt_length, sizeLine_eq]; omega, txt_at (i := 0) hpos, _, rfl, _, rfl, _, _, rfl, rfl, .inl m64, _, rfl, by rw [em]; omega, by rw [em]; omega, ?_⟩
    rw [hm2]
    have s0 : Same H (upd H D (.dK [])) := Same.upd hD
    refine fun L hL => lc_map (walk_rg (n := m * m)) hL (iv ((List.range (m * m)).map fun j => m * (j / m) + (j + 1) % m)) (by rw [iv_len, List.length_map, List.length_range]) (by omega) (fun _ _ => True.intro) (fun j x H4 H5 Nx hj s4 hL4 hy kk => ?_) fun H4 s4 hL4 => ?_
    · obtain ⟨rfl, rfl⟩ := hy
      refine ⟨rfl, _, rfl, _, rfl, _, rfl, j, m, rfl, rfl, ⟨by omega, by omega⟩, .inl ⟨_, rfl, _, _, rfl, rfl, .inl m64, _, rfl, _, _, rfl, rfl, .inl ⟨_, rfl, _, rfl, _, _, rfl, rfl, show (0 : Int) < (m : Int) by omega, _, _, rfl, rfl, ?_⟩⟩⟩
      refine lc_fin (n := m * m) (by rw [iv_len, List.length_map, List.length_range]) (by omega) hj kk hL4 s4 ?_
      rw [iv_get (by rw [List.length_map, List.length_range]; exact hj), List.getElem_map, List.getElem_range]
      simp
    refine .inl ⟨L, _, rfl, sql hL4, fun t0 ht0 => ?_⟩
    have s5 := s4.trans (Same.upd (o := .tup (iv ((List.range (m * m)).map fun j => m * (j / m) + (j + 1) % m))) ht0)
    have ht5 : (upd H4 t0 (.tup (iv ((List.range (m * m)).map fun j => m * (j / m) + (j + 1) % m)))) t0 = some (.tup (iv ((List.range (m * m)).map fun j => m * (j / m) + (j + 1) % m))) := upd_same
    show ((upd H4 t0 (.tup (iv ((List.range (m * m)).map fun j => m * (j / m) + (j + 1) % m)))) D = some (.dK [])) ∧ _
    generalize upd H4 t0 (.tup (iv ((List.range (m * m)).map fun j => m * (j / m) + (j + 1) % m))) = H5 at s5 ht5
    have hD5 := s5 _ _ upd_same
    refine ⟨hD5, [(Sum.inr (ltr cs[0]), .ref t0)], rfl, by show 1 ≤ 15; decide, ?_⟩
    have emg : mergeK [] [((Sum.inr (ltr cs[0]) : Key), V.ref t0)] = [(Sum.inr (ltr cs[0]), V.ref t0)] := rfl
    rw [emg]
    have wp0 : WaysPart (upd H5 D (.dK [(Sum.inr (ltr cs[0]), .ref t0)])) D cs (m * m) 1 := by
      refine ⟨[t0], [(List.range (m * m)).map fun j => m * (j / m) + (j + 1) % m], rfl, ?_, .cons ?_ .nil, fun r hr => ?_⟩
      · rw [upd_same]
        cases cs with
        | nil => simp at hpos
        | cons c0 cs => rfl
      · rw [upd_ne (fun z => by rw [z, hD5] at ht5; cases ht5)]
        exact ht5
      · rw [List.mem_singleton.mp hr]
        refine ⟨by rw [List.length_map, List.length_range], fun x hx => ?_⟩
        obtain ⟨j, hj, rfl⟩ := List.mem_map.mp hx
        exact pair_lt (div_small (List.mem_range.mp hj)) (Nat.mod_lt _ (by omega))
    have sD : ∀ {o : HO}, SameBut c H (upd H5 D o) := fun {o} b u n e => by
      rw [upd_ne (ne_of_none e hD)]
      exact s5 _ _ (s0 _ _ e)
    have s6 : SameBut c H (upd H5 D (.dK [(Sum.inr (ltr cs[0]), .ref t0)])) := sD
    have c6 : CupAt (upd H5 D (.dK [(Sum.inr (ltr cs[0]), .ref t0)])) c := by
      obtain ⟨a, b, d, e⟩ := (hc.same s0).same s5
      exact ⟨a, b, d, by rw [upd_ne (Ne.symm Dc)]; exact e⟩
    generalize upd H5 D (.dK [(Sum.inr (ltr cs[0]), .ref t0)]) = H6 at wp0 s6 c6
    refine seq_ ?_
    refine ⟨_, rfl, 1, rfl, txt cs, rfl, by rw [txt_length, sizeLine_eq]; omega, txt (cs.drop 1), by rw [cut_txt], ?_⟩
    have hdl : (cs.drop 1).length = cs.length - 1 := by rw [List.length_drop]
    refine for_it (walk_txt (cs := cs.drop 1)) (fun i σ H' => ∃ u v x y z a : Option V, σ = [some (.ref c), some (.str (txt cs)), some (.int (m : Int)), some (.ref D), a, u, v, x, y, z] ∧ SameBut c H H' ∧ CupAt H' c ∧ WaysPart H' D cs (m * m) (i + 1))
      ⟨_, _, _, _, _, _, rfl, s6, c6, wp0⟩ (fun _ _ _ _ _ => True.intro) (fun i x σ H1 H2 hi hP hy => ?_) fun σ H1 hP => ?_
    · obtain ⟨u, v, x1, x2, x3, x4, rfl, s1, c1, wp⟩ := hP
      obtain ⟨rfl, c0, hc0, rfl⟩ := hy
      rw [List.getElem?_eq_getElem hi, List.getElem_drop] at hc0
      cases hc0
      rw [hdl] at hi
      refine seq_ ⟨_, rfl, _, rfl, c, m, rfl, by omega, by omega, c1, fun st H3 hst s3 c3 => ⟨_, rfl, _, rfl, c, m, rfl, by omega, by omega, c3, fun ti H4 hti s4 c4 => ⟨_, _, rfl, ?_⟩⟩⟩
      have s34 := SameBut.trans s3 s4
      refine seq_ ⟨by rw [sizeLine_eq]; exact Nat.zero_le _, fun R hR => ?_⟩
      have Rc : R ≠ c := fun z => by
        obtain ⟨a, b, d, e⟩ := c4
        rw [z, e] at hR
        cases hR
      refine seq_ ⟨_, rfl, _, rfl, _, _, rfl, rfl, .inl m64, _, rfl, by rw [em]; omega, by rw [em]; omega, ?_⟩
      rw [hm2]
      have s5 := Same.upd (o := .lst []) hR
      refine for_it (walk_rg (n := m * m)) (fun j σ H' => ∃ (ns : List Nat) (a z : Option V), σ = [some (.ref c), some (.str (txt cs)), some (.int (m : Int)), some (.ref D), a, some (.str (ltr cs[1 + i])), some (.int (st : Nat)), some (.int (ti : Nat)), some (.ref R), z] ∧ Same H4 H' ∧ H' R = some (.lst (iv ns)) ∧ ns.length = j ∧ ∀ x ∈ ns, x < m * m)
        ⟨[], _, _, rfl, s5, upd_same, rfl, by simp⟩ (fun _ _ _ _ _ => True.intro) (fun j x σ H5 H7 hj hP hy => ?_) fun σ H5 hP => ?_
      · obtain ⟨ns, a, z, rfl, s6, hR6, hnl, hnx⟩ := hP
        obtain ⟨rfl, rfl⟩ := hy
        obtain ⟨r, hr, er⟩ := mod_nat (x := (((j / m : Nat) : Int) + (st : Int)) + (ti : Int) * ((j : Int) % (m : Int))) (m := m) (by omega)
        refine seq_ ⟨_, rfl, _, rfl, j, m, rfl, rfl, ⟨by omega, by omega⟩, _, rfl, _, _, rfl, rfl, _, rfl, _, rfl, .inl ⟨_, rfl, _, rfl, _, _, rfl, rfl, show (0 : Int) < (m : Int) by omega, _, _, rfl, rfl, .inl (by constructor <;> omega), _, _, rfl, rfl, .inl ⟨_, rfl, _, rfl, _, _, rfl, rfl, show (0 : Int) < (m : Int) by omega, ?_⟩⟩⟩
        have ej : (m : Int) * (((((j / m : Nat) : Int) + (st : Int)) + (ti : Int) * ((j : Int) % (m : Int))) % (m : Int)) + (j : Int) % (m : Int) = ((m * r + j % m : Nat) : Int) := by
          rw [er]
          simp
        refine ⟨_, rfl, .inl ⟨rfl, _, sql hR6⟩, _, rfl, _, rfl, _, _, rfl, rfl, .inl m64, _, rfl, .inl ⟨_, rfl, _, rfl, _, _, rfl, rfl, show (0 : Int) < (m : Int) by omega, _, _, rfl, rfl, ?_⟩⟩
        dsimp only [tNil]
        rw [ej]
        refine ⟨R, _, _, rfl, rfl, hR6, by rw [iv_len, sizeLine_eq]; omega, ns ++ [m * r + j % m], _, _, rfl, fun b o e => ?_, ?_, by rw [List.length_append, hnl]; rfl, fun x hx => ?_⟩
        · rw [upd_ne (ne_of_none e hR)]
          exact s6 _ _ e
        · rw [upd_same, iv_append]
          rfl
        · rcases List.mem_append.mp hx with q | q
          · exact hnx x q
          · rw [List.mem_singleton.mp q]
            exact pair_lt hr (Nat.mod_lt _ (by omega))
      · obtain ⟨ns, a, z, rfl, s6, hR6, hnl, hnx⟩ := hP
        refine ⟨_, rfl, .inl ⟨R, _, rfl, sql hR6, fun t ht => ?_⟩⟩
        have s7 : Same H4 (upd H5 t (.tup (iv ns))) := s6.trans (Same.upd ht)
        have ht7 : (upd H5 t (.tup (iv ns))) t = some (.tup (iv ns)) := upd_same
        generalize upd H5 t (.tup (iv ns)) = H8 at s7 ht7
        have s8 : SameBut c H2 H8 := SameBut.same s34 s7
        have wp8 := wp.stay (fun kvs e => s8 _ _ Dc e) fun b xs e => SameBut.tup c1 s8 e
        obtain ⟨H9, d1, d2, d3⟩ := ways_put (i := i + 1) hl (by omega) wp8 ht7 hnl hnx
        have e9 : cs[i + 1]'(by omega) = cs[1 + i]'(by omega) := by congr 1; omega
        rw [e9] at d1
        refine ⟨_, rfl, _, rfl, D, H9, rfl, d1, _, _, _, _, _, _, rfl, fun b o n e => ?_, ?_, d2⟩
        · rw [d3 b (ne_of_none e hD)]
          exact s8 _ _ n (s1 _ _ n e)
        · obtain ⟨a, b, d, e⟩ := c4.same s7
          exact ⟨a, b, d, by rw [d3 c (Ne.symm Dc)]; exact e⟩
    · obtain ⟨u, v, x1, x2, x3, x4, rfl, s1, c1, wp⟩ := hP
      rw [hdl, show cs.length - 1 + 1 = cs.length by omega] at wp
      obtain ⟨rows, r1, r2⟩ := ways_all wp hm0 (by omega)
      exact ⟨_, rfl, k D rows H1 r1 r2 s1 c1⟩
end
end WP

/-! ## P19 -/
set_option Elab.async false
set_option linter.all false
set_option maxRecDepth 100000
set_option maxHeartbeats 4000000
/-! Plain readers. -/
namespace WP
open PySem PySem.Spec PyProof.Rows L2 WR WC
theorem mk_good {cs : List Nat} {rows : List (List Nat)} {ns : List Nat} {m : Nat} (hl : Ltrs cs) (h : RowsOk cs rows m) (ha : ns.Pairwise (· < ·)) (hx : ∀ x ∈ ns, x < m) : Good cs ⟨rows, ns⟩ ∧ (⟨rows, ns⟩ : Mch).n = m := by
  have e : (⟨rows, ns⟩ : Mch).n = m := by
    have h1 := h.len
    have h2 := hl.pos
    cases rows with
    | nil => rw [← h1] at h2; simp at h2
    | cons r rs => exact h.row r List.mem_cons_self
  refine ⟨⟨hl, ⟨?_, fun r hr => by rw [e]; exact h.row r hr, fun r hr x hx => by rw [e]; exact h.lt r hr x hx, by rw [e]; exact h.pos, ha, fun g hg => by rw [e]; exact hx g hg⟩, h.len, by rw [e]; exact h.few⟩, e⟩
  show 0 < rows.length
  rw [h.len]
  exact hl.pos
def plainK (z : Str) (d y : Addr) : List (Key × V) := [(Sum.inr "signs", .str z), (Sum.inr "ways", .ref d), (Sum.inr "good", .ref y)]
theorem plain_merge (z : Str) (d y : Addr) : mergeK [] [((Sum.inr ("signs" : Str) : Key), V.str z), (Sum.inr ("ways" : Str), .ref d), (Sum.inr ("good" : Str), .ref y)] = plainK z d y := rfl
theorem plain_at {H : Hp} {p d y : Addr} {cs : List Nat} {M : Mch} (g : Good cs M) (hp : H p = some (.dK [])) (hd : d ≠ p) (hm : MovesAt H d cs M.ways) (hy : H y = some (.tup (iv M.good))) : PlainAt (upd H p (.dK (plainK (txt cs) d y))) p cs M := by
  obtain ⟨as, h1, h2, h3⟩ := hm
  refine ⟨g, d, y, upd_same, ⟨as, h1, by rw [upd_ne hd]; exact h2, h3.tups fun b xs e => by rw [upd_ne (fun z => by rw [z, hp] at e; cases e)]; exact e⟩, ?_⟩
  rw [upd_ne (fun z => by rw [z, hp] at hy; cases hy)]
  exact hy
theorem plain_get {H : Hp} {p : Addr} {cs : List Nat} {M : Mch} (h : PlainAt H p cs M) : ∃ d y, DGet H p (.str "signs") (some (.str (txt cs))) ∧ DGet H p (.str "ways") (some (.ref d)) ∧ DGet H p (.str "good") (some (.ref y)) ∧ MovesAt H d cs M.ways ∧ H y = some (.tup (iv M.good)) ∧
    ∀ i (hi : i < cs.length), ∃ a r, DGet H d (.str (ltr cs[i])) (some (.ref a)) ∧ M.ways[i]? = some r ∧ r.length = M.n ∧ H a = some (.tup (iv r)) := by
  obtain ⟨g, d, y, h1, h2, h3⟩ := h
  refine ⟨d, y, DGet.k (k := Sum.inr "signs") h1, DGet.k (k := Sum.inr "ways") h1, DGet.k (k := Sum.inr "good") h1, h2, h3, fun i hi => ?_⟩
  obtain ⟨a, r, kvs, q1, q2, q3, q4⟩ := moves_get g.ltrs.nodup h2 hi
  exact ⟨a, r, by rw [← q2]; exact DGet.k (k := Sum.inr (ltr cs[i])) q1, q3, g.wf.row r (List.mem_of_getElem? q3), q4⟩
section
variable {P : Program} {w : World} {K : PySem.W.Frag} {mg : Str → Option Value} {C : Addr} {base : Heap}
theorem sc_law_state_count : FnScope ["_law_plain"] ["_law_plain"] (defScope (top 56)) := ⟨rfl, rfl, rfl, by decide +kernel, rfl, by decide +kernel, by decide +kernel⟩
def sp_law_state_count : Sp := fun vs H Q _ => ∃ p cs M, vs = [.ref p] ∧ PlainAt H p cs M ∧ Q (.int (M.n : Nat)) H
theorem ok_law_state_count (T : TX K mg C) : Ok P w K mg base 1 "_law_state_count" (top 56) ["_law_plain"] sp_law_state_count := by
  obtain ⟨f, fd, D⟩ := T.f_law_state_count
  refine ⟨f, fd, D, D.F.ok sc_law_state_count (fun vs H Q E h => ?_) (fun cdv A outer s H vs Q E hr h => ?_)⟩
  · obtain ⟨p, cs, M, rfl, _⟩ := h
    rfl
  · obtain ⟨p, cs, M, rfl, hR, k⟩ := h
    refine ⟨_, pss_one (ps_ret (pe_lenQ T (pe_dget hr.u1 (pe_dget hr.u1 (pv 0) pe_str (fun _ _ => rfl)) (pe_ix ix_str (pe_dget hr.u1 (pv 0) pe_str (fun _ _ => rfl)) pe_int (fun _ _ => rfl)) (fun _ _ => rfl)))), ?_⟩
    obtain ⟨d, y, g1, g2, g3, hm, hy, hrow⟩ := plain_get hR
    have hpos := hR.1.ltrs.pos
    have hfew := hR.1.ltrs.few
    obtain ⟨a, r, q1, q2, q3, q4⟩ := hrow 0 hpos
    refine ⟨_, rfl, p, _, rfl, g2, _, rfl, p, _, rfl, g1, _, 0, cs[0], rfl, rfl, by rw [txt_length, sizeLine_eq]; omega, txt_at (i := 0) hpos, d, _, rfl, q1, a, _, rfl, .inr (sqt q4), ?_⟩
    rw [iv_len, q3]
    exact k
theorem sc_law_made_reader : FnScope ["_law_plain"] ["_law_plain"] (defScope (top 55)) := ⟨rfl, rfl, rfl, by decide +kernel, rfl, by decide +kernel, by decide +kernel⟩
def sp_law_made_reader (C : Addr) : Sp := fun vs H Q _ => ∃ p cs M, vs = [.ref p] ∧ PlainAt H p cs M ∧ ∀ q H', Same H H' → RdrAt C H' q cs M → Q (.ref q) H'
theorem ok_law_made_reader (T : TX K mg C) : Ok P w K mg base 7 "_law_made_reader" (top 55) ["_law_plain"] (sp_law_made_reader C) := by
  obtain ⟨f, fd, D⟩ := T.f_law_made_reader
  obtain ⟨f1, fd1, D1, G1⟩ := ok_m_init (P := P) (w := w) (base := base) T
  refine ⟨f, fd, D, D.F.ok sc_law_made_reader (fun vs H Q E h => ?_) (fun cdv A outer s H vs Q E hr h => ?_)⟩
  · obtain ⟨p, cs, M, rfl, _⟩ := h
    rfl
  · obtain ⟨p, cs, M, rfl, hR, k⟩ := h
    refine ⟨_, pss_one (ps_ret (pe_make (C := C) ⟨T.mkC, D1.at_, D1.fn, T.kC⟩ G1 hr (by rfl) T.gC D1.b .nil pass0 (pa_cons (pe_dget hr.u1 (pv 0) pe_str (fun _ _ => rfl)) (pa_cons (pe_dget hr.u1 (pv 0) pe_str (fun _ _ => rfl)) (pa_cons (pe_dget hr.u1 (pv 0) pe_str (fun _ _ => rfl)) pa_nil))))), ?_⟩
    obtain ⟨d, y, g1, g2, g3, hm, hy, hrow⟩ := plain_get hR
    refine ⟨_, rfl, p, _, rfl, g1, _, rfl, p, _, rfl, g2, _, rfl, p, _, rfl, g3, ?_⟩
    exact mkR_at hR.1 hm hy k
/-- what is promised of a plain reader drawn -/
def GoPlain (c : Addr) (cs : List Nat) (H : Hp) (Q : VK) : Prop := ∀ p M H', PlainAt H' p cs M → M.n ≤ 9 → SameBut c H H' → CupAt H' c → Q (.ref p) H'
theorem sc_law_turner : FnScope ["_law_cup_here", "_law_signs_here", "_law_lot", "_law_ways"] ["_law_cup_here", "_law_signs_here"] (defScope (top 53)) := ⟨rfl, rfl, rfl, by decide +kernel, rfl, by decide +kernel, by decide +kernel⟩
def sp_law_turner : Sp := fun vs H Q _ => ∃ (c : Addr) (cs : List Nat), vs = [.ref c, .str (txt cs)] ∧ Ltrs cs ∧ CupAt H c ∧ GoPlain c cs H Q
theorem ok_law_turner (T : TX K mg C) : Ok P w K mg base 4 "_law_turner" (top 53) ["_law_cup_here", "_law_signs_here"] sp_law_turner := by
  obtain ⟨f, fd, D⟩ := T.f_law_turner
  obtain ⟨f1, fd1, D1, G1⟩ := ok_law_bit (P := P) (w := w) (base := base) T
  obtain ⟨f2, fd2, D2, G2⟩ := ok_law_turning_ways (P := P) (w := w) (base := base) T
  obtain ⟨f3, fd3, D3, G3⟩ := ok_law_ring_ways (P := P) (w := w) (base := base) T
  obtain ⟨f4, fd4, D4, G4⟩ := ok_law_pair_ways (P := P) (w := w) (base := base) T
  obtain ⟨f5, fd5, D5, G5⟩ := ok_law_pick (P := P) (w := w) (base := base) T
  obtain ⟨f6, fd6, D6, G6⟩ := ok_law_some_of (P := P) (w := w) (base := base) T
  refine ⟨f, fd, D, D.F.ok sc_law_turner (fun vs H Q E h => ?_) (fun cdv A outer s H vs Q E hr h => ?_)⟩
  · obtain ⟨c, cs, rfl, _⟩ := h
    rfl
  · obtain ⟨c, cs, rfl, hl, hc, k⟩ := h
    refine ⟨_, (pss_cons ((ps_set (i := 2) sc_law_turner.nd rfl (Or.inl rfl) ((pe_call G1 (hr.mono (by decide)) (by rfl) D1.g D1.F.kp D1.b .nil pass0 (pa_cons ((pv 0)) (pa_cons (pe_int) pa_nil))))))
      (C8.pss_cut (ps_if (pt_cmpR op_eq (pv 2) pe_int (nomark _)) (pss_one (ps_set (i := 3) sc_law_turner.nd rfl (Or.inl rfl) ((pe_call G2 (hr.mono (by decide)) (by rfl) D2.g D2.F.kp D2.b .nil pass0 (pa_cons ((pv 0)) (pa_cons ((pv 1)) (pa_cons (pe_op op_add pe_int (pe_call G1 (hr.mono (by decide)) (by rfl) D1.g D1.F.kp D1.b .nil pass0 (pa_cons ((pv 0)) (pa_cons (pe_int) pa_nil)))) pa_nil)))))))
        (pss_one (ps_if (pt_cmpR op_lt (pv 2) pe_int (nomark _)) (pss_one (ps_set (i := 3) sc_law_turner.nd rfl (Or.inl rfl) ((pe_call G3 (hr.mono (by decide)) (by rfl) D3.g D3.F.kp D3.b .nil pass0 (pa_cons ((pv 0)) (pa_cons ((pv 1)) (pa_cons ((pe_call G5 (hr.mono (by decide)) (by rfl) D5.g D5.F.kp D5.b .nil pass0 (pa_cons ((pv 0)) (pa_cons (pe_lst (pa_cons (pe_int) (pa_cons (pe_int) (pa_cons (pe_int) (pa_cons (pe_int) (pa_cons (pe_int) (pa_cons (pe_int) (pa_cons (pe_int) (pa_cons (pe_int) pa_nil))))))))) pa_nil)))) pa_nil)))))))
          (pss_one (ps_set (i := 3) sc_law_turner.nd rfl (Or.inl rfl) ((pe_call G4 (hr.mono (by decide)) (by rfl) D4.g D4.F.kp D4.b .nil pass0 (pa_cons ((pv 0)) (pa_cons ((pv 1)) (pa_cons ((pe_call G5 (hr.mono (by decide)) (by rfl) D5.g D5.F.kp D5.b .nil pass0 (pa_cons ((pv 0)) (pa_cons (pe_lst (pa_cons (pe_int) (pa_cons (pe_int) (pa_cons (pe_int) pa_nil)))) pa_nil)))) pa_nil))))))))))
      (pss_one (ps_ret (pe_disp (pps_cons pe_str ((pv 1)) (pps_cons pe_str ((pv 3)) (pps_cons pe_str ((pe_call G6 (hr.mono (by decide)) (by rfl) D6.g D6.F.kp D6.b .nil pass0 (pa_cons ((pv 0)) (pa_cons (pe_lenQ T (pe_dget hr.u1 (pv 3) (pe_ix ix_str (pv 1) pe_int (fun _ _ => rfl)) (fun _ _ => rfl))) pa_nil)))) pps_nil))) (by rfl) (by rfl) (fun z => by cases z) (by decide)))))), ?_⟩
    have hpos := hl.pos
    have hfew := hl.few
    refine seq_ ⟨_, rfl, c, 5, rfl, by decide, by decide, hc, fun lot H1 hlot s1 c1 => ?_⟩
    refine ⟨fun σ' H' => ∃ (d : Addr) (rows : List (List Nat)) (m : Nat), σ' = [some (.ref c), some (.str (txt cs)), some (.int (lot : Nat)), some (.ref d)] ∧ RowsOk cs rows m ∧ m ≤ 9 ∧ MovesAt H' d cs rows ∧ SameBut c H H' ∧ CupAt H' c, ?_, fun σ' H2 h => ?_⟩
    · have picked : ∀ {ys : List V} {m : Nat} {H1 : Hp}, CupAt H1 c → ∀ l, H1 l = none → l ≠ c := fun {ys m H1} hc l hl z => by
        obtain ⟨a, b, d, e⟩ := hc
        rw [z, e] at hl
        cases hl
      refine ⟨_, rfl, rfl, _, rfl, ?_⟩
      cases decide (V.int (lot : Nat) = V.int 0) with
      | true =>
        refine iteT ⟨_, rfl, _, rfl, _, rfl, c, 4, rfl, by decide, by decide, c1, fun r H2 hr s2 c2 => ⟨2, _, rfl, rfl, c, cs, 2 + r, by simp, hl, by omega, by omega, c2, fun d rows H3 r1 r2 s3 c3 => ?_⟩⟩
        exact ⟨d, rows, 2 + r, rfl, r1, by omega, r2, SameBut.trans s1 (SameBut.trans s2 s3), c3⟩
      | false =>
        refine iteF ⟨_, rfl, _, _, rfl, rfl, _, rfl, ?_⟩
        cases decide ((lot : Int) < 3) with
        | true =>
          refine iteT ⟨_, rfl, _, rfl, _, rfl, by rw [sizeLine_eq]; show 8 ≤ _; omega, fun l hl1 => ?_⟩
          have sl := Same.upd (o := .lst [.int 2, .int 3, .int 4, .int 5, .int 6, .int 7, .int 8, .int 9]) hl1
          refine ⟨c, l, _, rfl, picked (ys := []) (m := 0) c1 l hl1, upd_same, by decide, by decide, c1.same sl, fun y H2 hy s2 c2 => ?_⟩
          have hy2 : ∃ m : Nat, y = .int m ∧ 1 ≤ m ∧ m ≤ 9 := by
            simp only [List.mem_cons, List.not_mem_nil, or_false] at hy
            rcases hy with h | h | h | h | h | h | h | h
            · exact ⟨2, h, by decide, by decide⟩
            · exact ⟨3, h, by decide, by decide⟩
            · exact ⟨4, h, by decide, by decide⟩
            · exact ⟨5, h, by decide, by decide⟩
            · exact ⟨6, h, by decide, by decide⟩
            · exact ⟨7, h, by decide, by decide⟩
            · exact ⟨8, h, by decide, by decide⟩
            · exact ⟨9, h, by decide, by decide⟩
          obtain ⟨m, rfl, hm1, hm9⟩ := hy2
          have s12 : SameBut c H H2 := fun b o n e => s2 b o n (sl _ _ (s1 _ _ n e))
          exact ⟨c, cs, m, rfl, hl, hm1, by omega, c2, fun d rows H3 r1 r2 s3 c3 => ⟨d, rows, m, rfl, r1, hm9, r2, SameBut.trans s12 s3, c3⟩⟩
        | false =>
          refine iteF ⟨_, rfl, _, rfl, _, rfl, by rw [sizeLine_eq]; show 3 ≤ _; omega, fun l hl1 => ?_⟩
          have sl := Same.upd (o := .lst [.int 2, .int 2, .int 3]) hl1
          refine ⟨c, l, _, rfl, picked (ys := []) (m := 0) c1 l hl1, upd_same, by decide, by decide, c1.same sl, fun y H2 hy s2 c2 => ?_⟩
          have hy2 : ∃ m : Nat, y = .int m ∧ 2 ≤ m ∧ m ≤ 3 := by
            simp only [List.mem_cons, List.not_mem_nil, or_false] at hy
            rcases hy with h | h | h
            · exact ⟨2, h, by decide, by decide⟩
            · exact ⟨2, h, by decide, by decide⟩
            · exact ⟨3, h, by decide, by decide⟩
          obtain ⟨m, rfl, hm1, hm9⟩ := hy2
          have s12 : SameBut c H H2 := fun b o n e => s2 b o n (sl _ _ (s1 _ _ n e))
          have h9 : m * m ≤ 9 := Nat.mul_le_mul hm9 hm9
          exact ⟨c, cs, m, rfl, hl, hm1, by omega, c2, fun d rows H3 r1 r2 s3 c3 => ⟨d, rows, m * m, rfl, r1, h9, r2, SameBut.trans s12 s3, c3⟩⟩
    · obtain ⟨d, rows, m, rfl, r1, hm9, r2, s2, c2⟩ := h
      intro p hp
      have sp : Same H2 (upd H2 p (.dK [])) := Same.upd hp
      have hp3 : (upd H2 p (.dK [])) p = some (.dK []) := upd_same
      have r3 := r2.same sp
      have c3 := c2.same sp
      have hdp : d ≠ p := by
        obtain ⟨as, _, e, _⟩ := r2
        exact ne_of_none e hp
      generalize upd H2 p (.dK []) = H3 at sp hp3 r3 c3
      obtain ⟨a, r, kvs, q1, q2, q3, q4⟩ := moves_get hl.nodup r3 hpos
      have hrl := r1.row r (List.mem_of_getElem? q3)
      refine ⟨_, rfl, _, rfl, _, rfl, _, rfl, _, rfl, _, 0, cs[0], rfl, rfl, by rw [txt_length, sizeLine_eq]; omega, txt_at (i := 0) hpos, d, .ref a, rfl, by rw [← q2]; exact DGet.k (k := Sum.inr (ltr cs[0])) q1, a, _, rfl, .inr (sqt q4), c, m, by rw [iv_len, hrl]; rfl, by omega, c3, fun y ns H4 n1 n2 n3 s4 c4 => ?_⟩
      have hp4 := SameBut.dK c3 s4 hp3
      refine ⟨hp4, [(Sum.inr "signs", .str (txt cs)), (Sum.inr "ways", .ref d), (Sum.inr "good", .ref y)], rfl, by show 3 ≤ 15; decide, ?_⟩
      rw [plain_merge]
      obtain ⟨gd, gn⟩ := mk_good hl r1 n1 n2
      have pl : PlainAt (upd H4 p (.dK (plainK (txt cs) d y))) p cs ⟨rows, ns⟩ := plain_at gd hp4 hdp (SameBut.moves c3 s4 r3) n3
      refine k p ⟨rows, ns⟩ _ pl (by rw [gn]; exact hm9) (fun b o n e => ?_) ?_
      · have e2 := s2 _ _ n e
        rw [upd_ne (ne_of_none e2 hp)]
        exact s4 _ _ n (sp _ _ e2)
      · obtain ⟨x0, x1, x2, e⟩ := c4
        exact ⟨x0, x1, x2, by rw [upd_ne (fun z => by rw [z, hp4] at e; cases e)]; exact e⟩
theorem sc_law_plain_reader : FnScope ["_law_cup_here", "_law_signs_here", "_law_many"] ["_law_cup_here", "_law_signs_here"] (defScope (top 54)) := ⟨rfl, rfl, rfl, by decide +kernel, rfl, by decide +kernel, by decide +kernel⟩
def sp_law_plain_reader : Sp := fun vs H Q _ => ∃ (c : Addr) (cs : List Nat), vs = [.ref c, .str (txt cs)] ∧ Ltrs cs ∧ CupAt H c ∧ GoPlain c cs H Q
theorem ok_law_plain_reader (T : TX K mg C) : Ok P w K mg base 5 "_law_plain_reader" (top 54) ["_law_cup_here", "_law_signs_here"] sp_law_plain_reader := by
  obtain ⟨f, fd, D⟩ := T.f_law_plain_reader
  obtain ⟨f1, fd1, D1, G1⟩ := ok_law_bit (P := P) (w := w) (base := base) T
  obtain ⟨f2, fd2, D2, G2⟩ := ok_law_turner (P := P) (w := w) (base := base) T
  obtain ⟨f3, fd3, D3, G3⟩ := ok_law_any_ways (P := P) (w := w) (base := base) T
  obtain ⟨f4, fd4, D4, G4⟩ := ok_law_some_of (P := P) (w := w) (base := base) T
  refine ⟨f, fd, D, D.F.ok sc_law_plain_reader (fun vs H Q E h => ?_) (fun cdv A outer s H vs Q E hr h => ?_)⟩
  · obtain ⟨c, cs, rfl, _⟩ := h
    rfl
  · obtain ⟨c, cs, rfl, hl, hc, k⟩ := h
    refine ⟨_, (pss_cons (ps_if (pt_cmpR op_eq (pe_call G1 (hr.mono (by decide)) (by rfl) D1.g D1.F.kp D1.b .nil pass0 (pa_cons ((pv 0)) (pa_cons (pe_int) pa_nil))) pe_int (nomark _)) (pss_one (ps_ret (pe_call G2 (hr.mono (by decide)) (by rfl) D2.g D2.F.kp D2.b .nil pass0 (pa_cons ((pv 0)) (pa_cons ((pv 1)) pa_nil))))) pss_nil)
      (pss_cons ((ps_set (i := 2) sc_law_plain_reader.nd rfl (Or.inl rfl) (pe_op op_add pe_int (pe_call G1 (hr.mono (by decide)) (by rfl) D1.g D1.F.kp D1.b .nil pass0 (pa_cons ((pv 0)) (pa_cons (pe_int) pa_nil))))))
      (pss_one (ps_ret (pe_disp (pps_cons pe_str ((pv 1)) (pps_cons pe_str ((pe_call G3 (hr.mono (by decide)) (by rfl) D3.g D3.F.kp D3.b .nil pass0 (pa_cons ((pv 0)) (pa_cons ((pv 1)) (pa_cons ((pv 2)) pa_nil))))) (pps_cons pe_str ((pe_call G4 (hr.mono (by decide)) (by rfl) D4.g D4.F.kp D4.b .nil pass0 (pa_cons ((pv 0)) (pa_cons ((pv 2)) pa_nil)))) pps_nil))) (by rfl) (by rfl) (fun z => by cases z) (by decide)))))), ?_⟩
    refine ⟨_, rfl, c, 2, rfl, by decide, by decide, hc, fun r H1 hr s1 c1 => ⟨rfl, _, rfl, ?_⟩⟩
    cases decide (V.int (r : Nat) = V.int 0) with
    | true => exact iteT ⟨_, rfl, _, rfl, c, cs, rfl, hl, c1, fun p M H' h1 h2 h3 h4 => k p M H' h1 h2 (SameBut.trans s1 h3) h4⟩
    | false =>
      refine iteF (seq_ ⟨_, rfl, c, 6, rfl, by decide, by decide, c1, fun r H2 hr s2 c2 => ⟨1, _, rfl, rfl, ?_⟩⟩)
      intro p hp
      have sp : Same H2 (upd H2 p (.dK [])) := Same.upd hp
      have hp3 : (upd H2 p (.dK [])) p = some (.dK []) := upd_same
      have c3 := c2.same sp
      have s12 := SameBut.trans s1 s2
      generalize upd H2 p (.dK []) = H3 at sp hp3 c3
      have e1 : (1 : Int) + (r : Nat) = ((1 + r : Nat) : Int) := by simp
      refine ⟨_, rfl, _, rfl, _, rfl, _, rfl, c, cs, 1 + r, by simp, hl, by omega, by omega, c3, fun d rows H4 r1 r2 s4 c4 => ?_⟩
      have hp4 := SameBut.dK c3 s4 hp3
      have hdp : d ≠ p := by
        obtain ⟨as, la, e, _⟩ := r2
        intro z
        rw [z, hp4] at e
        have := congrArg (fun o => match o with | some (HO.dK kvs) => kvs.length | _ => 0) e
        dsimp only at this
        rw [mkv_len la] at this
        have h0 := hl.pos
        simp at this
        omega
      refine ⟨_, rfl, _, rfl, c, 1 + r, by simp, by omega, c4, fun y ns H5 n1 n2 n3 s5 c5 => ?_⟩
      have hp5 := SameBut.dK c4 s5 hp4
      refine ⟨hp5, [(Sum.inr "signs", .str (txt cs)), (Sum.inr "ways", .ref d), (Sum.inr "good", .ref y)], rfl, by show 3 ≤ 15; decide, ?_⟩
      rw [plain_merge]
      obtain ⟨gd, gn⟩ := mk_good hl r1 n1 n2
      have pl : PlainAt (upd H5 p (.dK (plainK (txt cs) d y))) p cs ⟨rows, ns⟩ := plain_at gd hp5 hdp (SameBut.moves c4 s5 r2) n3
      refine k p ⟨rows, ns⟩ _ pl (by rw [gn]; omega) (fun b o n e => ?_) ?_
      · have e2 := s12 _ _ n e
        rw [upd_ne (ne_of_none e2 hp)]
        exact s5 _ _ n (s4 _ _ n (sp _ _ e2))
      · obtain ⟨x0, x1, x2, e⟩ := c5
        exact ⟨x0, x1, x2, by rw [upd_ne (fun z => by rw [z, hp5] at e; cases e)]; exact e⟩
end
end WP

/-! ## P20 -/
set_option Elab.async false
set_option linter.all false
set_option maxRecDepth 100000
set_option maxHeartbeats 4000000
/-! Twice the states; an idle state. -/
namespace WP
open PySem PySem.Spec PyProof.Rows L2 WR WC
theorem part_ne {H : Hp} {D : Addr} {cs : List Nat} {rows : List (List Nat)} {i : Nat} (h : MovesPart H D cs rows i) : ∃ kvs, H D = some (.dK kvs) := by
  obtain ⟨as, _, h2, _⟩ := h
  exact ⟨_, h2⟩
/-- the next row is put -/
theorem part_dput {H : Hp} {D t : Addr} {cs : List Nat} {rows : List (List Nat)} {i : Nat} (hl : Ltrs cs) (hi : i < cs.length) (hr : i < rows.length) (h : MovesPart H D cs rows i) (ht : H t = some (.tup (iv rows[i]))) :
    ∃ H', DPut H D (.str (ltr cs[i])) (.ref t) H' ∧ MovesPart H' D cs rows (i + 1) ∧ ∀ b, b ≠ D → H' b = H b := by
  obtain ⟨as, h1, h2, h3⟩ := h
  have hfew := hl.few
  refine ⟨_, DPut.k (k := Sum.inr (ltr cs[i])) h2 (by rw [mkv_len (part_len h1 (Nat.le_of_lt hi)), List.length_take, sizeLine_eq]; omega), ?_, fun b hb => upd_ne hb⟩
  exact part_step (H := H) hl.nodup hi hr h1 h3 upd_same ht fun b xs e => by rw [upd_ne (fun z => by rw [z, h2] at e; cases e)]; exact e
theorem MovesPart.stay {H H' : Hp} {D : Addr} {cs : List Nat} {rows : List (List Nat)} {i : Nat} (hd : ∀ kvs, H D = some (.dK kvs) → H' D = some (.dK kvs)) (t : Tups H H') : MovesPart H D cs rows i → MovesPart H' D cs rows i
  | ⟨as, h1, h2, h3⟩ => ⟨as, h1, hd _ h2, h3.tups t⟩
/-- the first i rows, each with one more -/
def IdlePart (H : Hp) (D : Addr) (cs : List Nat) (M : Mch) (i : Nat) : Prop := ∃ (as : List Addr) (xs : List Nat), as.length = i ∧ xs.length = i ∧ (∀ x ∈ xs, x < M.n + 1) ∧ H D = some (.dK (mkv (cs.take i) as)) ∧ RowsAt H as (((M.ways.take i).zip xs).map fun p => p.1 ++ [p.2])
theorem IdlePart.stay {H H' : Hp} {D : Addr} {cs : List Nat} {M : Mch} {i : Nat} (hd : ∀ kvs, H D = some (.dK kvs) → H' D = some (.dK kvs)) (t : Tups H H') : IdlePart H D cs M i → IdlePart H' D cs M i
  | ⟨as, xs, h1, h2, h3, h4, h5⟩ => ⟨as, xs, h1, h2, h3, hd _ h4, h5.tups t⟩
theorem idle_put {H : Hp} {D t : Addr} {cs : List Nat} {M : Mch} {i x : Nat} {r : List Nat} (hl : Ltrs cs) (hi : i < cs.length) (h : IdlePart H D cs M i) (hr : M.ways[i]? = some r) (hx : x < M.n + 1) (ht : H t = some (.tup (iv (r ++ [x])))) :
    ∃ H', DPut H D (.str (ltr cs[i])) (.ref t) H' ∧ IdlePart H' D cs M (i + 1) ∧ ∀ b, b ≠ D → H' b = H b := by
  obtain ⟨as, xs, h1, h2, h3, h4, h5⟩ := h
  have hfew := hl.few
  refine ⟨_, DPut.k (k := Sum.inr (ltr cs[i])) h4 (by rw [mkv_len (part_len h1 (Nat.le_of_lt hi)), List.length_take, sizeLine_eq]; omega), ?_, fun b hb => upd_ne hb⟩
  have tp : Tups H (upd H D (.dK (putK (mkv (cs.take i) as) (Sum.inr (ltr cs[i])) (.ref t)))) := fun b ys e => by rw [upd_ne (fun z => by rw [z, h4] at e; cases e)]; exact e
  have hi2 : i < M.ways.length := (List.getElem?_eq_some_iff.mp hr).1
  refine ⟨as ++ [t], xs ++ [x], by rw [List.length_append, h1]; rfl, by rw [List.length_append, h2]; rfl, fun z hz => ?_, by rw [upd_same, part_put hl.nodup hi h1], ?_⟩
  · rcases List.mem_append.mp hz with q | q
    · exact h3 z q
    · rw [List.mem_singleton.mp q]
      exact hx
  · have e : M.ways.take (i + 1) = M.ways.take i ++ [r] := by rw [List.take_add_one, hr]; rfl
    rw [e, List.zip_append (by rw [List.length_take, h2]; omega), List.map_append]
    exact rows_snoc (h5.tups tp) (tp _ _ ht)
section
variable {P : Program} {w : World} {K : PySem.W.Frag} {mg : Str → Option Value} {C : Addr} {base : Heap}
theorem sc_law_twice : FnScope ["_law_plain", "_law_many", "_law_ways", "_law_sign", "_law_row", "_law_at"] ["_law_plain"] (defScope (top 57)) := ⟨rfl, rfl, rfl, by decide +kernel, rfl, by decide +kernel, by decide +kernel⟩
def sp_law_twice : Sp := fun vs H Q _ => ∃ p cs M, vs = [.ref p] ∧ PlainAt H p cs M ∧ M.n ≤ 9 ∧ ∀ q H', Same H H' → PlainAt H' q cs (twice M) → Q (.ref q) H'
theorem ok_law_twice (T : TX K mg C) : Ok P w K mg base 2 "_law_twice" (top 57) ["_law_plain"] sp_law_twice := by
  obtain ⟨f, fd, D⟩ := T.f_law_twice
  obtain ⟨f1, fd1, D1, G1⟩ := ok_law_state_count (P := P) (w := w) (base := base) T
  refine ⟨f, fd, D, D.F.ok sc_law_twice (fun vs H Q E h => ?_) (fun cdv A outer s H vs Q E hr h => ?_)⟩
  · obtain ⟨p, cs, M, rfl, _⟩ := h
    rfl
  · obtain ⟨p, cs, M, rfl, hR, hn9, k⟩ := h
    refine ⟨_, (pss_cons (ps_asg (pe_tup (pa_cons ((pe_call G1 (hr.mono (by decide)) (by rfl) D1.g D1.F.kp D1.b .nil pass0 (pa_cons ((pv 0)) pa_nil))) (pa_cons (pe_dnewK) pa_nil))) (pg_tup rfl (pgs_cons (pg_name (i := 1) sc_law_twice.nd rfl (Or.inr rfl)) (pgs_cons (pg_name (i := 2) sc_law_twice.nd rfl (Or.inl rfl)) pgs_nil))))
      (pss_cons (ps_for PassesOwn.never rfl (pi_str (pe_dget hr.u1 (pv 0) pe_str (fun _ _ => rfl))) (pg_name (i := 3) sc_law_twice.nd rfl (Or.inl rfl)) (pss_cons ((ps_set (i := 4) sc_law_twice.nd rfl (Or.inl rfl) (pe_dget hr.u1 (pe_dget hr.u1 (pv 0) pe_str (fun _ _ => rfl)) (pv 3) (fun _ _ => rfl))))
      (pss_one (ps_dput hr.u1 (pv 2) (pv 3) (pe_tupQ T (pe_op op_cat (pe_lc (own := [("_law_at", 5)]) (g := gName 5) (tt := tYes) rfl sc_law_twice.nd (pi_tup (pv 4)) (blkOk_by (N := ["_law_plain", "_law_many", "_law_ways", "_law_sign", "_law_row", "_law_at"]) (sc := defScope (top 57)) (by decide +kernel)) (fun _ _ _ _ _ => pg_name (i := 5) sc_law_twice.nd rfl (Or.inl rfl)) (fun _ _ _ _ _ => pts_nil) (fun _ _ _ _ _ => pe_op op_add (pv 5) (pv 1))) (pe_callTy call_list_of (by rfl) T.b_list (by decide +kernel) (pa_cons ((pv 4)) pa_nil)))) rfl))))
      (pss_one (ps_ret (pe_disp (pps_cons pe_str (pe_dget hr.u1 (pv 0) pe_str (fun _ _ => rfl)) (pps_cons pe_str ((pv 2)) (pps_cons pe_str (pe_op op_catA (pe_dget hr.u1 (pv 0) pe_str (fun _ _ => rfl)) (pe_tupQ T (pe_lc (own := [("_law_at", 5)]) (g := gName 5) (tt := tYes) rfl sc_law_twice.nd (pi_tup (pe_dget hr.u1 (pv 0) pe_str (fun _ _ => rfl))) (blkOk_by (N := ["_law_plain", "_law_many", "_law_ways", "_law_sign", "_law_row", "_law_at"]) (sc := defScope (top 57)) (by decide +kernel)) (fun _ _ _ _ _ => pg_name (i := 5) sc_law_twice.nd rfl (Or.inl rfl)) (fun _ _ _ _ _ => pts_nil) (fun _ _ _ _ _ => pe_op op_add (pv 5) (pv 1))))) pps_nil))) (by rfl) (by rfl) (fun z => by cases z) (by decide)))))), ?_⟩
    have g := hR.1
    have W := g.wf
    have hl := g.ltrs
    have hpos := hl.pos
    have hfew := hl.few
    have hgl : M.good.length ≤ 9 := Nat.le_trans (nodup_lt (W.asc.imp fun h => Nat.ne_of_lt h) W.glt) hn9
    refine ⟨_, rfl, p, cs, M, rfl, hR, fun D hD => ⟨by rw [sizeLine_eq]; show 2 ≤ _; omega, fun t ht => ⟨t, _, rfl, sqt upd_same, rfl, g2 (seq_ ?_)⟩⟩⟩
    have s1 : Same H (upd (upd H D (.dK [])) t (.tup [.int (M.n : Nat), .ref D])) := (Same.upd hD).trans (Same.upd ht)
    have hD1 : (upd (upd H D (.dK [])) t (.tup [.int (M.n : Nat), .ref D])) D = some (.dK []) := (Same.upd ht) _ _ upd_same
    generalize upd (upd H D (.dK [])) t (.tup [.int (M.n : Nat), .ref D]) = H1 at s1 hD1
    obtain ⟨d, y, e1, e2, e3, hm, hy, hrow⟩ := plain_get (hR.same s1)
    have hdD : ∀ b o, H b = some o → b ≠ D := fun b o e => ne_of_none e hD
    refine ⟨_, rfl, p, _, rfl, e1, txt cs, rfl, ?_⟩
    have tl : (twice M).ways.length = cs.length := by rw [← g.k]; exact twice_k W
    refine for_it (walk_txt (cs := cs)) (fun i σ H' => ∃ u v : Option V, σ = [some (.ref p), some (.int (M.n : Nat)), some (.ref D), u, v, none] ∧ Same H H' ∧ MovesPart H' D cs (twice M).ways i)
      ⟨none, none, rfl, s1, part_nil hD1⟩ (fun _ _ _ _ _ => True.intro) (fun i x σ H2 H3 hi hP hy => ?_) fun σ H2 hP => ?_
    · obtain ⟨u, v, rfl, s2, mp⟩ := hP
      obtain ⟨rfl, c0, hc0, rfl⟩ := hy
      rw [List.getElem?_eq_getElem hi] at hc0
      cases hc0
      obtain ⟨d, y, e1, e2, e3, hm, hy, hrow⟩ := plain_get (hR.same s2)
      obtain ⟨a, r, q1, q2, q3, q4⟩ := hrow i hi
      refine seq_ ⟨_, rfl, p, _, rfl, e2, _, rfl, d, _, rfl, q1, ?_⟩
      refine ⟨_, rfl, a, rfl, ⟨_, sqt q4⟩, fun L hL => lc_map (walk_tup (xs := iv r)) hL (iv (r.map fun s => s + M.n)) (by rw [iv_len, iv_len, List.length_map]) (by rw [iv_len]; omega) (fun _ e => sqt_same e q4) (fun j x H4 H5 Nx hj s4 hL4 hy kk => ?_) fun H4 s4 hL4 => ?_⟩
      · obtain ⟨rfl, e⟩ := hy
        rw [iv_len] at hj
        rw [iv_get hj] at e
        cases e
        refine ⟨rfl, _, rfl, _, rfl, _, _, rfl, rfl, ?_⟩
        refine lc_fin (n := r.length) (by rw [iv_len, List.length_map]) (by omega) hj kk hL4 s4 ?_
        rw [iv_get (by rw [List.length_map]; exact hj), List.getElem_map]
        simp
      · refine ⟨_, rfl, a, _, rfl, .inr (sqt (s4 _ _ q4)), fun L2 hL2 => ?_⟩
        have hLL : L ≠ L2 := ne_of_none hL4 hL2
        refine ⟨L, L2, _, _, rfl, rfl, by rw [upd_ne hLL]; exact hL4, upd_same, by rw [iv_len, iv_len, List.length_map, sizeLine_eq]; omega, fun L3 hL3 => .inl ⟨L3, _, rfl, sql upd_same, fun t ht => ?_⟩⟩
        have s5 := ((s4.trans (Same.upd (o := .lst (iv r)) hL2)).trans (Same.upd (o := .lst (iv (r.map fun s => s + M.n) ++ iv r)) hL3)).trans (Same.upd (o := .tup (iv (r.map fun s => s + M.n) ++ iv r)) ht)
        have ht5 : (upd (upd (upd H4 L2 (.lst (iv r))) L3 (.lst (iv (r.map fun s => s + M.n) ++ iv r))) t (.tup (iv (r.map fun s => s + M.n) ++ iv r))) t = some (.tup (iv (r.map fun s => s + M.n) ++ iv r)) := upd_same
        generalize (upd (upd (upd H4 L2 (.lst (iv r))) L3 (.lst (iv (r.map fun s => s + M.n) ++ iv r))) t (.tup (iv (r.map fun s => s + M.n) ++ iv r))) = H5 at s5 ht5
        have hw : (twice M).ways[i]? = some ((r.map fun s => s + M.n) ++ r) := by
          show (M.ways.map _)[i]? = _
          rw [List.getElem?_map, q2]
          rfl
        obtain ⟨H6, d1, d2, d3⟩ := part_dput hl hi (by rw [tl]; exact hi) (mp.stay (fun kvs e => s5 _ _ e) fun b xs e => s5 _ _ e) (t := t) (by rw [ht5, (List.getElem?_eq_some_iff.mp hw).2, iv_append])
        refine ⟨_, rfl, _, rfl, D, H6, rfl, d1, _, _, rfl, fun b o e => ?_, d2⟩
        rw [d3 b (hdD b o e)]
        exact s5 _ _ (s2 _ _ e)
    · obtain ⟨u, v, rfl, s2, mp⟩ := hP
      have mA := part_all tl mp
      intro q hq
      have sq : Same H2 (upd H2 q (.dK [])) := Same.upd hq
      have hq3 : (upd H2 q (.dK [])) q = some (.dK []) := upd_same
      have m3 := mA.same sq
      have hDq : D ≠ q := by
        obtain ⟨as, _, e, _⟩ := mA
        exact ne_of_none e hq
      generalize upd H2 q (.dK []) = H3 at sq hq3 m3
      obtain ⟨d, y, e1, e2, e3, hm, hy, hrow⟩ := plain_get (hR.same (s2.trans sq))
      refine ⟨_, rfl, p, _, rfl, e1, _, rfl, _, rfl, p, _, rfl, e3, _, rfl, p, _, rfl, e3, y, rfl, ⟨_, sqt hy⟩, fun L hL => lc_map (walk_tup (xs := iv M.good)) hL (iv (M.good.map fun s => s + M.n)) (by rw [iv_len, iv_len, List.length_map]) (by rw [iv_len]; omega) (fun _ e => sqt_same e hy) (fun j x H4 H5 Nx hj s4 hL4 hy kk => ?_) fun H4 s4 hL4 => ?_⟩
      · obtain ⟨rfl, e⟩ := hy
        rw [iv_len] at hj
        rw [iv_get hj] at e
        cases e
        refine ⟨rfl, _, rfl, _, rfl, _, _, rfl, rfl, ?_⟩
        refine lc_fin (n := M.good.length) (by rw [iv_len, List.length_map]) (by omega) hj kk hL4 s4 ?_
        rw [iv_get (by rw [List.length_map]; exact hj), List.getElem_map]
        simp
      · refine .inl ⟨L, _, rfl, sql hL4, fun t ht => ?_⟩
        have hgd : (twice M).good = M.good ++ M.good.map fun s => s + M.n := rfl
        have fin : ∀ z H5, Same H3 H5 → H5 z = some (.tup (iv (twice M).good)) → H5 q = some (.dK []) ∧ ∃ kvs : List (Key × V), [(V.str "signs", V.str (txt cs)), (V.str "ways", .ref D), (V.str "good", .ref z)] = kvs.map (fun kv => (kV kv.1, kv.2)) ∧ kvs.length ≤ 15 ∧ Q (.ref q) (upd H5 q (.dK (mergeK [] kvs))) := by
          intro z H5 s5 hz
          refine ⟨s5 _ _ hq3, [(Sum.inr "signs", .str (txt cs)), (Sum.inr "ways", .ref D), (Sum.inr "good", .ref z)], rfl, by show 3 ≤ 15; decide, ?_⟩
          rw [plain_merge]
          have gt : Good cs (twice M) := ⟨hl, twice_WF W, (twice_k W).trans g.k, by rw [twice_n W]; omega⟩
          refine k q _ (fun b o e => ?_) (plain_at gt (s5 _ _ hq3) hDq (m3.same s5) hz)
          have e2 := s2 _ _ e
          rw [upd_ne (ne_of_none e2 hq)]
          exact s5 _ _ (sq _ _ e2)
        have s5 : Same H3 (upd H4 t (.tup (iv (M.good.map fun s => s + M.n)))) := s4.trans (Same.upd ht)
        have hy5 := s5 _ _ hy
        refine ⟨y, t, _, _, rfl, rfl, sqt hy5, sqt upd_same, by rw [iv_len, iv_len, List.length_map, sizeLine_eq]; omega, fun hx => ?_, fun hx hz => ?_, fun hx hz p2 hp2 => ?_⟩
        · have h0 : M.good = [] := by
            cases hgd2 : M.good with
            | nil => rfl
            | cons a b => rw [hgd2] at hx; cases hx
          refine fin t _ s5 ?_
          rw [upd_same, hgd, h0]
          rfl
        · exfalso
          apply hx
          cases hgd2 : M.good with
          | nil => rfl
          | cons a b => rw [hgd2] at hz; cases hz
        · refine fin p2 _ (s5.trans (Same.upd hp2)) ?_
          rw [upd_same, hgd, iv_append]
theorem sc_law_with_idle : FnScope ["_law_cup_here", "_law_plain", "_law_many", "_law_ways", "_law_sign"] ["_law_cup_here", "_law_plain"] (defScope (top 58)) := ⟨rfl, rfl, rfl, by decide +kernel, rfl, by decide +kernel, by decide +kernel⟩
def sp_law_with_idle : Sp := fun vs H Q _ => ∃ c p cs M, vs = [.ref c, .ref p] ∧ PlainAt H p cs M ∧ M.n ≤ 9 ∧ CupAt H c ∧ ∀ q xs b H', xs.length = M.k → (∀ x ∈ xs, x < M.n + 1) → SameBut c H H' → CupAt H' c → PlainAt H' q cs (idle M xs b) → Q (.ref q) H'
theorem ok_law_with_idle (T : TX K mg C) : Ok P w K mg base 2 "_law_with_idle" (top 58) ["_law_cup_here", "_law_plain"] sp_law_with_idle := by
  obtain ⟨f, fd, D⟩ := T.f_law_with_idle
  obtain ⟨f1, fd1, D1, G1⟩ := ok_law_bit (P := P) (w := w) (base := base) T
  obtain ⟨f2, fd2, D2, G2⟩ := ok_law_state_count (P := P) (w := w) (base := base) T
  refine ⟨f, fd, D, D.F.ok sc_law_with_idle (fun vs H Q E h => ?_) (fun cdv A outer s H vs Q E hr h => ?_)⟩
  · obtain ⟨c, p, cs, M, rfl, _⟩ := h
    rfl
  · obtain ⟨c, p, cs, M, rfl, hR, hn9, hc, k⟩ := h
    refine ⟨_, (pss_cons (ps_par (i := 2) (j := 3) rfl sc_law_with_idle.nd rfl rfl (by decide) rfl rfl (pa_cons ((pe_call G2 (hr.mono (by decide)) (by rfl) D2.g D2.F.kp D2.b .nil pass0 (pa_cons ((pv 1)) pa_nil))) (pa_cons (pe_dnewK) pa_nil)) (by rfl))
      (pss_cons (ps_for PassesOwn.never rfl (pi_str (pe_dget hr.u1 (pv 1) pe_str (fun _ _ => rfl))) (pg_name (i := 4) sc_law_with_idle.nd rfl (Or.inl rfl)) (pss_one (ps_dput hr.u1 (pv 3) (pv 4) (pe_op op_catA (pe_dget hr.u1 (pe_dget hr.u1 (pv 1) pe_str (fun _ _ => rfl)) (pv 4) (fun _ _ => rfl)) (pe_tup (pa_cons ((pe_call G1 (hr.mono (by decide)) (by rfl) D1.g D1.F.kp D1.b .nil pass0 (pa_cons ((pv 0)) (pa_cons (pe_op op_add (pv 2) pe_int) pa_nil)))) pa_nil))) rfl)))
      (pss_one (ps_ret (pe_disp (pps_cons pe_str (pe_dget hr.u1 (pv 1) pe_str (fun _ _ => rfl)) (pps_cons pe_str ((pv 3)) (pps_cons pe_str (pe_op op_catA (pe_dget hr.u1 (pv 1) pe_str (fun _ _ => rfl)) (pe_op op_rep01 (pe_tup (pa_cons ((pv 2)) pa_nil)) (pe_call G1 (hr.mono (by decide)) (by rfl) D1.g D1.F.kp D1.b .nil pass0 (pa_cons ((pv 0)) (pa_cons (pe_int) pa_nil))))) pps_nil))) (by rfl) (by rfl) (fun z => by cases z) (by decide)))))), ?_⟩
    have g := hR.1
    have W := g.wf
    have hl := g.ltrs
    have hpos := hl.pos
    have hfew := hl.few
    have hn0 := W.n0
    have hgl : M.good.length ≤ 9 := Nat.le_trans (nodup_lt (W.asc.imp fun h => Nat.ne_of_lt h) W.glt) hn9
    refine ⟨_, rfl, p, cs, M, rfl, hR, fun D hD => ⟨_, _, rfl, seq_ ?_⟩⟩
    have s1 : Same H (upd H D (.dK [])) := Same.upd hD
    have hD1 : (upd H D (.dK [])) D = some (.dK []) := upd_same
    have c1 := hc.same s1
    generalize upd H D (.dK []) = H1 at s1 hD1 c1
    obtain ⟨d, y, e1, e2, e3, hm, hy, hrow⟩ := plain_get (hR.same s1)
    have Dc : D ≠ c := cup_ne c1 hD1 fun _ z => nomatch z
    refine ⟨_, rfl, p, _, rfl, e1, txt cs, rfl, ?_⟩
    refine for_it (walk_txt (cs := cs)) (fun i σ H' => ∃ u : Option V, σ = [some (.ref c), some (.ref p), some (.int (M.n : Nat)), some (.ref D), u] ∧ SameBut c H H' ∧ CupAt H' c ∧ IdlePart H' D cs M i)
      ⟨none, rfl, SameBut.of s1, c1, [], [], rfl, rfl, by simp, hD1, .nil⟩ (fun _ _ _ _ _ => True.intro) (fun i x σ H2 H3 hi hP hy => ?_) fun σ H2 hP => ?_
    · obtain ⟨u, rfl, s2, c2, ip⟩ := hP
      obtain ⟨rfl, c0, hc0, rfl⟩ := hy
      rw [List.getElem?_eq_getElem hi] at hc0
      cases hc0
      have hR2 := SameBut.plain hc s2 hR
      obtain ⟨d, y, e1, e2, e3, hm, hy, hrow⟩ := plain_get hR2
      obtain ⟨a, r, q1, q2, q3, q4⟩ := hrow i hi
      refine ⟨_, rfl, p, _, rfl, e2, _, rfl, d, _, rfl, q1, _, rfl, _, rfl, _, _, rfl, rfl, c, M.n + 1, by simp, by omega, by omega, c2, fun b H4 hb s4 c4 => ⟨by rw [sizeLine_eq]; show 1 ≤ _; omega, fun t ht => ?_⟩⟩
      have st : Same H4 (upd H4 t (.tup [.int (b : Nat)])) := Same.upd ht
      have ha4 := SameBut.tup c2 s4 q4
      have hne : iv r ≠ [] := fun z => by
        have := congrArg List.length z
        rw [iv_len, q3] at this
        simp at this
        omega
      refine ⟨a, t, _, _, rfl, rfl, sqt (st _ _ ha4), sqt upd_same, by rw [iv_len, sizeLine_eq]; show _ + 1 ≤ _; omega, fun z => absurd z hne, (fun _ z => by cases z), fun _ _ v hv => ?_⟩
      have s5 : SameBut c H3 (upd (upd H4 t (.tup [.int (b : Nat)])) v (.tup (iv r ++ [.int (b : Nat)]))) := SameBut.same s4 (st.trans (Same.upd hv))
      have c5 := c4.same (st.trans (Same.upd (o := .tup (iv r ++ [.int (b : Nat)])) hv))
      have hv5 : (upd (upd H4 t (.tup [.int (b : Nat)])) v (.tup (iv r ++ [.int (b : Nat)]))) v = some (.tup (iv (r ++ [b]))) := by rw [upd_same, iv_append]; rfl
      generalize upd (upd H4 t (.tup [.int (b : Nat)])) v (.tup (iv r ++ [.int (b : Nat)])) = H5 at s5 c5 hv5
      obtain ⟨H6, d1, d2, d3⟩ := idle_put hl hi (ip.stay (fun kvs e => s5 _ _ Dc e) fun b xs e => SameBut.tup c2 s5 e) q2 hb hv5
      refine ⟨_, rfl, _, rfl, D, H6, rfl, d1, _, rfl, fun b o n e => ?_, ?_, d2⟩
      · rw [d3 b (ne_of_none e hD)]
        exact s5 _ _ n (s2 _ _ n e)
      · obtain ⟨a, b, d, e⟩ := c5
        exact ⟨a, b, d, by rw [d3 c (Ne.symm Dc)]; exact e⟩
    · obtain ⟨u, rfl, s2, c2, as, xs, x1, x2, x3, x4, x5⟩ := hP
      have hwl : M.ways.take cs.length = M.ways := List.take_of_length_le (by have := g.k; unfold Mch.k at this; omega)
      rw [List.take_of_length_le (Nat.le_refl _)] at x4
      rw [hwl] at x5
      have hxk : xs.length = M.k := by rw [x2]; exact g.k.symm
      intro q hq
      have sq : Same H2 (upd H2 q (.dK [])) := Same.upd hq
      have hq3 : (upd H2 q (.dK [])) q = some (.dK []) := upd_same
      have hDq : D ≠ q := ne_of_none x4 hq
      have m3 : ∀ b, MovesAt (upd H2 q (.dK [])) D cs (idle M xs b).ways := fun b => ⟨as, x1, sq _ _ x4, x5.same sq⟩
      have c3 := c2.same sq
      generalize upd H2 q (.dK []) = H3 at sq hq3 m3 c3
      have hR3 := (SameBut.plain hc s2 hR).same sq
      obtain ⟨d, y, e1, e2, e3, hm, hy, hrow⟩ := plain_get hR3
      refine ⟨_, rfl, p, _, rfl, e1, _, rfl, _, rfl, p, _, rfl, e3, _, rfl, by rw [sizeLine_eq]; show 1 ≤ _; omega, fun t ht => ?_⟩
      have st : Same H3 (upd H3 t (.tup [.int (M.n : Nat)])) := Same.upd ht
      refine ⟨_, rfl, c, 2, rfl, by decide, by decide, c3.same st, fun r H4 hr s4 c4 => ?_⟩
      have s34 : SameBut c H3 H4 := fun b o n e => s4 b o n (st _ _ e)
      have ht4 := SameBut.tup (c3.same st) s4 (show (upd H3 t (.tup [.int (M.n : Nat)])) t = some (.tup [.int (M.n : Nat)]) from upd_same)
      have hy4 := SameBut.tup c3 s34 hy
      have fin : ∀ z H5 b, Same H4 H5 → H5 z = some (.tup (iv (idle M xs b).good)) → H5 q = some (.dK []) ∧ ∃ kvs : List (Key × V), [(V.str "signs", V.str (txt cs)), (V.str "ways", .ref D), (V.str "good", .ref z)] = kvs.map (fun kv => (kV kv.1, kv.2)) ∧ kvs.length ≤ 15 ∧ Q (.ref q) (upd H5 q (.dK (mergeK [] kvs))) := by
        intro z H5 b s5 hz
        have hq5 := s5 _ _ (SameBut.dK c3 s34 hq3)
        refine ⟨hq5, [(Sum.inr "signs", .str (txt cs)), (Sum.inr "ways", .ref D), (Sum.inr "good", .ref z)], rfl, by show 3 ≤ 15; decide, ?_⟩
        rw [plain_merge]
        have gt : Good cs (idle M xs b) := ⟨hl, idle_WF W hxk x3, (idle_k W hxk).trans g.k, by rw [idle_n W hxk]; omega⟩
        have s35 : SameBut c H3 H5 := SameBut.same s34 s5
        refine k q xs b _ hxk x3 (fun b o n e => ?_) ?_ (plain_at gt hq5 hDq (SameBut.moves c3 s35 (m3 b)) hz)
        · have e2 := s2 _ _ n e
          rw [upd_ne (ne_of_none e2 hq)]
          exact s35 _ _ n (sq _ _ e2)
        · obtain ⟨a0, a1, a2, e⟩ := c4.same s5
          exact ⟨a0, a1, a2, by rw [upd_ne (fun z => by rw [z, hq5] at e; cases e)]; exact e⟩
      have g0 : (idle M xs false).good = M.good := List.append_nil _
      have g1 : (idle M xs true).good = M.good ++ [M.n] := rfl
      have id0 : ∀ {H : Hp}, Same H H := fun _ _ e => e
      have nil_of : iv M.good = [] → M.good = [] := fun hx => by
        cases hgd2 : M.good with
        | nil => rfl
        | cons a b => rw [hgd2] at hx; cases hx
      refine ⟨t, (r : Int), _, rfl, rfl, ht4, List.cons_ne_nil _ _, by omega, fun hr0 v hv => ?_, fun hr1 => ?_⟩
      · have sv : Same H4 (upd H4 v (.tup [])) := Same.upd hv
        refine ⟨y, v, _, _, rfl, rfl, sqt (sv _ _ hy4), sqt upd_same, by rw [iv_len, sizeLine_eq]; show _ + 0 ≤ _; omega, fun hx => ?_, fun hx _ => ?_, fun _ hz => absurd rfl hz⟩
        · refine fin v _ false sv ?_
          rw [upd_same, g0, nil_of hx]
          rfl
        · refine fin y _ false sv ?_
          rw [g0]
          exact sv _ _ hy4
      · refine ⟨y, t, _, _, rfl, rfl, sqt hy4, sqt ht4, by rw [iv_len, sizeLine_eq]; show _ + 1 ≤ _; omega, fun hx => ?_, (fun _ hz => by cases hz), fun hx _ v hv => ?_⟩
        · refine fin t _ true id0 ?_
          rw [ht4, g1, nil_of hx]
          rfl
        · refine fin v _ true (Same.upd hv) ?_
          rw [upd_same, g1, iv_append]
          rfl
end
end WP

/-! ## P21 -/
set_option Elab.async false
set_option linter.all false
set_option maxRecDepth 100000
set_option maxHeartbeats 4000000
/-! Pairs of states; rows of ints as data. -/
namespace WP
open PySem PySem.Spec PyProof.Rows L2 WR WC
/-! ### lists of rows as data -/
def tupD (r : List Nat) : PyData := .tuple (dints r)
theorem dp_rows {K : PySem.W.Frag} {H : Hp} : ∀ {as : List Addr} {rows : List (List Nat)}, RowsAt H as rows → DpAll K H (as.map V.ref) (rows.map tupD)
  | _, _, .nil => .nil
  | _, _, .cons h t => .cons (dp_tup h) (dp_rows t)
theorem lay_rows : ∀ rows : List (List Nat), PyData.canLayAll0 (rows.map tupD) = true
  | [] => rfl
  | r :: rows => by
    show (PyData.canLay0 (tupD r) && PyData.canLayAll0 (rows.map tupD)) = true
    rw [lay_rows rows, show PyData.canLay0 (tupD r) = PyData.canLayAll0 (dints r) from rfl, lay_ints]
    rfl
theorem depth_rows : ∀ rows : List (List Nat), PyData.depthAll (rows.map tupD) ≤ 2
  | [] => by simp [PyData.depthAll]
  | r :: rows => by
    have h1 := depth_rows rows
    have h2 := depth_ints r
    show PyData.depthAll (tupD r :: rows.map tupD) ≤ 2
    simp only [PyData.depthAll, tupD, PyData.depth]
    omega
theorem shaped_rows (rows : List (List Nat)) : SeqAt.shaped (.list (rows.map tupD)) = true := by
  have h1 := lay_rows rows
  have h2 := depth_rows rows
  unfold SeqAt.shaped
  have e1 : PyData.canLay0 (.list (rows.map tupD)) = true := by
    rw [show PyData.canLay0 (.list (rows.map tupD)) = PyData.canLayAll0 (rows.map tupD) from rfl]
    exact h1
  have e2 : PyData.depth (.list (rows.map tupD)) ≤ 64 := by
    simp only [PyData.depth]
    omega
  rw [e1, decide_eq_true e2]
  rfl
theorem any_rows (rows : List (List Nat)) (r : List Nat) : ((rows.map tupD).any fun z => PyData.eqv z (tupD r)) = decide (r ∈ rows) := by
  rw [List.any_map, Bool.eq_iff_iff, List.any_eq_true, decide_eq_true_iff]
  constructor
  · rintro ⟨x, hx, e⟩
    have e : PyData.eqv (tupD x) (tupD r) = true := e
    rw [tupD, tupD, eqv_tup, decide_eq_true_iff] at e
    exact e ▸ hx
  · intro h
    refine ⟨r, h, ?_⟩
    show PyData.eqv (tupD r) (tupD r) = true
    rw [tupD, eqv_tup, decide_eq_true rfl]
/-! ### lists of pairs -/
def pl (p : Nat × Nat) : List Nat := [p.1, p.2]
theorem pl_inj {p q : Nat × Nat} (h : pl p = pl q) : p = q := by
  obtain ⟨a, b⟩ := p
  obtain ⟨c, d⟩ := q
  simp [pl] at h
  rw [h.1, h.2]
theorem mem_pl {p : Nat × Nat} {O : List (Nat × Nat)} : pl p ∈ O.map pl ↔ p ∈ O := by
  rw [List.mem_map]
  exact ⟨fun ⟨q, hq, e⟩ => pl_inj e ▸ hq, fun h => ⟨p, h, rfl⟩⟩
def PrsAt (H : Hp) (l : Addr) (O : List (Nat × Nat)) : Prop := ∃ as : List Addr, H l = some (.lst (as.map V.ref)) ∧ RowsAt H as (O.map pl)
theorem PrsAt.same {H H' : Hp} {l : Addr} {O : List (Nat × Nat)} (e : Same H H') : PrsAt H l O → PrsAt H' l O
  | ⟨as, h1, h2⟩ => ⟨as, e _ _ h1, h2.same e⟩
theorem PrsAt.get {H : Hp} {l : Addr} {O : List (Nat × Nat)} {i : Nat} {x : Nat × Nat} (h : PrsAt H l O) (hx : O[i]? = some x) : ∃ xs t, H l = some (.lst xs) ∧ xs.length = O.length ∧ xs[i]? = some (.ref t) ∧ PairAt H t x.1 x.2 := by
  obtain ⟨as, h1, h2⟩ := h
  have hl := h2.len
  rw [List.length_map] at hl
  have hi := (List.getElem?_eq_some_iff.mp hx).1
  obtain ⟨r, q1, q2⟩ := h2.get (i := i) (List.getElem?_eq_getElem (by omega))
  rw [List.getElem?_map, hx] at q1
  cases q1
  exact ⟨_, as[i], h1, by rw [List.length_map, hl], by rw [List.getElem?_map, List.getElem?_eq_getElem (by omega)]; rfl, q2⟩
section
variable {P : Program} {w : World} {K : PySem.W.Frag} {mg : Str → Option Value} {C : Addr} {base : Heap}
theorem sc_pairs_led : FnScope ["one", "other", "found", "at", "letter", "pair"] ["one", "other"] (defScope (top 29)) := ⟨rfl, rfl, rfl, by decide +kernel, rfl, by decide +kernel, by decide +kernel⟩
def sp_pairs_led (C : Addr) : Sp := fun vs H Q _ => ∃ p q cs M M', vs = [.ref p, .ref q] ∧ RdrAt C H p cs M ∧ RdrAt C H q cs M' ∧ M.n * M'.n ≤ 60 ∧ ∀ L H', Same H H' → PrsAt H' L (pp M M' (M.n * M'.n)) → Q (.ref L) H'
theorem ok_pairs_led (T : TX K mg C) : Ok P w K mg base 2 "pairs_led" (top 29) ["one", "other"] (sp_pairs_led C) := by
  obtain ⟨f, fd, D⟩ := T.f_pairs_led
  obtain ⟨f1, fd1, D1, G1⟩ := ok_moved_pair (P := P) (w := w) (base := base) T
  refine ⟨f, fd, D, D.F.ok sc_pairs_led (fun vs H Q E h => ?_) (fun cdv A outer s H vs Q E hr h => ?_)⟩
  · obtain ⟨p, q, cs, M, M', rfl, _⟩ := h
    rfl
  · obtain ⟨p, q, cs, M, M', rfl, hR, hR', hnn, k⟩ := h
    obtain ⟨tm, gM⟩ := T.c_MAX_STATES
    refine ⟨_, (pss_cons (ps_if (PW.pt (pw_or (pt_not (pt_val (pe_isR T (pv 1)))) (pw_or1 (pt_cmpR op_ne (pe_fldR T (pv 0)) (pe_fldR T (pv 1)) (nomark _))))) (pss_one ps_never) pss_nil)
      (pss_cons (ps_par (i := 2) (j := 3) rfl sc_pairs_led.nd rfl rfl (by decide) rfl rfl (pa_cons (pe_lst (pa_cons (pe_tup (pa_cons (pe_int) (pa_cons (pe_int) pa_nil))) pa_nil)) (pa_cons (pe_int) pa_nil)) (by rfl))
      (pss_cons (ps_while PassesOwn.never (pt_cmpR op_lt (pv 3) (pe_lenQ T (pv 2)) (nomark _)) (pss_cons (ps_for PassesOwn.never rfl (pi_str (pe_fldR T (pv 0))) (pg_name (i := 4) sc_pairs_led.nd rfl (Or.inl rfl)) (pss_cons ((ps_set (i := 5) sc_pairs_led.nd rfl (Or.inl rfl) ((pe_call G1 (hr.mono (by decide)) (by rfl) D1.g D1.F.kp D1.b .nil pass0 (pa_cons ((pv 0)) (pa_cons ((pv 1)) (pa_cons ((pv 4)) (pa_cons (pe_ix (ix_listQ K rfl) (pv 2) (pv 3) (fun _ _ => rfl)) pa_nil))))))))
      (pss_one ((ps_set (i := 2) sc_pairs_led.nd rfl (Or.inl rfl) (pe_ifExp (pt_cmpR (op_inD hr.u65) (pv 5) (pv 2) rfl) (pv 2) (pe_lst (StX.pa_star (pv 2) (pa_cons ((pv 5)) pa_nil)))))))))
      (pss_cons (ps_if (pt_cmpR op_gt (pe_lenQ T (pv 2)) (pe_glob (v := .int 60) (by rfl) gM ⟨_, rfl⟩) (nomark _)) (pss_one ps_never) pss_nil)
      (pss_one ((ps_set (i := 3) sc_pairs_led.nd rfl (Or.inl rfl) (pe_op op_add (pv 3) pe_int)))))))
      (pss_one (ps_ret (pv 2)))))), ?_⟩
    have hg := hR.good
    have W := hg.wf
    have W' := hR'.good.wf
    have hkk : M.k = cs.length := hg.k
    obtain ⟨dx, d, y, h1, h2, h3, hrow⟩ := hR.row
    obtain ⟨dx', d', y', h1', h2', h3', hrow'⟩ := hR'.row
    refine ⟨_, rfl, q, dx', _, rfl, h1', true, rfl, iteF ⟨_, rfl, p, dx, _, _, rfl, h1, lk_letters _ _ _, _, rfl, q, dx', _, _, rfl, h1', lk_letters _ _ _, rfl, _, rfl, ?_⟩⟩
    rw [decide_eq_true rfl]
    have two : (2 : Nat) ≤ sizeLine := by rw [sizeLine_eq]; omega
    refine iteF (seq_ ⟨two, fun t0 ht0 => ⟨by rw [sizeLine_eq]; show 1 ≤ _; omega, fun L hL => ⟨_, _, rfl, seq_ ?_⟩⟩⟩)
    have s2 : Same H (upd (upd H t0 (.tup [.int 0, .int 0])) L (.lst [.ref t0])) := (Same.upd ht0).trans (Same.upd hL)
    have hp2 : PrsAt (upd (upd H t0 (.tup [.int 0, .int 0])) L (.lst [.ref t0])) L (pp M M' 0) := ⟨[t0], upd_same, .cons ((Same.upd hL) _ _ upd_same) .nil⟩
    generalize upd (upd H t0 (.tup [.int 0, .int 0])) L (.lst [.ref t0]) = H2 at s2 hp2
    have hlen : ∀ n, (pp M M' n).length ≤ M.n * M'.n := fun n => pp_len W W' n
    refine while_by (fun σ H' => ∃ (n : Nat) (l : Addr) (u v : Option V), σ = [some (.ref p), some (.ref q), some (.ref l), some (.int (n : Int)), u, v] ∧ Same H H' ∧ PrsAt H' l (pp M M' n))
      (fun σ _ => match σ with | [_, _, _, some (.int n), _, _] => M.n * M'.n - n.toNat | _ => 0) ⟨0, L, none, none, rfl, s2, hp2⟩ (fun σ H' h => ?_) lt_mono
    obtain ⟨n, l, u, v, rfl, s3, hp3⟩ := h
    obtain ⟨as, hla, hra⟩ := id hp3
    have hal : as.length = (pp M M' n).length := by have := hra.len; rw [List.length_map] at this; exact this
    refine ⟨_, rfl, _, rfl, l, _, rfl, .inl (sql hla), _, _, rfl, rfl, _, rfl, ?_⟩
    rw [List.length_map, hal]
    by_cases hn : n < (pp M M' n).length
    · rw [decide_eq_true (show (n : Int) < ((pp M M' n).length : Nat) by omega)]
      have hx : (pp M M' n)[n]? = some (pp M M' n)[n] := List.getElem?_eq_getElem hn
      have hxlt := pp_lt W W' n _ (List.getElem_mem hn)
      have hstep : pp M M' (n + 1) = pushs id (pp M M' n) (scQ M M' (pp M M' n)[n]) := bq_some hx
      generalize hxe : (pp M M' n)[n] = x at hx hxlt hstep
      refine iteT (seq_ ⟨_, rfl, p, dx, _, _, rfl, s3 _ _ h1, lk_letters _ _ _, txt cs, rfl, ?_⟩)
      have hscl : (scQ M M' x).length = cs.length := by rw [← hkk]; simp [scQ]
      have hsci : ∀ i (hi : i < cs.length), (scQ M M' x)[i]'(by rw [hscl]; exact hi) = (M.d i x.1, M'.d i x.2) := fun i hi => by simp [scQ]
      have hql : ∀ i, (pushs id (pp M M' n) ((scQ M M' x).take i)).length ≤ M.n * M'.n := fun i => by
        have h1 := pushs_take_le (κ := (id : Nat × Nat → Nat × Nat)) (q := pp M M' n) (xs := scQ M M' x) (i := i)
        rw [← hstep] at h1
        exact Nat.le_trans h1 (hlen _)
      refine for_it (walk_txt (cs := cs)) (fun i σ H' => ∃ (l : Addr) (v w : Option V), σ = [some (.ref p), some (.ref q), some (.ref l), some (.int (n : Int)), v, w] ∧ Same H H' ∧ PrsAt H' l (pushs id (pp M M' n) ((scQ M M' x).take i)))
        ⟨l, _, _, rfl, s3, hp3⟩ (fun _ _ _ _ _ => True.intro) (fun i z σ H8 H9 hi hP hy => ?_) fun σ H8 hP => ?_
      · obtain ⟨l, v, w, rfl, s8, hp8⟩ := hP
        obtain ⟨rfl, c, hc, rfl⟩ := hy
        rw [List.getElem?_eq_getElem hi] at hc
        cases hc
        have htk : (scQ M M' x).take (i + 1) = (scQ M M' x).take i ++ [(M.d i x.1, M'.d i x.2)] := by
          rw [List.take_add_one, List.getElem?_eq_getElem (by rw [hscl]; exact hi), hsci i hi]
          rfl
        have hps : pushs id (pp M M' n) ((scQ M M' x).take (i + 1)) = push id (pushs id (pp M M' n) ((scQ M M' x).take i)) (M.d i x.1, M'.d i x.2) := by
          rw [htk]
          exact pushs_snoc _ _ _
        have hqn : (pushs id (pp M M' n) ((scQ M M' x).take i))[n]? = some x := by
          obtain ⟨t, e⟩ := pushs_pre (κ := (id : Nat × Nat → Nat × Nat)) ((scQ M M' x).take i) (pp M M' n)
          rw [← e, List.getElem?_append_left hn]
          exact hx
        have hq36 := hql i
        generalize pushs id (pp M M' n) ((scQ M M' x).take i) = qq at hp8 hps hq36 hqn
        obtain ⟨xs, t, g1, g2, g3, g4⟩ := hp8.get hqn
        refine seq_ ⟨_, rfl, _, rfl, _, rfl, _, rfl, _, rfl, l, _, n, _, rfl, rfl, sql g1, atI_nat g3, p, q, cs, M, M', i, t, x.1, x.2, hi, rfl, hR.same s8, hR'.same s8, g4, hxlt.1, hxlt.2, fun b hb => ?_⟩
        have t9 : Same H9 (upd H9 b (.tup [.int (M.d i x.1 : Nat), .int (M'.d i x.2 : Nat)])) := Same.upd hb
        have s9 := s8.trans t9
        have hb9 : (upd H9 b (.tup [.int (M.d i x.1 : Nat), .int (M'.d i x.2 : Nat)])) b = some (.tup (iv (pl (M.d i x.1, M'.d i x.2)))) := upd_same
        have hp9 := hp8.same t9
        generalize upd H9 b (.tup [.int (M.d i x.1 : Nat), .int (M'.d i x.2 : Nat)]) = HA at s9 hb9 hp9
        obtain ⟨as9, ha9, hr9⟩ := id hp9
        have hal9 : as9.length = qq.length := by have := hr9.len; rw [List.length_map] at this; exact this
        refine ⟨_, rfl, _, rfl, tupD (pl (M.d i x.1, M'.d i x.2)), (qq.map pl).map tupD, dp_tup hb9, .lst (sql ha9) (dp_rows hr9), shaped_ints _, shaped_rows _, _, rfl, ?_⟩
        rw [any_rows]
        by_cases hm : (M.d i x.1, M'.d i x.2) ∈ qq
        · rw [decide_eq_true (mem_pl.mpr hm)]
          refine iteT ⟨_, rfl, l, _, _, rfl, s9, ?_⟩
          rw [hps, push_old (by simpa using hm)]
          exact hp9
        · rw [decide_eq_false (fun z => hm (mem_pl.mp z))]
          refine iteF ⟨_, rfl, l, _, rfl, .inr (sql ha9), _, rfl, by rw [List.length_append, List.length_map, sizeLine_eq]; show _ + 1 ≤ _; omega, fun l' hl' => ⟨l', _, _, rfl, s9.trans (Same.upd hl'), as9 ++ [b], ?_, ?_⟩⟩
          · rw [upd_same, List.map_append]
            rfl
          · rw [hps, push_new (by simpa using hm), List.map_append]
            exact rows_snoc (hr9.same (Same.upd hl')) ((Same.upd hl') _ _ hb9)
      · obtain ⟨l, v, w, rfl, s8, hp8⟩ := hP
        rw [List.take_of_length_le (by omega), ← hstep] at hp8
        obtain ⟨as8, ha8, hr8⟩ := id hp8
        have hal8 : as8.length = (pp M M' (n + 1)).length := by have := hr8.len; rw [List.length_map] at this; exact this
        have hl8 := hlen (n + 1)
        refine seq_ ⟨_, rfl, l, _, rfl, .inl (sql ha8), _, _, rfl, rfl, _, rfl, ?_⟩
        rw [List.length_map, hal8, decide_eq_false (show ¬ (((pp M M' (n + 1)).length : Nat) : Int) > 60 by omega)]
        refine iteF ⟨_, rfl, _, _, rfl, rfl, ⟨n + 1, l, _, _, rfl, s8, hp8⟩, ?_⟩
        have := hlen n
        show M.n * M'.n - ((n : Int) + 1).toNat < M.n * M'.n - (n : Int).toNat
        omega
    · rw [decide_eq_false (show ¬ ((n : Int) < ((pp M M' n).length : Nat)) by omega)]
      refine iteF ⟨_, rfl, ?_⟩
      rw [pp_done W W' (by omega)] at hp3
      exact k l _ s3 hp3
end
end WP

/-! ## P22 -/
set_option Elab.async false
set_option linter.all false
set_option maxRecDepth 100000
set_option maxHeartbeats 4000000
/-! The machine of pairs as a reader. -/
namespace WP
open PySem PySem.Spec PyProof.Rows L2 WR WC
theorem valV_at {α : Type} [DecidableEq α] {k : α} {v : V} : ∀ {kvs : List (α × V)} {i : Nat}, kvs[i]? = some (k, v) → (kvs.map (·.1)).Nodup → valV kvs k = some v
  | [], _, h, _ => by simp at h
  | y :: kvs, 0, h, _ => by
    simp at h
    subst h
    simp [valV]
  | y :: kvs, i + 1, h, hn => by
    obtain ⟨h1, h2⟩ := List.nodup_cons.mp hn
    have h : kvs[i]? = some (k, v) := by simpa using h
    have ih := valV_at h h2
    have hne : ¬ y.1 = k := fun e => h1 (by show y.1 ∈ _; rw [e]; exact List.mem_map.mpr ⟨_, List.mem_of_getElem? h, rfl⟩)
    unfold valV at ih ⊢
    rw [List.find?_cons, decide_eq_false hne]
    exact ih
theorem putK_end {α : Type} [DecidableEq α] {kvs : List (α × V)} {k : α} {v : V} (h : k ∉ kvs.map (·.1)) : putK kvs k v = kvs ++ [(k, v)] := by
  unfold putK
  rw [if_neg]
  intro q
  obtain ⟨x, hx, e⟩ := List.any_eq_true.mp q
  exact h (List.mem_map.mpr ⟨x, hx, of_decide_eq_true e⟩)
/-- the places of pairs -/
def plT (O : List (Nat × Nat)) (i : Nat) : List (List Key × V) := (List.range i).map fun j => (pk (O.getD j (0, 0)), V.int (j : Nat))
theorem plT_len (O : List (Nat × Nat)) (i : Nat) : (plT O i).length = i := by simp [plT]
theorem plT_keys {O : List (Nat × Nat)} {i : Nat} (hi : i ≤ O.length) : (plT O i).map (·.1) = (O.take i).map pk := by
  refine List.ext_getElem (by simp [plT]; omega) fun j h1 h2 => ?_
  have hj : j < O.length := by simp [plT] at h1; omega
  simp only [plT, List.map_map, List.getElem_map, List.getElem_range, Function.comp, List.getElem_take]
  rw [List.getD_eq_getElem?_getD, List.getElem?_eq_getElem hj]
  rfl
theorem pk_nodup {O : List (Nat × Nat)} (h : O.Nodup) : (O.map pk).Nodup := by
  rw [List.Nodup, List.pairwise_map]
  exact h.imp fun hne e => hne (pk_inj e)
theorem plT_put {O : List (Nat × Nat)} (hn : O.Nodup) {i : Nat} (hi : i < O.length) : plT O (i + 1) = putK (plT O i) (pk O[i]) (.int (i : Nat)) := by
  rw [putK_end]
  · unfold plT
    rw [List.range_succ, List.map_append]
    congr 1
    show [(pk (O.getD i (0, 0)), V.int (i : Nat))] = [_]
    rw [List.getD_eq_getElem?_getD, List.getElem?_eq_getElem hi]
    rfl
  · rw [plT_keys (Nat.le_of_lt hi)]
    intro q
    obtain ⟨p, hp, e⟩ := List.mem_map.mp q
    have e := pk_inj e
    subst e
    obtain ⟨j, hj, e2⟩ := List.getElem_of_mem hp
    rw [List.length_take] at hj
    rw [List.getElem_take] at e2
    have := (List.getElem_inj hn).mp e2
    omega
theorem plT_get {O : List (Nat × Nat)} (hn : O.Nodup) {x : Nat × Nat} (hx : x ∈ O) {H : Hp} {a b : Addr} (ha : H a = some (.dT (plT O O.length))) (hb : PairAt H b x.1 x.2) : DGet H a (.ref b) (some (.int (O.idxOf x : Nat))) := by
  have h1 : O.idxOf x < O.length := List.idxOf_lt_length_of_mem hx
  have e1 : O[O.idxOf x] = x := List.getElem_idxOf h1
  have e : valV (plT O O.length) (pk x) = some (.int (O.idxOf x : Nat)) := by
    refine valV_at (i := O.idxOf x) ?_ ?_
    · unfold plT
      rw [List.getElem?_map, List.getElem?_range h1]
      show some (pk (O.getD (O.idxOf x) (0, 0)), V.int _) = _
      rw [List.getD_eq_getElem?_getD, List.getElem?_eq_getElem h1, e1]
      rfl
    · rw [plT_keys (Nat.le_refl _), List.take_of_length_le (Nat.le_refl _)]
      exact pk_nodup hn
  rw [← e]
  exact DGet.t (k := pk x) ha hb
/-- a dict comprehension with tuples as keys whose dict so far is acc i -/
theorem dcT_acc {J : It} {n : Nat} {G : Hp → Prop} {Y : Nat → Hp → V → Hp → Prop} {g : TG} {tk tv : TE} {vs : List Nat} {σ : L2.St} {H1 : Hp} {D : Addr} {Qd : Hp → Prop} (w : Walk J n G Y) (hD : H1 D = none) (acc : Nat → List (List Key × V)) (h0 : acc 0 = []) (hz : ∀ i, i < n → (acc i).length < sizeLine) (hG : ∀ H, Same H1 H → G H)
    (hs : ∀ (i : Nat) (x : V) (H H' : Hp) (Nx : Hp → Prop), i < n → Same H1 H → H D = some (.dT (acc i)) → Y i H x H' → (∀ (b : Addr) (z : V) (H5 : Hp) (k : List Key), H5 b = some (.tup (k.map kV)) → acc (i + 1) = putK (acc i) k z → H5 D = some (.dT (acc i)) → Same H1 H5 → PutT D Nx (.ref b) z H5) →
      g x (wipe σ vs) H' fun σ2 H2 => wipe σ2 vs = wipe σ vs ∧ tk σ2 H2 fun y H4 => tv σ2 H4 fun z H5 => PutT D Nx y z H5)
    (hd : ∀ H, Same H1 H → H D = some (.dT (acc n)) → Qd H) :
    ∃ W : Nat → Nat → Hp → Prop, (∃ m, W 0 m (upd H1 D (.dT []))) ∧ ∀ i m H, W i m H →
      (J.stop i H ∧ Qd H) ∨ (J.go i H ∧ ∃ Nx : Hp → Prop, (∀ H', Nx H' → ∃ m', m' < m ∧ W (i + 1) m' H') ∧ ∀ x H', J.yld i H x H' → g x (wipe σ vs) H' fun σ2 H2 => wipe σ2 vs = wipe σ vs ∧
        tk σ2 H2 fun y H4 => tv σ2 H4 fun z H5 => PutT D Nx y z H5) := by
  have put : ∀ {H : Hp} (o : HO), Same H1 H → Same H1 (upd H D o) := fun {H} o h b u e => by
    rw [upd_ne (ne_of_none e hD)]
    exact h b u e
  refine ⟨fun i m H => m = n - i ∧ i ≤ n ∧ H D = some (.dT (acc i)) ∧ Same H1 H, ⟨_, rfl, Nat.zero_le _, by rw [h0]; exact upd_same, Same.upd hD⟩, ?_⟩
  rintro i m H ⟨rfl, hi, p, sm⟩
  by_cases hlt : i < n
  · refine .inr ⟨w.goes i H hlt (hG H sm), fun H' => H' D = some (.dT (acc (i + 1))) ∧ Same H1 H', fun H' p' => ⟨n - (i + 1), by omega, rfl, hlt, p'⟩, fun x H' y => ?_⟩
    have key := hs i x H H' (fun H' => H' D = some (.dT (acc (i + 1))) ∧ Same H1 H') hlt sm p (w.yields i H x H' hlt (hG H sm) y) fun b z H5 k eb ea e5 s5 => by
      refine ⟨_, k, b, rfl, eb, e5, hz i hlt, ?_, put _ s5⟩
      rw [upd_same, ea]
    exact key
  · have e : i = n := by omega
    subst e
    exact .inl ⟨w.stops H (hG H sm), hd H sm p⟩
theorem both_good {cs : List Nat} {M M' : Mch} (g : Good cs M) (g' : Good cs M') (h : M.n * M'.n ≤ 60) : Good cs (both M M') :=
  ⟨g.ltrs, orm_WF g.wf (pp_prs g.wf g'.wf), orm_k.trans g.k, by
    show (orm M M' (pp M M' (M.n * M'.n))).n ≤ 60
    rw [orm_n g.wf]
    exact Nat.le_trans (pp_len g.wf g'.wf _) h⟩
section
variable {P : Program} {w : World} {K : PySem.W.Frag} {mg : Str → Option Value} {C : Addr} {base : Heap}
theorem sc_reader_of : FnScope ["one", "other", "pairs", "good", "places", "place", "pair", "letters", "letter", "moves"] ["one", "other", "pairs", "good"] (defScope (top 30)) := ⟨rfl, rfl, rfl, by decide +kernel, rfl, by decide +kernel, by decide +kernel⟩
def sp_reader_of (C : Addr) : Sp := fun vs H Q _ => ∃ p q l g cs M M', vs = [.ref p, .ref q, .ref l, .ref g] ∧ RdrAt C H p cs M ∧ RdrAt C H q cs M' ∧ M.n * M'.n ≤ 60 ∧ PrsAt H l (pp M M' (M.n * M'.n)) ∧ PrsAt H g ((pp M M' (M.n * M'.n)).filter fun p => M.ok p.1 || M'.ok p.2) ∧
  ∀ r H', Same H H' → RdrAt C H' r cs (both M M') → Q (.ref r) H'
theorem ok_reader_of (T : TX K mg C) : Ok P w K mg base 7 "reader_of" (top 30) ["one", "other", "pairs", "good"] (sp_reader_of C) := by
  obtain ⟨f, fd, D⟩ := T.f_reader_of
  obtain ⟨f1, fd1, D1, G1⟩ := ok_m_init (P := P) (w := w) (base := base) T
  obtain ⟨f2, fd2, D2, G2⟩ := ok_moved_pair (P := P) (w := w) (base := base) T
  refine ⟨f, fd, D, D.F.ok sc_reader_of (fun vs H Q E h => ?_) (fun cdv A outer s H vs Q E hr h => ?_)⟩
  · obtain ⟨p, q, l, g, cs, M, M', rfl, _⟩ := h
    rfl
  · obtain ⟨p, q, l, gd, cs, M, M', rfl, hR, hR', hnn, hpl, hpg, k⟩ := h
    refine ⟨_, (pss_cons ((ps_set (i := 4) sc_reader_of.nd rfl (Or.inr rfl) ((pe_dcT (own := [("place", 5), ("pair", 6)]) (g := gTup K 2 (gCons (gName 5) (gCons (gName 6) (gNil)))) rfl hr.u1 sc_reader_of.nd (pi_enum (by rfl) T.b_enumerate (pa_cons (pv 2) pa_nil)) (blkOk_by (N := ["one", "other", "pairs", "good", "places", "place", "pair", "letters", "letter", "moves"]) (sc := defScope (top 30)) (by decide +kernel)) (fun _ _ _ _ _ => pg_tup rfl (pgs_cons (pg_name (i := 5) sc_reader_of.nd rfl (Or.inl rfl)) (pgs_cons (pg_name (i := 6) sc_reader_of.nd rfl (Or.inl rfl)) (pgs_nil)))) (fun _ _ _ _ _ => (pv 6)) (fun _ _ _ _ _ => (pv 5))))))
      (pss_cons ((ps_set (i := 7) sc_reader_of.nd rfl (Or.inl rfl) (pe_fldR T (pv 0))))
      (pss_cons ((ps_setDc (i := 9) (own := [("letter", 8)]) (g := gName 8) (tt := tYes) rfl sc_reader_of.nd rfl rfl (sw_trueD rfl rfl rfl (by decide +kernel)) (pi_str (pv 7)) (blkOk_by (N := ["one", "other", "pairs", "good", "places", "place", "pair", "letters", "letter", "moves"]) (sc := defScope (top 30)) (by decide +kernel)) (fun _ _ _ _ _ => pg_name (i := 8) sc_reader_of.nd rfl (Or.inr rfl)) (fun _ _ _ _ _ => pts_nil) (fun _ _ _ _ _ => (pv 8)) (fun _ _ _ _ _ => pe_tupQ T (pe_lc (own := [("pair", 6)]) (g := gName 6) (tt := tYes) rfl sc_reader_of.nd (pi_listQ K rfl (pv 2)) (blkOk_re (N := ["one", "other", "pairs", "good", "places", "place", "pair", "letters", "letter", "moves"]) (S := cScope (stExpr (top 30) 2)) rfl rfl (by decide +kernel)) (fun _ _ _ _ _ => pg_name (i := 6) sc_reader_of.nd rfl (Or.inl rfl)) (fun _ _ _ _ _ => pts_nil) (fun _ _ _ _ _ => pe_dget hr.u1 (pv 4) (pe_call G2 (hr.mono (by decide)) (by rfl) D2.g D2.F.kp D2.b .nil pass0 (pa_cons ((pv 0)) (pa_cons ((pv 1)) (pa_cons ((pv 8)) (pa_cons ((pv 6)) pa_nil))))) (fun _ _ => rfl))))))
      (pss_one (ps_ret (pe_make (C := C) ⟨T.mkC, D1.at_, D1.fn, T.kC⟩ G1 hr (by rfl) T.gC D1.b .nil pass0 (pa_cons ((pv 7)) (pa_cons ((pv 9)) (pa_cons (pe_tupQ T (pe_lc (own := [("pair", 6)]) (g := gName 6) (tt := tYes) rfl sc_reader_of.nd (pi_list (pv 3)) (blkOk_by (N := ["one", "other", "pairs", "good", "places", "place", "pair", "letters", "letter", "moves"]) (sc := defScope (top 30)) (by decide +kernel)) (fun _ _ _ _ _ => pg_name (i := 6) sc_reader_of.nd rfl (Or.inl rfl)) (fun _ _ _ _ _ => pts_nil) (fun _ _ _ _ _ => pe_dget hr.u1 (pv 4) (pv 6) (fun _ _ => rfl)))) pa_nil))))))))), ?_⟩
    have hg := hR.good
    have W := hg.wf
    have W' := hR'.good.wf
    have hfew := hg.ltrs.few
    have hkk : M.k = cs.length := hg.k
    have hO := pp_prs W W'
    have hOl := pp_len W W' (M.n * M'.n)
    have hGb := both_good hg hR'.good hnn
    have hbw : ∀ a, a < M.k → (both M M').ways[a]? = some ((pp M M' (M.n * M'.n)).map fun p => (pp M M' (M.n * M'.n)).idxOf (M.d a p.1, M'.d a p.2)) := fun a ha => orm_way ha
    have hbg : (both M M').good = ((pp M M' (M.n * M'.n)).filter fun p => M.ok p.1 || M'.ok p.2).map fun p => (pp M M' (M.n * M'.n)).idxOf p := rfl
    obtain ⟨dx, d, y, h1, h2, h3, hrow⟩ := hR.row
    generalize pp M M' (M.n * M'.n) = O at hO hOl hbw hbg hpl hpg
    obtain ⟨as, hl, ra⟩ := id hpl
    have hal : as.length = O.length := by have := ra.len; rw [List.length_map] at this; exact this
    have rget : ∀ {H' : Hp} {i : Nat} (hi : i < O.length), Same H H' → PairAt H' (as[i]'(by omega)) O[i].1 O[i].2 := fun {H' i} hi s => by
      obtain ⟨r, q1, q2⟩ := (ra.same s).get (i := i) (List.getElem?_eq_getElem (by omega))
      rw [List.getElem?_map, List.getElem?_eq_getElem hi] at q1
      cases q1
      exact q2
    refine seq_ ⟨_, rfl, l, _, rfl, sql hl, fun D hD => dcT_acc (walk_enum (xs := as.map V.ref)) hD (plT O) rfl (fun i hi => by rw [plT_len, sizeLine_eq]; rw [List.length_map] at hi; omega) (fun _ e => sql_same e hl) (fun i c H4 H5 Nx hi s4 hD4 hy kk => ?_) fun H4 s4 hD4 => ?_⟩
    · obtain ⟨t, a, b, rfl, ht, rfl, e1, e2⟩ := hy
      rw [List.length_map] at hi
      dsimp only at e1 e2
      rw [List.getElem?_map, List.getElem?_eq_getElem hi] at e2
      cases e1
      cases e2
      refine ⟨t, _, rfl, sqt upd_same, rfl, _, _, rfl, _, _, rfl, rfl, rfl, _, rfl, _, rfl, ?_⟩
      refine kk _ _ _ (pk (O[i]'(by omega))) ?_ (plT_put hO.nodup (by omega)) (by rw [upd_ne (ne_of_none hD4 ht)]; exact hD4) (s4.trans (Same.upd ht))
      exact rget (by omega) (s4.trans (Same.upd ht))
    rw [List.length_map, hal] at hD4
    have hl4 := s4 _ _ hl
    refine seq_ ⟨_, rfl, p, dx, _, _, rfl, s4 _ _ h1, lk_letters _ _ _, seq_ ?_⟩
    refine ⟨_, rfl, txt cs, rfl, fun D2 hD2 => dc_moves (walk_txt (cs := cs)) hD2 hg.ltrs.nodup (rows := (both M M').ways) hGb.k hfew (fun _ _ => True.intro) (fun i c H6 H7 Nx hi s6 hD6 hy kk => ?_) fun H6 s6 hm6 => ?_⟩
    · obtain ⟨rfl, c0, hc0, rfl⟩ := hy
      rw [List.getElem?_eq_getElem hi] at hc0
      cases hc0
      have s46 := s4.trans s6
      have hl6 := s6 _ _ hl4
      have hD6' := s6 _ _ hD4
      have hik : i < M.k := by omega
      refine ⟨rfl, _, rfl, _, rfl, l, rfl, ⟨_, sql hl6⟩, fun L hL => lc_map (walk_list (xs := as.map V.ref)) hL (iv (O.map fun p => O.idxOf (M.d i p.1, M'.d i p.2))) (by rw [iv_len, List.length_map, List.length_map, hal]) (by rw [List.length_map]; omega) (fun _ e => sql_same e hl6) (fun j z H8 H9 Nx2 hj s8 hL8 hy2 kk2 => ?_) fun H8 s8 hL8 => ?_⟩
      · obtain ⟨rfl, e⟩ := hy2
        rw [List.length_map] at hj
        rw [List.getElem?_map, List.getElem?_eq_getElem hj] at e
        cases e
        have hjO : j < O.length := by omega
        have s48 := s46.trans s8
        have hlt := hO.lt _ (List.getElem_mem hjO)
        refine ⟨rfl, _, rfl, _, rfl, _, rfl, _, rfl, _, rfl, p, q, cs, M, M', i, as[j], O[j].1, O[j].2, hi, rfl, hR.same s48, hR'.same s48, rget hjO s48, hlt.1, hlt.2, fun b hb => ?_⟩
        have tb : Same H9 (upd H9 b (.tup [.int (M.d i O[j].1 : Nat), .int (M'.d i O[j].2 : Nat)])) := Same.upd hb
        refine ⟨D, _, rfl, plT_get hO.nodup (hO.closed _ (List.getElem_mem hjO) i hik) (tb _ _ (s8 _ _ hD6')) upd_same, ?_⟩
        refine lc_fin (n := O.length) (by rw [iv_len, List.length_map]) (by omega) hjO (fun H4 => kk2 H4) (tb _ _ hL8) (s8.trans tb) ?_
        rw [iv_get (by rw [List.length_map]; exact hjO), List.getElem_map]
      · refine .inl ⟨L, _, rfl, sql hL8, fun t ht => ?_⟩
        obtain ⟨kvs, hkvs⟩ := hD6
        have s9 : Same H7 (upd H8 t (.tup (iv (O.map fun p => O.idxOf (M.d i p.1, M'.d i p.2))))) := s8.trans (Same.upd ht)
        refine kk _ _ _ rfl ⟨t, rfl, ?_⟩ ((s9 _ _ hkvs).trans hkvs.symm) (s6.trans s9) fun b xs e => s9 _ _ e
        rw [upd_same, (List.getElem?_eq_some_iff.mp (hbw i hik)).2]
    · have s46 := s4.trans s6
      obtain ⟨gs, hgl, rg⟩ := hpg.same s46
      have hD6 := s6 _ _ hD4
      have hgs : gs.length = (O.filter fun p => M.ok p.1 || M'.ok p.2).length := by have := rg.len; rw [List.length_map] at this; exact this
      have hfl := List.length_filter_le (fun p : Nat × Nat => M.ok p.1 || M'.ok p.2) O
      have hfm : ∀ x ∈ (O.filter fun p => M.ok p.1 || M'.ok p.2), x ∈ O := fun x hx => (List.mem_filter.mp hx).1
      generalize (O.filter fun p => M.ok p.1 || M'.ok p.2) = F at hbg rg hgs hfl hfm
      refine ⟨_, rfl, _, rfl, _, rfl, gd, rfl, ⟨_, sql hgl⟩, fun L hL => lc_map (walk_list (xs := gs.map V.ref)) hL (iv (F.map fun p => O.idxOf p)) (by rw [iv_len, List.length_map, List.length_map, hgs]) (by rw [List.length_map]; omega) (fun _ e => sql_same e hgl) (fun j z H8 H9 Nx2 hj s8 hL8 hy2 kk2 => ?_) fun H8 s8 hL8 => ?_⟩
      · obtain ⟨rfl, e⟩ := hy2
        rw [List.length_map] at hj
        rw [List.getElem?_map, List.getElem?_eq_getElem hj] at e
        cases e
        have hjF : j < F.length := by omega
        obtain ⟨r, q1, q2⟩ := (rg.same s8).get (i := j) (List.getElem?_eq_getElem hj)
        rw [List.getElem?_map, List.getElem?_eq_getElem hjF] at q1
        cases q1
        refine ⟨rfl, _, rfl, _, rfl, D, _, rfl, plT_get hO.nodup (hfm _ (List.getElem_mem hjF)) (s8 _ _ hD6) q2, ?_⟩
        refine lc_fin (n := F.length) (by rw [iv_len, List.length_map]) (by omega) hjF (fun H4 => kk2 H4) hL8 s8 ?_
        rw [iv_get (by rw [List.length_map]; exact hjF), List.getElem_map]
      · refine .inl ⟨L, _, rfl, sql hL8, fun t ht => ?_⟩
        have s10 : Same H6 (upd H8 t (.tup (iv (F.map fun p => O.idxOf p)))) := s8.trans (Same.upd ht)
        exact mkR_at (M := both M M') hGb (hm6.same s10) (by rw [upd_same, hbg]) fun r H10 s11 hr => k r H10 ((s46.trans s10).trans s11) hr
end
end WP

/-! ## P23 -/
set_option Elab.async false
set_option linter.all false
set_option maxRecDepth 100000
set_option maxHeartbeats 4000000
/-! One or the other reader. -/
namespace WP
open PySem PySem.Spec PyProof.Rows L2 WR WC
/-- a comprehension with a test whose list so far is acc i -/
theorem lc_flt {J : It} {n : Nat} {G : Hp → Prop} {Y : Nat → Hp → V → Hp → Prop} {g : TG} {tt : TT} {te : TE} {vs : List Nat} {σ : L2.St} {H1 : Hp} {D : Addr} {Qd : Hp → Prop} (w : Walk J n G Y) (hD : H1 D = none) (acc : Nat → List V) (h0 : acc 0 = []) (hz : ∀ i, i < n → (acc i).length < sizeLine) (hG : ∀ H, Same H1 H → G H)
    (hs : ∀ (i : Nat) (x : V) (H H' : Hp) (Nx : Hp → Prop), i < n → Same H1 H → H D = some (.lst (acc i)) → Y i H x H' →
      (∀ y H4, acc (i + 1) = acc i ++ [y] → H4 D = some (.lst (acc i)) → Same H1 H4 → ∃ a, H4 D = some (.lst a) ∧ a.length < sizeLine ∧ Nx (upd H4 D (.lst (a ++ [y])))) → (∀ H4, acc (i + 1) = acc i → H4 D = some (.lst (acc i)) → Same H1 H4 → Nx H4) →
      g x (wipe σ vs) H' fun σ2 H2 => wipe σ2 vs = wipe σ vs ∧ tt σ2 H2 fun b H3 => if b = true then te σ2 H3 fun y H4 => ∃ a, H4 D = some (.lst a) ∧ a.length < sizeLine ∧ Nx (upd H4 D (.lst (a ++ [y]))) else Nx H3)
    (hd : ∀ H, Same H1 H → H D = some (.lst (acc n)) → Qd H) :
    ∃ W : Nat → Nat → Hp → Prop, (∃ m, W 0 m (upd H1 D (.lst []))) ∧ ∀ i m H, W i m H →
      (J.stop i H ∧ Qd H) ∨ (J.go i H ∧ ∃ Nx : Hp → Prop, (∀ H', Nx H' → ∃ m', m' < m ∧ W (i + 1) m' H') ∧ ∀ x H', J.yld i H x H' → g x (wipe σ vs) H' fun σ2 H2 => wipe σ2 vs = wipe σ vs ∧ tt σ2 H2 fun b H3 =>
        if b = true then te σ2 H3 fun y H4 => ∃ acc, H4 D = some (.lst acc) ∧ acc.length < sizeLine ∧ Nx (upd H4 D (.lst (acc ++ [y]))) else Nx H3) := by
  have put : ∀ {H : Hp} (o : HO), Same H1 H → Same H1 (upd H D o) := fun {H} o h b u e => by
    rw [upd_ne (ne_of_none e hD)]
    exact h b u e
  refine lc_it w (fun i H => H D = some (.lst (acc i)) ∧ Same H1 H) ⟨by rw [h0]; exact upd_same, Same.upd hD⟩ (fun i H _ h => hG H h.2) (fun i x H H' hi h hy => ?_) fun H h => hd H h.2 h.1
  have key := hs i x H H' (fun H' => H' D = some (.lst (acc (i + 1))) ∧ Same H1 H') hi h.2 h.1 hy (fun y H4 e h4 s4 => ⟨_, h4, hz i hi, by rw [upd_same, e], put _ s4⟩) fun H4 e h4 s4 => ⟨by rw [e]; exact h4, s4⟩
  exact key
theorem rows_filter {H : Hp} {f : Nat × Nat → Bool} : ∀ {as : List Addr} {O : List (Nat × Nat)}, RowsAt H as (O.map pl) → RowsAt H (((as.zip O).filter fun z => f z.2).map (·.1)) ((O.filter f).map pl)
  | [], [], _ => .nil
  | [], p :: O, h => by cases h
  | a :: as, [], h => by cases h
  | a :: as, p :: O, .cons h t => by
    have ih := rows_filter (f := f) t
    rw [List.zip_cons_cons, List.filter_cons, List.filter_cons]
    dsimp only
    cases f p with
    | true => exact .cons h ih
    | false => exact ih
section
variable {P : Program} {w : World} {K : PySem.W.Frag} {mg : Str → Option Value} {C : Addr} {base : Heap}
theorem sc_m_or : FnScope ["self", "other", "pairs", "pair"] ["self", "other"] (defScope (meth 10)) := ⟨rfl, rfl, rfl, by decide +kernel, rfl, by decide +kernel, by decide +kernel⟩
def sp_m_or (C : Addr) : Sp := fun vs H Q _ => ∃ p q cs M M', vs = [.ref p, .ref q] ∧ RdrAt C H p cs M ∧ RdrAt C H q cs M' ∧ M.n * M'.n ≤ 60 ∧ ∀ r H', Same H H' → RdrAt C H' r cs (both M M') → Q (.ref r) H'
theorem ok_m_or (T : TX K mg C) : OkM P w K mg base C 8 "__or__" "Reader.__or__" (meth 10) ["self", "other"] (sp_m_or C) := by
  obtain ⟨f, fd, D⟩ := T.m_or
  obtain ⟨f1, fd1, D1, G1⟩ := ok_pairs_led (P := P) (w := w) (base := base) T
  obtain ⟨f2, fd2, D2, G2⟩ := ok_reader_of (P := P) (w := w) (base := base) T
  obtain ⟨f3, fd3, D3, G3⟩ := ok_says (P := P) (w := w) (base := base) T
  refine ⟨f, fd, D, D.F.ok sc_m_or (fun vs H Q E h => ?_) (fun cdv A outer s H vs Q E hr h => ?_)⟩
  · obtain ⟨p, q, cs, M, M', rfl, _⟩ := h
    rfl
  · obtain ⟨p, q, cs, M, M', rfl, hR, hR', hnn, k⟩ := h
    refine ⟨_, (pss_cons ((ps_set (i := 2) sc_m_or.nd rfl (Or.inl rfl) ((pe_call G1 (hr.mono (by decide)) (by rfl) D1.g D1.F.kp D1.b .nil pass0 (pa_cons ((pv 0)) (pa_cons ((pv 1)) pa_nil))))))
      (pss_one (ps_ret (pe_call G2 (hr.mono (by decide)) (by rfl) D2.g D2.F.kp D2.b .nil pass0 (pa_cons ((pv 0)) (pa_cons ((pv 1)) (pa_cons ((pv 2)) (pa_cons ((pe_lc (own := [("pair", 3)]) (g := gName 3) rfl sc_m_or.nd (pi_list (pv 2)) (blkOk_by (N := ["self", "other", "pairs", "pair"]) (sc := defScope (meth 10)) (by decide +kernel)) (fun _ _ _ _ _ => pg_name (i := 3) sc_m_or.nd rfl (Or.inl rfl)) (fun _ _ _ _ _ => pts_one (PW.pt (pw_or (pt_val (pe_call G3 (hr.mono (by decide)) (by rfl) D3.g D3.F.kp D3.b .nil pass0 (pa_cons ((pv 0)) (pa_cons (pe_ix (ix_tupQ K rfl) (pv 3) pe_int (fun _ _ => rfl)) pa_nil)))) (pw_or1 (pt_val (pe_call G3 (hr.mono (by decide)) (by rfl) D3.g D3.F.kp D3.b .nil pass0 (pa_cons ((pv 1)) (pa_cons (pe_ix (ix_tupQ K rfl) (pv 3) pe_int (fun _ _ => rfl)) pa_nil)))))))) (fun _ _ _ _ _ => (pv 3)))) pa_nil)))))))), ?_⟩
    have W := hR.good.wf
    have W' := hR'.good.wf
    have hOl := pp_len W W' (M.n * M'.n)
    refine ⟨_, rfl, _, rfl, p, q, cs, M, M', rfl, hR, hR', hnn, fun L H1 s1 hL => seq_ ?_⟩
    have hL' := hL
    generalize hO : pp M M' (M.n * M'.n) = O at hOl hL
    obtain ⟨as, hl, ra⟩ := id hL
    have hal : as.length = O.length := by have := ra.len; rw [List.length_map] at this; exact this
    refine ⟨_, rfl, _, rfl, _, rfl, _, rfl, L, rfl, ⟨_, sql hl⟩, fun D hD => lc_flt (walk_list (xs := as.map V.ref)) hD (fun i => (((as.zip O).take i).filter fun z => M.ok z.2.1 || M'.ok z.2.2).map fun z => V.ref z.1) rfl (fun i hi => ?_) (fun _ e => sql_same e hl) (fun i x H2 H3 Nx hi sm hDi hy kk k0 => ?_) fun H2 s2 hD2 => ?_⟩
    · rw [List.length_map] at hi ⊢
      have := List.length_filter_le (fun z : Addr × Nat × Nat => M.ok z.2.1 || M'.ok z.2.2) ((as.zip O).take i)
      rw [List.length_take] at this
      rw [sizeLine_eq]
      omega
    · obtain ⟨rfl, e⟩ := hy
      rw [List.length_map] at hi
      rw [List.getElem?_map, List.getElem?_eq_getElem hi] at e
      cases e
      have hiO : i < O.length := by omega
      have hz : (as.zip O)[i]? = some (as[i], O[i]) := by
        rw [List.getElem?_eq_getElem (by rw [List.length_zip]; omega), List.getElem_zip]
      have htk : (as.zip O).take (i + 1) = (as.zip O).take i ++ [(as[i], O[i])] := by
        rw [List.take_add_one, hz]
        rfl
      obtain ⟨r, q1, q2⟩ := (ra.same sm).get (i := i) (List.getElem?_eq_getElem hi)
      rw [List.getElem?_map, List.getElem?_eq_getElem hiO] at q1
      cases q1
      have a0 : atI (iv (pl O[i])) 0 = some (.int (O[i].1 : Nat)) := at_of (j := 0) rfl rfl
      have a1 : atI (iv (pl O[i])) 1 = some (.int (O[i].2 : Nat)) := at_of (j := 1) rfl rfl
      refine ⟨rfl, _, rfl, _, rfl, as[i], _, 0, _, rfl, rfl, sqt q2, a0, p, cs, M, _, rfl, hR.same (s1.trans sm), _, rfl, ?_⟩
      cases hb : M.ok O[i].1 with
      | true =>
        refine iteT (iteT ⟨_, rfl, kk _ _ ?_ hDi sm⟩)
        rw [htk, List.filter_append, List.map_append, List.filter_cons]
        dsimp only
        rw [hb]
        rfl
      | false =>
        refine iteF ⟨_, rfl, _, rfl, as[i], _, 1, _, rfl, rfl, sqt q2, a1, q, cs, M', _, rfl, hR'.same (s1.trans sm), _, rfl, ?_⟩
        cases hb' : M'.ok O[i].2 with
        | true =>
          refine iteT ⟨_, rfl, kk _ _ ?_ hDi sm⟩
          rw [htk, List.filter_append, List.map_append, List.filter_cons]
          dsimp only
          rw [hb, hb']
          rfl
        | false =>
          refine iteF (k0 _ ?_ hDi sm)
          rw [htk, List.filter_append, List.map_append, List.filter_cons]
          dsimp only
          rw [hb, hb']
          exact List.append_nil _
    · rw [List.length_map, List.take_of_length_le (by rw [List.length_zip]; omega)] at hD2
      have s12 := s1.trans s2
      refine ⟨p, q, L, D, cs, M, M', rfl, hR.same s12, hR'.same s12, hnn, hL'.same s2, ?_, fun r H3 s3 hr => k r H3 (s12.trans s3) hr⟩
      rw [hO]
      refine ⟨((as.zip O).filter fun z => M.ok z.2.1 || M'.ok z.2.2).map (·.1), ?_, rows_filter (f := fun p => M.ok p.1 || M'.ok p.2) (ra.same s2)⟩
      rw [hD2, List.map_map]
      rfl
end
end WP

/-! ## P24 -/
set_option Elab.async false
set_option linter.all false
set_option maxRecDepth 100000
set_option maxHeartbeats 4000000
/-! The states with their first texts, layer by layer. -/
namespace WP
open PySem PySem.Spec PyProof.Rows L2 WR WC
theorem paired_append {α β : Type} {F : α → β → Prop} : ∀ {xs xs' : List α} {ys ys' : List β}, Paired F xs ys → Paired F xs' ys' → Paired F (xs ++ xs') (ys ++ ys')
  | _, _, _, _, .nil, h => h
  | _, _, _, _, .cons q t, h => .cons q (paired_append t h)
/-- x != [], x a list of data -/
theorem ne_nil {ds : List PyData} : (!PyData.eqv (.list ds) (.list [])) = decide (ds ≠ []) := by
  cases ds with
  | nil => simp [PyData.eqv, PyData.eqvAll]
  | cons d ds => simp [PyData.eqv, PyData.eqvAll]
theorem shaped_nil : SeqAt.shaped (.list []) = true := by decide +kernel
/-- a set of ints as a dict -/
def SeenI (H : Hp) (k : Addr) (ks : List Nat) : Prop := H k = some (.dK (ks.map fun s : Nat => (Sum.inl (s : Int), V.bl true)))
theorem seenI_get {H : Hp} {k : Addr} {ks : List Nat} {s : Nat} (h : SeenI H k ks) : ∃ o, DGet H k (.int (s : Int)) o ∧ o.isSome = decide (s ∈ ks) := by
  refine ⟨_, DGet.k (k := Sum.inl (s : Int)) h, ?_⟩
  unfold valV
  rw [Option.isSome_map, Bool.eq_iff_iff, List.find?_isSome, decide_eq_true_iff]
  constructor
  · rintro ⟨z, hz, e⟩
    obtain ⟨p, hp, rfl⟩ := List.mem_map.mp hz
    have e : (Sum.inl (p : Int) : Key) = Sum.inl (s : Int) := of_decide_eq_true e
    have e : (p : Int) = (s : Int) := Sum.inl.inj e
    have : p = s := by omega
    exact this ▸ hp
  · intro hp
    exact ⟨_, List.mem_map.mpr ⟨_, hp, rfl⟩, decide_eq_true rfl⟩
theorem seenI_put {H : Hp} {k : Addr} {ks : List Nat} {s : Nat} (h : SeenI H k ks) (hn : s ∉ ks) (hl : ks.length < 100000) : DPut H k (.int (s : Int)) (.bl true) (upd H k (.dK ((ks ++ [s]).map fun s : Nat => (Sum.inl (s : Int), V.bl true)))) := by
  have e : putK (ks.map fun s : Nat => ((Sum.inl (s : Int) : Key), V.bl true)) (Sum.inl (s : Int)) (.bl true) = (ks ++ [s]).map fun s : Nat => (Sum.inl (s : Int), V.bl true) := by
    rw [putK_end, List.map_append]
    · rfl
    · intro q
      rw [List.map_map] at q
      obtain ⟨p, hp, e⟩ := List.mem_map.mp q
      have e : (p : Int) = (s : Int) := Sum.inl.inj (show (Sum.inl (p : Int) : Key) = Sum.inl (s : Int) from e)
      have : p = s := by omega
      exact hn (this ▸ hp)
  rw [← e]
  exact DPut.k (k := Sum.inl (s : Int)) h (by rw [List.length_map, sizeLine_eq]; omega)
def SItemAt (H : Hp) (cs : List Nat) (a : Addr) (it : SIt) : Prop := H a = some (.tup [.int (it.1 : Nat), .str (wtx cs it.2)])
def LinesAt (H : Hp) (l : Addr) (cs : List Nat) (q : List SIt) : Prop := ∃ as : List Addr, H l = some (.lst (as.map V.ref)) ∧ Paired (SItemAt H cs) as q
theorem LinesAt.stay {H H' : Hp} {l : Addr} {cs : List Nat} {q : List SIt} (hl : ∀ xs, H l = some (.lst xs) → H' l = some (.lst xs)) (t : Tups H H') : LinesAt H l cs q → LinesAt H' l cs q
  | ⟨as, h1, h2⟩ => ⟨as, hl _ h1, paired_tups (fun _ _ h => t _ _ h) h2⟩
theorem LinesAt.same {H H' : Hp} {l : Addr} {cs : List Nat} {q : List SIt} (e : Same H H') (h : LinesAt H l cs q) : LinesAt H' l cs q := h.stay (fun _ h => e _ _ h) fun _ _ h => e _ _ h
def sD (cs : List Nat) (it : SIt) : PyData := .tuple [.int (it.1 : Nat), .str (wtx cs it.2)]
theorem dp_lines {K : PySem.W.Frag} {H : Hp} {cs : List Nat} : ∀ {as : List Addr} {q : List SIt}, Paired (SItemAt H cs) as q → DpAll K H (as.map V.ref) (q.map (sD cs))
  | _, _, .nil => .nil
  | _, _, .cons h t => .cons (.tup (sqt h) (.cons (.int _) (.cons (.str _) .nil))) (dp_lines t)
theorem strOk_wtx {cs : List Nat} (hl : Ltrs cs) (w : List Nat) : PyData.strOk (wtx cs w) = true := by
  unfold PyData.strOk wtx txt
  dsimp only
  rw [List.all_toArray, List.all_eq_true]
  intro c hc
  obtain ⟨a, _, rfl⟩ := List.mem_map.mp hc
  refine decide_eq_true ?_
  rw [List.getD_eq_getElem?_getD]
  cases e : cs[a]? with
  | none => decide
  | some c =>
    have := hl.small c (List.mem_of_getElem? e)
    show c < _
    omega
theorem lay_lines {cs : List Nat} (hl : Ltrs cs) : ∀ q : List SIt, PyData.canLayAll0 (q.map (sD cs)) = true
  | [] => rfl
  | r :: rows => by
    show (PyData.canLay0 (sD cs r) && PyData.canLayAll0 (rows.map (sD cs))) = true
    rw [lay_lines hl rows]
    simp [sD, PyData.canLay0, PyData.canLayAll0, strOk_wtx hl]
theorem depth_lines (cs : List Nat) : ∀ q : List SIt, PyData.depthAll (q.map (sD cs)) ≤ 2
  | [] => by simp [PyData.depthAll]
  | r :: rows => by
    have h1 := depth_lines cs rows
    show PyData.depthAll (sD cs r :: rows.map (sD cs)) ≤ 2
    simp only [PyData.depthAll, sD, PyData.depth]
    omega
theorem shaped_of {ds : List PyData} (h1 : PyData.canLayAll0 ds = true) (h2 : PyData.depthAll ds ≤ 8) : SeqAt.shaped (.list ds) = true := by
  unfold SeqAt.shaped
  have e1 : PyData.canLay0 (.list ds) = true := by
    rw [show PyData.canLay0 (.list ds) = PyData.canLayAll0 ds from rfl]
    exact h1
  have e2 : PyData.depth (.list ds) ≤ 64 := by
    simp only [PyData.depth]
    omega
  rw [e1, decide_eq_true e2]
  rfl
theorem shaped_lines {cs : List Nat} (hl : Ltrs cs) (q : List SIt) : SeqAt.shaped (.list (q.map (sD cs))) = true := shaped_of (lay_lines hl q) (Nat.le_trans (depth_lines cs q) (by decide))
section
variable {P : Program} {w : World} {K : PySem.W.Frag} {mg : Str → Option Value} {C : Addr} {base : Heap}
theorem sc_law_first_lines : FnScope ["_law_plain", "_law_found", "_law_seen", "_law_layer", "_law_longer", "_law_state", "_law_line", "_law_sign", "_law_later"] ["_law_plain"] (defScope (top 39)) := ⟨rfl, rfl, rfl, by decide +kernel, rfl, by decide +kernel, by decide +kernel⟩
def sp_law_first_lines : Sp := fun vs H Q _ => ∃ p cs M, vs = [.ref p] ∧ PlainAt H p cs M ∧ ∀ L H', Same H H' → LinesAt H' L cs (fq M M.n) → Q (.ref L) H'
theorem ok_law_first_lines (T : TX K mg C) : Ok P w K mg base 1 "_law_first_lines" (top 39) ["_law_plain"] sp_law_first_lines := by
  obtain ⟨f, fd, D⟩ := T.f_law_first_lines
  refine ⟨f, fd, D, D.F.ok sc_law_first_lines (fun vs H Q E h => ?_) (fun cdv A outer s H vs Q E hr h => ?_)⟩
  · obtain ⟨p, cs, M, rfl, _⟩ := h
    rfl
  · obtain ⟨p, cs, M, rfl, hR, k⟩ := h
    refine ⟨_, (pss_cons (ps_par (i := 1) (j := 2) rfl sc_law_first_lines.nd rfl rfl (by decide) rfl rfl (pa_cons (pe_lst (pa_cons (pe_tup (pa_cons (pe_int) (pa_cons (pe_str) pa_nil))) pa_nil)) (pa_cons (pe_disp (pps_cons pe_int pe_bl pps_nil) (by rfl) (by rfl) (fun z => by cases z) (by decide)) pa_nil)) (by rfl))
      (pss_cons ((ps_set (i := 3) sc_law_first_lines.nd rfl (Or.inl rfl) (pe_callTy call_list_of (by rfl) T.b_list (by decide +kernel) (pa_cons ((pv 1)) pa_nil))))
      (pss_cons (ps_while PassesOwn.never (pt_cmpR (op_neD hr.u64) (pv 3) (pe_lst pa_nil) (nomark _)) (pss_cons ((ps_set (i := 4) sc_law_first_lines.nd rfl (Or.inl rfl) (pe_lst pa_nil)))
      (pss_cons (ps_for PassesOwn.never rfl (pi_list (pv 3)) (pg_tup rfl (pgs_cons (pg_name (i := 5) sc_law_first_lines.nd rfl (Or.inl rfl)) (pgs_cons (pg_name (i := 6) sc_law_first_lines.nd rfl (Or.inl rfl)) pgs_nil))) (pss_one (ps_for PassesOwn.never rfl (pi_str (pe_dget hr.u1 (pv 0) pe_str (fun _ _ => rfl))) (pg_name (i := 7) sc_law_first_lines.nd rfl (Or.inl rfl)) (pss_cons ((ps_set (i := 8) sc_law_first_lines.nd rfl (Or.inl rfl) (pe_ix (ix_tupQ K rfl) (pe_dget hr.u1 (pe_dget hr.u1 (pv 0) pe_str (fun _ _ => rfl)) (pv 7) (fun _ _ => rfl)) (pv 5) (fun _ _ => rfl))))
      (pss_one (ps_if (pt_cmp (pc_dnotin hr.u1 (pv 8) (pv 2))) (pss_cons (ps_dput hr.u1 (pv 2) (pv 8) pe_bl rfl)
      (pss_one (ps_expr (pe_bm PySem.F.plainAttrs_list PySem.F.slot_list_append PySem.F.type_list_append mt_append (pv 4) (pa_cons (pe_tup (pa_cons ((pv 8)) (pa_cons (pe_op op_add_str (pv 6) (pv 7)) pa_nil))) pa_nil))))) pss_nil))))))
      (pss_one (ps_par (i := 1) (j := 3) rfl sc_law_first_lines.nd rfl rfl (by decide) rfl rfl (pa_cons (pe_op op_cat (pv 1) (pv 4)) (pa_cons (pe_callTy call_list_of (by rfl) T.b_list (by decide +kernel) (pa_cons ((pv 4)) pa_nil)) pa_nil)) (by rfl))))))
      (pss_one (ps_ret (pv 1)))))), ?_⟩
    have g := hR.1
    have W := g.wf
    have hl := g.ltrs
    have hn60 := g.few
    have hkk : M.k = cs.length := g.k
    have two : (2 : Nat) ≤ sizeLine := by rw [sizeLine_eq]; omega
    have hlen : ∀ n, (fq M n).length ≤ 60 := fun n => Nat.le_trans (fq_len W n) hn60
    have hlenM : ∀ n, (fq M n).length ≤ M.n := fun n => fq_len W n
    refine ⟨two, fun a0 ha0 => ⟨by rw [sizeLine_eq]; show 1 ≤ _; omega, fun F hF S hS => ⟨upd_same, [(Sum.inl (0 : Int), V.bl true)], rfl, by decide, _, _, rfl, seq_ ?_⟩⟩⟩
    have sF : Same H (upd (upd H a0 (.tup [.int 0, .str ""])) F (.lst [.ref a0])) := (Same.upd ha0).trans (Same.upd hF)
    have e0 : ("" : Str) = wtx cs [] := by rw [show ("" : Str) = ⟨#[]⟩ by decide +kernel]; rfl
    have hl3 : LinesAt (upd (upd H a0 (.tup [.int 0, .str ""])) F (.lst [.ref a0])) F cs (fq M 0) := by
      refine ⟨[a0], upd_same, .cons ?_ .nil⟩
      show _ = some (HO.tup [.int ((0 : Nat) : Int), .str (wtx cs [])])
      rw [← e0]
      exact (Same.upd hF) _ _ upd_same
    have hSn : H S = none := by
      cases e : H S with
      | none => rfl
      | some o => rw [sF _ _ e] at hS; cases hS
    generalize upd (upd H a0 (.tup [.int 0, .str ""])) F (.lst [.ref a0]) = H3 at sF hl3 hS
    have sS : ∀ {o o' : HO}, Same H (upd (upd H3 S o) S o') := fun {o o'} b u e => by
      rw [upd_ne (ne_of_none e hSn), upd_ne (ne_of_none e hSn)]
      exact sF _ _ e
    have hFS : F ≠ S := by
      obtain ⟨as, e, _⟩ := hl3
      exact ne_of_none e hS
    have hl4 : LinesAt (upd (upd H3 S (.dK [])) S (.dK (mergeK [] [(Sum.inl (0 : Int), V.bl true)]))) F cs (fq M 0) := hl3.stay (fun xs e => by rw [upd_ne hFS, upd_ne hFS]; exact e) fun b xs e => by rw [upd_ne (ne_of_none e hS), upd_ne (ne_of_none e hS)]; exact e
    have hk4 : SeenI (upd (upd H3 S (.dK [])) S (.dK (mergeK [] [(Sum.inl (0 : Int), V.bl true)]))) S ((fq M 0).map (·.1)) := upd_same
    have s4 : Same H (upd (upd H3 S (.dK [])) S (.dK (mergeK [] [(Sum.inl (0 : Int), V.bl true)]))) := sS
    generalize upd (upd H3 S (.dK [])) S (.dK (mergeK [] [(Sum.inl (0 : Int), V.bl true)])) = H4 at s4 hk4 hl4
    obtain ⟨as, haF, hpF⟩ := id hl4
    refine ⟨_, rfl, F, _, rfl, .inl (sql haF), fun Ly hLy => seq_ ?_⟩
    have t5 : Same H4 (upd H4 Ly (.lst (as.map V.ref))) := Same.upd hLy
    have s5 := s4.trans t5
    have hl5 := hl4.same t5
    have hk5 : SeenI _ S _ := t5 _ _ hk4
    have hy5 : LinesAt (upd H4 Ly (.lst (as.map V.ref))) Ly cs ((fq M 0).drop 0) := ⟨as, upd_same, paired_tups (fun _ _ h => t5 _ _ h) hpF⟩
    generalize upd H4 Ly (.lst (as.map V.ref)) = H5 at s5 hl5 hk5 hy5
    refine ⟨fun mm σ H' => ∃ (m : Nat) (F Ly : Addr) (u1 u2 u3 u4 u5 : Option V), mm = M.n - m ∧ σ = [some (.ref p), some (.ref F), some (.ref S), some (.ref Ly), u1, u2, u3, u4, u5] ∧ m ≤ (fq M m).length ∧ Same H H' ∧ SeenI H' S ((fq M m).map (·.1)) ∧ LinesAt H' F cs (fq M m) ∧ LinesAt H' Ly cs ((fq M m).drop m),
      ⟨_, 0, F, Ly, none, none, none, none, none, rfl, rfl, Nat.zero_le _, s5, hk5, hl5, hy5⟩, ?_⟩
    rintro _ σ H6 ⟨m, F, Ly, u1, u2, u3, u4, u5, rfl, rfl, hm, s6, hk6, hl6, hy6⟩
    refine ⟨_, rfl, Nat.zero_le _, fun E0 hE0 => ?_⟩
    have t7 : Same H6 (upd H6 E0 (.lst [])) := Same.upd hE0
    have hE7 : (upd H6 E0 (.lst [])) E0 = some (.lst []) := upd_same
    have s7 := s6.trans t7
    have hk7 : SeenI _ S _ := t7 _ _ hk6
    have hl7 := hl6.same t7
    have hy7 := hy6.same t7
    generalize upd H6 E0 (.lst []) = H7 at hE7 s7 hk7 hl7 hy7
    obtain ⟨ay, hay, hpy⟩ := id hy7
    refine ⟨.list (((fq M m).drop m).map (sD cs)), .list [], .lst (sql hay) (dp_lines hpy), .lst (sql hE7) .nil, shaped_lines hl _, shaped_nil, _, rfl, ?_⟩
    rw [ne_nil]
    have hayl : ay.length = (fq M m).length - m := by have := Paired.length hpy; rw [List.length_drop] at this; exact this
    by_cases hmn : m < (fq M m).length
    · have hne : ((fq M m).drop m).map (sD cs) ≠ [] := fun z => by
        have := congrArg List.length z
        rw [List.length_map, List.length_drop] at this
        simp at this
        omega
      rw [decide_eq_true hne]
      dsimp only
      rw [if_pos rfl]
      refine ⟨fun σ' H' => ∃ (F Ly : Addr) (u1 u2 u3 u4 u5 : Option V), σ' = [some (.ref p), some (.ref F), some (.ref S), some (.ref Ly), u1, u2, u3, u4, u5] ∧ Same H H' ∧ SeenI H' S ((fq M (fq M m).length).map (·.1)) ∧ LinesAt H' F cs (fq M (fq M m).length) ∧ LinesAt H' Ly cs ((fq M (fq M m).length).drop (fq M m).length), ?_, seq_ ⟨Nat.zero_le _, fun G hG => seq_ ?_⟩⟩
      · rintro σ' H' ⟨F, Ly, v1, v2, v3, v4, v5, rfl, s', k', l', y'⟩
        have h1 := hlenM m
        refine ⟨M.n - (fq M m).length, by omega, (fq M m).length, F, Ly, v1, v2, v3, v4, v5, rfl, rfl, ?_, s', k', l', y'⟩
        have := bq_pre (κ := fun x : SIt => x.1) (sc := scF M) (x0 := (0, [])) m ((fq M m).length - m)
        rw [show m + ((fq M m).length - m) = (fq M m).length by omega] at this
        exact this.length_le
      have t8 : Same H7 (upd H7 G (.lst [])) := Same.upd hG
      have hGn : H G = none := by
        cases e : H G with
        | none => rfl
        | some o => rw [s7 _ _ e] at hG; cases hG
      have hGS : G ≠ S := fun z => by
        rw [z] at hG
        unfold SeenI at hk7
        rw [hG] at hk7
        cases hk7
      have hGF : G ≠ F := fun z => by
        obtain ⟨as, e, _⟩ := hl7
        rw [z, e] at hG
        cases hG
      have hGL : G ≠ Ly := fun z => by rw [z, hay] at hG; cases hG
      have s8 := s7.trans t8
      have hk8 : SeenI _ S _ := t8 _ _ hk7
      have hl8 := hl7.same t8
      have hay8 := t8 _ _ hay
      have hpy8 : Paired (SItemAt (upd H7 G (.lst [])) cs) ay ((fq M m).drop m) := paired_tups (fun _ _ h => t8 _ _ h) hpy
      have hg8 : LinesAt (upd H7 G (.lst [])) G cs ((fq M (m + 0)).drop (fq M m).length) := by
        rw [Nat.add_zero, List.drop_of_length_le (Nat.le_refl _)]
        exact ⟨[], upd_same, .nil⟩
      generalize upd H7 G (.lst []) = H8 at s8 hk8 hl8 hay8 hpy8 hg8
      refine ⟨_, rfl, Ly, rfl, ⟨_, sql hay8⟩, ?_⟩
      refine for_it (walk_list (xs := ay.map V.ref)) (fun j σ H' => ∃ u2 u3 u4 u5 : Option V, σ = [some (.ref p), some (.ref F), some (.ref S), some (.ref Ly), some (.ref G), u2, u3, u4, u5] ∧ Same H H' ∧ SeenI H' S ((fq M (m + j)).map (·.1)) ∧ LinesAt H' F cs (fq M m) ∧ H' Ly = some (.lst (ay.map V.ref)) ∧ Paired (SItemAt H' cs) ay ((fq M m).drop m) ∧ LinesAt H' G cs ((fq M (m + j)).drop (fq M m).length))
        ⟨_, _, _, _, rfl, s8, hk8, hl8, hay8, hpy8, hg8⟩ (fun i σ H' hi ⟨_, _, _, _, _, _, _, _, e, _⟩ => sql e) (fun j x σ H9 H10 hj hP hy => ?_) fun σ H9 hP => ?_
      · obtain ⟨u2, u3, u4, u5, rfl, s9, hk9, hl9, hay9, hpy9, hg9⟩ := hP
        obtain ⟨rfl, e⟩ := hy
        rw [List.length_map] at hj
        rw [List.getElem?_map, List.getElem?_eq_getElem hj] at e
        cases e
        have hmj : m + j < (fq M m).length := by omega
        obtain ⟨a, ha1, ha2⟩ := paired_get (i := j) (b := (fq M m)[m + j]) hpy9 (by rw [List.getElem?_drop, List.getElem?_eq_getElem hmj])
        rw [List.getElem?_eq_getElem hj] at ha1
        cases ha1
        have hx : (fq M m)[m + j]? = some (fq M m)[m + j] := List.getElem?_eq_getElem hmj
        have hxlt := fq_lt W m _ (List.getElem_mem hmj)
        have hxs := fq_short m _ (List.getElem_mem hmj)
        have hstep : fq M (m + j + 1) = pushs (fun x : SIt => x.1) (fq M (m + j)) (scF M (fq M m)[m + j]) := bq_item hx
        generalize (fq M m)[m + j] = x at ha2 hx hxlt hxs hstep
        have hm60 := hlen m
        refine ⟨ay[j], _, rfl, sqt ha2, rfl, g2 ?_⟩
        obtain ⟨d, y, e1, e2, e3, hmv, hyy, hrow⟩ := plain_get (hR.same s9)
        refine ⟨_, rfl, p, _, rfl, e1, txt cs, rfl, ?_⟩
        have hscl : (scF M x).length = cs.length := by rw [← hkk]; simp [scF]
        have hsci : ∀ i (hi : i < cs.length), (scF M x)[i]'(by rw [hscl]; exact hi) = (M.d i x.1, x.2 ++ [i]) := fun i hi => by simp [scF]
        have hql : ∀ i, (pushs (fun x : SIt => x.1) (fq M (m + j)) ((scF M x).take i)).length ≤ 60 := fun i => by
          have h1 := pushs_take_le (κ := fun x : SIt => x.1) (q := fq M (m + j)) (xs := scF M x) (i := i)
          rw [← hstep] at h1
          exact Nat.le_trans h1 (hlen _)
        have hNl : ∀ i, (fq M m).length ≤ (pushs (fun x : SIt => x.1) (fq M (m + j)) ((scF M x).take i)).length := fun i => by
          have h1 := (bq_pre (κ := fun x : SIt => x.1) (sc := scF M) (x0 := (0, [])) m j).length_le
          exact Nat.le_trans h1 pushs_len_le
        refine for_it (walk_txt (cs := cs)) (fun i σ H' => ∃ u4 u5 : Option V, σ = [some (.ref p), some (.ref F), some (.ref S), some (.ref Ly), some (.ref G), some (.int (x.1 : Nat)), some (.str (wtx cs x.2)), u4, u5] ∧ Same H H' ∧ SeenI H' S ((pushs (fun x : SIt => x.1) (fq M (m + j)) ((scF M x).take i)).map (·.1)) ∧ LinesAt H' F cs (fq M m) ∧ H' Ly = some (.lst (ay.map V.ref)) ∧ Paired (SItemAt H' cs) ay ((fq M m).drop m) ∧ LinesAt H' G cs ((pushs (fun x : SIt => x.1) (fq M (m + j)) ((scF M x).take i)).drop (fq M m).length))
          ⟨_, _, rfl, s9, hk9, hl9, hay9, hpy9, hg9⟩ (fun _ _ _ _ _ => True.intro) (fun i z σ H10 H11 hi hP hy => ?_) fun σ H10 hP => ?_
        · obtain ⟨u4, u5, rfl, s10, hk10, hl10, hay10, hpy10, hg10⟩ := hP
          obtain ⟨rfl, c, hc, rfl⟩ := hy
          rw [List.getElem?_eq_getElem hi] at hc
          cases hc
          have htk : (scF M x).take (i + 1) = (scF M x).take i ++ [(M.d i x.1, x.2 ++ [i])] := by
            rw [List.take_add_one, List.getElem?_eq_getElem (by rw [hscl]; exact hi), hsci i hi]
            rfl
          have hps : pushs (fun x : SIt => x.1) (fq M (m + j)) ((scF M x).take (i + 1)) = push (fun x : SIt => x.1) (pushs (fun x : SIt => x.1) (fq M (m + j)) ((scF M x).take i)) (M.d i x.1, x.2 ++ [i]) := by
            rw [htk]
            exact pushs_snoc _ _ _
          have hq60 := hql i
          have hqN := hNl i
          generalize pushs (fun x : SIt => x.1) (fq M (m + j)) ((scF M x).take i) = qq at hk10 hg10 hps hq60 hqN
          obtain ⟨d, y, e1, e2, e3, hmv, hyy, hrow⟩ := plain_get (hR.same s10)
          obtain ⟨ar, r, q1, q2, q3, q4⟩ := hrow i hi
          refine seq_ ⟨_, rfl, p, _, rfl, e2, _, rfl, d, _, rfl, q1, _, rfl, ar, _, x.1, _, rfl, rfl, sqt q4, iv_at (by omega), ?_⟩
          rw [d_at q2]
          obtain ⟨o, ho1, ho2⟩ := seenI_get (s := M.d i x.1) hk10
          refine ⟨_, rfl, _, rfl, S, o, rfl, ho1, _, rfl, ?_⟩
          rw [ho2]
          by_cases hmm : M.d i x.1 ∈ qq.map (·.1)
          · rw [decide_eq_true hmm]
            refine iteF ⟨_, _, rfl, s10, ?_, hl10, hay10, hpy10, ?_⟩
            · rw [hps, push_old hmm]
              exact hk10
            · rw [hps, push_old hmm]
              exact hg10
          · rw [decide_eq_false hmm]
            refine iteT (seq_ ⟨_, rfl, _, rfl, S, _, rfl, seenI_put hk10 hmm (by rw [List.length_map]; omega), ?_⟩)
            have tB : Tups H11 (upd H11 S (.dK ((qq.map (·.1) ++ [M.d i x.1]).map fun s : Nat => (Sum.inl (s : Int), V.bl true)))) := fun c xs e => by rw [upd_ne (fun z => by rw [z, hk10] at e; cases e)]; exact e
            have lB : ∀ l xs, H11 l = some (.lst xs) → (upd H11 S (.dK ((qq.map (·.1) ++ [M.d i x.1]).map fun s : Nat => (Sum.inl (s : Int), V.bl true)))) l = some (.lst xs) := fun c xs e => by rw [upd_ne (fun z => by rw [z, hk10] at e; cases e)]; exact e
            have sB : Same H (upd H11 S (.dK ((qq.map (·.1) ++ [M.d i x.1]).map fun s : Nat => (Sum.inl (s : Int), V.bl true)))) := fun c u e => by
              rw [upd_ne (ne_of_none e hSn)]
              exact s10 _ _ e
            have hkB : SeenI (upd H11 S (.dK ((qq.map (·.1) ++ [M.d i x.1]).map fun s : Nat => (Sum.inl (s : Int), V.bl true)))) S (qq.map (·.1) ++ [M.d i x.1]) := upd_same
            have hlB := hl10.stay (lB F) tB
            have hgB := hg10.stay (lB G) tB
            have hayB := lB _ _ hay10
            have hpyB : Paired (SItemAt (upd H11 S (.dK ((qq.map (·.1) ++ [M.d i x.1]).map fun s : Nat => (Sum.inl (s : Int), V.bl true)))) cs) ay ((fq M m).drop m) := paired_tups (fun _ _ h => tB _ _ h) hpy10
            generalize upd H11 S (.dK ((qq.map (·.1) ++ [M.d i x.1]).map fun s : Nat => (Sum.inl (s : Int), V.bl true))) = HB at sB hkB hlB hgB hayB hpyB
            obtain ⟨ag, hag, hpg⟩ := hgB
            have hagl : ag.length = qq.length - (fq M m).length := by have := Paired.length hpg; rw [List.length_drop] at this; exact this
            refine ⟨_, rfl, .inl ⟨rfl, _, sql hag⟩, _, rfl, _, rfl, _, rfl, _, _, rfl, rfl, ?_, two, fun aN haN => ?_⟩
            · rw [wtx_len, sizeLine_eq]
              show _ + 1 ≤ _
              omega
            · dsimp only [tNil]
              rw [wtx_snoc hi]
              have tN : Same HB (upd HB aN (.tup [.int (M.d i x.1 : Nat), .str (wtx cs (x.2 ++ [i]))])) := Same.upd haN
              have hGN : G ≠ aN := ne_of_none hag haN
              have tU : Tups HB (upd (upd HB aN (.tup [.int (M.d i x.1 : Nat), .str (wtx cs (x.2 ++ [i]))])) G (.lst (ag.map V.ref ++ [.ref aN]))) := fun b xs e => by
                rw [upd_ne (fun z => by rw [z, hag] at e; cases e)]
                exact tN _ _ e
              refine ⟨G, _, _, rfl, rfl, tN _ _ hag, by rw [List.length_map, sizeLine_eq]; omega, _, _, rfl, fun c u e => ?_, ?_, ?_, ?_, ?_, ?_⟩
              · rw [upd_ne (ne_of_none e hGn)]
                exact tN _ _ (sB _ _ e)
              · rw [hps, push_new hmm, List.map_append]
                show (upd (upd HB aN _) G _) S = _
                rw [upd_ne (Ne.symm hGS), tN _ _ hkB]
                rfl
              · refine hlB.stay (fun xs e => ?_) tU
                rw [upd_ne (Ne.symm hGF)]
                exact tN _ _ e
              · rw [upd_ne (Ne.symm hGL)]
                exact tN _ _ hayB
              · exact paired_tups (fun _ _ h => tU _ _ h) hpyB
              · rw [hps, pushs_drop_new hmm hqN]
                refine ⟨ag ++ [aN], by rw [upd_same, List.map_append]; rfl, paired_snoc ?_ (paired_tups (fun _ _ h => tU _ _ h) hpg)⟩
                show (upd (upd HB aN _) G _) aN = _
                rw [upd_ne (Ne.symm hGN)]
                exact upd_same
        · obtain ⟨u4, u5, rfl, s10, hk10, hl10, hay10, hpy10, hg10⟩ := hP
          rw [List.take_of_length_le (by omega), ← hstep] at hk10 hg10
          exact ⟨_, _, _, _, rfl, s10, hk10, hl10, hay10, hpy10, hg10⟩
      · obtain ⟨u2, u3, u4, u5, rfl, s9, hk9, hl9, hay9, hpy9, hg9⟩ := hP
        have eN : m + (ay.map V.ref).length = (fq M m).length := by rw [List.length_map]; omega
        rw [eN] at hk9 hg9
        obtain ⟨aF, hF1, hF2⟩ := hl9
        obtain ⟨ag, hg1, hg2⟩ := hg9
        have lF := Paired.length hF2
        have lG := Paired.length hg2
        rw [List.length_drop] at lG
        have h60 := hlen m
        have h60' := hlen (fq M m).length
        refine ⟨_, rfl, _, rfl, F, G, _, _, rfl, rfl, hF1, hg1, by rw [List.length_map, List.length_map, sizeLine_eq]; omega, fun F2 hF2' => ?_⟩
        have tF : Same H9 (upd H9 F2 (.lst (aF.map V.ref ++ ag.map V.ref))) := Same.upd hF2'
        refine ⟨_, rfl, G, _, rfl, .inl (sql (tF _ _ hg1)), fun L2 hL2 => ?_⟩
        have tL : Same (upd H9 F2 (.lst (aF.map V.ref ++ ag.map V.ref))) (upd (upd H9 F2 (.lst (aF.map V.ref ++ ag.map V.ref))) L2 (.lst (ag.map V.ref))) := Same.upd hL2
        have tt := tF.trans tL
        refine ⟨_, _, rfl, F2, L2, _, _, _, _, _, rfl, s9.trans tt, tt _ _ hk9, ⟨aF ++ ag, ?_, ?_⟩, ⟨ag, upd_same, paired_tups (fun _ _ h => tt _ _ h) hg2⟩⟩
        · rw [List.map_append]
          exact tL _ _ upd_same
        · have e := bq_split (κ := fun x : SIt => x.1) (sc := scF M) (x0 := (0, [])) m ((fq M m).length - m)
          rw [show m + ((fq M m).length - m) = (fq M m).length by omega] at e
          have hpp := paired_append hF2 hg2
          rw [show fq M m ++ (fq M (fq M m).length).drop (fq M m).length = fq M (fq M m).length from e] at hpp
          exact paired_tups (fun _ _ h => tt _ _ h) hpp
    · have hne : ((fq M m).drop m).map (sD cs) = [] := by rw [List.drop_of_length_le (by omega)]; rfl
      rw [decide_eq_false (fun z => z hne)]
      dsimp only
      rw [if_neg Bool.false_ne_true]
      rw [fq_fin W (by omega)] at hl7
      exact ⟨_, rfl, k F _ s7 hl7⟩
end
end WP

/-! ## P25 -/
set_option Elab.async false
set_option linter.all false
set_option maxRecDepth 100000
set_option maxHeartbeats 4000000
/-! The law's own parting. -/
namespace WP
open PySem PySem.Spec PyProof.Rows L2 WR WC
def iD (cs : List Nat) (it : Itm) : PyData := .tuple [tupD (pl it.1), .str (wtx cs it.2)]
theorem dp_items {K : PySem.W.Frag} {H : Hp} {cs : List Nat} : ∀ {as : List Addr} {q : List Itm}, Paired (ItemAt H cs) as q → DpAll K H (as.map V.ref) (q.map (iD cs))
  | _, _, .nil => .nil
  | _, _, .cons ⟨t, h1, h2⟩ r => .cons (.tup (sqt h1) (.cons (dp_tup (ns := pl _) h2) (.cons (.str _) .nil))) (dp_items r)
theorem lay_items {cs : List Nat} (hl : Ltrs cs) : ∀ q : List Itm, PyData.canLayAll0 (q.map (iD cs)) = true
  | [] => rfl
  | r :: rows => by
    show (PyData.canLay0 (iD cs r) && PyData.canLayAll0 (rows.map (iD cs))) = true
    rw [lay_items hl rows]
    have h1 : PyData.canLay0 (tupD (pl r.1)) = true := lay_ints _
    simp [iD, PyData.canLay0, PyData.canLayAll0, strOk_wtx hl, h1]
theorem depth_items (cs : List Nat) : ∀ q : List Itm, PyData.depthAll (q.map (iD cs)) ≤ 4
  | [] => by simp [PyData.depthAll]
  | r :: rows => by
    have h1 := depth_items cs rows
    have h2 := depth_ints (pl r.1)
    show PyData.depthAll (iD cs r :: rows.map (iD cs)) ≤ 4
    simp only [PyData.depthAll, iD, tupD, PyData.depth]
    omega
theorem shaped_items {cs : List Nat} (hl : Ltrs cs) (q : List Itm) : SeqAt.shaped (.list (q.map (iD cs))) = true := shaped_of (lay_items hl q) (Nat.le_trans (depth_items cs q) (by decide))
section
variable {P : Program} {w : World} {K : PySem.W.Frag} {mg : Str → Option Value} {C : Addr} {base : Heap}
theorem sc_law_parted : FnScope ["_law_plain", "_law_other", "_law_layer", "_law_seen", "_law_longer", "_law_pair", "_law_line", "_law_sign", "_law_later"] ["_law_plain", "_law_other"] (defScope (top 42)) := ⟨rfl, rfl, rfl, by decide +kernel, rfl, by decide +kernel, by decide +kernel⟩
def sp_law_parted : Sp := fun vs H Q _ => ∃ p q cs M M', vs = [.ref p, .ref q] ∧ PlainAt H p cs M ∧ PlainAt H q cs M' ∧ ∀ H', Same H H' → Q (optV cs (part M M')) H'
theorem ok_law_parted (T : TX K mg C) : Ok P w K mg base 1 "_law_parted" (top 42) ["_law_plain", "_law_other"] sp_law_parted := by
  obtain ⟨f, fd, D⟩ := T.f_law_parted
  refine ⟨f, fd, D, D.F.ok sc_law_parted (fun vs H Q E h => ?_) (fun cdv A outer s H vs Q E hr h => ?_)⟩
  · obtain ⟨p, q, cs, M, M', rfl, _⟩ := h
    rfl
  · obtain ⟨p, q, cs, M, M', rfl, hR, hR', k⟩ := h
    refine ⟨_, (pss_cons (ps_par (i := 2) (j := 3) rfl sc_law_parted.nd rfl rfl (by decide) rfl rfl (pa_cons (pe_lst (pa_cons (pe_tup (pa_cons (pe_tup (pa_cons (pe_int) (pa_cons (pe_int) pa_nil))) (pa_cons (pe_str) pa_nil))) pa_nil)) (pa_cons (pe_dispT hr.u1 (pe_tup (pa_cons (pe_int) (pa_cons (pe_int) pa_nil))) pe_bl) pa_nil)) (by rfl))
      (pss_cons (ps_while PassesOwn.never (pt_cmpR (op_neD hr.u64) (pv 2) (pe_lst pa_nil) (nomark _)) (pss_cons ((ps_set (i := 4) sc_law_parted.nd rfl (Or.inl rfl) (pe_lst pa_nil)))
      (pss_cons (ps_for PassesOwn.never rfl (pi_list (pv 2)) (pg_tup rfl (pgs_cons (pg_name (i := 5) sc_law_parted.nd rfl (Or.inl rfl)) (pgs_cons (pg_name (i := 6) sc_law_parted.nd rfl (Or.inl rfl)) pgs_nil))) (pss_cons (ps_if (pt_cmpR op_ne (pe_cmpR (op_inQ K rfl) (pe_ix (ix_tupQ K rfl) (pv 5) pe_int (fun _ _ => rfl)) (pe_dget hr.u1 (pv 0) pe_str (fun _ _ => rfl)) rfl) (pe_cmpR (op_inQ K rfl) (pe_ix (ix_tupQ K rfl) (pv 5) pe_int (fun _ _ => rfl)) (pe_dget hr.u1 (pv 1) pe_str (fun _ _ => rfl)) rfl) (nomark _)) (pss_one (ps_ret (pv 6))) pss_nil)
      (pss_one (ps_for PassesOwn.never rfl (pi_str (pe_dget hr.u1 (pv 0) pe_str (fun _ _ => rfl))) (pg_name (i := 7) sc_law_parted.nd rfl (Or.inl rfl)) (pss_cons ((ps_set (i := 8) sc_law_parted.nd rfl (Or.inl rfl) (pe_tup (pa_cons (pe_ix (ix_tupQ K rfl) (pe_dget hr.u1 (pe_dget hr.u1 (pv 0) pe_str (fun _ _ => rfl)) (pv 7) (fun _ _ => rfl)) (pe_ix (ix_tupQ K rfl) (pv 5) pe_int (fun _ _ => rfl)) (fun _ _ => rfl)) (pa_cons (pe_ix (ix_tupQ K rfl) (pe_dget hr.u1 (pe_dget hr.u1 (pv 1) pe_str (fun _ _ => rfl)) (pv 7) (fun _ _ => rfl)) (pe_ix (ix_tupQ K rfl) (pv 5) pe_int (fun _ _ => rfl)) (fun _ _ => rfl)) pa_nil)))))
      (pss_one (ps_if (pt_cmp (pc_dnotin hr.u1 (pv 8) (pv 3))) (pss_cons (ps_dput hr.u1 (pv 3) (pv 8) pe_bl rfl)
      (pss_one (ps_expr (pe_bm PySem.F.plainAttrs_list PySem.F.slot_list_append PySem.F.type_list_append mt_append (pv 4) (pa_cons (pe_tup (pa_cons ((pv 8)) (pa_cons (pe_op op_add_str (pv 6) (pv 7)) pa_nil))) pa_nil))))) pss_nil)))))))
      (pss_one ((ps_set (i := 2) sc_law_parted.nd rfl (Or.inl rfl) (pe_callTy call_list_of (by rfl) T.b_list (by decide +kernel) (pa_cons ((pv 4)) pa_nil))))))))
      (pss_one (ps_ret pe_non)))), ?_⟩
    have g := hR.1
    have W := g.wf
    have W' := hR'.1.wf
    have hl := g.ltrs
    have hkk : M.k = cs.length := g.k
    have two : (2 : Nat) ≤ sizeLine := by rw [sizeLine_eq]; omega
    have hlenM : ∀ n, (pq M M' n).length ≤ M.n * M'.n := fun n => pq_len W W' n
    have hlen : ∀ n, (pq M M' n).length ≤ 3600 := fun n => Nat.le_trans (hlenM n) (Nat.le_trans (Nat.mul_le_mul g.few hR'.1.few) (by decide))
    refine ⟨two, fun t0 ht0 => ⟨two, fun a0 ha0 => ⟨by rw [sizeLine_eq]; show 1 ≤ _; omega, fun Ly hLy S hS => ⟨two, fun b hb => ⟨b, pk (0, 0), rfl, upd_same, ?_, ?_⟩⟩⟩⟩⟩
    · rw [upd_ne (fun z => by rw [← z, upd_same] at hb; cases hb)]
      exact upd_same
    have s3 : Same H (upd (upd (upd H t0 (.tup [.int 0, .int 0])) a0 (.tup [.ref t0, .str ""])) Ly (.lst [.ref a0])) := ((Same.upd ht0).trans (Same.upd ha0)).trans (Same.upd hLy)
    have e0 : ("" : Str) = wtx cs [] := by rw [show ("" : Str) = ⟨#[]⟩ by decide +kernel]; rfl
    have hl3 : LstAt (upd (upd (upd H t0 (.tup [.int 0, .int 0])) a0 (.tup [.ref t0, .str ""])) Ly (.lst [.ref a0])) Ly cs ((pq M M' 0).drop 0) := by
      refine ⟨[a0], upd_same, .cons ⟨t0, ?_, ?_⟩ .nil⟩
      · rw [← e0]
        exact (Same.upd hLy) _ _ upd_same
      · exact (Same.upd hLy) _ _ ((Same.upd ha0) _ _ upd_same)
    generalize upd (upd (upd H t0 (.tup [.int 0, .int 0])) a0 (.tup [.ref t0, .str ""])) Ly (.lst [.ref a0]) = H3 at s3 hl3 hS hb
    have hSn : H S = none := by
      cases e : H S with
      | none => rfl
      | some o => rw [s3 _ _ e] at hS; cases hS
    have t4 : Same H3 (upd (upd H3 S (.dT [])) b (.tup [.int 0, .int 0])) := (Same.upd hS).trans (Same.upd hb)
    have hLS : Ly ≠ S := by
      obtain ⟨as, e, _⟩ := hl3
      exact ne_of_none e hS
    have hl4 : LstAt (upd (upd (upd H3 S (.dT [])) b (.tup [.int 0, .int 0])) S (.dT [(pk (0, 0), .bl true)])) Ly cs ((pq M M' 0).drop 0) := hl3.stay (fun xs e => by rw [upd_ne hLS]; exact t4 _ _ e) fun c xs e => by rw [upd_ne (ne_of_none e hS)]; exact t4 _ _ e
    have hk4 : SeenAt (upd (upd (upd H3 S (.dT [])) b (.tup [.int 0, .int 0])) S (.dT [(pk (0, 0), .bl true)])) S ((pq M M' 0).map (·.1)) := upd_same
    have s4 : Same H (upd (upd (upd H3 S (.dT [])) b (.tup [.int 0, .int 0])) S (.dT [(pk (0, 0), .bl true)])) := fun c u e => by
      rw [upd_ne (ne_of_none e hSn)]
      exact t4 _ _ (s3 _ _ e)
    generalize upd (upd (upd H3 S (.dT [])) b (.tup [.int 0, .int 0])) S (.dT [(pk (0, 0), .bl true)]) = H5 at s4 hk4 hl4
    refine ⟨_, _, rfl, seq_ ?_⟩
    refine ⟨fun mm σ H' => ∃ (m : Nat) (Ly : Addr) (u1 u2 u3 u4 u5 : Option V), mm = M.n * M'.n - m ∧ σ = [some (.ref p), some (.ref q), some (.ref Ly), some (.ref S), u1, u2, u3, u4, u5] ∧ m ≤ (pq M M' m).length ∧ Same H H' ∧ SeenAt H' S ((pq M M' m).map (·.1)) ∧ LstAt H' Ly cs ((pq M M' m).drop m) ∧ ∀ j z, j < m → (pq M M' m)[j]? = some z → dif M M' z = false,
      ⟨_, 0, Ly, none, none, none, none, none, rfl, rfl, Nat.zero_le _, s4, hk4, hl4, fun j z hj => absurd hj (Nat.not_lt_zero _)⟩, ?_⟩
    rintro _ σ H6 ⟨m, Ly, u1, u2, u3, u4, u5, rfl, rfl, hm, s6, hk6, hy6, hb6⟩
    refine ⟨_, rfl, Nat.zero_le _, fun E0 hE0 => ?_⟩
    have t7 : Same H6 (upd H6 E0 (.lst [])) := Same.upd hE0
    have hE7 : (upd H6 E0 (.lst [])) E0 = some (.lst []) := upd_same
    have s7 := s6.trans t7
    have hk7 : SeenAt _ S _ := t7 _ _ hk6
    have hy7 := hy6.stay (fun xs e => t7 _ _ e) fun b xs e => t7 _ _ e
    generalize upd H6 E0 (.lst []) = H7 at hE7 s7 hk7 hy7
    obtain ⟨ay, hay, hpy⟩ := id hy7
    refine ⟨.list (((pq M M' m).drop m).map (iD cs)), .list [], .lst (sql hay) (dp_items hpy), .lst (sql hE7) .nil, shaped_items hl _, shaped_nil, _, rfl, ?_⟩
    rw [ne_nil]
    have hayl : ay.length = (pq M M' m).length - m := by have := Paired.length hpy; rw [List.length_drop] at this; exact this
    by_cases hmn : m < (pq M M' m).length
    · have hne : ((pq M M' m).drop m).map (iD cs) ≠ [] := fun z => by
        have := congrArg List.length z
        rw [List.length_map, List.length_drop] at this
        simp at this
        omega
      rw [decide_eq_true hne]
      dsimp only
      rw [if_pos rfl]
      have hpre : pq M M' m <+: pq M M' (pq M M' m).length := by
        have := bq_pre (κ := fun x : Itm => x.1) (sc := scP M M') (x0 := ((0, 0), [])) m ((pq M M' m).length - m)
        rw [show m + ((pq M M' m).length - m) = (pq M M' m).length by omega] at this
        exact this
      refine ⟨fun σ' H' => ∃ (Ly : Addr) (u1 u2 u3 u4 u5 : Option V), σ' = [some (.ref p), some (.ref q), some (.ref Ly), some (.ref S), u1, u2, u3, u4, u5] ∧ Same H H' ∧ SeenAt H' S ((pq M M' (pq M M' m).length).map (·.1)) ∧ LstAt H' Ly cs ((pq M M' (pq M M' m).length).drop (pq M M' m).length) ∧ ∀ j z, j < (pq M M' m).length → (pq M M' m)[j]? = some z → dif M M' z = false, ?_, seq_ ⟨Nat.zero_le _, fun G hG => seq_ ?_⟩⟩
      · rintro σ' H' ⟨Ly, v1, v2, v3, v4, v5, rfl, s', k', y', b'⟩
        have h1 := hlenM m
        refine ⟨M.n * M'.n - (pq M M' m).length, by omega, (pq M M' m).length, Ly, v1, v2, v3, v4, v5, rfl, rfl, hpre.length_le, s', k', y', fun j z hj hz => ?_⟩
        obtain ⟨t, e⟩ := hpre
        rw [← e, List.getElem?_append_left hj] at hz
        exact b' j z hj hz
      have t8 : Same H7 (upd H7 G (.lst [])) := Same.upd hG
      have hGn : H G = none := by
        cases e : H G with
        | none => rfl
        | some o => rw [s7 _ _ e] at hG; cases hG
      have hGS : G ≠ S := fun z => by
        rw [z] at hG
        unfold SeenAt at hk7
        rw [hG] at hk7
        cases hk7
      have hGL : G ≠ Ly := fun z => by rw [z, hay] at hG; cases hG
      have s8 := s7.trans t8
      have hk8 : SeenAt _ S _ := t8 _ _ hk7
      have hay8 := t8 _ _ hay
      have hpy8 : Paired (ItemAt (upd H7 G (.lst [])) cs) ay ((pq M M' m).drop m) := paired_tups (fun _ _ h => h.tups fun b xs e => t8 _ _ e) hpy
      have hg8 : LstAt (upd H7 G (.lst [])) G cs ((pq M M' (m + 0)).drop (pq M M' m).length) := by
        rw [Nat.add_zero, List.drop_of_length_le (Nat.le_refl _)]
        exact ⟨[], upd_same, .nil⟩
      generalize upd H7 G (.lst []) = H8 at s8 hk8 hay8 hpy8 hg8
      refine ⟨_, rfl, Ly, rfl, ⟨_, sql hay8⟩, ?_⟩
      refine for_it (walk_list (xs := ay.map V.ref)) (fun j σ H' => ∃ u2 u3 u4 u5 : Option V, σ = [some (.ref p), some (.ref q), some (.ref Ly), some (.ref S), some (.ref G), u2, u3, u4, u5] ∧ Same H H' ∧ SeenAt H' S ((pq M M' (m + j)).map (·.1)) ∧ H' Ly = some (.lst (ay.map V.ref)) ∧ Paired (ItemAt H' cs) ay ((pq M M' m).drop m) ∧ LstAt H' G cs ((pq M M' (m + j)).drop (pq M M' m).length) ∧ ∀ i z, i < m + j → (pq M M' m)[i]? = some z → dif M M' z = false)
        ⟨_, _, _, _, rfl, s8, hk8, hay8, hpy8, hg8, hb6⟩ (fun i σ H' hi ⟨_, _, _, _, _, _, _, e, _⟩ => sql e) (fun j x σ H9 H10 hj hP hy => ?_) fun σ H9 hP => ?_
      · obtain ⟨u2, u3, u4, u5, rfl, s9, hk9, hay9, hpy9, hg9, hb9⟩ := hP
        obtain ⟨rfl, e⟩ := hy
        rw [List.length_map] at hj
        rw [List.getElem?_map, List.getElem?_eq_getElem hj] at e
        cases e
        have hmj : m + j < (pq M M' m).length := by omega
        obtain ⟨a, ha1, t, ha2, ht9⟩ := paired_get (i := j) (b := (pq M M' m)[m + j]) hpy9 (by rw [List.getElem?_drop, List.getElem?_eq_getElem hmj])
        rw [List.getElem?_eq_getElem hj] at ha1
        cases ha1
        have hx : (pq M M' m)[m + j]? = some (pq M M' m)[m + j] := List.getElem?_eq_getElem hmj
        have hxlt := pq_lt W W' m _ (List.getElem_mem hmj)
        have hxs := pq_short m _ (List.getElem_mem hmj)
        have hstep : pq M M' (m + j + 1) = pushs (fun x : Itm => x.1) (pq M M' (m + j)) (scP M M' (pq M M' m)[m + j]) := bq_item hx
        generalize (pq M M' m)[m + j] = x at ha2 ht9 hx hxlt hxs hstep
        have hm36 := hlen m
        refine ⟨ay[j], _, rfl, sqt ha2, rfl, g2 (seq_ ?_)⟩
        obtain ⟨d, y, e1, e2, e3, hmv, hyy, hrow⟩ := plain_get (hR.same s9)
        obtain ⟨d', y', e1', e2', e3', hmv', hyy', hrow'⟩ := plain_get (hR'.same s9)
        refine ⟨_, rfl, t, _, 0, _, rfl, rfl, sqt ht9, at_of (j := 0) rfl rfl, _, rfl, p, _, rfl, e3, y, _, rfl, .inr (sqt hyy), rfl, flat_iv _, _, rfl, t, _, 1, _, rfl, rfl, sqt ht9, at_of (j := 1) rfl rfl, _, rfl, q, _, rfl, e3', y', _, rfl, .inr (sqt hyy'), rfl, flat_iv _, rfl, _, rfl, ?_⟩
        have hde : (!decide (V.bl (if false = true then !inV (V.int (x.1.1 : Nat)) (iv M.good) else inV (V.int (x.1.1 : Nat)) (iv M.good)) = V.bl (if false = true then !inV (V.int (x.1.2 : Nat)) (iv M'.good) else inV (V.int (x.1.2 : Nat)) (iv M'.good)))) = dif M M' x := by
          rw [if_neg Bool.false_ne_true, if_neg Bool.false_ne_true, inV_iv, inV_iv]
          unfold dif Mch.ok
          cases M.good.contains x.1.1 <;> cases M'.good.contains x.1.2 <;> simp
        rw [hde]
        cases hd : dif M M' x with
        | true =>
          refine iteT ⟨_, rfl, ?_⟩
          have hp := part_of W W' hx hb9 hd
          have := k _ s9
          rw [hp] at this
          exact this
        | false =>
          refine iteF ⟨_, rfl, p, _, rfl, e1, txt cs, rfl, ?_⟩
          have hscl : (scP M M' x).length = cs.length := by rw [← hkk]; simp [scP]
          have hsci : ∀ i (hi : i < cs.length), (scP M M' x)[i]'(by rw [hscl]; exact hi) = ((M.d i x.1.1, M'.d i x.1.2), x.2 ++ [i]) := fun i hi => by simp [scP]
          have hql : ∀ i, (pushs (fun x : Itm => x.1) (pq M M' (m + j)) ((scP M M' x).take i)).length ≤ 3600 := fun i => by
            have h1 := pushs_take_le (κ := fun x : Itm => x.1) (q := pq M M' (m + j)) (xs := scP M M' x) (i := i)
            rw [← hstep] at h1
            exact Nat.le_trans h1 (hlen _)
          have hNl : ∀ i, (pq M M' m).length ≤ (pushs (fun x : Itm => x.1) (pq M M' (m + j)) ((scP M M' x).take i)).length := fun i => by
            have h1 := (bq_pre (κ := fun x : Itm => x.1) (sc := scP M M') (x0 := ((0, 0), [])) m j).length_le
            exact Nat.le_trans h1 pushs_len_le
          refine for_it (walk_txt (cs := cs)) (fun i σ H' => ∃ u4 u5 : Option V, σ = [some (.ref p), some (.ref q), some (.ref Ly), some (.ref S), some (.ref G), some (.ref t), some (.str (wtx cs x.2)), u4, u5] ∧ Same H H' ∧ SeenAt H' S ((pushs (fun x : Itm => x.1) (pq M M' (m + j)) ((scP M M' x).take i)).map (·.1)) ∧ H' Ly = some (.lst (ay.map V.ref)) ∧ Paired (ItemAt H' cs) ay ((pq M M' m).drop m) ∧ LstAt H' G cs ((pushs (fun x : Itm => x.1) (pq M M' (m + j)) ((scP M M' x).take i)).drop (pq M M' m).length) ∧ PairAt H' t x.1.1 x.1.2)
            ⟨_, _, rfl, s9, hk9, hay9, hpy9, hg9, ht9⟩ (fun _ _ _ _ _ => True.intro) (fun i z σ H10 H11 hi hP hy => ?_) fun σ H10 hP => ?_
          · obtain ⟨u4, u5, rfl, s10, hk10, hay10, hpy10, hg10, ht10⟩ := hP
            obtain ⟨rfl, c, hc, rfl⟩ := hy
            rw [List.getElem?_eq_getElem hi] at hc
            cases hc
            have htk : (scP M M' x).take (i + 1) = (scP M M' x).take i ++ [((M.d i x.1.1, M'.d i x.1.2), x.2 ++ [i])] := by
              rw [List.take_add_one, List.getElem?_eq_getElem (by rw [hscl]; exact hi), hsci i hi]
              rfl
            have hps : pushs (fun x : Itm => x.1) (pq M M' (m + j)) ((scP M M' x).take (i + 1)) = push (fun x : Itm => x.1) (pushs (fun x : Itm => x.1) (pq M M' (m + j)) ((scP M M' x).take i)) ((M.d i x.1.1, M'.d i x.1.2), x.2 ++ [i]) := by
              rw [htk]
              exact pushs_snoc _ _ _
            have hq36 := hql i
            have hqN := hNl i
            generalize pushs (fun x : Itm => x.1) (pq M M' (m + j)) ((scP M M' x).take i) = qq at hk10 hg10 hps hq36 hqN
            obtain ⟨d, y, e1, e2, e3, hmv, hyy, hrow⟩ := plain_get (hR.same s10)
            obtain ⟨d', y', e1', e2', e3', hmv', hyy', hrow'⟩ := plain_get (hR'.same s10)
            obtain ⟨ar, r, q1, q2, q3, q4⟩ := hrow i hi
            obtain ⟨ar', r', q1', q2', q3', q4'⟩ := hrow' i hi
            refine seq_ ⟨_, rfl, p, _, rfl, e2, _, rfl, d, _, rfl, q1, _, rfl, t, _, 0, _, rfl, rfl, sqt ht10, at_of (j := 0) rfl rfl, ar, _, x.1.1, _, rfl, rfl, sqt q4, iv_at (by omega), ?_⟩
            refine ⟨_, rfl, q, _, rfl, e2', _, rfl, d', _, rfl, q1', _, rfl, t, _, 1, _, rfl, rfl, sqt ht10, at_of (j := 1) rfl rfl, ar', _, x.1.2, _, rfl, rfl, sqt q4', iv_at (by omega), two, fun b hb => ?_⟩
            rw [d_at q2, d_at q2']
            have t9 : Same H11 (upd H11 b (.tup [.int (M.d i x.1.1 : Nat), .int (M'.d i x.1.2 : Nat)])) := Same.upd hb
            have s9 := s10.trans t9
            have hb9' : PairAt (upd H11 b (.tup [.int (M.d i x.1.1 : Nat), .int (M'.d i x.1.2 : Nat)])) b (M.d i x.1.1) (M'.d i x.1.2) := upd_same
            have hg9 := hg10.stay (fun xs e => t9 _ _ e) fun c xs e => t9 _ _ e
            have hk9 : SeenAt _ S (qq.map (·.1)) := t9 _ _ hk10
            have ht9 : PairAt _ t x.1.1 x.1.2 := t9 _ _ ht10
            have hay9 := t9 _ _ hay10
            have hpy9 : Paired (ItemAt (upd H11 b (.tup [.int (M.d i x.1.1 : Nat), .int (M'.d i x.1.2 : Nat)])) cs) ay ((pq M M' m).drop m) := paired_tups (fun _ _ h => h.tups fun b xs e => t9 _ _ e) hpy10
            generalize upd H11 b (.tup [.int (M.d i x.1.1 : Nat), .int (M'.d i x.1.2 : Nat)]) = HA at s9 hb9' hg9 hk9 ht9 hay9 hpy9
            obtain ⟨o, ho1, ho2⟩ := seen_get hk9 hb9'
            refine ⟨_, rfl, _, rfl, S, o, rfl, ho1, _, rfl, ?_⟩
            rw [ho2]
            by_cases hmm : (M.d i x.1.1, M'.d i x.1.2) ∈ qq.map (·.1)
            · rw [decide_eq_true hmm]
              refine iteF ⟨_, _, rfl, s9, ?_, hay9, hpy9, ?_, ht9⟩
              · rw [hps, push_old hmm]
                exact hk9
              · rw [hps, push_old hmm]
                exact hg9
            · rw [decide_eq_false hmm]
              refine iteT (seq_ ⟨_, rfl, _, rfl, S, _, rfl, seen_put hk9 hb9' hmm (by rw [List.length_map]; omega), ?_⟩)
              have tB : Tups HA (upd HA S (.dT ((qq.map (·.1) ++ [(M.d i x.1.1, M'.d i x.1.2)]).map fun p => (pk p, V.bl true)))) := fun c xs e => by rw [upd_ne (fun z => by rw [z, hk9] at e; cases e)]; exact e
              have lB : ∀ l xs, HA l = some (.lst xs) → (upd HA S (.dT ((qq.map (·.1) ++ [(M.d i x.1.1, M'.d i x.1.2)]).map fun p => (pk p, V.bl true)))) l = some (.lst xs) := fun c xs e => by rw [upd_ne (fun z => by rw [z, hk9] at e; cases e)]; exact e
              have sB : Same H (upd HA S (.dT ((qq.map (·.1) ++ [(M.d i x.1.1, M'.d i x.1.2)]).map fun p => (pk p, V.bl true)))) := fun c u e => by
                rw [upd_ne (ne_of_none e hSn)]
                exact s9 _ _ e
              have hkB : SeenAt (upd HA S (.dT ((qq.map (·.1) ++ [(M.d i x.1.1, M'.d i x.1.2)]).map fun p => (pk p, V.bl true)))) S (qq.map (·.1) ++ [(M.d i x.1.1, M'.d i x.1.2)]) := upd_same
              have hgB := hg9.stay (lB G) tB
              have hayB := lB _ _ hay9
              have hbB := tB _ _ hb9'
              have htB : PairAt _ t x.1.1 x.1.2 := tB _ _ ht9
              have hpyB : Paired (ItemAt (upd HA S (.dT ((qq.map (·.1) ++ [(M.d i x.1.1, M'.d i x.1.2)]).map fun p => (pk p, V.bl true)))) cs) ay ((pq M M' m).drop m) := paired_tups (fun _ _ h => h.tups tB) hpy9
              generalize upd HA S (.dT ((qq.map (·.1) ++ [(M.d i x.1.1, M'.d i x.1.2)]).map fun p => (pk p, V.bl true))) = HB at sB hkB hgB hayB hpyB hbB htB
              obtain ⟨ag, hag, hpg⟩ := hgB
              have hagl : ag.length = qq.length - (pq M M' m).length := by have := Paired.length hpg; rw [List.length_drop] at this; exact this
              refine ⟨_, rfl, .inl ⟨rfl, _, sql hag⟩, _, rfl, _, rfl, _, rfl, _, _, rfl, rfl, ?_, two, fun aN haN => ?_⟩
              · rw [wtx_len, sizeLine_eq]
                show _ + 1 ≤ _
                omega
              · dsimp only [tNil]
                rw [wtx_snoc hi]
                have tN : Same HB (upd HB aN (.tup [.ref b, .str (wtx cs (x.2 ++ [i]))])) := Same.upd haN
                have hGN : G ≠ aN := ne_of_none hag haN
                have tU : Tups HB (upd (upd HB aN (.tup [.ref b, .str (wtx cs (x.2 ++ [i]))])) G (.lst (ag.map V.ref ++ [.ref aN]))) := fun b xs e => by
                  rw [upd_ne (fun z => by rw [z, hag] at e; cases e)]
                  exact tN _ _ e
                refine ⟨G, _, _, rfl, rfl, tN _ _ hag, by rw [List.length_map, sizeLine_eq]; omega, _, _, rfl, fun c u e => ?_, ?_, ?_, ?_, ?_, ?_⟩
                · rw [upd_ne (ne_of_none e hGn)]
                  exact tN _ _ (sB _ _ e)
                · rw [hps, push_new hmm, List.map_append]
                  show (upd (upd HB aN _) G _) S = _
                  rw [upd_ne (Ne.symm hGS), tN _ _ hkB]
                  rfl
                · rw [upd_ne (Ne.symm hGL)]
                  exact tN _ _ hayB
                · exact paired_tups (fun _ _ h => h.tups tU) hpyB
                · rw [hps, pushs_drop_new hmm hqN]
                  refine ⟨ag ++ [aN], by rw [upd_same, List.map_append]; rfl, paired_snoc ⟨b, ?_, tU _ _ hbB⟩ (paired_tups (fun _ _ h => h.tups tU) hpg)⟩
                  show (upd (upd HB aN _) G _) aN = _
                  rw [upd_ne (Ne.symm hGN)]
                  exact upd_same
                · exact tU _ _ htB
          · obtain ⟨u4, u5, rfl, s10, hk10, hay10, hpy10, hg10, ht10⟩ := hP
            rw [List.take_of_length_le (by omega), ← hstep] at hk10 hg10
            refine ⟨_, _, _, _, rfl, s10, hk10, hay10, hpy10, hg10, fun i z hi hz => ?_⟩
            by_cases hij : i < m + j
            · exact hb9 i z hij hz
            · have : i = m + j := by omega
              subst this
              rw [hx] at hz
              cases hz
              exact hd
      · obtain ⟨u2, u3, u4, u5, rfl, s9, hk9, hay9, hpy9, hg9, hb9⟩ := hP
        have eN : m + (ay.map V.ref).length = (pq M M' m).length := by rw [List.length_map]; omega
        rw [eN] at hk9 hg9 hb9
        obtain ⟨ag, hg1, hg2⟩ := hg9
        refine ⟨_, rfl, G, _, rfl, .inl (sql hg1), fun L2 hL2 => ?_⟩
        have tL : Same H9 (upd H9 L2 (.lst (ag.map V.ref))) := Same.upd hL2
        exact ⟨L2, _, _, _, _, _, rfl, s9.trans tL, tL _ _ hk9, ⟨ag, upd_same, paired_tups (fun _ _ h => h.tups fun b xs e => tL _ _ e) hg2⟩, hb9⟩
    · have hne : ((pq M M' m).drop m).map (iD cs) = [] := by rw [List.drop_of_length_le (by omega)]; rfl
      rw [decide_eq_false (fun z => z hne)]
      dsimp only
      rw [if_neg Bool.false_ne_true]
      have hp : part M M' = none := part_none_of W W' (K := m) (by omega) fun z hz => by
        obtain ⟨j, hj, e⟩ := List.getElem_of_mem hz
        exact hb6 j z (by omega) (by rw [List.getElem?_eq_getElem hj, e])
      have := k H7 s7
      rw [hp] at this
      exact this
end
end WP

/-! ## P26 -/
set_option Elab.async false
set_option linter.all false
set_option maxRecDepth 100000
set_option maxHeartbeats 4000000
/-! The law's own marks. -/
namespace WP
open PySem PySem.Spec PyProof.Rows L2 WR WC
section
variable {X : Cx} {o e : Expr} {to te : TE} {apos cpos : Pos}
theorem pe_indexD (K : PySem.W.Frag) (hK : X.K = K) (hu : X.A.units + 65 < cLine) (ho : PE X o to) (ha : PE X e te) (hbase : attributeBase o "index" X.env (eval o X.env) = eval o X.env := by rfl)
    (hfew : ((backTo cpos (starEach [e] X.env)).all (fun x => !x.1) && (backToKw cpos (keywordEach [] X.env)).all (fun x => x.1.isSome)
      && decide (([e] : List Expr).length + ([] : List Keyword).length + (if ([] : List Keyword).isEmpty then 0 else 1) < 30)) = true := by rfl)
    (hline : (apos.endLine == cpos.line) = true := by rfl) (hs : starEach [e] X.env = (false, eval e X.env) :: starEach [] X.env := by rfl) (hplain : (backTo cpos (starEach [] X.env)).any (·.1) = false := by rfl) :
    PE X (.Call (.Attribute o "index" apos) [e] [] cpos) (tBM K "list" (rIndexD K) to (tCons te tNil)) := by
  subst hK
  exact pe_bm PySem.F.plainAttrs_list PySem.F.slot_list_index PySem.F.type_list_index (mt_indexD hu) ho (pa_cons ha pa_nil hs) hbase hfew hline hs hplain
end
theorem op_catQ {X : Cx} (K : PySem.W.Frag) (h : X.K = K) : OpR X (binaryOp .Add) (rCatA K) := h ▸ op_catA
theorem idxD_at {rows : List (List Nat)} {r : List Nat} (hr : r ∈ rows) {K : PySem.W.Frag} {H : Hp} {a b : Addr} {as : List Addr} (ha : H a = some (.lst (as.map V.ref))) (hR : RowsAt H as rows) (hb : H b = some (.tup (iv r))) {Q : VK} (k : Q (.int (rows.idxOf r : Nat)) H) : rIndexD K (.ref a) [.ref b] H Q := by
  have h1 : rows.idxOf r < rows.length := List.idxOf_lt_length_of_mem hr
  have e1 : rows[rows.idxOf r] = r := List.getElem_idxOf h1
  refine ⟨a, .ref b, tupD r, rows.map tupD, rows.idxOf r, tupD r, rfl, rfl, .lst (sql ha) (dp_rows hR), dp_tup hb, shaped_rows _, shaped_ints _, ?_, ?_, fun m z hm hz => ?_, k⟩
  · rw [List.getElem?_map, List.getElem?_eq_getElem h1, e1]
    rfl
  · rw [tupD, eqv_tup, decide_eq_true rfl]
  · rw [List.getElem?_map, List.getElem?_eq_getElem (by omega)] at hz
    cases hz
    rw [tupD, tupD, eqv_tup]
    refine decide_eq_false fun e => ?_
    have := List.not_of_lt_findIdx (p := (· == r)) (xs := rows) hm
    simp [e] at this
def cI (r : List Nat) : List Int := r.map fun n : Nat => (n : Int)
theorem cI_inj {r s : List Nat} (h : cI r = cI s) : r = s := map_inj (fun x _ y _ e => by have e : (x : Int) = (y : Int) := e; omega) h
theorem iv_cI (r : List Nat) : (cI r).map V.int = iv r := (iv_ints r).symm
theorem rows_of {H : Hp} : ∀ {L : List (Addr × List Int)}, (∀ q ∈ L, ∃ r : List Nat, q.2 = cI r ∧ H q.1 = some (.tup (iv r))) → ∃ rows, RowsAt H (L.map (·.1)) rows ∧ L.map (·.2) = rows.map cI
  | [], _ => ⟨[], .nil, rfl⟩
  | q :: L, h => by
    obtain ⟨rows, h1, h2⟩ := rows_of (L := L) fun q hq => h q (List.mem_cons_of_mem _ hq)
    obtain ⟨r, e1, e2⟩ := h q List.mem_cons_self
    exact ⟨r :: rows, .cons e2 h1, by rw [List.map_cons, List.map_cons, h2, e1]⟩
theorem mem_cI {r : List Nat} {rows : List (List Nat)} (h : cI r ∈ rows.map cI) : r ∈ rows := by
  obtain ⟨s, hs, e⟩ := List.mem_map.mp h
  exact cI_inj e ▸ hs
/-- the rows with their places -/
def krs (M : Mch) (mk : List Nat) (as : List Addr) : List (Addr × List Int) := (List.range M.n).map fun i => (as.getD i 0, cI (kRow M mk i))
theorem krs_refs {M : Mch} {mk : List Nat} {as : List Addr} (h : as.length = M.n) : (krs M mk as).map (fun p => V.ref p.1) = as.map V.ref := by
  refine List.ext_getElem (by simp [krs, h]) fun i h1 h2 => ?_
  have hi : i < as.length := by simpa using h2
  simp only [krs, List.map_map, List.getElem_map, List.getElem_range, Function.comp]
  rw [List.getD_eq_getElem?_getD, List.getElem?_eq_getElem hi]
  rfl
theorem krs_mem {M : Mch} {mk : List Nat} {as : List Addr} {p : Addr × List Int} (h : as.length = M.n) (hp : p ∈ krs M mk as) : ∃ i, ∃ hi : i < as.length, p.1 = as[i] ∧ p.2 = cI (kRow M mk i) ∧ i < M.n := by
  obtain ⟨i, hi, rfl⟩ := List.mem_map.mp hp
  have hi := List.mem_range.mp hi
  refine ⟨i, by omega, ?_, rfl, hi⟩
  show as.getD i 0 = _
  rw [List.getD_eq_getElem?_getD, List.getElem?_eq_getElem (by omega)]
  rfl
theorem dd_cI (mk : List Nat) : (dd (cI mk)).length = (dd mk).length := dd_map_inj fun x _ y _ e => by
  have e : (x : Int) = (y : Int) := e
  omega
section
variable {P : Program} {w : World} {K : PySem.W.Frag} {mg : Str → Option Value} {C : Addr} {base : Heap}
theorem sc_law_kin : FnScope ["_law_plain", "_law_many", "_law_marks", "_law_at", "_law_last", "_law_rows", "_law_sign", "_law_known", "_law_row"] ["_law_plain"] (defScope (top 40)) := ⟨rfl, rfl, rfl, by decide +kernel, rfl, by decide +kernel, by decide +kernel⟩
def sp_law_kin : Sp := fun vs H Q _ => ∃ p cs M, vs = [.ref p] ∧ PlainAt H p cs M ∧ ∀ L mk H', Same H H' → H' L = some (.lst (iv mk)) → mk.length = M.n → Kern M (fun s => mk.getD s 0) → Q (.ref L) H'
theorem ok_law_kin (T : TX K mg C) : Ok P w K mg base 1 "_law_kin" (top 40) ["_law_plain"] sp_law_kin := by
  obtain ⟨f, fd, D⟩ := T.f_law_kin
  refine ⟨f, fd, D, D.F.ok sc_law_kin (fun vs H Q E h => ?_) (fun cdv A outer s H vs Q E hr h => ?_)⟩
  · obtain ⟨p, cs, M, rfl, _⟩ := h
    rfl
  · obtain ⟨p, cs, M, rfl, hR, k⟩ := h
    refine ⟨_, (pss_cons ((ps_set (i := 1) sc_law_kin.nd rfl (Or.inl rfl) (pe_lenQ T (pe_dget hr.u1 (pe_dget hr.u1 (pv 0) pe_str (fun _ _ => rfl)) (pe_ix ix_str (pe_dget hr.u1 (pv 0) pe_str (fun _ _ => rfl)) pe_int (fun _ _ => rfl)) (fun _ _ => rfl)))))
      (pss_cons (ps_asg (pe_tup (pa_cons ((pe_lc (own := [("_law_at", 3)]) (g := gName 3) (tt := tYes) rfl sc_law_kin.nd (pi_range1 (by rfl) T.b_range (pa_cons ((pv 1)) pa_nil)) (blkOk_by (N := ["_law_plain", "_law_many", "_law_marks", "_law_at", "_law_last", "_law_rows", "_law_sign", "_law_known", "_law_row"]) (sc := defScope (top 40)) (by decide +kernel)) (fun _ _ _ _ _ => pg_name (i := 3) sc_law_kin.nd rfl (Or.inl rfl)) (fun _ _ _ _ _ => pts_nil) (fun _ _ _ _ _ => (pe_callTy call_int1 (by rfl) T.b_int (by decide +kernel) (pa_cons (pe_cmpR (op_inQ K rfl) (pv 3) (pe_dget hr.u1 (pv 0) pe_str (fun _ _ => rfl)) rfl) pa_nil))))) (pa_cons (pe_int) pa_nil))) (pg_tup rfl (pgs_cons (pg_name (i := 2) sc_law_kin.nd rfl (Or.inr rfl)) (pgs_cons (pg_name (i := 4) sc_law_kin.nd rfl (Or.inl rfl)) pgs_nil))))
      (pss_cons (ps_while PassesOwn.never (pt_cmpR op_gt (pe_lenSet2 rfl (by rfl) T.b_len (by rfl) T.b_set (pv 2)) (pv 4) (nomark _)) (pss_cons ((ps_set (i := 4) sc_law_kin.nd rfl (Or.inl rfl) (pe_lenSet2 rfl (by rfl) T.b_len (by rfl) T.b_set (pv 2))))
      (pss_cons ((ps_setLc (i := 5) (own := [("_law_at", 3)]) (g := gName 3) (tt := tYes) rfl sc_law_kin.nd rfl rfl (sw_true rfl rfl rfl (by decide +kernel)) (pi_range1 (by rfl) T.b_range (pa_cons ((pv 1)) pa_nil)) (blkOk_by (N := ["_law_plain", "_law_many", "_law_marks", "_law_at", "_law_last", "_law_rows", "_law_sign", "_law_known", "_law_row"]) (sc := defScope (top 40)) (by decide +kernel)) (fun _ _ _ _ _ => pg_name (i := 3) sc_law_kin.nd rfl (Or.inr rfl)) (fun _ _ _ _ _ => pts_nil) (fun _ _ _ _ _ => pe_op (op_catQ K rfl) (pe_tup (pa_cons (pe_ix (ix_listQ K rfl) (pv 2) (pv 3) (fun _ _ => rfl)) pa_nil)) (pe_tupQ T (pe_lc (own := [("_law_sign", 6)]) (g := gName 6) (tt := tYes) rfl sc_law_kin.nd (pi_str (pe_dget hr.u1 (pv 0) pe_str (fun _ _ => rfl))) (blkOk_re (N := ["_law_plain", "_law_many", "_law_marks", "_law_at", "_law_last", "_law_rows", "_law_sign", "_law_known", "_law_row"]) (S := cScope (inExpr (top 40) 2 1)) rfl rfl (by decide +kernel)) (fun _ _ _ _ _ => pg_name (i := 6) sc_law_kin.nd rfl (Or.inl rfl)) (fun _ _ _ _ _ => pts_nil) (fun _ _ _ _ _ => pe_ix (ix_listQ K rfl) (pv 2) (pe_ix (ix_tupQ K rfl) (pe_dget hr.u1 (pe_dget hr.u1 (pv 0) pe_str (fun _ _ => rfl)) (pv 6) (fun _ _ => rfl)) (pv 3) (fun _ _ => rfl)) (fun _ _ => rfl)))))))
      (pss_cons ((ps_set (i := 7) sc_law_kin.nd rfl (Or.inr rfl) (pe_callB (cr_sortedT rfl) (by rfl) T.b_sorted (by decide +kernel) (pa_cons (pe_callTy (cr_setOfT rfl hr.u64) (by rfl) T.b_set (by decide +kernel) (pa_cons ((pv 5)) pa_nil)) pa_nil))))
      (pss_one ((ps_set (i := 2) sc_law_kin.nd rfl (Or.inr rfl) ((pe_lc (own := [("_law_row", 8)]) (g := gName 8) (tt := tYes) rfl sc_law_kin.nd (pi_list (pv 5)) (blkOk_by (N := ["_law_plain", "_law_many", "_law_marks", "_law_at", "_law_last", "_law_rows", "_law_sign", "_law_known", "_law_row"]) (sc := defScope (top 40)) (by decide +kernel)) (fun _ _ _ _ _ => pg_name (i := 8) sc_law_kin.nd rfl (Or.inl rfl)) (fun _ _ _ _ _ => pts_nil) (fun _ _ _ _ _ => pe_indexD K rfl hr.u65 (pv 7) (pv 8)))))))))))
      (pss_one (ps_ret (pv 2)))))), ?_⟩
    have g := hR.1
    have W := g.wf
    have hl := g.ltrs
    have hn60 := g.few
    have hn0 := W.n0
    have hpos := hl.pos
    have hfew := hl.few
    have hkk : M.k = cs.length := g.k
    obtain ⟨d, y, e1, e2, e3, hmv, hyy, hrow⟩ := plain_get hR
    obtain ⟨a0, r0, q1, q2, q3, q4⟩ := hrow 0 hpos
    refine ⟨_, rfl, p, _, rfl, e2, _, rfl, p, _, rfl, e1, _, 0, cs[0], rfl, rfl, by rw [txt_length, sizeLine_eq]; omega, txt_at (i := 0) hpos, d, _, rfl, q1, a0, _, rfl, .inr (sqt q4), seq_ ?_⟩
    rw [iv_len, q3]
    refine ⟨_, rfl, _, rfl, by omega, by omega, fun D hD => lc_map (walk_rg (n := ((M.n : Nat) : Int).toNat)) hD (iv (kOk M)) (by rw [iv_len, (kOk_ki M).len]; omega) (by omega) (fun _ _ => True.intro) (fun i x H3 H4 Nx hi sm hLi hy kk => ?_) fun H3 s3 hD3 => ?_⟩
    · obtain ⟨rfl, rfl⟩ := hy
      obtain ⟨d, y, e1, e2, e3, hmv, hyy, hrow⟩ := plain_get (hR.same sm)
      have hin : i < M.n := by omega
      refine ⟨rfl, _, rfl, _, rfl, p, _, rfl, e3, y, _, rfl, .inr (sqt hyy), rfl, flat_iv _, .inr ⟨_, rfl, ?_⟩⟩
      refine lc_fin (n := ((M.n : Nat) : Int).toNat) (by rw [iv_len, (kOk_ki M).len]; omega) (by omega) hi kk hLi sm ?_
      rw [iv_get (by rw [(kOk_ki M).len]; exact hin), if_neg Bool.false_ne_true, inV_iv]
      simp only [kOk, List.getElem_map, List.getElem_range, Mch.ok]
      cases M.good.contains i <;> rfl
    refine ⟨by rw [sizeLine_eq]; show 2 ≤ _; omega, fun t ht => ⟨t, _, rfl, sqt upd_same, rfl, g2 (seq_ ?_)⟩⟩
    have s4 : Same H (upd H3 t (.tup [.ref D, .int 0])) := s3.trans (Same.upd ht)
    have hD4 := (Same.upd (o := .tup [.ref D, .int 0]) ht) _ _ hD3
    generalize upd H3 t (.tup [.ref D, .int 0]) = H4 at s4 hD4
    refine ⟨fun mm σ H' => ∃ (Lm : Addr) (mk : List Nat) (la : Nat) (u1 u2 u3 u4 u5 : Option V), mm = M.n + 1 - la ∧ σ = [some (.ref p), some (.int (M.n : Nat)), some (.ref Lm), u1, some (.int (la : Int)), u2, u3, u4, u5] ∧ Same H H' ∧ H' Lm = some (.lst (iv mk)) ∧ KI M mk ∧ KLast M mk la,
      ⟨_, D, kOk M, 0, none, none, none, none, none, rfl, rfl, s4, hD4, kOk_ki M, .inl rfl⟩, ?_⟩
    rintro _ σ H5 ⟨Lm, mk, la, u1, u2, u3, u4, u5, rfl, rfl, s5, hLm, hki, hla⟩
    have hml := hki.len
    have hdn : (dd mk).length ≤ M.n := by rw [← hki.cnt]; exact cnt_n _
    refine ⟨_, rfl, Lm, cI mk, rfl, by rw [iv_cI]; exact sql hLm, by show (mk.map _).length < _; rw [List.length_map]; omega, _, rfl, _, _, rfl, rfl, _, rfl, ?_⟩
    rw [dd_cI]
    by_cases hgt : (dd mk).length > la
    · rw [decide_eq_true (show ((dd mk).length : Int) > (la : Int) by omega)]
      dsimp only
      rw [if_pos rfl]
      refine ⟨fun σ' H' => ∃ (Lm : Addr) (mk' : List Nat) (u1 u2 u3 u4 u5 : Option V), σ' = [some (.ref p), some (.int (M.n : Nat)), some (.ref Lm), u1, some (.int ((dd mk).length : Nat)), u2, u3, u4, u5] ∧ Same H H' ∧ H' Lm = some (.lst (iv mk')) ∧ KI M mk' ∧ KLast M mk' (dd mk).length, ?_, seq_ ⟨_, rfl, Lm, cI mk, rfl, by rw [iv_cI]; exact sql hLm, by show (mk.map _).length < _; rw [List.length_map]; omega, ?_⟩⟩
      · rintro σ' H' ⟨Lm, mk', v1, v2, v3, v4, v5, rfl, s', h', ki', kl'⟩
        exact ⟨M.n + 1 - (dd mk).length, by omega, Lm, mk', (dd mk).length, v1, v2, v3, v4, v5, rfl, rfl, s', h', ki', kl'⟩
      rw [dd_cI]
      refine seq_ ⟨_, rfl, _, rfl, by omega, by omega, fun R hRn => lc_refs (walk_rg (n := ((M.n : Nat) : Int).toNat)) hRn (fun i H a => H a = some (.tup (iv (kRow M mk i)))) (fun i a H H' t e => t _ _ e) (by omega) (fun _ _ => True.intro) (fun i x H6 H7 Nx hi sm hLi hy kk => ?_) fun H6 asr s6 hasl hR6 hasr => ?_⟩
      · obtain ⟨rfl, rfl⟩ := hy
        have hin : i < M.n := by omega
        have s56 := s5.trans sm
        have hLm6 := sm _ _ hLm
        refine ⟨rfl, _, rfl, _, rfl, Lm, _, i, _, rfl, rfl, sql hLm6, iv_at (by omega), by rw [sizeLine_eq]; show 1 ≤ _; omega, fun t1 ht1 => ?_⟩
        have t1s : Same H7 (upd H7 t1 (.tup [.int (mk.getD i 0 : Nat)])) := Same.upd ht1
        have ht1' : (upd H7 t1 (.tup [.int (mk.getD i 0 : Nat)])) t1 = some (.tup [.int (mk.getD i 0 : Nat)]) := upd_same
        have s57 := s56.trans t1s
        have hLm7 := t1s _ _ hLm6
        generalize upd H7 t1 (.tup [.int (mk.getD i 0 : Nat)]) = H8 at t1s ht1' s57 hLm7
        obtain ⟨d, y, e1, e2, e3, hmv, hyy, hrow⟩ := plain_get (hR.same s57)
        have htl : (M.ways.map fun r => mk.getD (r.getD i 0) 0).length = cs.length := by rw [List.length_map]; exact hkk
        refine ⟨_, rfl, p, _, rfl, e1, txt cs, rfl, fun L2 hL2 => lc_map (walk_txt (cs := cs)) hL2 (iv (M.ways.map fun r => mk.getD (r.getD i 0) 0)) (by rw [iv_len, htl]) (by omega) (fun _ _ => True.intro) (fun j z H9 H10 Nx2 hj s9 hL9 hy2 kk2 => ?_) fun H9 s9 hL9 => ?_⟩
        · obtain ⟨rfl, c, hc, rfl⟩ := hy2
          rw [List.getElem?_eq_getElem hj] at hc
          cases hc
          obtain ⟨d, y, e1, e2, e3, hmv, hyy, hrow⟩ := plain_get (hR.same (s57.trans s9))
          obtain ⟨ar, r, q1, q2, q3, q4⟩ := hrow j hj
          have hlt : r.getD i 0 < M.n := getD_lt (W.lt r (List.mem_of_getElem? q2)) hn0
          refine ⟨rfl, _, rfl, _, rfl, p, _, rfl, e2, _, rfl, d, _, rfl, q1, _, rfl, ar, _, i, _, rfl, rfl, sqt q4, iv_at (by omega), Lm, _, r.getD i 0, _, rfl, rfl, sql (s9 _ _ hLm7), iv_at (by omega), ?_⟩
          refine lc_fin (n := cs.length) (by rw [iv_len, htl]) (by omega) hj kk2 hL9 s9 ?_
          rw [iv_get (by rw [htl]; exact hj), List.getElem_map]
          have : M.ways[j]'(by unfold Mch.k at hkk; omega) = r := (List.getElem?_eq_some_iff.mp q2).2
          rw [this]
        · refine .inl ⟨L2, _, rfl, sql hL9, fun t2 ht2 => ?_⟩
          have t2s : Same H9 (upd H9 t2 (.tup (iv (M.ways.map fun r => mk.getD (r.getD i 0) 0)))) := Same.upd ht2
          refine ⟨t1, t2, _, _, rfl, rfl, sqt (t2s _ _ (s9 _ _ ht1')), sqt upd_same, by rw [iv_len, htl, sizeLine_eq]; show 1 + _ ≤ _; omega, (fun z => by cases z), fun _ z => ?_, fun _ _ t3 ht3 => ?_⟩
          · have := congrArg List.length z
            rw [iv_len, htl] at this
            have : cs.length = 0 := this
            omega
          · refine kk t3 _ ?_ ((t1s.trans s9).trans (t2s.trans (Same.upd ht3)))
            rw [upd_same]
            rfl
      · have hasn : asr.length = M.n := by omega
        have s56 := s5.trans s6
        have hks : ∀ p ∈ krs M mk asr, H6 p.1 = some (.tup (p.2.map V.int)) := fun p hp => by
          obtain ⟨i, hi, h1, h2, _⟩ := krs_mem hasn hp
          rw [h1, h2, iv_cI]
          exact hasr i hi
        refine seq_ ⟨_, rfl, R, krs M mk asr, rfl, by rw [krs_refs hasn]; exact sql hR6, fun p hp => sqt (hks p hp), by simp [krs]; omega, fun a L ha hsub hall => ?_⟩
        have ta : Same H6 (upd H6 a (SetTO P w a L)) := Same.upd ha
        refine ⟨a, L, M.k + 1, 64, rfl, upd_same, fun p hp => sqt (ta _ _ (hks p (hsub p hp))), by omega, fun p hp => ?_, fun L' q hpm hnd hlt hpw hq => seq_ ?_⟩
        · obtain ⟨i, hi, h1, h2, hin⟩ := krs_mem hasn (hsub p hp)
          refine ⟨by rw [h2, cI, List.length_map, kRow_len], fun m hm => ?_⟩
          rw [h2] at hm
          obtain ⟨x, hx, rfl⟩ := List.mem_map.mp hm
          have hx60 : x < 60 := by
            rcases List.mem_cons.mp hx with rfl | hx
            · rw [getD_of (by omega)]
              exact hki.lt _ (List.getElem_mem _)
            · obtain ⟨r, hr, rfl⟩ := List.mem_map.mp hx
              have := getD_lt (s := i) (W.lt r hr) hn0
              rw [getD_of (by omega)]
              exact hki.lt _ (List.getElem_mem _)
          constructor <;> omega
        have tq := ta.trans (Same.upd (o := .lst (L'.map fun q => V.ref q.1)) hq)
        have hK7 : (upd (upd H6 a (SetTO P w a L)) q (.lst (L'.map fun q => V.ref q.1))) q = some (.lst ((L'.map (·.1)).map V.ref)) := by rw [upd_same, List.map_map]; rfl
        have hR7 := tq _ _ hR6
        have s7 := s56.trans tq
        obtain ⟨rows, hrw1, hrw2⟩ := rows_of (H := upd (upd H6 a (SetTO P w a L)) q (.lst (L'.map fun q => V.ref q.1))) (L := L') fun z hz => by
          obtain ⟨i, hi, h1, h2, hin⟩ := krs_mem hasn (hsub z (hpm.mem_iff.mp hz))
          exact ⟨_, h2, tq _ _ (by rw [h1]; exact hasr i hi)⟩
        have hasr7 : ∀ i (hi : i < asr.length), (upd (upd H6 a (SetTO P w a L)) q (.lst (L'.map fun q => V.ref q.1))) asr[i] = some (.tup (iv (kRow M mk i))) := fun i hi => tq _ _ (hasr i hi)
        have hin : ∀ s, s < M.n → kRow M mk s ∈ rows := fun s hs => by
          refine mem_cI ?_
          rw [← hrw2]
          refine (hpm.map (·.2)).mem_iff.mpr (hall (asr.getD s 0, cI (kRow M mk s)) ?_)
          exact List.mem_map.mpr ⟨s, List.mem_range.mpr hs, rfl⟩
        have hrl : rows.length ≤ 60 := by
          have h1 : rows.length = (L'.map (·.2)).length := by rw [hrw2, List.length_map]
          have h2 : (L'.map (·.2)).length ≤ ((List.range M.n).map fun i => cI (kRow M mk i)).length := nodup_len hnd fun x hx => by
            obtain ⟨z, hz, rfl⟩ := List.mem_map.mp hx
            obtain ⟨i, hi, h1, h2, hin⟩ := krs_mem hasn (hsub z (hpm.mem_iff.mp hz))
            exact List.mem_map.mpr ⟨i, List.mem_range.mpr hin, h2.symm⟩
          rw [List.length_map (f := fun i => cI (kRow M mk i)), List.length_range] at h2
          omega
        have hkn := kNext_ki W hki hrl hin
        refine ⟨_, rfl, R, rfl, ⟨_, sql hR7⟩, fun L3 hL3 => lc_map (walk_list (xs := asr.map V.ref)) hL3 (iv (kNext M mk rows)) (by rw [iv_len, hkn.len, List.length_map, hasn]) (by rw [List.length_map]; omega) (fun _ e => sql_same e hR7) (fun i x H8 H9 Nx hi s8 hL8 hy kk => ?_) fun H8 s8 hL8 => ?_⟩
        · obtain ⟨rfl, e⟩ := hy
          rw [List.length_map] at hi
          rw [List.getElem?_map, List.getElem?_eq_getElem hi] at e
          cases e
          have hin' : i < M.n := by omega
          refine ⟨rfl, _, rfl, .inl ⟨rfl, _, sql (s8 _ _ hK7)⟩, _, rfl, ?_⟩
          dsimp only [tNil]
          refine idxD_at (hin i hin') (s8 _ _ hK7) (hrw1.same s8) (s8 _ _ (hasr7 i hi)) ?_
          refine lc_fin (n := M.n) (by rw [iv_len, hkn.len]) (by omega) hin' (fun H4 => kk H4) hL8 s8 ?_
          rw [iv_get (by rw [hkn.len]; exact hin')]
          simp [kNext]
        · refine ⟨L3, kNext M mk rows, _, _, _, _, _, rfl, s7.trans s8, hL8, hkn, .inr ⟨_, hki.coarse, kNext_step hin, hki.cnt.symm⟩⟩
    · rw [decide_eq_false (show ¬ (((dd mk).length : Int) > (la : Int)) by omega)]
      dsimp only
      rw [if_neg Bool.false_ne_true]
      exact ⟨_, rfl, k Lm mk _ s5 hLm hml (k_end W hki hla (by omega))⟩
end
end WP

/-! ## P27 -/
set_option Elab.async false
set_option linter.all false
set_option maxRecDepth 100000
set_option maxHeartbeats 4000000
/-! The law's own least reader. -/
namespace WP
open PySem PySem.Spec PyProof.Rows L2 WR WC
theorem g3 {i j k : Nat} {x y z : V} {σ : L2.St} {H : Hp} {Q : L2.St → Hp → Prop} (h : Q (((σ.set i (some x)).set j (some y)).set k (some z)) H) : gCons (gName i) (gCons (gName j) (gCons (gName k) gNil)) [x, y, z] σ H Q := ⟨x, _, rfl, y, _, rfl, z, _, rfl, rfl, h⟩
theorem paired_of {α β : Type} {F : α → β → Prop} : ∀ {xs : List α} {ys : List β}, xs.length = ys.length → (∀ i (h1 : i < xs.length) (h2 : i < ys.length), F xs[i] ys[i]) → Paired F xs ys
  | [], [], _, _ => .nil
  | [], _ :: _, h, _ => by simp at h
  | _ :: _, [], h, _ => by simp at h
  | x :: xs, y :: ys, h, k => .cons (k 0 (by simp) (by simp)) (paired_of (by simpa using h) fun i h1 h2 => k (i + 1) (by simpa using h1) (by simpa using h2))
theorem pick {P : Nat → Addr → Prop} : ∀ {n : Nat}, (∀ i, i < n → ∃ a, P i a) → ∃ as : List Addr, as.length = n ∧ ∀ i (hi : i < as.length), P i as[i]
  | 0, _ => ⟨[], rfl, fun i hi => absurd hi (Nat.not_lt_zero _)⟩
  | n + 1, h => by
    obtain ⟨as, h1, h2⟩ := pick (P := P) (n := n) fun i hi => h i (by omega)
    obtain ⟨a, ha⟩ := h n (Nat.lt_succ_self n)
    refine ⟨as ++ [a], by rw [List.length_append, h1]; rfl, fun i hi => ?_⟩
    by_cases hin : i < as.length
    · rw [List.getElem_append_left hin]
      exact h2 i hin
    · have e : i = as.length := by rw [List.length_append] at hi; have : i < as.length + 1 := hi; omega
      subst e
      rw [List.getElem_append_right (Nat.le_refl _)]
      simp only [Nat.sub_self, List.getElem_singleton]
      rw [h1]
      exact ha
theorem merge_nodup : ∀ {kvs : List (Key × V)}, (kvs.map (·.1)).Nodup → mergeK [] kvs = kvs := by
  intro kvs
  refine WC.snocInd (P := fun kvs => (kvs.map (·.1)).Nodup → mergeK [] kvs = kvs) (fun _ => rfl) (fun l x ih h => ?_) kvs
  rw [List.map_append, List.map_singleton] at h
  obtain ⟨h1, _, h3⟩ := List.nodup_append.mp h
  have ih := ih h1
  unfold mergeK at ih ⊢
  rw [List.foldl_append, ih]
  show putK l x.1 x.2 = _
  rw [putK_end fun hx => h3 _ hx _ (List.mem_singleton.mpr rfl) rfl]
theorem plc_keys {ns : List Nat} : (plc ns ns.length).map (·.1) = ns.map fun n : Nat => (Sum.inl (n : Int) : Key) := by
  refine List.ext_getElem (by simp [plc]) fun i h1 h2 => ?_
  have hi : i < ns.length := by simpa using h2
  simp only [plc, List.map_map, List.getElem_map, List.getElem_range, Function.comp]
  rw [List.getD_eq_getElem?_getD, List.getElem?_eq_getElem hi]
  rfl
theorem plc_merge {ns : List Nat} (h : ns.Nodup) : mergeK [] (plc ns ns.length) = plc ns ns.length := by
  refine merge_nodup ?_
  rw [plc_keys, List.Nodup, List.pairwise_map]
  refine h.imp fun hne e => hne ?_
  have e : ((_ : Nat) : Int) = ((_ : Nat) : Int) := Sum.inl.inj e
  omega
theorem plc_at {ns : List Nat} {i : Nat} (hi : i < ns.length) : (plc ns ns.length)[i]'(by rw [plc_len]; exact hi) = (Sum.inl ((ns[i] : Nat) : Int), V.int (i : Nat)) := by
  simp only [plc, List.getElem_map, List.getElem_range]
  rw [List.getD_eq_getElem?_getD, List.getElem?_eq_getElem hi]
  rfl
def leanK (z : Str) (d y l : Addr) : List (Key × V) := [(Sum.inr "signs", .str z), (Sum.inr "ways", .ref d), (Sum.inr "good", .ref y), (Sum.inr "lines", .ref l)]
theorem lean_merge (z : Str) (d y l : Addr) : mergeK [] [((Sum.inr ("signs" : Str) : Key), V.str z), (Sum.inr ("ways" : Str), .ref d), (Sum.inr ("good" : Str), .ref y), (Sum.inr ("lines" : Str), .ref l)] = leanK z d y l := rfl
/-- at p what the law found as the least reader -/
def LeanAt (H : Hp) (p : Addr) (cs : List Nat) (M : Mch) : Prop := ∃ d y l, H p = some (.dK (leanK (txt cs) d y l)) ∧ MovesAt H d cs M.ways ∧ H y = some (.tup (iv M.good))
theorem push_len_le {ι α : Type} [DecidableEq α] {κ : ι → α} : ∀ (xs q : List ι), (pushs κ q xs).length ≤ q.length + xs.length
  | [], q => Nat.le_refl _
  | x :: xs, q => by
    rw [pushs_cons]
    have h1 := push_len_le (κ := κ) xs (push κ q x)
    have h2 : (push κ q x).length ≤ q.length + 1 := by
      unfold push
      split
      · omega
      · rw [List.length_append]; exact Nat.le_refl _
    rw [List.length_cons]
    omega
/-- the row of a letter: a pair of it and a tuple -/
def WayAt (cs : List Nat) (rows : List (List Nat)) (i : Nat) (H : Hp) (t : Addr) : Prop := ∃ (c : Nat) (r : List Nat) (a : Addr), cs[i]? = some c ∧ rows[i]? = some r ∧ H t = some (.tup [.str (ltr c), .ref a]) ∧ H a = some (.tup (iv r))
/-- pairs of just these rows -/
theorem ways_at {K : PySem.W.Frag} {cs : List Nat} {rows : List (List Nat)} {ts : List Addr} {H : Hp} (hr : rows.length = cs.length) (ht : ts.length = cs.length) (hw : ∀ i (hi : i < ts.length), WayAt cs rows i H ts[i]) :
    ∃ as : List Addr, as.length = cs.length ∧ RowsAt H as rows ∧ Paired (fun p kv => SqT K H p [kV kv.1, kv.2]) ts (mkv cs as) := by
  obtain ⟨as, h1, h2⟩ := pick (n := cs.length) (P := fun i a => ∃ (c : Nat) (r : List Nat) (t : Addr), cs[i]? = some c ∧ rows[i]? = some r ∧ ts[i]? = some t ∧ H t = some (.tup [.str (ltr c), .ref a]) ∧ H a = some (.tup (iv r))) fun i hi => by
    obtain ⟨c, r, a, q1, q2, q3, q4⟩ := hw i (by omega)
    exact ⟨a, c, r, _, q1, q2, List.getElem?_eq_getElem (by omega), q3, q4⟩
  refine ⟨as, h1, paired_of (by rw [h1, hr]) fun i i1 i2 => ?_, paired_of (by rw [mkv_len h1, ht]) fun i i1 i2 => ?_⟩
  · obtain ⟨c, r, t, q1, q2, q3, q4, q5⟩ := h2 i i1
    rw [List.getElem?_eq_getElem i2] at q2
    cases q2
    exact q5
  · have hi : i < cs.length := by omega
    obtain ⟨c, r, t, q1, q2, q3, q4, q5⟩ := h2 i (by omega)
    rw [List.getElem?_eq_getElem i1] at q3
    cases q3
    rw [List.getElem?_eq_getElem hi] at q1
    cases q1
    have e := mkv_get h1 hi
    rw [List.getElem?_eq_getElem i2] at e
    cases e' : (mkv cs as)[i] with
    | mk a b =>
      rw [e'] at e
      cases e
      exact sqt q4
section
variable {P : Program} {w : World} {K : PySem.W.Frag} {mg : Str → Option Value} {C : Addr} {base : Heap}
theorem sc_law_lean : FnScope ["_law_plain", "_law_marks", "_law_order", "_law_lines", "_law_state", "_law_line", "_law_one", "_law_place", "_law_at", "_law_ways", "_law_sign", "_law_good"] ["_law_plain"] (defScope (top 41)) := ⟨rfl, rfl, rfl, by decide +kernel, rfl, by decide +kernel, by decide +kernel⟩
def sp_law_lean : Sp := fun vs H Q _ => ∃ p cs M, vs = [.ref p] ∧ PlainAt H p cs M ∧ ∀ q H', Same H H' → LeanAt H' q cs (canon M) → Q (.ref q) H'
theorem ok_law_lean (T : TX K mg C) : Ok P w K mg base 2 "_law_lean" (top 41) ["_law_plain"] sp_law_lean := by
  obtain ⟨f, fd, D⟩ := T.f_law_lean
  obtain ⟨f1, fd1, D1, G1⟩ := ok_law_kin (P := P) (w := w) (base := base) T
  obtain ⟨f2, fd2, D2, G2⟩ := ok_law_first_lines (P := P) (w := w) (base := base) T
  refine ⟨f, fd, D, D.F.ok sc_law_lean (fun vs H Q E h => ?_) (fun cdv A outer s H vs Q E hr h => ?_)⟩
  · obtain ⟨p, cs, M, rfl, _⟩ := h
    rfl
  · obtain ⟨p, cs, M, rfl, hR, k⟩ := h
    refine ⟨_, (pss_cons (ps_asg (pe_tup (pa_cons ((pe_call G1 (hr.mono (by decide)) (by rfl) D1.g D1.F.kp D1.b .nil pass0 (pa_cons ((pv 0)) pa_nil))) (pa_cons (pe_lst pa_nil) (pa_cons (pe_lst pa_nil) pa_nil)))) (pg_tup rfl (pgs_cons (pg_name (i := 1) sc_law_lean.nd rfl (Or.inr rfl)) (pgs_cons (pg_name (i := 2) sc_law_lean.nd rfl (Or.inr rfl)) (pgs_cons (pg_name (i := 3) sc_law_lean.nd rfl (Or.inl rfl)) pgs_nil)))))
      (pss_cons (ps_for PassesOwn.never rfl (pi_list (pe_call G2 (hr.mono (by decide)) (by rfl) D2.g D2.F.kp D2.b .nil pass0 (pa_cons ((pv 0)) pa_nil))) (pg_tup rfl (pgs_cons (pg_name (i := 4) sc_law_lean.nd rfl (Or.inl rfl)) (pgs_cons (pg_name (i := 5) sc_law_lean.nd rfl (Or.inl rfl)) pgs_nil))) (pss_one (ps_if (pt_cmpR (op_ninQ K rfl) (pe_ix (ix_listQ K rfl) (pv 1) (pv 4) (fun _ _ => rfl)) (pe_lc (own := [("_law_one", 6)]) (g := gName 6) (tt := tYes) rfl sc_law_lean.nd (pi_list (pv 2)) (blkOk_by (N := ["_law_plain", "_law_marks", "_law_order", "_law_lines", "_law_state", "_law_line", "_law_one", "_law_place", "_law_at", "_law_ways", "_law_sign", "_law_good"]) (sc := defScope (top 41)) (by decide +kernel)) (fun _ _ _ _ _ => pg_name (i := 6) sc_law_lean.nd rfl (Or.inl rfl)) (fun _ _ _ _ _ => pts_nil) (fun _ _ _ _ _ => pe_ix (ix_listQ K rfl) (pv 1) (pv 6) (fun _ _ => rfl))) rfl) (pss_one (ps_asg (pe_tup (pa_cons (pe_op op_cat (pv 2) (pe_lst (pa_cons ((pv 4)) pa_nil))) (pa_cons (pe_op op_cat (pv 3) (pe_lst (pa_cons ((pv 5)) pa_nil))) pa_nil))) (pg_tup rfl (pgs_cons (pg_name (i := 2) sc_law_lean.nd rfl (Or.inr rfl)) (pgs_cons (pg_name (i := 3) sc_law_lean.nd rfl (Or.inl rfl)) pgs_nil))))) pss_nil)))
      (pss_cons ((ps_set (i := 7) sc_law_lean.nd rfl (Or.inr rfl) (pe_callTy (call_dictP rfl) (by rfl) T.b_dict (by decide +kernel) (pa_cons ((pe_lc (own := [("_law_at", 8), ("_law_state", 4)]) (g := gTup K 2 (gCons (gName 8) (gCons (gName 4) (gNil)))) (tt := tYes) rfl sc_law_lean.nd (pi_enum (by rfl) T.b_enumerate (pa_cons (pv 2) pa_nil)) (blkOk_by (N := ["_law_plain", "_law_marks", "_law_order", "_law_lines", "_law_state", "_law_line", "_law_one", "_law_place", "_law_at", "_law_ways", "_law_sign", "_law_good"]) (sc := defScope (top 41)) (by decide +kernel)) (fun _ _ _ _ _ => pg_tup rfl (pgs_cons (pg_name (i := 8) sc_law_lean.nd rfl (Or.inl rfl)) (pgs_cons (pg_name (i := 4) sc_law_lean.nd rfl (Or.inl rfl)) (pgs_nil)))) (fun _ _ _ _ _ => pts_nil) (fun _ _ _ _ _ => pe_tup (pa_cons (pe_ix (ix_listQ K rfl) (pv 1) (pv 4) (fun _ _ => rfl)) (pa_cons ((pv 8)) pa_nil))))) pa_nil))))
      (pss_cons ((ps_set (i := 9) sc_law_lean.nd rfl (Or.inl rfl) (pe_callTy (call_dictP rfl) (by rfl) T.b_dict (by decide +kernel) (pa_cons ((pe_lc (own := [("_law_sign", 10)]) (g := gName 10) (tt := tYes) rfl sc_law_lean.nd (pi_str (pe_dget hr.u1 (pv 0) pe_str (fun _ _ => rfl))) (blkOk_by (N := ["_law_plain", "_law_marks", "_law_order", "_law_lines", "_law_state", "_law_line", "_law_one", "_law_place", "_law_at", "_law_ways", "_law_sign", "_law_good"]) (sc := defScope (top 41)) (by decide +kernel)) (fun _ _ _ _ _ => pg_name (i := 10) sc_law_lean.nd rfl (Or.inr rfl)) (fun _ _ _ _ _ => pts_nil) (fun _ _ _ _ _ => pe_tup (pa_cons ((pv 10)) (pa_cons (pe_tupQ T (pe_lc (own := [("_law_state", 4)]) (g := gName 4) (tt := tYes) rfl sc_law_lean.nd (pi_listQ K rfl (pv 2)) (blkOk_re (N := ["_law_plain", "_law_marks", "_law_order", "_law_lines", "_law_state", "_law_line", "_law_one", "_law_place", "_law_at", "_law_ways", "_law_sign", "_law_good"]) (S := cScope (arg0 (stExpr (top 41) 3))) rfl rfl (by decide +kernel)) (fun _ _ _ _ _ => pg_name (i := 4) sc_law_lean.nd rfl (Or.inl rfl)) (fun _ _ _ _ _ => pts_nil) (fun _ _ _ _ _ => pe_dget hr.u1 (pv 7) (pe_ix (ix_listQ K rfl) (pv 1) (pe_ix (ix_tupQ K rfl) (pe_dget hr.u1 (pe_dget hr.u1 (pv 0) pe_str (fun _ _ => rfl)) (pv 10) (fun _ _ => rfl)) (pv 4) (fun _ _ => rfl)) (fun _ _ => rfl)) (fun _ _ => rfl)))) pa_nil))))) pa_nil))))
      (pss_cons ((ps_set (i := 11) sc_law_lean.nd rfl (Or.inl rfl) (pe_tupQ T (pe_lc (own := [("_law_at", 8), ("_law_state", 4)]) (g := gTup K 2 (gCons (gName 8) (gCons (gName 4) (gNil)))) rfl sc_law_lean.nd (pi_enum (by rfl) T.b_enumerate (pa_cons (pv 2) pa_nil)) (blkOk_by (N := ["_law_plain", "_law_marks", "_law_order", "_law_lines", "_law_state", "_law_line", "_law_one", "_law_place", "_law_at", "_law_ways", "_law_sign", "_law_good"]) (sc := defScope (top 41)) (by decide +kernel)) (fun _ _ _ _ _ => pg_tup rfl (pgs_cons (pg_name (i := 8) sc_law_lean.nd rfl (Or.inl rfl)) (pgs_cons (pg_name (i := 4) sc_law_lean.nd rfl (Or.inl rfl)) (pgs_nil)))) (fun _ _ _ _ _ => pts_one (pt_cmpR (op_inQ K rfl) (pv 4) (pe_dget hr.u1 (pv 0) pe_str (fun _ _ => rfl)) rfl)) (fun _ _ _ _ _ => (pv 8))))))
      (pss_one (ps_ret (pe_disp (pps_cons pe_str (pe_dget hr.u1 (pv 0) pe_str (fun _ _ => rfl)) (pps_cons pe_str (pv 9) (pps_cons pe_str (pv 11) (pps_cons pe_str (pv 3) pps_nil)))) (by rfl) (by rfl) (fun z => by cases z) (by decide))))))))), ?_⟩
    have g := hR.1
    have W := g.wf
    have hl := g.ltrs
    have hn60 := g.few
    have hn0 := W.n0
    have hpos := hl.pos
    have hfew := hl.few
    have hkk : M.k = cs.length := g.k
    refine ⟨_, rfl, p, cs, M, rfl, hR, fun Mk mk H1 s1 hMk hml hkern => ⟨Nat.zero_le _, fun Or hOr => ⟨Nat.zero_le _, fun Ln hLn => ⟨by rw [sizeLine_eq]; show 3 ≤ _; omega, fun t ht => ⟨t, _, rfl, sqt upd_same, rfl, g3 (seq_ ?_)⟩⟩⟩⟩⟩
    have t2 : Same H1 (upd (upd (upd H1 Or (.lst [])) Ln (.lst [])) t (.tup [.ref Mk, .ref Or, .ref Ln])) := ((Same.upd hOr).trans (Same.upd hLn)).trans (Same.upd ht)
    have hOr2 : (upd (upd (upd H1 Or (.lst [])) Ln (.lst [])) t (.tup [.ref Mk, .ref Or, .ref Ln])) Or = some (.lst (iv [])) := (Same.upd ht) _ _ ((Same.upd hLn) _ _ upd_same)
    have hLn2 : (upd (upd (upd H1 Or (.lst [])) Ln (.lst [])) t (.tup [.ref Mk, .ref Or, .ref Ln])) Ln = some (.lst []) := (Same.upd ht) _ _ upd_same
    have s2 := s1.trans t2
    have hMk2 := t2 _ _ hMk
    generalize upd (upd (upd H1 Or (.lst [])) Ln (.lst [])) t (.tup [.ref Mk, .ref Or, .ref Ln]) = H2 at s2 hOr2 hLn2 hMk2
    refine ⟨_, rfl, p, cs, M, rfl, hR.same s2, fun F H3 s3 hF => ?_⟩
    have hbfs : (fq M M.n).map (·.1) = M.bfs 0 := fq_end W (fq_len W _)
    have hfl := fq_len W M.n
    have hflt := fq_lt W M.n
    have hord := bfs_ord W hn0
    have hlc : lean M (fun s => mk.getD s 0) = canon M := lean_canon W hkern
    have hreps : reps M (fun s => mk.getD s 0) = pushs (fun s => mk.getD s 0) [] ((fq M M.n).map (·.1)) := by rw [hbfs]; rfl
    generalize fq M M.n = qf at hF hbfs hfl hflt hreps
    obtain ⟨af, haf, hpf⟩ := hF
    have hafl : af.length = qf.length := Paired.length hpf
    have s23 := s2.trans s3
    have hMk3 := s3 _ _ hMk2
    have hOr3 := s3 _ _ hOr2
    have hLn3 := s3 _ _ hLn2
    refine ⟨F, rfl, ⟨_, sql haf⟩, ?_⟩
    refine for_it (walk_list (xs := af.map V.ref)) (fun j σ H' => ∃ (Or Ln : Addr) (xs : List V) (u1 u2 u3 u4 u5 u6 u7 u8 : Option V), σ = [some (.ref p), some (.ref Mk), some (.ref Or), some (.ref Ln), u1, u2, u3, u4, u5, u6, u7, u8] ∧ Same H3 H' ∧ H' Or = some (.lst (iv (pushs (fun s => mk.getD s 0) [] ((qf.take j).map (·.1))))) ∧ H' Ln = some (.lst xs) ∧ xs.length ≤ j)
      ⟨Or, Ln, [], none, none, none, none, none, none, none, none, rfl, fun _ _ e => e, hOr3, hLn3, Nat.le_refl _⟩ (fun i σ H' hi ⟨_, _, _, _, _, _, _, _, _, _, _, _, e, _⟩ => sql_same e haf) (fun j x σ H4 H5 hj hP hy => ?_) fun σ H4 hP => ?_
    · obtain ⟨Or, Ln, xs, u1, u2, u3, u4, u5, u6, u7, u8, rfl, s4, hOr4, hLn4, hxs⟩ := hP
      obtain ⟨rfl, e⟩ := hy
      rw [List.length_map] at hj
      rw [List.getElem?_map, List.getElem?_eq_getElem hj] at e
      cases e
      have hjq : j < qf.length := by omega
      obtain ⟨a, ha1, ha2⟩ := paired_get (i := j) (b := qf[j]) (paired_tups (fun _ _ (h : SItemAt H3 cs _ _) => s4 _ _ h) hpf) (List.getElem?_eq_getElem hjq)
      rw [List.getElem?_eq_getElem hj] at ha1
      cases ha1
      have hxlt := hflt _ (List.getElem_mem hjq)
      have htk : (qf.take (j + 1)).map (·.1) = (qf.take j).map (·.1) ++ [qf[j].1] := by
        rw [List.take_add_one, List.getElem?_eq_getElem hjq, List.map_append]
        rfl
      have hps : pushs (fun s => mk.getD s 0) [] ((qf.take (j + 1)).map (·.1)) = push (fun s => mk.getD s 0) (pushs (fun s => mk.getD s 0) [] ((qf.take j).map (·.1))) qf[j].1 := by
        rw [htk]
        exact pushs_snoc _ _ _
      have hol : (pushs (fun s => mk.getD s 0) [] ((qf.take j).map (·.1))).length ≤ 60 := by
        have := push_len_le (κ := fun s => mk.getD s 0) ((qf.take j).map (·.1)) []
        rw [List.length_map, List.length_take, List.length_nil] at this
        omega
      have hom : ∀ s ∈ pushs (fun s => mk.getD s 0) [] ((qf.take j).map (·.1)), s < M.n := fun s hs => by
        rcases mem_pushs hs with h | h
        · cases h
        · obtain ⟨z, hz, rfl⟩ := List.mem_map.mp h
          exact hflt _ (List.mem_of_mem_take hz)
      generalize pushs (fun s => mk.getD s 0) [] ((qf.take j).map (·.1)) = od at hOr4 hps hol hom
      have hMk4 := s4 _ _ hMk3
      refine ⟨af[j], _, rfl, sqt ha2, rfl, g2 ?_⟩
      refine ⟨_, rfl, _, rfl, Mk, _, qf[j].1, _, rfl, rfl, sql hMk4, iv_at (by omega), _, rfl, Or, rfl, ⟨_, sql hOr4⟩, fun D hD => lc_map (walk_list (xs := iv od)) hD (iv (od.map fun s => mk.getD s 0)) (by rw [iv_len, iv_len, List.length_map]) (by rw [iv_len]; omega) (fun _ e => sql_same e hOr4) (fun i z H6 H7 Nx hi s6 hD6 hy2 kk => ?_) fun H6 s6 hD6 => ?_⟩
      · obtain ⟨rfl, e⟩ := hy2
        rw [iv_len] at hi
        rw [iv_get hi] at e
        cases e
        refine ⟨rfl, _, rfl, _, rfl, Mk, _, od[i], _, rfl, rfl, sql (s6 _ _ hMk4), iv_at (by have := hom _ (List.getElem_mem hi); omega), ?_⟩
        refine lc_fin (n := od.length) (by rw [iv_len, List.length_map]) (by omega) hi kk hD6 s6 ?_
        rw [iv_get (by rw [List.length_map]; exact hi), List.getElem_map]
      · refine ⟨D, _, rfl, .inl (sql hD6), rfl, flat_iv _, _, rfl, ?_⟩
        dsimp only
        rw [if_pos rfl, inV_iv]
        have s46 := s4.trans s6
        have hOr6 := s6 _ _ hOr4
        have hLn6 := s6 _ _ hLn4
        cases hm : (od.map fun s => mk.getD s 0).contains (mk.getD qf[j].1 0) with
        | true =>
          refine iteF ⟨Or, Ln, xs, _, _, _, _, _, _, _, _, rfl, s46, ?_, hLn6, by omega⟩
          rw [hps, push_old (by simpa using hm)]
          exact hOr6
        | false =>
          refine iteT ⟨_, rfl, _, rfl, by rw [sizeLine_eq]; show 1 ≤ _; omega, fun A1 hA1 => ?_⟩
          have hO1 : Or ≠ A1 := ne_of_none hOr6 hA1
          refine ⟨Or, A1, _, _, rfl, rfl, (Same.upd hA1) _ _ hOr6, upd_same, by rw [iv_len, sizeLine_eq]; show _ + 1 ≤ _; omega, fun O2 hO2 => ?_⟩
          have s7 := (Same.upd (o := .lst [.int (qf[j].1 : Nat)]) hA1).trans (Same.upd (o := .lst (iv od ++ [.int (qf[j].1 : Nat)])) hO2)
          have hO7 : (upd (upd H6 A1 (.lst [.int (qf[j].1 : Nat)])) O2 (.lst (iv od ++ [.int (qf[j].1 : Nat)]))) O2 = some (.lst (iv (od ++ [qf[j].1]))) := by
            rw [upd_same, iv_append]
            rfl
          have hLn7 := s7 _ _ hLn6
          generalize upd (upd H6 A1 (.lst [.int (qf[j].1 : Nat)])) O2 (.lst (iv od ++ [.int (qf[j].1 : Nat)])) = H7 at s7 hO7 hLn7
          refine ⟨_, rfl, _, rfl, by rw [sizeLine_eq]; show 1 ≤ _; omega, fun A2 hA2 => ?_⟩
          refine ⟨Ln, A2, _, _, rfl, rfl, (Same.upd hA2) _ _ hLn7, upd_same, by rw [sizeLine_eq]; show _ + 1 ≤ _; omega, fun L2 hL2 => ?_⟩
          have s8 := (Same.upd (o := .lst [.str (wtx cs qf[j].2)]) hA2).trans (Same.upd (o := .lst (xs ++ [.str (wtx cs qf[j].2)])) hL2)
          have hL8 : (upd (upd H7 A2 (.lst [.str (wtx cs qf[j].2)])) L2 (.lst (xs ++ [.str (wtx cs qf[j].2)]))) L2 = some (.lst (xs ++ [.str (wtx cs qf[j].2)])) := upd_same
          have hO8 := s8 _ _ hO7
          generalize upd (upd H7 A2 (.lst [.str (wtx cs qf[j].2)])) L2 (.lst (xs ++ [.str (wtx cs qf[j].2)])) = H8 at s8 hL8 hO8
          refine ⟨by rw [sizeLine_eq]; show 2 ≤ _; omega, fun t ht => ⟨t, _, rfl, sqt upd_same, rfl, g2 ⟨O2, L2, _, _, _, _, _, _, _, _, _, rfl, ((s46.trans s7).trans s8).trans (Same.upd ht), ?_, (Same.upd ht) _ _ hL8, ?_⟩⟩⟩
          · rw [hps, push_new (by simpa using hm)]
            exact (Same.upd ht) _ _ hO8
          · rw [List.length_append]
            show _ + 1 ≤ _
            omega
    · obtain ⟨Or, Ln, xs, u1, u2, u3, u4, u5, u6, u7, u8, rfl, s4, hOr4, hLn4, hxs⟩ := hP
      rw [List.length_map, hafl, List.take_of_length_le (Nat.le_refl _), ← hreps] at hOr4
      have s14 := s23.trans s4
      have hMk4 := s4 _ _ hMk3
      have hRb : ∀ s ∈ reps M (fun s => mk.getD s 0), s ∈ M.bfs 0 := fun s hs => reps_sub_bfs hs
      have hRn : ((reps M fun s => mk.getD s 0).map fun s => mk.getD s 0).Nodup := nodup_pushs (κ := fun s => mk.getD s 0) (by simp)
      have hRm : ∀ s ∈ M.bfs 0, mk.getD s 0 ∈ (reps M fun s => mk.getD s 0).map fun s => mk.getD s 0 := fun s hs => key_pushs.mpr (.inr (List.mem_map.mpr ⟨s, hs, rfl⟩))
      have hlw : (lean M fun s => mk.getD s 0).ways = M.ways.map fun r => (reps M fun s => mk.getD s 0).map fun s => ((reps M fun s => mk.getD s 0).map fun s => mk.getD s 0).idxOf (mk.getD (r.getD s 0) 0) := rfl
      have hlg : (lean M fun s => mk.getD s 0).good = (List.range (reps M fun s => mk.getD s 0).length).filter fun i => M.good.contains ((reps M fun s => mk.getD s 0).getD i 0) := rfl
      have hRl : (reps M fun s => mk.getD s 0).length ≤ 60 := by
        rw [hreps]
        have := push_len_le (κ := fun s => mk.getD s 0) (qf.map (·.1)) []
        rw [List.length_map, List.length_nil] at this
        omega
      have hlt : ∀ s ∈ M.bfs 0, s < M.n := hord.lt
      have hcl := hord.closed
      rw [hlc] at hlw hlg
      generalize reps M (fun s => mk.getD s 0) = R at hOr4 hRb hRn hRm hlw hlg hRl
      have hRlt : ∀ i (hi : i < R.length), R[i] < M.n := fun i hi => hlt _ (hRb _ (List.getElem_mem hi))
      have hfn : (R.map fun s => mk.getD s 0).length = R.length := List.length_map _
      refine seq_ ⟨_, rfl, Or, _, rfl, sql hOr4, fun D hD => lc_refs (walk_enum (xs := iv R)) hD (fun i H a => ∃ s, R[i]? = some s ∧ H a = some (.tup [.int (mk.getD s 0 : Nat), .int (i : Nat)])) (fun i a H H' t ⟨s, h1, h2⟩ => ⟨s, h1, t _ _ h2⟩) (by rw [iv_len]; omega) (fun _ e => sql_same e hOr4) (fun i x H5 H6 Nx hi sm hDi hy kk => ?_) fun H5 ts s5 htl hD5 hts => ?_⟩
      · obtain ⟨t, a, b, rfl, ht, rfl, e1, e2⟩ := hy
        rw [iv_len] at hi
        dsimp only at e1 e2
        rw [iv_get hi] at e2
        cases e1
        cases e2
        have st : Same H5 (upd H5 t (.tup [.int (i : Nat), .int (R[i] : Nat)])) := Same.upd ht
        refine ⟨t, _, rfl, sqt upd_same, rfl, _, _, rfl, _, _, rfl, rfl, rfl, _, rfl, _, rfl, Mk, _, R[i], _, rfl, rfl, sql (st _ _ (sm _ _ hMk4)), iv_at (by have := hRlt i hi; omega), _, rfl, by rw [sizeLine_eq]; show 2 ≤ _; omega, fun t2 ht2 => ?_⟩
        exact kk t2 _ ⟨R[i], List.getElem?_eq_getElem hi, upd_same⟩ (st.trans (Same.upd ht2))
      rw [iv_len] at htl
      refine ⟨D, ts, plc (R.map fun s => mk.getD s 0) (R.map fun s => mk.getD s 0).length, rfl, sql hD5, paired_of (by rw [plc_len, hfn, htl]) fun i i1 i2 => ?_, fun Pc hPc => seq_ ?_⟩
      · have hiR : i < R.length := by omega
        rw [plc_at (by omega), List.getElem_map]
        obtain ⟨s, h1, h2⟩ := hts i i1
        rw [List.getElem?_eq_getElem hiR] at h1
        cases h1
        exact sqt h2
      rw [plc_merge hRn]
      have t6 : Same H5 (upd H5 Pc (.dK (plc (R.map fun s => mk.getD s 0) (R.map fun s => mk.getD s 0).length))) := Same.upd hPc
      have hPc6 : (upd H5 Pc (.dK (plc (R.map fun s => mk.getD s 0) (R.map fun s => mk.getD s 0).length))) Pc = some (.dK (plc (R.map fun s => mk.getD s 0) (R.map fun s => mk.getD s 0).length)) := upd_same
      have s46 := s5.trans t6
      generalize upd H5 Pc (.dK (plc (R.map fun s => mk.getD s 0) (R.map fun s => mk.getD s 0).length)) = H6 at hPc6 s46
      have s16 := s14.trans s46
      have hMk6 := s46 _ _ hMk4
      have hOr6 := s46 _ _ hOr4
      have hLn6 := s46 _ _ hLn4
      obtain ⟨d, y, e1, e2, e3, hmv, hyy, hrow⟩ := plain_get (hR.same s16)
      have hcw : (canon M).ways.length = cs.length := by rw [hlw, List.length_map]; exact hkk
      refine ⟨_, rfl, p, _, rfl, e1, txt cs, rfl, fun D2 hD2 => lc_refs (walk_txt (cs := cs)) hD2 (fun i H a => WayAt cs (canon M).ways i H a) (fun i a H H' t ⟨c, r, b, h1, h2, h3, h4⟩ => ⟨c, r, b, h1, h2, t _ _ h3, t _ _ h4⟩) (by omega) (fun _ _ => True.intro) (fun i x H7 H8 Nx hi sm hDi hy kk => ?_) fun H7 tw s7 htwl hD7 htw => ?_⟩
      · obtain ⟨rfl, c0, hc0, rfl⟩ := hy
        rw [List.getElem?_eq_getElem hi] at hc0
        cases hc0
        have hOr7 := sm _ _ hOr6
        refine ⟨rfl, _, rfl, _, rfl, Or, rfl, ⟨_, sql hOr7⟩, fun L hL => ?_⟩
        obtain ⟨d, y, e1, e2, e3, hmv, hyy, hrow⟩ := plain_get (hR.same (s16.trans sm))
        obtain ⟨ar0, r, q1', q2, q3, q4'⟩ := hrow i hi
        have hcr : (canon M).ways[i]? = some (R.map fun s => (R.map fun s => mk.getD s 0).idxOf (mk.getD (r.getD s 0) 0)) := by
          rw [hlw, List.getElem?_map, q2]
          rfl
        refine lc_map (walk_list (xs := iv R)) hL (iv (R.map fun s => (R.map fun s => mk.getD s 0).idxOf (mk.getD (r.getD s 0) 0))) (by rw [iv_len, iv_len, List.length_map]) (by rw [iv_len]; omega) (fun _ e => sql_same e hOr7) (fun j z H9 H10 Nx2 hj s9 hL9 hy2 kk2 => ?_) fun H9 s9 hL9 => ?_
        · obtain ⟨rfl, e⟩ := hy2
          rw [iv_len] at hj
          rw [iv_get hj] at e
          cases e
          have s79 := sm.trans s9
          obtain ⟨d, y, e1, e2, e3, hmv, hyy, hrow⟩ := plain_get (hR.same (s16.trans s79))
          obtain ⟨ar, r2, q1, q2', q3', q4⟩ := hrow i hi
          rw [q2] at q2'
          cases q2'
          have hRj := hRlt j hj
          have hnx : r.getD R[j] 0 ∈ M.bfs 0 := hcl _ (hRb _ (List.getElem_mem hj)) _ (List.mem_map.mpr ⟨r, List.mem_of_getElem? q2, rfl⟩)
          have hnlt := hlt _ hnx
          refine ⟨rfl, _, rfl, _, rfl, _, rfl, p, _, rfl, e2, _, rfl, d, _, rfl, q1, _, rfl, ar, _, R[j], _, rfl, rfl, sqt q4, iv_at (by omega), Mk, _, r.getD R[j] 0, _, rfl, rfl, sql (s79 _ _ hMk6), iv_at (by omega), Pc, _, rfl, plc_get (hRm _ hnx) (s79 _ _ hPc6), ?_⟩
          refine lc_fin (n := R.length) (by rw [iv_len, List.length_map]) (by omega) hj kk2 hL9 s9 ?_
          rw [iv_get (by rw [List.length_map]; exact hj), List.getElem_map]
        · refine .inl ⟨L, _, rfl, sql hL9, fun a ha => ⟨by rw [sizeLine_eq]; show 2 ≤ _; omega, fun t ht => ?_⟩⟩
          refine kk t _ ⟨cs[i], _, a, List.getElem?_eq_getElem hi, hcr, upd_same, (Same.upd ht) _ _ upd_same⟩ ((s9.trans (Same.upd ha)).trans (Same.upd ht))
      obtain ⟨as, hasl, hasr, hasp⟩ := ways_at (K := K) hcw htwl htw
      refine ⟨D2, tw, mkv cs as, rfl, sql hD7, hasp, fun Wd hWd => seq_ ?_⟩
      rw [merge_mkv hl.nodup hasl]
      have t8 : Same H7 (upd H7 Wd (.dK (mkv cs as))) := Same.upd hWd
      have hW8 : MovesAt (upd H7 Wd (.dK (mkv cs as))) Wd cs (canon M).ways := ⟨as, hasl, upd_same, hasr.same t8⟩
      have s68 := s7.trans t8
      generalize upd H7 Wd (.dK (mkv cs as)) = H8 at hW8 s68
      have s18 := s16.trans s68
      have hOr8 := s68 _ _ hOr6
      have hLn8 := s68 _ _ hLn6
      refine ⟨_, rfl, Or, _, rfl, sql hOr8, fun D3 hD3 => lc_flt (walk_enum (xs := iv R)) hD3 (fun i => iv ((List.range i).filter fun c => M.good.contains (R.getD c 0))) rfl (fun i hi => ?_) (fun _ e => sql_same e hOr8) (fun i x H9 H10 Nx hi sm hDi hy kk k0 => ?_) fun H9 s9 hD9 => ?_⟩
      · rw [iv_len] at hi ⊢
        have := List.length_filter_le (fun c => M.good.contains (R.getD c 0)) (List.range i)
        rw [List.length_range] at this
        rw [sizeLine_eq]
        omega
      · obtain ⟨t, a, b, rfl, ht, rfl, e1, e2⟩ := hy
        rw [iv_len] at hi
        dsimp only at e1 e2
        rw [iv_get hi] at e2
        cases e1
        cases e2
        have st : Same H9 (upd H9 t (.tup [.int (i : Nat), .int (R[i] : Nat)])) := Same.upd ht
        obtain ⟨d, y, e1, e2, e3, hmv, hyy, hrow⟩ := plain_get (hR.same ((s18.trans sm).trans st))
        refine ⟨t, _, rfl, sqt upd_same, rfl, _, _, rfl, _, _, rfl, rfl, rfl, _, rfl, _, rfl, p, _, rfl, e3, y, _, rfl, .inr (sqt hyy), rfl, flat_iv _, _, rfl, ?_⟩
        dsimp only
        rw [if_neg Bool.false_ne_true, inV_iv]
        have hgd : R.getD i 0 = R[i] := getD_of hi 0
        cases hm : M.good.contains R[i] with
        | true =>
          refine iteT ⟨_, rfl, kk _ _ ?_ (st _ _ hDi) (sm.trans st)⟩
          rw [List.range_succ, List.filter_append, iv_append, List.filter_cons, hgd, hm]
          rfl
        | false =>
          refine iteF (k0 _ ?_ (st _ _ hDi) (sm.trans st))
          rw [List.range_succ, List.filter_append, iv_append, List.filter_cons, hgd, hm]
          exact List.append_nil _
      · rw [iv_len, ← hlg] at hD9
        refine .inl ⟨D3, _, rfl, sql hD9, fun y hy => seq_ ?_⟩
        have t10 : Same H9 (upd H9 y (.tup (iv (canon M).good))) := Same.upd hy
        have hy10 : (upd H9 y (.tup (iv (canon M).good))) y = some (.tup (iv (canon M).good)) := upd_same
        have s8A := s9.trans t10
        have hWA := hW8.same s8A
        have hLnA := s8A _ _ hLn8
        generalize upd H9 y (.tup (iv (canon M).good)) = HA at hy10 s8A hWA hLnA
        intro q hq
        have tq : Same HA (upd HA q (.dK [])) := Same.upd hq
        have hWq : Wd ≠ q := by
          obtain ⟨_, _, e, _⟩ := hWA
          exact ne_of_none e hq
        have sq := (s18.trans s8A).trans tq
        obtain ⟨d, y', e1, e2, e3, hmv, hyy, hrow⟩ := plain_get (hR.same sq)
        refine ⟨_, rfl, p, _, rfl, e1, _, rfl, _, rfl, _, rfl, upd_same, [(Sum.inr "signs", .str (txt cs)), (Sum.inr "ways", .ref Wd), (Sum.inr "good", .ref y), (Sum.inr "lines", .ref Ln)], rfl, by show 4 ≤ 15; decide, ?_⟩
        rw [lean_merge]
        have up2 : ∀ {o : HO} b x, HA b = some x → (upd (upd HA q (.dK [])) q o) b = some x := fun {o} b x e => by
          rw [upd_ne (ne_of_none e hq)]
          exact tq _ _ e
        refine k q _ (fun b o e => up2 _ _ ((s18.trans s8A) _ _ e)) ⟨Wd, y, Ln, upd_same, ?_, up2 _ _ hy10⟩
        obtain ⟨as, h1, h2, h3⟩ := hWA
        exact ⟨as, h1, up2 _ _ h2, h3.tups fun b xs e => up2 _ _ e⟩
end
end WP

/-! ## P28 -/
set_option Elab.async false
set_option linter.all false
set_option maxRecDepth 100000
set_option maxHeartbeats 4000000
/-! What repr shows; whether the least reader is told. -/
namespace WP
open PySem PySem.Spec PyProof.Rows L2 WR WC
theorem log_small {n : Nat} (h : n < 64) : (n : Int).natAbs.log2 < 6 := by
  rw [Int.natAbs_natCast]
  by_cases h0 : n = 0
  · subst h0
    decide
  · exact (Nat.log2_lt h0).mpr (by omega)
/-- what is asked of data that is shown -/
structure Shw (d : PyData) (n : Nat) : Prop where
  ok : PyData.showable d = true
  deep : PyData.depth d ≤ 4
  short : PyData.leavesShort 13 d = true
  weight : PyData.weight d ≤ n
theorem shw_ints : ∀ {ns : List Nat}, (∀ x ∈ ns, x < 64) → PyData.showableAll (dints ns) = true ∧ PyData.leavesShortAll 13 (dints ns) = true ∧ PyData.weightAll (dints ns) ≤ 8 * ns.length
  | [], _ => ⟨rfl, rfl, Nat.le_refl _⟩
  | n :: ns, h => by
    obtain ⟨h1, h2, h3⟩ := shw_ints (ns := ns) fun x hx => h x (List.mem_cons_of_mem _ hx)
    have hn := h n List.mem_cons_self
    have hl := log_small hn
    have hs : (PyData.shown (.int (n : Int))).length ≤ 13 := PyData.shown_int_le (by rw [Int.natAbs_natCast]; omega)
    refine ⟨?_, ?_, ?_⟩
    · show (PyData.showable (.int (n : Int)) && PyData.showableAll (dints ns)) = true
      rw [h1, Bool.and_true]
      exact decide_eq_true (by omega)
    · show (PyData.leavesShort 13 (.int (n : Int)) && PyData.leavesShortAll 13 (dints ns)) = true
      rw [h2, Bool.and_true]
      exact decide_eq_true hs
    · show PyData.weight (.int (n : Int)) + 1 + PyData.weightAll (dints ns) ≤ _
      have : PyData.weight (.int (n : Int)) ≤ 6 := by
        unfold PyData.weight
        split <;> omega
      rw [List.length_cons]
      omega
theorem shw_tup {ns : List Nat} (h : ∀ x ∈ ns, x < 64) (hl : ns.length ≤ 60) : Shw (.tuple (dints ns)) 480 := by
  obtain ⟨h1, h2, h3⟩ := shw_ints h
  have h4 := depth_ints ns
  refine ⟨h1, ?_, h2, ?_⟩
  · simp only [PyData.depth]
    omega
  · simp only [PyData.weight]
    omega
theorem shw_txt {cs : List Nat} (h : ∀ c ∈ cs, c < 16 ^ 8) : Shw (.str (txt cs)) cs.length := by
  refine ⟨rfl, by simp [PyData.depth], ?_, by simp [PyData.weight, txt]⟩
  show ((txt cs).cps.toList.all fun c => decide (c < 16 ^ 8)) = true
  rw [List.all_eq_true]
  intro c hc
  exact decide_eq_true (h c (by simpa [txt] using hc))
def kvD (cs : List Nat) (rows : List (List Nat)) : List (PyData × PyData) := (cs.zip rows).map fun p => (.str (ltr p.1), .tuple (dints p.2))
theorem shw_kv : ∀ {cs : List Nat} {rows : List (List Nat)}, (∀ c ∈ cs, c < 16 ^ 8) → (∀ r ∈ rows, r.length ≤ 60 ∧ ∀ x ∈ r, x < 64) → PyData.showableKv (kvD cs rows) = true ∧ PyData.leavesShortKv 13 (kvD cs rows) = true ∧ PyData.weightKv (kvD cs rows) ≤ 483 * cs.length ∧ PyData.depthKv (kvD cs rows) ≤ 3
  | [], _, _, _ => ⟨rfl, rfl, Nat.zero_le _, by simp [kvD, PyData.depthKv]⟩
  | c :: cs, [], _, _ => ⟨rfl, rfl, Nat.zero_le _, by simp [kvD, PyData.depthKv]⟩
  | c :: cs, r :: rows, hc, hr => by
    obtain ⟨h1, h2, h3, h4⟩ := shw_kv (cs := cs) (rows := rows) (fun x hx => hc x (List.mem_cons_of_mem _ hx)) fun x hx => hr x (List.mem_cons_of_mem _ hx)
    obtain ⟨hr1, hr2⟩ := hr r List.mem_cons_self
    have t := shw_tup hr2 hr1
    have z := shw_txt (cs := [c]) fun x hx => by rw [List.mem_singleton.mp hx]; exact hc c List.mem_cons_self
    have e : txt [c] = ltr c := rfl
    rw [e] at z
    refine ⟨?_, ?_, ?_, ?_⟩
    · show (PyData.showable (.str (ltr c)) && PyData.showable (.tuple (dints r)) && PyData.showableKv (kvD cs rows)) = true
      rw [z.ok, t.ok, h1]
      rfl
    · show (PyData.leavesShort 13 (.str (ltr c)) && PyData.leavesShort 13 (.tuple (dints r)) && PyData.leavesShortKv 13 (kvD cs rows)) = true
      rw [z.short, t.short, h2]
      rfl
    · show PyData.weight (.str (ltr c)) + PyData.weight (.tuple (dints r)) + 2 + PyData.weightKv (kvD cs rows) ≤ _
      have h5 := z.weight
      have h6 := t.weight
      have h7 : ([c] : List Nat).length = 1 := rfl
      rw [List.length_cons]
      omega
    · show max (max (PyData.depth (.str (ltr c))) (PyData.depth (.tuple (dints r)))) (PyData.depthKv (kvD cs rows)) ≤ 3
      have h5 := depth_ints r
      simp only [PyData.depth]
      omega
theorem shw_dict {cs : List Nat} {rows : List (List Nat)} (hl : Ltrs cs) (hr : ∀ r ∈ rows, r.length ≤ 60 ∧ ∀ x ∈ r, x < 64) : Shw (.dict (kvD cs rows)) 1500 := by
  obtain ⟨h1, h2, h3, h4⟩ := shw_kv (cs := cs) (rows := rows) (fun c hc => by have := hl.small c hc; omega) hr
  have := hl.few
  refine ⟨h1, ?_, h2, ?_⟩
  · simp only [PyData.depth]
    omega
  · simp only [PyData.weight]
    omega
theorem shw_all {n : Nat} : ∀ {ds : List PyData}, (∀ d ∈ ds, Shw d n) → PyData.showableAll ds = true ∧ PyData.leavesShortAll 13 ds = true ∧ PyData.weightAll ds ≤ (n + 1) * ds.length ∧ PyData.depthAll ds ≤ 8
  | [], _ => ⟨rfl, rfl, Nat.zero_le _, by simp [PyData.depthAll]⟩
  | d :: ds, h => by
    obtain ⟨h1, h2, h3, h4⟩ := shw_all (ds := ds) fun x hx => h x (List.mem_cons_of_mem _ hx)
    have hd := h d List.mem_cons_self
    refine ⟨?_, ?_, ?_, ?_⟩
    · show (PyData.showable d && PyData.showableAll ds) = true
      rw [hd.ok, h1]
      rfl
    · show (PyData.leavesShort 13 d && PyData.leavesShortAll 13 ds) = true
      rw [hd.short, h2]
      rfl
    · show PyData.weight d + 1 + PyData.weightAll ds ≤ _
      have := hd.weight
      rw [List.length_cons, Nat.mul_succ]
      omega
    · show max (PyData.depth d) (PyData.depthAll ds) ≤ 8
      have := hd.deep
      omega
/-- short lists of such data can be shown -/
theorem shown_ok {n : Nat} {ds : List PyData} (h : ∀ d ∈ ds, Shw d n) (hl : ds.length ≤ 3) (hn : n ≤ 100000) : PyData.showableAll ds = true ∧ PyData.depthAll ds ≤ 8 ∧ (PyData.shown (.list ds)).length ≤ sizeLine := by
  obtain ⟨h1, h2, h3, h4⟩ := shw_all h
  refine ⟨h1, h4, PyData.shown_fits (B := 13) (by decide) (by decide) h2 ?_⟩
  show PyData.weightAll ds ≤ _
  have : (n + 1) * ds.length ≤ (n + 1) * 3 := Nat.mul_le_mul (Nat.le_refl _) hl
  omega
def mD (cs : List Nat) (M : Mch) : List PyData := [.str (txt cs), .dict (kvD cs M.ways), .tuple (dints M.good)]
theorem mD_ok {cs : List Nat} {M : Mch} (g : Good cs M) : PyData.showableAll (mD cs M) = true ∧ PyData.depthAll (mD cs M) ≤ 8 ∧ (PyData.shown (.list (mD cs M))).length ≤ sizeLine := by
  have W := g.wf
  have hn := g.few
  have hl := g.ltrs
  have hfew := hl.few
  have hgl : M.good.length ≤ 60 := Nat.le_trans (nodup_lt (W.asc.imp fun h => Nat.ne_of_lt h) W.glt) hn
  refine shown_ok (n := 2000) (fun d hd => ?_) (show 3 ≤ 3 by decide) (by decide)
  have up : ∀ {d : PyData} {n : Nat}, Shw d n → n ≤ 2000 → Shw d 2000 := fun h k => ⟨h.ok, h.deep, h.short, Nat.le_trans h.weight k⟩
  rcases List.mem_cons.mp hd with rfl | hd
  · exact up (shw_txt fun c hc => by have := hl.small c hc; omega) (by omega)
  · rcases List.mem_cons.mp hd with rfl | hd
    · exact up (shw_dict hl fun r hr => ⟨by rw [W.row r hr]; omega, fun x hx => by have := W.lt r hr x hx; omega⟩) (by decide)
    · rw [List.mem_singleton.mp hd]
      exact up (shw_tup (fun x hx => by have := W.glt x hx; omega) hgl) (by decide)
/-- a text or None, as data -/
def oD (cs : List Nat) : Option (List Nat) → PyData
  | none => .none
  | some w => .str (wtx cs w)
theorem dx_opt {H : Hp} {cs : List Nat} : ∀ {o : Option (List Nat)}, DX H (optV cs o) (oD cs o)
  | none => .non
  | some w => .str _
theorem shw_opt {cs : List Nat} (hl : Ltrs cs) {o : Option (List Nat)} (h : ∀ w, o = some w → w.length ≤ 3600) : Shw (oD cs o) 3600 := by
  cases o with
  | none => exact ⟨rfl, by simp [oD, PyData.depth], rfl, Nat.zero_le _⟩
  | some w =>
    have z := shw_txt (cs := w.map fun a => cs.getD a 0) fun c hc => by
      obtain ⟨a, _, rfl⟩ := List.mem_map.mp hc
      rw [List.getD_eq_getElem?_getD]
      cases e : cs[a]? with
      | none => decide
      | some c =>
        have := hl.small c (List.mem_of_getElem? e)
        show c < _
        omega
    refine ⟨z.ok, z.deep, z.short, Nat.le_trans z.weight ?_⟩
    rw [List.length_map]
    exact h w rfl
abbrev OkG (P : Program) (w : World) (K : PySem.W.Frag) (mg : Str → Option Value) (base : Heap) (k : Nat) (x : Str) (st : Stmt) (ps : List Str) (sp : Sp) : Prop := ∃ f fd, At K mg x st ps f fd ∧ FnG P w K mg base CX0 k f fd ps sp
section
variable {P : Program} {w : World} {K : PySem.W.Frag} {mg : Str → Option Value} {C : Addr} {base : Heap}
theorem sc_law_least_right : FnScope ["_law_plain", "_law_made", "_law_lean_here", "_law_told"] ["_law_plain", "_law_made"] (defScope (top 59)) := ⟨rfl, rfl, rfl, by decide +kernel, rfl, by decide +kernel, by decide +kernel⟩
def sp_law_least_right (C : Addr) : Sp := fun vs H Q _ => ∃ p q cs M, vs = [.ref p, .ref q] ∧ PlainAt H p cs M ∧ RdrAt C H q cs M ∧ ∀ H', Same H H' → Q (.bl true) H'
theorem okG_law_least_right (T : TX K mg C) : OkG P w K mg base 10 "_law_least_right" (top 59) ["_law_plain", "_law_made"] (sp_law_least_right C) := by
  obtain ⟨f, fd, D⟩ := T.f_law_least_right
  obtain ⟨f1, fd1, D1, G1⟩ := ok_law_lean (P := P) (w := w) (base := base) T
  obtain ⟨f2, fd2, D2, G2⟩ := ok_least_reader (P := P) (w := w) (base := base) T
  obtain ⟨f3, fd3, D3, G3⟩ := ok_parting (P := P) (w := w) (base := base) T
  obtain ⟨fe, fde, De, Ge⟩ := ok_m_eq (P := P) (w := w) (base := base) T
  obtain ⟨p1, g1, gd1, P1, H1⟩ := ok_get1 (P := P) (w := w) (base := base) T
  obtain ⟨p2, g2, gd2, P2, H2⟩ := ok_get2 (P := P) (w := w) (base := base) T
  obtain ⟨p3, g3, gd3, P3, H3⟩ := ok_get3 (P := P) (w := w) (base := base) T
  refine ⟨f, fd, D, fnG_mk D.F sc_law_least_right (fun vs H Q E h => ?_) (fun cdv A outer s H vs Q E hgd hr h => ?_)⟩
  · obtain ⟨p, q, cs, M, rfl, _⟩ := h
    rfl
  · obtain ⟨p, q, cs, M, rfl, hP, hR, k⟩ := h
    refine ⟨_, (pss_cons (ps_par (i := 2) (j := 3) rfl sc_law_least_right.nd rfl rfl (by decide) rfl rfl (pa_cons ((pe_call G1 (hr.mono (by decide)) (by rfl) D1.g D1.F.kp D1.b .nil pass0 (pa_cons ((pv 0)) pa_nil))) (pa_cons ((pe_call G2 (hr.mono (by decide)) (by rfl) D2.g D2.F.kp D2.b .nil pass0 (pa_cons ((pv 1)) pa_nil))) pa_nil)) (by rfl))
      (pss_cons (ps_if (pt_cmpR op_ne (pe_reprL hgd hr.u64 (by rfl) T.b_repr (by decide +kernel) (pa_cons (pe_prop (pv 3) T.cl P1.pr H1 (hr.mono (by decide)) P1.b .nil pass0 (by rfl)) (pa_cons (pe_prop (pv 3) T.cl P2.pr H2 (hr.mono (by decide)) P2.b .nil pass0 (by rfl)) (pa_cons (pe_prop (pv 3) T.cl P3.pr H3 (hr.mono (by decide)) P3.b .nil pass0 (by rfl)) pa_nil))))
          (pe_reprL hgd hr.u64 (by rfl) T.b_repr (by decide +kernel) (pa_cons (pe_dget hr.u1 (pv 2) pe_str (fun _ _ => rfl)) (pa_cons (pe_dget hr.u1 (pv 2) pe_str (fun _ _ => rfl)) (pa_cons (pe_dget hr.u1 (pv 2) pe_str (fun _ _ => rfl)) pa_nil)))) (nomark _)) (pss_one (ps_ret pe_bl)) pss_nil)
      (pss_one (ps_ret (pe_and (pe_cmpR (op_eqOwn (C := C) Ge De.at_ De.fn De.b (hr.mono (by decide)) pass0) (pe_call G2 (hr.mono (by decide)) (by rfl) D2.g D2.F.kp D2.b .nil pass0 (pa_cons ((pv 3)) pa_nil)) (pv 3) (nomark _)) (pe_and (pe_cmpR op_isN (pe_call G3 (hr.mono (by decide)) (by rfl) D3.g D3.F.kp D3.b .nil pass0 (pa_cons ((pv 3)) (pa_cons ((pv 1)) pa_nil))) pe_non (nomark _)) (pe_one (pe_cmpR (op_eqOwn (C := C) Ge De.at_ De.fn De.b (hr.mono (by decide)) pass0) (pe_call G2 (hr.mono (by decide)) (by rfl) D2.g D2.F.kp D2.b .nil pass0 (pa_cons ((pv 1)) pa_nil)) (pv 3) (nomark _))))))))), ?_⟩
    have g := hR.good
    have W := g.wf
    have gc := good_canon g
    have Wc := gc.wf
    have hd := mD_ok gc
    refine ⟨_, rfl, p, cs, M, rfl, hP, fun l H4 s4 hL => ⟨_, rfl, q, cs, M, rfl, hR.same s4, fun t H5 s5 hT => ⟨_, _, rfl, seq_ ?_⟩⟩⟩
    have s45 := s4.trans s5
    obtain ⟨dx, d, y, h1, h2, h3, hrow⟩ := hT.row
    refine ⟨_, rfl, t, dx, _, rfl, h1, t, cs, _, rfl, hT, _, rfl, t, dx, _, rfl, h1, t, cs, _, rfl, hT, fun dm H6 s6 hm6 => ?_⟩
    have hT6 := hT.same s6
    obtain ⟨dx', d', y', h1', h2', h3', hrow'⟩ := hT6.row
    refine ⟨_, rfl, t, dx', _, rfl, h1', t, cs, _, rfl, hT6, fun ym hym => ?_⟩
    refine ⟨mD cs (canon M), .cons (.str _) (.cons (.dic hm6) (.cons (.tup hym) .nil)), hd.1, hd.2.1, hd.2.2, ?_⟩
    obtain ⟨ld, ly, ll, e1, e2, e3⟩ := hL
    have s56 := s5.trans s6
    have e1' := s56 _ _ e1
    have q1 : DGet H6 l (.str "signs") (some (.str (txt cs))) := DGet.k (k := Sum.inr "signs") e1'
    have q2 : DGet H6 l (.str "ways") (some (.ref ld)) := DGet.k (k := Sum.inr "ways") e1'
    have q3 : DGet H6 l (.str "good") (some (.ref ly)) := DGet.k (k := Sum.inr "good") e1'
    refine ⟨_, rfl, l, _, rfl, q1, _, rfl, l, _, rfl, q2, _, rfl, l, _, rfl, q3, mD cs (canon M), .cons (.str _) (.cons (.dic (e2.same s56)) (.cons (.tup (s56 _ _ e3)) .nil)), hd.1, hd.2.1, hd.2.2, rfl, _, rfl, ?_⟩
    rw [decide_eq_true rfl]
    refine iteF ?_
    have s46 := s45.trans s6
    refine ⟨_, rfl, t, cs, _, rfl, hT6, fun u H7 s7 hU => ?_⟩
    have hT7 := hT6.same s7
    obtain ⟨dx7, d7, y7, h17, _, _, _⟩ := hT7.row
    obtain ⟨dxu, du, yu, h1u, _, _, _⟩ := hU.row
    refine ⟨_, rfl, u, dxu, _, rfl, h1u, ⟨t, dx7, _, rfl, h17⟩, u, t, cs, _, _, rfl, hU, hT7, _, rfl, ?_⟩
    rw [decide_eq_true (canon_canon W)]
    have s47 := s46.trans s7
    refine iteT ⟨_, rfl, _, rfl, t, q, cs, _, M, rfl, hT7, hR.same s47, fun H8 s8 => ⟨rfl, _, rfl, ?_⟩⟩
    have hpn : part (canon M) M = none := (part_iff Wc W (canon_k W)).mpr (canon_L0 W)
    rw [hpn]
    refine iteT ⟨_, rfl, q, cs, M, rfl, hR.same (s47.trans s8), fun v H9 s9 hV => ?_⟩
    have hT9 := hT7.same (s8.trans s9)
    obtain ⟨dx9, d9, y9, h19, _, _, _⟩ := hT9.row
    obtain ⟨dxv, dv, yv, h1v, _, _, _⟩ := hV.row
    refine ⟨_, rfl, v, dxv, _, rfl, h1v, ⟨t, dx9, _, rfl, h19⟩, v, t, cs, _, _, rfl, hV, hT9, ?_⟩
    rw [decide_eq_true rfl]
    exact k H9 ((s47.trans s8).trans s9)
end
end WP

/-! ## P29 -/
set_option Elab.async false
set_option linter.all false
set_option maxRecDepth 100000
set_option maxHeartbeats 4000000
/-! Whether a cell is right. -/
namespace WP
open PySem PySem.Spec PyProof.Rows L2 WR WC
theorem eq_txt (z : Str) : (!decide (V.str z = V.str z)) = false := by rw [decide_eq_true rfl]; rfl
section
variable {P : Program} {w : World} {K : PySem.W.Frag} {mg : Str → Option Value} {C : Addr} {base : Heap}
theorem sc_law_cell_right : FnScope ["_law_cup_here", "_law_signs_here", "_law_plain", "_law_other", "_law_lot", "_law_one", "_law_two", "_law_due"] ["_law_cup_here"] (defScope (top 60)) := ⟨rfl, rfl, rfl, by decide +kernel, rfl, by decide +kernel, by decide +kernel⟩
def sp_law_cell_right : Sp := fun vs H Q _ => ∃ c : Addr, vs = [.ref c] ∧ CupAt H c ∧ ∀ H', SameBut c H H' → CupAt H' c → Q (.bl true) H'
theorem okG_law_cell_right (T : TX K mg C) : OkG P w K mg base 11 "_law_cell_right" (top 60) ["_law_cup_here"] sp_law_cell_right := by
  obtain ⟨f, fd, D⟩ := T.f_law_cell_right
  obtain ⟨f1, fd1, D1, G1⟩ := ok_law_signs (P := P) (w := w) (base := base) T
  obtain ⟨f2, fd2, D2, G2⟩ := ok_law_plain_reader (P := P) (w := w) (base := base) T
  obtain ⟨f3, fd3, D3, G3⟩ := ok_law_bit (P := P) (w := w) (base := base) T
  obtain ⟨f4, fd4, D4, G4⟩ := ok_law_twice (P := P) (w := w) (base := base) T
  obtain ⟨f5, fd5, D5, G5⟩ := ok_law_with_idle (P := P) (w := w) (base := base) T
  obtain ⟨f6, fd6, D6, G6⟩ := ok_law_made_reader (P := P) (w := w) (base := base) T
  obtain ⟨f7, fd7, D7, G7⟩ := ok_law_parted (P := P) (w := w) (base := base) T
  obtain ⟨f8, fd8, D8, G8⟩ := ok_parting (P := P) (w := w) (base := base) T
  obtain ⟨f9, fd9, D9, G9⟩ := ok_least_reader (P := P) (w := w) (base := base) T
  obtain ⟨fl, fdl, Dl, Gl'⟩ := okG_law_least_right (P := P) (w := w) (base := base) T
  obtain ⟨fe, fde, De, Ge⟩ := ok_m_eq (P := P) (w := w) (base := base) T
  obtain ⟨fc, fdc, Dc, Gc⟩ := ok_m_contains (P := P) (w := w) (base := base) T
  refine ⟨f, fd, D, fnG_mk D.F sc_law_cell_right (fun vs H Q E h => ?_) (fun cdv A outer s H vs Q E hgd hr h => ?_)⟩
  · obtain ⟨c, rfl, _⟩ := h
    rfl
  · obtain ⟨c, rfl, hc, k⟩ := h
    refine ⟨_, (pss_cons ((ps_set (i := 1) sc_law_cell_right.nd rfl (Or.inl rfl) ((pe_call G1 (hr.mono (by decide)) (by rfl) D1.g D1.F.kp D1.b .nil pass0 (pa_cons ((pv 0)) pa_nil)))))
      (pss_cons (ps_par3 (i := 2) (j := 3) (l := 4) rfl sc_law_cell_right.nd rfl rfl rfl (by decide) (by decide) (by decide) rfl rfl rfl (pa_cons ((pe_call G2 (hr.mono (by decide)) (by rfl) D2.g D2.F.kp D2.b .nil pass0 (pa_cons ((pv 0)) (pa_cons ((pv 1)) pa_nil)))) (pa_cons ((pe_call G2 (hr.mono (by decide)) (by rfl) D2.g D2.F.kp D2.b .nil pass0 (pa_cons ((pv 0)) (pa_cons ((pv 1)) pa_nil)))) (pa_cons ((pe_call G3 (hr.mono (by decide)) (by rfl) D3.g D3.F.kp D3.b .nil pass0 (pa_cons ((pv 0)) (pa_cons (pe_int) pa_nil)))) pa_nil))) (by rfl))
      (C8.pss_cut (ps_if (pt_cmpR op_eq (pv 4) pe_int (nomark _)) (pss_one (ps_set (i := 3) sc_law_cell_right.nd rfl (Or.inl rfl) ((pe_call G4 (hr.mono (by decide)) (by rfl) D4.g D4.F.kp D4.b .nil pass0 (pa_cons ((pv 2)) pa_nil))))) (pss_one (ps_if (pt_cmpR op_eq (pv 4) pe_int (nomark _)) (pss_one (ps_set (i := 3) sc_law_cell_right.nd rfl (Or.inl rfl) ((pe_call G5 (hr.mono (by decide)) (by rfl) D5.g D5.F.kp D5.b .nil pass0 (pa_cons ((pv 0)) (pa_cons ((pv 2)) pa_nil)))))) pss_nil)))
      (pss_cons (ps_par (i := 5) (j := 6) rfl sc_law_cell_right.nd rfl rfl (by decide) rfl rfl (pa_cons ((pe_call G6 (hr.mono (by decide)) (by rfl) D6.g D6.F.kp D6.b .nil pass0 (pa_cons ((pv 2)) pa_nil))) (pa_cons ((pe_call G6 (hr.mono (by decide)) (by rfl) D6.g D6.F.kp D6.b .nil pass0 (pa_cons ((pv 3)) pa_nil))) pa_nil)) (by rfl))
      (pss_cons (ps_if (PW.pt (pw_or (pt_not (pt_val (pe_callG Gl' hgd hr (by rfl) Dl.g Dl.F.kp Dl.b pass0 (pa_cons ((pv 2)) (pa_cons ((pv 5)) pa_nil))))) (pw_or1 (pt_not (pt_val (pe_callG Gl' hgd hr (by rfl) Dl.g Dl.F.kp Dl.b pass0 (pa_cons ((pv 3)) (pa_cons ((pv 6)) pa_nil)))))))) (pss_one (ps_ret pe_bl)) pss_nil)
      (pss_cons ((ps_set (i := 7) sc_law_cell_right.nd rfl (Or.inl rfl) ((pe_call G7 (hr.mono (by decide)) (by rfl) D7.g D7.F.kp D7.b .nil pass0 (pa_cons ((pv 2)) (pa_cons ((pv 3)) pa_nil))))))
      (pss_cons (ps_if (PW.pt (pw_or (pt_cmpR op_ne (pe_reprL hgd hr.u64 (by rfl) T.b_repr (by decide +kernel) (pa_cons ((pe_call G8 (hr.mono (by decide)) (by rfl) D8.g D8.F.kp D8.b .nil pass0 (pa_cons ((pv 5)) (pa_cons ((pv 6)) pa_nil)))) (pa_cons ((pe_call G8 (hr.mono (by decide)) (by rfl) D8.g D8.F.kp D8.b .nil pass0 (pa_cons ((pv 6)) (pa_cons ((pv 5)) pa_nil)))) pa_nil))) (pe_reprL hgd hr.u64 (by rfl) T.b_repr (by decide +kernel) (pa_cons ((pv 7)) (pa_cons ((pv 7)) pa_nil))) (nomark _)) (pw_or1 (PW.pt (pw_and (pt_cmpR op_lt (pv 4) pe_int (nomark _)) (pw_and1 (pt_cmpR op_notN (pv 7) pe_non (nomark _)))))))) (pss_one (ps_ret pe_bl)) pss_nil)
      (pss_cons (ps_if (pt_cmpR op_ne (pe_cmpR op_isN (pv 7) pe_non (nomark _)) (pe_cmpR (op_eqOwn (C := C) Ge De.at_ De.fn De.b (hr.mono (by decide)) pass0) (pe_call G9 (hr.mono (by decide)) (by rfl) D9.g D9.F.kp D9.b .nil pass0 (pa_cons ((pv 5)) pa_nil)) (pe_call G9 (hr.mono (by decide)) (by rfl) D9.g D9.F.kp D9.b .nil pass0 (pa_cons ((pv 6)) pa_nil)) (nomark _)) (nomark _)) (pss_one (ps_ret pe_bl)) pss_nil)
      (pss_one (ps_ret (pe_or (pe_cmpR op_isN (pv 7) pe_non (nomark _)) (pe_one (pe_cmpR op_ne (pe_cmpR (op_inOwn (C := C) Gc Dc.at_ Dc.fn Dc.b (hr.mono (by decide)) pass0) (pv 7) (pv 5) rfl) (pe_cmpR (op_inOwn (C := C) Gc Dc.at_ Dc.fn Dc.b (hr.mono (by decide)) pass0) (pv 7) (pv 6) rfl) (nomark _)))))))))))))), ?_⟩
    refine ⟨_, rfl, c, rfl, hc, fun cs H1 hl s1 c1 => seq_ ?_⟩
    refine ⟨_, rfl, _, rfl, c, cs, rfl, hl, c1, fun p M H2 hP hn s2 c2 => ?_⟩
    refine ⟨_, rfl, _, rfl, c, cs, rfl, hl, c2, fun q M' H3 hP' hn' s3 c3 => ?_⟩
    refine ⟨_, rfl, c, 4, rfl, by decide, by decide, c3, fun lot H4 hlot s4 c4 => ⟨_, _, _, rfl, ?_⟩⟩
    have hP4 := SameBut.plain c3 s4 (SameBut.plain c2 s3 hP)
    have hP4' := SameBut.plain c3 s4 hP'
    have s14 := SameBut.trans (SameBut.trans (SameBut.trans s1 s2) s3) s4
    have W := hP.1.wf
    refine ⟨fun σ' H' => ∃ q M', σ' = [some (.ref c), some (.str (txt cs)), some (.ref p), some (.ref q), some (.int (lot : Nat)), none, none, none] ∧ SameBut c H H' ∧ CupAt H' c ∧ PlainAt H' p cs M ∧ PlainAt H' q cs M' ∧ (lot < 2 → M.L 0 = M'.L 0), ?_, fun σ' H' hM => ?_⟩
    · refine ⟨_, rfl, rfl, _, rfl, ?_⟩
      by_cases h0 : lot = 0
      · subst h0
        rw [decide_eq_true (show V.int ((0 : Nat) : Int) = V.int 0 from rfl)]
        refine iteT ⟨_, rfl, p, cs, M, rfl, hP4, hn, fun q2 H5 s5 hq => ⟨q2, twice M, rfl, SameBut.same s14 s5, c4.same s5, hP4.same s5, hq, fun _ => (twice_L0 W).symm⟩⟩
      · rw [decide_eq_false (fun z => h0 (by have z : (lot : Int) = 0 := by injection z
                                             omega))]
        refine iteF ⟨_, rfl, rfl, _, rfl, ?_⟩
        by_cases h1 : lot = 1
        · subst h1
          rw [decide_eq_true (show V.int ((1 : Nat) : Int) = V.int 1 from rfl)]
          refine iteT ⟨_, rfl, _, rfl, c, p, cs, M, rfl, hP4, hn, c4, fun q2 xs b H5 hx1 hx2 s5 c5 hq => ⟨q2, idle M xs b, rfl, SameBut.trans s14 s5, c5, SameBut.plain c4 s5 hP4, hq, fun _ => (idle_L0 W hx1).symm⟩⟩
        · rw [decide_eq_false (fun z => h1 (by have z : (lot : Int) = 1 := by injection z
                                               omega))]
          exact iteF ⟨q, M', rfl, s14, c4, hP4, hP4', fun hlt => absurd hlt (by omega)⟩
    obtain ⟨q, M', rfl, s5, c5, hP5, hP5', hL⟩ := hM
    have g := hP5.1
    have g' := hP5'.1
    have W' := g'.wf
    have hkk : M.k = M'.k := g.k.trans g'.k.symm
    refine seq_ ⟨_, rfl, p, cs, M, rfl, hP5, fun o H6 s6 hO => ⟨_, rfl, q, cs, M', rfl, hP5'.same s6, fun t H7 s7 hT => ⟨_, _, rfl, seq_ ?_⟩⟩⟩
    have s57 := s6.trans s7
    refine ⟨_, rfl, _, rfl, p, o, cs, M, rfl, hP5.same s57, hO.same s7, fun H8 s8 => ⟨true, rfl, iteF ⟨_, rfl, _, rfl, q, t, cs, M', rfl, hP5'.same (s57.trans s8), hT.same s8, fun H9 s9 => ⟨true, rfl, iteF (seq_ ?_)⟩⟩⟩⟩
    have s59 := (s57.trans s8).trans s9
    have hO9 := hO.same ((s7.trans s8).trans s9)
    have hT9 := hT.same (s8.trans s9)
    refine ⟨_, rfl, _, rfl, p, q, cs, M, M', rfl, hP5.same s59, hP5'.same s59, fun HA sA => seq_ ?_⟩
    refine ⟨_, rfl, _, rfl, o, t, cs, M, M', rfl, hO9.same sA, hT9.same sA, fun HB sB => ⟨_, rfl, _, rfl, t, o, cs, M', M, rfl, hT9.same (sA.trans sB), hO9.same (sA.trans sB), fun HC sC => ?_⟩⟩
    have s5C := ((s59.trans sA).trans sB).trans sC
    have hOC := hO9.same ((sA.trans sB).trans sC)
    have hTC := hT9.same ((sA.trans sB).trans sC)
    have hsw : part M' M = part M M' := part_swap hkk
    rw [hsw]
    have hsm := @part_some M M' W W'
    have hiff := part_canon W W' hkk
    have hpi := part_iff W W' hkk
    have hnn : M.n * M'.n ≤ 3600 := Nat.le_trans (Nat.mul_le_mul g.few g'.few) (by decide)
    have fin : ∀ H', Same H' H' → SameBut c H H' → CupAt H' c → Q (.bl true) H' := fun H' _ s c => k H' s c
    generalize part M M' = due at hsm hiff hpi
    have hsh : ∀ d ∈ [oD cs due, oD cs due], Shw d 3600 := fun d hd => by
      have h := shw_opt (cs := cs) hl (o := due) fun w e => Nat.le_trans (hsm e).2.1 hnn
      rcases List.mem_cons.mp hd with rfl | hd
      · exact h
      · rw [List.mem_singleton.mp hd]
        exact h
    obtain ⟨z1, z2, z3⟩ := shown_ok hsh (show 2 ≤ 3 by decide) (by decide)
    refine ⟨[oD cs due, oD cs due], .cons dx_opt (.cons dx_opt .nil), z1, z2, z3, _, rfl, _, rfl, [oD cs due, oD cs due], .cons dx_opt (.cons dx_opt .nil), z1, z2, z3, rfl, _, rfl, ?_⟩
    rw [eq_txt]
    refine iteF ⟨_, rfl, _, _, rfl, rfl, _, rfl, ?_⟩
    obtain ⟨dxo, do_, yo, ho1, _, _, _⟩ := hOC.row
    have s5D := SameBut.same s5 s5C
    have c5D := c5.same s5C
    cases due with
    | none =>
      have hcc : canon M = canon M' := hiff.mp rfl
      have e0 : (!decide (optV cs none = V.non)) = false := by rw [decide_eq_true (show optV cs none = V.non from rfl)]; rfl
      have e1 : decide (optV cs none = V.non) = true := decide_eq_true rfl
      by_cases hlt : lot < 2
      · rw [decide_eq_true (show (lot : Int) < 2 by omega)]
        refine iteT ⟨_, rfl, rfl, _, rfl, ?_⟩
        rw [e0]
        refine iteF (seq_ ⟨_, rfl, rfl, _, rfl, o, cs, M, rfl, hOC, fun u HD sD hU => ⟨_, rfl, t, cs, M', rfl, hTC.same sD, fun v HE sE hV => ?_⟩⟩)
        have hU' := hU.same sE
        obtain ⟨dxu, du, yu, hu1, _, _, _⟩ := hU'.row
        obtain ⟨dxv, dv, yv, hv1, _, _, _⟩ := hV.row
        refine ⟨u, dxu, _, rfl, hu1, ⟨v, dxv, _, rfl, hv1⟩, u, v, cs, _, _, rfl, hU', hV, rfl, _, rfl, ?_⟩
        rw [e1, decide_eq_true hcc, decide_eq_true (show V.bl true = V.bl true from rfl)]
        refine iteF ⟨_, rfl, rfl, _, rfl, ?_⟩
        rw [e1]
        refine iteT ?_
        exact k HE (SameBut.same s5D (sD.trans sE)) (c5D.same (sD.trans sE))
      · rw [decide_eq_false (show ¬ ((lot : Int) < 2) by omega)]
        refine iteF (iteF (seq_ ⟨_, rfl, rfl, _, rfl, o, cs, M, rfl, hOC, fun u HD sD hU => ⟨_, rfl, t, cs, M', rfl, hTC.same sD, fun v HE sE hV => ?_⟩⟩))
        have hU' := hU.same sE
        obtain ⟨dxu, du, yu, hu1, _, _, _⟩ := hU'.row
        obtain ⟨dxv, dv, yv, hv1, _, _, _⟩ := hV.row
        refine ⟨u, dxu, _, rfl, hu1, ⟨v, dxv, _, rfl, hv1⟩, u, v, cs, _, _, rfl, hU', hV, rfl, _, rfl, ?_⟩
        rw [e1, decide_eq_true hcc, decide_eq_true (show V.bl true = V.bl true from rfl)]
        refine iteF ⟨_, rfl, rfl, _, rfl, ?_⟩
        rw [e1]
        refine iteT ?_
        exact k HE (SameBut.same s5D (sD.trans sE)) (c5D.same (sD.trans sE))
    | some ws =>
      obtain ⟨hne, hwl, hwk⟩ := hsm rfl
      have hcc : ¬ canon M = canon M' := fun z => by cases hiff.mpr z
      have e1 : decide (optV cs (some ws) = V.non) = false := decide_eq_false (fun z => by cases z)
      have hlt : ¬ lot < 2 := fun z => by cases hpi.mpr (hL z)
      rw [decide_eq_false (show ¬ ((lot : Int) < 2) by omega)]
      refine iteF (iteF (seq_ ⟨_, rfl, rfl, _, rfl, o, cs, M, rfl, hOC, fun u HD sD hU => ⟨_, rfl, t, cs, M', rfl, hTC.same sD, fun v HE sE hV => ?_⟩⟩))
      have hU' := hU.same sE
      obtain ⟨dxu, du, yu, hu1, _, _, _⟩ := hU'.row
      obtain ⟨dxv, dv, yv, hv1, _, _, _⟩ := hV.row
      refine ⟨u, dxu, _, rfl, hu1, ⟨v, dxv, _, rfl, hv1⟩, u, v, cs, _, _, rfl, hU', hV, rfl, _, rfl, ?_⟩
      rw [e1, decide_eq_false hcc, decide_eq_true (show V.bl false = V.bl false from rfl)]
      refine iteF ⟨_, rfl, rfl, _, rfl, ?_⟩
      rw [e1]
      have sDE := sD.trans sE
      have hOE := hOC.same sDE
      have hTE := hTC.same sDE
      obtain ⟨dxo2, do2, yo2, ho2, _, _, _⟩ := hOE.row
      have hw4 : ws.length ≤ 4000 := by omega
      have hwc : ∀ a ∈ ws, a < cs.length := fun a ha => by
        have h1 := hwk a ha
        have h2 := g.k
        omega
      refine iteF ⟨_, rfl, _, rfl, o, dxo2, _, rfl, ho2, o, cs, M, ws, rfl, hOE, hw4, hwc, fun HF sF => ⟨_, rfl, ?_⟩⟩
      have hTF := hTE.same sF
      obtain ⟨dxt2, dt2, yt2, ht2, _, _, _⟩ := hTF.row
      refine ⟨_, rfl, _, rfl, t, dxt2, _, rfl, ht2, t, cs, M', ws, rfl, hTF, hw4, hwc, fun HG sG => ⟨_, rfl, rfl, ?_⟩⟩
      have eb : (!decide (V.bl (M.L 0 ws) = V.bl (M'.L 0 ws))) = true := by
        cases h1 : M.L 0 ws <;> cases h2 : M'.L 0 ws <;> simp [h1, h2] at hne ⊢
      rw [eb]
      exact k HG (SameBut.same s5D ((sDE.trans sF).trans sG)) (c5D.same ((sDE.trans sF).trans sG))
end
end WP

/-! ## P30 -/
set_option Elab.async false
set_option linter.all false
set_option maxRecDepth 100000
set_option maxHeartbeats 4000000
/-! The law. -/
namespace WP
open PySem PySem.Spec PyProof.Rows L2 WR WC
/-! ### the readers that are written -/
def pairM : Mch := ⟨[[1, 0, 3, 2], [0, 2, 1, 3]], [0, 1]⟩
def evenM : Mch := ⟨[[1, 0], [0, 1]], [0]⟩
def ringM (m : Nat) : Mch := ⟨[(List.range (m - 1)).map (· + 1) ++ [0]], [0]⟩
def wideM : Mch := ⟨[List.range 60, List.replicate 60 59], []⟩
theorem ltr2 : Ltrs [97, 98] := ⟨by decide, by decide, by decide, by decide⟩
theorem ltr1 : Ltrs [97] := ⟨by decide, by decide, by decide, by decide⟩
theorem good_pair : Good [97, 98] pairM := ⟨ltr2, ⟨by decide, by decide, by decide, by decide, by decide, by decide⟩, by decide, by decide⟩
theorem good_even : Good [97, 98] evenM := ⟨ltr2, ⟨by decide, by decide, by decide, by decide, by decide, by decide⟩, by decide, by decide⟩
theorem good_ring8 : Good [97] (ringM 8) := ⟨ltr1, ⟨by decide, by decide, by decide, by decide, by decide, by decide⟩, by decide, by decide⟩
theorem good_ring9 : Good [97] (ringM 9) := ⟨ltr1, ⟨by decide, by decide, by decide, by decide, by decide, by decide⟩, by decide, by decide⟩
theorem good_wide : Good [97, 98] wideM := ⟨ltr2, ⟨by decide +kernel, by decide +kernel, by decide +kernel, by decide +kernel, by decide +kernel, by decide +kernel⟩, by decide +kernel, by decide +kernel⟩
theorem kern_id {M : Mch} (ws : List (List Nat)) (h : ∀ p, p < M.n → ∀ q, q < M.n → ws.map (M.L p) = ws.map (M.L q) → p = q) : Kern M fun s => s := fun p q hp hq => ⟨fun e => by rw [show p = q from e], fun e => h p hp q hq (by rw [e])⟩
theorem canon_pair : canon pairM = pairM := (lean_canon good_pair.wf (kern_id [[], [1]] (by decide +kernel))).symm.trans (by decide +kernel)
theorem part_even : part evenM pairM = some [0] := by decide +kernel
theorem part_rings : part (ringM 8) (ringM 9) = some [0, 0, 0, 0, 0, 0, 0, 0] := by decide +kernel
theorem wide_one : (canon wideM).n = 1 := ls_one good_wide.wf (b := false) fun s _ => rfl
theorem both_even : both evenM (inv evenM) = ⟨[[1, 0], [0, 1]], [0, 1]⟩ := by decide +kernel
theorem even_one : (canon (both evenM (inv evenM))).n = 1 := by
  have h := both_good good_even (inv_good good_even) (show evenM.n * (inv evenM).n ≤ 60 by decide +kernel)
  refine ls_one h.wf (b := true) ?_
  rw [both_even]
  decide +kernel
theorem s_ab : ("ab" : Str) = txt [97, 98] := by decide +kernel
theorem s_a : ("a" : Str) = txt [97] := by decide +kernel
theorem l_a : ("a" : Str) = ltr 97 := by decide +kernel
theorem l_b : ("b" : Str) = ltr 98 := by decide +kernel
theorem w_a : wtx [97, 98] [0] = ("a" : Str) := by decide +kernel
theorem w_a8 : wtx [97] [0, 0, 0, 0, 0, 0, 0, 0] = ⟨(List.replicate 8 97).toArray⟩ := by decide +kernel
theorem mk2 {H H3 : Hp} {d a b : Addr} {r s : List Nat} (hd : H d = none) (e : Same (upd H d (.dK [])) H3) (ha : H3 a = some (.tup (iv r))) (hb : H3 b = some (.tup (iv s))) :
    H3 d = some (.dK []) ∧ Same H (upd H3 d (.dK (mergeK [] [(Sum.inr ("a" : Str), V.ref a), (Sum.inr ("b" : Str), V.ref b)]))) ∧ MovesAt (upd H3 d (.dK (mergeK [] [(Sum.inr ("a" : Str), V.ref a), (Sum.inr ("b" : Str), V.ref b)]))) d [97, 98] [r, s] := by
  have h3 := e _ _ upd_same
  have em : mergeK [] [((Sum.inr ("a" : Str) : Key), V.ref a), (Sum.inr ("b" : Str), V.ref b)] = mkv [97, 98] [a, b] := by
    rw [l_a, l_b]
    exact merge_mkv (cs := [97, 98]) (as := [a, b]) (by decide) rfl
  have tp : ∀ {x : Addr} {xs : List V} {o : HO}, H3 x = some (.tup xs) → upd H3 d o x = some (.tup xs) := fun {x xs o} q => by rw [upd_ne (fun z => by rw [z, h3] at q; cases q)]; exact q
  refine ⟨h3, fun c o q => ?_, [a, b], rfl, by rw [em]; exact upd_same, .cons (tp ha) (.cons (tp hb) .nil)⟩
  rw [upd_ne (ne_of_none q hd)]
  exact e _ _ ((Same.upd hd) _ _ q)
theorem mk1 {H H3 : Hp} {d a : Addr} {r : List Nat} (hd : H d = none) (e : Same (upd H d (.dK [])) H3) (ha : H3 a = some (.tup (iv r))) :
    H3 d = some (.dK []) ∧ Same H (upd H3 d (.dK (mergeK [] [(Sum.inr ("a" : Str), V.ref a)]))) ∧ MovesAt (upd H3 d (.dK (mergeK [] [(Sum.inr ("a" : Str), V.ref a)]))) d [97] [r] := by
  have h3 := e _ _ upd_same
  have em : mergeK [] [((Sum.inr ("a" : Str) : Key), V.ref a)] = mkv [97] [a] := by
    rw [l_a]
    exact merge_mkv (cs := [97]) (as := [a]) (by decide) rfl
  refine ⟨h3, fun c o q => ?_, [a], rfl, by rw [em]; exact upd_same, .cons (by rw [upd_ne (fun z => by rw [z, h3] at ha; cases ha)]; exact ha) .nil⟩
  rw [upd_ne (ne_of_none q hd)]
  exact e _ _ ((Same.upd hd) _ _ q)
theorem sqL_same {K : PySem.W.Frag} {H H' : Hp} {a : Addr} {xs : List V} (e : Same H H') : SqL K H a xs → SqL K H' a xs
  | .inl (.inl h) => .inl (.inl (e _ _ h))
  | .inl (.inr ⟨o, h⟩) => .inl (.inr ⟨o, e _ _ h⟩)
  | .inr h => .inr h
/-- what is no list stands -/
def NoL (H H' : Hp) : Prop := ∀ b o, H b = some o → (∀ xs, o ≠ .lst xs) → H' b = some o
theorem RdrAt.noL {C p : Addr} {H H' : Hp} {cs : List Nat} {M : Mch} (e : NoL H H') (h : RdrAt C H p cs M) : RdrAt C H' p cs M := by
  obtain ⟨g, dx, d, y, h1, ⟨as, h2, h3, h4⟩, h5⟩ := h
  exact ⟨g, dx, d, y, e _ _ h1 (fun _ z => nomatch z), ⟨as, h2, e _ _ h3 (fun _ z => nomatch z), h4.tups fun b xs q => e _ _ q (fun _ z => nomatch z)⟩, e _ _ h5 (fun _ z => nomatch z)⟩
/-- a comprehension that gives new things, one per turn, that no list is part of -/
theorem lc_objs {J : It} {n : Nat} {G : Hp → Prop} {Y : Nat → Hp → V → Hp → Prop} {g : TG} {te : TE} {vs : List Nat} {σ : L2.St} {H1 : Hp} {D : Addr} {Qd : Hp → Prop} (w : Walk J n G Y) (hD : H1 D = none) (R : Nat → Hp → Addr → Prop) (hR : ∀ i a H H', NoL H H' → R i H a → R i H' a) (hz : n ≤ 100000) (hG : ∀ H, Same H1 H → G H)
    (hs : ∀ (i : Nat) (x : V) (H H' : Hp) (Nx : Hp → Prop), i < n → Same H1 H → (∃ as : List Addr, H D = some (.lst (as.map V.ref))) → Y i H x H' → (∀ a H5, R i H5 a → Same H H5 → ∃ acc, H5 D = some (.lst acc) ∧ acc.length < sizeLine ∧ Nx (upd H5 D (.lst (acc ++ [.ref a])))) →
      g x (wipe σ vs) H' fun σ2 H2 => wipe σ2 vs = wipe σ vs ∧ te σ2 H2 fun y H4 => ∃ acc, H4 D = some (.lst acc) ∧ acc.length < sizeLine ∧ Nx (upd H4 D (.lst (acc ++ [y]))))
    (hd : ∀ H (as : List Addr), Same H1 H → as.length = n → H D = some (.lst (as.map V.ref)) → (∀ i (hi : i < as.length), R i H as[i]) → Qd H) :
    ∃ W : Nat → Nat → Hp → Prop, (∃ m, W 0 m (upd H1 D (.lst []))) ∧ ∀ i m H, W i m H →
      (J.stop i H ∧ Qd H) ∨ (J.go i H ∧ ∃ Nx : Hp → Prop, (∀ H', Nx H' → ∃ m', m' < m ∧ W (i + 1) m' H') ∧ ∀ x H', J.yld i H x H' → g x (wipe σ vs) H' fun σ2 H2 => wipe σ2 vs = wipe σ vs ∧ tYes σ2 H2 fun b H3 =>
        if b = true then te σ2 H3 fun y H4 => ∃ acc, H4 D = some (.lst acc) ∧ acc.length < sizeLine ∧ Nx (upd H4 D (.lst (acc ++ [y]))) else Nx H3) := by
  have put : ∀ {H : Hp} (o : HO), Same H1 H → Same H1 (upd H D o) := fun {H} o h b u e => by
    rw [upd_ne (ne_of_none e hD)]
    exact h b u e
  refine lc_it (tt := tYes) w (fun i H => ∃ as : List Addr, as.length = i ∧ H D = some (.lst (as.map V.ref)) ∧ (∀ j (hj : j < as.length), R j H as[j]) ∧ Same H1 H) ⟨[], rfl, upd_same, fun j hj => absurd hj (Nat.not_lt_zero _), Same.upd hD⟩ (fun i H _ ⟨_, _, _, _, h⟩ => hG H h) (fun i x H H' hi h hy => ?_) fun H ⟨as, h1, h2, h3, h4⟩ => hd H as h4 h1 h2 h3
  obtain ⟨as, h1, h2, h3, h4⟩ := h
  have key := hs i x H H' (fun H' => ∃ as : List Addr, as.length = i + 1 ∧ H' D = some (.lst (as.map V.ref)) ∧ (∀ j (hj : j < as.length), R j H' as[j]) ∧ Same H1 H') hi h4 ⟨as, h2⟩ hy fun a H5 r5 s5 => by
    have h5 := s5 _ _ h2
    have tp : NoL H5 (upd H5 D (.lst (as.map V.ref ++ [.ref a]))) := fun b o e hn => by rw [upd_ne (fun z => by rw [z, h5] at e; exact hn _ (Option.some.inj e).symm)]; exact e
    refine ⟨_, h5, by rw [List.length_map, sizeLine_eq]; omega, as ++ [a], by rw [List.length_append, h1]; rfl, by rw [upd_same, List.map_append]; rfl, fun j hj => ?_, put _ (h4.trans s5)⟩
    refine hR _ _ _ _ tp ?_
    by_cases hja : j < as.length
    · rw [List.getElem_append_left hja]
      exact hR _ _ _ _ (fun b o e _ => s5 _ _ e) (h3 j hja)
    · have hj' : j = as.length := by rw [List.length_append] at hj; have : j < as.length + 1 := hj; omega
      subst hj'
      rw [List.getElem_append_right (Nat.le_refl _)]
      simp only [Nat.sub_self, List.getElem_singleton]
      rw [h1]
      exact r5
  exact key
theorem good_ring {i : Nat} (h : i < 2) : Good [97] (ringM (8 + i)) := by
  match i, h with
  | 0, _ => exact good_ring8
  | 1, _ => exact good_ring9
theorem ring_row {i : Nat} (h : i < 2) : rgV 1 ((8 + i : Nat) : Int) ++ [V.int 0] = iv ((List.range (8 + i - 1)).map (· + 1) ++ [0]) := by
  match i, h with
  | 0, _ => decide +kernel
  | 1, _ => decide +kernel
def dueD : List PyData := [.bool true, .str "a", .str ⟨(List.replicate 8 97).toArray⟩, .int 1, .int 1]
theorem lay_due : PyData.canLayAll0 dueD = true := by decide +kernel
theorem depth_due : PyData.depthAll dueD ≤ 8 := by decide +kernel
section
variable {P : Program} {w : World} {K : PySem.W.Frag} {mg : Str → Option Value} {C : Addr} {base : Heap}
theorem sc_law : FnScope ["_law_script", "_law_at", "_law_cup_here", "_law_pair", "_law_even", "_law_rings", "_law_much", "_law_wide", "_law_found"] ["_law_script"] (defScope (top 61)) := ⟨rfl, rfl, rfl, by decide +kernel, rfl, by decide +kernel, by decide +kernel⟩
def sp_law (K : PySem.W.Frag) : Sp := fun vs H Q _ => ∃ (a : Addr) (ns : List Int), vs = [.ref a] ∧ SqL K H a (ns.map V.int) ∧ ns.length ≤ 63 ∧ ∀ H', Q (.bl true) H'
theorem okG_law (T : TX K mg C) {f : Addr} {fd : FuncData} (DF : Fun K "law" "law" (top 61) f fd) : FnG P w K mg base CX0 12 f fd ["_law_script"] (sp_law K) := by
  obtain ⟨f1, fd1, D1, G1⟩ := ok_law_cup (P := P) (w := w) (base := base) T
  obtain ⟨f2, fd2, D2, G2⟩ := ok_least_reader (P := P) (w := w) (base := base) T
  obtain ⟨f3, fd3, D3, G3⟩ := ok_parting (P := P) (w := w) (base := base) T
  obtain ⟨fl, fdl, Dl, Gl'⟩ := okG_law_cell_right (P := P) (w := w) (base := base) T
  obtain ⟨fe, fde, De, Ge⟩ := ok_m_eq (P := P) (w := w) (base := base) T
  obtain ⟨fi, fdi, Di, Gi⟩ := ok_m_init (P := P) (w := w) (base := base) T
  obtain ⟨fn, fdn, Dn, Gn⟩ := ok_m_len (P := P) (w := w) (base := base) T
  obtain ⟨fv, fdv, Dv, Gv⟩ := ok_m_invert (P := P) (w := w) (base := base) T
  obtain ⟨fo, fdo, Do, Go⟩ := ok_m_or (P := P) (w := w) (base := base) T
  refine fnG_mk DF sc_law (fun vs H Q E h => ?_) (fun cdv A outer s H vs Q E hgd hr h => ?_)
  · obtain ⟨a, ns, rfl, _⟩ := h
    rfl
  · obtain ⟨a, ns, rfl, hS, hns, k⟩ := h
    refine ⟨_, (pss_cons (ps_for PassesOwn.never rfl (pi_range1 (by rfl) T.b_range (pa_cons (pe_callB (call_max2 rfl) (by rfl) T.b_max (by decide +kernel) (pa_cons (pe_int) (pa_cons (pe_callB (call_min2 rfl) (by rfl) T.b_min (by decide +kernel) (pa_cons (pe_int) (pa_cons (pe_lenQ T (pv 0)) pa_nil))) pa_nil))) pa_nil)) (pg_name (i := 1) sc_law.nd rfl (Or.inl rfl)) (pss_cons ((ps_set (i := 2) sc_law.nd rfl (Or.inl rfl) ((pe_call G1 (hr.mono (by decide)) (by rfl) D1.g D1.F.kp D1.b .nil pass0 (pa_cons ((pv 0)) (pa_cons ((pv 1)) pa_nil))))))
      (pss_one (ps_if (PW.pt (pw_or (pt_not (pt_val (pe_callG Gl' hgd hr (by rfl) Dl.g Dl.F.kp Dl.b pass0 (pa_cons ((pv 2)) pa_nil)))) (pw_or1 (pt_not (pt_val (pe_callG Gl' hgd hr (by rfl) Dl.g Dl.F.kp Dl.b pass0 (pa_cons ((pv 2)) pa_nil))))))) (pss_one (ps_ret pe_bl)) pss_nil))))
      (pss_cons ((ps_set (i := 3) sc_law.nd rfl (Or.inl rfl) (pe_make (C := C) ⟨T.mkC, Di.at_, Di.fn, T.kC⟩ Gi (hr.mono (by decide)) (by rfl) T.gC Di.b .nil pass0 (pa_cons (pe_str) (pa_cons (pe_disp (pps_cons pe_str (pe_tup (pa_cons (pe_int) (pa_cons (pe_int) (pa_cons (pe_int) (pa_cons (pe_int) pa_nil))))) (pps_cons pe_str (pe_tup (pa_cons (pe_int) (pa_cons (pe_int) (pa_cons (pe_int) (pa_cons (pe_int) pa_nil))))) pps_nil)) (by rfl) (by rfl) (fun z => by cases z) (by decide)) (pa_cons (pe_tup (pa_cons (pe_int) (pa_cons (pe_int) pa_nil))) pa_nil))))))
      (pss_cons ((ps_set (i := 4) sc_law.nd rfl (Or.inl rfl) (pe_make (C := C) ⟨T.mkC, Di.at_, Di.fn, T.kC⟩ Gi (hr.mono (by decide)) (by rfl) T.gC Di.b .nil pass0 (pa_cons (pe_str) (pa_cons (pe_disp (pps_cons pe_str (pe_tup (pa_cons (pe_int) (pa_cons (pe_int) pa_nil))) (pps_cons pe_str (pe_tup (pa_cons (pe_int) (pa_cons (pe_int) pa_nil))) pps_nil)) (by rfl) (by rfl) (fun z => by cases z) (by decide)) (pa_cons (pe_tup (pa_cons (pe_int) pa_nil)) pa_nil))))))
      (pss_cons ((ps_setLc (i := 5) (own := [("_law_much", 6)]) (g := gName 6) (tt := tYes) rfl sc_law.nd rfl rfl (sw_true rfl rfl rfl (by decide +kernel)) (pi_tup (pe_tup (pa_cons (pe_int) (pa_cons (pe_int) pa_nil)))) (blkOk_by (N := ["_law_script", "_law_at", "_law_cup_here", "_law_pair", "_law_even", "_law_rings", "_law_much", "_law_wide", "_law_found"]) (sc := defScope (top 61)) (by decide +kernel)) (fun _ _ _ _ _ => pg_name (i := 6) sc_law.nd rfl (Or.inl rfl)) (fun _ _ _ _ _ => pts_nil) (fun _ _ _ _ _ => pe_make (C := C) ⟨T.mkC, Di.at_, Di.fn, T.kC⟩ Gi (hr.mono (by decide)) (by rfl) T.gC Di.b .nil pass0 (pa_cons (pe_str) (pa_cons (pe_disp (pps_cons pe_str (pe_tupQ T (pe_op op_cat (pe_listRg rfl (by rfl) T.b_list (prg_2 (by rfl) T.b_range pe_int (pv 6))) (pe_lst (pa_cons (pe_int) pa_nil)))) pps_nil) (by rfl) (by rfl) (fun z => by cases z) (by decide)) (pa_cons (pe_tup (pa_cons (pe_int) pa_nil)) pa_nil))))))
      (pss_cons ((ps_set (i := 7) sc_law.nd rfl (Or.inl rfl) (pe_make (C := C) ⟨T.mkC, Di.at_, Di.fn, T.kC⟩ Gi (hr.mono (by decide)) (by rfl) T.gC Di.b .nil pass0 (pa_cons (pe_str) (pa_cons (pe_disp (pps_cons pe_str (pe_tupRg rfl (by rfl) T.b_tuple (prg_1 (by rfl) T.b_range pe_int)) (pps_cons pe_str (pe_op op_repT (pe_tup (pa_cons (pe_int) pa_nil)) pe_int) pps_nil)) (by rfl) (by rfl) (fun z => by cases z) (by decide)) (pa_cons (pe_tup pa_nil) pa_nil))))))
      (pss_cons ((ps_set (i := 8) sc_law.nd rfl (Or.inl rfl) (pe_lst (pa_cons (pe_cmpR (op_eqOwn (C := C) Ge De.at_ De.fn De.b (hr.mono (by decide)) pass0) (pe_call G2 (hr.mono (by decide)) (by rfl) D2.g D2.F.kp D2.b .nil pass0 (pa_cons ((pv 3)) pa_nil)) (pv 3) (nomark _)) (pa_cons ((pe_call G3 (hr.mono (by decide)) (by rfl) D3.g D3.F.kp D3.b .nil pass0 (pa_cons ((pv 4)) (pa_cons ((pv 3)) pa_nil)))) (pa_cons ((pe_call G3 (hr.mono (by decide)) (by rfl) D3.g D3.F.kp D3.b .nil pass0 (pa_cons (pe_ix (ix_listQ K rfl) (pv 5) pe_int (fun _ _ => rfl)) (pa_cons (pe_ix (ix_listQ K rfl) (pv 5) pe_int (fun _ _ => rfl)) pa_nil)))) (pa_cons (pe_callB (call_lenOwn (C := C) Gn Dn.at_ Dn.fn Dn.b (hr.mono (by decide)) pass0) (by rfl) T.b_len PySem.boot_len (pa_cons ((pe_call G2 (hr.mono (by decide)) (by rfl) D2.g D2.F.kp D2.b .nil pass0 (pa_cons ((pv 7)) pa_nil))) pa_nil)) (pa_cons (pe_callB (call_lenOwn (C := C) Gn Dn.at_ Dn.fn Dn.b (hr.mono (by decide)) pass0) (by rfl) T.b_len PySem.boot_len (pa_cons ((pe_call G2 (hr.mono (by decide)) (by rfl) D2.g D2.F.kp D2.b .nil pass0 (pa_cons (pe_op (op_binOwn (op := .BitOr) (C := C) Go Do.at_ Do.fn T.sf Do.b (hr.mono (by decide)) pass0) (pv 4) (pe_un (un_invOwn (C := C) Gv Dv.at_ Dv.fn Dv.b (hr.mono (by decide)) pass0) (pv 4))) pa_nil))) pa_nil)) pa_nil))))))))
      (pss_one (ps_ret (pe_cmpR (op_eqD hr.u64) (pv 8) (pe_lst (pa_cons (pe_bl) (pa_cons (pe_str) (pa_cons (pe_op op_mul_str pe_str pe_int) (pa_cons (pe_int) (pa_cons (pe_int) pa_nil)))))) (nomark _)))))))))), ?_⟩
    have one : (1 : Nat) ≤ sizeLine := by rw [sizeLine_eq]; omega
    have two : (2 : Nat) ≤ sizeLine := by rw [sizeLine_eq]; omega
    have four : (4 : Nat) ≤ sizeLine := by rw [sizeLine_eq]; omega
    have hm : ∀ z : Int, 0 ≤ z → ∃ m : Nat, (if (if z < 2 then z else 2) > 1 then (if z < 2 then z else 2) else 1) = (m : Int) ∧ m ≤ 2 := fun z hz => by
      by_cases h2 : z < 2
      · rw [if_pos h2]
        by_cases h1 : z > 1
        · exact absurd h1 (by omega)
        · rw [if_neg h1]
          exact ⟨1, rfl, by decide⟩
      · rw [if_neg h2, if_pos (by decide)]
        exact ⟨2, rfl, by decide⟩
    obtain ⟨m, em, hm2⟩ := hm ((ns.map V.int).length : Nat) (by omega)
    refine ⟨_, rfl, a, _, rfl, .inl hS, _, _, rfl, _, _, rfl, _, rfl, ?_⟩
    rw [em]
    refine ⟨by omega, by omega, ?_⟩
    refine for_it (walk_rg (n := ((m : Nat) : Int).toNat)) (fun i σ H' => ∃ u v : Option V, σ = [some (.ref a), u, v, none, none, none, none, none, none] ∧ Same H H')
      ⟨none, none, rfl, fun _ _ e => e⟩ (fun _ _ _ _ _ => True.intro) (fun i x σ H1 H2 hi hP hy => ?_) fun σ H1 hP => ?_
    · obtain ⟨u, v, rfl, s1⟩ := hP
      obtain ⟨rfl, rfl⟩ := hy
      refine seq_ ⟨_, rfl, _, rfl, a, ns, i, rfl, sqL_same s1 hS, fun c H3 s3 hc3 c3 => ?_⟩
      refine ⟨_, rfl, c, rfl, c3, fun H4 s4 c4 => ⟨true, rfl, iteF ⟨_, rfl, c, rfl, c4, fun H5 s5 c5 => ⟨true, rfl, iteF ⟨_, _, rfl, fun b o e => ?_⟩⟩⟩⟩⟩
      have e1 := s1 _ _ e
      have hbc : b ≠ c := ne_of_none e1 hc3
      exact s5 _ _ hbc (s4 _ _ hbc (s3 _ _ e1))
    · obtain ⟨u, v, rfl, s1⟩ := hP
      refine seq_ ?_
      -- the pair
      refine fun d hd => ⟨four, fun a1 ha1 => ⟨four, fun b1 hb1 => ?_⟩⟩
      obtain ⟨q1, q2, q3⟩ := mk2 (r := [1, 0, 3, 2]) (s := [0, 2, 1, 3]) hd ((Same.upd ha1).trans (Same.upd hb1)) ((Same.upd hb1) _ _ upd_same) upd_same
      refine ⟨q1, [(Sum.inr "a", .ref a1), (Sum.inr "b", .ref b1)], rfl, by show 2 ≤ 15; decide, two, fun y hy => ?_⟩
      have tq := q2.trans (Same.upd (o := .tup [.int 0, .int 1]) hy)
      have hm1 := q3.same (Same.upd (o := .tup [.int 0, .int 1]) hy)
      rw [s_ab]
      intro pr dx hpr hdx hne
      refine mkR_at2 (M := pairM) good_pair hm1 upd_same hpr hdx hne fun H2 s2 hPr => ⟨rfl, seq_ ?_⟩
      clear hm1 q1 q2 q3
      -- even
      refine fun d hd => ⟨two, fun a1 ha1 => ⟨two, fun b1 hb1 => ?_⟩⟩
      obtain ⟨q1, q2, q3⟩ := mk2 (r := [1, 0]) (s := [0, 1]) hd ((Same.upd ha1).trans (Same.upd hb1)) ((Same.upd hb1) _ _ upd_same) upd_same
      refine ⟨q1, [(Sum.inr "a", .ref a1), (Sum.inr "b", .ref b1)], rfl, by show 2 ≤ 15; decide, one, fun y hy => ?_⟩
      have tq2 := q2.trans (Same.upd (o := .tup [.int 0]) hy)
      have hm1 := q3.same (Same.upd (o := .tup [.int 0]) hy)
      intro ev dx hev hdx hne
      refine mkR_at2 (M := evenM) good_even hm1 upd_same hev hdx hne fun H3 s3 hEv => ⟨rfl, seq_ ?_⟩
      have hPr3 := hPr.same (tq2.trans s3)
      clear hm1 q1 q2 q3
      -- the rings
      refine ⟨two, fun t89 ht89 => ⟨t89, rfl, ⟨_, sqt upd_same⟩, fun D hD => ?_⟩⟩
      have t4 : Same H3 (upd H3 t89 (.tup [.int 8, .int 9])) := Same.upd ht89
      have ht4 : (upd H3 t89 (.tup [.int 8, .int 9])) t89 = some (.tup [.int 8, .int 9]) := upd_same
      have hPr4 := hPr3.same t4
      have hEv4 := hEv.same t4
      generalize upd H3 t89 (.tup [.int 8, .int 9]) = H4 at hD t4 ht4 hPr4 hEv4
      refine lc_objs (walk_tup (xs := [.int 8, .int 9])) hD (fun i H a => RdrAt C H a [97] (ringM (8 + i))) (fun i a H H' e h => RdrAt.noL e h) (by decide) (fun _ e => sqt_same e ht4) (fun i x H5 H6 Nx hi sm hDi hy kk => ?_) fun H5 asr s5 hasl hD5 hasr => ?_
      · obtain ⟨rfl, ex⟩ := hy
        have hi2 : i < 2 := hi
        have hx : x = .int ((8 + i : Nat) : Int) := by
          match i, hi2, ex with
          | 0, _, ex => cases ex; rfl
          | 1, _, ex => cases ex; rfl
        subst hx
        refine ⟨rfl, fun d hd => ⟨_, rfl, 1, ((8 + i : Nat) : Int), rfl, rfl, RgOk.of_le (by omega) (by omega) (by omega) (by omega), fun q hq => ⟨one, fun l hl => ?_⟩⟩⟩
        have sq := (Same.upd (o := .lst (rgV 1 ((8 + i : Nat) : Int))) hq).trans (Same.upd (o := .lst [.int 0]) hl)
        refine ⟨q, l, _, _, rfl, rfl, (Same.upd hl) _ _ upd_same, upd_same, by rw [rgV_length, sizeLine_eq]; show _ + 1 ≤ _; omega, fun L3 hL3 => .inl ⟨L3, _, rfl, sql upd_same, fun t ht => ?_⟩⟩
        rw [ring_row hi2] at ht ⊢
        obtain ⟨q1, q2, q3⟩ := mk1 (r := (List.range (8 + i - 1)).map (· + 1) ++ [0]) hd ((sq.trans (Same.upd hL3)).trans (Same.upd ht)) upd_same
        refine ⟨q1, [(Sum.inr "a", .ref t)], rfl, by show 1 ≤ 15; decide, one, fun y hy => ?_⟩
        have tq3 := q2.trans (Same.upd (o := .tup [.int 0]) hy)
        have hm1 := q3.same (Same.upd (o := .tup [.int 0]) hy)
        rw [s_a]
        intro rg dx hrg hdx hne
        refine mkR_at2 (M := ringM (8 + i)) (good_ring hi2) hm1 upd_same hrg hdx hne fun H7 s7 hRg => ⟨rfl, ?_⟩
        exact kk rg H7 hRg (tq3.trans s7)
      · have hPr5 := hPr4.same s5
        have hEv5 := hEv4.same s5
        obtain ⟨r0, r1, rfl⟩ : ∃ r0 r1, asr = [r0, r1] := by
          match asr, hasl with
          | [r0, r1], _ => exact ⟨r0, r1, rfl⟩
        have hr0 : RdrAt C H5 r0 [97] (ringM 8) := hasr 0 (show 0 < 2 by decide)
        have hr1 : RdrAt C H5 r1 [97] (ringM 9) := hasr 1 (show 1 < 2 by decide)
        refine seq_ ?_
        -- sixty states
        refine fun d hd => ⟨60, rfl, RgOk.of_le (by omega) (by omega) (by omega) (by omega), fun a1 ha1 => ⟨one, fun t59 ht59 => ⟨t59, 60, _, rfl, rfl, sqt upd_same, List.cons_ne_nil _ _, by omega, by omega, by decide, fun b1 hb1 => ?_⟩⟩⟩
        have e60 : rgV 0 60 = iv (List.range 60) := by decide +kernel
        have e59 : (List.replicate (60 : Int).toNat [V.int 59]).flatten = iv (List.replicate 60 59) := by decide +kernel
        have hA := (Same.upd (o := .tup (List.replicate (60 : Int).toNat [V.int 59]).flatten) hb1) _ _ ((Same.upd (o := .tup [.int 59]) ht59) _ _ (show (upd (upd H5 d (.dK [])) a1 (.tup (rgV 0 60))) a1 = some (.tup (rgV 0 60)) from upd_same))
        have hB : (upd (upd (upd (upd H5 d (.dK [])) a1 (.tup (rgV 0 60))) t59 (.tup [.int 59])) b1 (.tup (List.replicate (60 : Int).toNat [V.int 59]).flatten)) b1 = some (.tup (List.replicate (60 : Int).toNat [V.int 59]).flatten) := upd_same
        obtain ⟨q1, q2, q3⟩ := mk2 (r := List.range 60) (s := List.replicate 60 59) hd (((Same.upd ha1).trans (Same.upd ht59)).trans (Same.upd hb1)) (hA.trans (congrArg (fun x => some (HO.tup x)) e60)) (hB.trans (congrArg (fun x => some (HO.tup x)) e59))
        refine ⟨q1, [(Sum.inr "a", .ref a1), (Sum.inr "b", .ref b1)], rfl, by show 2 ≤ 15; decide, Nat.zero_le _, fun y hy => ?_⟩
        have tq4 := q2.trans (Same.upd (o := .tup []) hy)
        have hm1 := q3.same (Same.upd (o := .tup []) hy)
        intro wd dx hwd hdx hne
        refine mkR_at2 (M := wideM) good_wide hm1 upd_same hwd hdx hne fun H6 s6 hWd => ⟨rfl, seq_ ?_⟩
        have s56 := tq4.trans s6
        have hPr6 := hPr5.same s56
        have hEv6 := hEv5.same s56
        have hr06 := hr0.same s56
        have hr16 := hr1.same s56
        have hD6 := s56 _ _ hD5
        clear hm1 q1 q2 q3
        -- what is found
        refine ⟨_, rfl, pr, _, pairM, rfl, hPr6, fun u H7 s7 hU => ?_⟩
        have hPr7 := hPr6.same s7
        obtain ⟨dxp, _, _, hp7, _, _, _⟩ := hPr7.row
        obtain ⟨dxu, _, _, hu7, _, _, _⟩ := hU.row
        refine ⟨_, rfl, u, dxu, _, rfl, hu7, ⟨pr, dxp, _, rfl, hp7⟩, u, pr, _, _, _, rfl, hU, hPr7, ?_⟩
        rw [decide_eq_true canon_pair]
        refine ⟨_, rfl, _, rfl, ev, pr, _, evenM, pairM, rfl, hEv6.same s7, hPr7, fun H8 s8 => ?_⟩
        rw [part_even]
        have s68 := s7.trans s8
        refine ⟨_, rfl, D, _, 0, _, rfl, rfl, sql (s68 _ _ hD6), at_of (j := 0) rfl rfl, _, rfl, D, _, 1, _, rfl, rfl, sql (s68 _ _ hD6), at_of (j := 1) rfl rfl, r0, r1, [97], ringM 8, ringM 9, rfl, hr06.same s68, hr16.same s68, fun H9 s9 => ?_⟩
        rw [part_rings]
        have s69 := s68.trans s9
        refine ⟨_, rfl, wd, _, wideM, rfl, hWd.same s69, fun wl HA sA hWl => ?_⟩
        obtain ⟨dxw, _, _, hw, _, _, _⟩ := hWl.row
        refine ⟨wl, dxw, _, rfl, hw, wl, _, _, rfl, hWl, _, rfl, by omega, by rw [wide_one]; decide, ?_⟩
        rw [wide_one]
        have s6A := s69.trans sA
        have hEvA := hEv6.same s6A
        obtain ⟨dxe, _, _, he, _, _, _⟩ := hEvA.row
        refine ⟨_, rfl, _, rfl, ev, dxe, _, rfl, he, ev, _, evenM, rfl, hEvA, fun iq HB sB hIq => ?_⟩
        have hEvB := hEvA.same sB
        obtain ⟨dxe', _, _, he', _, _, _⟩ := hEvB.row
        obtain ⟨dxi, _, _, hi', _, _, _⟩ := hIq.row
        refine ⟨ev, dxe', _, rfl, he', ⟨iq, dxi, _, rfl, hi'⟩, ev, iq, _, evenM, inv evenM, rfl, hEvB, hIq, by decide +kernel, fun bo HC sC hBo => ?_⟩
        refine ⟨bo, _, _, rfl, hBo, fun bl HD sD hBl => ?_⟩
        obtain ⟨dxl, _, _, hl', _, _, _⟩ := hBl.row
        refine ⟨bl, dxl, _, rfl, hl', bl, _, _, rfl, hBl, _, rfl, by omega, by rw [even_one]; decide, ?_⟩
        rw [even_one]
        refine ⟨by rw [sizeLine_eq]; show 5 ≤ _; omega, fun F hF => seq_ ?_⟩
        refine ⟨_, rfl, 97, 8, congrArg V.str (by rw [l_a]; rfl), rfl, by decide, by decide, by rw [sizeLine_eq]; show 5 ≤ _; omega, fun G hG => ?_⟩
        have hF2 := (Same.upd (o := .lst [.bl true, .str "a", .str ⟨(List.replicate 8 97).toArray⟩, .int 1, .int 1]) hG) _ _ (show (upd HD F _) F = _ from upd_same)
        refine ⟨.list dueD, .list dueD, .lst (sql hF2) ?_, .lst (sql upd_same) (.cons (.bl _) (.cons (.str _) (.cons (.str _) (.cons (.int _) (.cons (.int _) .nil))))), shaped_of lay_due depth_due, shaped_of lay_due depth_due, ?_⟩
        · refine .cons (.bl _) (.cons ?_ (.cons ?_ (.cons (.int _) (.cons (.int _) .nil))))
          · show Dp K _ (V.str (wtx [97, 98] [0])) _
            rw [w_a]
            exact .str _
          · show Dp K _ (V.str (wtx [97] [0, 0, 0, 0, 0, 0, 0, 0])) _
            rw [w_a8]
            exact .str _
        · have e : PyData.eqv (.list dueD) (.list dueD) = true := by
            rw [PyData.eqv]
            exact SeqAt.eqvAll_refl _ lay_due
          rw [e]
          exact k _
end
end WP

/-! ## E1 -/
set_option Elab.async false
set_option linter.all false
set_option maxRecDepth 100000
/-! What the top has left, fact by fact. -/
namespace WP
open PySem PySem.Spec PyProof.Rows L2
structure ClsF (K : PySem.W.Frag) (C : Addr) : Prop where
  cl : Cls K C
  mkC : PySem.W.makesIn K C = true
  kc : PySem.W.keepIn K (.ref C) = true
  sf : PySem.W.selfFirst K C = true
  n1 : NoAttr K C "own_letters"
  n2 : NoAttr K C "own_moves"
  n3 : NoAttr K C "own_yes"
  isR : C8.InsC K C
theorem use {p q : Prop} (h : p) (k : p → q) : q := k h
section
variable {K : PySem.W.Frag} {h : Heap} {mg : Str → Option Value}
theorem At.of {x : Str} {st : Stmt} {ps : List Str} {f : Addr} {oc : Value} {od an : Option Addr} {sl : Array (Option Value)} {kV dc pm cd ct : Value} (X : K.In h) (G : h.Ns mainGlobals mg)
    (a : PySem.W.nsIn K mainGlobals x = some (some (.ref f))) (l : K.lookup f = some ⟨oc, od, .func (PySem.W.fnOf x x (defArgs st) (defBody st) (defScope st) .none kV dc pm an cd ct), sl⟩) (c : PySem.W.codeIn K cd x = true) (k : PySem.W.keepIn K (.ref f) = true)
    (b : ∀ {fd : FuncData}, Fun K x x st f fd → Binds K fd ps []) : ∃ f fd, At K mg x st ps f fd :=
  ⟨f, _, fun_mk (st := st) l c k, PySem.W.mg_of X G a, b (fun_mk (st := st) l c k)⟩
theorem AtM.of {C : Addr} {x q : Str} {st : Stmt} {ps : List Str} {f : Addr} {oc : Value} {od an : Option Addr} {sl : Array (Option Value)} {kV dc pm cd ct : Value}
    (_ : K.In h) (_ : ClsF K C) (a : PySem.W.findIn K (.ref C) x = some (some (.ref f))) (i : PySem.W.isFn K (.ref f) = true) (l : K.lookup f = some ⟨oc, od, .func (PySem.W.fnOf x q (defArgs st) (defBody st) (defScope st) .none kV dc pm an cd ct), sl⟩) (c : PySem.W.codeIn K cd q = true) (k : PySem.W.keepIn K (.ref f) = true)
    (b : ∀ {fd : FuncData}, Fun K x q st f fd → Binds K fd ps []) : ∃ f fd, AtM K C x q st ps f fd :=
  ⟨f, _, fun_mk (st := st) l c k, a, i, b (fun_mk (st := st) l c k)⟩
theorem AtP.of {C : Addr} {x q : Str} {st : Stmt} {p f : Addr} {r : List Value} {oc : Value} {od an : Option Addr} {sl : Array (Option Value)} {kV dc pm cd ct : Value}
    (_ : K.In h) (_ : ClsF K C) (a : PySem.W.findIn K (.ref C) x = some (some (.ref p))) (g : PySem.W.specialIn K (.ref p) "__get__" = some (some (.builtin "property.__get__"))) (t : PySem.W.takesIn K (.ref p) = some true) (e : PySem.W.recIn K p "property" = some (.ref f :: r))
    (l : K.lookup f = some ⟨oc, od, .func (PySem.W.fnOf x q (defArgs st) (defBody st) (defScope st) .none kV dc pm an cd ct), sl⟩) (c : PySem.W.codeIn K cd q = true) (k : PySem.W.keepIn K (.ref f) = true)
    (b : ∀ {fd : FuncData}, Fun K x q st f fd → Binds K fd ["self"] []) : ∃ p f fd, AtP K C x q st p f fd :=
  ⟨p, f, _, fun_mk (st := st) l c k, ⟨a, g, t, r, e⟩, b (fun_mk (st := st) l c k)⟩
theorem num_of {x : Str} {n : Int} {t : Tok} (X : K.In h) (G : h.Ns mainGlobals mg) (a : PySem.W.nsIn K mainGlobals x = some (some (.int n t))) : ∃ t, mg x = some (.int n t) := ⟨t, PySem.W.mg_of X G a⟩
theorem clsAt {q : Prop} {C : Addr} (X : K.In h) (G : h.Ns mainGlobals mg) (a : PySem.W.nsIn K mainGlobals "Reader" = some (some (.ref C))) (k : mg "Reader" = some (.ref C) → q) : q := k (PySem.W.mg_of X G a)
theorem clsFacts {q : Prop} {C : Addr} (_ : K.In h) (_ : mg "Reader" = some (.ref C)) (pg : PySem.W.plainGet K C Str.empty = true) (hd : PySem.W.hasDictIn K C = true) (po : PySem.W.plainOver K C = true) (sa : PySem.W.findIn K (.ref C) "__setattr__" = some (some (.builtin "object.__setattr__")))
    (mk : PySem.W.makesIn K C = true) (kc : PySem.W.keepIn K (.ref C) = true) (sf : PySem.W.selfFirst K C = true)
    (n1 : PySem.W.findIn K (.ref C) "own_letters" = some none) (n2 : PySem.W.findIn K (.ref C) "own_moves" = some none) (n3 : PySem.W.findIn K (.ref C) "own_yes" = some none)
    (i1 : PySem.W.findIn K (.ref C) "__class__" = some (some (.builtin "object.__class__"))) (i2 : PySem.W.specialIn K (.builtin "object.__class__") "__get__" = some (some (.builtin "getset_descriptor.__get__"))) (i3 : PySem.W.takesIn K (.builtin "object.__class__") = some true) (i4 : PySem.W.mroIn K C (.type "object") = some true)
    (k : ClsF K C → q) : q :=
  k ⟨⟨pg, hd, po, sa⟩, mk, kc, sf, n1, n2, n3, ⟨⟨pg, hd, po, sa⟩, i1, i2, i3, i4, if_pos (beq_self_eq_true _)⟩⟩
end
end WP

/-! ## E2 -/
set_option Elab.async false
set_option linter.all false
set_option maxRecDepth 100000
set_option maxHeartbeats 4000000
/-! The end of a law whose promise holds where nothing guards. -/
namespace WR
open PySem PySem.W PySem.Calls PySem.Spec PyProof.Rows L2
theorem calmG : callerA.guards = some [] := rfl
/-- only the script may be tracked; the law, called, says True -/
theorem oneG {P : Program} {w : World} {K : PySem.W.Frag} {mg mb : Str → Option Value} {k : Nat} {fa a : Addr} {fd : FuncData} {x : Str} {sp : Sp} {s : Shared} {vs : List Value}
    (KX : K.In s.heap) (hns : s.heap.Ns mainGlobals mg) (hb : s.heap.Ns builtinsNs mb) (hbb : ∀ x : Str, x ≠ "__name__" → mb x = bootBuiltins x) (hlim : s.heap.NoLimit) (hg : s.gens = #[])
    (ha : s.heap.get? a = some { cls := .type "list", data := .seq vs.toArray }) (hr : Room k callerA)
    (F : ∀ base : Heap, K.In base → base.Ns mainGlobals mg → FnG P w K mg base CX0 k fa fd [x] sp) (hbind : ∀ (s : Shared) (u : Value), BindsTo s fd ⟨[u], []⟩ [(x, u)])
    {H : Hp} (hO : Only H) (hS : sp [.ref a] H (fun v _ => v = .bl true) fun _ _ _ => False) (hok : HOk P w H s.heap) (hA : ∀ b, H b ≠ none → b = a) (hK : H a ≠ none → K.lookup a = none) :
    codeAny (model P w) callerA (.call (.ref fa) ⟨[.ref a], []⟩) (fun r s' => r = .ok (.ret (.bool true)) ∧ OldK s.heap s'.heap ∧ s'.os = s.os ∧ AllBare s'.gens) s := by
  have nots : ∀ {b : Addr} {o : Obj} {es : Array DictEntry} {ep : Nat}, s.heap.get? b = some o → o.data = .dict es ep → H b = none := fun {b o es ep} e d => by
    refine Classical.byContradiction fun n => ?_
    obtain rfl := hA b n
    rw [ha] at e
    obtain rfl := Option.some.inj e
    exact nomatch (show Data.seq vs.toArray _ = Data.dict es ep from d)
  have ns_ : ∀ {b : Addr} {m : Str → Option Value}, s.heap.Ns b m → (hidT s.heap H).Ns b m := fun ⟨o, es, ep, e, d, r⟩ => ⟨o, es, ep, hidT_get e (nots e d), d, r⟩
  have kin : K.In (hidT s.heap H) := fun b o e => hidT_get (KX b o e) (Classical.byContradiction fun n => by
    obtain rfl := hA b n
    rw [hK n] at e
    exact nomatch e)
  have e0 : Env0 P w K mg (hidT s.heap H) callerA [] s H :=
    ⟨rfl, ⟨kin, ns_ hns, ⟨mb, ns_ hb, hbb⟩, hlim.elim fun mc h => ⟨mc, ns_ h.1, h.2⟩⟩, fun b o e => of_hidT e, Nat.le_of_eq (hidT_size _ _), trivial, fun b z => absurd (show b ∈ ([] : List Addr) from z) List.not_mem_nil, hok, .of_eq hg⟩
  refine codeAny_mono ((F _ kin (ns_ hns)).run callerA [] s H ⟨[.ref a], []⟩ [.ref a] [.ref a] _ _ calmG hr e0 (hbind s (.ref a)) (.cons rfl .nil) hS) fun r s' h => ?_
  rcases r with e | fl
  · exact False.elim h
  · cases fl with
    | ret u =>
      obtain ⟨v, H', os, bare, un, hok', rv, q⟩ := h
      obtain rfl : v = V.bl true := q
      obtain rfl : u = Value.bool true := rv
      refine ⟨rfl, OldK.of_keep fun b o e => ?_, os, bare⟩
      rcases hO b with z | ⟨ob, xs, z⟩
      · exact un.keep b o e z (fun y => absurd (show b ∈ ([] : List Addr) from y) List.not_mem_nil) (by simp)
      · obtain ⟨e1, _⟩ := hok b _ z
        obtain ⟨e2, _⟩ := hok' b _ (un.frzs b ob _ z)
        rw [e] at e1
        obtain rfl := Option.some.inj e1
        exact e2
    | next => exact False.elim h
    | brk => exact False.elim h
    | cont => exact False.elim h
theorem walk_ofG {l : PySem.W.OpenLaw} {n k : Nat} {q : Program} {loose : List Str} {XP : (Str → Option Value) → Heap → Prop} {YP : World → Heap → Prop} {d : DefRec} {K : Params → PySem.W.Frag} {sp : PySem.W.Frag → Sp} {x : Str}
    (hn : l.most = some n) (hn2 : n ≤ sizeLine) (hdf : d.params.defaults = []) (hr : Room k callerA)
    (hY : ∀ (w : World) (h : Heap), YP w h → (K w.params).In h)
    (F : ∀ (w : World) (mg : Str → Option Value) (fa : Addr) (h : Heap), (K w.params).In h → h.Ns mainGlobals mg → mg d.name = some (.ref fa) →
      ∃ fd : FuncData, (∀ (s : Shared) (u : Value), BindsTo s fd ⟨[u], []⟩ [(x, u)]) ∧ ∀ base : Heap, (K w.params).In base → base.Ns mainGlobals mg → FnG l.prog w (K w.params) mg base CX0 k fa fd [x] (sp (K w.params)))
    (hsp : ∀ (K : PySem.W.Frag) (H : Hp) (a : Addr) (ns : List Int), ns.length ≤ n → SqL K H a (ns.map V.int) → sp K [.ref a] H (fun v _ => v = .bl true) fun _ _ _ => False) :
    PySem.W.WalkO q loose XP YP l.row.toRowW d [] (fun f vs => PySem.call f vs) := by
  refine Att.attach_call hn hdf fun w s₀ s₁ mg mb fa o pm cd doc a vs ns G Y ho hd hcd hmg hobj hints hlen hg => ?_
  have KX := hY w _ Y
  obtain ⟨fd, hb, hF⟩ := F w mg fa _ KX G.T.g hmg
  have rv := vals_ints hints
  have hl : ns.length ≤ sizeLine := Nat.le_trans hlen hn2
  cases hk : (K w.params).lookup a with
  | some o' =>
    have e := KX a o' hk
    rw [hobj] at e
    obtain rfl := Option.some.inj e
    refine oneG KX G.T.g G.T.b G.T.builtins G.T.nolimit hg hobj hr hF hb (H := fun _ => none) (fun _ => .inl rfl) (hsp _ _ a ns hlen (.inr ⟨_, vs.toArray, _, hk, rfl, rfl, rfl, by rw [List.size_toArray, hints.length]; exact hl, by simpa using rv⟩)) (fun b u z => nomatch (show (none : Option HO) = some u from z)) (fun b z => absurd rfl z) fun z => absurd rfl z
  | none =>
    have at_ : ∀ b u, (if b = a then some (HO.frz { cls := .type "list", data := .seq vs.toArray } (.lst (ns.map V.int))) else none) = some u → b = a ∧ u = HO.frz { cls := .type "list", data := .seq vs.toArray } (.lst (ns.map V.int)) := fun b u z => by
      by_cases hb : b = a
      · rw [if_pos hb] at z
        exact ⟨hb, (Option.some.inj z).symm⟩
      · rw [if_neg hb] at z
        exact nomatch z
    refine oneG KX G.T.g G.T.b G.T.builtins G.T.nolimit hg hobj hr hF hb (H := fun b => if b = a then some (.frz { cls := .type "list", data := .seq vs.toArray } (.lst (ns.map V.int))) else none) (fun b => ?_) (hsp _ _ a ns hlen (.inl (.inr ⟨{ cls := .type "list", data := .seq vs.toArray }, if_pos rfl⟩))) (fun b u z => ?_) (fun b z => ?_) fun _ => hk
    · by_cases hb : b = a
      · exact .inr ⟨_, _, if_pos hb⟩
      · exact .inl (if_neg hb)
    · obtain ⟨rfl, rfl⟩ := at_ b u z
      exact ⟨hobj, by rw [List.length_map]; exact hl, vs, _, rv, hobj⟩
    · by_cases hb : b = a
      · exact hb
      · exact absurd (if_neg hb) z
end WR

/-! ## E3 -/
set_option Elab.async false
set_option linter.all false
set_option maxRecDepth 100000
set_option maxHeartbeats 4000000
/-! The law's promise from what the top has left. -/
namespace WP
open PySem PySem.Spec PyProof.Rows L2 WR WC
theorem fin {P : Program} {w : World} {K : PySem.W.Frag} {h : Heap} {mg : Str → Option Value} {fa f : Addr} {oc : Value} {od an : Option Addr} {sl : Array (Option Value)} {kV dc pm cd ct : Value} (X : K.In h) (G : h.Ns mainGlobals mg) (hfa : mg "law" = some (.ref fa)) (T : ∃ C, TX K mg C)
    (a : PySem.W.nsIn K mainGlobals "law" = some (some (.ref f))) (l : K.lookup f = some ⟨oc, od, .func (PySem.W.fnOf "law" "law" (defArgs (top 61)) (defBody (top 61)) (defScope (top 61)) .none kV dc pm an cd ct), sl⟩) (c : PySem.W.codeIn K cd "law" = true) (k : PySem.W.keepIn K (.ref f) = true) :
    ∃ fd : FuncData, (∀ (s : Shared) (u : Value), BindsTo s fd ⟨[u], []⟩ [("_law_script", u)]) ∧ ∀ base : Heap, K.In base → base.Ns mainGlobals mg → FnG P w K mg base CX0 12 fa fd ["_law_script"] (sp_law K) := by
  have e := hfa.symm.trans (PySem.W.mg_of X G a)
  cases e
  obtain ⟨C, T⟩ := T
  exact ⟨_, fun s v => .of_eq rfl, fun base _ _ => okG_law T (fun_mk (st := top 61) l c k)⟩
theorem walk {l : PySem.W.OpenLaw} {q : Program} {loose : List Str} {XP : (Str → Option Value) → Heap → Prop} {YP : World → Heap → Prop} {d : DefRec} {K : Params → PySem.W.Frag} (hn : l.most = some 63) (hdf : d.params.defaults = [])
    (hY : ∀ (w : World) (h : Heap), YP w h → (K w.params).In h)
    (F : ∀ (w : World) (mg : Str → Option Value) (fa : Addr) (h : Heap), (K w.params).In h → h.Ns mainGlobals mg → mg d.name = some (.ref fa) →
      ∃ fd : FuncData, (∀ (s : Shared) (u : Value), BindsTo s fd ⟨[u], []⟩ [("_law_script", u)]) ∧ ∀ base : Heap, (K w.params).In base → base.Ns mainGlobals mg → FnG l.prog w (K w.params) mg base CX0 12 fa fd ["_law_script"] (sp_law (K w.params))) :
    PySem.W.WalkO q loose XP YP l.row.toRowW d [] (fun f vs => PySem.call f vs) :=
  walk_ofG (n := 63) (k := 12) (x := "_law_script") (sp := sp_law) hn (by decide) hdf ⟨rfl, by decide, by decide⟩ hY F fun _ _ a ns hl hS => ⟨a, ns, rfl, hS, hl, fun _ => rfl⟩
end WP

/-! ## H3 -/
set_option Elab.async false
set_option linter.all false
set_option maxRecDepth 100000
open PySem PySem.W PyProof.Rows in
set_option maxRecDepth 100000 in
set_option maxHeartbeats 0 in
theorem PySem.Challenge.cw_whatcounts_k28_whole_least_readers_and_p_holds : PySem.Challenge.rw_whatcounts_k28_whole_least_readers_and_p.Holds := by
  w_on; o_law; k_head; (case hw => w_witness2)
  k_fill
  refine WP.walk (l := PySem.Challenge.rw_whatcounts_k28_whole_least_readers_and_p) rfl rfl (fun w h Y => PySem.W.kIn_of Y) ?F
  case F =>
    intro w mg fa h KX G hmg
    refine' WP.clsAt KX G ?aC_1 ?_
    (case aC_1 => k_is)
    intro gC
    refine' WP.clsFacts KX gC ?pg_2 ?hd_2 ?po_2 ?sa_2 ?mk_2 ?kc_2 ?sf_2 ?n1_2 ?n2_2 ?n3_2 ?i1_2 ?i2_2 ?i3_2 ?i4_2 ?_
    (case pg_2 => k_is)
    (case hd_2 => k_is)
    (case po_2 => k_is)
    (case sa_2 => k_is)
    (case mk_2 => k_is)
    (case kc_2 => k_is)
    (case sf_2 => k_is)
    (case n1_2 => k_is)
    (case n2_2 => k_is)
    (case n3_2 => k_is)
    (case i1_2 => k_is)
    (case i2_2 => k_is)
    (case i3_2 => k_is)
    (case i4_2 => k_is)
    intro Z
    refine' WP.use (WP.At.of (x := "is_integer") (st := WP.top 12) (ps := ["value"]) KX G ?a_3 ?l_3 ?c_3 ?k_3 (fun F => F.binds (ps := ["value"]) fun _ _ _ _ _ _ us hl => match us, hl with | [_], _ => rfl)) ?_
    (case a_3 => k_is)
    (case l_3 => k_is)
    (case c_3 => k_is)
    (case k_3 => k_is)
    intro f_is_integer
    refine' WP.use (WP.At.of (x := "is_integer_within") (st := WP.top 13) (ps := ["value", "low", "high"]) KX G ?a_4 ?l_4 ?c_4 ?k_4 (fun F => F.binds (ps := ["value", "low", "high"]) fun _ _ _ _ _ _ us hl => match us, hl with | [_, _, _], _ => rfl)) ?_
    (case a_4 => k_is)
    (case l_4 => k_is)
    (case c_4 => k_is)
    (case k_4 => k_is)
    intro f_is_integer_within
    refine' WP.use (WP.At.of (x := "are_small") (st := WP.top 14) (ps := ["text"]) KX G ?a_5 ?l_5 ?c_5 ?k_5 (fun F => F.binds (ps := ["text"]) fun _ _ _ _ _ _ us hl => match us, hl with | [_], _ => rfl)) ?_
    (case a_5 => k_is)
    (case l_5 => k_is)
    (case c_5 => k_is)
    (case k_5 => k_is)
    intro f_are_small
    refine' WP.use (WP.At.of (x := "is_letters") (st := WP.top 15) (ps := ["value"]) KX G ?a_6 ?l_6 ?c_6 ?k_6 (fun F => F.binds (ps := ["value"]) fun _ _ _ _ _ _ us hl => match us, hl with | [_], _ => rfl)) ?_
    (case a_6 => k_is)
    (case l_6 => k_is)
    (case c_6 => k_is)
    (case k_6 => k_is)
    intro f_is_letters
    refine' WP.use (WP.At.of (x := "is_text_within") (st := WP.top 16) (ps := ["letters", "value"]) KX G ?a_7 ?l_7 ?c_7 ?k_7 (fun F => F.binds (ps := ["letters", "value"]) fun _ _ _ _ _ _ us hl => match us, hl with | [_, _], _ => rfl)) ?_
    (case a_7 => k_is)
    (case l_7 => k_is)
    (case c_7 => k_is)
    (case k_7 => k_is)
    intro f_is_text_within
    refine' WP.use (WP.At.of (x := "require_letters") (st := WP.top 17) (ps := ["value"]) KX G ?a_8 ?l_8 ?c_8 ?k_8 (fun F => F.binds (ps := ["value"]) fun _ _ _ _ _ _ us hl => match us, hl with | [_], _ => rfl)) ?_
    (case a_8 => k_is)
    (case l_8 => k_is)
    (case c_8 => k_is)
    (case k_8 => k_is)
    intro f_require_letters
    refine' WP.use (WP.At.of (x := "are_states") (st := WP.top 20) (ps := ["many", "value"]) KX G ?a_9 ?l_9 ?c_9 ?k_9 (fun F => F.binds (ps := ["many", "value"]) fun _ _ _ _ _ _ us hl => match us, hl with | [_, _], _ => rfl)) ?_
    (case a_9 => k_is)
    (case l_9 => k_is)
    (case c_9 => k_is)
    (case k_9 => k_is)
    intro f_are_states
    refine' WP.use (WP.At.of (x := "are_moves") (st := WP.top 21) (ps := ["letters", "value"]) KX G ?a_10 ?l_10 ?c_10 ?k_10 (fun F => F.binds (ps := ["letters", "value"]) fun _ _ _ _ _ _ us hl => match us, hl with | [_, _], _ => rfl)) ?_
    (case a_10 => k_is)
    (case l_10 => k_is)
    (case c_10 => k_is)
    (case k_10 => k_is)
    intro f_are_moves
    refine' WP.use (WP.At.of (x := "is_state_set") (st := WP.top 22) (ps := ["many", "value"]) KX G ?a_11 ?l_11 ?c_11 ?k_11 (fun F => F.binds (ps := ["many", "value"]) fun _ _ _ _ _ _ us hl => match us, hl with | [_, _], _ => rfl)) ?_
    (case a_11 => k_is)
    (case l_11 => k_is)
    (case c_11 => k_is)
    (case k_11 => k_is)
    intro f_is_state_set
    refine' WP.use (WP.At.of (x := "state_behind") (st := WP.top 24) (ps := ["reader", "state", "text"]) KX G ?a_12 ?l_12 ?c_12 ?k_12 (fun F => F.binds (ps := ["reader", "state", "text"]) fun _ _ _ _ _ _ us hl => match us, hl with | [_, _, _], _ => rfl)) ?_
    (case a_12 => k_is)
    (case l_12 => k_is)
    (case c_12 => k_is)
    (case k_12 => k_is)
    intro f_state_behind
    refine' WP.use (WP.At.of (x := "says") (st := WP.top 25) (ps := ["reader", "state"]) KX G ?a_13 ?l_13 ?c_13 ?k_13 (fun F => F.binds (ps := ["reader", "state"]) fun _ _ _ _ _ _ us hl => match us, hl with | [_, _], _ => rfl)) ?_
    (case a_13 => k_is)
    (case l_13 => k_is)
    (case c_13 => k_is)
    (case k_13 => k_is)
    intro f_says
    refine' WP.use (WP.At.of (x := "reader_from") (st := WP.top 27) (ps := ["reader", "start"]) KX G ?a_14 ?l_14 ?c_14 ?k_14 (fun F => F.binds (ps := ["reader", "start"]) fun _ _ _ _ _ _ us hl => match us, hl with | [_, _], _ => rfl)) ?_
    (case a_14 => k_is)
    (case l_14 => k_is)
    (case c_14 => k_is)
    (case k_14 => k_is)
    intro f_reader_from
    refine' WP.use (WP.At.of (x := "moved_pair") (st := WP.top 28) (ps := ["one", "other", "letter", "pair"]) KX G ?a_15 ?l_15 ?c_15 ?k_15 (fun F => F.binds (ps := ["one", "other", "letter", "pair"]) fun _ _ _ _ _ _ us hl => match us, hl with | [_, _, _, _], _ => rfl)) ?_
    (case a_15 => k_is)
    (case l_15 => k_is)
    (case c_15 => k_is)
    (case k_15 => k_is)
    intro f_moved_pair
    refine' WP.use (WP.At.of (x := "pairs_led") (st := WP.top 29) (ps := ["one", "other"]) KX G ?a_16 ?l_16 ?c_16 ?k_16 (fun F => F.binds (ps := ["one", "other"]) fun _ _ _ _ _ _ us hl => match us, hl with | [_, _], _ => rfl)) ?_
    (case a_16 => k_is)
    (case l_16 => k_is)
    (case c_16 => k_is)
    (case k_16 => k_is)
    intro f_pairs_led
    refine' WP.use (WP.At.of (x := "reader_of") (st := WP.top 30) (ps := ["one", "other", "pairs", "good"]) KX G ?a_17 ?l_17 ?c_17 ?k_17 (fun F => F.binds (ps := ["one", "other", "pairs", "good"]) fun _ _ _ _ _ _ us hl => match us, hl with | [_, _, _, _], _ => rfl)) ?_
    (case a_17 => k_is)
    (case l_17 => k_is)
    (case c_17 => k_is)
    (case k_17 => k_is)
    intro f_reader_of
    refine' WP.use (WP.At.of (x := "require_reader") (st := WP.top 31) (ps := ["value"]) KX G ?a_18 ?l_18 ?c_18 ?k_18 (fun F => F.binds (ps := ["value"]) fun _ _ _ _ _ _ us hl => match us, hl with | [_], _ => rfl)) ?_
    (case a_18 => k_is)
    (case l_18 => k_is)
    (case c_18 => k_is)
    (case k_18 => k_is)
    intro f_require_reader
    refine' WP.use (WP.At.of (x := "numbers_of") (st := WP.top 33) (ps := ["rows"]) KX G ?a_19 ?l_19 ?c_19 ?k_19 (fun F => F.binds (ps := ["rows"]) fun _ _ _ _ _ _ us hl => match us, hl with | [_], _ => rfl)) ?_
    (case a_19 => k_is)
    (case l_19 => k_is)
    (case c_19 => k_is)
    (case k_19 => k_is)
    intro f_numbers_of
    refine' WP.use (WP.At.of (x := "classes_of") (st := WP.top 34) (ps := ["reader"]) KX G ?a_20 ?l_20 ?c_20 ?k_20 (fun F => F.binds (ps := ["reader"]) fun _ _ _ _ _ _ us hl => match us, hl with | [_], _ => rfl)) ?_
    (case a_20 => k_is)
    (case l_20 => k_is)
    (case c_20 => k_is)
    (case k_20 => k_is)
    intro f_classes_of
    refine' WP.use (WP.At.of (x := "least_of") (st := WP.top 35) (ps := ["reader"]) KX G ?a_21 ?l_21 ?c_21 ?k_21 (fun F => F.binds (ps := ["reader"]) fun _ _ _ _ _ _ us hl => match us, hl with | [_], _ => rfl)) ?_
    (case a_21 => k_is)
    (case l_21 => k_is)
    (case c_21 => k_is)
    (case k_21 => k_is)
    intro f_least_of
    refine' WP.use (WP.At.of (x := "least_reader") (st := WP.top 36) (ps := ["reader"]) KX G ?a_22 ?l_22 ?c_22 ?k_22 (fun F => F.binds (ps := ["reader"]) fun _ _ _ _ _ _ us hl => match us, hl with | [_], _ => rfl)) ?_
    (case a_22 => k_is)
    (case l_22 => k_is)
    (case c_22 => k_is)
    (case k_22 => k_is)
    intro f_least_reader
    refine' WP.use (WP.At.of (x := "parting") (st := WP.top 37) (ps := ["one", "other"]) KX G ?a_23 ?l_23 ?c_23 ?k_23 (fun F => F.binds (ps := ["one", "other"]) fun _ _ _ _ _ _ us hl => match us, hl with | [_, _], _ => rfl)) ?_
    (case a_23 => k_is)
    (case l_23 => k_is)
    (case c_23 => k_is)
    (case k_23 => k_is)
    intro f_parting
    refine' WP.use (WP.At.of (x := "_law_first_lines") (st := WP.top 39) (ps := ["_law_plain"]) KX G ?a_24 ?l_24 ?c_24 ?k_24 (fun F => F.binds (ps := ["_law_plain"]) fun _ _ _ _ _ _ us hl => match us, hl with | [_], _ => rfl)) ?_
    (case a_24 => k_is)
    (case l_24 => k_is)
    (case c_24 => k_is)
    (case k_24 => k_is)
    intro f_law_first_lines
    refine' WP.use (WP.At.of (x := "_law_kin") (st := WP.top 40) (ps := ["_law_plain"]) KX G ?a_25 ?l_25 ?c_25 ?k_25 (fun F => F.binds (ps := ["_law_plain"]) fun _ _ _ _ _ _ us hl => match us, hl with | [_], _ => rfl)) ?_
    (case a_25 => k_is)
    (case l_25 => k_is)
    (case c_25 => k_is)
    (case k_25 => k_is)
    intro f_law_kin
    refine' WP.use (WP.At.of (x := "_law_lean") (st := WP.top 41) (ps := ["_law_plain"]) KX G ?a_26 ?l_26 ?c_26 ?k_26 (fun F => F.binds (ps := ["_law_plain"]) fun _ _ _ _ _ _ us hl => match us, hl with | [_], _ => rfl)) ?_
    (case a_26 => k_is)
    (case l_26 => k_is)
    (case c_26 => k_is)
    (case k_26 => k_is)
    intro f_law_lean
    refine' WP.use (WP.At.of (x := "_law_parted") (st := WP.top 42) (ps := ["_law_plain", "_law_other"]) KX G ?a_27 ?l_27 ?c_27 ?k_27 (fun F => F.binds (ps := ["_law_plain", "_law_other"]) fun _ _ _ _ _ _ us hl => match us, hl with | [_, _], _ => rfl)) ?_
    (case a_27 => k_is)
    (case l_27 => k_is)
    (case c_27 => k_is)
    (case k_27 => k_is)
    intro f_law_parted
    refine' WP.use (WP.At.of (x := "_law_cup") (st := WP.top 43) (ps := ["_law_script", "_law_at"]) KX G ?a_28 ?l_28 ?c_28 ?k_28 (fun F => F.binds (ps := ["_law_script", "_law_at"]) fun _ _ _ _ _ _ us hl => match us, hl with | [_, _], _ => rfl)) ?_
    (case a_28 => k_is)
    (case l_28 => k_is)
    (case c_28 => k_is)
    (case k_28 => k_is)
    intro f_law_cup
    refine' WP.use (WP.At.of (x := "_law_bit") (st := WP.top 44) (ps := ["_law_cup_here", "_law_much"]) KX G ?a_29 ?l_29 ?c_29 ?k_29 (fun F => F.binds (ps := ["_law_cup_here", "_law_much"]) fun _ _ _ _ _ _ us hl => match us, hl with | [_, _], _ => rfl)) ?_
    (case a_29 => k_is)
    (case l_29 => k_is)
    (case c_29 => k_is)
    (case k_29 => k_is)
    intro f_law_bit
    refine' WP.use (WP.At.of (x := "_law_pick") (st := WP.top 45) (ps := ["_law_cup_here", "_law_items"]) KX G ?a_30 ?l_30 ?c_30 ?k_30 (fun F => F.binds (ps := ["_law_cup_here", "_law_items"]) fun _ _ _ _ _ _ us hl => match us, hl with | [_, _], _ => rfl)) ?_
    (case a_30 => k_is)
    (case l_30 => k_is)
    (case c_30 => k_is)
    (case k_30 => k_is)
    intro f_law_pick
    refine' WP.use (WP.At.of (x := "_law_dealt") (st := WP.top 46) (ps := ["_law_cup_here", "_law_items"]) KX G ?a_31 ?l_31 ?c_31 ?k_31 (fun F => F.binds (ps := ["_law_cup_here", "_law_items"]) fun _ _ _ _ _ _ us hl => match us, hl with | [_, _], _ => rfl)) ?_
    (case a_31 => k_is)
    (case l_31 => k_is)
    (case c_31 => k_is)
    (case k_31 => k_is)
    intro f_law_dealt
    refine' WP.use (WP.At.of (x := "_law_signs") (st := WP.top 47) (ps := ["_law_cup_here"]) KX G ?a_32 ?l_32 ?c_32 ?k_32 (fun F => F.binds (ps := ["_law_cup_here"]) fun _ _ _ _ _ _ us hl => match us, hl with | [_], _ => rfl)) ?_
    (case a_32 => k_is)
    (case l_32 => k_is)
    (case c_32 => k_is)
    (case k_32 => k_is)
    intro f_law_signs
    refine' WP.use (WP.At.of (x := "_law_some_of") (st := WP.top 48) (ps := ["_law_cup_here", "_law_many"]) KX G ?a_33 ?l_33 ?c_33 ?k_33 (fun F => F.binds (ps := ["_law_cup_here", "_law_many"]) fun _ _ _ _ _ _ us hl => match us, hl with | [_, _], _ => rfl)) ?_
    (case a_33 => k_is)
    (case l_33 => k_is)
    (case c_33 => k_is)
    (case k_33 => k_is)
    intro f_law_some_of
    refine' WP.use (WP.At.of (x := "_law_any_ways") (st := WP.top 49) (ps := ["_law_cup_here", "_law_signs_here", "_law_many"]) KX G ?a_34 ?l_34 ?c_34 ?k_34 (fun F => F.binds (ps := ["_law_cup_here", "_law_signs_here", "_law_many"]) fun _ _ _ _ _ _ us hl => match us, hl with | [_, _, _], _ => rfl)) ?_
    (case a_34 => k_is)
    (case l_34 => k_is)
    (case c_34 => k_is)
    (case k_34 => k_is)
    intro f_law_any_ways
    refine' WP.use (WP.At.of (x := "_law_turning_ways") (st := WP.top 50) (ps := ["_law_cup_here", "_law_signs_here", "_law_many"]) KX G ?a_35 ?l_35 ?c_35 ?k_35 (fun F => F.binds (ps := ["_law_cup_here", "_law_signs_here", "_law_many"]) fun _ _ _ _ _ _ us hl => match us, hl with | [_, _, _], _ => rfl)) ?_
    (case a_35 => k_is)
    (case l_35 => k_is)
    (case c_35 => k_is)
    (case k_35 => k_is)
    intro f_law_turning_ways
    refine' WP.use (WP.At.of (x := "_law_ring_ways") (st := WP.top 51) (ps := ["_law_cup_here", "_law_signs_here", "_law_many"]) KX G ?a_36 ?l_36 ?c_36 ?k_36 (fun F => F.binds (ps := ["_law_cup_here", "_law_signs_here", "_law_many"]) fun _ _ _ _ _ _ us hl => match us, hl with | [_, _, _], _ => rfl)) ?_
    (case a_36 => k_is)
    (case l_36 => k_is)
    (case c_36 => k_is)
    (case k_36 => k_is)
    intro f_law_ring_ways
    refine' WP.use (WP.At.of (x := "_law_pair_ways") (st := WP.top 52) (ps := ["_law_cup_here", "_law_signs_here", "_law_many"]) KX G ?a_37 ?l_37 ?c_37 ?k_37 (fun F => F.binds (ps := ["_law_cup_here", "_law_signs_here", "_law_many"]) fun _ _ _ _ _ _ us hl => match us, hl with | [_, _, _], _ => rfl)) ?_
    (case a_37 => k_is)
    (case l_37 => k_is)
    (case c_37 => k_is)
    (case k_37 => k_is)
    intro f_law_pair_ways
    refine' WP.use (WP.At.of (x := "_law_turner") (st := WP.top 53) (ps := ["_law_cup_here", "_law_signs_here"]) KX G ?a_38 ?l_38 ?c_38 ?k_38 (fun F => F.binds (ps := ["_law_cup_here", "_law_signs_here"]) fun _ _ _ _ _ _ us hl => match us, hl with | [_, _], _ => rfl)) ?_
    (case a_38 => k_is)
    (case l_38 => k_is)
    (case c_38 => k_is)
    (case k_38 => k_is)
    intro f_law_turner
    refine' WP.use (WP.At.of (x := "_law_plain_reader") (st := WP.top 54) (ps := ["_law_cup_here", "_law_signs_here"]) KX G ?a_39 ?l_39 ?c_39 ?k_39 (fun F => F.binds (ps := ["_law_cup_here", "_law_signs_here"]) fun _ _ _ _ _ _ us hl => match us, hl with | [_, _], _ => rfl)) ?_
    (case a_39 => k_is)
    (case l_39 => k_is)
    (case c_39 => k_is)
    (case k_39 => k_is)
    intro f_law_plain_reader
    refine' WP.use (WP.At.of (x := "_law_made_reader") (st := WP.top 55) (ps := ["_law_plain"]) KX G ?a_40 ?l_40 ?c_40 ?k_40 (fun F => F.binds (ps := ["_law_plain"]) fun _ _ _ _ _ _ us hl => match us, hl with | [_], _ => rfl)) ?_
    (case a_40 => k_is)
    (case l_40 => k_is)
    (case c_40 => k_is)
    (case k_40 => k_is)
    intro f_law_made_reader
    refine' WP.use (WP.At.of (x := "_law_state_count") (st := WP.top 56) (ps := ["_law_plain"]) KX G ?a_41 ?l_41 ?c_41 ?k_41 (fun F => F.binds (ps := ["_law_plain"]) fun _ _ _ _ _ _ us hl => match us, hl with | [_], _ => rfl)) ?_
    (case a_41 => k_is)
    (case l_41 => k_is)
    (case c_41 => k_is)
    (case k_41 => k_is)
    intro f_law_state_count
    refine' WP.use (WP.At.of (x := "_law_twice") (st := WP.top 57) (ps := ["_law_plain"]) KX G ?a_42 ?l_42 ?c_42 ?k_42 (fun F => F.binds (ps := ["_law_plain"]) fun _ _ _ _ _ _ us hl => match us, hl with | [_], _ => rfl)) ?_
    (case a_42 => k_is)
    (case l_42 => k_is)
    (case c_42 => k_is)
    (case k_42 => k_is)
    intro f_law_twice
    refine' WP.use (WP.At.of (x := "_law_with_idle") (st := WP.top 58) (ps := ["_law_cup_here", "_law_plain"]) KX G ?a_43 ?l_43 ?c_43 ?k_43 (fun F => F.binds (ps := ["_law_cup_here", "_law_plain"]) fun _ _ _ _ _ _ us hl => match us, hl with | [_, _], _ => rfl)) ?_
    (case a_43 => k_is)
    (case l_43 => k_is)
    (case c_43 => k_is)
    (case k_43 => k_is)
    intro f_law_with_idle
    refine' WP.use (WP.At.of (x := "_law_least_right") (st := WP.top 59) (ps := ["_law_plain", "_law_made"]) KX G ?a_44 ?l_44 ?c_44 ?k_44 (fun F => F.binds (ps := ["_law_plain", "_law_made"]) fun _ _ _ _ _ _ us hl => match us, hl with | [_, _], _ => rfl)) ?_
    (case a_44 => k_is)
    (case l_44 => k_is)
    (case c_44 => k_is)
    (case k_44 => k_is)
    intro f_law_least_right
    refine' WP.use (WP.At.of (x := "_law_cell_right") (st := WP.top 60) (ps := ["_law_cup_here"]) KX G ?a_45 ?l_45 ?c_45 ?k_45 (fun F => F.binds (ps := ["_law_cup_here"]) fun _ _ _ _ _ _ us hl => match us, hl with | [_], _ => rfl)) ?_
    (case a_45 => k_is)
    (case l_45 => k_is)
    (case c_45 => k_is)
    (case k_45 => k_is)
    intro f_law_cell_right
    refine' WP.use (WP.AtM.of (x := "__init__") (q := "Reader.__init__") (st := WP.meth 0) (ps := ["self", "letters", "moves", "yes"]) KX Z ?a_46 ?i_46 ?l_46 ?c_46 ?k_46 (fun F => F.binds (ps := ["self", "letters", "moves", "yes"]) fun _ _ _ _ _ _ us hl => match us, hl with | [_, _, _, _], _ => rfl)) ?_
    (case a_46 => k_is)
    (case i_46 => k_is)
    (case l_46 => k_is)
    (case c_46 => k_is)
    (case k_46 => k_is)
    intro m_init
    refine' WP.use (WP.AtM.of (x := "__invert__") (q := "Reader.__invert__") (st := WP.meth 8) (ps := ["self"]) KX Z ?a_47 ?i_47 ?l_47 ?c_47 ?k_47 (fun F => F.binds (ps := ["self"]) fun _ _ _ _ _ _ us hl => match us, hl with | [_], _ => rfl)) ?_
    (case a_47 => k_is)
    (case i_47 => k_is)
    (case l_47 => k_is)
    (case c_47 => k_is)
    (case k_47 => k_is)
    intro m_invert
    refine' WP.use (WP.AtM.of (x := "__or__") (q := "Reader.__or__") (st := WP.meth 10) (ps := ["self", "other"]) KX Z ?a_48 ?i_48 ?l_48 ?c_48 ?k_48 (fun F => F.binds (ps := ["self", "other"]) fun _ _ _ _ _ _ us hl => match us, hl with | [_, _], _ => rfl)) ?_
    (case a_48 => k_is)
    (case i_48 => k_is)
    (case l_48 => k_is)
    (case c_48 => k_is)
    (case k_48 => k_is)
    intro m_or
    refine' WP.use (WP.AtM.of (x := "__contains__") (q := "Reader.__contains__") (st := WP.meth 12) (ps := ["self", "value"]) KX Z ?a_49 ?i_49 ?l_49 ?c_49 ?k_49 (fun F => F.binds (ps := ["self", "value"]) fun _ _ _ _ _ _ us hl => match us, hl with | [_, _], _ => rfl)) ?_
    (case a_49 => k_is)
    (case i_49 => k_is)
    (case l_49 => k_is)
    (case c_49 => k_is)
    (case k_49 => k_is)
    intro m_contains
    refine' WP.use (WP.AtM.of (x := "__len__") (q := "Reader.__len__") (st := WP.meth 13) (ps := ["self"]) KX Z ?a_50 ?i_50 ?l_50 ?c_50 ?k_50 (fun F => F.binds (ps := ["self"]) fun _ _ _ _ _ _ us hl => match us, hl with | [_], _ => rfl)) ?_
    (case a_50 => k_is)
    (case i_50 => k_is)
    (case l_50 => k_is)
    (case c_50 => k_is)
    (case k_50 => k_is)
    intro m_len
    refine' WP.use (WP.AtM.of (x := "__eq__") (q := "Reader.__eq__") (st := WP.meth 14) (ps := ["self", "other"]) KX Z ?a_51 ?i_51 ?l_51 ?c_51 ?k_51 (fun F => F.binds (ps := ["self", "other"]) fun _ _ _ _ _ _ us hl => match us, hl with | [_, _], _ => rfl)) ?_
    (case a_51 => k_is)
    (case i_51 => k_is)
    (case l_51 => k_is)
    (case c_51 => k_is)
    (case k_51 => k_is)
    intro m_eq
    refine' WP.use (WP.AtP.of (x := "letters") (q := "Reader.letters") (st := WP.meth 1) KX Z ?a_52 ?g_52 ?t_52 ?e_52 ?l_52 ?c_52 ?k_52 (fun F => F.binds (ps := ["self"]) fun _ _ _ _ _ _ us hl => match us, hl with | [_], _ => rfl)) ?_
    (case a_52 => k_is)
    (case g_52 => k_is)
    (case t_52 => k_is)
    (case e_52 => k_is)
    (case l_52 => k_is)
    (case c_52 => k_is)
    (case k_52 => k_is)
    intro p_letters
    refine' WP.use (WP.AtP.of (x := "moves") (q := "Reader.moves") (st := WP.meth 2) KX Z ?a_53 ?g_53 ?t_53 ?e_53 ?l_53 ?c_53 ?k_53 (fun F => F.binds (ps := ["self"]) fun _ _ _ _ _ _ us hl => match us, hl with | [_], _ => rfl)) ?_
    (case a_53 => k_is)
    (case g_53 => k_is)
    (case t_53 => k_is)
    (case e_53 => k_is)
    (case l_53 => k_is)
    (case c_53 => k_is)
    (case k_53 => k_is)
    intro p_moves
    refine' WP.use (WP.AtP.of (x := "yes") (q := "Reader.yes") (st := WP.meth 3) KX Z ?a_54 ?g_54 ?t_54 ?e_54 ?l_54 ?c_54 ?k_54 (fun F => F.binds (ps := ["self"]) fun _ _ _ _ _ _ us hl => match us, hl with | [_], _ => rfl)) ?_
    (case a_54 => k_is)
    (case g_54 => k_is)
    (case t_54 => k_is)
    (case e_54 => k_is)
    (case l_54 => k_is)
    (case c_54 => k_is)
    (case k_54 => k_is)
    intro p_yes
    refine' WP.use (PySem.W.mg_none_of (n := "len") KX G ?a_55) ?_
    (case a_55 => k_is)
    intro b_len
    refine' WP.use (PySem.W.mg_none_of (n := "isinstance") KX G ?a_56) ?_
    (case a_56 => k_is)
    intro b_isinstance
    refine' WP.use (PySem.W.mg_none_of (n := "int") KX G ?a_57) ?_
    (case a_57 => k_is)
    intro b_int
    refine' WP.use (PySem.W.mg_none_of (n := "bool") KX G ?a_58) ?_
    (case a_58 => k_is)
    intro b_bool
    refine' WP.use (PySem.W.mg_none_of (n := "str") KX G ?a_59) ?_
    (case a_59 => k_is)
    intro b_str
    refine' WP.use (PySem.W.mg_none_of (n := "all") KX G ?a_60) ?_
    (case a_60 => k_is)
    intro b_all
    refine' WP.use (PySem.W.mg_none_of (n := "zip") KX G ?a_61) ?_
    (case a_61 => k_is)
    intro b_zip
    refine' WP.use (PySem.W.mg_none_of (n := "range") KX G ?a_62) ?_
    (case a_62 => k_is)
    intro b_range
    refine' WP.use (PySem.W.mg_none_of (n := "tuple") KX G ?a_63) ?_
    (case a_63 => k_is)
    intro b_tuple
    refine' WP.use (PySem.W.mg_none_of (n := "dict") KX G ?a_64) ?_
    (case a_64 => k_is)
    intro b_dict
    refine' WP.use (PySem.W.mg_none_of (n := "list") KX G ?a_65) ?_
    (case a_65 => k_is)
    intro b_list
    refine' WP.use (PySem.W.mg_none_of (n := "max") KX G ?a_66) ?_
    (case a_66 => k_is)
    intro b_max
    refine' WP.use (PySem.W.mg_none_of (n := "min") KX G ?a_67) ?_
    (case a_67 => k_is)
    intro b_min
    refine' WP.use (PySem.W.mg_none_of (n := "enumerate") KX G ?a_68) ?_
    (case a_68 => k_is)
    intro b_enumerate
    refine' WP.use (PySem.W.mg_none_of (n := "set") KX G ?a_69) ?_
    (case a_69 => k_is)
    intro b_set
    refine' WP.use (PySem.W.mg_none_of (n := "sorted") KX G ?a_70) ?_
    (case a_70 => k_is)
    intro b_sorted
    refine' WP.use (PySem.W.mg_none_of (n := "abs") KX G ?a_71) ?_
    (case a_71 => k_is)
    intro b_abs
    refine' WP.use (PySem.W.mg_none_of (n := "repr") KX G ?a_72) ?_
    (case a_72 => k_is)
    intro b_repr
    refine' WP.use (WP.num_of (x := "GREATEST") KX G ?a_73) ?_
    (case a_73 => k_is)
    intro c_GREATEST
    refine' WP.use (WP.num_of (x := "MAX_TEXT") KX G ?a_74) ?_
    (case a_74 => k_is)
    intro c_MAX_TEXT
    refine' WP.use (WP.num_of (x := "MOST_LETTERS") KX G ?a_75) ?_
    (case a_75 => k_is)
    intro c_MOST_LETTERS
    refine' WP.use (WP.num_of (x := "MAX_STATES") KX G ?a_76) ?_
    (case a_76 => k_is)
    intro c_MAX_STATES
    refine' WP.fin KX G hmg ⟨_, { cl := Z.cl, mkC := Z.mkC, kC := Z.kc, sf := Z.sf, gC := gC, nL := Z.n1, nM := Z.n2, nY := Z.n3, isR := Z.isR, b_len := b_len, b_isinstance := b_isinstance, b_int := b_int, b_bool := b_bool, b_str := b_str, b_all := b_all, b_zip := b_zip, b_range := b_range, b_tuple := b_tuple, b_dict := b_dict, b_list := b_list, b_max := b_max, b_min := b_min, b_enumerate := b_enumerate, b_set := b_set, b_sorted := b_sorted, b_abs := b_abs, b_repr := b_repr, c_GREATEST := c_GREATEST, c_MAX_TEXT := c_MAX_TEXT, c_MOST_LETTERS := c_MOST_LETTERS, c_MAX_STATES := c_MAX_STATES, f_is_integer := f_is_integer, f_is_integer_within := f_is_integer_within, f_are_small := f_are_small, f_is_letters := f_is_letters, f_is_text_within := f_is_text_within, f_require_letters := f_require_letters, f_are_states := f_are_states, f_are_moves := f_are_moves, f_is_state_set := f_is_state_set, f_state_behind := f_state_behind, f_says := f_says, f_reader_from := f_reader_from, f_moved_pair := f_moved_pair, f_pairs_led := f_pairs_led, f_reader_of := f_reader_of, f_require_reader := f_require_reader, f_numbers_of := f_numbers_of, f_classes_of := f_classes_of, f_least_of := f_least_of, f_least_reader := f_least_reader, f_parting := f_parting, f_law_first_lines := f_law_first_lines, f_law_kin := f_law_kin, f_law_lean := f_law_lean, f_law_parted := f_law_parted, f_law_cup := f_law_cup, f_law_bit := f_law_bit, f_law_pick := f_law_pick, f_law_dealt := f_law_dealt, f_law_signs := f_law_signs, f_law_some_of := f_law_some_of, f_law_any_ways := f_law_any_ways, f_law_turning_ways := f_law_turning_ways, f_law_ring_ways := f_law_ring_ways, f_law_pair_ways := f_law_pair_ways, f_law_turner := f_law_turner, f_law_plain_reader := f_law_plain_reader, f_law_made_reader := f_law_made_reader, f_law_state_count := f_law_state_count, f_law_twice := f_law_twice, f_law_with_idle := f_law_with_idle, f_law_least_right := f_law_least_right, f_law_cell_right := f_law_cell_right, m_init := m_init, m_invert := m_invert, m_or := m_or, m_contains := m_contains, m_len := m_len, m_eq := m_eq, p_letters := p_letters, p_moves := p_moves, p_yes := p_yes }⟩ ?a_law ?l_law ?c_law ?k_law
    (case a_law => k_is)
    (case l_law => k_is)
    (case c_law => k_is)
    (case k_law => k_is)

