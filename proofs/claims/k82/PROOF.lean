import PyProof.Rows.All
import Wide.All
import OpenK.AllK
import Wide.FinOn
import HandS.ForMost
import HandS.IsInst
import HandS.DictComp
import HandS.Star
import HandS.NoneIn
import HandS.Style
import HandS.Zip
import HandS.Walk
import HandS.Wide
import HandS.WideBits
import HandS.SortInts
import HandS.GenList
import HandS.Defaults
import PySem.Challenge.RW_movingup_k82_whole_other_numbers
import KE.GoesEnum
import KE.GoesMore
import KE.GoesEnumKw
import KE.KDictZip
import HandS.Codes
/-! The mathematics of the law: charts, paths, common posts, leaving, reducing, joining, and how each follows a renumbering of the posts and of the people. Plain Lean. -/
namespace Mv

/-- a chart of n posts: up k is the post directly above k -/
structure Ch (n : Nat) (up : Nat → Nat) : Prop where
  pos : 0 < n
  z : up 0 = 0
  lt : ∀ k, 0 < k → up k < k

theorem Ch.ind {n : Nat} {up : Nat → Nat} (c : Ch n up) {P : Nat → Prop} (h : ∀ k, (0 < k → P (up k)) → P k) (k : Nat) : P k := by
  induction k using Nat.strongRecOn with
  | ind k ih => exact h k fun hk => ih _ (c.lt k hk)

/-- the path from the head down to k -/
def pth (up : Nat → Nat) (k : Nat) : List Nat := if h : 0 < k ∧ up k < k then pth up (up k) ++ [k] else [k]
termination_by k
decreasing_by exact h.2

section
variable {n : Nat} {up : Nat → Nat}
theorem pth_zero : pth up 0 = [0] := by
  unfold pth
  rw [dif_neg (by omega)]
theorem pth_pos (c : Ch n up) {k : Nat} (h : 0 < k) : pth up k = pth up (up k) ++ [k] := by
  conv => lhs; unfold pth
  rw [dif_pos ⟨h, c.lt k h⟩]
theorem mem_self (c : Ch n up) (k : Nat) : k ∈ pth up k := by
  by_cases h : 0 < k
  · rw [pth_pos c h]; simp
  · obtain rfl : k = 0 := by omega
    rw [pth_zero]; simp
theorem mem_pth (c : Ch n up) {d k : Nat} : d ∈ pth up k ↔ d = k ∨ (0 < k ∧ d ∈ pth up (up k)) := by
  by_cases h : 0 < k
  · rw [pth_pos c h]
    simp only [List.mem_append, List.mem_singleton, h, true_and]
    exact Or.comm
  · obtain rfl : k = 0 := by omega
    rw [pth_zero]; simp
theorem zero_mem (c : Ch n up) (k : Nat) : 0 ∈ pth up k := by
  refine c.ind (P := fun k => 0 ∈ pth up k) (fun k ih => ?_) k
  by_cases h : 0 < k
  · exact (mem_pth c).mpr (.inr ⟨h, ih h⟩)
  · obtain rfl : k = 0 := by omega
    exact mem_self c 0
theorem le_of_mem (c : Ch n up) {d k : Nat} : d ∈ pth up k → d ≤ k := by
  refine c.ind (P := fun k => d ∈ pth up k → d ≤ k) (fun k ih h => ?_) k
  rcases (mem_pth c).mp h with e | ⟨hk, hm⟩
  · omega
  · have := ih hk hm
    have := c.lt k hk
    omega
theorem mem_trans (c : Ch n up) {d e k : Nat} (h : d ∈ pth up e) : e ∈ pth up k → d ∈ pth up k := by
  refine c.ind (P := fun k => e ∈ pth up k → d ∈ pth up k) (fun k ih hm => ?_) k
  rcases (mem_pth c).mp hm with r | ⟨hk, hm⟩
  · exact r ▸ h
  · exact (mem_pth c).mpr (.inr ⟨hk, ih hk hm⟩)
theorem pth_up (c : Ch n up) {k : Nat} (h : 0 < k) : up k ∈ pth up k := (mem_pth c).mpr (.inr ⟨h, mem_self c _⟩)
theorem pth_ne (c : Ch n up) (k : Nat) : pth up k ≠ [] := fun e => by
  have := mem_self c k
  rw [e] at this
  cases this
theorem pth_sorted (c : Ch n up) (k : Nat) : (pth up k).Pairwise (· < ·) := by
  refine c.ind (P := fun k => (pth up k).Pairwise (· < ·)) (fun k ih => ?_) k
  by_cases h : 0 < k
  · rw [pth_pos c h, List.pairwise_append]
    refine ⟨ih h, by simp, fun a ha b hb => ?_⟩
    have e : b = k := by simpa using hb
    have := le_of_mem c ha
    have := c.lt k h
    omega
  · obtain rfl : k = 0 := by omega
    rw [pth_zero]; simp
theorem pth_len (c : Ch n up) (k : Nat) : (pth up k).length ≤ k + 1 := by
  refine c.ind (P := fun k => (pth up k).length ≤ k + 1) (fun k ih => ?_) k
  by_cases h : 0 < k
  · rw [pth_pos c h, List.length_append, List.length_singleton]
    have := ih h
    have := c.lt k h
    omega
  · obtain rfl : k = 0 := by omega
    rw [pth_zero]; simp
/-- the posts of a path, all but the last -/
theorem pth_drop (c : Ch n up) {k : Nat} (h : 0 < k) : (pth up k).dropLast = pth up (up k) := by
  rw [pth_pos c h]; simp
theorem pth_drop0 : (pth up 0).dropLast = [] := by
  rw [pth_zero]; rfl

/-! ### the last common post -/
def Lca (up : Nat → Nat) (a b c : Nat) : Prop := ∀ d, (d ∈ pth up a ∧ d ∈ pth up b) ↔ d ∈ pth up c
theorem lca_self (a : Nat) : Lca up a a a := fun d => ⟨fun h => h.1, fun h => ⟨h, h⟩⟩
theorem lca_step (c : Ch n up) {a b e : Nat} (h : a ≠ b) (hl : Lca up (up (max a b)) (min a b) e) : Lca up a b e := by
  intro d
  have hm : 0 < max a b := by omega
  refine Iff.trans ?_ (hl d)
  have key : d ∈ pth up (min a b) → (d ∈ pth up (max a b) ↔ d ∈ pth up (up (max a b))) := fun hd => by
    have h1 := le_of_mem c hd
    constructor
    · intro h2
      rcases (mem_pth c).mp h2 with e | ⟨_, r⟩
      · omega
      · exact r
    · intro h2
      exact (mem_pth c).mpr (.inr ⟨hm, h2⟩)
  by_cases hab : a < b
  · have e1 : max a b = b := by omega
    have e2 : min a b = a := by omega
    rw [e1, e2] at key ⊢
    constructor
    · rintro ⟨x, y⟩
      exact ⟨(key x).mp y, x⟩
    · rintro ⟨x, y⟩
      exact ⟨y, (key y).mpr x⟩
  · have e1 : max a b = a := by omega
    have e2 : min a b = b := by omega
    rw [e1, e2] at key ⊢
    constructor
    · rintro ⟨x, y⟩
      exact ⟨(key y).mp x, y⟩
    · rintro ⟨x, y⟩
      exact ⟨(key y).mpr x, y⟩
theorem lca_one (c : Ch n up) {a b e e' : Nat} (h : Lca up a b e) (h' : Lca up a b e') : e = e' := by
  have h1 := le_of_mem c ((h' e).mp ((h e).mpr (mem_self c e)))
  have h2 := le_of_mem c ((h e').mp ((h' e').mpr (mem_self c e')))
  omega
theorem lca_le (c : Ch n up) {a b e : Nat} (h : Lca up a b e) : e ≤ a := le_of_mem c ((h e).mpr (mem_self c e)).1
end

/-! ### a renumbering of the posts -/
structure Rn (n : Nat) (up up' : Nat → Nat) (π ρ : Nat → Nat) : Prop where
  c : Ch n up
  c' : Ch n up'
  lt : ∀ k, k < n → π k < n
  lt' : ∀ j, j < n → ρ j < n
  l : ∀ k, k < n → ρ (π k) = k
  r : ∀ j, j < n → π (ρ j) = j
  z : π 0 = 0
  up : ∀ k, 0 < k → k < n → up' (π k) = π (up k)
section
variable {n : Nat} {up up' π ρ : Nat → Nat}
theorem Rn.inj (R : Rn n up up' π ρ) {j k : Nat} (hj : j < n) (hk : k < n) (h : π j = π k) : j = k := by
  rw [← R.l j hj, ← R.l k hk, h]
theorem Rn.pos (R : Rn n up up' π ρ) {k : Nat} (hk : k < n) : 0 < π k ↔ 0 < k := by
  constructor
  · intro h
    rcases Nat.eq_zero_or_pos k with e | e
    · rw [e, R.z] at h; omega
    · exact e
  · intro h
    rcases Nat.eq_zero_or_pos (π k) with e | e
    · have := R.inj hk R.c.pos (by rw [e, R.z])
      omega
    · exact e
theorem Rn.pth (R : Rn n up up' π ρ) {k : Nat} (hk : k < n) : pth up' (π k) = (pth up k).map π := by
  have := R.c.ind (P := fun k => k < n → Mv.pth up' (π k) = (Mv.pth up k).map π) (fun k ih hk => ?_) k hk
  · exact this
  · by_cases h : 0 < k
    · have h2 := R.c.lt k h
      rw [pth_pos R.c h, pth_pos R.c' ((R.pos hk).mpr h), R.up k h hk, ih h (by omega), List.map_append]
      rfl
    · obtain rfl : k = 0 := by omega
      rw [R.z, pth_zero, pth_zero]
      simp [R.z]
theorem Rn.mem (R : Rn n up up' π ρ) {d k : Nat} (hd : d < n) (hk : k < n) : π d ∈ Mv.pth up' (π k) ↔ d ∈ Mv.pth up k := by
  rw [R.pth hk]
  constructor
  · intro h
    obtain ⟨e, he, h2⟩ := List.mem_map.mp h
    have := le_of_mem R.c he
    rw [← R.inj (by omega) hd h2]
    exact he
  · exact fun h => List.mem_map_of_mem h
theorem Rn.lca (R : Rn n up up' π ρ) {a b e : Nat} (ha : a < n) (hb : b < n) (h : Lca up a b e) : Lca up' (π a) (π b) (π e) := by
  have he : e < n := by have := lca_le R.c h; omega
  intro d
  rw [R.pth ha, R.pth hb, R.pth he]
  simp only [List.mem_map]
  constructor
  · rintro ⟨⟨x, hx, rfl⟩, ⟨y, hy, exy⟩⟩
    have h1 := le_of_mem R.c hx
    have h2 := le_of_mem R.c hy
    have : y = x := R.inj (by omega) (by omega) exy
    subst this
    exact ⟨y, (h y).mp ⟨hx, hy⟩, rfl⟩
  · rintro ⟨x, hx, rfl⟩
    obtain ⟨h1, h2⟩ := (h x).mpr hx
    exact ⟨⟨x, h1, rfl⟩, ⟨x, h2, rfl⟩⟩
/-- the one sorted list -/
theorem sorted_one : ∀ {xs ys : List Int}, xs.Perm ys → xs.Pairwise (· ≤ ·) → ys.Pairwise (· ≤ ·) → xs = ys
  | [], ys, p, _, _ => (List.Perm.nil_eq p)
  | x :: xs, [], p, _, _ => absurd p.length_eq (by simp)
  | x :: xs, y :: ys, p, hx, hy => by
    obtain ⟨hx1, hx2⟩ := List.pairwise_cons.mp hx
    obtain ⟨hy1, hy2⟩ := List.pairwise_cons.mp hy
    have h1 : x ≤ y := by
      rcases List.mem_cons.mp (p.mem_iff.mpr (List.mem_cons_self (a := y) (l := ys))) with e | e
      · omega
      · exact hx1 y e
    have h2 : y ≤ x := by
      rcases List.mem_cons.mp (p.mem_iff.mp (List.mem_cons_self (a := x) (l := xs))) with e | e
      · omega
      · exact hy1 x e
    obtain rfl : x = y := by omega
    rw [sorted_one (List.Perm.cons_inv p) hx2 hy2]
theorem perm_of_nodup {α : Type} [DecidableEq α] {l₁ l₂ : List α} (h₁ : l₁.Nodup) (h₂ : l₂.Nodup) (h : ∀ a, a ∈ l₁ ↔ a ∈ l₂) : l₁.Perm l₂ :=
  (List.perm_ext_iff_of_nodup h₁ h₂).mpr h
def cast (k : Nat) : Int := (k : Int)
theorem range_cast_sorted (P : Nat → Bool) (n : Nat) : (((List.range n).filter P).map cast).Pairwise (· ≤ ·) := by
  rw [List.pairwise_map]
  refine List.Pairwise.sublist (List.filter_sublist) ?_
  refine List.Pairwise.imp (fun {a b} h => ?_) (List.pairwise_lt_range (n := n))
  show (a : Int) ≤ (b : Int)
  omega
theorem Rn.filt (R : Rn n up up' π ρ) {P P' : Nat → Bool} (h : ∀ k, k < n → P' (π k) = P k) {xs : List Int} (p : xs.Perm ((((List.range n).filter P).map π).map cast)) (s : xs.Pairwise (· ≤ ·)) :
    xs = ((List.range n).filter P').map cast := by
  refine sorted_one (p.trans ?_) s (range_cast_sorted P' n)
  refine List.Perm.map cast ?_
  refine perm_of_nodup ?_ (List.Nodup.sublist List.filter_sublist List.nodup_range) fun a => ?_
  · unfold List.Nodup
    rw [List.pairwise_map]
    refine List.Pairwise.imp_of_mem (fun {a b} ha hb hab => ?_) (List.Nodup.sublist List.filter_sublist (List.nodup_range (n := n)))
    have ha' := List.mem_range.mp (List.mem_filter.mp ha).1
    have hb' := List.mem_range.mp (List.mem_filter.mp hb).1
    exact fun e => hab (R.inj ha' hb' e)
  · simp only [List.mem_map, List.mem_filter, List.mem_range]
    constructor
    · rintro ⟨k, ⟨hk, hp⟩, rfl⟩
      exact ⟨R.lt k hk, by rw [h k hk]; exact hp⟩
    · rintro ⟨ha, hp⟩
      refine ⟨ρ a, ⟨R.lt' a ha, ?_⟩, R.r a ha⟩
      rw [← h _ (R.lt' a ha), R.r a ha]; exact hp
end
end Mv

/-! Arrangements, leaving, reducing, joining, and how they follow a renumbering. Plain Lean. -/
namespace Mv
abbrev Rw := Nat → Option Int
structure Ar (n : Nat) (up : Nat → Nat) (r : Rw) : Prop where
  out : ∀ k, n ≤ k → r k = none
  nn : ∀ k x, r k = some x → 0 ≤ x
  inj : ∀ j k x, r j = some x → r k = some x → j = k
  ord : ∀ k x, 0 < k → r k = some x → ∃ y, r (up k) = some y ∧ y < x
def st (r : Rw) (p : Nat) (v : Option Int) : Rw := fun k => if k = p then v else r k
theorem st_same {r : Rw} {p : Nat} {v : Option Int} : st r p v p = v := if_pos rfl
theorem st_ne {r : Rw} {p k : Nat} {v : Option Int} (h : k ≠ p) : st r p v k = r k := if_neg h
/-- nobody holds two posts; nobody stands outside -/
structure Ok (n : Nat) (r : Rw) : Prop where
  out : ∀ k, n ≤ k → r k = none
  inj : ∀ j k x, r j = some x → r k = some x → j = k
theorem Ar.ok {n : Nat} {up : Nat → Nat} {r : Rw} (a : Ar n up r) : Ok n r := ⟨a.out, a.inj⟩
section
variable {n : Nat} {up : Nat → Nat} {r r' : Rw} {p : Nat}
theorem Ok.lt (o : Ok n r) {k : Nat} {x : Int} (h : r k = some x) : k < n := by
  rcases Nat.lt_or_ge k n with e | e
  · exact e
  · rw [o.out k e] at h; cases h
theorem Ok.clear (o : Ok n r) (p : Nat) : Ok n (st r p none) := by
  refine ⟨fun k h => ?_, fun j k x hj hk => ?_⟩
  · by_cases e : k = p
    · rw [e, st_same]
    · rw [st_ne e]; exact o.out k h
  · by_cases e : j = p
    · rw [e, st_same] at hj; cases hj
    · by_cases e2 : k = p
      · rw [e2, st_same] at hk; cases hk
      · rw [st_ne e] at hj
        rw [st_ne e2] at hk
        exact o.inj j k x hj hk
theorem Ok.put (o : Ok n r) {x : Int} (hp : p < n) (hx : ∀ k, r k ≠ some x) : Ok n (st r p (some x)) := by
  refine ⟨fun k h => ?_, fun j k y hj hk => ?_⟩
  · rw [st_ne (by omega)]; exact o.out k h
  · by_cases e : j = p
    · subst e
      rw [st_same] at hj
      by_cases e2 : k = j
      · exact e2.symm
      · rw [st_ne e2, ← hj] at hk
        exact absurd hk (hx k)
    · rw [st_ne e] at hj
      by_cases e2 : k = p
      · subst e2
        rw [st_same] at hk
        rw [← hk] at hj
        exact absurd hj (hx j)
      · rw [st_ne e2] at hk
        exact o.inj j k y hj hk
/-- the move of the holder x from l up to p -/
def mvU (r : Rw) (p l : Nat) (x : Int) : Rw := st (st r p (some x)) l none
theorem mvU_at (r : Rw) (p l : Nat) (x : Int) (k : Nat) : mvU r p l x k = if k = l then none else if k = p then some x else r k := rfl
theorem Ok.mvU (o : Ok n r) {l : Nat} {x : Int} (hp : p < n) (hl : r l = some x) : Ok n (mvU r p l x) := by
  refine ⟨fun k h => ?_, fun j k y hj hk => ?_⟩
  · rw [mvU_at]
    split
    · rfl
    · rw [if_neg (by omega)]; exact o.out k h
  · rw [mvU_at] at hj hk
    split at hj
    · cases hj
    · rename_i ej
      split at hk
      · cases hk
      · rename_i ek
        split at hj
        · rename_i e1
          split at hk
          · rename_i e2; omega
          · rw [← hj] at hk
            exact absurd (o.inj k l x hk hl) ek
        · split at hk
          · rw [← hk] at hj
            exact absurd (o.inj j l x hj hl) ej
          · exact o.inj j k y hj hk
def Best (n : Nat) (up : Nat → Nat) (r : Rw) (p l : Nat) (x : Int) : Prop :=
  (0 < l ∧ l < n ∧ up l = p) ∧ r l = some x ∧ ∀ m y, 0 < m → m < n → up m = p → r m = some y → x ≤ y
def NoBest (n : Nat) (up : Nat → Nat) (r : Rw) (p : Nat) : Prop := ∀ m, 0 < m → m < n → up m = p → r m = none
theorem best_one (o : Ok n r) {l l' : Nat} {x x' : Int} (h : Best n up r p l x) (h' : Best n up r p l' x') : l = l' ∧ x = x' := by
  obtain ⟨⟨a1, a2, a3⟩, b, c⟩ := h
  obtain ⟨⟨a1', a2', a3'⟩, b', c'⟩ := h'
  have h1 := c l' x' a1' a2' a3' b'
  have h2 := c' l x a1 a2 a3 b
  obtain rfl : x = x' := by omega
  exact ⟨o.inj l l' x b b', rfl⟩
theorem best_not {l : Nat} {x : Int} (h : Best n up r p l x) (h' : NoBest n up r p) : False := by
  obtain ⟨⟨a1, a2, a3⟩, b, _⟩ := h
  rw [h' l a1 a2 a3] at b
  cases b
/-- from the empty post p: the moves, the post that is empty in the end -/
inductive Lv (n : Nat) (up : Nat → Nat) : Rw → Nat → Rw → Nat → List (Int × Nat × Nat) → Prop
  | stop {r : Rw} {p : Nat} : NoBest n up r p → Lv n up r p r p []
  | step {r r' : Rw} {p l q : Nat} {x : Int} {ms : List (Int × Nat × Nat)} : Best n up r p l x → Lv n up (mvU r p l x) l r' q ms → Lv n up r p r' q ((x, l, p) :: ms)
theorem Lv.one {q : Nat} {ms : List (Int × Nat × Nat)} (h : Lv n up r p r' q ms) : ∀ {r2 : Rw} {q2 : Nat} {ms2 : List (Int × Nat × Nat)}, Ok n r → p < n → Lv n up r p r2 q2 ms2 → r' = r2 ∧ q = q2 ∧ ms = ms2 := by
  induction h with
  | stop hn =>
    intro r2 q2 ms2 o hp h2
    cases h2 with
    | stop _ => exact ⟨rfl, rfl, rfl⟩
    | step b _ => exact (best_not b hn).elim
  | step b _ ih =>
    intro r2 q2 ms2 o hp h2
    cases h2 with
    | stop hn => exact (best_not b hn).elim
    | step b2 t2 =>
      obtain ⟨rfl, rfl⟩ := best_one o b b2
      obtain ⟨e1, e2, e3⟩ := ih (o.mvU hp b.2.1) b.1.2.1 t2
      exact ⟨e1, e2, by rw [e3]⟩
theorem Lv.ok {q : Nat} {ms : List (Int × Nat × Nat)} (h : Lv n up r p r' q ms) : Ok n r → p < n → Ok n r' := by
  induction h with
  | stop _ => exact fun o _ => o
  | step b _ ih => exact fun o hp => ih (o.mvU hp b.2.1) b.1.2.1
/-- nobody is lost, nobody comes -/
theorem Lv.who {q : Nat} {ms : List (Int × Nat × Nat)} (h : Lv n up r p r' q ms) : Ok n r → p < n → r p = none → ∀ y, (∃ k, r' k = some y) ↔ ∃ k, r k = some y := by
  induction h with
  | stop _ => exact fun _ _ _ y => Iff.rfl
  | @step r r' p l q x ms b _ ih =>
    intro o hp h0 y
    obtain ⟨⟨_, b2, _⟩, bl, _⟩ := b
    refine (ih (o.mvU hp bl) b2 (by rw [mvU_at, if_pos rfl]) y).trans ?_
    have hlp : p ≠ l := fun e => by rw [e, bl] at h0; cases h0
    constructor
    · rintro ⟨k, hk⟩
      rw [mvU_at] at hk
      split at hk
      · cases hk
      · split at hk
        · exact ⟨l, by rw [bl]; exact hk⟩
        · exact ⟨k, hk⟩
    · rintro ⟨k, hk⟩
      by_cases e : k = l
      · refine ⟨p, ?_⟩
        rw [mvU_at, if_neg hlp, if_pos rfl, ← bl, ← e]; exact hk
      · refine ⟨k, ?_⟩
        rw [mvU_at, if_neg e, if_neg (fun z => by rw [z, h0] at hk; cases hk)]
        exact hk
end

/-! ### new numbers for the people -/
structure Nm (S : Int → Prop) (ν : Int → Int) : Prop where
  mono : ∀ x y, S x → S y → x < y → ν x < ν y
  nn : ∀ x, S x → 0 ≤ ν x
theorem Nm.inj {S : Int → Prop} {ν : Int → Int} (m : Nm S ν) {x y : Int} (hx : S x) (hy : S y) (h : ν x = ν y) : x = y := by
  rcases Int.lt_trichotomy x y with e | e | e
  · have := m.mono x y hx hy e; omega
  · exact e
  · have := m.mono y x hy hx e; omega
theorem Nm.le {S : Int → Prop} {ν : Int → Int} (m : Nm S ν) {x y : Int} (hx : S x) (hy : S y) (h : x ≤ y) : ν x ≤ ν y := by
  rcases Int.lt_or_eq_of_le h with e | e
  · exact Int.le_of_lt (m.mono x y hx hy e)
  · rw [e]; exact Int.le_refl _
/-- the arrangement in the new numbers -/
def mv (n : Nat) (ρ : Nat → Nat) (ν : Int → Int) (r : Rw) : Rw := fun j => if j < n then (r (ρ j)).map ν else none
def In (S : Int → Prop) (r : Rw) : Prop := ∀ k x, r k = some x → S x
section
variable {n : Nat} {up up' π ρ : Nat → Nat} {S : Int → Prop} {ν : Int → Int} {r r' : Rw} {p : Nat}
theorem mv_at (R : Rn n up up' π ρ) {k : Nat} (hk : k < n) : mv n ρ ν r (π k) = (r k).map ν := by
  unfold mv
  rw [if_pos (R.lt k hk), R.l k hk]
theorem mv_some (R : Rn n up up' π ρ) {j : Nat} {y : Int} (h : mv n ρ ν r j = some y) : j < n ∧ ∃ k x, k < n ∧ j = π k ∧ r k = some x ∧ y = ν x := by
  unfold mv at h
  split at h
  · rename_i hj
    cases e : r (ρ j) with
    | none => rw [e] at h; cases h
    | some x =>
      rw [e] at h
      exact ⟨hj, ρ j, x, R.lt' j hj, (R.r j hj).symm, e, (Option.some.inj h).symm⟩
  · cases h
theorem mv_ext (R : Rn n up up' π ρ) {a b : Rw} (ha : ∀ k, n ≤ k → a k = none) (hb : ∀ k, n ≤ k → b k = none) (h : ∀ k, k < n → a (π k) = b (π k)) : a = b := by
  funext j
  rcases Nat.lt_or_ge j n with hj | hj
  · have := h (ρ j) (R.lt' j hj)
    rw [R.r j hj] at this
    exact this
  · rw [ha j hj, hb j hj]
theorem mv_out (j : Nat) (hj : n ≤ j) : mv n ρ ν r j = none := if_neg (by omega)
theorem mv_none (R : Rn n up up' π ρ) {k : Nat} (hk : k < n) : mv n ρ ν r (π k) = none ↔ r k = none := by
  rw [mv_at R hk]
  cases r k <;> simp
theorem mv_st (R : Rn n up up' π ρ) (hp : p < n) (v : Option Int) : mv n ρ ν (st r p v) = st (mv n ρ ν r) (π p) (v.map ν) := by
  refine mv_ext R mv_out (fun k h => ?_) fun k hk => ?_
  · have := R.lt p hp
    rw [st_ne (by omega)]
    exact mv_out k h
  · rw [mv_at R hk]
    by_cases e : k = p
    · subst e; rw [st_same, st_same]
    · rw [st_ne e, st_ne fun z => e (R.inj hk hp z), mv_at R hk]
theorem Ok.mv (R : Rn n up up' π ρ) (m : Nm S ν) (hS : In S r) (o : Ok n r) : Ok n (mv n ρ ν r) := by
  refine ⟨fun k h => mv_out k h, fun j k x hj hk => ?_⟩
  obtain ⟨h1, a, xa, ha, rfl, ra, ex⟩ := mv_some R hj
  obtain ⟨h2, b, xb, hb, rfl, rb, ey⟩ := mv_some R hk
  have := m.inj (hS a xa ra) (hS b xb rb) (by rw [← ex, ← ey])
  subst this
  rw [o.inj a b xa ra rb]
theorem Ar.mv (R : Rn n up up' π ρ) (m : Nm S ν) (hS : In S r) (a : Ar n up r) : Ar n up' (mv n ρ ν r) := by
  refine ⟨fun k h => mv_out k h, fun k x h => ?_, (a.ok.mv R m hS).inj, fun k x hk h => ?_⟩
  · obtain ⟨_, b, xb, hb, rfl, rb, rfl⟩ := mv_some R h
    exact m.nn _ (hS b xb rb)
  · obtain ⟨_, b, xb, hb, rfl, rb, rfl⟩ := mv_some R h
    have hb0 := (R.pos hb).mp hk
    obtain ⟨y, hy, hlt⟩ := a.ord b xb hb0 rb
    refine ⟨ν y, ?_, m.mono _ _ (hS _ _ hy) (hS _ _ rb) hlt⟩
    have := R.c.lt b hb0
    rw [R.up b hb0 hb, mv_at R (by omega), hy]
    rfl
theorem best_mv (R : Rn n up up' π ρ) (m : Nm S ν) (hS : In S r) {l : Nat} {x : Int} (h : Best n up r p l x) : Best n up' (Mv.mv n ρ ν r) (π p) (π l) (ν x) := by
  obtain ⟨⟨a1, a2, a3⟩, b, c⟩ := h
  refine ⟨⟨(R.pos a2).mpr a1, R.lt l a2, by rw [R.up l a1 a2, a3]⟩, by rw [mv_at R a2, b]; rfl, fun j y h0 hj hu hy => ?_⟩
  obtain ⟨_, k, z, hk, rfl, rk, rfl⟩ := mv_some R hy
  have k0 := (R.pos hk).mp h0
  have hlt := R.c.lt k k0
  rw [R.up k k0 hk] at hu
  have hp : p < n := by have := R.c.lt l a1; omega
  have := R.inj (by omega) hp hu
  exact m.le (hS _ _ b) (hS _ _ rk) (c k z k0 hk this rk)
theorem nobest_mv (R : Rn n up up' π ρ) (hp : p < n) (h : NoBest n up r p) : NoBest n up' (Mv.mv n ρ ν r) (π p) := by
  intro j h0 hj hu
  have hk := R.lt' j hj
  rw [← R.r j hj] at hu h0 ⊢
  have k0 := (R.pos hk).mp h0
  have hlt := R.c.lt _ k0
  rw [R.up _ k0 hk] at hu
  rw [mv_none R hk]
  exact h _ k0 hk (R.inj (by omega) hp hu)
theorem In.mvU (hS : In S r) {l : Nat} {x : Int} (hl : r l = some x) : In S (mvU r p l x) := by
  intro k y h
  rw [mvU_at] at h
  split at h
  · cases h
  · split at h
    · cases h; exact hS l x hl
    · exact hS k y h
theorem In.clear (hS : In S r) : In S (st r p none) := by
  intro k y h
  unfold st at h
  split at h
  · cases h
  · exact hS k y h
/-- leaving follows the renumbering -/
theorem Lv.mv {q : Nat} {ms : List (Int × Nat × Nat)} (R : Rn n up up' π ρ) (m : Nm S ν) (h : Lv n up r p r' q ms) : In S r → p < n →
    Lv n up' (Mv.mv n ρ ν r) (π p) (Mv.mv n ρ ν r') (π q) (ms.map fun t => (ν t.1, π t.2.1, π t.2.2)) := by
  induction h with
  | stop hn => exact fun _ hp => .stop (nobest_mv R hp hn)
  | @step r r' p l q x ms b _ ih =>
    intro hS hp
    have b2 := b.1.2.1
    refine .step (best_mv R m hS b) ?_
    have e : Mv.mvU (Mv.mv n ρ ν r) (π p) (π l) (ν x) = Mv.mv n ρ ν (Mv.mvU r p l x) := by
      unfold Mv.mvU
      rw [mv_st R b2, mv_st R hp]
      rfl
    rw [e]
    exact ih (In.mvU hS b.2.1) b2
theorem Lv.inS {q : Nat} {ms : List (Int × Nat × Nat)} (h : Lv n up r p r' q ms) : In S r → In S r' := by
  induction h with
  | stop _ => exact fun h => h
  | step b _ ih => exact fun h => ih (In.mvU h b.2.1)
/-- one who leaves: the result in the new numbers is the result there -/
theorem leave_mv {q q2 : Nat} {ms ms2 : List (Int × Nat × Nat)} {r2 : Rw} (R : Rn n up up' π ρ) (m : Nm S ν) (o : Ok n r) (hS : In S r) (hp : p < n)
    (h : Lv n up (st r p none) p r' q ms) (h2 : Lv n up' (st (Mv.mv n ρ ν r) (π p) none) (π p) r2 q2 ms2) :
    r2 = Mv.mv n ρ ν r' ∧ q2 = π q ∧ ms2 = ms.map fun t => (ν t.1, π t.2.1, π t.2.2) := by
  have h3 := h.mv R m hS.clear hp
  rw [mv_st R hp] at h3
  exact h2.one ((o.mv R m hS).clear _) (R.lt p hp) h3

/-! ### the posts of a person after each departure -/
inductive Ca (n : Nat) (up : Nat → Nat) (x : Int) : Rw → List Int → List Nat → Prop
  | nil {r : Rw} : Ca n up x r [] []
  | cons {r r' : Rw} {y : Int} {ys : List Int} {k q j : Nat} {ms : List (Int × Nat × Nat)} {js : List Nat} : r k = some y → Lv n up (st r k none) k r' q ms → r' j = some x → Ca n up x r' ys js → Ca n up x r (y :: ys) (j :: js)
theorem Ca.mv {x : Int} {ys : List Int} {js : List Nat} (R : Rn n up up' π ρ) (m : Nm S ν) (h : Ca n up x r ys js) : ∀ {js2 : List Nat}, Ok n r → In S r → Ca n up' (ν x) (Mv.mv n ρ ν r) (ys.map ν) js2 → js2 = js.map π := by
  induction h with
  | nil =>
    intro js2 _ _ h2
    cases h2
    rfl
  | @cons r r' y ys k q j ms js hk hl hj _ ih =>
    intro js2 o hS h2
    cases h2 with
    | @cons _ r2 _ _ k2 q2 j2 ms2 js2 hk2 hl2 hj2 t2 =>
      have kn := o.lt hk
      have o2 := o.mv R m hS
      have e1 : k2 = π k := o2.inj k2 (π k) (ν y) hk2 (by rw [mv_at R kn, hk]; rfl)
      subst e1
      obtain ⟨e2, _, _⟩ := leave_mv R m o hS kn hl hl2
      subst e2
      have o3 : Ok n r' := hl.ok (o.clear k) kn
      have hS3 : In S r' := hl.inS hS.clear
      have jn := o3.lt hj
      have e3 : j2 = π j := (o3.mv R m hS3).inj j2 (π j) (ν x) hj2 (by rw [mv_at R jn, hj]; rfl)
      rw [e3, ih o3 hS3 t2]
      rfl
end
end Mv

/-! Who is where; the remaining people placed anew; joining. Plain Lean. -/
namespace Mv
section
variable {n : Nat} {up up' π ρ : Nat → Nat} {S : Int → Prop} {ν : Int → Int} {r r' : Rw} {p : Nat}
/-- along a path the people grow -/
theorem path_le (c : Ch n up) (a : Ar n up r) {d k : Nat} : ∀ {x y : Int}, d ∈ pth up k → r d = some x → r k = some y → x ≤ y := by
  refine c.ind (P := fun k => ∀ {x y : Int}, d ∈ pth up k → r d = some x → r k = some y → x ≤ y) (fun k ih x y hm hx hy => ?_) k
  rcases (mem_pth c).mp hm with e | ⟨hk, hm⟩
  · subst e
    rw [hx] at hy
    cases hy
    exact Int.le_refl _
  · obtain ⟨z, hz, hlt⟩ := a.ord k y hk hy
    have := ih hk hm hx hz
    omega
/-- above a held post every post is held -/
theorem path_held (c : Ch n up) (a : Ar n up r) {d k : Nat} : ∀ {y : Int}, d ∈ pth up k → r k = some y → ∃ x, r d = some x := by
  refine c.ind (P := fun k => ∀ {y : Int}, d ∈ pth up k → r k = some y → ∃ x, r d = some x) (fun k ih y hm hy => ?_) k
  rcases (mem_pth c).mp hm with e | ⟨hk, hm⟩
  · exact ⟨y, e ▸ hy⟩
  · obtain ⟨z, hz, _⟩ := a.ord k y hk hy
    exact ih hk hm hz

/-! ### the remaining people, from the most senior on, each at the highest free post of the path -/
def fr (up : Nat → Nat) (r : Rw) (q : Nat) : Option Nat := (pth up q).find? fun k => (r k).isNone
def put1 (up : Nat → Nat) (r : Rw) (q : Nat) (x : Int) : Rw := match fr up r q with
  | some f => st r f (some x)
  | none => r
def red (up : Nat → Nat) : List (Int × Nat) → Rw → Rw
  | [], r => r
  | t :: ts, r => red up ts (put1 up r t.2 t.1)
theorem fr_mem {q f : Nat} (h : fr up r q = some f) : f ∈ pth up q ∧ r f = none := by
  refine ⟨List.mem_of_find?_eq_some h, ?_⟩
  have := List.find?_some h
  cases e : r f with
  | none => rfl
  | some x => simp only [e] at this; cases this
theorem put1_some {q f : Nat} {x : Int} (h : fr up r q = some f) : put1 up r q x = st r f (some x) := by
  unfold put1
  rw [h]
theorem put1_none {q : Nat} {x : Int} (h : fr up r q = none) : put1 up r q x = r := by
  unfold put1
  rw [h]
theorem fr_mv (R : Rn n up up' π ρ) {q : Nat} (hq : q < n) : fr up' (mv n ρ ν r) (π q) = (fr up r q).map π := by
  unfold fr
  rw [R.pth hq, List.find?_map]
  congr 1
  have h : ∀ k ∈ pth up q, ((fun k => (mv n ρ ν r k).isNone) ∘ π) k = (fun k => (r k).isNone) k := fun k hk => by
    have := le_of_mem R.c hk
    show (mv n ρ ν r (π k)).isNone = (r k).isNone
    rw [mv_at R (by omega)]
    cases r k <;> rfl
  revert h
  generalize pth up q = l
  intro h
  induction l with
  | nil => rfl
  | cons a l ih =>
    rw [List.find?_cons, List.find?_cons, h a List.mem_cons_self, ih fun k hk => h k (List.mem_cons_of_mem _ hk)]
theorem put1_out (R : Ch n up) {q : Nat} (hq : q < n) {x : Int} (h : ∀ k, n ≤ k → r k = none) : ∀ k, n ≤ k → put1 up r q x k = none := by
  intro k hk
  cases hf : fr up r q with
  | some f =>
    have := le_of_mem R (fr_mem hf).1
    rw [put1_some hf, st_ne (by omega)]
    exact h k hk
  | none =>
    rw [put1_none hf]
    exact h k hk
theorem put1_mv (R : Rn n up up' π ρ) {q : Nat} (hq : q < n) (x : Int) : put1 up' (mv n ρ ν r) (π q) (ν x) = mv n ρ ν (put1 up r q x) := by
  unfold put1
  rw [fr_mv R hq]
  cases e : fr up r q with
  | none => rfl
  | some f =>
    have := le_of_mem R.c (fr_mem e).1
    show st (mv n ρ ν r) (π f) (some (ν x)) = mv n ρ ν (st r f (some x))
    rw [mv_st R (by omega)]
    rfl
theorem red_mv (R : Rn n up up' π ρ) : ∀ (ts : List (Int × Nat)) (r : Rw), (∀ t ∈ ts, t.2 < n) → red up' (ts.map fun t => (ν t.1, π t.2)) (mv n ρ ν r) = mv n ρ ν (red up ts r)
  | [], _, _ => rfl
  | t :: ts, r, h => by
    show red up' _ (put1 up' (mv n ρ ν r) (π t.2) (ν t.1)) = _
    rw [put1_mv R (h t List.mem_cons_self)]
    exact red_mv R ts _ fun u hu => h u (List.mem_cons_of_mem _ hu)
/-- the posts taken so far lie on the paths of those who have been placed -/
def Tk (up : Nat → Nat) (ds : List Nat) (g : Rw) : Prop := ∀ k, g k ≠ none → ∃ d ∈ ds, k ∈ pth up d
theorem Tk.put {ds : List Nat} {g : Rw} {q : Nat} {x : Int} (h : Tk up ds g) : Tk up (ds ++ [q]) (put1 up g q x) := by
  intro k hk
  cases hf : fr up g q with
  | some f =>
    rw [put1_some hf] at hk
    by_cases e : k = f
    · subst e
      exact ⟨q, by simp, (fr_mem hf).1⟩
    · rw [st_ne e] at hk
      obtain ⟨d, hd, hm⟩ := h k hk
      exact ⟨d, by simp [hd], hm⟩
  | none =>
    rw [put1_none hf] at hk
    obtain ⟨d, hd, hm⟩ := h k hk
    exact ⟨d, by simp [hd], hm⟩
/-- somebody who is more senior than all who have been placed finds the own post free -/
theorem Tk.free (c : Ch n up) (a : Ar n up r) {ds : List Nat} {g : Rw} {q : Nat} {x : Int} (h : Tk up ds g) (hq : r q = some x) (hd : ∀ d ∈ ds, ∃ y, r d = some y ∧ y < x) : ∃ f, fr up g q = some f := by
  cases e : fr up g q with
  | some f => exact ⟨f, rfl⟩
  | none =>
    have := List.find?_eq_none.mp e q (mem_self c q)
    have hn : g q ≠ none := fun z => this (by simp only [z]; rfl)
    obtain ⟨d, hm, hp⟩ := h q hn
    obtain ⟨y, hy, hlt⟩ := hd d hm
    have := path_le c a hp hq hy
    omega
theorem Tk.nil : Tk up [] (fun _ => none) := fun k h => absurd rfl h

/-! ### sorted lists in the new numbers -/
theorem sorted_map {xs ys zs : List Int} (m : Nm S ν) (hS : ∀ x ∈ xs, S x) (p1 : ys.Perm xs) (s1 : ys.Pairwise (· ≤ ·)) (p2 : zs.Perm (xs.map ν)) (s2 : zs.Pairwise (· ≤ ·)) : zs = ys.map ν := by
  refine sorted_one (p2.trans (p1.symm.map ν)) s2 ?_
  rw [List.pairwise_map]
  exact s1.imp_of_mem fun {a b} ha hb h => m.le (hS a (p1.mem_iff.mp ha)) (hS b (p1.mem_iff.mp hb)) h

/-! ### the people of a path written anew -/
def wr : List (Nat × Int) → Rw → Rw
  | [], r => r
  | t :: ts, r => wr ts (st r t.1 (some t.2))
theorem wr_mv (R : Rn n up up' π ρ) : ∀ (ts : List (Nat × Int)) (r : Rw), (∀ t ∈ ts, t.1 < n) → wr (ts.map fun t => (π t.1, ν t.2)) (mv n ρ ν r) = mv n ρ ν (wr ts r)
  | [], _, _ => rfl
  | t :: ts, r, h => by
    show wr _ (st (mv n ρ ν r) (π t.1) (some (ν t.2))) = _
    have := mv_st (ν := ν) (r := r) R (h t List.mem_cons_self) (some t.2)
    rw [show (some (ν t.2)) = (some t.2 : Option Int).map ν from rfl, ← this]
    exact wr_mv R ts _ fun u hu => h u (List.mem_cons_of_mem _ hu)
theorem zip_map2 (f : Nat → Nat) (g : Int → Int) : ∀ (as : List Nat) (bs : List Int), (as.map f).zip (bs.map g) = (as.zip bs).map fun t => (f t.1, g t.2)
  | [], _ => rfl
  | _ :: _, [] => rfl
  | a :: as, b :: bs => by
    show (f a, g b) :: (as.map f).zip (bs.map g) = _
    rw [zip_map2 f g as bs]
    rfl
/-- the open posts -/
def opn (up : Nat → Nat) (r : Rw) (k : Nat) : Bool := (r k).isNone && (decide (k = 0) || (r (up k)).isSome)
theorem opn_mv (R : Rn n up up' π ρ) {k : Nat} (hk : k < n) : opn up' (mv n ρ ν r) (π k) = opn up r k := by
  unfold opn
  rw [mv_at R hk]
  have e1 : ((r k).map ν).isNone = (r k).isNone := by cases r k <;> rfl
  rw [e1]
  congr 1
  by_cases h : 0 < k
  · have := R.c.lt k h
    have h2 := (R.pos hk).mpr h
    rw [R.up k h hk, mv_at R (by omega), decide_eq_false (by omega), decide_eq_false (by omega)]
    cases r (up k) <;> rfl
  · obtain rfl : k = 0 := by omega
    rw [R.z]
    rfl
theorem below_mv (R : Rn n up up' π ρ) (hp : p < n) {k : Nat} (hk : k < n) : decide (π p ∈ pth up' (π k)) = decide (p ∈ pth up k) := by
  have := R.mem hp hk
  by_cases h : p ∈ pth up k
  · rw [decide_eq_true h, decide_eq_true (this.mpr h)]
  · rw [decide_eq_false h, decide_eq_false fun z => h (this.mp z)]
end
end Mv

/-! Filling posts; a renumbering drawn. Plain Lean. -/
namespace Mv
/-- how many posts are held -/
def cnt : Nat → Rw → Nat
  | 0, _ => 0
  | n + 1, r => cnt n r + if (r n).isSome = true then 1 else 0
theorem cnt_le : ∀ (n : Nat) (r : Rw), cnt n r ≤ n
  | 0, _ => Nat.le_refl _
  | n + 1, r => by
    have := cnt_le n r
    unfold cnt
    split <;> omega
theorem cnt_congr : ∀ {n : Nat} {r r' : Rw}, (∀ k, k < n → r k = r' k) → cnt n r = cnt n r'
  | 0, _, _, _ => rfl
  | n + 1, r, r', h => by
    unfold cnt
    rw [cnt_congr (n := n) fun k hk => h k (by omega), h n (by omega)]
theorem cnt_put : ∀ {n : Nat} {r : Rw} {p : Nat} {x : Int}, p < n → r p = none → cnt n (st r p (some x)) = cnt n r + 1
  | 0, _, _, _, h, _ => by omega
  | n + 1, r, p, x, h, hp => by
    unfold cnt
    by_cases e : p = n
    · subst e
      rw [st_same, hp, cnt_congr (n := p) (r' := r) fun k hk => st_ne (by omega)]
      rfl
    · rw [cnt_put (by omega) hp, st_ne (by omega)]
      omega
theorem cnt_free : ∀ {n : Nat} {r : Rw}, cnt n r < n → ∃ k, k < n ∧ r k = none
  | 0, _, h => by omega
  | n + 1, r, h => by
    unfold cnt at h
    cases e : r n with
    | none => exact ⟨n, by omega, e⟩
    | some x =>
      rw [e] at h
      obtain ⟨k, hk, hr⟩ := cnt_free (n := n) (r := r) (by simpa using h)
      exact ⟨k, by omega, hr⟩
theorem cnt_none {n : Nat} : cnt n (fun _ => none) = 0 := by
  induction n with
  | zero => rfl
  | succ n ih => unfold cnt; rw [ih]; rfl
section
variable {n : Nat} {up : Nat → Nat} {r : Rw}
theorem open_of (c : Ch n up) {k : Nat} (hk : k < n) (h : r k = none) : ∃ p, p < n ∧ opn up r p = true := by
  have := c.ind (P := fun k => k < n → r k = none → ∃ p, p < n ∧ opn up r p = true) (fun k ih hk h => ?_) k hk h
  · exact this
  · by_cases h0 : k = 0
    · exact ⟨k, hk, by unfold opn; rw [h, decide_eq_true h0]; rfl⟩
    · have := c.lt k (by omega)
      cases e : r (up k) with
      | none => exact ih (by omega) (by omega) e
      | some x => exact ⟨k, hk, by unfold opn; rw [h, e]; simp⟩
/-- a greater number at an open post -/
theorem Ar.put (c : Ch n up) (a : Ar n up r) {p : Nat} {x : Int} (hp : p < n) (ho : opn up r p = true) (h0 : 0 ≤ x) (hx : ∀ k y, r k = some y → y < x) : Ar n up (st r p (some x)) := by
  have hr : r p = none ∧ (p = 0 ∨ ∃ y, r (up p) = some y) := by
    unfold opn at ho
    rw [Bool.and_eq_true, Bool.or_eq_true] at ho
    obtain ⟨h1, h2⟩ := ho
    refine ⟨by simpa using h1, ?_⟩
    rcases h2 with h2 | h2
    · exact .inl (of_decide_eq_true h2)
    · exact .inr (Option.isSome_iff_exists.mp h2)
  have o := a.ok.put (p := p) (x := x) hp (fun k e => by have := hx k x e; omega)
  refine ⟨o.out, fun k y hy => ?_, o.inj, fun k y hk hy => ?_⟩
  · by_cases e : k = p
    · rw [e, st_same] at hy
      injection hy with hy
      omega
    · rw [st_ne e] at hy
      exact a.nn k y hy
  · by_cases e : k = p
    · subst e
      rw [st_same] at hy
      injection hy with hy
      rcases hr.2 with e0 | ⟨z, hz⟩
      · omega
      · have := c.lt k hk
        exact ⟨z, by rw [st_ne (by omega)]; exact hz, by have := hx _ _ hz; omega⟩
    · rw [st_ne e] at hy
      obtain ⟨z, hz, hlt⟩ := a.ord k y hk hy
      refine ⟨z, ?_, hlt⟩
      rw [st_ne]
      · exact hz
      · rintro rfl
        rw [hr.1] at hz
        cases hz
theorem Ar.empty : Ar n up (fun _ => none) := by
  refine ⟨fun _ _ => rfl, fun k x h => ?_, fun j k x h => ?_, fun k x _ h => ?_⟩
  · cases h
  · cases h
  · cases h
end
/-! ### a list without repetition, below n -/
theorem nodup_len : ∀ (n : Nat) (l : List Nat), l.Nodup → (∀ x ∈ l, x < n) → l.length ≤ n
  | 0, l, _, h => by
    cases l with
    | nil => exact Nat.le_refl _
    | cons a l => exact absurd (h a List.mem_cons_self) (by omega)
  | n + 1, l, nd, h => by
    by_cases e : n ∈ l
    · have h1 := nodup_len n (l.erase n) (nd.erase n) (fun x hx => by
        have hm := (List.Nodup.mem_erase_iff nd).mp hx
        have := h x hm.2
        omega)
      rw [List.length_erase_of_mem e] at h1
      omega
    · have := nodup_len n l nd fun x hx => by
        have := h x hx
        have : x ≠ n := fun q => e (q ▸ hx)
        omega
      omega
/-! ### a renumbering -/
structure Pm (n : Nat) (up : Nat → Nat) (π ρ : Nat → Nat) : Prop where
  lt : ∀ k, k < n → π k < n
  lt' : ∀ j, j < n → ρ j < n
  l : ∀ k, k < n → ρ (π k) = k
  r : ∀ j, j < n → π (ρ j) = j
  z : π 0 = 0
  mono : ∀ k, 0 < k → k < n → π (up k) < π k
def nup (n : Nat) (up π ρ : Nat → Nat) (j : Nat) : Nat := if 0 < j ∧ j < n then π (up (ρ j)) else 0
theorem Pm.rn {n : Nat} {up π ρ : Nat → Nat} (c : Ch n up) (m : Pm n up π ρ) : Rn n up (nup n up π ρ) π ρ := by
  have pos : ∀ j, 0 < j → j < n → 0 < ρ j := fun j h0 hj => by
    rcases Nat.eq_zero_or_pos (ρ j) with e | e
    · have := m.r j hj
      rw [e, m.z] at this
      omega
    · exact e
  refine ⟨c, ⟨c.pos, ?_, fun k hk => ?_⟩, m.lt, m.lt', m.l, m.r, m.z, fun k hk hn => ?_⟩
  · unfold nup
    rw [if_neg (by omega)]
  · unfold nup
    split
    · rename_i h
      have := m.mono (ρ k) (pos k h.1 h.2) (m.lt' k h.2)
      rw [m.r k h.2] at this
      exact this
    · exact hk
  · have h0 : 0 < π k := by
      have := m.mono k hk hn
      omega
    unfold nup
    rw [if_pos ⟨h0, m.lt k hn⟩, m.l k hn]
theorem perm_er {α : Type} : ∀ {xs : List α} {k : Nat} {y : α}, xs[k]? = some y → (y :: xs.eraseIdx k).Perm xs
  | [], _, _, h => by cases h
  | x :: xs, 0, y, h => by
    obtain rfl : x = y := Option.some.inj h
    exact List.Perm.refl _
  | x :: xs, k + 1, y, h => by
    show (y :: x :: xs.eraseIdx k).Perm (x :: xs)
    exact (List.Perm.swap x y _).trans (List.Perm.cons x (perm_er (xs := xs) h))
theorem snoc_at {α : Type} {xs : List α} {x y : α} {k : Nat} (h : (xs ++ [x])[k]? = some y) : (k < xs.length ∧ xs[k]? = some y) ∨ (k = xs.length ∧ y = x) := by
  by_cases e : k < xs.length
  · rw [List.getElem?_append_left e] at h
    exact .inl ⟨e, h⟩
  · rw [List.getElem?_append_right (by omega)] at h
    have h2 := (List.getElem?_eq_some_iff.mp h).1
    have e2 : k - xs.length = 0 := by simpa using h2
    rw [e2] at h
    exact .inr ⟨by omega, (Option.some.inj h).symm⟩
theorem nod_inj {α : Type} {xs : List α} (h : xs.Nodup) {i j : Nat} {x : α} (hi : xs[i]? = some x) (hj : xs[j]? = some x) : i = j := by
  obtain ⟨li, ei⟩ := List.getElem?_eq_some_iff.mp hi
  obtain ⟨lj, ej⟩ := List.getElem?_eq_some_iff.mp hj
  have p := List.pairwise_iff_getElem.mp h
  rcases Nat.lt_trichotomy i j with e | e | e
  · exact absurd (ei.trans ej.symm) (p i j li lj e)
  · exact e
  · exact absurd (ej.trans ei.symm) (p j i lj li e)
/-- the order of the posts so far, and those that may come next -/
structure Od (n : Nat) (up : Nat → Nat) (os ws : List Nat) : Prop where
  nd : (os ++ ws).Nodup
  lt : ∀ k ∈ os ++ ws, k < n
  z : 0 ∈ os ++ ws
  e : os = [] → ws = [0]
  hd : ∀ k, os[0]? = some k → k = 0
  par : ∀ i k, os[i]? = some k → 0 < k → up k ∈ os.take i
  parw : ∀ k ∈ ws, 0 < k → up k ∈ os
  ch : ∀ k, 0 < k → k < n → up k ∈ os → k ∈ os ++ ws
section
variable {n : Nat} {up : Nat → Nat} {os ws ks : List Nat} {p d : Nat}
theorem Od.init (h : 0 < n) : Od n up [] [0] := by
  refine ⟨by simp, fun k hk => ?_, by simp, fun _ => rfl, fun k hk => ?_, fun i k hk => ?_, fun k hk h0 => ?_, fun k _ _ hk => ?_⟩
  · have : k = 0 := by simpa using hk
    omega
  · cases hk
  · cases hk
  · have : k = 0 := by simpa using hk
    omega
  · cases hk
theorem Od.step (o : Od n up os ws) (hd : ws[d]? = some p) (hk : ∀ l, l ∈ ks ↔ 0 < l ∧ l < n ∧ up l = p) (kn : ks.Nodup) : Od n up (os ++ [p]) (ws.eraseIdx d ++ ks) := by
  have hpw : p ∈ ws := List.mem_of_getElem? hd
  have hpo : p ∉ os := fun h => (List.nodup_append.mp o.nd).2.2 p h p hpw rfl
  have pm : (os ++ [p] ++ ws.eraseIdx d).Perm (os ++ ws) := by
    rw [List.append_assoc]
    exact List.Perm.append_left os (perm_er hd)
  have pm2 : (os ++ [p] ++ (ws.eraseIdx d ++ ks)).Perm (os ++ ws ++ ks) := by
    rw [← List.append_assoc]
    exact List.Perm.append_right ks pm
  have mem : ∀ k, k ∈ os ++ [p] ++ (ws.eraseIdx d ++ ks) ↔ k ∈ os ++ ws ∨ k ∈ ks := fun k => by
    rw [pm2.mem_iff, List.mem_append]
  have up_os : ∀ k ∈ os ++ ws, 0 < k → up k ∈ os := fun k hk h0 => by
    rcases List.mem_append.mp hk with h | h
    · obtain ⟨i, hi⟩ := List.mem_iff_getElem?.mp h
      exact List.mem_of_mem_take (o.par i k hi h0)
    · exact o.parw k h h0
  refine ⟨?_, fun k h => ?_, ?_, fun h => ?_, fun k h => ?_, fun i k h h0 => ?_, fun k h h0 => ?_, fun k h0 hn hu => ?_⟩
  · refine pm2.nodup_iff.mpr (List.nodup_append.mpr ⟨o.nd, kn, fun a ha b hb e => ?_⟩)
    subst e
    obtain ⟨h0, _, hu⟩ := (hk a).mp hb
    exact hpo (hu ▸ up_os a ha h0)
  · rcases (mem k).mp h with h | h
    · exact o.lt k h
    · exact ((hk k).mp h).2.1
  · exact (mem 0).mpr (.inl o.z)
  · simp at h
  · cases os with
    | nil =>
      have hw := o.e rfl
      subst hw
      have e1 : d = 0 := by
        have := (List.getElem?_eq_some_iff.mp hd).1
        simpa using this
      subst e1
      have : (0 : Nat) = p := Option.some.inj hd
      have : p = k := Option.some.inj h
      omega
    | cons a os => exact o.hd k h
  · rcases snoc_at h with ⟨hi, h⟩ | ⟨hi, h⟩
    · rw [List.take_append_of_le_length (by omega)]
      exact o.par i k h h0
    · subst h
      rw [List.take_append_of_le_length (by omega), hi, List.take_length]
      exact o.parw k hpw h0
  · rcases List.mem_append.mp h with h | h
    · exact List.mem_append_left _ (o.parw k (List.mem_of_mem_eraseIdx h) h0)
    · rw [((hk k).mp h).2.2]
      simp
  · rcases List.mem_append.mp hu with h | h
    · exact (mem k).mpr (.inl (o.ch k h0 hn h))
    · exact (mem k).mpr (.inr ((hk k).mpr ⟨h0, hn, List.mem_singleton.mp h⟩))
theorem Od.len (o : Od n up os ws) (h : ws ≠ []) : os.length < n := by
  have := nodup_len n _ o.nd o.lt
  rw [List.length_append] at this
  have := List.length_pos_iff.mpr h
  omega
theorem Od.all (c : Ch n up) (o : Od n up os []) (k : Nat) (hk : k < n) : k ∈ os := by
  have := c.ind (P := fun k => k < n → k ∈ os) (fun k ih hk => ?_) k hk
  · exact this
  · by_cases h0 : k = 0
    · subst h0
      have := o.z
      rwa [List.append_nil] at this
    · have h1 := c.lt k (by omega)
      have := o.ch k (by omega) hk (ih (by omega) (by omega))
      rwa [List.append_nil] at this
theorem idx_at {l : List Nat} {k : Nat} : k ∈ l → l[l.idxOf k]? = some k := by
  induction l with
  | nil => intro h; cases h
  | cons a l ih =>
    intro h
    by_cases e : a = k
    · subst e
      rw [List.idxOf_cons_self]
      rfl
    · have e2 : (a :: l).idxOf k = l.idxOf k + 1 := by
        rw [List.idxOf_cons]
        have : (a == k) = false := by simpa using e
        rw [this]
        rfl
      rw [e2]
      rcases List.mem_cons.mp h with h | h
      · exact absurd h.symm e
      · exact ih h
theorem Od.pm (c : Ch n up) (o : Od n up os []) : os.length = n ∧ Pm n up (fun k => os.idxOf k) (fun j => (os[j]?).getD 0) := by
  have nd : os.Nodup := by have := o.nd; rwa [List.append_nil] at this
  have lt : ∀ k ∈ os, k < n := fun k hk => o.lt k (by rw [List.append_nil]; exact hk)
  have all := o.all c
  have len : os.length = n := by
    have := ((List.perm_ext_iff_of_nodup nd (List.nodup_range (n := n))).mpr fun a => ⟨fun h => List.mem_range.mpr (lt a h), fun h => all a (List.mem_range.mp h)⟩).length_eq
    rwa [List.length_range] at this
  have at_ : ∀ k, k < n → os[os.idxOf k]? = some k := fun k hk => idx_at (all k hk)
  have ltp : ∀ k, k < n → os.idxOf k < n := fun k hk => by
    have := (List.getElem?_eq_some_iff.mp (at_ k hk)).1
    omega
  have get : ∀ j, j < n → ∃ k, os[j]? = some k ∧ k < n := fun j hj => by
    refine ⟨os[j]'(by omega), List.getElem?_eq_getElem (by omega), lt _ (List.getElem_mem _)⟩
  refine ⟨len, ltp, fun j hj => ?_, fun k hk => ?_, fun j hj => ?_, ?_, fun k h0 hk => ?_⟩
  · obtain ⟨k, e, hk⟩ := get j hj
    show (os[j]?).getD 0 < n
    rw [e]
    exact hk
  · show (os[os.idxOf k]?).getD 0 = k
    rw [at_ k hk]
    rfl
  · obtain ⟨k, e, hk⟩ := get j hj
    show os.idxOf ((os[j]?).getD 0) = j
    rw [e]
    exact nod_inj nd (at_ k hk) e
  · obtain ⟨k, e, hk⟩ := get 0 c.pos
    have := o.hd k e
    subst this
    exact nod_inj nd (at_ 0 hk) e
  · have h1 := o.par _ k (at_ k hk) h0
    obtain ⟨j, hj⟩ := List.mem_iff_getElem?.mp h1
    have hlt : j < os.idxOf k := by
      have := (List.getElem?_eq_some_iff.mp hj).1
      rw [List.length_take] at this
      omega
    rw [List.getElem?_take, if_pos hlt] at hj
    have hu := c.lt k h0
    have : os.idxOf (up k) = j := nod_inj nd (at_ (up k) (by omega)) hj
    show os.idxOf (up k) < os.idxOf k
    omega
end
end Mv

/-! Where somebody is; what is placed anew stays among the names. Plain Lean. -/
namespace Mv
def pso (n : Nat) (r : Rw) (x : Int) : Nat := ((List.range n).find? fun k => decide (r k = some x)).getD 0
section
variable {n : Nat} {up up' π ρ : Nat → Nat} {S : Int → Prop} {ν : Int → Int} {r r' : Rw} {p : Nat}
theorem pso_at {x : Int} (h : ∃ k, k < n ∧ r k = some x) : pso n r x < n ∧ r (pso n r x) = some x := by
  obtain ⟨k, hk, hx⟩ := h
  unfold pso
  cases e : (List.range n).find? fun k => decide (r k = some x) with
  | none =>
    have := List.find?_eq_none.mp e k (List.mem_range.mpr hk)
    exact absurd (decide_eq_true hx) this
  | some j =>
    have h1 := List.mem_of_find?_eq_some e
    have h2 := List.find?_some e
    exact ⟨List.mem_range.mp h1, of_decide_eq_true h2⟩
theorem pso_eq (inj : ∀ j k x, r j = some x → r k = some x → j = k) {k : Nat} {x : Int} (hk : k < n) (hx : r k = some x) : pso n r x = k :=
  inj _ _ x (pso_at ⟨k, hk, hx⟩).2 hx
theorem st_in {x : Int} (h : In S r) (hx : S x) : In S (st r p (some x)) := fun k y hy => by
  by_cases e : k = p
  · rw [e, st_same] at hy
    exact Option.some.inj hy ▸ hx
  · rw [st_ne e] at hy
    exact h k y hy
theorem put1_in {q : Nat} {x : Int} (h : In S r) (hx : S x) : In S (put1 up r q x) := by
  unfold put1
  split
  · exact st_in h hx
  · exact h
theorem red_in : ∀ {ts : List (Int × Nat)} {r : Rw}, In S r → (∀ t ∈ ts, S t.1) → In S (red up ts r)
  | [], _, h, _ => h
  | t :: ts, r, h, ht => red_in (ts := ts) (put1_in h (ht t List.mem_cons_self)) fun u hu => ht u (List.mem_cons_of_mem _ hu)
theorem wr_in : ∀ {ts : List (Nat × Int)} {r : Rw}, In S r → (∀ t ∈ ts, S t.2) → In S (wr ts r)
  | [], _, h, _ => h
  | t :: ts, r, h, ht => wr_in (ts := ts) (st_in h (ht t List.mem_cons_self)) fun u hu => ht u (List.mem_cons_of_mem _ hu)
theorem mv_empty : mv n ρ ν (fun _ => none) = fun _ => none := by
  funext j
  unfold mv
  split <;> rfl
theorem red_mv2 (R : Rn n up up' π ρ) (m : Nm S ν) (o : Ok n r) (hS : In S r) {zs : List Int} (hz : ∀ x ∈ zs, ∃ k, k < n ∧ r k = some x) :
    red up' ((zs.map ν).map fun y => (y, pso n (mv n ρ ν r) y)) (fun _ => none) = mv n ρ ν (red up (zs.map fun x => (x, pso n r x)) fun _ => none) := by
  rw [← red_mv R _ _ fun t ht => ?_, mv_empty]
  · congr 1
    rw [List.map_map, List.map_map]
    refine List.map_congr_left fun x hx => ?_
    obtain ⟨h1, h2⟩ := pso_at (hz x hx)
    show (ν x, pso n (mv n ρ ν r) (ν x)) = (ν x, π (pso n r x))
    rw [pso_eq (o.mv R m hS).inj (R.lt _ h1)]
    rw [mv_at R h1, h2]
    rfl
  · obtain ⟨x, hx, rfl⟩ := List.mem_map.mp ht
    exact (pso_at (hz x hx)).1
end
end Mv

/-! A departure always comes to its end. Plain Lean. -/
namespace Mv
section
variable {n : Nat} {up : Nat → Nat} {r r' : Rw} {p : Nat}
theorem best_or (n : Nat) (up : Nat → Nat) (r : Rw) (p : Nat) : NoBest n up r p ∨ ∃ l x, Best n up r p l x := by
  have key : ∀ b, b ≤ n → (∀ m, 0 < m → m < b → up m = p → r m = none) ∨ ∃ l x, (0 < l ∧ l < n ∧ up l = p) ∧ r l = some x ∧ ∀ m y, 0 < m → m < b → up m = p → r m = some y → x ≤ y := by
    intro b
    induction b with
    | zero => exact fun _ => .inl fun m _ h => by omega
    | succ b ih =>
      intro hb
      by_cases hc : 0 < b ∧ up b = p ∧ ∃ y, r b = some y
      · obtain ⟨h0, hu, y, hy⟩ := hc
        rcases ih (by omega) with h | ⟨l, x, h1, h2, h3⟩
        · refine .inr ⟨b, y, ⟨h0, by omega, hu⟩, hy, fun m z g0 g1 g2 g3 => ?_⟩
          by_cases e : m = b
          · rw [e, hy] at g3
            have := Option.some.inj g3
            omega
          · rw [h m g0 (by omega) g2] at g3
            cases g3
        · by_cases hxy : x ≤ y
          · refine .inr ⟨l, x, h1, h2, fun m z g0 g1 g2 g3 => ?_⟩
            by_cases e : m = b
            · rw [e, hy] at g3
              have := Option.some.inj g3
              omega
            · exact h3 m z g0 (by omega) g2 g3
          · refine .inr ⟨b, y, ⟨h0, by omega, hu⟩, hy, fun m z g0 g1 g2 g3 => ?_⟩
            by_cases e : m = b
            · rw [e, hy] at g3
              have := Option.some.inj g3
              omega
            · have := h3 m z g0 (by omega) g2 g3
              omega
      · have no : 0 < b → up b = p → r b = none := fun h0 hu => by
          cases e : r b with
          | none => rfl
          | some y => exact (hc ⟨h0, hu, y, e⟩).elim
        rcases ih (by omega) with h | ⟨l, x, h1, h2, h3⟩
        · refine .inl fun m g0 g1 g2 => ?_
          by_cases e : m = b
          · rw [e] at g0 g2 ⊢
            exact no g0 g2
          · exact h m g0 (by omega) g2
        · refine .inr ⟨l, x, h1, h2, fun m z g0 g1 g2 g3 => ?_⟩
          by_cases e : m = b
          · rw [e] at g0 g2 g3
            rw [no g0 g2] at g3
            cases g3
          · exact h3 m z g0 (by omega) g2 g3
  rcases key n (Nat.le_refl _) with h | ⟨l, x, h1, h2, h3⟩
  · exact .inl h
  · exact .inr ⟨l, x, h1, h2, h3⟩
theorem Lv.total (c : Ch n up) : ∀ (d : Nat) (r : Rw) (p : Nat), n - p = d → p < n → ∃ r' q ms, Lv n up r p r' q ms ∧ ms.length ≤ n - p := by
  intro d
  induction d using Nat.strongRecOn with
  | ind d ih =>
    intro r p hd hp
    rcases best_or n up r p with h | ⟨l, x, b⟩
    · exact ⟨r, p, [], .stop h, Nat.zero_le _⟩
    · have h1 := b.1
      have h2 := c.lt l h1.1
      obtain ⟨r', q, ms, lv, hl⟩ := ih (n - l) (by omega) (mvU r p l x) l rfl h1.2.1
      exact ⟨r', q, (x, l, p) :: ms, .step b lv, by rw [List.length_cons]; omega⟩
/-- the numbers in the moves -/
theorem Lv.nums {q : Nat} {ms : List (Int × Nat × Nat)} (c : Ch n up) (h : Lv n up r p r' q ms) : p < n → ∀ t ∈ ms, t.2.1 < n ∧ t.2.2 < n ∧ ∃ k, r k = some t.1 := by
  induction h with
  | stop _ => exact fun _ t ht => by cases ht
  | @step r r' p l q x ms b _ ih =>
    intro hp t ht
    rcases List.mem_cons.mp ht with rfl | ht
    · exact ⟨b.1.2.1, hp, l, b.2.1⟩
    · obtain ⟨h1, h2, k, hk⟩ := ih b.1.2.1 t ht
      refine ⟨h1, h2, ?_⟩
      rw [mvU_at] at hk
      split at hk
      · cases hk
      · split at hk
        · exact ⟨l, by rw [← hk]; exact b.2.1⟩
        · exact ⟨k, hk⟩
end
end Mv

/-! New numbers, list by list. Plain Lean. -/
namespace Mv
def nuOf (ev nv : List Int) (x : Int) : Int := (nv[ev.idxOf x]?).getD 0
theorem idx_int {l : List Int} {k : Int} : k ∈ l → l[l.idxOf k]? = some k := by
  induction l with
  | nil => intro h; cases h
  | cons a l ih =>
    intro h
    by_cases e : a = k
    · subst e
      rw [List.idxOf_cons_self]
      rfl
    · have e2 : (a :: l).idxOf k = l.idxOf k + 1 := by
        rw [List.idxOf_cons]
        have : (a == k) = false := by simpa using e
        rw [this]
        rfl
      rw [e2]
      rcases List.mem_cons.mp h with h | h
      · exact absurd h.symm e
      · exact ih h
theorem nu_nm {ev nv : List Int} (hl : ev.length = nv.length) (se : ev.Pairwise (· < ·)) (sn : nv.Pairwise (· < ·)) (h0 : ∀ y ∈ nv, 0 ≤ y) : Nm (fun x => x ∈ ev) (nuOf ev nv) := by
  have at_ : ∀ x, x ∈ ev → ∃ h : ev.idxOf x < nv.length, nuOf ev nv x = nv[ev.idxOf x] := fun x hx => by
    have h1 := (List.getElem?_eq_some_iff.mp (idx_int hx)).1
    refine ⟨by omega, ?_⟩
    unfold nuOf
    rw [List.getElem?_eq_getElem (by omega)]
    rfl
  refine ⟨fun x y hx hy hxy => ?_, fun x hx => ?_⟩
  · obtain ⟨h1, e1⟩ := at_ x hx
    obtain ⟨h2, e2⟩ := at_ y hy
    rw [e1, e2]
    obtain ⟨lx, ex⟩ := List.getElem?_eq_some_iff.mp (idx_int hx)
    obtain ⟨ly, ey⟩ := List.getElem?_eq_some_iff.mp (idx_int hy)
    have pe := List.pairwise_iff_getElem.mp se
    have pn := List.pairwise_iff_getElem.mp sn
    rcases Nat.lt_trichotomy (ev.idxOf x) (ev.idxOf y) with h | h | h
    · exact pn _ _ h1 h2 h
    · have : ev[ev.idxOf x] = ev[ev.idxOf y] := by simp only [h]
      rw [ex, ey] at this
      omega
    · have := pe _ _ ly lx h
      rw [ex, ey] at this
      omega
  · obtain ⟨h1, e1⟩ := at_ x hx
    rw [e1]
    exact h0 _ (List.getElem_mem _)
end Mv

set_option Elab.async false
set_option linter.all false
set_option maxRecDepth 100000
set_option maxHeartbeats 4000000
/-! The text by places; a def that a caller knows by its promise alone. -/
namespace Mu
open PySem L2
def top (i : Nat) : Stmt := PySem.Challenge.pw_movingup_k82_whole_other_numbers.main.body.getD i (.Pass ⟨0, 0, 0, 0⟩)
/-- the built-ins that the text calls, none of them hidden by a name of the module -/
structure Bt (mg : Str → Option Value) : Prop where
  isinstance : mg "isinstance" = none
  int : mg "int" = none
  bool : mg "bool" = none
  tuple : mg "tuple" = none
  list : mg "list" = none
  dict : mg "dict" = none
  enumerate : mg "enumerate" = none
  range : mg "range" = none
  len : mg "len" = none
  max : mg "max" = none
  min : mg "min" = none
  sorted : mg "sorted" = none
  zip : mg "zip" = none
/-- what a caller knows of the def x -/
structure Cl (P : Program) (w : World) (K : PySem.W.Frag) (mg : Str → Option Value) (base : Heap) (x : Str) (k : Nat) (ps : List Str) (sp : Sp) : Prop where
  ex : ∃ (f : Addr) (fd : FuncData), FnOk P w K mg base CX0 k f fd ps sp ∧ mg x = some (.ref f) ∧ PySem.W.keepIn K (.ref f) = true ∧ Binds K fd ps []
/-- a def of the module as the top leaves it -/
structure Df (K : PySem.W.Frag) (mg : Str → Option Value) (x : Str) (st : Stmt) : Prop where
  ex : ∃ (f : Addr) (fd : FuncData), Fun K x x st f fd ∧ mg x = some (.ref f)
section
variable {P : Program} {w : World} {K : PySem.W.Frag} {mg : Str → Option Value} {base : Heap}
theorem Df.cl {x : Str} {st : Stmt} {k : Nat} {ps : List Str} {sp : Sp} (D : Df K mg x st) (h : ∀ f fd, Fun K x x st f fd → FnOk P w K mg base CX0 k f fd ps sp)
    (hb : ∀ (kV doc pm : Value) (an : Option Addr) (cdv ct : Value) (us : List Value), us.length = ps.length → bindArgs (PySem.W.fnOf x x (defArgs st) (defBody st) (defScope st) .none kV doc pm an cdv ct) ⟨us, []⟩ = pure (ps.zip us)) : Cl P w K mg base x k ps sp := by
  obtain ⟨f, fd, F, g⟩ := D.ex
  exact ⟨f, fd, h f fd F, g, F.kp, F.binds hb⟩
theorem pe_c {X : Cx} {x : Str} {k : Nat} {ps : List Str} {sp : Sp} {p pos : Pos} {e : Expr} {es : List Expr} {t : TA} (c : Cl X.prog X.w X.K X.mg X.base x k ps sp) (hr : Room k X.A) (ha : PA X (e :: es) t) (hg : Gl X x := by rfl)
    (hdb : (x == ("__debug__" : Str)) = false := by decide) (he : starEach (e :: es) X.env = (false, eval e X.env) :: starEach es X.env := by rfl) (hpl : (backTo pos (starEach es X.env)).any (·.1) = false := by rfl) :
    PE X (.Call (.Name x p) (e :: es) [] pos) (tCall sp [] E0 t) := by
  obtain ⟨f, fd, G, g, kp, b⟩ := c.ex
  exact pe_call G hr hg g kp b .nil pass0 ha hdb he hpl
end
end Mu

/-! Rules that the layer lacks: == with an empty list or tuple, != of one list written twice, enumerate over a tuple. -/
namespace Mu
open PySem L2 PyProof.Rows PySem.SeqAt
section
variable {X : Cx}
/-- == with an empty list, an empty tuple -/
def rEqE (K : PySem.W.Frag) : R2 := fun x y H Q => ∃ a b xs, x = .ref a ∧ y = .ref b ∧ ((SqL K H a xs ∧ SqL K H b []) ∨ (SqT K H a xs ∧ SqT K H b [])) ∧ Q (.bl xs.isEmpty) H
theorem vals_nil {us : List Value} (r : Vals [] us) : us = [] := by cases r; rfl
theorem op_eqE (hu : X.A.units < cLine) : OpR X (compareOp .Eq) (rEqE X.K) := by
  intro pins s σ H x y v u Q I rx ry h
  obtain ⟨a, b, xs, rfl, rfl, hs, q⟩ := h
  cases rx
  cases ry
  rcases hs with ⟨h1, h2⟩ | ⟨h1, h2⟩
  · obtain ⟨us, r1, p1, _⟩ := I.list h1
    obtain ⟨ws, r2, p2, _⟩ := I.list h2
    obtain rfl := vals_nil r2
    cases r1 with
    | nil => exact eq_listAt (e := fun _ => true) p1.isList p2.isList rfl hu (fun j hj => absurd hj (by simp)) ⟨.bl _, H, I, rfl, q⟩
    | cons r t => exact eq_list_lengthsAt p1.isList p2.isList (by simp) hu ⟨.bl _, H, I, rfl, q⟩
  · obtain ⟨us, r1, p1, _⟩ := I.tuple h1
    obtain ⟨ws, r2, p2, _⟩ := I.tuple h2
    obtain rfl := vals_nil r2
    refine eq_tupleAt (e := fun _ => true) (show s.heap.IsTuple a us.toArray from p1) (show s.heap.IsTuple b #[] from p2) hu (fun j _ hj => absurd hj (by simp)) ?_
    cases r1 with
    | nil => exact ⟨.bl _, H, I, rfl, q⟩
    | cons r t => exact ⟨.bl _, H, I, by simp; rfl, q⟩
/-! ### data: None and ints, and lists or tuples of them -/
def nI : V → Bool
  | .non => true
  | .int _ => true
  | _ => false
def dat : V → PyData
  | .int i => .int i
  | _ => .none
theorem nI_flat {v : V} (f : nI v = true) : flatV v = true := by cases v <;> first | rfl | cases f
theorem dp_nI {K : PySem.W.Frag} {H : Hp} {v : V} (f : nI v = true) : Dp K H v (dat v) := by
  cases v with
  | non => exact .non
  | int i => exact .int i
  | bl _ => cases f
  | str _ => cases f
  | byt _ => cases f
  | flt _ => cases f
  | ref _ => cases f
  | ty _ => cases f
theorem dpAll_nI {K : PySem.W.Frag} {H : Hp} : ∀ {xs : List V}, xs.all nI = true → DpAll K H xs (xs.map dat)
  | [], _ => .nil
  | x :: xs, f => by
    rw [List.all_cons, Bool.and_eq_true] at f
    exact .cons (dp_nI f.1) (dpAll_nI f.2)
theorem lay_dat (v : V) : (dat v).canLay0 = true ∧ (dat v).depth = 0 := by cases v <;> exact ⟨rfl, rfl⟩
theorem layAll_dat : ∀ xs : List V, PyData.canLayAll0 (xs.map dat) = true ∧ PyData.depthAll (xs.map dat) = 0
  | [] => ⟨rfl, rfl⟩
  | x :: xs => by
    obtain ⟨h1, h2⟩ := lay_dat x
    obtain ⟨h3, h4⟩ := layAll_dat xs
    rw [List.map_cons]
    exact ⟨by simp only [PyData.canLayAll0, h1, h3]; rfl, by simp only [PyData.depthAll, h2, h4]; rfl⟩
theorem shaped_list (xs : List V) : shaped (.list (xs.map dat)) = true := by
  obtain ⟨h3, h4⟩ := layAll_dat xs
  unfold shaped
  simp [PyData.canLay0, PyData.depth, h3, h4]
theorem shaped_tuple (xs : List V) : shaped (.tuple (xs.map dat)) = true := by
  obtain ⟨h3, h4⟩ := layAll_dat xs
  unfold shaped
  simp [PyData.canLay0, PyData.depth, h3, h4]
theorem eqv_same {d : PyData} (h : shaped d = true) : PyData.eqv d d = true := eqv_refl d (canLay_of_shaped h)
/-- != of two lists, of two tuples, that hold the same ints and Nones -/
def rNeS (K : PySem.W.Frag) : R2 := fun x y H Q => ∃ a b xs, x = .ref a ∧ y = .ref b ∧ xs.all nI = true ∧ ((SqL K H a xs ∧ SqL K H b xs) ∨ (SqT K H a xs ∧ SqT K H b xs)) ∧ Q (.bl false) H
theorem op_neS (hu : X.A.units + 64 < cLine) : OpR X (compareOp .NotEq) (rNeS X.K) := by
  intro pins s σ H x y v u Q I rx ry h
  obtain ⟨a, b, xs, rfl, rfl, hf, hs, q⟩ := h
  rcases hs with ⟨h1, h2⟩ | ⟨h1, h2⟩
  · refine op_neD hu pins s σ H _ _ v u Q I rx ry ⟨.list (xs.map dat), .list (xs.map dat), .lst h1 (dpAll_nI hf), .lst h2 (dpAll_nI hf), shaped_list xs, shaped_list xs, ?_⟩
    rw [eqv_same (shaped_list xs)]
    exact q
  · refine op_neD hu pins s σ H _ _ v u Q I rx ry ⟨.tuple (xs.map dat), .tuple (xs.map dat), .tup h1 (dpAll_nI hf), .tup h2 (dpAll_nI hf), shaped_tuple xs, shaped_tuple xs, ?_⟩
    rw [eqv_same (shaped_tuple xs)]
    exact q
/-- != of a list of ints and an empty one -/
def rNeE (K : PySem.W.Frag) : R2 := fun x y H Q => ∃ a b xs, x = .ref a ∧ y = .ref b ∧ xs.all nI = true ∧ SqL K H a xs ∧ SqL K H b [] ∧ Q (.bl (!xs.isEmpty)) H
theorem op_neE (hu : X.A.units + 64 < cLine) : OpR X (compareOp .NotEq) (rNeE X.K) := by
  intro pins s σ H x y v u Q I rx ry h
  obtain ⟨a, b, xs, rfl, rfl, hf, h1, h2, q⟩ := h
  refine op_neD hu pins s σ H _ _ v u Q I rx ry ⟨.list (xs.map dat), .list [], .lst h1 (dpAll_nI hf), .lst h2 .nil, shaped_list xs, shaped_list [], ?_⟩
  cases xs with
  | nil => exact q
  | cons x xs => exact q
/-- the tuples at as hold the rows ts -/
def Rws (K : PySem.W.Frag) (H : Hp) : List Addr → List (List V) → Prop
  | [], [] => True
  | a :: as, t :: ts => SqT K H a t ∧ t.all nI = true ∧ Rws K H as ts
  | _, _ => False
theorem dp_rws {K : PySem.W.Frag} {H : Hp} : ∀ {as : List Addr} {ts : List (List V)}, Rws K H as ts → DpAll K H (as.map V.ref) (ts.map fun t => PyData.tuple (t.map dat))
  | [], [], _ => .nil
  | [], _ :: _, h => h.elim
  | _ :: _, [], h => h.elim
  | a :: as, t :: ts, ⟨h1, h2, h3⟩ => .cons (.tup h1 (dpAll_nI h2)) (dp_rws h3)
theorem lay_rows : ∀ ts : List (List V), PyData.canLayAll0 (ts.map fun t => PyData.tuple (t.map dat)) = true ∧ PyData.depthAll (ts.map fun t => PyData.tuple (t.map dat)) ≤ 1
  | [] => ⟨rfl, Nat.zero_le _⟩
  | t :: ts => by
    obtain ⟨h1, h2⟩ := layAll_dat t
    obtain ⟨h3, h4⟩ := lay_rows ts
    rw [List.map_cons]
    refine ⟨by simp only [PyData.canLayAll0, PyData.canLay0, h1, h3]; rfl, ?_⟩
    simp only [PyData.depthAll, PyData.depth, h2]
    omega
theorem shaped_rows (ts : List (List V)) : shaped (.list (ts.map fun t => PyData.tuple (t.map dat))) = true := by
  obtain ⟨h3, h4⟩ := lay_rows ts
  unfold shaped
  simp only [PyData.canLay0, PyData.depth, h3, Bool.true_and]
  exact decide_eq_true (by omega)
/-- != of two lists of tuples that hold the same -/
def rNeR (K : PySem.W.Frag) : R2 := fun x y H Q => ∃ a b as bs ts, x = .ref a ∧ y = .ref b ∧ SqL K H a (as.map V.ref) ∧ SqL K H b (bs.map V.ref) ∧ Rws K H as ts ∧ Rws K H bs ts ∧ Q (.bl false) H
theorem op_neR (hu : X.A.units + 64 < cLine) : OpR X (compareOp .NotEq) (rNeR X.K) := by
  intro pins s σ H x y v u Q I rx ry h
  obtain ⟨a, b, as, bs, ts, rfl, rfl, h1, h2, r1, r2, q⟩ := h
  refine op_neD hu pins s σ H _ _ v u Q I rx ry ⟨.list (ts.map fun t => PyData.tuple (t.map dat)), .list (ts.map fun t => PyData.tuple (t.map dat)), .lst h1 (dp_rws r1), .lst h2 (dp_rws r2), shaped_rows ts, shaped_rows ts, ?_⟩
  rw [eqv_same (shaped_rows ts)]
  exact q
end
end Mu

/-! enumerate over a tuple; min of a list of pairs. -/
namespace Mu
open PySem L2 PyProof.Rows PySem.SeqAt
open AutoSeq1 (wpAny_loadPart')
/-! ### enumerate(t) -/
theorem enum_new_tuple {t : Addr} {items : Array Value} :
    Meets (Builtin.«enumerate.__new__» ⟨[.type "enumerate", .ref t], []⟩) (fun _ R s => s.heap.IsTuple t items ∧
      R (.ok (.ret (.ref (s.heap.push { cls := .type "tuple_iterator", data := .fields #[.ref t, .int 0 0] }).objs.size)))
        { s with heap := (s.heap.push { cls := .type "tuple_iterator", data := .fields #[.ref t, .int 0 0] }).push { cls := .type "enumerate", data := .fields #[.none, .bool false, .ref s.heap.objs.size, rawInt 0, .none, .none] } }) :=
  .of_wp fun prog w A R s h => by
    obtain ⟨hp, g, d, tk, os⟩ := s
    obtain ⟨ht, h⟩ := h
    have hsub := sub_enumerate
    have go : ∀ {A' : Around} {E : Value → Shared → Prop} {Q : Value → Shared → Prop}, Q (.ref hp.objs.size) ⟨hp.push { cls := .type "tuple_iterator", data := .fields #[.ref t, .int 0 0] }, g, d, tk, os⟩ → wpAny (model prog w) A' (pyIter (.ref t)) Q E ⟨hp, g, d, tk, os⟩ :=
      fun q => wpAny_pyIter_tuple (s := ⟨hp, g, d, tk, os⟩) ht q
    wp_walk using go
    refine wpAny_stack_any fun st => wpAny_pure ?_
    split
    · rename_i c _ _ _ _ _
      cases (c == Value.type "enumerate") <;> (wp_walk using go; exact ⟨_, rfl, h⟩)
    · wp_walk using go
      exact ⟨_, rfl, h⟩
section
variable {prog : Program} {w : World} {A : Around} {E : Value → Shared → Prop} {s : Shared}
theorem enum_tuple {t : Addr} {items : Array Value} {Q : Value → Shared → Prop} (ht : s.heap.IsTuple t items)
    (h : ∀ h', IsEnum h' (s.heap.objs.size + 1) s.heap.objs.size 0 .none → h'.IsTupleIter s.heap.objs.size t 0 → (∀ b o, s.heap.get? b = some o → h'.get? b = some o) → Q (.ref (s.heap.objs.size + 1)) { s with heap := h' }) :
    wpAny (model prog w) A (call (.type "enumerate") [.ref t]) Q E s := by
  refine callType_new F.called_enumerate (by decide) (F.typeCall_enumerate_1 _) (F.newCall_enumerate_1 _) (fun obj => F.args_object_init_2 obj _) F.entry_enumerate_new enum_new_tuple ⟨ht, ?_⟩
  generalize ei : ({ cls := .type "tuple_iterator", data := .fields #[.ref t, .int 0 0] } : Obj) = oi
  have fi : oi.isFreed = false := by rw [← ei]; rfl
  have z1 : (s.heap.push oi).objs.size = s.heap.objs.size + 1 := Heap.size_push ..
  show _ ∧ _
  rw [z1]
  have he := Heap.get?_push_size (s.heap.push oi) (o := { cls := .type "enumerate", data := .fields #[.none, .bool false, .ref s.heap.objs.size, rawInt 0, .none, .none] }) rfl
  rw [z1] at he
  have hi : ((s.heap.push oi).push { cls := .type "enumerate", data := .fields #[.none, .bool false, .ref s.heap.objs.size, rawInt 0, .none, .none] }).get? s.heap.objs.size = some oi :=
    Heap.get?_push_of_some _ (Heap.get?_push_size _ fi)
  exact ⟨⟨_, he, rfl⟩, h _ he ⟨oi, hi, by rw [← ei], by rw [← ei]; rfl⟩ fun b o x => Heap.get?_push_of_some _ (Heap.get?_push_of_some _ x)⟩
end
/-- the tuple at a, each item in a new pair behind its index -/
def Iet (K : PySem.W.Frag) (a : Addr) : It :=
  ⟨fun i H => ∃ (xs : List V) (x : V), SqT K H a xs ∧ xs[i]? = some x, fun i H v H' => ∃ T x, v = .ref T ∧ H T = none ∧ H' = upd H T (.tup [.int (i : Nat), x]) ∧ ∀ xs, SqT K H a xs → xs[i]? = some x,
    fun i H => ∃ xs : List V, SqT K H a xs ∧ xs.length = i⟩
theorem turn_enumT {P : Program} {w : World} {K : PySem.W.Frag} {elts : List Expr} {kk : Nat} {tpos : Pos} (a e it : Addr) :
    Turn P w K (.Tuple elts kk tpos) (Iet K a) [e, it] e (fun i h => (∃ old, IsEnum h e it ((i : Nat) : Int) old) ∧ h.IsTupleIter it a i ∧ e ≠ it) where
  mem := List.mem_cons_self
  obj := fun i h st b hb => by
    obtain ⟨⟨old, he⟩, ⟨o, ho, hc, hd⟩, _⟩ := st
    rcases List.mem_cons.mp hb with rfl | hb
    · exact ⟨_, he, fun v q => nomatch q⟩
    · obtain rfl := List.mem_singleton.mp hb
      exact ⟨o, ho, fun v q => by rw [hd] at q; cases q⟩
  keep := fun i h h' ⟨⟨old, he⟩, hi, hne⟩ k => ⟨⟨old, k e (by simp) _ he⟩, hi.at fun o q => k it (by simp) o q, hne⟩
  item := by
    intro X hP hw hK hc i pins s σ H E I hf ⟨⟨old, he⟩, hit, hne⟩ ⟨xs, x, hq, hx⟩
    subst hP hw hK
    obtain ⟨its, rv, p, hz⟩ := I.tuple hq
    obtain ⟨u, hu, ru⟩ := rv.get hx
    have hel : e < s.heap.objs.size := Heap.lt_size he
    have hil : it < s.heap.objs.size := by obtain ⟨_, q, _⟩ := hit; exact Heap.lt_size q
    have pt : s.heap.IsTuple a its.toArray := p
    have tit : a ≠ it := fun z => by
      obtain ⟨o1, h1, c1, _⟩ := hit
      obtain ⟨o2, h2, c2, _⟩ := pt
      rw [z, h1] at h2
      cases h2
      rw [c1] at c2
      injection c2 with c3
      exact absurd c3 (by decide)
    have tie : a ≠ e := fun z => by
      obtain ⟨o2, h2, c2, _⟩ := pt
      rw [z, he] at h2
      cases h2
      injection c2 with c3
      exact absurd c3 (by decide)
    refine wpAny_pyNext_enum_itemD (Draws.tuple (A := X.A.in1) (I.ok.hd hc) it a tit its.toArray) he ⟨hit, pt⟩ (by have := (List.getElem?_eq_some_iff.mp hu).1; simpa using this) hne (by simp [hne, tie.symm])
      fun x' h' tk hx' ho hit' hT hsz hk => ?_
    obtain rfl : x' = u := by
      have : its.toArray[i]? = some u := by simpa using hu
      rw [this] at hx'
      exact (Option.some.inj hx').symm
    refine ⟨_, rfl, wpAny_letOwnedTupleGo_enum (s := { s with heap := h', toks := tk + 1 }) ho fun h'' he' sb => ?_⟩
    have hT2 : h''.get? s.heap.objs.size = some { cls := .type "tuple", data := .seq #[.int i tk, x'] } := (sb.2 _ (Nat.ne_of_gt hel)).trans hT
    have new : ObjOk X.prog X.w (upd H s.heap.objs.size (.tup [.int (i : Nat), x])) h'' s.heap.objs.size (.tup [.int (i : Nat), x]) :=
      ⟨by show 2 ≤ sizeLine; decide, [.int i tk, x'], .cons ⟨_, rfl⟩ (.cons ru .nil), ⟨_, hT2, rfl, _, rfl⟩⟩
    have I1 : Inv X pins σ (upd H s.heap.objs.size (.tup [.int (i : Nat), x])) { s with heap := h'', toks := tk + 1 } :=
      I.turnedNew (ch := [e, it]) (fun b ob hb q => (sb.2 b fun z => hb (by simp [z])).trans (hk b ob (fun z => hb (by simp [z])) (fun z => hb (by simp [z])) q)) hf (Nat.le_refl _) new
    refine ⟨.ref s.heap.objs.size, _, I1, rfl, ⟨_, x, rfl, I.hok.fresh (Nat.le_refl _), rfl, fun ys hy => by rw [I.tuple_inj hy hq]; exact hx⟩, ⟨⟨x', by simpa using he'⟩, hit'.1.at fun o q => (sb.2 it hne.symm).trans q, hne⟩, fun b hb => ?_⟩
    have hb' : b < s.heap.objs.size := by
      rcases List.mem_cons.mp hb with z | hb
      · rw [z]; exact hel
      · rw [List.mem_singleton.mp hb]; exact hil
    rw [upd_ne (Nat.ne_of_lt hb')]
    exact (hf b hb).1
  done := by
    intro X hP hw hK hc i pins s σ H E I hf ⟨⟨old, he⟩, hit, hne⟩ ⟨xs, hq, hx⟩
    subst hP hw hK
    obtain ⟨its, rv, p, hz⟩ := I.tuple hq
    have pt : s.heap.IsTuple a its.toArray := p
    have tit : a ≠ it := fun z => by
      obtain ⟨o1, h1, c1, _⟩ := hit
      obtain ⟨o2, h2, c2, _⟩ := pt
      rw [z, h1] at h2
      cases h2
      rw [c1] at c2
      injection c2 with c3
      exact absurd c3 (by decide)
    obtain ⟨f0, f1, f2, f3, f4, f5⟩ := hf it (by simp)
    have hi : its.toArray.size = i := by have := rv.length; simp; omega
    exact wpAny_pyNext_enum_endD (Draws.tuple (A := X.A.in1) (I.ok.hd hc) it a tit its.toArray) he (by rw [hi]; exact ⟨hit, pt⟩) fun h' eb => ⟨rfl, I.turned (t' := s.toks) (fun b o hb q => eb b o hb q) f0 f1 f3 f4 f5⟩
  self := fun A i s Q E ⟨⟨_, he⟩, _⟩ h => wpAny_pyIter_enum he h
def iEnumT (K : PySem.W.Frag) (ta : TA) : TI := fun σ H R => ta σ H fun vs H1 => ∃ a xs, vs = [.ref a] ∧ SqT K H1 a xs ∧ R (Iet K a) H1
theorem pi_enumT {X : Cx} {e : Expr} {ta : TA} {p pos tpos : Pos} {elts : List Expr} {kk : Nat} (hg : Gl X "enumerate") (hm : X.mg "enumerate" = none) (ha : PA X [e] ta) (hs : starEach [e] X.env = [(false, eval e X.env)] := by rfl) :
    PI X (.Tuple elts kk tpos) (.Call (.Name "enumerate" p) [e] [] pos) (iEnumT X.K ta) := by
  refine ⟨fun pins s σ H R I h => ?_⟩
  refine Call_ (ld_blt I hg hm boot_enumerate (PyProof.Rows.callWith_type1 (thn (ha.run pos pins s σ H _ I h) fun us s1 ⟨vs, H1, I1, r1, a, xs, ex, hq, q⟩ => ?_) hs rfl))
  subst ex
  obtain ⟨u, rfl, ru⟩ := Vals.one r1
  cases ru
  obtain ⟨its, rv, p', hz⟩ := I1.tuple hq
  refine enum_tuple (show s1.heap.IsTuple a its.toArray from p') fun h' he hit hk => wpAny_pyIter_enum he ?_
  have I2 : Inv X pins σ H1 { s1 with heap := h' } := I1.kept (t' := s1.toks) hk
  refine ⟨s1.heap.objs.size + 1, [s1.heap.objs.size + 1, s1.heap.objs.size], _, _, H1, rfl, I2, turn_enumT a (s1.heap.objs.size + 1) s1.heap.objs.size, ⟨⟨.none, he⟩, hit, Nat.succ_ne_self _⟩, fun b hb => ?_, q⟩
  have hb2 : s1.heap.objs.size ≤ b := by
    rcases List.mem_cons.mp hb with z | hb
    · rw [z]; exact Nat.le_succ _
    · rw [List.mem_singleton.mp hb]; exact Nat.le_refl _
  have f := I1.fpOk hb2 (I1.hok.fresh hb2)
  exact f
theorem walk_enumT {K : PySem.W.Frag} {a : Addr} {xs : List V} : Walk (Iet K a) xs.length (fun H => SqT K H a xs) (YPair (fun i => some (.int (i : Nat))) (fun i => xs[i]?)) where
  goes := fun i H hi g => ⟨xs, xs[i], g, List.getElem?_eq_getElem hi⟩
  stops := fun H g => ⟨xs, g, rfl⟩
  yields := fun i H v H' hi g ⟨T, x, e1, e2, e3, e4⟩ => ⟨T, .int (i : Nat), x, e1, e2, e3, rfl, e4 xs g⟩
section
variable {K : PySem.W.Frag} {a : Addr} {xs : List V}
/-- for i, x in enumerate(t): the body leaves the tuple -/
theorem for_enumT {g : TG} {tb : TS} {D : Ends} {σ : L2.St} {H : Hp} (Pv : Nat → L2.St → Hp → Prop) (h0 : Pv 0 σ H) (hl : ∀ i σ H, i ≤ xs.length → Pv i σ H → SqT K H a xs)
    (hs : ∀ (i : Nat) x T σ H, xs[i]? = some x → Pv i σ H → H T = none → g (.ref T) σ (upd H T (.tup [.int (i : Nat), x])) fun σ2 H2 => tb { D with nx := Pv (i + 1), ct := Pv (i + 1), bk := D.nx } σ2 H2) (hd : ∀ σ H, Pv xs.length σ H → D.nx σ H) :
    ∃ W : Nat → Nat → L2.St → Hp → Prop, (∃ m, W 0 m σ H) ∧ ∀ i m σ H, W i m σ H →
      ((Iet K a).stop i H ∧ D.nx σ H) ∨ ((Iet K a).go i H ∧ ∃ N : L2.St → Hp → Prop, (∀ σ' H', N σ' H' → ∃ m', m' < m ∧ W (i + 1) m' σ' H') ∧ ∀ x H', (Iet K a).yld i H x H' → g x σ H' fun σ2 H2 => tb { D with nx := N, ct := N, bk := D.nx } σ2 H2) := by
  refine for_it walk_enumT Pv h0 hl (fun i v σ H H' hi p ⟨T, y, x, e1, e2, e3, e4, e5⟩ => ?_) hd
  subst e1 e3
  obtain rfl := Option.some.inj e4
  exact hs i x T σ H e5 p e2
/-- for i, x in enumerate(l) -/
theorem for_enumL {g : TG} {tb : TS} {D : Ends} {σ : L2.St} {H : Hp} (Pv : Nat → L2.St → Hp → Prop) (h0 : Pv 0 σ H) (hl : ∀ i σ H, i ≤ xs.length → Pv i σ H → SqL K H a xs)
    (hs : ∀ (i : Nat) x T σ H, xs[i]? = some x → Pv i σ H → H T = none → g (.ref T) σ (upd H T (.tup [.int (i : Nat), x])) fun σ2 H2 => tb { D with nx := Pv (i + 1), ct := Pv (i + 1), bk := D.nx } σ2 H2) (hd : ∀ σ H, Pv xs.length σ H → D.nx σ H) :
    ∃ W : Nat → Nat → L2.St → Hp → Prop, (∃ m, W 0 m σ H) ∧ ∀ i m σ H, W i m σ H →
      ((Ite K a).stop i H ∧ D.nx σ H) ∨ ((Ite K a).go i H ∧ ∃ N : L2.St → Hp → Prop, (∀ σ' H', N σ' H' → ∃ m', m' < m ∧ W (i + 1) m' σ' H') ∧ ∀ x H', (Ite K a).yld i H x H' → g x σ H' fun σ2 H2 => tb { D with nx := N, ct := N, bk := D.nx } σ2 H2) := by
  refine for_it walk_enum Pv h0 hl (fun i v σ H H' hi p ⟨T, y, x, e1, e2, e3, e4, e5⟩ => ?_) hd
  subst e1 e3
  obtain rfl := Option.some.inj e4
  exact hs i x T σ H e5 p e2
/-- a comprehension over enumerate(t) -/
theorem lc_enumT {g : TG} {tt : TT} {te : TE} {vs : List Nat} {σ : L2.St} {H1 : Hp} {D : Addr} {Qd : Hp → Prop} (Pv : Nat → Hp → Prop) (h0 : Pv 0 (upd H1 D (.lst []))) (hl : ∀ i H, i ≤ xs.length → Pv i H → SqT K H a xs)
    (hs : ∀ (i : Nat) x T H, xs[i]? = some x → Pv i H → H T = none → g (.ref T) (wipe σ vs) (upd H T (.tup [.int (i : Nat), x])) fun σ2 H2 => wipe σ2 vs = wipe σ vs ∧ tt σ2 H2 fun b H3 =>
      if b = true then te σ2 H3 fun y H4 => ∃ acc, H4 D = some (.lst acc) ∧ acc.length < sizeLine ∧ Pv (i + 1) (upd H4 D (.lst (acc ++ [y]))) else Pv (i + 1) H3) (hd : ∀ H, Pv xs.length H → Qd H) :
    ∃ W : Nat → Nat → Hp → Prop, (∃ m, W 0 m (upd H1 D (.lst []))) ∧ ∀ i m H, W i m H →
      ((Iet K a).stop i H ∧ Qd H) ∨ ((Iet K a).go i H ∧ ∃ Nx : Hp → Prop, (∀ H', Nx H' → ∃ m', m' < m ∧ W (i + 1) m' H') ∧ ∀ x H', (Iet K a).yld i H x H' → g x (wipe σ vs) H' fun σ2 H2 => wipe σ2 vs = wipe σ vs ∧ tt σ2 H2 fun b H3 =>
        if b = true then te σ2 H3 fun y H4 => ∃ acc, H4 D = some (.lst acc) ∧ acc.length < sizeLine ∧ Nx (upd H4 D (.lst (acc ++ [y]))) else Nx H3) := by
  refine lc_it walk_enumT Pv h0 hl (fun i v H H' hi p ⟨T, y, x, e1, e2, e3, e4, e5⟩ => ?_) hd
  subst e1 e3
  obtain rfl := Option.some.inj e4
  exact hs i x T H e5 p e2
/-- a dict comprehension over enumerate(t) -/
theorem dc_enumT {g : TG} {tt : TT} {tk tv : TE} {vs : List Nat} {σ : L2.St} {H1 : Hp} {D : Addr} {Qd : Hp → Prop} (Pv : Nat → Hp → Prop) (h0 : Pv 0 (upd H1 D (.dK []))) (hl : ∀ i H, i ≤ xs.length → Pv i H → SqT K H a xs)
    (hs : ∀ (i : Nat) x T H, xs[i]? = some x → Pv i H → H T = none → g (.ref T) (wipe σ vs) (upd H T (.tup [.int (i : Nat), x])) fun σ2 H2 => wipe σ2 vs = wipe σ vs ∧ tt σ2 H2 fun b H3 =>
      if b = true then tk σ2 H3 fun y H4 => tv σ2 H4 fun z H5 => ∃ kvs k, y = kV k ∧ H5 D = some (.dK kvs) ∧ kvs.length < sizeLine ∧ Pv (i + 1) (upd H5 D (.dK (putK kvs k z))) else Pv (i + 1) H3) (hd : ∀ H, Pv xs.length H → Qd H) :
    ∃ W : Nat → Nat → Hp → Prop, (∃ m, W 0 m (upd H1 D (.dK []))) ∧ ∀ i m H, W i m H →
      ((Iet K a).stop i H ∧ Qd H) ∨ ((Iet K a).go i H ∧ ∃ Nx : Hp → Prop, (∀ H', Nx H' → ∃ m', m' < m ∧ W (i + 1) m' H') ∧ ∀ x H', (Iet K a).yld i H x H' → g x (wipe σ vs) H' fun σ2 H2 => wipe σ2 vs = wipe σ vs ∧ tt σ2 H2 fun b H3 =>
        if b = true then tk σ2 H3 fun y H4 => tv σ2 H4 fun z H5 => ∃ kvs k, y = kV k ∧ H5 D = some (.dK kvs) ∧ kvs.length < sizeLine ∧ Nx (upd H5 D (.dK (putK kvs k z))) else Nx H3) := by
  refine ⟨fun i m H => m = xs.length - i ∧ i ≤ xs.length ∧ Pv i H, ⟨_, rfl, Nat.zero_le _, h0⟩, ?_⟩
  rintro i m H ⟨rfl, hi, p⟩
  have q := hl i H hi p
  by_cases hlt : i < xs.length
  · refine .inr ⟨walk_enumT.goes i H hlt q, Pv (i + 1), fun H' p' => ⟨xs.length - (i + 1), by omega, rfl, hlt, p'⟩, fun v H' y => ?_⟩
    obtain ⟨T, y, x, e1, e2, e3, e4, e5⟩ := walk_enumT.yields i H v H' hlt q y
    subst e1 e3
    obtain rfl := Option.some.inj e4
    exact hs i x T H e5 p e2
  · obtain rfl : i = xs.length := by omega
    exact .inl ⟨walk_enumT.stops H q, hd H p⟩
end
end Mu

/-! min of a list of pairs of ints: one whose first number is a least. -/
namespace Mu
open PySem L2 PyProof.Rows PySem.SeqAt
/-- the objects of h0 stand; the value u is a pair whose first number is x -/
def PairAt (h0 : Heap) (u : Value) (x : Int) : Prop := ∃ (a : Addr) (its : Array Value) (y : Int), u = .ref a ∧ IsTup h0 a its ∧ IntsAre its.toList [x, y]
section
variable {prog : Program} {w : World} {A : Around} {h0 : Heap}
theorem tup_keep {h h' : Heap} {a : Addr} {its : Array Value} (t : IsTup h a its) (k : ∀ b o, h.get? b = some o → h'.get? b = some o) : IsTup h' a its := by
  obtain ⟨o, ho, r⟩ := t
  exact ⟨o, k _ _ ho, r⟩
theorem pair_lt {u u' : Value} {x x' : Int} {s : Shared} {E : Value → Shared → Prop} {Q : Value → Shared → Prop} (hu : A.units < cLine) (h : PairAt h0 u x) (h' : PairAt h0 u' x') (k : ∀ b o, h0.get? b = some o → s.heap.get? b = some o)
    (q : ∀ b : Bool, (b = true → x ≤ x') → (b = false → x' ≤ x) → Q (.bool b) s) : wpAny (model prog w) A (richCompare .Lt u u') Q E s := by
  obtain ⟨a, its, y, rfl, t, i⟩ := h
  obtain ⟨a', its', y', rfl, t', i'⟩ := h'
  refine HT.lt_tupInts (tup_keep t k) (tup_keep t' k) i i' hu (q _ (fun e => ?_) fun e => ?_)
  · rw [HT.lexLt_cons] at e
    split at e
    · omega
    · have := of_decide_eq_true e; omega
  · rw [HT.lexLt_cons] at e
    split at e
    · omega
    · have := of_decide_eq_false e; omega
/-- what is best among the first j items -/
def BestOf (items : Array Value) (ks : Nat → Int) (j : Nat) (v : Value) (b : Nat) : Prop := b < j ∧ items[b]? = some v ∧ ∀ i, i < j → ks b ≤ ks i
theorem min_loop {R : Result → Shared → Prop} {I l S : Addr} {items : Array Value} {ks : Nat → Int} (hh : A.handled = none) (hu : A.in1.units < cLine) (hlI : l ≠ I) (hSI : S ≠ I) (hSl : S ≠ l) (h0I : h0.get? I = none) (h0S : h0.get? S = none)
    (hp : ∀ i v, items[i]? = some v → PairAt h0 v (ks i)) :
    ∀ (k j : Nat) (s : Shared) (old : Array Value) (c : Nat), items.size - j = k → j ≤ items.size → 0 < items.size → s.heap.IsListIter I l j → s.heap.IsList l items → (∀ b o, h0.get? b = some o → s.heap.get? b = some o) →
      s.heap.get? S = some { cls := .type "list", dict := none, data := .seq old c, slots := #[] } → ((j = 0 ∧ old = #[]) ∨ ∃ v b, old = #[v, v] ∧ BestOf items ks j v b) →
      (∀ v b h' tk, BestOf items ks items.size v b → (∀ b o, b ≠ I → b ≠ S → s.heap.get? b = some o → h'.get? b = some o) → R (.ok (.ret v)) { s with heap := h', toks := tk }) →
      codeAny (model prog w) A (.builtin "min.loop" ⟨[.ref I, .none, .ref S], []⟩) R s := by
  have W : Walks prog w A.in1 I [I, l] [I] items.size (fun i v => items[i]? = some v) (fun i h => h.IsListIter I l i ∧ h.IsList l items) := Walks.list (A := A.in1) hh I l hlI items
  have hname : (toString "min" ++ toString ".loop" : String) = "min.loop" := by decide
  intro k
  induction k with
  | zero =>
    intro j s old c hk hj hn hit hl kp hS hb hR
    have ej : j = items.size := by omega
    rcases hb with ⟨e, _⟩ | ⟨v, b, rfl, B⟩
    · omega
    · refine codeAny_builtin F.entry_min_loop ?_
      rw [Around.under_plainId F.plain_min_loop _]
      show wpAny _ A.in1 (seqItems? (.ref S) >>= _) _ _ s
      refine wpAny_bind (wpAny_seqItems hS rfl ?_)
      show wpAny _ A.in1 (tryCatch (pyNext (.ref I)) _ >>= _) _ _ s
      refine wpAny_bind (wpAny_tryCatch (W.done s _ _ ⟨ej ▸ hit, hl⟩ fun h' tk hk' => ?_))
      have hS' := hk' S _ (by simpa using hSI) hS
      show wpAny _ A.in1 (updateSeq S (fun _ => #[]) >>= _) _ _ _
      refine wpAny_bind (wpAny_updateSeq hS' rfl (wpAny_bind (wpAny_letGo (wpAny_pure ?_))))
      exact hR v b _ tk (ej ▸ B) fun b o hbI hbS e => (Heap.get?_update_other _ _ (Ne.symm hbS)).trans (hk' b o (by simpa using hbI) e)
  | succ k ih =>
    intro j s old c hk hj hn hit hl kp hS hb hR
    have hlt : j < items.size := by omega
    refine codeAny_builtin F.entry_min_loop ?_
    rw [Around.under_plainId F.plain_min_loop _]
    show wpAny _ A.in1 (seqItems? (.ref S) >>= _) _ _ s
    refine wpAny_bind (wpAny_seqItems hS rfl ?_)
    show wpAny _ A.in1 (tryCatch (pyNext (.ref I)) _ >>= _) _ _ s
    refine wpAny_bind (wpAny_tryCatch (W.item j s _ _ hlt ⟨hit, hl⟩ fun v h' tk hP hst' hk' => ?_))
    have hS' := hk' S _ (by simpa using hSI) hS
    have kp' : ∀ b o, h0.get? b = some o → h'.get? b = some o := fun b o e => hk' b o (by
      intro z
      rw [List.mem_singleton.mp z, h0I] at e
      cases e) (kp b o e)
    have go : ∀ (v2 : Value) (b : Nat) (h2 : Heap) (c2 : Nat), BestOf items ks (j + 1) v2 b → (∀ b o, b ≠ S → h'.get? b = some o → h2.get? b = some o) → h2.get? S = some { cls := .type "list", dict := none, data := .seq #[v2, v2] c2, slots := #[] } →
        codeAny (model prog w) A (.builtin "min.loop" ⟨[.ref I, .none, .ref S], []⟩) R { s with heap := h2, toks := tk } := fun v2 b h2 c2 B up hS2 => by
      refine ih (j + 1) { s with heap := h2, toks := tk } #[v2, v2] c2 (by omega) hlt hn (hst'.1.at fun o e => up I o hSI.symm e) (hst'.2.at fun o e => up l o hSl.symm e) (fun b o e => up b o (fun z => by rw [z, h0S] at e; cases e) (kp' b o e)) hS2 (.inr ⟨v2, b, rfl, B⟩) fun v' b' h'' tk'' B' hk'' => ?_
      exact hR v' b' h'' tk'' B' fun b o hbI hbS e => hk'' b o hbI hbS (up b o hbS (hk' b o (by simpa using hbI) e))
    rcases hb with ⟨rfl, rfl⟩ | ⟨vb, b, rfl, B⟩
    · show wpAny _ A.in1 (updateSeq S (fun _ => #[v, v]) >>= _) _ _ _
      refine wpAny_bind (wpAny_updateSeq hS' rfl ?_)
      rw [hname]
      exact wpAny_pure ⟨plainId_quiet F.plain_min_loop _, go v 0 _ _ ⟨by omega, hP, fun i hi => by rw [show i = 0 by omega]; exact Int.le_refl _⟩ (fun b o hb e => (Heap.get?_update_other _ _ (Ne.symm hb)).trans e) (Heap.get?_update_self _ hS' rfl)⟩
    · show wpAny _ A.in1 (tryCatch (holding [v, v] (richCompare .Lt v vb >>= _)) _ >>= _) _ _ _
      obtain ⟨B1, B2, B3⟩ := B
      refine wpAny_bind (wpAny_tryCatch (wpAny_holding (wpAny_bind (pair_lt hu (hp j v hP) (hp b vb B2) kp' fun r h1 h2 => ?_))))
      refine wpAny_bind (wpAny_holding (wpAny_truthy_bool ?_))
      refine wpAny_bind (wpAny_letGo (wpAny_pure ?_))
      cases r with
      | true =>
        simp only [if_true]
        refine wpAny_bind (wpAny_updateSeq hS' rfl (wpAny_bind (wpAny_letGo ?_)))
        rw [hname]
        refine wpAny_pure ⟨plainId_quiet F.plain_min_loop _, go v j _ _ ⟨by omega, hP, fun i hi => ?_⟩ (fun b o hb e => (Heap.get?_update_other _ _ (Ne.symm hb)).trans e) (Heap.get?_update_self _ hS' rfl)⟩
        have := h1 rfl
        by_cases e : i = j
        · rw [e]; exact Int.le_refl _
        · have := B3 i (by omega); omega
      | false =>
        simp only [Bool.false_eq_true, if_false]
        refine wpAny_bind (wpAny_letGo ?_)
        rw [hname]
        refine wpAny_pure ⟨plainId_quiet F.plain_min_loop _, go vb b h' c ⟨by omega, B2, fun i hi => ?_⟩ (fun b o _ e => e) hS'⟩
        by_cases e : i = j
        · rw [e]; exact h2 rfl
        · exact B3 i (by omega)
theorem call_minP {l : Addr} {items : Array Value} {ks : Nat → Int} {s : Shared} {E : Value → Shared → Prop} {Q : Value → Shared → Prop} (hh : A.handled = none) (hu : A.in1.units < cLine) (hl : s.heap.IsList l items) (hn : 0 < items.size)
    (hp : ∀ i v, items[i]? = some v → PairAt s.heap v (ks i)) (h : ∀ v b h' tk, BestOf items ks items.size v b → (∀ b o, s.heap.get? b = some o → h'.get? b = some o) → Q v { s with heap := h', toks := tk }) :
    wpAny (model prog w) A (call (.builtin "min") [.ref l]) Q E s := by
  have hname : (toString "min" ++ toString ".loop" : String) = "min.loop" := by decide
  have hlt : l < s.heap.objs.size := by obtain ⟨_, e, _⟩ := hl; exact Heap.lt_size e
  refine call_function_tree F.kind_min F.plain_min F.entry_min (F.args_min1 _) ?_
  show wpAny _ A.in1 (Builtin.Builtins.bindParams "min" ["key", "default"] 0 ⟨[], []⟩ >>= _) _ _ s
  refine wpAny_bind (wpAny_of_eq (show Builtin.Builtins.bindParams "min" ["key", "default"] 0 ⟨[], []⟩ = pure [none, none] from rfl) ?_)
  refine wpAny_bind (wpAny_pure (wpAny_bind (wpAny_pyIter_list hl ?_)))
  generalize ei : ({ cls := .type "list_iterator", data := .fields #[.ref l, .int 0 0] } : Obj) = oi
  have fi : oi.isFreed = false := by rw [← ei]; rfl
  have z1 : (s.heap.push oi).objs.size = s.heap.objs.size + 1 := Heap.size_push ..
  refine wpAny_bind (wpAny_newObj_type ?_)
  rw [hname]
  have k2 : ∀ b o, s.heap.get? b = some o → ((s.heap.push oi).push { cls := .type "list", data := .seq #[] }).get? b = some o := fun b o e => Heap.get?_push_of_some _ (Heap.get?_push_of_some _ e)
  have gi : ((s.heap.push oi).push { cls := .type "list", data := .seq #[] }).get? s.heap.objs.size = some oi := Heap.get?_push_of_some _ (Heap.get?_push_size _ fi)
  refine wpAny_pure ⟨plainId_quiet F.plain_min_loop _, min_loop (h0 := s.heap) (l := l) (items := items) (ks := ks) hh hu (Nat.ne_of_lt hlt) (by rw [z1]; exact Nat.succ_ne_self _) (by rw [z1]; exact Nat.ne_of_gt (Nat.lt_succ_of_lt hlt))
    (Heap.get?_none_of_le (Nat.le_refl _)) (Heap.get?_none_of_le (by rw [z1]; exact Nat.le_succ _)) hp items.size 0 _ #[] _ rfl (Nat.zero_le _) hn ⟨oi, gi, by rw [← ei], by rw [← ei]; rfl⟩ (hl.at fun o e => k2 l o e) k2 (Heap.get?_push_size _ rfl) (.inl ⟨rfl, rfl⟩) fun v b h' tk B hk => ?_⟩
  exact h v b h' tk B fun b o e => hk b o (Nat.ne_of_lt (Heap.lt_size e)) (by rw [z1]; exact Nat.ne_of_lt (Nat.lt_succ_of_lt (Heap.lt_size e))) (k2 b o e)
end
/-- min(l), l a list of pairs: pair i is a tuple of (ks i) and another int -/
def rMinP (K : PySem.W.Frag) : List V → Hp → VK → Prop := fun vs H Q => ∃ (l : Addr) (ts : List Addr) (ks ys : Nat → Int), vs = [V.ref l] ∧ SqL K H l (ts.map V.ref) ∧ 0 < ts.length ∧ (∀ (i : Nat) (t : Addr), ts[i]? = some t → SqT K H t [V.int (ks i), V.int (ys i)]) ∧
  ∀ (b : Nat) (t : Addr), ts[b]? = some t → (∀ i, i < ts.length → ks b ≤ ks i) → Q (.ref t) H
theorem cr_minP {X : Cx} (hc : X.calm = true) (hu : X.A.units + 1 < cLine) : CallR X (.builtin "min") (rMinP X.K) := by
  intro pins s σ H xs us Q I r h
  obtain ⟨l, ts, ks, ys, rfl, hl, hn, hp, q⟩ := h
  obtain ⟨u, rfl, ru⟩ := Vals.one r
  cases ru
  obtain ⟨its, rv, p, _⟩ := I.list hl
  have el : ts.length = its.length := by have := rv.length; rwa [List.length_map] at this
  have at_ : ∀ (i : Nat) (v : Value), its.toArray[i]? = some v → ∃ t, ts[i]? = some t ∧ v = Value.ref t := fun i v e => by
    have e' : its[i]? = some v := by simpa using e
    have hi := (List.getElem?_eq_some_iff.mp e').1
    have ht : ts[i]? = some ts[i] := List.getElem?_eq_getElem (by omega)
    obtain ⟨u, hu, ru⟩ := rv.get (i := i) (x := V.ref ts[i]) (by rw [List.getElem?_map, ht]; rfl)
    rw [e'] at hu
    obtain rfl := Option.some.inj hu
    exact ⟨_, ht, ru⟩
  refine call_minP (ks := ks) (I.ok.hd hc) hu p.isList (by simp; omega) (fun i v e => ?_) fun v b h' tk B hk => ?_
  · obtain ⟨t, ht, rfl⟩ := at_ i v e
    obtain ⟨us, r2, p2, _⟩ := I.tuple (hp i t ht)
    exact ⟨t, us.toArray, ys i, rfl, p2, Vals.ints (ns := [ks i, ys i]) r2⟩
  · obtain ⟨B1, B2, B3⟩ := B
    obtain ⟨t, ht, rfl⟩ := at_ b v B2
    exact ⟨.ref t, H, I.kept (t' := tk) hk, rfl, q b t ht fun i hi => B3 i (by simp; omega)⟩
end Mu

/-! zip(a, b, strict=True) over two lists of one length. -/
namespace Mu
open PySem L2 PyProof.Rows PySem.SeqAt
abbrev ZipS (h : Heap) (z TI TO : Addr) (f0 : Value) : Prop :=
  h.get? z = some { cls := .type "zip", dict := none, data := .fields #[f0, .bool false, .bool true, .ref TI, .ref TO], slots := #[] }
section
variable {prog : Program} {w : World} {A : Around} {E : Value → Shared → Prop} {s : Shared}
theorem draw_item {it l : Addr} {i : Nat} {items : Array Value} {x : Value} {Q : Option Value → Shared → Prop} (hit : s.heap.IsListIter it l i) (hl : s.heap.IsList l items) (hx : items[i]? = some x)
    (hQ : ∀ h', h'.IsListIter it l (i + 1) → Heap.SameBut it s.heap h' → Q (some x) { s with heap := h' }) : wpAny (model prog w) A (Builtin.SmallTypes.nextOrEnd (.ref it)) Q E s := by
  unfold Builtin.SmallTypes.nextOrEnd
  exact wpAny_bind (wpAny_attempt (wpAny_nextOf_list_item hit hl hx fun h' a b => wpAny_pure (hQ h' a b)))
theorem draw_end {it l : Addr} {i : Nat} {items : Array Value} {Q : Option Value → Shared → Prop} (hh : A.handled = none) (hit : s.heap.IsListIter it l i) (hl : s.heap.IsList l items) (hx : items[i]? = none)
    (hQ : ∀ h', Heap.ExtBut it s.heap h' → Q none { s with heap := h' }) : wpAny (model prog w) A (Builtin.SmallTypes.nextOrEnd (.ref it)) Q E s := by
  unfold Builtin.SmallTypes.nextOrEnd
  refine wpAny_bind (wpAny_attempt (wpAny_nextOf_list_end hh hit hl hx fun h' e a ⟨o, ho, hc⟩ => ?_))
  refine wpAny_bind (wpAny_isInstance (T := "StopIteration") (b := true) ⟨o, ho, hc⟩ isSubtype_stop ?_)
  exact wpAny_pure (hQ h' a)
theorem zipS_item {z TI TO i1 i2 l1 l2 : Addr} {k : Nat} {xs ys : Array Value} {x y a b : Value} {Q : Value → Shared → Prop} (D : ZipApart z TI TO i1 i2 l1 l2)
    (hz : ZipS s.heap z TI TO .none) (hTI : IsPair s.heap TI (.ref i1) (.ref i2)) (hTO : IsPair s.heap TO a b) (h1 : s.heap.IsListIter i1 l1 k) (h2 : s.heap.IsListIter i2 l2 k) (hl1 : s.heap.IsList l1 xs) (hl2 : s.heap.IsList l2 ys) (hx : xs[k]? = some x) (hy : ys[k]? = some y)
    (hQ : ∀ h', ZipS h' z TI TO (rawInt s.heap.objs.size) → IsPair h' TO x y → h'.IsListIter i1 l1 (k + 1) → h'.IsListIter i2 l2 (k + 1) → IsPair h' s.heap.objs.size x y →
      (∀ c o, c ≠ z → c ≠ TO → c ≠ i1 → c ≠ i2 → s.heap.get? c = some o → h'.get? c = some o) → Q (.ref s.heap.objs.size) { s with heap := h' }) :
    wpAny (model prog w) A (Builtin.«zip.__next__» ⟨[.ref z], []⟩) (fun fin s' => ∃ v, fin = .done (.ret v) ∧ Q v s') E s := by
  show wpAny _ _ (field (.ref z) 2 >>= _) _ _ _
  refine wpAny_bind (wpAny_field hz rfl (x := .bool true) rfl ?_)
  show wpAny _ _ (field (.ref z) 3 >>= _) _ _ _
  refine wpAny_bind (wpAny_field hz rfl (x := .ref TI) rfl (wpAny_bind (wpAny_seqItems hTI rfl ?_)))
  show wpAny _ _ (Builtin.SmallTypes.ownedTupleIsFree (.ref z) >>= _) _ _ _
  refine wpAny_bind ?_
  unfold Builtin.SmallTypes.ownedTupleIsFree
  refine wpAny_bind (wpAny_field hz rfl (x := .none) rfl (wpAny_pure ?_))
  simp only [if_true]
  refine wpAny_bind (wpAny_rule (wpAny_bind (wpAny_field hz rfl (x := .ref TO) rfl ?_)))
  refine wpAny_bind (wpAny_setField_rec hz (by simp) fun ha za sa => ?_)
  replace za : ZipS ha z TI TO .ellipsis := za
  refine wpAny_bind ?_
  simp only [List.zipIdx_cons, List.zipIdx_nil, List.forIn_cons, List.forIn_nil]
  refine wpAny_bind (wpAny_bind (wpAny_onRaise ?_))
  show wpAny _ _ (Builtin.SmallTypes.nextOrEnd (.ref i1)) _ _ _
  refine draw_item (h1.extBut sa.extBut D.i1z) (hl1.extBut sa.extBut D.l1z) hx fun hb ib sb => ?_
  have tb : IsPair hb TO a b := sb.extBut _ _ D.TOi1 (sa.extBut _ _ D.TOz hTO)
  refine wpAny_bind (wpAny_seqItems tb rfl (wpAny_bind (wpAny_updateSeq_pair tb fun hc tc sc => ?_)))
  replace tc : IsPair hc TO x b := tc
  refine wpAny_bind (wpAny_letGo (wpAny_pure ?_))
  refine wpAny_bind (wpAny_bind (wpAny_onRaise ?_))
  show wpAny _ _ (Builtin.SmallTypes.nextOrEnd (.ref i2)) _ _ _
  refine draw_item (((h2.extBut sa.extBut D.i2z).extBut sb.extBut D.i12.symm).extBut sc.extBut D.TOi2.symm) (((hl2.extBut sa.extBut D.l2z).extBut sb.extBut D.l2i1).extBut sc.extBut D.l2TO) hy fun hd id' sd => ?_
  have td : IsPair hd TO x b := sd.extBut _ _ D.TOi2 tc
  refine wpAny_bind (wpAny_seqItems td rfl (wpAny_bind (wpAny_updateSeq_pair td fun he te se => ?_)))
  replace te : IsPair he TO x y := te
  refine wpAny_bind (wpAny_letGo (wpAny_pure (wpAny_pure ?_)))
  refine wpAny_bind (wpAny_seqItems te rfl (wpAny_bind (wpAny_newTuple ?_)))
  have size : he.objs.size = s.heap.objs.size := by rw [se.1, sd.1, sc.1, sb.1, sa.1]
  have ze : ZipS he z TI TO .ellipsis := se.extBut _ _ D.TOz.symm (sd.extBut _ _ D.i2z.symm (sc.extBut _ _ D.TOz.symm (sb.extBut _ _ D.i1z.symm za)))
  have ke : ∀ c o, c ≠ z → c ≠ TO → c ≠ i1 → c ≠ i2 → s.heap.get? c = some o → he.get? c = some o := fun c o n1 n2 n3 n4 q => se.extBut _ _ n2 (sd.extBut _ _ n4 (sc.extBut _ _ n2 (sb.extBut _ _ n3 (sa.extBut _ _ n1 q))))
  have i1e : he.IsListIter i1 l1 (k + 1) := ((ib.extBut sc.extBut D.TOi1.symm).extBut sd.extBut D.i12).extBut se.extBut D.TOi1.symm
  have i2e : he.IsListIter i2 l2 (k + 1) := id'.extBut se.extBut D.TOi2.symm
  have zlt : z < he.objs.size := Heap.lt_size ze
  show wpAny _ _ (Builtin.SmallTypes.ownedTupleHandOut (.ref z) (.ref he.objs.size) >>= _) _ _ _
  refine wpAny_bind ?_
  unfold Builtin.SmallTypes.ownedTupleHandOut
  have zf : ZipS (he.push { cls := .type "tuple", data := .seq #[x, y] }) z TI TO .ellipsis := Heap.get?_push_of_some _ ze
  refine wpAny_bind (wpAny_setField_rec zf (by simp) fun hg zg sg => ?_)
  replace zg : ZipS hg z TI TO (rawInt he.objs.size) := zg
  refine wpAny_setField_rec zg (by simp) fun hh zh sh => ?_
  replace zh : ZipS hh z TI TO (rawInt he.objs.size) := zh
  have up : ∀ c o, c ≠ z → he.get? c = some o → hh.get? c = some o := fun c o n q => sh.extBut _ _ n (sg.extBut _ _ n (Heap.get?_push_of_some _ q))
  have th : IsPair hh he.objs.size x y := sh.extBut _ _ (Nat.ne_of_gt zlt) (sg.extBut _ _ (Nat.ne_of_gt zlt) (Heap.get?_push_size _ rfl))
  rw [size] at zh th
  refine wpAny_pure ⟨_, rfl, ?_⟩
  show Q (.ref he.objs.size) _
  rw [size]
  exact hQ hh zh (up _ _ D.TOz te) (i1e.at fun o q => up _ o D.i1z q) (i2e.at fun o q => up _ o D.i2z q) th fun c o n1 n2 n3 n4 q => up c o n1 (ke c o n1 n2 n3 n4 q)
theorem zipS_end {z TI TO i1 i2 l1 l2 : Addr} {k : Nat} {xs ys : Array Value} {a b : Value} {Q : Fin → Shared → Prop} (hh : A.handled = none) (D : ZipApart z TI TO i1 i2 l1 l2)
    (hz : ZipS s.heap z TI TO .none) (hTI : IsPair s.heap TI (.ref i1) (.ref i2)) (hTO : IsPair s.heap TO a b) (h1 : s.heap.IsListIter i1 l1 k) (h2 : s.heap.IsListIter i2 l2 k) (hl1 : s.heap.IsList l1 xs) (hl2 : s.heap.IsList l2 ys) (hx : xs[k]? = none) (hy : ys[k]? = none)
    (hE : ∀ h' e, (∀ c o, c ≠ z → c ≠ TO → c ≠ i1 → c ≠ i2 → s.heap.get? c = some o → h'.get? c = some o) → (∃ o, h'.get? e = some o ∧ o.cls = .type "StopIteration") → E (.ref e) { s with heap := h' }) :
    wpAny (model prog w) A (Builtin.«zip.__next__» ⟨[.ref z], []⟩) Q E s := by
  show wpAny _ _ (field (.ref z) 2 >>= _) _ _ _
  refine wpAny_bind (wpAny_field hz rfl (x := .bool true) rfl ?_)
  show wpAny _ _ (field (.ref z) 3 >>= _) _ _ _
  refine wpAny_bind (wpAny_field hz rfl (x := .ref TI) rfl (wpAny_bind (wpAny_seqItems hTI rfl ?_)))
  show wpAny _ _ (Builtin.SmallTypes.ownedTupleIsFree (.ref z) >>= _) _ _ _
  refine wpAny_bind ?_
  unfold Builtin.SmallTypes.ownedTupleIsFree
  refine wpAny_bind (wpAny_field hz rfl (x := .none) rfl (wpAny_pure ?_))
  simp only [if_true]
  refine wpAny_bind (wpAny_rule (wpAny_bind (wpAny_field hz rfl (x := .ref TO) rfl ?_)))
  refine wpAny_bind (wpAny_setField_rec hz (by simp) fun ha za sa => ?_)
  replace za : ZipS ha z TI TO .ellipsis := za
  refine wpAny_bind ?_
  simp only [List.zipIdx_cons, List.zipIdx_nil, List.forIn_cons, List.forIn_nil]
  refine wpAny_bind (wpAny_bind (wpAny_onRaise ?_))
  show wpAny _ _ (Builtin.SmallTypes.nextOrEnd (.ref i1)) _ _ _
  refine draw_end hh (h1.extBut sa.extBut D.i1z) (hl1.extBut sa.extBut D.l1z) hx fun hb sb => ?_
  have zb : ZipS hb z TI TO .ellipsis := sb _ _ D.i1z.symm za
  refine wpAny_bind (wpAny_setField_rec zb (by simp) fun hc zc sc => ?_)
  refine wpAny_bind (wpAny_bind ?_)
  simp only [List.drop_succ_cons, List.drop_zero, List.zipIdx_cons, List.zipIdx_nil, List.forIn_cons, List.forIn_nil]
  refine wpAny_bind (wpAny_bind ?_)
  have hT2 : hc.IsListIter i2 l2 k := (((h2.extBut sa.extBut D.i2z).extBut sb D.i12.symm).extBut sc.extBut D.i2z)
  have hL2 : hc.IsList l2 ys := (((hl2.extBut sa.extBut D.l2z).extBut sb D.l2i1).extBut sc.extBut D.l2z)
  refine draw_end hh hT2 hL2 hy fun hd sd => ?_
  refine wpAny_pure (wpAny_pure ?_)
  refine wpAny_bind (wpAny_rule ?_)
  unfold Builtin.SmallTypes.stopIteration
  simp only [newExc, newTuple]
  refine wpAny_bind ?_
  refine wpAny_bind (wpAny_newObj_type ?_ (by size_fits))
  refine wpAny_bind (m := firstArgMember _ _) (wpAny_of_eq (a := Value.none) (by first | rfl | (simp only [firstArgMember]; rfl)) ?_)
  refine wpAny_newObj_type ?_ (by size_fits)
  simp only [raiseNew]
  refine wpAny_bind (wpAny_handled ?_)
  rw [hh]
  refine wpAny_bind (wpAny_pure (wpAny_throw ?_))
  exact hE _ _ (fun c o n1 n2 n3 n4 q => Heap.get?_push_of_some _ (Heap.get?_push_of_some _ (sd _ _ n4 (sc.extBut _ _ n1 (sb _ _ n3 (sa.extBut _ _ n1 q)))))) ⟨_, Heap.get?_push_size _ rfl, rfl⟩
theorem nextS_item {z TI TO i1 i2 l1 l2 : Addr} {k : Nat} {xs ys : Array Value} {x y a b : Value} {Q : Option Value → Shared → Prop} (D : ZipApart z TI TO i1 i2 l1 l2)
    (hz : ZipS s.heap z TI TO .none) (hTI : IsPair s.heap TI (.ref i1) (.ref i2)) (hTO : IsPair s.heap TO a b) (h1 : s.heap.IsListIter i1 l1 k) (h2 : s.heap.IsListIter i2 l2 k) (hl1 : s.heap.IsList l1 xs) (hl2 : s.heap.IsList l2 ys) (hx : xs[k]? = some x) (hy : ys[k]? = some y)
    (hQ : ∀ h', ZipS h' z TI TO (rawInt s.heap.objs.size) → IsPair h' TO x y → h'.IsListIter i1 l1 (k + 1) → h'.IsListIter i2 l2 (k + 1) → IsPair h' s.heap.objs.size x y →
      (∀ c o, c ≠ z → c ≠ TO → c ≠ i1 → c ≠ i2 → s.heap.get? c = some o → h'.get? c = some o) → Q (some (.ref s.heap.objs.size)) { s with heap := h' }) :
    wpAny (model prog w) A (pyNext (.ref z)) Q E s := by
  have hT : s.TypeIs (.ref z) "zip" := ⟨_, hz, rfl⟩
  unfold pyNext
  exact wpAny_bind (wpAny_attempt (wpAny_callSpecial?_slot (name := Str.ofString "__next__") hT F.slot_zip_next
    (wpAny_call_entry F.slot_zip_next hT F.entry_zip_next (zipS_item D hz hTI hTO h1 h2 hl1 hl2 hx hy fun h' a1 a2 a3 a4 a5 a6 => wpAny_pure (hQ h' a1 a2 a3 a4 a5 a6)) (F.args_zip_next_1 _))))
theorem nextS_end {z TI TO i1 i2 l1 l2 : Addr} {k : Nat} {xs ys : Array Value} {a b : Value} {Q : Option Value → Shared → Prop} (hh : A.handled = none) (D : ZipApart z TI TO i1 i2 l1 l2)
    (hz : ZipS s.heap z TI TO .none) (hTI : IsPair s.heap TI (.ref i1) (.ref i2)) (hTO : IsPair s.heap TO a b) (h1 : s.heap.IsListIter i1 l1 k) (h2 : s.heap.IsListIter i2 l2 k) (hl1 : s.heap.IsList l1 xs) (hl2 : s.heap.IsList l2 ys) (hx : xs[k]? = none) (hy : ys[k]? = none)
    (hQ : ∀ h', (∀ c o, c ≠ z → c ≠ TO → c ≠ i1 → c ≠ i2 → s.heap.get? c = some o → h'.get? c = some o) → Q none { s with heap := h' }) : wpAny (model prog w) A (pyNext (.ref z)) Q E s := by
  have hT : s.TypeIs (.ref z) "zip" := ⟨_, hz, rfl⟩
  unfold pyNext
  refine wpAny_bind (wpAny_attempt (wpAny_callSpecial?_slot (name := Str.ofString "__next__") hT F.slot_zip_next
    (wpAny_call_entry F.slot_zip_next hT F.entry_zip_next (zipS_end hh D hz hTI hTO h1 h2 hl1 hl2 hx hy fun h' e hk ⟨o, ho, hc⟩ => ?_) (F.args_zip_next_1 _))))
  refine wpAny_bind (wpAny_isInstance (T := "StopIteration") (b := true) ⟨o, ho, hc⟩ isSubtype_stop ?_)
  exact wpAny_pure (hQ _ hk)
theorem goS {elts : List Expr} {x1} {pos : Pos} {z TI TO T : Addr} {Q : Unit → Shared → Prop} (hz : ZipS s.heap z TI TO (rawInt T)) (hQ : ∀ h', ZipS h' z TI TO .none → Heap.SameBut z s.heap h' → Q () { s with heap := h' }) :
    wpAny (model prog w) A (letOwnedTupleGo (.Tuple elts x1 pos) (.ref z) (.ref T)) Q E s := by
  unfold letOwnedTupleGo
  refine wpAny_bind (wpAny_load hz ?_)
  show wpAny _ _ (if (_ && (#[rawInt T, .bool false, .bool true, .ref TI, .ref TO] : Array Value)[0]? == some (rawInt T)) = true then _ else _) Q E s
  rw [if_pos (by simp)]
  refine wpAny_bind (wpAny_rule ?_)
  show wpAny _ _ (setField (.ref z) 0 .none) Q E s
  exact wpAny_setField_rec hz (by simp) fun h' hz' hs' => hQ h' hz' hs'
theorem iterS {z TI TO : Addr} {f0 : Value} {Q : Value → Shared → Prop} (hz : ZipS s.heap z TI TO f0) (h : Q (.ref z) s) : wpAny (model prog w) A (pyIter (.ref z)) Q E s := by
  have hT : s.TypeIs (.ref z) "zip" := ⟨_, hz, rfl⟩
  refine wpAny_pyIter_slot hT F.slot_zip_iter (wpAny_call_entry F.slot_zip_iter hT F.entry_zip_iter ?_ (F.args_zip_iter_1 _))
  show wpAny _ _ (ret (.ref z)) _ _ s
  exact wpAny_pure ⟨_, rfl, "zip", _, hT, F.slot_zip_next.lookup, h⟩
end
/-! ### the call -/
abbrev zl (l : Addr) : Obj := { cls := .type "list_iterator", data := .fields #[.ref l, .int 0 0] }
abbrev zT (h : Heap) (a b : Addr) : Heap := ((h.push (zl a)).push (zl b)).push { cls := .type "tuple", data := .seq #[.ref h.objs.size, .ref (h.push (zl a)).objs.size] }
abbrev zO (h : Heap) (a b : Addr) : Heap := (zT h a b).push { cls := .type "tuple", data := .seq #[.none, .none] }
abbrev zZ (h : Heap) (a b : Addr) : Heap := (zO h a b).push { cls := .type "zip", data := .fields #[.none, .bool false, .bool true, .ref ((h.push (zl a)).push (zl b)).objs.size, .ref (zT h a b).objs.size] }
set_option maxHeartbeats 4000000 in
theorem newS (a b : Addr) (xs ys : Array Value) :
    Meets (Builtin.«zip.__new__» ⟨[.type "zip", .ref a, .ref b], [(Str.ofString "strict", .bool true)]⟩) (fun _ R s => s.heap.IsList a xs ∧ s.heap.IsList b ys ∧ R (.ok (.ret (.ref (zO s.heap a b).objs.size))) { s with heap := zZ s.heap a b }) :=
  .of_wp fun prog w A R s h => by
    obtain ⟨hp, g, d, tk, os⟩ := s
    obtain ⟨hl1, hl2, h⟩ := h
    have hsub := sub_zip
    have L1 : Heap.IsList (Shared.heap ⟨hp, g, d, tk, os⟩) a xs := hl1
    have L2 : Heap.IsList (Shared.heap ⟨hp.push (zl a), g, d, tk, os⟩) b ys := Heap.IsList.push hl2 _
    have e1 : (Str.ofString "strict" != ("strict" : Str)) = false := by decide +kernel
    wp_walk using wpAny_pyIter_list L1, wpAny_pyIter_list L2
    exact ⟨_, rfl, h⟩
end Mu

/-! zip(a, b, strict=True) walked by a for. -/
namespace Mu
open PySem L2 PyProof.Rows PySem.SeqAt
theorem zs_typeCall (a b : Value) : checkTypeCall "zip" ⟨[a, b], [(Str.ofString "strict", .bool true)]⟩ = pure () := by kernel_rfl
theorem zs_newCall (a b : Value) : checkBuiltinCall "zip.__new__" ⟨[.type "zip", a, b], [(Str.ofString "strict", .bool true)]⟩ = pure () := by kernel_rfl
theorem zs_args (o a b : Value) : argsOk "object.__init__" ⟨[o, a, b], [(Str.ofString "strict", .bool true)]⟩ := by unfold argsOk; kernel_rfl
section
variable {prog : Program} {w : World} {A : Around} {E : Value → Shared → Prop} {s : Shared}
theorem callS {a b : Addr} {xs ys : Array Value} {Q : Value → Shared → Prop} (hl1 : s.heap.IsList a xs) (hl2 : s.heap.IsList b ys)
    (h : ∀ h' z TI TO i1 i2, ZipApart z TI TO i1 i2 a b → (∀ c ∈ [z, TI, TO, i1, i2], s.heap.objs.size ≤ c) → ZipS h' z TI TO .none → IsPair h' TI (.ref i1) (.ref i2) → IsPair h' TO .none .none → h'.IsListIter i1 a 0 → h'.IsListIter i2 b 0 →
      (∀ c o, s.heap.get? c = some o → h'.get? c = some o) → Q (.ref z) { s with heap := h' }) :
    wpAny (model prog w) A (call (.type "zip") [.ref a, .ref b] [(Str.ofString "strict", .bool true)]) Q E s := by
  refine callType_newKw F.called_zip (by decide) (zs_typeCall _ _) (zs_newCall _ _) (fun obj => zs_args obj _ _) F.entry_zip_new (newS a b xs ys) ⟨hl1, hl2, ?_⟩
  have la : a < s.heap.objs.size := by obtain ⟨_, e, _⟩ := hl1; exact Heap.lt_size e
  have lb : b < s.heap.objs.size := by obtain ⟨_, e, _⟩ := hl2; exact Heap.lt_size e
  have z1 : (s.heap.push (zl a)).objs.size = s.heap.objs.size + 1 := Heap.size_push ..
  have z2 : ((s.heap.push (zl a)).push (zl b)).objs.size = s.heap.objs.size + 2 := by rw [Heap.size_push, z1]
  have z3 : (zT s.heap a b).objs.size = s.heap.objs.size + 3 := by rw [Heap.size_push, z2]
  have z4 : (zO s.heap a b).objs.size = s.heap.objs.size + 4 := by rw [Heap.size_push, z3]
  have g5 : (zZ s.heap a b).get? (zO s.heap a b).objs.size = some _ := Heap.get?_push_size _ rfl
  have g4 : (zZ s.heap a b).get? (zT s.heap a b).objs.size = some _ := Heap.get?_push_of_some _ (Heap.get?_push_size _ rfl)
  have g3 : (zZ s.heap a b).get? ((s.heap.push (zl a)).push (zl b)).objs.size = some _ := Heap.get?_push_of_some _ (Heap.get?_push_of_some _ (Heap.get?_push_size _ rfl))
  have g2 : (zZ s.heap a b).get? (s.heap.push (zl a)).objs.size = some _ := Heap.get?_push_of_some _ (Heap.get?_push_of_some _ (Heap.get?_push_of_some _ (Heap.get?_push_size _ rfl)))
  have g1 : (zZ s.heap a b).get? s.heap.objs.size = some _ := Heap.get?_push_of_some _ (Heap.get?_push_of_some _ (Heap.get?_push_of_some _ (Heap.get?_push_of_some _ (Heap.get?_push_size _ rfl))))
  show _ ∧ _
  rw [z2, z3, z4] at g5
  rw [z1, z2] at g3
  rw [z3] at g4
  rw [z1] at g2
  rw [z4]
  refine ⟨⟨_, g5, rfl⟩, h _ (s.heap.objs.size + 4) (s.heap.objs.size + 2) (s.heap.objs.size + 3) s.heap.objs.size (s.heap.objs.size + 1) (PySem.W.ktu_apart s.heap.objs.size a b la lb) (fun c hc => ?_) g5 g3 g4 ⟨_, g1, rfl, rfl⟩ ⟨_, g2, rfl, rfl⟩ fun c o x =>
    Heap.get?_push_of_some _ (Heap.get?_push_of_some _ (Heap.get?_push_of_some _ (Heap.get?_push_of_some _ (Heap.get?_push_of_some _ x))))⟩
  simp only [List.mem_cons, List.not_mem_nil, or_false] at hc
  rcases hc with z | z | z | z | z
  · rw [z]; exact Nat.le_add_right _ _
  · rw [z]; exact Nat.le_add_right _ _
  · rw [z]; exact Nat.le_add_right _ _
  · rw [z]; exact Nat.le_refl _
  · rw [z]; exact Nat.le_add_right _ _
end
/-- the lists at a and b, of one length, the items in new pairs -/
def Izs (K : PySem.W.Frag) (a b : Addr) : It :=
  ⟨fun i H => ∃ (xs ys : List V) (x y : V), SqL K H a xs ∧ SqL K H b ys ∧ xs[i]? = some x ∧ ys[i]? = some y,
    fun i H v H' => ∃ T x y, v = .ref T ∧ H T = none ∧ H' = upd H T (.tup [x, y]) ∧ (∀ xs, SqL K H a xs → xs[i]? = some x) ∧ ∀ ys, SqL K H b ys → ys[i]? = some y,
    fun i H => ∃ xs ys : List V, SqL K H a xs ∧ SqL K H b ys ∧ xs.length ≤ i ∧ ys.length ≤ i⟩
theorem turn_zipS {P : Program} {w : World} {K : PySem.W.Frag} {elts : List Expr} {kk : Nat} {tpos : Pos} {a b z TI TO i1 i2 : Addr} (D : ZipApart z TI TO i1 i2 a b) :
    Turn P w K (.Tuple elts kk tpos) (Izs K a b) [z, TI, TO, i1, i2] z (fun i h => ZipS h z TI TO .none ∧ IsPair h TI (.ref i1) (.ref i2) ∧ (∃ x y, IsPair h TO x y) ∧ h.IsListIter i1 a i ∧ h.IsListIter i2 b i) where
  mem := List.mem_cons_self
  obj := fun i h st c hc => by
    obtain ⟨hz, hTI, ⟨x, y, hTO⟩, ⟨o1, e1, _, d1⟩, ⟨o2, e2, _, d2⟩⟩ := st
    simp only [List.mem_cons, List.not_mem_nil, or_false] at hc
    rcases hc with q | q | q | q | q
    · rw [q]; exact ⟨_, hz, fun v q => nomatch q⟩
    · rw [q]; exact ⟨_, hTI, fun v q => nomatch q⟩
    · rw [q]; exact ⟨_, hTO, fun v q => nomatch q⟩
    · rw [q]; exact ⟨o1, e1, fun v q => by rw [d1] at q; cases q⟩
    · rw [q]; exact ⟨o2, e2, fun v q => by rw [d2] at q; cases q⟩
  keep := fun i h h' ⟨hz, hTI, ⟨x, y, hTO⟩, h1, h2⟩ k => ⟨k z (by simp) _ hz, k TI (by simp) _ hTI, ⟨x, y, k TO (by simp) _ hTO⟩, h1.at fun o q => k i1 (by simp) o q, h2.at fun o q => k i2 (by simp) o q⟩
  item := by
    intro X hP hw hK hc i pins s σ H E I hf ⟨hz, hTI, ⟨x0, y0, hTO⟩, h1, h2⟩ ⟨xs, ys, x, y, hqx, hqy, hx, hy⟩
    subst hP hw hK
    obtain ⟨its, rv, p, _⟩ := I.list hqx
    obtain ⟨its2, rv2, p2, _⟩ := I.list hqy
    obtain ⟨u, hu, ru⟩ := rv.get hx
    obtain ⟨u2, hu2, ru2⟩ := rv2.get hy
    have hzl : z < s.heap.objs.size := Heap.lt_size hz
    have old : ∀ c ∈ [z, TI, TO, i1, i2], c < s.heap.objs.size := fun c hcm => by
      simp only [List.mem_cons, List.not_mem_nil, or_false] at hcm
      rcases hcm with q | q | q | q | q
      · rw [q]; exact hzl
      · rw [q]; exact Heap.lt_size hTI
      · rw [q]; exact Heap.lt_size hTO
      · rw [q]; obtain ⟨_, e1, _⟩ := h1; exact Heap.lt_size e1
      · rw [q]; obtain ⟨_, e2, _⟩ := h2; exact Heap.lt_size e2
    refine nextS_item D hz hTI hTO h1 h2 p.isList p2.isList (x := u) (y := u2) (by simpa using hu) (by simpa using hu2) fun h' z' TO' h1' h2' hT hk => ?_
    refine ⟨_, rfl, goS (s := { s with heap := h' }) z' fun h'' z'' sb => ?_⟩
    have hT2 : h''.get? s.heap.objs.size = some { cls := .type "tuple", data := .seq #[u, u2] } := (sb.2 _ (Nat.ne_of_gt hzl)).trans hT
    have new : ObjOk X.prog X.w (upd H s.heap.objs.size (.tup [x, y])) h'' s.heap.objs.size (.tup [x, y]) := ⟨by show 2 ≤ sizeLine; decide, [u, u2], .cons ru (.cons ru2 .nil), ⟨_, hT2, rfl, _, rfl⟩⟩
    have I1 : Inv X pins σ (upd H s.heap.objs.size (.tup [x, y])) { s with heap := h'' } :=
      I.turnedNew (t' := s.toks) (ch := [z, TI, TO, i1, i2]) (fun c o hb q => (sb.2 c fun q' => hb (by simp [q'])).trans (hk c o (fun q' => hb (by simp [q'])) (fun q' => hb (by simp [q'])) (fun q' => hb (by simp [q'])) (fun q' => hb (by simp [q'])) q)) hf (Nat.le_refl _) new
    refine ⟨.ref s.heap.objs.size, _, I1, rfl, ⟨_, x, y, rfl, I.hok.fresh (Nat.le_refl _), rfl, fun l hl => by rw [I.list_inj hl hqx]; exact hx, fun l hl => by rw [I.list_inj hl hqy]; exact hy⟩, ⟨z'', ?_, ⟨u, u2, (sb.2 _ D.TOz).trans TO'⟩, ?_, ?_⟩, fun c hcm => ?_⟩
    · exact (sb.2 _ D.TIz).trans (hk _ _ D.TIz D.TITO D.TIi1 D.TIi2 hTI)
    · exact h1'.at fun o q => (sb.2 _ D.i1z).trans q
    · exact h2'.at fun o q => (sb.2 _ D.i2z).trans q
    · rw [upd_ne (Nat.ne_of_lt (old c hcm))]
      exact (hf c hcm).1
  done := by
    intro X hP hw hK hc i pins s σ H E I hf ⟨hz, hTI, ⟨x0, y0, hTO⟩, h1, h2⟩ ⟨xs, ys, hqx, hqy, e1, e2⟩
    subst hP hw hK
    obtain ⟨its, rv, p, _⟩ := I.list hqx
    obtain ⟨its2, rv2, p2, _⟩ := I.list hqy
    have l1 := rv.length
    have l2 := rv2.length
    exact nextS_end (I.ok.hd hc) D hz hTI hTO h1 h2 p.isList p2.isList (by simp; omega) (by simp; omega) fun h' hk => ⟨rfl, I.turnedL (t' := s.toks) (ch := [z, TI, TO, i1, i2]) (fun c o hb q =>
      hk c o (fun q' => hb (by simp [q'])) (fun q' => hb (by simp [q'])) (fun q' => hb (by simp [q'])) (fun q' => hb (by simp [q'])) q) hf⟩
  self := fun A i s Q E st h => iterS st.1 h
def iZipS (K : PySem.W.Frag) (ta : TA) : TI := fun σ H R => ta σ H fun vs H1 => ∃ a b xs ys, vs = [.ref a, .ref b] ∧ SqL K H1 a xs ∧ SqL K H1 b ys ∧ R (Izs K a b) H1
theorem pi_zipS {X : Cx} {e e2 : Expr} {ta : TA} {p pos tpos cp kp : Pos} {j : Nat} {elts : List Expr} {kk : Nat} (hg : Gl X "zip") (hm : X.mg "zip" = none) (ha : PA X [e, e2] ta)
    (hs : starEach [e, e2] X.env = (false, eval e X.env) :: starEach [e2] X.env := by rfl)
    (hpl : ((backTo pos (starEach [e, e2] X.env)).any (·.1) || (backToKw pos (keywordEach [⟨some (Str.ofString "strict"), .Constant (.bool true) j cp, kp⟩] X.env)).any (·.1.isNone)) = false := by rfl) :
    PI X (.Tuple elts kk tpos) (.Call (.Name "zip" p) [e, e2] [⟨some (Str.ofString "strict"), .Constant (.bool true) j cp, kp⟩] pos) (iZipS X.K ta) := by
  refine ⟨fun pins s σ H R I h => ?_⟩
  refine wpAny_Call_Name_kw (ld_blt I hg hm PyProof.Rows.boot_zip ?_)
  refine PySem.W.callWith_of (P := fun _ => True) hpl (fun h _ => ⟨.machine, .inr (.inl rfl), PySem.W.Looks.of_pure rfl⟩) ?_
  refine PyProof.Rows.evalArgs_kw2 rfl (thn (ha.run pos pins s σ H _ I h) fun us s1 ⟨vs, H1, I1, r1, a, b, xs, ys, ex, hqx, hqy, q⟩ => ?_) hs
  subst ex
  obtain ⟨u, v, rfl, ru, rv⟩ := Vals.two r1
  cases ru
  cases rv
  refine thn ((pk_cons (nm := some (Str.ofString "strict")) (kpos := kp) (pe_bl (b := true) (j := j) (pos := cp)) pk_nil).run pos pins s1 σ H1 (fun zs H2 => zs = [V.bl true] ∧ H2 = H1) I1 ⟨rfl, rfl⟩) fun ks s2 ⟨zs, H2, I2, r2, e1, e2⟩ => ⟨trivial, ?_⟩
  subst e1 e2
  obtain ⟨k, rfl, rk⟩ := Vals.one r2
  cases rk
  obtain ⟨its, rv, p1, _⟩ := I2.list hqx
  obtain ⟨its2, rv2, p2, _⟩ := I2.list hqy
  show wpAny (model X.prog X.w) X.A (call (.type "zip") [.ref a, .ref b] [(Str.ofString "strict", .bool true)]) _ _ s2
  refine callS p1.isList p2.isList fun h' z TI TO i1 i2 D hge hz hTI hTO h1 h2 hk => iterS hz ?_
  have I3 : Inv X pins σ H2 { s2 with heap := h' } := I2.kept (t' := s2.toks) hk
  exact ⟨z, [z, TI, TO, i1, i2], _, _, H2, rfl, I3, turn_zipS D, ⟨hz, hTI, ⟨_, _, hTO⟩, h1, h2⟩, fun c hcm => I2.fpOk (hge c hcm) (I2.hok.fresh (hge c hcm)), q⟩
theorem walk_zipS {K : PySem.W.Frag} {a b : Addr} {xs ys : List V} (hl : xs.length = ys.length) : Walk (Izs K a b) xs.length (fun H => SqL K H a xs ∧ SqL K H b ys) (YPair (fun i => xs[i]?) (fun i => ys[i]?)) where
  goes := fun i H hi ⟨g1, g2⟩ => ⟨xs, ys, xs[i], ys[i]'(hl ▸ hi), g1, g2, List.getElem?_eq_getElem hi, List.getElem?_eq_getElem (hl ▸ hi)⟩
  stops := fun H ⟨g1, g2⟩ => ⟨xs, ys, g1, g2, Nat.le_refl _, hl ▸ Nat.le_refl _⟩
  yields := fun i H v H' hi ⟨g1, g2⟩ ⟨T, x, y, e1, e2, e3, e4, e5⟩ => ⟨T, x, y, e1, e2, e3, e4 xs g1, e5 ys g2⟩
theorem for_zipS {K : PySem.W.Frag} {a b : Addr} {xs ys : List V} {g : TG} {tb : TS} {D : Ends} {σ : L2.St} {H : Hp} (hl : xs.length = ys.length) (Pv : Nat → L2.St → Hp → Prop) (h0 : Pv 0 σ H) (hq : ∀ i σ H, i ≤ xs.length → Pv i σ H → SqL K H a xs ∧ SqL K H b ys)
    (hs : ∀ (i : Nat) (x y : V) (T : Addr) (σ : L2.St) (H : Hp), xs[i]? = some x → ys[i]? = some y → Pv i σ H → H T = none → g (.ref T) σ (upd H T (.tup [x, y])) fun σ2 H2 => tb { D with nx := Pv (i + 1), ct := Pv (i + 1), bk := D.nx } σ2 H2) (hd : ∀ σ H, Pv xs.length σ H → D.nx σ H) :
    ∃ W : Nat → Nat → L2.St → Hp → Prop, (∃ m, W 0 m σ H) ∧ ∀ i m σ H, W i m σ H →
      ((Izs K a b).stop i H ∧ D.nx σ H) ∨ ((Izs K a b).go i H ∧ ∃ N : L2.St → Hp → Prop, (∀ σ' H', N σ' H' → ∃ m', m' < m ∧ W (i + 1) m' σ' H') ∧ ∀ x H', (Izs K a b).yld i H x H' → g x σ H' fun σ2 H2 => tb { D with nx := N, ct := N, bk := D.nx } σ2 H2) := by
  refine for_it (walk_zipS hl) Pv h0 hq (fun i v σ H H' hi p ⟨T, x, y, e1, e2, e3, e4, e5⟩ => ?_) hd
  subst e1 e3
  exact hs i x y T σ H e4 e5 p e2
end Mu

/-! Dicts one of whose keys may be None. -/
namespace Mu
open PySem L2 PyProof.Rows PySem.SeqAt
def nkV : Option Key → V
  | none => .non
  | some k => kV k
theorem nk_is {P : Program} {w : World} {k : Option Key} {u : Value} (r : RelV (nkV k) u) : (noneKind P w).is k u = true := by
  cases k with
  | none => obtain rfl : u = .none := r; rfl
  | some k => exact (kV_is (P := P) (w := w) r : (mixKind P w).is k u = true)
theorem nk_rel {P : Program} {w : World} {k : Option Key} {u : Value} (h : (noneKind P w).is k u = true) : RelV (nkV k) u := by
  cases k with
  | none => exact nk_none h
  | some k => exact relV_key (show keyIs k u = true from h)
/-- the dict at a: its keys None, ints, texts -/
def nD (P : Program) (w : World) (a : Addr) (kvs : List (Option Key × V)) : HO :=
  .ext fun h => kvs.length ≤ sizeLine ∧ (a == sysModules) = false ∧ ∃ vs, KV kvs vs ∧ h.DictOf (noneKind P w) a vs
section
variable {P : Program} {w : World} {H : Hp} {h : Heap} {a : Addr} {kvs : List (Option Key × V)}
theorem nD_rd (ok : HOk P w H h) (e : Rd H a (nD P w a kvs)) : kvs.length ≤ sizeLine ∧ (a == sysModules) = false ∧ ∃ vs, KV kvs vs ∧ h.DictOf (noneKind P w) a vs := by
  obtain ⟨x, _⟩ := (show ObjOk P w H h a (nD P w a kvs) from e.ok ok)
  exact x
theorem nD_new {vs : List (Option Key × Value)} (z : kvs.length ≤ sizeLine) (hd : (a == sysModules) = false) (rel : KV kvs vs) (dd : h.DictOf (noneKind P w) a vs) : ObjOk P w H h a (nD P w a kvs) := by
  refine ⟨⟨z, hd, vs, rel, dd⟩, ?_, fun h1 h2 p k => ?_⟩
  · obtain ⟨o, _, _, e, _⟩ := dd
    exact ⟨o, e⟩
  · obtain ⟨z, hd, vs, rel, o, es, ep, e, c⟩ := p
    exact ⟨z, hd, vs, rel, o, es, ep, k _ e, c⟩
theorem nD_empty (hb : sysModules < h.objs.size) : ObjOk P w H (h.push { cls := .type "dict", data := .dict #[] }) h.objs.size (nD P w h.objs.size []) :=
  nD_new (Nat.zero_le _) (beq_eq_false_iff_ne.mpr (Ne.symm (Nat.ne_of_lt hb))) .nil (Heap.DictOf.new h)
end
section
variable {X : Cx} {pins : List (Addr × Obj)} {σ : L2.St} {H : Hp} {s : Shared} {a : Addr} {kvs : List (Option Key × V)} {k : Option Key} {v d : V} {u r : Value} {A : Around} {E : Value → Shared → Prop}
theorem n_getItem {Q : Value → Shared → Prop} (I : Inv X pins σ H s) (e : Rd H a (nD X.prog X.w a kvs)) (l : valV kvs k = some v) (ry : RelV (nkV k) u) (h : ∀ w' s', Inv X pins σ H s' → RelV v w' → Q w' s') :
    wpAny (model X.prog X.w) A (getItem (.ref a) u) Q E s := by
  obtain ⟨z, hd, vs, rel, dd⟩ := nD_rd I.hok e
  obtain ⟨w', hw, rw'⟩ := RelO.some_of (v := v) (o := valueAt vs k) (by rw [← l]; exact rel.val k)
  exact wpAny_getItem_of (nk_is ry) dd.mapOf hw (h w' _ (I.tok _) rw')
theorem n_setItem {Q : Unit → Shared → Prop} (I : Inv X pins σ H s) (e : H a = some (nD X.prog X.w a kvs)) (hz : kvs.length < sizeLine) (ry : RelV (nkV k) u) (rv : RelV v r) (h : ∀ s', Inv X pins σ (upd H a (nD X.prog X.w a (putK kvs k v))) s' → Q () s') :
    wpAny (model X.prog X.w) A (setItem (.ref a) u r) Q E s := by
  obtain ⟨z, hd, vs, rel, dd⟩ := nD_rd I.hok (.inl e)
  refine wpAny_setItem_pairs (hsz := by rw [← rel.length]; exact z) (nk_is ry) dd fun h' dd' hs => h _ ?_
  have he : ∃ q, h'.get? a = some q := let ⟨q, _, _, hq, _⟩ := dd'; ⟨q, hq⟩
  exact d_write I (by rw [e]; exact True.intro) hs he (nD_new (by have := length_putK kvs k v; omega) hd (rel.put k rv) dd')
theorem n_get1 {Q : Value → Shared → Prop} (I : Inv X pins σ H s) (e : Rd H a (nD X.prog X.w a kvs)) (ry : RelV (nkV k) u) (h : ∀ w' s', Inv X pins σ H s' → RelV ((valV kvs k).getD .non) w' → Q w' s') :
    wpAny (model X.prog X.w) A (call (.builtin "dict.get") [.ref a, u]) Q E s := by
  obtain ⟨z, hd, vs, rel, dd⟩ := nD_rd I.hok e
  exact call_meetsIn PySem.F.slot_dict_get dd.typeIs PySem.F.entry_dict_get (PySem.F.args_dict_get_2 _ _) (meets_dict_get (noneKind X.prog X.w) a (nk_is ry) hd) ⟨_, dd.mapOf, h _ _ (I.tok _) ((rel.val k).getD rfl)⟩
theorem n_get2 {Q : Value → Shared → Prop} (I : Inv X pins σ H s) (e : Rd H a (nD X.prog X.w a kvs)) (ry : RelV (nkV k) u) (rd : RelV d r) (h : ∀ w' s', Inv X pins σ H s' → RelV ((valV kvs k).getD d) w' → Q w' s') :
    wpAny (model X.prog X.w) A (call (.builtin "dict.get") [.ref a, u, r]) Q E s := by
  obtain ⟨z, hd, vs, rel, dd⟩ := nD_rd I.hok e
  exact call_meetsIn PySem.F.slot_dict_get dd.typeIs PySem.F.entry_dict_get (PySem.F.args_dict_get_3 _ _ _) (meets_dict_get_default (noneKind X.prog X.w) a (nk_is ry) hd r) ⟨_, dd.mapOf, h _ _ (I.tok _) ((rel.val k).getD rd)⟩
theorem n_at (I : Inv X pins σ H s) (e : Rd H a (nD X.prog X.w a kvs)) : s.TypeIs (.ref a) "dict" ∧ ∀ b, Value.ref a = .ref b → ∃ ob, s.heap.get? b = some ob ∧ ob.dict = none := by
  obtain ⟨z, hd, vs, rel, dd⟩ := nD_rd I.hok e
  refine ⟨dd.typeIs, fun b q => ?_⟩
  cases q
  obtain ⟨ob, _, _, h1, h2, _⟩ := dd
  exact ⟨ob, h1, h2.2.1⟩
end
/-! ### readings and rules -/
def tNGet (P : Program) (w : World) (td ty : TE) : TE := fun σ H Q => td σ H fun x H1 => ty σ H1 fun y H2 => ∃ a kvs k v, x = .ref a ∧ Rd H2 a (nD P w a kvs) ∧ y = nkV k ∧ valV kvs k = some v ∧ Q v H2
def tNGet1 (P : Program) (w : World) (td ty : TE) : TE := fun σ H Q => td σ H fun x H1 => ∃ a kvs, x = .ref a ∧ Rd H1 a (nD P w a kvs) ∧ ty σ H1 fun y H2 => ∃ k, y = nkV k ∧ Rd H2 a (nD P w a kvs) ∧ Q ((valV kvs k).getD .non) H2
def tNGet2 (P : Program) (w : World) (td ty tx : TE) : TE := fun σ H Q => td σ H fun x H1 => ∃ a kvs, x = .ref a ∧ Rd H1 a (nD P w a kvs) ∧ ty σ H1 fun y H2 => tx σ H2 fun z H3 => ∃ k, y = nkV k ∧ Rd H3 a (nD P w a kvs) ∧ Q ((valV kvs k).getD z) H3
def sNPut (P : Program) (w : World) (td ty tv : TE) : TS := fun D σ H => tv σ H fun v H1 => td σ H1 fun x H2 => ty σ H2 fun y H3 => ∃ a kvs k, x = .ref a ∧ H3 a = some (nD P w a kvs) ∧ y = nkV k ∧ kvs.length < sizeLine ∧ D.nx σ (upd H3 a (nD P w a (putK kvs k v)))
section
variable {X : Cx} {o i e f value : Expr} {pos pos' apos cpos : Pos} {td ty tx tv : TE}
theorem pe_nget (ho : PE X o td) (hi : PE X i ty) (hs : NoSl i) : PE X (.Subscript o i pos) (tNGet X.prog X.w td ty) := by
  refine ⟨fun pins s σ H Q I h => ?_⟩
  refine subD_of PySem.F.slot_dict_getitem.lookup hs (thn (ho.run pins s σ H _ I h) fun u s1 ⟨x, H1, I1, rx, q1⟩ => thn (hi.run pins s1 σ H1 _ I1 q1) fun iv s2 ⟨y, H2, I2, ry, a, kvs, k, v, ex, g, ey, l, q2⟩ => ?_)
  subst ex ey
  obtain rfl : u = Value.ref a := rx
  exact ⟨(n_at I2 g).1, n_getItem I2 g l ry fun w' s3 I3 rw' => ⟨v, H2, I3, rw', q2⟩⟩
theorem pe_nget1 (ho : PE X o td) (he : PE X e ty) (m : M1 X o "get" apos e cpos) : PE X (.Call (.Attribute o "get" apos) [e] [] cpos) (tNGet1 X.prog X.w td ty) := by
  refine ⟨fun pins s σ H Q I h => ?_⟩
  refine wpAny_Call_method m.base m.few m.line PySem.F.plainAttrs_dict PySem.F.slot_dict_get PySem.F.type_dict_get (thn (ho.run pins s σ H _ I h) fun u s1 ⟨x, H1, I1, rx, a, kvs, ex, g, q1⟩ => ?_)
  subst ex
  obtain rfl : u = Value.ref a := rx
  refine ⟨(n_at I1 g).1, (n_at I1 g).2, ?_⟩
  rw [m.trees]
  refine Calls.callWith_builtin rfl (Calls.evalArgs_plain (Calls.spliced_cons (thn (he.run pins s1 σ H1 _ I1 q1) fun iv s2 ⟨y, H2, I2, ry, k, ey, g2, q2⟩ => Calls.spliced_nil ?_)))
  subst ey
  exact n_get1 I2 g2 ry fun w' s3 I3 rw' => ⟨_, H2, I3, rw', q2⟩
theorem pe_nget2 (ho : PE X o td) (he : PE X e ty) (hf : PE X f tx) (m : M2 X o "get" apos e f cpos) : PE X (.Call (.Attribute o "get" apos) [e, f] [] cpos) (tNGet2 X.prog X.w td ty tx) := by
  refine ⟨fun pins s σ H Q I h => ?_⟩
  refine wpAny_Call_method m.base m.few m.line PySem.F.plainAttrs_dict PySem.F.slot_dict_get PySem.F.type_dict_get (thn (ho.run pins s σ H _ I h) fun u s1 ⟨x, H1, I1, rx, a, kvs, ex, g, q1⟩ => ?_)
  subst ex
  obtain rfl : u = Value.ref a := rx
  refine ⟨(n_at I1 g).1, (n_at I1 g).2, ?_⟩
  rw [m.trees]
  refine Calls.callWith_builtin rfl (Calls.evalArgs_plain (Calls.spliced_cons (thn (he.run pins s1 σ H1 _ I1 q1) fun iv s2 ⟨y, H2, I2, ry, q2⟩ =>
    Calls.spliced_cons (thn (hf.run pins s2 σ H2 _ I2 q2) fun fv s3 ⟨z, H3, I3, rz, k, ey, g2, q3⟩ => Calls.spliced_nil ?_))))
  subst ey
  exact n_get2 I3 g2 ry rz fun w' s4 I4 rw' => ⟨_, H3, I4, rw', q3⟩
theorem ps_nput (ho : PE X o td) (hi : PE X i ty) (hv : PE X value tv) (hs : swapsWith value (some (.Subscript o i pos')) pos.line X.env = pure false) : PS X (.Assign [.Subscript o i pos'] value pos) (sNPut X.prog X.w td ty tv) := by
  refine ⟨fun pins s σ H D I h => ?_⟩
  refine wpAny_Assign_Subscript (thn (hv.run pins s σ H _ I h) fun r s1 ⟨v, H1, I1, rv, q1⟩ => thn (ho.run pins s1 σ H1 _ I1 q1) fun u s2 ⟨x, H2, I2, rx, q2⟩ => thn (hi.run pins s2 σ H2 _ I2 q2) fun iv s3 ⟨y, H3, I3, ry, a, kvs, k, ex, g, ey, hz, q3⟩ => ?_) hs
  subst ex ey
  obtain rfl : u = Value.ref a := rx
  exact n_setItem I3 g hz ry rv fun s4 I4 => ⟨σ, _, I4, q3⟩
/-- {None: v} -/
def tNDisp (P : Program) (w : World) (tv : TE) : TE := fun σ H Q => ∀ p, H p = none → tv σ (upd H p (nD P w p [])) fun y H2 => H2 p = some (nD P w p []) ∧ Q (.ref p) (upd H2 p (nD P w p [(none, y)]))
theorem pe_ndisp {j : Nat} {kp : Pos} (hv : PE X value tv) : PE X (.Dict [some (.Constant .none j kp)] [value] pos) (tNDisp X.prog X.w tv) := by
  refine ⟨fun pins s σ H Q I q => ?_⟩
  have hn := I.hok.fresh (Nat.le_refl s.heap.objs.size)
  have I1 := I.laid (a := s.heap.objs.size) (o := nD X.prog X.w s.heap.objs.size []) (h' := s.heap.push { cls := .type "dict", data := .dict #[] }) (t' := s.toks) (fun _ _ q => Heap.get?_push_of_some _ q) (Nat.le_refl _) (nD_empty I.big)
  refine wpAny_Dict_walk (knd := noneKind X.prog X.w) rfl rfl (by simp) (by show 1 ≤ 15; decide) (pairTrees_cons_walk (Constant_none (thn (hv.run pins _ σ _ _ I1 (q _ hn)) fun u s2 ⟨y, H2, I2, ry, e, q2⟩ => pairTrees_nil_walk ?_)))
  obtain ⟨z, hd, vs0, r0, dd⟩ := nD_rd I2.hok (.inl e)
  cases r0
  refine ⟨[(none, u)], ⟨rfl, rfl, True.intro⟩, dd, fun h' dd' hs => ⟨.ref s.heap.objs.size, _, ?_, rfl, q2⟩⟩
  have he : ∃ q, h'.get? s.heap.objs.size = some q := let ⟨q, _, _, hq, _⟩ := dd'; ⟨q, hq⟩
  exact d_write I2 (by rw [e]; exact True.intro) hs he (nD_new (by show 1 ≤ sizeLine; decide) hd (.cons ⟨rfl, ry⟩ .nil) dd')
end
end Mu

/-! dict(zip(a, b)) and the walk over such a dict's keys. -/
namespace Mu
open PySem L2 PyProof.Rows PySem.SeqAt
section
variable {κ : Type} [DecidableEq κ]
theorem stored_new {kvs : List (κ × Value)} {k : κ} {v : Value} (h : k ∉ kvs.map (·.1)) : stored kvs k v = kvs ++ [(k, v)] := by
  unfold stored
  rw [if_neg]
  intro z
  obtain ⟨p, hp, e⟩ := List.any_eq_true.mp z
  exact h (List.mem_map.mpr ⟨p, hp, of_decide_eq_true e⟩)
theorem merged_app : ∀ (more acc : List (κ × Value)), ((acc ++ more).map (·.1)).Nodup → merged acc more = acc ++ more
  | [], acc, _ => by rw [List.append_nil]; rfl
  | p :: more, acc, h => by
    have hp : p.1 ∉ acc.map (·.1) := fun z => by
      rw [List.map_append, List.map_cons] at h
      exact (List.nodup_append.mp h).2.2 _ z _ List.mem_cons_self rfl
    show merged (stored acc p.1 p.2) more = _
    rw [stored_new hp, merged_app more (acc ++ [p]) (by rw [List.append_assoc]; exact h), List.append_assoc]
    rfl
end
def tDictZip (P : Program) (w : World) (K : PySem.W.Frag) (ta : TA) : TE := fun σ H Q => ta σ H fun vs H1 => ∃ (a b : Addr) (ks : List (Option Key)) (ys : List V), vs = [.ref a, .ref b] ∧ SqL K H1 a (ks.map nkV) ∧ SqL K H1 b ys ∧ ks.length = ys.length ∧ ks.Nodup ∧
  ∀ p, H1 p = none → Q (.ref p) (upd H1 p (nD P w p (ks.zip ys)))
theorem zip_at {α β : Type} : ∀ {xs : List α} {ys : List β} {i : Nat} {x : α} {y : β}, xs[i]? = some x → ys[i]? = some y → (xs.zip ys)[i]? = some (x, y) := by
  intro xs ys i x y h1 h2
  rw [List.getElem?_zip_eq_some]
  exact ⟨h1, h2⟩
theorem pe_dictzip {X : Cx} {e e2 : Expr} {ta : TA} {p p2 pos pos2 : Pos} (hcalm : X.calm = true) (hg : Gl X "dict") (hm : X.mg "dict" = none) (hgz : Gl X "zip") (hmz : X.mg "zip" = none) (ha : PA X [e, e2] ta)
    (hs : starEach [e, e2] X.env = (false, eval e X.env) :: starEach [e2] X.env := by rfl) (hpl : (backTo pos2 (starEach [e2] X.env)).any (·.1) = false := by rfl)
    (hso : starEach [.Call (.Name "zip" p2) [e, e2] [] pos2] X.env = (false, eval (.Call (.Name "zip" p2) [e, e2] [] pos2) X.env) :: starEach [] X.env := by rfl) :
    PE X (.Call (.Name "dict" p) [.Call (.Name "zip" p2) [e, e2] [] pos2] [] pos) (tDictZip X.prog X.w X.K ta) := by
  refine ⟨fun pins s σ H Q I h => ?_⟩
  refine Call_ (ld_blt I hg hm (by decide +kernel) (PyProof.Rows.callWith_type1 (T := "dict") ?_ hso rfl))
  rw [hso]
  refine Calls.spliced_cons (Call_ (ld_blt I hgz hmz PyProof.Rows.boot_zip (PyProof.Rows.callWith_type1 (thn (ha.run pos2 pins s σ H _ I h) fun us s1 ⟨vs, H1, I1, r1, a, b, ks, ys, ex, hqx, hqy, hl, nd, q⟩ => ?_) hs hpl)))
  subst ex
  obtain ⟨u, v, rfl, ru, rv⟩ := Vals.two r1
  cases ru
  cases rv
  obtain ⟨its, rk, p1, z1⟩ := I1.list hqx
  obtain ⟨its2, ry, p2', z2⟩ := I1.list hqy
  have la : a < s1.heap.objs.size := p1.lt
  have lb : b < s1.heap.objs.size := p2'.lt
  refine call_zip_2 p1.isList p2'.isList fun h' hz hTI hTO h1 h2 hsz hk => Calls.spliced_nil ?_
  have I2 : Inv X pins σ H1 { s1 with heap := h' } := I1.kept (t' := s1.toks) hk
  have D := PySem.W.ktu_apart s1.heap.objs.size a b la lb
  have e1 : its.length = ks.length := by have := rk.length; rw [List.length_map] at this; omega
  have e2 : its2.length = ys.length := ry.length.symm
  have kv : KV (ks.zip ys) (ks.zip its2) := by
    have go : ∀ {ks : List (Option Key)} {ys : List V} {ws : List Value}, Vals ys ws → KV (ks.zip ys) (ks.zip ws) := by
      intro ks ys ws r
      induction r generalizing ks with
      | nil => rw [List.zip_nil_right, List.zip_nil_right]; exact .nil
      | cons r t ih =>
        cases ks with
        | nil => exact .nil
        | cons k ks => exact .cons ⟨rfl, r⟩ ih
    exact go ry
  have has : PairsHave (noneKind X.prog X.w) (min its.toArray.size its2.toArray.size) (fun i k v => its.toArray[i]? = some k ∧ its2.toArray[i]? = some v) (ks.zip its2) := by
    refine ⟨by simp [e1, e2], fun i key v ⟨hk1, hv1⟩ => ?_⟩
    have hk2 : its[i]? = some key := by simpa using hk1
    have hv2 : its2[i]? = some v := by simpa using hv1
    have hi : i < ks.length := by have := (List.getElem?_eq_some_iff.mp hk2).1; omega
    obtain ⟨u, hu, ru⟩ := rk.get (i := i) (x := nkV ks[i]) (by rw [List.getElem?_map, List.getElem?_eq_getElem hi]; rfl)
    rw [hk2] at hu
    obtain rfl := Option.some.inj hu
    exact ⟨ks[i], zip_at (List.getElem?_eq_getElem hi) hv2, nk_is ru⟩
  refine call_dict_pairs (knd := noneKind X.prog X.w) (PairArg.zip (s1.heap.objs.size + 4) (s1.heap.objs.size + 2) (s1.heap.objs.size + 3) s1.heap.objs.size (s1.heap.objs.size + 1) a b D its.toArray its2.toArray) (I.ok.hd hcalm)
    (s := { s1 with heap := h' }) ⟨hz, hTI, ⟨_, _, hTO⟩, h1, h2, p1.isList.at fun o e => hk _ o e, p2'.isList.at fun o e => hk _ o e⟩ has (by simp only [List.size_toArray]; rw [List.length_map] at z1; omega) fun h2' tk dd hk2 => ?_
  have big : sysModules < h'.objs.size := I2.big
  have hz2 : s1.heap.objs.size ≤ h'.objs.size := by rw [hsz]; exact Nat.le_add_right _ _
  have keys : ((ks.zip its2).map (·.1)) = ks := by rw [List.map_fst_zip (by omega)]
  rw [merged_app _ [] (by rw [List.nil_append, keys]; exact nd), List.nil_append] at dd
  have hf : ∀ c ∈ [s1.heap.objs.size + 4, s1.heap.objs.size + 3, s1.heap.objs.size, s1.heap.objs.size + 1], s1.heap.objs.size ≤ c := fun c hc => by
    simp only [List.mem_cons, List.not_mem_nil, or_false] at hc
    rcases hc with z | z | z | z
    · rw [z]; exact Nat.le_add_right _ _
    · rw [z]; exact Nat.le_add_right _ _
    · rw [z]; exact Nat.le_refl _
    · rw [z]; exact Nat.le_add_right _ _
  have new : ObjOk X.prog X.w (upd H1 h'.objs.size (nD X.prog X.w h'.objs.size (ks.zip ys))) h2' h'.objs.size (nD X.prog X.w h'.objs.size (ks.zip ys)) :=
    nD_new (by rw [List.length_zip]; rw [List.length_map] at z1; omega) (beq_eq_false_iff_ne.mpr (Ne.symm (Nat.ne_of_lt big))) kv dd
  have I3 := I1.turnedNew (t' := tk) (ch := []) (h' := h2') (fun c o _ e => hk2 c o (fun hc => absurd (Nat.lt_of_lt_of_le (Heap.lt_size e) (hf c hc)) (Nat.lt_irrefl _)) (hk c o e)) (fun _ z => nomatch z) hz2 new
  exact ⟨.ref h'.objs.size, _, I3, rfl, q _ (I1.hok.fresh hz2)⟩
/-! ### for k in d -/
section
variable {X : Cx} {pins : List (Addr × Obj)} {σ : L2.St} {H : Hp} {s : Shared} {d : Addr} {o : Obj} {kvs : List (Option Key × V)}
theorem frzN (I : Inv X pins σ H s) (h : H d = some (.frz o (nD X.prog X.w d kvs))) :
    (d == sysModules) = false ∧ s.heap.get? d = some o ∧ o.ExactDict ∧ ∃ (es : Array DictEntry) (ep : Nat) (vs : List (Option Key × Value)), o.data = .dict es ep ∧ es.size = kvs.length ∧ KV kvs vs ∧ s.heap.DictAt (noneKind X.prog X.w) d vs ep := by
  obtain ⟨hd, ⟨z, hs, vs, kv, o', es, ep, ho, hx, hdt, r⟩, _⟩ := I.hok d _ h
  rw [hd] at ho
  cases ho
  refine ⟨hs, hd, hx, es, ep, vs, hdt, ?_, kv, o, es, hd, hx, hdt, r⟩
  have l1 := r.2.1.length
  have l2 : kvs.length = vs.length := Paired.length kv
  rw [Array.length_toList] at l1
  omega
end
/-- the keys of the locked dict at d, in their order -/
def Ikn (P : Program) (w : World) (d : Addr) (o : Obj) (kvs : List (Option Key × V)) : It :=
  ⟨fun i H => H d = some (.frz o (nD P w d kvs)) ∧ i < kvs.length, fun i H x H' => H' = H ∧ ∃ k v, kvs[i]? = some (k, v) ∧ x = nkV k, fun i H => H d = some (.frz o (nD P w d kvs)) ∧ kvs.length ≤ i⟩
theorem turn_nkeys {P : Program} {w : World} {K : PySem.W.Frag} {tg : Expr} {d : Addr} {o : Obj} {es : Array DictEntry} {ep : Nat} {kvs : List (Option Key × V)} (it : Addr) (hod : o.data = .dict es ep) :
    Turn P w K tg (Ikn P w d o kvs) [it] it (fun i h => h.IsKeyIter it d i kvs.length ep) where
  mem := List.mem_cons_self
  obj := fun i h st b hb => by
    obtain rfl := List.mem_singleton.mp hb
    obtain ⟨oi, e, c, dd⟩ := st
    exact ⟨oi, e, fun v z => by rw [dd] at z; cases z⟩
  keep := fun i h h' st k => st.at fun oi e => k it (by simp) oi e
  item := by
    intro X hP hw hK hc i pins s σ H E I hf st ⟨hd, hi⟩
    subst hP hw hK
    obtain ⟨f0, f1, f2, f3, f4, f5⟩ := hf it (by simp)
    obtain ⟨hs, hgd, hx, es', ep', vs, hdt, hsz, kv, hm⟩ := frzN I hd
    obtain ⟨rfl, rfl⟩ := dict_ep hod hdt
    obtain ⟨⟨k, v⟩, hkv⟩ : ∃ p, kvs[i]? = some p := ⟨kvs[i], List.getElem?_eq_getElem hi⟩
    obtain ⟨u, hu, ru⟩ := kv_get kv hkv
    have hl : kvs.length = vs.length := Paired.length kv
    rw [hl] at st
    refine wpAny_pyNext_dict_item st hm hu fun key h' hkey st' sb => ?_
    have I1 : Inv X pins σ H { s with heap := h' } := I.turned (t' := s.toks) (fun b ob hb e => (sb.2 b hb).trans e) f0 f1 f3 f4 f5
    obtain ⟨oi, e, c, dd⟩ := id st'
    refine ⟨key, rfl, go_of (s := { s with heap := h' }) e c dd (by decide) ⟨nkV k, H, I1, nk_rel hkey, ⟨rfl, k, v, hkv, rfl⟩, ?_, fun b hb => (hf b hb).1⟩⟩
    show h'.IsKeyIter it d (i + 1) kvs.length _
    rw [hl]
    exact st'
  done := by
    intro X hP hw hK hc i pins s σ H E I hf st ⟨hd, hi⟩
    subst hP hw hK
    obtain ⟨f0, f1, f2, f3, f4, f5⟩ := hf it (by simp)
    obtain ⟨hs, hgd, hx, es', ep', vs, hdt, hsz, kv, hm⟩ := frzN I hd
    obtain ⟨rfl, rfl⟩ := dict_ep hod hdt
    exact next_key_end (I.ok.hd hc) st hgd hdt hsz hi fun h' eb => ⟨rfl, I.turned (t' := s.toks) (fun b ob hb e => eb b ob hb e) f0 f1 f3 f4 f5⟩
  self := fun A i s Q E st h => wpAny_pyIter_keyiter st h
def iNKeys (P : Program) (w : World) (td : TE) : TI := fun σ H R => td σ H fun x H1 => ∃ d o kvs, x = .ref d ∧ H1 d = some (.frz o (nD P w d kvs)) ∧ R (Ikn P w d o kvs) H1
theorem pi_nkeys {X : Cx} {tg e : Expr} {td : TE} (he : PE X e td) : PI X tg e (iNKeys X.prog X.w td) := by
  refine ⟨fun pins s σ H R I h => ?_⟩
  refine thn (he.run pins s σ H _ I h) fun u s1 ⟨x, H1, I1, rx, d, o, kvs, ex, hd, q⟩ => ?_
  subst ex
  obtain rfl : u = Value.ref d := rx
  obtain ⟨hs, hgd, hx, es, ep, vs, hdt, hsz, kv, hm⟩ := frzN I1 hd
  refine iter_keys hs hgd hx hdt (pi_one (tk := s1.toks) I1 _ (turn_nkeys _ hdt) ⟨_, Heap.get?_push_size _ rfl, rfl, ?_⟩ q)
  rw [hsz]
  rfl
theorem walk_nkeys {P : Program} {w : World} {d : Addr} {o : Obj} {kvs : List (Option Key × V)} : Walk (Ikn P w d o kvs) kvs.length (fun H => H d = some (.frz o (nD P w d kvs))) (fun i H x H' => H' = H ∧ ∃ k v, kvs[i]? = some (k, v) ∧ x = nkV k) where
  goes := fun i H hi g => ⟨g, hi⟩
  stops := fun H g => ⟨g, Nat.le_refl _⟩
  yields := fun i H x H' hi g y => y
end Mu

/-! How charts, arrangements and trees lie in the heap; a class and its methods known by their promises. -/
namespace Mu
open PySem L2 PyProof.Rows PySem.SeqAt Mv
/-! ### tables -/
def tab (n : Nat) (f : Nat → V) : List V := (List.range n).map f
theorem tab_len {n : Nat} {f : Nat → V} : (tab n f).length = n := by unfold tab; rw [List.length_map, List.length_range]
theorem tab_get {n : Nat} {f : Nat → V} {k : Nat} (h : k < n) : (tab n f)[k]? = some (f k) := by
  unfold tab
  rw [List.getElem?_map, List.getElem?_range h]
  rfl
theorem tab_some {n : Nat} {f : Nat → V} {k : Nat} {v : V} (h : (tab n f)[k]? = some v) : k < n ∧ v = f k := by
  have hk : k < n := by have := (List.getElem?_eq_some_iff.mp h).1; rwa [tab_len] at this
  rw [tab_get hk] at h
  exact ⟨hk, (Option.some.inj h).symm⟩
theorem tab_set {n : Nat} {f : Nat → V} {k : Nat} {v : V} : (tab n f).set k v = tab n fun j => if j = k then v else f j := by
  apply List.ext_getElem?
  intro j
  by_cases hj : j < n
  · rw [tab_get hj, List.getElem?_set]
    by_cases e : k = j
    · subst e
      rw [if_pos rfl, if_pos (by rw [tab_len]; exact hj), if_pos rfl]
    · rw [if_neg e, if_neg (fun z => e z.symm), tab_get hj]
  · rw [List.getElem?_eq_none (by rw [List.length_set, tab_len]; omega), List.getElem?_eq_none (by rw [tab_len]; omega)]
theorem tab_congr {n : Nat} {f g : Nat → V} (h : ∀ k, k < n → f k = g k) : tab n f = tab n g := by
  unfold tab
  exact List.map_congr_left fun k hk => h k (List.mem_range.mp hk)
theorem tab_all {n : Nat} {f : Nat → V} {p : V → Bool} (h : ∀ k, p (f k) = true) : (tab n f).all p = true := by
  unfold tab
  rw [List.all_map]
  exact List.all_eq_true.mpr fun k _ => h k
theorem tab_snoc {n : Nat} {f : Nat → V} : tab n f ++ [f n] = tab (n + 1) f := by
  unfold tab
  rw [List.range_succ, List.map_append]
  rfl
theorem tab_zero {f : Nat → V} : tab 0 f = [] := rfl
theorem tab_rep {n : Nat} : tab n (fun _ => V.non) = List.replicate n V.non := by
  unfold tab
  rw [List.map_const', List.length_range]
/-- None or an int -/
def oV : Option Int → V
  | none => .non
  | some x => .int x
theorem oV_inj {a b : Option Int} (h : oV a = oV b) : a = b := by
  cases a <;> cases b
  · rfl
  · exact absurd h (by intro z; cases z)
  · exact absurd h (by intro z; cases z)
  · have : V.int _ = V.int _ := h
    injection this with e
    rw [e]
theorem oV_nI (a : Option Int) : nI (oV a) = true := by cases a <;> rfl
theorem oV_flat (a : Option Int) : flatV (oV a) = true := by cases a <;> rfl
def nV (k : Nat) : V := .int (k : Int)
def cV (up : Nat → Nat) (k : Nat) : V := if k = 0 then .non else nV (up k)
def cO (up : Nat → Nat) (k : Nat) : Option Int := if k = 0 then none else some (up k : Int)
theorem cV_eq (up : Nat → Nat) (k : Nat) : cV up k = oV (cO up k) := by
  unfold cV cO
  split <;> rfl
theorem cV_zero {up : Nat → Nat} : cV up 0 = .non := rfl
theorem cV_pos {up : Nat → Nat} {k : Nat} (h : 0 < k) : cV up k = nV (up k) := if_neg (by omega)
def rV (r : Rw) (k : Nat) : V := oV (r k)
theorem rV_nI (r : Rw) (k : Nat) : nI (rV r k) = true := oV_nI _
theorem rV_flat (r : Rw) (k : Nat) : flatV (rV r k) = true := oV_flat _
theorem cV_nI (up : Nat → Nat) (k : Nat) : nI (cV up k) = true := by rw [cV_eq]; exact oV_nI _
theorem tab_st {n : Nat} {r : Rw} {p : Nat} {v : Option Int} : (tab n (rV r)).set p (oV v) = tab n (rV (Mv.st r p v)) := by
  rw [tab_set]
  refine tab_congr fun k _ => ?_
  unfold rV Mv.st
  split <;> rfl
/-- a post as an index -/
theorem at_tab {n : Nat} {f : Nat → V} {k : Nat} (h : k < n) : atI (tab n f) (k : Int) = some (f k) := atI_nat (tab_get h)
theorem ix_tab {n : Nat} {f : Nat → V} {k : Nat} (h : k < n) : ixN (tab n f).length (k : Int) = some k := by
  unfold ixN
  rw [tab_len, if_pos (by omega), if_pos (by omega)]
  simp
/-! ### trees -/
def kids (n : Nat) (up : Nat → Nat) (k : Nat) : List Nat := (List.range n).filter fun l => decide (0 < l ∧ up l = k)
theorem mem_kids {n : Nat} {up : Nat → Nat} {k l : Nat} : l ∈ kids n up k ↔ 0 < l ∧ l < n ∧ up l = k := by
  unfold kids
  simp only [List.mem_filter, List.mem_range, decide_eq_true_eq]
  constructor
  · rintro ⟨a, b, c⟩; exact ⟨b, a, c⟩
  · rintro ⟨a, b, c⟩; exact ⟨b, a, c⟩
def tF (a b : Addr) : List (Str × V) := putF "below" (.ref b) (putF "above" (.ref a) [])
theorem tF_ne : ¬ (("above" : Str) = "below") := by decide +kernel
theorem tF_above (a b : Addr) : (tF a b).lookup ("above" : Str) = some (.ref a) := by
  unfold tF
  rw [lookup_putF, if_neg (fun z => tF_ne z), lookup_putF, if_pos rfl]
theorem tF_below (a b : Addr) : (tF a b).lookup ("below" : Str) = some (.ref b) := by
  unfold tF
  rw [lookup_putF, if_pos rfl]
theorem tF_no (a b : Addr) {m : Str} (h1 : ¬ m = "below") (h2 : ¬ m = "above") : (tF a b).lookup m = none := by
  unfold tF
  rw [lookup_putF, if_neg h1, lookup_putF, if_neg h2]
  all_goals rfl
/-- the tree of the chart up stands at t; as: its parts -/
structure TreeAt (C : Addr) (H : Hp) (as : List Addr) (t : Addr) (n : Nat) (up : Nat → Nat) : Prop where
  ex : ∃ (dx a b : Addr) (bs : List Addr), as = t :: a :: b :: bs ∧ H t = some (.ins C dx (tF a b)) ∧ H a = some (.tup (tab n (cV up))) ∧ H b = some (.lst (bs.map V.ref)) ∧ bs.length = n ∧ ∀ (k : Nat) (c : Addr), bs[k]? = some c → H c = some (.lst ((kids n up k).map nV))
theorem TreeAt.same {C : Addr} {H H' : Hp} {as : List Addr} {t : Addr} {n : Nat} {up : Nat → Nat} (h : TreeAt C H as t n up) (s : Same H H') : TreeAt C H' as t n up := by
  obtain ⟨dx, a, b, bs, h0, h1, h2, h3, h4, h5⟩ := h.ex
  exact ⟨dx, a, b, bs, h0, s _ _ h1, s _ _ h2, s _ _ h3, h4, fun k c e => s _ _ (h5 k c e)⟩
theorem TreeAt.new {C : Addr} {H : Hp} {as : List Addr} {t : Addr} {n : Nat} {up : Nat → Nat} (h : TreeAt C H as t n up) {r : Addr} (hr : H r = none) : r ∉ as := by
  obtain ⟨dx, a, b, bs, rfl, h1, h2, h3, h4, h5⟩ := h.ex
  have e1 := ne_of_none h1 hr
  have e2 := ne_of_none h2 hr
  have e3 := ne_of_none h3 hr
  intro hm
  rcases List.mem_cons.mp hm with e | hm
  · exact e1 e.symm
  rcases List.mem_cons.mp hm with e | hm
  · exact e2 e.symm
  rcases List.mem_cons.mp hm with e | hm
  · exact e3 e.symm
  obtain ⟨k, hk⟩ := List.mem_iff_getElem?.mp hm
  exact absurd rfl (ne_of_none (h5 k r hk) hr)
/-- all that was tracked stands but the thing at a -/
def But (a : Addr) (H H' : Hp) : Prop := ∀ b o, H b = some o → b ≠ a → H' b = some o
theorem But.of_same {a : Addr} {H H' : Hp} (s : Same H H') : But a H H' := fun b o e _ => s b o e
theorem But.trans {a : Addr} {H H1 H2 : Hp} (x : But a H H1) (y : But a H1 H2) : But a H H2 := fun b o e n => y b o (x b o e n) n
theorem But.upd {a : Addr} {H : Hp} {o : HO} : But a H (upd H a o) := fun b u e n => by rw [upd_ne n]; exact e
theorem same_new {H : Hp} {p : Addr} {o : HO} (h : H p = none) : Same H (upd H p o) := fun b u e => by rw [upd_ne (ne_of_none e h)]; exact e
theorem TreeAt.but {C : Addr} {H H' : Hp} {as : List Addr} {t : Addr} {n : Nat} {up : Nat → Nat} (h : TreeAt C H as t n up) {r : Addr} (hr : r ∉ as) (s : But r H H') : TreeAt C H' as t n up := by
  obtain ⟨dx, a, b, bs, rfl, h1, h2, h3, h4, h5⟩ := h.ex
  refine ⟨dx, a, b, bs, rfl, s _ _ h1 fun e => hr ?_, s _ _ h2 fun e => hr ?_, s _ _ h3 fun e => hr ?_, h4, fun k c e => s _ _ (h5 k c e) fun e2 => hr ?_⟩
  · rw [e]; exact List.mem_cons_self
  · rw [e]; exact List.mem_cons_of_mem _ List.mem_cons_self
  · rw [e]; exact List.mem_cons_of_mem _ (List.mem_cons_of_mem _ List.mem_cons_self)
  · rw [← e2]; exact List.mem_cons_of_mem _ (List.mem_cons_of_mem _ (List.mem_cons_of_mem _ (List.mem_of_getElem? e)))
/-! ### the class Tree -/
structure TC (K : PySem.W.Frag) (mg : Str → Option Value) (C : Addr) : Prop where
  cl : Cls K C
  nA : NoAttr K C "above"
  nB : NoAttr K C "below"
  mgC : mg "Tree" = some (.ref C)
structure ClT (P : Program) (w : World) (K : PySem.W.Frag) (mg : Str → Option Value) (base : Heap) (C : Addr) (k : Nat) (ps : List Str) (sp : Sp) : Prop where
  ex : ∃ (f : Addr) (fd : FuncData), FnOk P w K mg base CX0 k f fd ps sp ∧ Mk K C f ∧ mg "Tree" = some (.ref C) ∧ Binds K fd ps []
structure ClM (P : Program) (w : World) (K : PySem.W.Frag) (mg : Str → Option Value) (base : Heap) (C : Addr) (m : Str) (k : Nat) (ps : List Str) (sp : Sp) : Prop where
  ex : ∃ (f : Addr) (fd : FuncData), FnOk P w K mg base CX0 k f fd ps sp ∧ Cls K C ∧ Meth K C m f ∧ Binds K fd ps []
theorem pe_makeT {X : Cx} {C : Addr} {k : Nat} {ps : List Str} {sp : Sp} {p pos : Pos} {e : Expr} {es : List Expr} {t : TA} (hr : Room (k + 1) X.A) (c : ClT X.prog X.w X.K X.mg X.base C k ps sp) (ha : PA X (e :: es) t) (hg : Gl X "Tree" := by rfl)
    (he : starEach (e :: es) X.env = (false, eval e X.env) :: starEach es X.env := by rfl) (hpl : (backTo pos (starEach es X.env)).any (·.1) = false := by rfl) :
    PE X (.Call (.Name "Tree" p) (e :: es) [] pos) (tMake C sp [] E0 t) := by
  obtain ⟨f, fd, G, M, g, b⟩ := c.ex
  exact pe_make M G hr hg g b .nil pass0 ha (by decide) he hpl
theorem pe_m {X : Cx} {C : Addr} {m : Str} {k : Nat} {ps : List Str} {sp : Sp} {apos pos : Pos} {o e : Expr} {es : List Expr} {to : TE} {t : TA} {pl : Sem Bool} (c : ClM X.prog X.w X.K X.mg X.base C m k ps sp) (hr : Room k X.A) (ho : PE X o to) (ha : PA X (e :: es) t)
    (hst : starEach (e :: es) X.env = (false, eval e X.env) :: starEach es X.env := by rfl) (hpl : (backTo pos (starEach es X.env)).any (·.1) = false := by rfl)
    (ht : eval (.Call (.Attribute o m apos) (e :: es) [] pos) X.env = (do
      let ov ← eval o X.env
      standAt apos.atName
      let (f, first) ← holding [ov] (getMethod ov m pl)
      callWith pos f first (backTo pos (starEach (e :: es) X.env)) (backToKw pos (keywordEach [] X.env))) := by rfl) :
    PE X (.Call (.Attribute o m apos) (e :: es) [] pos) (tMeth C m sp [] E0 to t) := by
  obtain ⟨f, fd, G, cl, M, b⟩ := c.ex
  exact pe_meth ho cl M G hr b .nil pass0 ha hst hpl ht
/-- ** whose result is within 2 ^ 27 bits -/
def CPowW (i j : Int) : Prop := 0 ≤ j ∧ (Builtin.Int.intBits i : Int) * j ≤ 2 ^ 27
theorem op_powW {X : Cx} : OpR X (binaryOp .Pow) (rI CPowW fun i j => .int (i ^ j.toNat)) := opI fun _ _ _ _ _ _ _ hc q => PyProof.Rows.pow_int hc.1 hc.2 q
end Mu


/-! charts: is_whole .. require_post. -/
namespace Mu
open PySem L2 PyProof.Rows PySem.SeqAt Mv
theorem ifT {c : Bool} {A B : Prop} (e : c = true) (h : A) : if c = true then A else B := by rw [if_pos e]; exact h
theorem ifF {c : Bool} {A B : Prop} (e : c = false) (h : B) : if c = true then A else B := by rw [e]; exact iteF h
theorem same_mut {H0 H : Hp} {p : Addr} {o : HO} (e : Same H0 H) (h : H0 p = none) : Same H0 (upd H p o) := fun b u q => by rw [upd_ne (ne_of_none q h)]; exact e b u q
theorem sqT {K : PySem.W.Frag} {H : Hp} {a : Addr} {xs : List V} (h : H a = some (.tup xs)) : SqT K H a xs := .inl (.inl h)
theorem sqL {K : PySem.W.Frag} {H : Hp} {a : Addr} {xs : List V} (h : H a = some (.lst xs)) : SqL K H a xs := .inl (.inl h)
theorem tupS {K : PySem.W.Frag} {H H' : Hp} {a : Addr} {xs : List V} (e : Same H H') (h : H a = some (.tup xs)) : SqT K H' a xs := sqT (e _ _ h)
theorem lstS {K : PySem.W.Frag} {H H' : Hp} {a : Addr} {xs : List V} (e : Same H H') (h : H a = some (.lst xs)) : SqL K H' a xs := sqL (e _ _ h)
theorem whole_some (k : Nat) : (decide ((0 : Int) ≤ (k : Int))) = true := decide_eq_true (by omega)
theorem tab_ne {n : Nat} {f : Nat → V} (h : 0 < n) : (tab n f).isEmpty = false := by
  cases e : tab n f with
  | nil =>
    have := tab_len (n := n) (f := f)
    rw [e] at this
    have : (0 : Nat) = n := this
    omega
  | cons _ _ => rfl
section
variable {P : Program} {w : World} {K : PySem.W.Frag} {mg : Str → Option Value} {base : Heap}
def whole : Option Int → Bool
  | none => false
  | some x => decide (0 ≤ x)
def spWhole : Sp := fun vs H Q _ => ∃ o : Option Int, vs = [oV o] ∧ Q (.bl (whole o)) H
theorem sc_is_whole : FnScope ["value"] ["value"] (defScope (top 9)) := ⟨rfl, rfl, rfl, by decide +kernel, rfl, by decide +kernel, by decide +kernel⟩
theorem cl_is_whole (D : Df K mg "is_whole" (top 9)) (T : Bt mg) : Cl P w K mg base "is_whole" 1 ["value"] spWhole := by
  refine D.cl (fun f fd F => F.ok sc_is_whole (fun vs H Q E h => ?_) (fun cdv A outer s H vs Q E hr h => ?_)) (fun _ _ _ _ _ _ us hl => match us, hl with | [_], _ => rfl)
  · obtain ⟨o, rfl, _⟩ := h
    rfl
  · obtain ⟨o, rfl, k⟩ := h
    refine ⟨_, (pss_one (ps_ret (pe_and (pe_callB call_isi (by rfl) T.isinstance (by decide +kernel) (pa_cons (pv 0) (pa_cons (pe_bltn (v := .ty "int") (by rfl) T.int (by decide +kernel) rfl) pa_nil))) (pe_and (pe_not (pe_callB call_isi (by rfl) T.isinstance (by decide +kernel) (pa_cons (pv 0) (pa_cons (pe_bltn (v := .ty "bool") (by rfl) T.bool (by decide +kernel) rfl) pa_nil)))) (pe_one (pe_cmpR op_ge (pv 0) pe_int (nomark _))))))), ?_⟩
    cases o with
    | none =>
      refine ⟨_, rfl, .non, .ty "int", .type "NoneType", .type "int", false, rfl, .ty _, .base .non, kit_ty (by decide +kernel), _, rfl, iteF ?_⟩
      exact k
    | some x =>
      refine ⟨_, rfl, .int x, .ty "int", .type "int", .type "int", true, rfl, .ty _, .base (.int x), kit_ty (by decide +kernel), _, rfl, iteT ?_⟩
      refine ⟨_, rfl, .int x, .ty "bool", .type "int", .type "bool", false, rfl, .ty _, .base (.int x), kit_ty (by decide +kernel), _, rfl, _, rfl, iteT ?_⟩
      exact ⟨_, rfl, _, _, rfl, rfl, k⟩
/-- a valid chart, n posts, as a tuple at a -/
def CAt (H : Hp) (a : Addr) (n : Nat) (up : Nat → Nat) : Prop := H a = some (.tup (tab n (cV up))) ∧ Ch n up ∧ n ≤ 60
def spChart : Sp := fun vs H Q _ => ∃ a n up, vs = [V.ref a] ∧ CAt H a n up ∧ ∀ H', Same H H' → Q .non H'
theorem sc_chart_fault : FnScope ["value", "post", "above"] ["value"] (defScope (top 10)) := ⟨rfl, rfl, rfl, by decide +kernel, rfl, by decide +kernel, by decide +kernel⟩
theorem cl_chart_fault (D : Df K mg "chart_fault" (top 10)) (T : Bt mg) (c_is_whole : Cl P w K mg base "is_whole" 1 ["value"] spWhole) : Cl P w K mg base "chart_fault" 2 ["value"] spChart := by
  refine D.cl (fun f fd F => F.ok sc_chart_fault (fun vs H Q E h => ?_) (fun cdv A outer s H vs Q E hr h => ?_)) (fun _ _ _ _ _ _ us hl => match us, hl with | [_], _ => rfl)
  · obtain ⟨_, _, _, rfl, _⟩ := h
    rfl
  · obtain ⟨a, n, up, rfl, ⟨ha, hc, hn⟩, k⟩ := h
    refine ⟨_, (pss_cons (ps_if (PW.pt (pw_or (pt_not (pt_val (pe_callB call_isi (by rfl) T.isinstance (by decide +kernel) (pa_cons (pv 0) (pa_cons (pe_bltn (v := .ty "tuple") (by rfl) T.tuple (by decide +kernel) rfl) pa_nil))))) (pw_or (pt_cmpR (op_eqE hr.units0) (pv 0) (pe_tup pa_nil) (nomark _)) (pw_or1 (pt_cmp (pc_notN (pe_ix ix_tup (pv 0) pe_int (fun _ _ => rfl)))))))) (pss_one (ps_ret (pe_tup (pa_cons pe_str pa_nil)))) pss_nil) (pss_cons (ps_for PassesOwn.never rfl (pi_enumT (by rfl) T.enumerate (pa_cons (pv 0) pa_nil)) (pg_tup rfl (pgs_cons (pg_name (i := 1) sc_chart_fault.nd rfl (by first | exact Or.inl rfl | exact Or.inr rfl)) (pgs_cons (pg_name (i := 2) sc_chart_fault.nd rfl (by first | exact Or.inl rfl | exact Or.inr rfl)) pgs_nil))) (pss_one (ps_if (PW.pt (pw_and (pt_cmpR op_gt (pv 1) pe_int (nomark _)) (pw_and1 (PW.pt (pw_or (pt_not (pt_val (pe_c c_is_whole (hr.mono (by decide)) (pa_cons (pv 2) pa_nil)))) (pw_or1 (pt_cmpR op_ge (pv 2) (pv 1) (nomark _)))))))) (pss_one (ps_ret (pe_tup (pa_cons pe_str (pa_cons (pv 1) pa_nil))))) pss_nil))) (pss_one (ps_ret pe_non)))), ?_⟩
    refine ⟨_, rfl, _, _, .type "tuple", .type "tuple", true, rfl, .ty _, .base (.tup ha), kit_ty (by decide +kernel), _, rfl, iteF ?_⟩
    refine ⟨_, rfl, Nat.zero_le _, fun p hp => ⟨a, p, tab n (cV up), rfl, rfl, .inr ⟨tupS (same_new hp) ha, sqT upd_same⟩, _, rfl, ifF (tab_ne hc.pos) ?_⟩⟩
    refine ⟨_, rfl, a, _, 0, .non, rfl, rfl, tupS (same_new hp) ha, at_tab (k := 0) hc.pos, _, rfl, ifF (by simp) ?_⟩
    refine ⟨_, rfl, a, _, rfl, tupS (same_new hp) ha, for_enumT (fun i σ H' => (∃ x y, σ = [some (.ref a), x, y]) ∧ Same H H') ⟨⟨_, _, rfl⟩, same_new hp⟩ (fun i σ H' _ h => tupS h.2 ha) ?_ ?_⟩
    · intro i x T σ H' hx hP hT
      obtain ⟨⟨x1, x2, rfl⟩, sm⟩ := hP
      obtain ⟨hi, rfl⟩ := tab_some hx
      refine ⟨T, _, rfl, sqT upd_same, rfl, _, _, rfl, _, _, rfl, rfl, ?_⟩
      refine ⟨_, rfl, _, _, rfl, rfl, _, rfl, ?_⟩
      have sm2 : Same H (upd H' T (.tup [V.int (i : Nat), cV up i])) := sm.trans (same_new hT)
      by_cases h0 : 0 < i
      · refine ifT (decide_eq_true (by omega)) ?_
        have e := cV_pos (up := up) h0
        refine ⟨_, rfl, some (up i : Int), by rw [e]; rfl, _, rfl, ifF (by show (!decide ((0 : Int) ≤ (up i : Int))) = false; rw [whole_some]; rfl) ?_⟩
        have := hc.lt i h0
        refine ⟨_, rfl, _, rfl, _, _, by rw [e]; rfl, rfl, _, rfl, ifF (decide_eq_false (by omega)) ?_⟩
        exact ⟨⟨_, _, rfl⟩, sm2⟩
      · refine ifF (decide_eq_false (by omega)) (iteF ?_)
        exact ⟨⟨_, _, rfl⟩, sm2⟩
    · intro σ H' hP
      exact k _ hP.2
theorem sc_check_chart : FnScope ["value"] ["value"] (defScope (top 11)) := ⟨rfl, rfl, rfl, by decide +kernel, rfl, by decide +kernel, by decide +kernel⟩
theorem cl_check_chart (D : Df K mg "check_chart" (top 11)) (c_chart_fault : Cl P w K mg base "chart_fault" 2 ["value"] spChart) : Cl P w K mg base "check_chart" 3 ["value"] spChart := by
  refine D.cl (fun f fd F => F.ok sc_check_chart (fun vs H Q E h => ?_) (fun cdv A outer s H vs Q E hr h => ?_)) (fun _ _ _ _ _ _ us hl => match us, hl with | [_], _ => rfl)
  · obtain ⟨_, _, _, rfl, _⟩ := h
    rfl
  · obtain ⟨a, n, up, rfl, hc, k⟩ := h
    refine ⟨_, (pss_one (ps_ret (pe_c c_chart_fault (hr.mono (by decide)) (pa_cons (pv 0) pa_nil)))), ?_⟩
    exact ⟨_, rfl, a, n, up, rfl, hc, k⟩
theorem sc_require_chart : FnScope ["chart", "reason"] ["chart"] (defScope (top 12)) := ⟨rfl, rfl, rfl, by decide +kernel, rfl, by decide +kernel, by decide +kernel⟩
theorem cl_require_chart (D : Df K mg "require_chart" (top 12)) (c_chart_fault : Cl P w K mg base "chart_fault" 2 ["value"] spChart) : Cl P w K mg base "require_chart" 3 ["chart"] spChart := by
  refine D.cl (fun f fd F => F.ok sc_require_chart (fun vs H Q E h => ?_) (fun cdv A outer s H vs Q E hr h => ?_)) (fun _ _ _ _ _ _ us hl => match us, hl with | [_], _ => rfl)
  · obtain ⟨_, _, _, rfl, _⟩ := h
    rfl
  · obtain ⟨a, n, up, rfl, hc, k⟩ := h
    refine ⟨_, (pss_cons (ps_set (i := 1) sc_require_chart.nd rfl (by first | exact Or.inl rfl | exact Or.inr rfl) (pe_c c_chart_fault (hr.mono (by decide)) (pa_cons (pv 0) pa_nil))) (pss_one (ps_if (pt_cmp (pc_notN (pv 1))) (pss_one ps_never) pss_nil))), ?_⟩
    refine ⟨_, rfl, a, n, up, rfl, hc, fun H' sm => ?_⟩
    exact ⟨_, rfl, _, rfl, ifF (by simp) (k _ sm)⟩
def spPost : Sp := fun vs H Q _ => ∃ a n up p, vs = [V.ref a, nV p] ∧ CAt H a n up ∧ p < n ∧ ∀ H', Same H H' → Q .non H'
theorem sc_require_post : FnScope ["chart", "post"] ["chart", "post"] (defScope (top 13)) := ⟨rfl, rfl, rfl, by decide +kernel, rfl, by decide +kernel, by decide +kernel⟩
theorem cl_require_post (D : Df K mg "require_post" (top 13)) (T : Bt mg) (c_is_whole : Cl P w K mg base "is_whole" 1 ["value"] spWhole) : Cl P w K mg base "require_post" 2 ["chart", "post"] spPost := by
  refine D.cl (fun f fd F => F.ok sc_require_post (fun vs H Q E h => ?_) (fun cdv A outer s H vs Q E hr h => ?_)) (fun _ _ _ _ _ _ us hl => match us, hl with | [_, _], _ => rfl)
  · obtain ⟨_, _, _, _, rfl, _⟩ := h
    rfl
  · obtain ⟨a, n, up, p, rfl, ⟨ha, hc, hn⟩, hp, k⟩ := h
    refine ⟨_, (pss_one (ps_if (PW.pt (pw_or (pt_not (pt_val (pe_c c_is_whole (hr.mono (by decide)) (pa_cons (pv 1) pa_nil)))) (pw_or1 (pt_cmpR op_ge (pv 1) (pe_callB call_len_seq (by rfl) T.len (by decide +kernel) (pa_cons (pv 0) pa_nil)) (nomark _))))) (pss_one ps_never) pss_nil)), ?_⟩
    refine ⟨_, rfl, some (p : Int), rfl, _, rfl, ifF (by show (!decide ((0 : Int) ≤ (p : Int))) = false; rw [whole_some]; rfl) ?_⟩
    refine ⟨_, rfl, _, rfl, _, _, rfl, .inr (sqT ha), (p : Int), _, rfl, rfl, _, rfl, ifF (decide_eq_false (by rw [tab_len]; omega)) ?_⟩
    exact k _ (Same.refl _)
end
end Mu


/-! the class Tree. -/
namespace Mu
open PySem L2 PyProof.Rows PySem.SeqAt Mv
/-- the class Tree and its methods as the top leaves them -/
structure DfM (K : PySem.W.Frag) (C : Addr) (m q : Str) (st : Stmt) : Prop where
  ex : ∃ (f : Addr) (fd : FuncData), Fun K m q st f fd ∧ Cls K C ∧ Meth K C m f
structure DfI (K : PySem.W.Frag) (mg : Str → Option Value) (C : Addr) (q : Str) (st : Stmt) : Prop where
  ex : ∃ (f : Addr) (fd : FuncData), Fun K "__init__" q st f fd ∧ Mk K C f ∧ mg "Tree" = some (.ref C)
section
variable {P : Program} {w : World} {K : PySem.W.Frag} {mg : Str → Option Value} {base : Heap} {C : Addr}
theorem DfM.cl {m q : Str} {st : Stmt} {k : Nat} {ps : List Str} {sp : Sp} (D : DfM K C m q st) (h : ∀ f fd, Fun K m q st f fd → FnOk P w K mg base CX0 k f fd ps sp)
    (hb : ∀ (kV doc pm : Value) (an : Option Addr) (cdv ct : Value) (us : List Value), us.length = ps.length → bindArgs (PySem.W.fnOf m q (defArgs st) (defBody st) (defScope st) .none kV doc pm an cdv ct) ⟨us, []⟩ = pure (ps.zip us)) : ClM P w K mg base C m k ps sp := by
  obtain ⟨f, fd, F, c, g⟩ := D.ex
  exact ⟨f, fd, h f fd F, c, g, F.binds hb⟩
theorem DfI.cl {q : Str} {st : Stmt} {k : Nat} {ps : List Str} {sp : Sp} (D : DfI K mg C q st) (h : ∀ f fd, Fun K "__init__" q st f fd → FnOk P w K mg base CX0 k f fd ps sp)
    (hb : ∀ (kV doc pm : Value) (an : Option Addr) (cdv ct : Value) (us : List Value), us.length = ps.length → bindArgs (PySem.W.fnOf "__init__" q (defArgs st) (defBody st) (defScope st) .none kV doc pm an cdv ct) ⟨us, []⟩ = pure (ps.zip us)) : ClT P w K mg base C k ps sp := by
  obtain ⟨f, fd, F, c, g⟩ := D.ex
  exact ⟨f, fd, h f fd F, c, g, F.binds hb⟩
/-- a tree over a chart that is one -/
structure TAt (C : Addr) (H : Hp) (as : List Addr) (t : Addr) (n : Nat) (up : Nat → Nat) : Prop where
  tr : TreeAt C H as t n up
  ch : Ch n up
  le : n ≤ 60
theorem TAt.same {H H' : Hp} {as : List Addr} {t : Addr} {n : Nat} {up : Nat → Nat} (h : TAt C H as t n up) (s : Same H H') : TAt C H' as t n up := ⟨h.tr.same s, h.ch, h.le⟩
theorem TAt.but {H H' : Hp} {as : List Addr} {t : Addr} {n : Nat} {up : Nat → Nat} (h : TAt C H as t n up) {r : Addr} (hr : r ∉ as) (s : But r H H') : TAt C H' as t n up := ⟨h.tr.but hr s, h.ch, h.le⟩
theorem yes {σ : L2.St} {H : Hp} {Q : Bool → Hp → Prop} (h : Q true H) : tYes σ H Q := h
theorem nV_ne (k : Nat) : decide (nV k = V.non) = false := decide_eq_false (by intro h; cases h)
theorem nd_inj {α : Type} {xs : List α} (h : xs.Nodup) {i j : Nat} {x : α} (hi : xs[i]? = some x) (hj : xs[j]? = some x) : i = j := by
  obtain ⟨li, ei⟩ := List.getElem?_eq_some_iff.mp hi
  obtain ⟨lj, ej⟩ := List.getElem?_eq_some_iff.mp hj
  have p := List.pairwise_iff_getElem.mp h
  rcases Nat.lt_trichotomy i j with e | e | e
  · exact absurd (ei.trans ej.symm) (p i j li lj e)
  · exact e
  · exact absurd (ej.trans ei.symm) (p j i lj li e)
theorem szlt {n : Nat} (h : n < 100000) : n < sizeLine := Nat.lt_of_lt_of_le h (by decide)
theorem szle {n : Nat} (h : n ≤ 100000) : n ≤ sizeLine := Nat.le_trans h (by decide)
theorem getElem?_snoc {α : Type} {xs : List α} {x y : α} {k : Nat} (h : (xs ++ [x])[k]? = some y) : (k < xs.length ∧ xs[k]? = some y) ∨ (k = xs.length ∧ y = x) := by
  by_cases e : k < xs.length
  · rw [List.getElem?_append_left e] at h
    exact .inl ⟨e, h⟩
  · rw [List.getElem?_append_right (by omega)] at h
    have h2 := (List.getElem?_eq_some_iff.mp h).1
    have e2 : k - xs.length = 0 := by simpa using h2
    rw [e2] at h
    exact .inr ⟨by omega, (Option.some.inj h).symm⟩
theorem kids_succ {i : Nat} {up : Nat → Nat} {k : Nat} : kids (i + 1) up k = if 0 < i ∧ up i = k then kids i up k ++ [i] else kids i up k := by
  unfold kids
  rw [List.range_succ, List.filter_append]
  by_cases h : 0 < i ∧ up i = k
  · rw [if_pos h, List.filter_cons_of_pos (by simpa using h)]
    rfl
  · rw [if_neg h, List.filter_cons_of_neg (by simpa using h)]
    simp
/-- the children's lists stand at the addresses bs -/
structure Bel (H0 H : Hp) (bs : List Addr) (i n : Nat) (up : Nat → Nat) : Prop where
  len : bs.length = n
  nd : bs.Nodup
  new : ∀ c ∈ bs, H0 c = none
  at_ : ∀ (k : Nat) (c : Addr), bs[k]? = some c → H c = some (.lst ((kids i up k).map nV))
theorem Bel.same {H0 H H' : Hp} {bs : List Addr} {i n : Nat} {up : Nat → Nat} (b : Bel H0 H bs i n up) (s : Same H H') : Bel H0 H' bs i n up := ⟨b.len, b.nd, b.new, fun k c e => s _ _ (b.at_ k c e)⟩
def spInit (C : Addr) : Sp := fun vs H Q _ => ∃ t dx a n up, vs = [V.ref t, V.ref a] ∧ H t = some (.ins C dx []) ∧ CAt H a n up ∧ ∀ H' as, But t H H' → TreeAt C H' as t n up → Q .non H'
theorem sc_Tree___init__ : FnScope ["self", "chart", "post", "upper"] ["self", "chart"] (defScope (inClass (top 14) 0)) := ⟨rfl, rfl, rfl, by decide +kernel, rfl, by decide +kernel, by decide +kernel⟩
theorem cl_Tree (D : DfI K mg C "Tree.__init__" (inClass (top 14) 0)) (tc : TC K mg C) (T : Bt mg) : ClT P w K mg base C 1 ["self", "chart"] (spInit C) := by
  refine D.cl (fun f fd F => F.ok sc_Tree___init__ (fun vs H Q E h => ?_) (fun cdv A outer s H vs Q E hr h => ?_)) (fun _ _ _ _ _ _ us hl => match us, hl with | [_, _], _ => rfl)
  · obtain ⟨_, _, _, _, _, rfl, _⟩ := h
    rfl
  · obtain ⟨t, dx, a, n, up, rfl, ht, ⟨ha, hc, hn⟩, k⟩ := h
    refine ⟨_, (pss_cons (ps_fld (pv 0) (pv 1) rfl) (pss_cons (ps_fld (pv 0) (pe_lc (own := [("post", 2)]) rfl sc_Tree___init__.nd (pi_tup (pv 1)) (blkOk_by (own := [("post", 2)]) (N := ["self", "chart", "post", "upper"]) (sc := defScope (inClass (top 14) 0)) (by decide +kernel)) (fun _ _ _ _ _ => (pg_name (i := 2) sc_Tree___init__.nd rfl (by first | exact Or.inl rfl | exact Or.inr rfl))) (fun _ _ _ _ _ => pts_nil) (fun _ _ _ _ _ => (pe_lst pa_nil))) rfl) (pss_one (ps_for PassesOwn.never rfl (pi_enumT (by rfl) T.enumerate (pa_cons (pv 1) pa_nil)) (pg_tup rfl (pgs_cons (pg_name (i := 2) sc_Tree___init__.nd rfl (by first | exact Or.inl rfl | exact Or.inr rfl)) (pgs_cons (pg_name (i := 3) sc_Tree___init__.nd rfl (by first | exact Or.inl rfl | exact Or.inr rfl)) pgs_nil))) (pss_one (ps_if (pt_cmp (pc_notN (pv 3))) (pss_one (ps_expr (pe_bm PySem.F.plainAttrs_list PySem.F.slot_list_append PySem.F.type_list_append mt_append (pe_ix ix_list (pe_fld (pv 0) rfl) (pv 3) (fun _ _ => rfl)) (pa_cons (pv 2) pa_nil)))) pss_nil)))))), ?_⟩
    have nta : a ≠ t := ne_of ha ht (by intro z; cases z)
    refine ⟨_, rfl, _, rfl, t, C, dx, [], rfl, ht, tc.cl, tc.nA, by decide, ?_⟩
    let H1 : Hp := upd H t (.ins C dx (putF "above" (.ref a) []))
    have b1 : But t H H1 := But.upd
    have e1 : H1 t = some (.ins C dx (putF "above" (.ref a) [])) := upd_same
    refine ⟨_, rfl, a, rfl, ⟨_, sqT (b1 _ _ ha nta)⟩, fun b hb => lc_tup (K := K) (a := a) (xs := tab n (cV up)) (fun i H' => Same H1 H' ∧ ∃ bs : List Addr, H' b = some (.lst (bs.map V.ref)) ∧ b ∉ bs ∧ Bel H1 H' bs 0 i up) ?_ ?_ ?_ ?_⟩
    · exact ⟨same_new hb, [], upd_same, by simp, rfl, List.nodup_nil, (by simp), fun k c e => (by cases e)⟩
    · exact fun i H' _ h => tupS h.1 (b1 _ _ ha nta)
    · rintro i x H' hx ⟨sm, bs, h1, h2, h3⟩
      obtain ⟨hi, rfl⟩ := tab_some hx
      refine ⟨rfl, yes ?_⟩
      refine iteT ⟨Nat.zero_le _, fun c hc => ⟨bs.map V.ref, by rw [upd_ne (ne_of_none h1 hc)]; exact h1, ?_, ?_⟩⟩
      · rw [List.length_map, h3.len]
        exact szlt (by omega)
      · have ncb : c ≠ b := fun e => ne_of_none h1 hc e.symm
        have hcn : c ∉ bs := fun hm => by
          obtain ⟨j, hj⟩ := List.mem_iff_getElem?.mp hm
          exact ne_of_none (h3.at_ j c hj) hc rfl
        refine ⟨same_mut (sm.trans (same_new hc)) hb, bs ++ [c], by rw [upd_same, List.map_append]; rfl, ?_, ?_, ?_, ?_, ?_⟩
        · rw [List.mem_append, List.mem_singleton]
          exact fun z => z.elim h2 fun e => ncb e.symm
        · rw [List.length_append, h3.len]; rfl
        · rw [List.nodup_append]
          exact ⟨h3.nd, by simp, fun u hu v hv e => hcn (by rw [← (List.mem_singleton.mp hv), ← e]; exact hu)⟩
        · intro u hu
          rcases List.mem_append.mp hu with z | z
          · exact h3.new u z
          · rw [List.mem_singleton.mp z]
            exact Same.free sm hc
        · intro k u e
          rcases getElem?_snoc e with ⟨_, z⟩ | ⟨_, z⟩
          · have hu : u ≠ b := fun q => h2 (q ▸ List.mem_of_getElem? z)
            rw [upd_ne hu, upd_ne (ne_of_none (h3.at_ k u z) hc)]
            exact h3.at_ k u z
          · rw [z, upd_ne ncb, upd_same]
            rfl
    rintro H2 ⟨sm, bs, h1, h2, h3⟩
    rw [tab_len] at h3
    have ntb : t ≠ b := ne_of_none e1 hb
    refine ⟨_, rfl, t, C, dx, _, rfl, sm _ _ e1, tc.cl, tc.nB, by show 1 < 1000; decide, ?_⟩
    have b2 : But t H (upd H2 t (.ins C dx (tF a b))) := (b1.trans (But.of_same sm)).trans But.upd
    have htn : t ∉ bs := fun hm => ne_of_none e1 (h3.new t hm) rfl
    have nab : a ≠ b := ne_of_none (b1 _ _ ha nta) hb
    refine ⟨_, rfl, a, _, rfl, sqT (b2 _ _ ha nta), for_enumT (xs := tab n (cV up)) (fun i σ H' => (∃ x y, σ = [some (.ref t), some (.ref a), x, y]) ∧ But t H H' ∧ H' t = some (.ins C dx (tF a b)) ∧ H' b = some (.lst (bs.map V.ref)) ∧ Bel H1 H' bs i n up) ?_ ?_ ?_ ?_⟩
    · refine ⟨⟨_, _, rfl⟩, b2, upd_same, by rw [upd_ne ntb.symm]; exact h1, h3.len, h3.nd, h3.new, fun k c e => ?_⟩
      have nct : c ≠ t := fun z => htn (by rw [← z]; exact List.mem_of_getElem? e)
      rw [upd_ne nct]
      exact h3.at_ k c e
    · exact fun i σ H' _ h => sqT (h.2.1 _ _ ha nta)
    · rintro i x T' σ H' hx ⟨⟨x1, x2, rfl⟩, p1, p2, p3, p4⟩ hT
      obtain ⟨hi, rfl⟩ := tab_some hx
      have sT : Same H' (upd H' T' (.tup [V.int (i : Nat), cV up i])) := same_new hT
      refine ⟨T', _, rfl, sqT upd_same, rfl, _, _, rfl, _, _, rfl, rfl, ?_⟩
      by_cases h0 : 0 < i
      · have e := cV_pos (up := up) h0
        have hu := hc.lt i h0
        obtain ⟨c, hcc⟩ : ∃ c, bs[up i]? = some c := by
          have : up i < bs.length := by rw [p4.len]; omega
          exact ⟨bs[up i], List.getElem?_eq_getElem this⟩
        have hcn : c ≠ b := fun z => h2 (z ▸ List.mem_of_getElem? hcc)
        have hct : c ≠ t := fun z => htn (z ▸ List.mem_of_getElem? hcc)
        refine ⟨_, rfl, _, rfl, ifT (by rw [e, nV_ne]; rfl) ?_⟩
        refine ⟨_, rfl, t, C, dx, _, _, rfl, sT _ _ p2, tc.cl, tc.nB, tF_below a b, _, rfl, b, bs.map V.ref, (up i : Int), V.ref c, rfl, e, sqL (sT _ _ p3), ?_, ?_⟩
        · exact atI_nat (by rw [List.getElem?_map, hcc]; rfl)
        · refine ⟨.inl ⟨rfl, _, sqL (sT _ _ (p4.at_ _ _ hcc))⟩, _, rfl, c, _, _, rfl, rfl, sT _ _ (p4.at_ _ _ hcc), ?_, ?_⟩
          · rw [List.length_map]
            refine szlt (Nat.lt_of_le_of_lt (List.length_filter_le _ _) ?_)
            rw [List.length_range]; omega
          · have hcn' : H1 c = none := p4.new c (List.mem_of_getElem? hcc)
            refine ⟨⟨_, _, rfl⟩, ?_, ?_, ?_, p4.len, p4.nd, p4.new, fun k u q => ?_⟩
            · intro z o hz nz
              have nzc : z ≠ c := ne_of_none (b1 _ _ hz nz) hcn'
              rw [upd_ne nzc]
              exact sT _ _ (p1 _ _ hz nz)
            · rw [upd_ne hct.symm]
              exact sT _ _ p2
            · rw [upd_ne hcn.symm]
              exact sT _ _ p3
            · rw [kids_succ]
              by_cases hk : up i = k
              · have : u = c := by rw [hk, q] at hcc; exact Option.some.inj hcc
                rw [if_pos ⟨h0, hk⟩, this, upd_same, hk, List.map_append]
                rfl
              · have nuc : u ≠ c := fun z => hk (by
                  subst z
                  exact nd_inj p4.nd hcc q)
                rw [if_neg (fun z => hk z.2), upd_ne nuc]
                exact sT _ _ (p4.at_ k u q)
      · obtain rfl : i = 0 := by omega
        refine ⟨_, rfl, _, rfl, ifF (by rw [cV_zero]; decide) ?_⟩
        refine ⟨⟨_, _, rfl⟩, fun z o hz nz => sT _ _ (p1 _ _ hz nz), sT _ _ p2, sT _ _ p3, p4.len, p4.nd, p4.new, fun k u q => ?_⟩
        rw [kids_succ, if_neg (by omega)]
        exact sT _ _ (p4.at_ k u q)
    · rintro σ H' ⟨_, p1, p2, p3, p4⟩
      rw [tab_len] at p4
      exact k H' (t :: a :: b :: bs) p1 ⟨dx, a, b, bs, rfl, p2, p1 _ _ ha nta, p3, p4.len, p4.at_⟩
end
end Mu


/-! the methods of Tree and the functions of charts that use them. -/
namespace Mu
open PySem L2 PyProof.Rows PySem.SeqAt Mv
theorem atI_last {xs : List V} {x : V} : atI (xs ++ [x]) (-1) = some x := by
  have h : ixN (xs ++ [x]).length (-1) = some xs.length := by
    unfold ixN
    rw [List.length_append, List.length_singleton]
    have : ((xs.length + 1 : Nat) : Int) = (xs.length : Int) + 1 := by omega
    rw [if_neg (by omega), if_pos (by omega)]
    congr 1
    omega
  unfold atI
  rw [h]
  simp
section
variable {P : Program} {w : World} {K : PySem.W.Frag} {mg : Str → Option Value} {base : Heap} {C : Addr}
theorem make_t {H : Hp} {a : Addr} {n : Nat} {up : Nat → Nat} {R : Addr → Hp → Prop} {E : XK} (hc : CAt H a n up) (k : ∀ H' t as, Same H H' → H t = none → TAt C H' as t n up → R t H') :
    ∀ x dx, H x = none → H dx = none → dx ≠ x → spInit C [V.ref x, V.ref a] (upd (upd H dx (.own x)) x (.ins C dx [])) (fun v H2 => v = .non ∧ R x H2) E := by
  intro x dx hx hd nd
  have s0 : Same H (upd (upd H dx (.own x)) x (.ins C dx [])) := same_mut (same_new hd) hx
  refine ⟨x, dx, a, n, up, rfl, upd_same, ⟨s0 _ _ hc.1, hc.2⟩, fun H' as b t => ⟨rfl, k H' x as (fun z o e => ?_) hx ⟨t, hc.2.1, hc.2.2⟩⟩⟩
  exact b _ _ (s0 _ _ e) (ne_of_none e hx)
def spPath (C : Addr) : Sp := fun vs H Q _ => ∃ t as n up p, vs = [V.ref t, nV p] ∧ TAt C H as t n up ∧ p < n ∧ ∀ H' l, Same H H' → H l = none → H' l = some (.lst ((pth up p).map nV)) → Q (.ref l) H'
theorem sc_Tree_path : FnScope ["self", "post", "posts"] ["self", "post"] (defScope (inClass (top 14) 1)) := ⟨rfl, rfl, rfl, by decide +kernel, rfl, by decide +kernel, by decide +kernel⟩
theorem cl_path (D : DfM K C "path" "Tree.path" (inClass (top 14) 1)) (tc : TC K mg C) : ClM P w K mg base C "path" 1 ["self", "post"] (spPath C) := by
  refine D.cl (fun f fd F => F.ok sc_Tree_path (fun vs H Q E h => ?_) (fun cdv A outer s H vs Q E hr h => ?_)) (fun _ _ _ _ _ _ us hl => match us, hl with | [_, _], _ => rfl)
  · obtain ⟨_, _, _, _, _, rfl, _⟩ := h
    rfl
  · obtain ⟨t, as, n, up, p, rfl, ht, hp, k⟩ := h
    obtain ⟨dx, a, b, bs, -, t1, t2, -⟩ := ht.tr.ex
    have hc := ht.ch
    have hn := ht.le
    refine ⟨_, (pss_cons (ps_set (i := 2) sc_Tree_path.nd rfl (by first | exact Or.inl rfl | exact Or.inr rfl) (pe_lst (pa_cons (pv 1) pa_nil))) (pss_cons (ps_while PassesOwn.never (pt_cmpR op_ne (pe_ix ix_list (pv 2) (pe_un un_neg pe_int) (fun _ _ => rfl)) pe_int (nomark _)) (pss_one (ps_expr (pe_bm PySem.F.plainAttrs_list PySem.F.slot_list_append PySem.F.type_list_append mt_append (pv 2) (pa_cons (pe_ix ix_tup (pe_fld (pv 0) rfl) (pe_ix ix_list (pv 2) (pe_un un_neg pe_int) (fun _ _ => rfl)) (fun _ _ => rfl)) pa_nil))))) (pss_one (ps_ret (pe_revL (pv 2)))))), ?_⟩
    refine ⟨_, rfl, szle (by show 1 ≤ 100000; decide), fun l hl => ?_⟩
    refine ⟨fun m σ H' => σ = [some (.ref t), some (nV p), some (.ref l)] ∧ Same H H' ∧ m < n ∧ ∃ xs : List Nat, H' l = some (.lst ((xs ++ [m]).map nV)) ∧ pth up p = pth up m ++ xs.reverse, ⟨p, rfl, same_new hl, hp, [], upd_same, by simp⟩, ?_⟩
    rintro m σ H' ⟨rfl, sm, hm, xs, h1, h2⟩
    have e1 : (xs ++ [m]).map nV = xs.map nV ++ [nV m] := by rw [List.map_append]; rfl
    refine ⟨_, rfl, 1, rfl, l, _, -1, nV m, rfl, rfl, sqL h1, by rw [e1]; exact atI_last, rfl, _, rfl, ?_⟩
    by_cases h0 : 0 < m
    · refine ifT (by show (!decide ((nV m) = V.int 0)) = true; rw [decide_eq_false (by intro z; injection z with z; omega)]; rfl) ?_
      have hu := hc.lt m h0
      have hlen : (xs ++ [m]).length ≤ n := by
        have q := pth_len hc p
        have q2 : 0 < (pth up m).length := List.length_pos_iff.mpr (pth_ne hc m)
        rw [h2, List.length_append, List.length_reverse] at q
        rw [List.length_append, List.length_singleton]
        omega
      refine ⟨_, fun σ2 H2 h => ⟨up m, hu, h⟩, ?_⟩
      refine ⟨_, rfl, .inl ⟨rfl, _, sqL h1⟩, _, rfl, t, C, dx, _, _, rfl, sm _ _ t1, tc.cl, tc.nA, tF_above a b, _, rfl, 1, rfl, l, _, -1, nV m, rfl, rfl, sqL h1, by rw [e1]; exact atI_last, a, _, (m : Int), nV (up m), rfl, rfl, tupS sm t2, by rw [at_tab hm, cV_pos h0], ?_⟩
      refine ⟨l, _, nV (up m), rfl, rfl, h1, szlt (by rw [List.length_map]; omega), rfl, same_mut sm hl, by omega, xs ++ [m], ?_, ?_⟩
      · rw [upd_same, List.map_append (l₁ := xs ++ [m])]; rfl
      · rw [h2, pth_pos hc h0, List.append_assoc, List.reverse_append]; rfl
    · obtain rfl : m = 0 := by omega
      refine ifF (by show (!decide ((nV 0) = V.int 0)) = false; rw [decide_eq_true (by rfl)]; rfl) ?_
      refine ⟨_, rfl, l, _, rfl, sqL h1, fun q hq => ?_⟩
      refine k _ _ (sm.trans (same_new hq)) (Same.free sm hq) ?_
      rw [upd_same, ← List.map_reverse, List.reverse_append, h2, pth_zero]
      rfl
def spBelow (C : Addr) : Sp := fun vs H Q _ => ∃ t as n up q p, vs = [V.ref t, nV q, nV p] ∧ TAt C H as t n up ∧ q < n ∧ p < n ∧ Q (.bl (decide (p ∈ pth up q))) H
theorem sc_Tree_is_below : FnScope ["self", "post", "top"] ["self", "post", "top"] (defScope (inClass (top 14) 2)) := ⟨rfl, rfl, rfl, by decide +kernel, rfl, by decide +kernel, by decide +kernel⟩
theorem cl_is_below (D : DfM K C "is_below" "Tree.is_below" (inClass (top 14) 2)) (tc : TC K mg C) : ClM P w K mg base C "is_below" 1 ["self", "post", "top"] (spBelow C) := by
  refine D.cl (fun f fd F => F.ok sc_Tree_is_below (fun vs H Q E h => ?_) (fun cdv A outer s H vs Q E hr h => ?_)) (fun _ _ _ _ _ _ us hl => match us, hl with | [_, _, _], _ => rfl)
  · obtain ⟨_, _, _, _, _, _, rfl, _⟩ := h
    rfl
  · obtain ⟨t, as, n, up, q, p, rfl, ht, hq, hp, k⟩ := h
    obtain ⟨dx, a, b, bs, -, t1, t2, -⟩ := ht.tr.ex
    have hc := ht.ch
    refine ⟨_, (pss_cons (ps_while PassesOwn.never (pt_cmpR op_gt (pv 1) (pv 2) (nomark _)) (pss_one (ps_set (i := 1) sc_Tree_is_below.nd rfl (by first | exact Or.inl rfl | exact Or.inr rfl) (pe_ix ix_tup (pe_fld (pv 0) rfl) (pv 1) (fun _ _ => rfl))))) (pss_one (ps_ret (pe_cmpR op_eq (pv 1) (pv 2) (nomark _))))), ?_⟩
    refine ⟨fun m σ H' => σ = [some (.ref t), some (nV m), some (nV p)] ∧ H' = H ∧ m < n ∧ (p ∈ pth up q ↔ p ∈ pth up m), ⟨q, rfl, rfl, hq, Iff.rfl⟩, ?_⟩
    rintro m σ H' ⟨rfl, rfl, hm, hi⟩
    refine ⟨_, rfl, _, rfl, _, _, rfl, rfl, _, rfl, ?_⟩
    by_cases h0 : p < m
    · refine ifT (decide_eq_true (by omega)) ?_
      have hu := hc.lt m (by omega)
      refine ⟨_, fun σ2 H2 h => ⟨up m, hu, h⟩, ?_⟩
      refine ⟨_, rfl, t, C, dx, _, _, rfl, t1, tc.cl, tc.nA, tF_above a b, _, rfl, a, _, (m : Int), nV (up m), rfl, rfl, sqT t2, by rw [at_tab hm, cV_pos (by omega)], ?_⟩
      refine ⟨rfl, rfl, by omega, hi.trans ?_⟩
      rw [mem_pth hc]
      exact ⟨fun z => z.elim (fun e => by omega) fun z => z.2, fun z => .inr ⟨by omega, z⟩⟩
    · refine ifF (decide_eq_false (by omega)) ?_
      refine ⟨_, rfl, _, rfl, rfl, ?_⟩
      have e : decide (nV m = nV p) = decide (p ∈ pth up q) := by
        refine decide_eq_decide.mpr ⟨fun z => ?_, fun z => ?_⟩
        · have z' : m = p := by injection z with z; omega
          rw [hi, z']
          exact mem_self hc p
        · have := le_of_mem hc (hi.mp z)
          have : m = p := by omega
          rw [this]
      rw [e]
      exact k
def spCommon (C : Addr) : Sp := fun vs H Q _ => ∃ t as n up a b, vs = [V.ref t, nV a, nV b] ∧ TAt C H as t n up ∧ a < n ∧ b < n ∧ ∀ c, Lca up a b c → c < n → Q (nV c) H
theorem sc_Tree_common : FnScope ["self", "a", "b"] ["self", "a", "b"] (defScope (inClass (top 14) 3)) := ⟨rfl, rfl, rfl, by decide +kernel, rfl, by decide +kernel, by decide +kernel⟩
theorem cl_common (D : DfM K C "common" "Tree.common" (inClass (top 14) 3)) (tc : TC K mg C) (T : Bt mg) : ClM P w K mg base C "common" 1 ["self", "a", "b"] (spCommon C) := by
  refine D.cl (fun f fd F => F.ok sc_Tree_common (fun vs H Q E h => ?_) (fun cdv A outer s H vs Q E hr h => ?_)) (fun _ _ _ _ _ _ us hl => match us, hl with | [_, _, _], _ => rfl)
  · obtain ⟨_, _, _, _, _, _, rfl, _⟩ := h
    rfl
  · obtain ⟨t, as, n, up, x0, y0, rfl, ht, hx, hy, k⟩ := h
    obtain ⟨dx, a, b, bs, -, t1, t2, -⟩ := ht.tr.ex
    have hc := ht.ch
    refine ⟨_, (pss_cons (ps_while PassesOwn.never (pt_cmpR op_ne (pv 1) (pv 2) (nomark _)) (pss_one (ps_par (i := 1) (j := 2) rfl sc_Tree_common.nd rfl rfl (by decide) rfl rfl (pa_cons (pe_ix ix_tup (pe_fld (pv 0) rfl) (pe_callB (call_max2 rfl) (by rfl) T.max (by decide +kernel) (pa_cons (pv 1) (pa_cons (pv 2) pa_nil))) (fun _ _ => rfl)) (pa_cons (pe_callB (call_min2 rfl) (by rfl) T.min (by decide +kernel) (pa_cons (pv 1) (pa_cons (pv 2) pa_nil))) pa_nil)) (by rfl)))) (pss_one (ps_ret (pv 1)))), ?_⟩
    refine ⟨fun m σ H' => ∃ x y : Nat, σ = [some (.ref t), some (nV x), some (nV y)] ∧ H' = H ∧ m = x + y ∧ x < n ∧ y < n ∧ ∀ c, Lca up x y c → Lca up x0 y0 c, ⟨_, x0, y0, rfl, rfl, rfl, hx, hy, fun c h => h⟩, ?_⟩
    rintro m σ H' ⟨x, y, rfl, rfl, rfl, h1, h2, h3⟩
    refine ⟨_, rfl, _, rfl, rfl, _, rfl, ?_⟩
    by_cases h0 : x = y
    · subst h0
      refine ifF (by show (!decide ((nV x) = nV x)) = false; rw [decide_eq_true rfl]; rfl) ?_
      exact ⟨_, rfl, k _ (h3 _ (lca_self x)) h1⟩
    · refine ifT (by show (!decide ((nV x) = nV y)) = true; rw [decide_eq_false (by intro z; injection z with z; omega)]; rfl) ?_
      have hmx : max x y < n := by omega
      have hu := hc.lt (max x y) (by omega)
      refine ⟨_, fun σ2 H2 h => ⟨up (max x y) + min x y, by omega, h⟩, ?_⟩
      refine ⟨_, rfl, t, C, dx, _, _, rfl, t1, tc.cl, tc.nA, tF_above a b, _, rfl, _, rfl, _, _, rfl, a, _, ((max x y : Nat) : Int), nV (up (max x y)), rfl, ?_, sqT t2, by rw [at_tab hmx, cV_pos (by omega)], _, rfl, _, rfl, _, _, rfl, _, _, rfl, ?_⟩
      · congr 1
        split <;> omega
      · refine ⟨up (max x y), min x y, ?_, rfl, rfl, by omega, by omega, fun c h => h3 c (lca_step hc h0 h)⟩
        have e : (if (y : Int) < (x : Int) then (y : Int) else (x : Int)) = ((min x y : Nat) : Int) := by split <;> omega
        show [some (V.ref t), some (nV (up (max x y))), some (V.int (if (y : Int) < (x : Int) then (y : Int) else (x : Int)))] = _
        rw [e]
        rfl
end
end Mu


/-! path_to, posts_below, common_post. -/
namespace Mu
open PySem L2 PyProof.Rows PySem.SeqAt Mv
/-- the numbers below i that pass -/
def flt (i : Nat) (p : Nat → Bool) : List Nat := (List.range i).filter p
theorem flt_succ {i : Nat} {p : Nat → Bool} : flt (i + 1) p = if p i = true then flt i p ++ [i] else flt i p := by
  unfold flt
  rw [List.range_succ, List.filter_append]
  by_cases h : p i = true
  · rw [if_pos h, List.filter_cons_of_pos h]; rfl
  · rw [if_neg h, List.filter_cons_of_neg h]; simp
theorem flt_len {i : Nat} {p : Nat → Bool} : (flt i p).length ≤ i := by
  refine Nat.le_trans (List.length_filter_le _ _) ?_
  rw [List.length_range]
  exact Nat.le_refl _
/-- a turn of a comprehension with a test, to the list of the numbers that pass -/
theorem flt_step {i : Nat} {p : Nat → Bool} {f : Nat → V} {H : Hp} {D : Addr} (h : H D = some (.lst ((flt i p).map f))) (e : p i = true) : upd H D (.lst ((flt i p).map f ++ [f i])) D = some (.lst ((flt (i + 1) p).map f)) := by
  rw [upd_same, flt_succ, if_pos e, List.map_append]; rfl
theorem flt_skip {i : Nat} {p : Nat → Bool} {f : Nat → V} {H : Hp} {D : Addr} (h : H D = some (.lst ((flt i p).map f))) (e : p i = false) : H D = some (.lst ((flt (i + 1) p).map f)) := by
  rw [flt_succ, if_neg (by rw [e]; decide)]; exact h
section
variable {P : Program} {w : World} {K : PySem.W.Frag} {mg : Str → Option Value} {base : Heap} {C : Addr}
theorem CAt.same {H H' : Hp} {a : Addr} {n : Nat} {up : Nat → Nat} (c : CAt H a n up) (s : Same H H') : CAt H' a n up := ⟨s _ _ c.1, c.2⟩
def spPathTo : Sp := fun vs H Q _ => ∃ a n up p, vs = [V.ref a, nV p] ∧ CAt H a n up ∧ p < n ∧ ∀ H' l, Same H H' → H l = none → H' l = some (.lst ((pth up p).map nV)) → Q (.ref l) H'
theorem sc_path_to : FnScope ["chart", "post"] ["chart", "post"] (defScope (top 15)) := ⟨rfl, rfl, rfl, by decide +kernel, rfl, by decide +kernel, by decide +kernel⟩
theorem cl_path_to (D : Df K mg "path_to" (top 15)) (c_require_chart : Cl P w K mg base "require_chart" 3 ["chart"] spChart) (c_require_post : Cl P w K mg base "require_post" 2 ["chart", "post"] spPost) (c_Tree : ClT P w K mg base C 1 ["self", "chart"] (spInit C)) (c_path : ClM P w K mg base C "path" 1 ["self", "post"] (spPath C)) :
    Cl P w K mg base "path_to" 4 ["chart", "post"] spPathTo := by
  refine D.cl (fun f fd F => F.ok sc_path_to (fun vs H Q E h => ?_) (fun cdv A outer s H vs Q E hr h => ?_)) (fun _ _ _ _ _ _ us hl => match us, hl with | [_, _], _ => rfl)
  · obtain ⟨_, _, _, _, rfl, _⟩ := h
    rfl
  · obtain ⟨a, n, up, p, rfl, hc, hp, k⟩ := h
    refine ⟨_, (pss_cons (ps_expr (pe_c c_require_chart (hr.mono (by decide)) (pa_cons (pv 0) pa_nil))) (pss_cons (ps_expr (pe_c c_require_post (hr.mono (by decide)) (pa_cons (pv 0) (pa_cons (pv 1) pa_nil)))) (pss_one (ps_ret (pe_m c_path (hr.mono (by decide)) (pe_makeT (hr.mono (by decide)) c_Tree (pa_cons (pv 0) pa_nil)) (pa_cons (pv 1) pa_nil)))))), ?_⟩
    refine ⟨_, rfl, a, n, up, rfl, hc, fun H1 s1 => ?_⟩
    refine ⟨_, rfl, _, rfl, a, n, up, p, rfl, hc.same s1, hp, fun H2 s2 => ?_⟩
    have s12 := s1.trans s2
    refine ⟨_, rfl, make_t (hc.same s12) fun H3 t as s3 ht T => ?_⟩
    obtain ⟨dx, u1, u2, u3, -, t1, -⟩ := T.tr.ex
    refine ⟨t, dx, _, rfl, t1, tF_no _ _ (by decide +kernel) (by decide +kernel), _, rfl, t, as, n, up, p, rfl, T, hp, fun H4 l s4 hl hl2 => ?_⟩
    have s14 := s12.trans s3
    exact k _ _ (s14.trans s4) (Same.free s14 hl) hl2
def spBelowAll : Sp := fun vs H Q _ => ∃ a n up p, vs = [V.ref a, nV p] ∧ CAt H a n up ∧ p < n ∧ ∀ H' l, Same H H' → H l = none → H' l = some (.lst ((flt n fun k => decide (p ∈ pth up k)).map nV)) → Q (.ref l) H'
theorem sc_posts_below : FnScope ["chart", "post", "tree", "other"] ["chart", "post"] (defScope (top 16)) := ⟨rfl, rfl, rfl, by decide +kernel, rfl, by decide +kernel, by decide +kernel⟩
theorem cl_posts_below (D : Df K mg "posts_below" (top 16)) (T : Bt mg) (c_require_chart : Cl P w K mg base "require_chart" 3 ["chart"] spChart) (c_require_post : Cl P w K mg base "require_post" 2 ["chart", "post"] spPost) (c_Tree : ClT P w K mg base C 1 ["self", "chart"] (spInit C)) (c_is_below : ClM P w K mg base C "is_below" 1 ["self", "post", "top"] (spBelow C)) :
    Cl P w K mg base "posts_below" 4 ["chart", "post"] spBelowAll := by
  refine D.cl (fun f fd F => F.ok sc_posts_below (fun vs H Q E h => ?_) (fun cdv A outer s H vs Q E hr h => ?_)) (fun _ _ _ _ _ _ us hl => match us, hl with | [_, _], _ => rfl)
  · obtain ⟨_, _, _, _, rfl, _⟩ := h
    rfl
  · obtain ⟨a, n, up, p, rfl, hc, hp, k⟩ := h
    refine ⟨_, (pss_cons (ps_expr (pe_c c_require_chart (hr.mono (by decide)) (pa_cons (pv 0) pa_nil))) (pss_cons (ps_expr (pe_c c_require_post (hr.mono (by decide)) (pa_cons (pv 0) (pa_cons (pv 1) pa_nil)))) (pss_cons (ps_set (i := 2) sc_posts_below.nd rfl (by first | exact Or.inl rfl | exact Or.inr rfl) (pe_makeT (hr.mono (by decide)) c_Tree (pa_cons (pv 0) pa_nil))) (pss_one (ps_ret (pe_lc (own := [("other", 3)]) rfl sc_posts_below.nd (pi_range1 (by rfl) T.range (pa_cons (pe_callB call_len_seq (by rfl) T.len (by decide +kernel) (pa_cons (pv 0) pa_nil)) pa_nil)) (blkOk_by (own := [("other", 3)]) (N := ["chart", "post", "tree", "other"]) (sc := defScope (top 16)) (by decide +kernel)) (fun _ _ _ _ _ => (pg_name (i := 3) sc_posts_below.nd rfl (by first | exact Or.inl rfl | exact Or.inr rfl))) (fun _ _ _ _ _ => (pts_one (pt_val (pe_m c_is_below (hr.mono (by decide)) (pv 2) (pa_cons (pv 3) (pa_cons (pv 1) pa_nil)))))) (fun _ _ _ _ _ => (pv 3)))))))), ?_⟩
    refine ⟨_, rfl, a, n, up, rfl, hc, fun H1 s1 => ?_⟩
    refine ⟨_, rfl, _, rfl, a, n, up, p, rfl, hc.same s1, hp, fun H2 s2 => ?_⟩
    have s12 := s1.trans s2
    refine ⟨_, rfl, make_t (hc.same s12) fun H3 t as s3 ht T => ?_⟩
    obtain ⟨dx, u1, u2, u3, -, t1, -⟩ := T.tr.ex
    have s13 := s12.trans s3
    refine ⟨_, rfl, a, _, rfl, .inr (tupS s13 hc.1), ?_⟩
    rw [tab_len]
    have hn := hc.2.2
    refine ⟨n, rfl, by omega, by omega, fun D hD => ?_⟩
    have e0 : ((n : Int)).toNat = n := by omega
    rw [e0]
    refine lc_range (fun i H' => Same H3 H' ∧ H' D = some (.lst ((flt i fun k => decide (p ∈ pth up k)).map nV))) ⟨same_new hD, upd_same⟩ ?_ ?_
    · rintro i H' hi ⟨sm, hl⟩
      refine ⟨rfl, ?_⟩
      have T' := T.same sm
      refine ⟨_, rfl, t, dx, _, rfl, sm _ _ t1, tF_no _ _ (by decide +kernel) (by decide +kernel), _, rfl, _, rfl, t, as, n, up, i, p, by rw [Int.zero_add]; rfl, T', hi, hp, _, rfl, ?_⟩
      by_cases e : p ∈ pth up i
      · refine ifT (decide_eq_true e) ⟨_, rfl, _, hl, szlt (by rw [List.length_map]; exact Nat.lt_of_le_of_lt flt_len (by omega)), same_mut sm hD, ?_⟩
        rw [Int.zero_add]
        exact flt_step (p := fun k => decide (p ∈ pth up k)) (f := nV) hl (decide_eq_true e)
      · exact ifF (decide_eq_false e) ⟨sm, flt_skip (p := fun k => decide (p ∈ pth up k)) hl (decide_eq_false e)⟩
    · rintro H' ⟨sm, hl⟩
      exact k _ _ (s13.trans sm) (Same.free s13 hD) hl
def spCommonP : Sp := fun vs H Q _ => ∃ a n up x y, vs = [V.ref a, nV x, nV y] ∧ CAt H a n up ∧ x < n ∧ y < n ∧ ∀ H' c, Same H H' → Lca up x y c → c < n → Q (nV c) H'
theorem sc_common_post : FnScope ["chart", "a", "b"] ["chart", "a", "b"] (defScope (top 17)) := ⟨rfl, rfl, rfl, by decide +kernel, rfl, by decide +kernel, by decide +kernel⟩
theorem cl_common_post (D : Df K mg "common_post" (top 17)) (c_require_chart : Cl P w K mg base "require_chart" 3 ["chart"] spChart) (c_require_post : Cl P w K mg base "require_post" 2 ["chart", "post"] spPost) (c_Tree : ClT P w K mg base C 1 ["self", "chart"] (spInit C)) (c_common : ClM P w K mg base C "common" 1 ["self", "a", "b"] (spCommon C)) :
    Cl P w K mg base "common_post" 4 ["chart", "a", "b"] spCommonP := by
  refine D.cl (fun f fd F => F.ok sc_common_post (fun vs H Q E h => ?_) (fun cdv A outer s H vs Q E hr h => ?_)) (fun _ _ _ _ _ _ us hl => match us, hl with | [_, _, _], _ => rfl)
  · obtain ⟨_, _, _, _, _, rfl, _⟩ := h
    rfl
  · obtain ⟨a, n, up, x, y, rfl, hc, hx, hy, k⟩ := h
    refine ⟨_, (pss_cons (ps_expr (pe_c c_require_chart (hr.mono (by decide)) (pa_cons (pv 0) pa_nil))) (pss_cons (ps_expr (pe_c c_require_post (hr.mono (by decide)) (pa_cons (pv 0) (pa_cons (pv 1) pa_nil)))) (pss_cons (ps_expr (pe_c c_require_post (hr.mono (by decide)) (pa_cons (pv 0) (pa_cons (pv 2) pa_nil)))) (pss_one (ps_ret (pe_m c_common (hr.mono (by decide)) (pe_makeT (hr.mono (by decide)) c_Tree (pa_cons (pv 0) pa_nil)) (pa_cons (pv 1) (pa_cons (pv 2) pa_nil)))))))), ?_⟩
    refine ⟨_, rfl, a, n, up, rfl, hc, fun H1 s1 => ?_⟩
    refine ⟨_, rfl, _, rfl, a, n, up, x, rfl, hc.same s1, hx, fun H2 s2 => ?_⟩
    have s12 := s1.trans s2
    refine ⟨_, rfl, _, rfl, a, n, up, y, rfl, hc.same s12, hy, fun H3 s3 => ?_⟩
    have s13 := s12.trans s3
    refine ⟨_, rfl, make_t (hc.same s13) fun H4 t as s4 ht T => ?_⟩
    obtain ⟨dx, u1, u2, u3, -, t1, -⟩ := T.tr.ex
    exact ⟨t, dx, _, rfl, t1, tF_no _ _ (by decide +kernel) (by decide +kernel), _, rfl, _, rfl, t, as, n, up, x, y, rfl, T, hx, hy, fun c hl hcn => k _ _ (s13.trans s4) hl hcn⟩
end
end Mu


/-! arrangements: is_person .. require_arrangement. -/
namespace Mu
open PySem L2 PyProof.Rows PySem.SeqAt Mv
def kO : Option Int → Option Key
  | none => none
  | some x => some (.inl x)
theorem nkV_kO (o : Option Int) : nkV (kO o) = oV o := by cases o <;> rfl
theorem oV_non (o : Option Int) : decide (oV o = V.non) = o.isNone := by
  cases o with
  | none => exact decide_eq_true rfl
  | some x => exact decide_eq_false (by intro z; cases z)
/-- rows of people as a tuple at v -/
def RAt (H : Hp) (v : Addr) (n : Nat) (r : Rw) : Prop := H v = some (.tup (tab n (rV r)))
section
variable {P : Program} {w : World} {K : PySem.W.Frag} {mg : Str → Option Value} {base : Heap} {C : Addr}
theorem RAt.same {H H' : Hp} {a : Addr} {n : Nat} {r : Rw} (c : RAt H a n r) (s : Same H H') : RAt H' a n r := s _ _ c
theorem sc_is_person : FnScope ["value"] ["value"] (defScope (top 19)) := ⟨rfl, rfl, rfl, by decide +kernel, rfl, by decide +kernel, by decide +kernel⟩
theorem cl_is_person (D : Df K mg "is_person" (top 19)) (c_is_whole : Cl P w K mg base "is_whole" 1 ["value"] spWhole) : Cl P w K mg base "is_person" 2 ["value"] spWhole := by
  refine D.cl (fun f fd F => F.ok sc_is_person (fun vs H Q E h => ?_) (fun cdv A outer s H vs Q E hr h => ?_)) (fun _ _ _ _ _ _ us hl => match us, hl with | [_], _ => rfl)
  · obtain ⟨_, rfl, _⟩ := h
    rfl
  · obtain ⟨o, rfl, k⟩ := h
    refine ⟨_, (pss_one (ps_ret (pe_c c_is_whole (hr.mono (by decide)) (pa_cons (pv 0) pa_nil)))), ?_⟩
    exact ⟨_, rfl, o, rfl, k⟩
def fls (m : Nat) : List V := tab m fun _ => .bl false
def spFault : Sp := fun vs H Q _ => ∃ (x : Str) (l : Addr) (m : Nat), vs = [V.str x, V.ref l] ∧ H l = some (.lst (fls m)) ∧ ∀ H', Same H H' → Q .non H'
theorem sc_first_fault : FnScope ["word", "faults", "index", "fault"] ["word", "faults"] (defScope (top 20)) := ⟨rfl, rfl, rfl, by decide +kernel, rfl, by decide +kernel, by decide +kernel⟩
theorem cl_first_fault (D : Df K mg "first_fault" (top 20)) (T : Bt mg) : Cl P w K mg base "first_fault" 1 ["word", "faults"] spFault := by
  refine D.cl (fun f fd F => F.ok sc_first_fault (fun vs H Q E h => ?_) (fun cdv A outer s H vs Q E hr h => ?_)) (fun _ _ _ _ _ _ us hl => match us, hl with | [_, _], _ => rfl)
  · obtain ⟨_, _, _, rfl, _⟩ := h
    rfl
  · obtain ⟨x, l, m, rfl, hl, k⟩ := h
    refine ⟨_, (pss_cons (ps_for PassesOwn.never rfl (pi_enum (by rfl) T.enumerate (pa_cons (pv 1) pa_nil)) (pg_tup rfl (pgs_cons (pg_name (i := 2) sc_first_fault.nd rfl (by first | exact Or.inl rfl | exact Or.inr rfl)) (pgs_cons (pg_name (i := 3) sc_first_fault.nd rfl (by first | exact Or.inl rfl | exact Or.inr rfl)) pgs_nil))) (pss_one (ps_if (pt_val (pv 3)) (pss_one (ps_ret (pe_tup (pa_cons (pv 0) (pa_cons (pv 2) pa_nil))))) pss_nil))) (pss_one (ps_ret pe_non))), ?_⟩
    refine ⟨_, rfl, l, _, rfl, sqL hl, for_enumL (xs := fls m) (fun i σ H' => (∃ x1 x2, σ = [some (.str x), some (.ref l), x1, x2]) ∧ Same H H') ⟨⟨_, _, rfl⟩, Same.refl _⟩ (fun i σ H' _ h => lstS h.2 hl) ?_ ?_⟩
    · rintro i y T' σ H' hx ⟨⟨x1, x2, rfl⟩, sm⟩ hT
      obtain ⟨hi, rfl⟩ := tab_some hx
      refine ⟨T', _, rfl, sqT upd_same, rfl, _, _, rfl, _, _, rfl, rfl, ?_⟩
      exact ⟨_, rfl, _, rfl, iteF ⟨⟨_, _, rfl⟩, sm.trans (same_new hT)⟩⟩
    · rintro σ H' ⟨_, sm⟩
      exact k _ sm
def spRepeats : Sp := fun vs H Q _ => ∃ (v : Addr) (n : Nat) (r : Rw), vs = [V.ref v] ∧ RAt H v n r ∧ n ≤ 60 ∧ (∀ j k x, r j = some x → r k = some x → j = k) ∧ ∀ H' l, Same H H' → H' l = some (.lst (fls n)) → Q (.ref l) H'
theorem sc_repeats : FnScope ["items", "seen", "found", "item"] ["items"] (defScope (top 21)) := ⟨rfl, rfl, rfl, by decide +kernel, rfl, by decide +kernel, by decide +kernel⟩
theorem cl_repeats (D : Df K mg "repeats" (top 21)) (T : Bt mg) : Cl P w K mg base "repeats" 1 ["items"] spRepeats := by
  refine D.cl (fun f fd F => F.ok sc_repeats (fun vs H Q E h => ?_) (fun cdv A outer s H vs Q E hr h => ?_)) (fun _ _ _ _ _ _ us hl => match us, hl with | [_], _ => rfl)
  · obtain ⟨_, _, _, rfl, _⟩ := h
    rfl
  · obtain ⟨v, n, r, rfl, hv, hn, inj, k⟩ := h
    refine ⟨_, (pss_cons (ps_set (i := 1) sc_repeats.nd rfl (by first | exact Or.inl rfl | exact Or.inr rfl) (pe_ndisp pe_bl)) (pss_cons (ps_set (i := 2) sc_repeats.nd rfl (by first | exact Or.inl rfl | exact Or.inr rfl) (pe_lst pa_nil)) (pss_cons (ps_for PassesOwn.never rfl (pi_tup (pv 0)) (pg_name (i := 3) sc_repeats.nd rfl (by first | exact Or.inl rfl | exact Or.inr rfl)) (pss_cons (ps_expr (pe_bm PySem.F.plainAttrs_list PySem.F.slot_list_append PySem.F.type_list_append mt_append (pv 2) (pa_cons (pe_nget2 (pv 1) (pv 3) pe_bl ⟨rfl, rfl, rfl, rfl⟩) pa_nil))) (pss_one (ps_if (pt_cmp (pc_notN (pv 3))) (pss_one (ps_nput (pv 1) (pv 3) pe_bl rfl)) pss_nil)))) (pss_one (ps_ret (pv 2)))))), ?_⟩
    intro d hd
    refine ⟨upd_same, ?_⟩
    refine ⟨Nat.zero_le _, fun l hl => ?_⟩
    have hdl : d ≠ l := ne_of_none upd_same hl
    have s2 := same_mut (o := nD P w d [(none, V.bl false)]) (same_new (o := nD P w d []) hd) hd
    have hl0 : H l = none := Same.free s2 hl
    refine ⟨_, rfl, v, rfl, ⟨_, sqT ((s2.trans (same_new hl)) _ _ hv)⟩, for_tup (xs := tab n (rV r)) (fun i σ H' => (∃ x, σ = [some (.ref v), some (.ref d), some (.ref l), x]) ∧ Same H H' ∧ H' l = some (.lst (fls i)) ∧
      ∃ kvs, H' d = some (nD P w d kvs) ∧ kvs.length ≤ i + 1 ∧ valV kvs none = some (.bl false) ∧ ∀ x, (∀ j, j < i → r j ≠ some x) → valV kvs (some (.inl x)) = none) ?_ ?_ ?_ ?_⟩
    · refine ⟨⟨_, rfl⟩, s2.trans (same_new hl), upd_same, [(none, .bl false)], by rw [upd_ne hdl, upd_same]; rfl, Nat.le_refl _, valV_pos rfl, fun x _ => ?_⟩
      rw [valV_neg (by intro z; cases z), valV_nil]
    · exact fun i σ H' _ h => tupS h.2.1 hv
    · rintro i x σ H' hx ⟨⟨x1, rfl⟩, sm, h1, kvs, h2, h3, h4, h5⟩
      obtain ⟨hi, rfl⟩ := tab_some hx
      refine ⟨_, rfl, .inl ⟨rfl, _, sqL h1⟩, _, rfl, d, kvs, rfl, .inl h2, _, rfl, kO (r i), (nkV_kO (r i)).symm, .inl h2, ?_⟩
      have e : (valV kvs (kO (r i))).getD (V.bl false) = .bl false := by
        cases q : r i with
        | none => rw [show kO none = none from rfl, h4]; rfl
        | some x =>
          rw [show kO (some x) = some (.inl x) from rfl, h5 x (fun j hj z => ?_)]
          · rfl
          · have := inj _ _ _ z q
            omega
      rw [e]
      have s3 : Same H (upd H' l (.lst (fls i ++ [.bl false]))) := same_mut sm hl0
      have h2' : upd H' l (.lst (fls i ++ [.bl false])) d = some (nD P w d kvs) := by rw [upd_ne hdl]; exact h2
      have hd0 : H d = none := hd
      refine ⟨l, _, _, rfl, rfl, h1, szlt (by rw [fls, tab_len]; omega), ?_⟩
      refine ⟨_, rfl, _, rfl, ?_⟩
      show if (!decide (oV (r i) = V.non)) = true then _ else _
      rw [oV_non]
      cases q : r i with
      | none =>
        refine iteF ⟨⟨_, rfl⟩, s3, by rw [upd_same]; exact congrArg (fun z => some (HO.lst z)) tab_snoc, kvs, h2', by omega, h4, fun x hx => h5 x fun j hj => hx j (by omega)⟩
      | some x =>
        refine iteT ⟨_, rfl, _, rfl, d, kvs, kO (some x), rfl, h2', ?_, szlt (by omega), ⟨_, rfl⟩, same_mut s3 hd0, ?_, _, upd_same, ?_, ?_, fun y hy => ?_⟩
        · rw [nkV_kO, ← q]; rfl
        · rw [upd_ne hdl.symm, upd_same]; exact congrArg (fun z => some (HO.lst z)) tab_snoc
        · exact Nat.le_trans (length_putK _ _ _) (by omega)
        · rw [valV_put, if_neg (by intro z; cases z)]; exact h4
        · rw [valV_put, if_neg]
          · exact h5 y fun j hj => hy j (by omega)
          · intro z
            have : (some (Sum.inl y) : Option Key) = some (Sum.inl x) := z
            injection this with z
            injection z with z
            exact hy i (by omega) (by rw [q, z])
    · rintro σ H' ⟨⟨x1, rfl⟩, sm, h1, _⟩
      rw [tab_len] at h1
      exact ⟨_, rfl, k _ _ sm h1⟩
def spOrder : Sp := fun vs H Q _ => ∃ a v n up r p, vs = [V.ref a, V.ref v, nV p] ∧ CAt H a n up ∧ RAt H v n r ∧ Ar n up r ∧ p < n ∧ Q (.bl false) H
theorem sc_is_out_of_order : FnScope ["chart", "value", "post", "upper"] ["chart", "value", "post"] (defScope (top 22)) := ⟨rfl, rfl, rfl, by decide +kernel, rfl, by decide +kernel, by decide +kernel⟩
theorem cl_is_out_of_order (D : Df K mg "is_out_of_order" (top 22)) : Cl P w K mg base "is_out_of_order" 1 ["chart", "value", "post"] spOrder := by
  refine D.cl (fun f fd F => F.ok sc_is_out_of_order (fun vs H Q E h => ?_) (fun cdv A outer s H vs Q E hr h => ?_)) (fun _ _ _ _ _ _ us hl => match us, hl with | [_, _, _], _ => rfl)
  · obtain ⟨_, _, _, _, _, _, rfl, _⟩ := h
    rfl
  · obtain ⟨a, v, n, up, r, p, rfl, hc, hv, ar, hp, k⟩ := h
    refine ⟨_, (pss_cons (ps_if (PW.pt (pw_or (pt_cmpR op_eq (pv 2) pe_int (nomark _)) (pw_or1 (pt_cmp (pc_isN (pe_ix ix_tup (pv 1) (pv 2) (fun _ _ => rfl))))))) (pss_one (ps_ret pe_bl)) pss_nil) (pss_cons (ps_set (i := 3) sc_is_out_of_order.nd rfl (by first | exact Or.inl rfl | exact Or.inr rfl) (pe_ix ix_tup (pv 1) (pe_ix ix_tup (pv 0) (pv 2) (fun _ _ => rfl)) (fun _ _ => rfl))) (pss_one (ps_ret (pe_or (pe_cmp (pc_isN (pv 3))) (pe_one (pe_cmpR op_gt (pv 3) (pe_ix ix_tup (pv 1) (pv 2) (fun _ _ => rfl)) (nomark _)))))))), ?_⟩
    refine ⟨_, rfl, rfl, _, rfl, ?_⟩
    by_cases h0 : p = 0
    · subst h0
      exact ifT (decide_eq_true rfl) (iteT k)
    refine ifF (decide_eq_false (by intro z; injection z with z; omega)) ⟨_, rfl, _, rfl, v, _, (p : Int), _, rfl, rfl, sqT hv, at_tab hp, _, rfl, ?_⟩
    show if decide (oV (r p) = V.non) = true then _ else _
    rw [oV_non]
    cases q : r p with
    | none => exact iteT k
    | some x =>
      obtain ⟨y, hy, hlt⟩ := ar.ord p x (by omega) q
      have hu := hc.2.1.lt p (by omega)
      refine iteF ⟨_, rfl, _, rfl, _, rfl, a, _, (p : Int), nV (up p), rfl, rfl, sqT hc.1, by rw [at_tab hp, cV_pos (by omega)], v, _, (up p : Int), V.int y, rfl, rfl, sqT hv, ?_, ?_⟩
      · rw [at_tab (by omega)]; exact congrArg (fun o => some (oV o)) hy
      · refine ⟨_, rfl, _, rfl, ifF (decide_eq_false (by intro z; cases z)) ?_⟩
        refine ⟨_, rfl, _, rfl, _, rfl, v, _, (p : Int), V.int x, rfl, rfl, sqT hv, ?_, _, _, rfl, rfl, ?_⟩
        · rw [at_tab hp]; exact congrArg (fun o => some (oV o)) q
        · show Q (V.bl (decide (x < y))) H
          rw [decide_eq_false (by omega)]
          exact k
/-- a valid arrangement of a valid chart -/
structure AAt (H : Hp) (a v : Addr) (n : Nat) (up : Nat → Nat) (r : Rw) : Prop where
  c : CAt H a n up
  v : RAt H v n r
  ar : Ar n up r
theorem AAt.same {H H' : Hp} {a v : Addr} {n : Nat} {up : Nat → Nat} {r : Rw} (c : AAt H a v n up r) (s : Same H H') : AAt H' a v n up r := ⟨c.c.same s, c.v.same s, c.ar⟩
def spArr : Sp := fun vs H Q _ => ∃ a v n up r, vs = [V.ref a, V.ref v] ∧ AAt H a v n up r ∧ ∀ H', Same H H' → Q .non H'
theorem sc_arrangement_fault : FnScope ["chart", "value", "reason", "person", "post"] ["chart", "value"] (defScope (top 23)) := ⟨rfl, rfl, rfl, by decide +kernel, rfl, by decide +kernel, by decide +kernel⟩
theorem cl_arrangement_fault (D : Df K mg "arrangement_fault" (top 23)) (T : Bt mg) (c_is_person : Cl P w K mg base "is_person" 2 ["value"] spWhole) (c_first_fault : Cl P w K mg base "first_fault" 1 ["word", "faults"] spFault) (c_repeats : Cl P w K mg base "repeats" 1 ["items"] spRepeats)
    (c_is_out_of_order : Cl P w K mg base "is_out_of_order" 1 ["chart", "value", "post"] spOrder) : Cl P w K mg base "arrangement_fault" 3 ["chart", "value"] spArr := by
  refine D.cl (fun f fd F => F.ok sc_arrangement_fault (fun vs H Q E h => ?_) (fun cdv A outer s H vs Q E hr h => ?_)) (fun _ _ _ _ _ _ us hl => match us, hl with | [_, _], _ => rfl)
  · obtain ⟨_, _, _, _, _, rfl, _⟩ := h
    rfl
  · obtain ⟨a, v, n, up, r, rfl, ha, k⟩ := h
    have hn := ha.c.2.2
    refine ⟨_, (pss_cons (ps_if (PW.pt (pw_or (pt_not (pt_val (pe_callB call_isi (by rfl) T.isinstance (by decide +kernel) (pa_cons (pv 1) (pa_cons (pe_bltn (v := .ty "tuple") (by rfl) T.tuple (by decide +kernel) rfl) pa_nil))))) (pw_or1 (pt_cmpR op_ne (pe_callB call_len_seq (by rfl) T.len (by decide +kernel) (pa_cons (pv 1) pa_nil)) (pe_callB call_len_seq (by rfl) T.len (by decide +kernel) (pa_cons (pv 0) pa_nil)) (nomark _))))) (pss_one (ps_ret (pe_tup (pa_cons pe_str pa_nil)))) pss_nil) (pss_cons (ps_set (i := 2) sc_arrangement_fault.nd rfl (by first | exact Or.inl rfl | exact Or.inr rfl) (pe_c c_first_fault (hr.mono (by decide)) (pa_cons pe_str (pa_cons (pe_lc (own := [("person", 3)]) rfl sc_arrangement_fault.nd (pi_tup (pv 1)) (blkOk_by (own := [("person", 3)]) (N := ["chart", "value", "reason", "person", "post"]) (sc := defScope (top 23)) (by decide +kernel)) (fun _ _ _ _ _ => (pg_name (i := 3) sc_arrangement_fault.nd rfl (by first | exact Or.inl rfl | exact Or.inr rfl))) (fun _ _ _ _ _ => pts_nil) (fun _ _ _ _ _ => (pe_and (pe_cmp (pc_notN (pv 3))) (pe_one (pe_not (pe_c c_is_person (hr.mono (by decide)) (pa_cons (pv 3) pa_nil))))))) pa_nil)))) (pss_cons (ps_if (pt_cmp (pc_notN (pv 2))) (pss_one (ps_ret (pv 2))) pss_nil) (pss_cons (ps_set (i := 2) sc_arrangement_fault.nd rfl (by first | exact Or.inl rfl | exact Or.inr rfl) (pe_c c_first_fault (hr.mono (by decide)) (pa_cons pe_str (pa_cons (pe_c c_repeats (hr.mono (by decide)) (pa_cons (pv 1) pa_nil)) pa_nil)))) (pss_cons (ps_if (pt_cmp (pc_notN (pv 2))) (pss_one (ps_ret (pv 2))) pss_nil) (pss_one (ps_ret (pe_c c_first_fault (hr.mono (by decide)) (pa_cons pe_str (pa_cons (pe_lc (own := [("post", 4)]) rfl sc_arrangement_fault.nd (pi_range1 (by rfl) T.range (pa_cons (pe_callB call_len_seq (by rfl) T.len (by decide +kernel) (pa_cons (pv 0) pa_nil)) pa_nil)) (blkOk_by (own := [("post", 4)]) (N := ["chart", "value", "reason", "person", "post"]) (sc := defScope (top 23)) (by decide +kernel)) (fun _ _ _ _ _ => (pg_name (i := 4) sc_arrangement_fault.nd rfl (by first | exact Or.inl rfl | exact Or.inr rfl))) (fun _ _ _ _ _ => pts_nil) (fun _ _ _ _ _ => (pe_c c_is_out_of_order (hr.mono (by decide)) (pa_cons (pv 0) (pa_cons (pv 1) (pa_cons (pv 4) pa_nil)))))) pa_nil)))))))))), ?_⟩
    refine ⟨_, rfl, _, _, .type "tuple", .type "tuple", true, rfl, .ty _, .base (.tup ha.v), kit_ty (by decide +kernel), _, rfl, iteF ?_⟩
    refine ⟨_, rfl, v, _, rfl, .inr (sqT ha.v), _, rfl, a, _, rfl, .inr (sqT ha.c.1), rfl, _, rfl, ifF ?_ ?_⟩
    · rw [tab_len, tab_len, decide_eq_true rfl]; rfl
    refine ⟨_, rfl, v, rfl, ⟨_, sqT ha.v⟩, fun l hl => lc_tup (xs := tab n (rV r)) (fun i H' => Same H H' ∧ H' l = some (.lst (fls i))) ⟨same_new hl, upd_same⟩ (fun i H' _ h => tupS h.1 ha.v) ?_ ?_⟩
    · rintro i x H' hx ⟨sm, hl2⟩
      obtain ⟨hi, rfl⟩ := tab_some hx
      have fin : ∃ acc, H' l = some (.lst acc) ∧ acc.length < sizeLine ∧ Same H (upd H' l (.lst (acc ++ [V.bl false]))) ∧ upd H' l (.lst (acc ++ [V.bl false])) l = some (.lst (fls (i + 1))) :=
        ⟨_, hl2, szlt (by rw [fls, tab_len]; omega), same_mut sm hl, by rw [upd_same]; exact congrArg (fun z => some (HO.lst z)) tab_snoc⟩
      refine ⟨rfl, yes (iteT ⟨_, rfl, _, rfl, ?_⟩)⟩
      show if (!decide (oV (r i) = V.non)) = true then _ else _
      rw [oV_non]
      cases q : r i with
      | none => exact iteF fin
      | some x =>
        refine iteT ⟨_, rfl, some x, congrArg (fun o => [oV o]) q, _, rfl, ?_⟩
        have e : whole (some x) = true := decide_eq_true (ha.ar.nn _ _ q)
        rw [e]
        exact fin
    rw [tab_len]
    rintro H1 ⟨s1, hl1⟩
    refine ⟨_, l, n, rfl, hl1, fun H2 s2 => ?_⟩
    have s12 := s1.trans s2
    refine ⟨_, rfl, _, rfl, ifF (by simp) ?_⟩
    refine ⟨_, rfl, v, n, r, rfl, ha.v.same s12, hn, ha.ar.inj, fun H3 l2 s3 hl2 => ⟨_, l2, n, rfl, hl2, fun H4 s4 => ?_⟩⟩
    have s14 := (s12.trans s3).trans s4
    refine ⟨_, rfl, _, rfl, ifF (by simp) ?_⟩
    refine ⟨_, rfl, a, _, rfl, .inr (tupS s14 ha.c.1), ?_⟩
    rw [tab_len]
    refine ⟨n, rfl, by omega, by omega, fun D hD => ?_⟩
    have e0 : ((n : Int)).toNat = n := by omega
    rw [e0]
    refine lc_range (fun i H' => Same H4 H' ∧ H' D = some (.lst (fls i))) ⟨same_new hD, upd_same⟩ ?_ ?_
    · rintro i H' hi ⟨sm, hl⟩
      have A' := ha.same (s14.trans sm)
      refine ⟨rfl, yes (iteT ⟨_, rfl, _, rfl, _, rfl, a, v, n, up, r, i, by rw [Int.zero_add]; rfl, A'.c, A'.v, A'.ar, hi, ?_⟩)⟩
      exact ⟨_, hl, szlt (by rw [fls, tab_len]; omega), same_mut sm hD, by rw [upd_same]; exact congrArg (fun z => some (HO.lst z)) tab_snoc⟩
    · rintro H' ⟨sm, hl⟩
      exact ⟨_, D, n, rfl, hl, fun H5 s5 => k _ ((s14.trans sm).trans s5)⟩
theorem sc_check_arrangement : FnScope ["chart", "value"] ["chart", "value"] (defScope (top 24)) := ⟨rfl, rfl, rfl, by decide +kernel, rfl, by decide +kernel, by decide +kernel⟩
theorem cl_check_arrangement (D : Df K mg "check_arrangement" (top 24)) (c_require_chart : Cl P w K mg base "require_chart" 3 ["chart"] spChart) (c_arrangement_fault : Cl P w K mg base "arrangement_fault" 3 ["chart", "value"] spArr) : Cl P w K mg base "check_arrangement" 4 ["chart", "value"] spArr := by
  refine D.cl (fun f fd F => F.ok sc_check_arrangement (fun vs H Q E h => ?_) (fun cdv A outer s H vs Q E hr h => ?_)) (fun _ _ _ _ _ _ us hl => match us, hl with | [_, _], _ => rfl)
  · obtain ⟨_, _, _, _, _, rfl, _⟩ := h
    rfl
  · obtain ⟨a, v, n, up, r, rfl, ha, k⟩ := h
    refine ⟨_, (pss_cons (ps_expr (pe_c c_require_chart (hr.mono (by decide)) (pa_cons (pv 0) pa_nil))) (pss_one (ps_ret (pe_c c_arrangement_fault (hr.mono (by decide)) (pa_cons (pv 0) (pa_cons (pv 1) pa_nil)))))), ?_⟩
    exact ⟨_, rfl, a, n, up, rfl, ha.c, fun H1 s1 => ⟨_, rfl, _, rfl, a, v, n, up, r, rfl, ha.same s1, fun H2 s2 => k _ (s1.trans s2)⟩⟩
theorem sc_require_arrangement : FnScope ["chart", "arrangement", "reason"] ["chart", "arrangement"] (defScope (top 25)) := ⟨rfl, rfl, rfl, by decide +kernel, rfl, by decide +kernel, by decide +kernel⟩
theorem cl_require_arrangement (D : Df K mg "require_arrangement" (top 25)) (c_arrangement_fault : Cl P w K mg base "arrangement_fault" 3 ["chart", "value"] spArr) : Cl P w K mg base "require_arrangement" 4 ["chart", "arrangement"] spArr := by
  refine D.cl (fun f fd F => F.ok sc_require_arrangement (fun vs H Q E h => ?_) (fun cdv A outer s H vs Q E hr h => ?_)) (fun _ _ _ _ _ _ us hl => match us, hl with | [_, _], _ => rfl)
  · obtain ⟨_, _, _, _, _, rfl, _⟩ := h
    rfl
  · obtain ⟨a, v, n, up, r, rfl, ha, k⟩ := h
    refine ⟨_, (pss_cons (ps_set (i := 2) sc_require_arrangement.nd rfl (by first | exact Or.inl rfl | exact Or.inr rfl) (pe_c c_arrangement_fault (hr.mono (by decide)) (pa_cons (pv 0) (pa_cons (pv 1) pa_nil)))) (pss_one (ps_if (pt_cmp (pc_notN (pv 2))) (pss_one ps_never) pss_nil))), ?_⟩
    exact ⟨_, rfl, _, rfl, a, v, n, up, r, rfl, ha, fun H1 s1 => ⟨_, rfl, _, rfl, ifF (by simp) (k _ s1)⟩⟩
end
end Mu


/-! posts_of_people, require_holder, require_people, is_open. -/
namespace Mu
open PySem L2 PyProof.Rows PySem.SeqAt Mv
/-! ### rules in a comprehension: what is known of the module is named from outside -/
section
variable {X : Cx} {K : PySem.W.Frag}
theorem pg_tupK {pos : Pos} {es : List Expr} {k : Nat} {t : TGs} {n : Nat} (hK : X.K = K) (hc : X.calm = true) (h : PGs X es t)
    (hn : (assignEach es X.env).length = n := by rfl) (hst : (assignEach es X.env).findIdx? (·.1) = none := by rfl) : PG X (.Tuple es k pos) (gTup K n t) := by
  subst hK
  exact pg_tup hc h hn hst
theorem ix_listK (hK : X.K = K) : IxR X (rIxL K) := by subst hK; exact ix_list
theorem ix_tupK (hK : X.K = K) : IxR X (rIxT K) := by subst hK; exact ix_tup
theorem op_inK (hK : X.K = K) : OpR X (compareOp .In) (rIn K false) := by subst hK; exact op_in_seq
theorem op_notInK (hK : X.K = K) : OpR X (compareOp .NotIn) (rIn K true) := by subst hK; exact op_notIn_seq
def rLenK (K : PySem.W.Frag) : List V → Hp → VK → Prop := fun xs H Q => ∃ p ys, xs = [.ref p] ∧ (SqL K H p ys ∨ SqT K H p ys) ∧ Q (.int ys.length) H
theorem call_lenK (hK : X.K = K) : CallR X (.builtin "len") (rLenK K) := by subst hK; exact call_len_seq
theorem mt_indexK (hK : X.K = K) : MtR X "list.index" (rIndex K) := by subst hK; exact mt_index
theorem pe_bmK {o e : Expr} {es : List Expr} {to : TE} {t : TA} {name : Str} {apos cpos : Pos} {T id : String} {r : V → List V → Hp → VK → Prop} (hK : X.K = K) (pa : PlainAttrs T) (slot : Slot T name id) (hty : typeOf (.builtin id) = pure (.type "method_descriptor")) (hm : MtR X id r) (ho : PE X o to) (ha : PA X (e :: es) t)
    (hbase : attributeBase o name X.env (eval o X.env) = eval o X.env := by rfl)
    (hfew : ((backTo cpos (starEach (e :: es) X.env)).all (fun x => !x.1) && (backToKw cpos (keywordEach [] X.env)).all (fun x => x.1.isSome)
      && decide ((e :: es).length + ([] : List Keyword).length + (if ([] : List Keyword).isEmpty then 0 else 1) < 30)) = true := by rfl)
    (hline : (apos.endLine == cpos.line) = true := by rfl) (hs : starEach (e :: es) X.env = (false, eval e X.env) :: starEach es X.env := by rfl) (hplain : (backTo cpos (starEach es X.env)).any (·.1) = false := by rfl) :
    PE X (.Call (.Attribute o name apos) (e :: es) [] cpos) (tBM K T r to t) := by
  subst hK
  exact pe_bm pa slot hty hm ho ha hbase hfew hline hs hplain
theorem pe_ngetK {o i : Expr} {pos : Pos} {td ty : TE} {P : Program} {w : World} (hP : X.prog = P) (hw : X.w = w) (ho : PE X o td) (hi : PE X i ty) (hs : NoSl i) : PE X (.Subscript o i pos) (tNGet P w td ty) := by
  subst hP hw
  exact pe_nget ho hi hs
theorem pe_fldK {e : Expr} {f : Str} {pos : Pos} {ta : TE} (hK : X.K = K) (he : PE X e ta) (hb : attributeBase e f X.env (eval e X.env) = eval e X.env) : PE X (.Attribute e f pos) (tFld K ta f) := by
  subst hK
  exact pe_fld he hb
end
theorem eqV_o {o : Option Int} {x : Int} : eqV (oV o) (.int x) = decide (o = some x) := by
  cases o with
  | none => exact (decide_eq_false (by intro z; cases z)).symm
  | some y =>
    show (y == x) = _
    by_cases h : y = x
    · rw [h]; simp
    · rw [decide_eq_false (by intro z; injection z with z; exact h z)]; simpa using h
theorem inV_tab {n : Nat} {r : Rw} {x : Int} : inV (.int x) (tab n (rV r)) = true ↔ ∃ k, k < n ∧ r k = some x := by
  unfold inV tab
  rw [List.any_map, List.any_eq_true]
  constructor
  · rintro ⟨k, hk, h⟩
    have h2 : eqV (oV (r k)) (.int x) = true := h
    rw [eqV_o] at h2
    exact ⟨k, List.mem_range.mp hk, of_decide_eq_true h2⟩
  · rintro ⟨k, hk, h⟩
    refine ⟨k, List.mem_range.mpr hk, ?_⟩
    show eqV (oV (r k)) (.int x) = true
    rw [eqV_o, h]
    exact decide_eq_true rfl
theorem inV_ints {xs : List Int} {x : Int} : inV (.int x) (xs.map V.int) = true ↔ x ∈ xs := by
  unfold inV
  rw [List.any_map, List.any_eq_true]
  constructor
  · rintro ⟨k, hk, h⟩
    have h2 : (k == x) = true := h
    rw [← (by simpa using h2 : k = x)]
    exact hk
  · intro h
    refine ⟨x, h, ?_⟩
    show (x == x) = true
    simp
theorem rows_flat {n : Nat} {r : Rw} : (tab n (rV r)).all flatV = true := tab_all fun k => rV_flat r k
theorem ints_flat {xs : List Int} : (xs.map V.int).all flatV = true := by
  rw [List.all_map]
  exact List.all_eq_true.mpr fun _ _ => rfl
section
variable {P : Program} {w : World} {K : PySem.W.Frag} {mg : Str → Option Value} {base : Heap} {C : Addr}
/-- where everybody is -/
def spWhere : Sp := fun vs H Q _ => ∃ v n r, vs = [V.ref v] ∧ RAt H v n r ∧ n ≤ 60 ∧ (∀ j k x, r j = some x → r k = some x → j = k) ∧
  ∀ H' d kvs, Same H H' → H d = none → H' d = some (.dK kvs) → (∀ x k, k < n → r k = some x → valV kvs (Sum.inl x) = some (nV k)) → Q (.ref d) H'
theorem sc_posts_of_people : FnScope ["arrangement", "post", "person"] ["arrangement"] (defScope (top 26)) := ⟨rfl, rfl, rfl, by decide +kernel, rfl, by decide +kernel, by decide +kernel⟩
theorem cl_posts_of_people (D : Df K mg "posts_of_people" (top 26)) (T : Bt mg) : Cl P w K mg base "posts_of_people" 1 ["arrangement"] spWhere := by
  refine D.cl (fun f fd F => F.ok sc_posts_of_people (fun vs H Q E h => ?_) (fun cdv A outer s H vs Q E hr h => ?_)) (fun _ _ _ _ _ _ us hl => match us, hl with | [_], _ => rfl)
  · obtain ⟨_, _, _, rfl, _⟩ := h
    rfl
  · obtain ⟨v, n, r, rfl, hv, hn, inj, k⟩ := h
    refine ⟨_, (pss_one (ps_ret (pe_dc (own := [("post", 1), ("person", 2)]) rfl sc_posts_of_people.nd (pi_enumT (by rfl) T.enumerate (pa_cons (pv 0) pa_nil)) (blkOk_by (own := [("post", 1), ("person", 2)]) (N := ["arrangement", "post", "person"]) (sc := defScope (top 26)) (by decide +kernel)) (fun _ _ _ _ _ => (pg_tupK (K := K) (n := 2) rfl rfl (pgs_cons (pg_name (i := 1) sc_posts_of_people.nd rfl (by first | exact Or.inl rfl | exact Or.inr rfl)) (pgs_cons (pg_name (i := 2) sc_posts_of_people.nd rfl (by first | exact Or.inl rfl | exact Or.inr rfl)) pgs_nil)))) (fun _ _ _ _ _ => (pts_one (pt_cmp (pc_notN (pv 2))))) (fun _ _ _ _ _ => (pv 2)) (fun _ _ _ _ _ => (pv 1))))), ?_⟩
    refine ⟨_, rfl, v, _, rfl, sqT hv, fun d hd => dc_enumT (xs := tab n (rV r)) (fun i H' => Same H H' ∧ ∃ kvs : List (Key × V), H' d = some (.dK kvs) ∧ kvs.length ≤ i ∧ (∀ x k, k < i → r k = some x → valV kvs (Sum.inl x) = some (nV k))) ?_ ?_ ?_ ?_⟩
    · exact ⟨same_new hd, [], upd_same, Nat.le_refl _, fun x k hk => by omega⟩
    · exact fun i H' _ h => tupS h.1 hv
    · rintro i x T' H' hx ⟨sm, kvs, h1, h2, h3⟩ hT
      obtain ⟨hi, rfl⟩ := tab_some hx
      have sm2 : Same H (upd H' T' (.tup [V.int (i : Nat), rV r i])) := sm.trans (same_new hT)
      have h1' : upd H' T' (.tup [V.int (i : Nat), rV r i]) d = some (.dK kvs) := same_new hT _ _ h1
      refine ⟨T', _, rfl, sqT upd_same, rfl, _, _, rfl, _, _, rfl, rfl, rfl, _, rfl, _, rfl, ?_⟩
      show if (!decide (oV (r i) = V.non)) = true then _ else _
      rw [oV_non]
      cases q : r i with
      | none =>
        refine iteF ⟨sm2, kvs, h1', by omega, fun x k hk hxx => ?_⟩
        refine h3 x k ?_ hxx
        rcases Nat.lt_or_ge k i with z | z
        · exact z
        · have e : k = i := by omega
          rw [e, q] at hxx; cases hxx
      | some x =>
        refine iteT ⟨_, rfl, _, rfl, kvs, Sum.inl x, congrArg oV q, h1', szlt (by omega), same_mut sm2 hd, _, upd_same, Nat.le_trans (length_putK _ _ _) (by omega), fun y k hk hy => ?_⟩
        rw [valV_put]
        by_cases e : k = i
        · subst e
          rw [q] at hy
          injection hy with hy
          rw [if_pos (by rw [hy])]
          rfl
        · rw [if_neg]
          · exact h3 y k (by omega) hy
          · intro z
            injection z with z
            rw [z, ← q] at hy
            exact e (inj k i x (by rw [hy, q]) q)
    · rintro H' ⟨sm, kvs, h1, h2, h3⟩
      rw [tab_len] at h3
      exact k _ _ _ sm hd h1 h3
def spHolder : Sp := fun vs H Q _ => ∃ v n r x, vs = [V.ref v, V.int x] ∧ RAt H v n r ∧ 0 ≤ x ∧ (∃ k, k < n ∧ r k = some x) ∧ Q .non H
theorem sc_require_holder : FnScope ["arrangement", "person"] ["arrangement", "person"] (defScope (top 27)) := ⟨rfl, rfl, rfl, by decide +kernel, rfl, by decide +kernel, by decide +kernel⟩
theorem cl_require_holder (D : Df K mg "require_holder" (top 27)) (c_is_person : Cl P w K mg base "is_person" 2 ["value"] spWhole) : Cl P w K mg base "require_holder" 3 ["arrangement", "person"] spHolder := by
  refine D.cl (fun f fd F => F.ok sc_require_holder (fun vs H Q E h => ?_) (fun cdv A outer s H vs Q E hr h => ?_)) (fun _ _ _ _ _ _ us hl => match us, hl with | [_, _], _ => rfl)
  · obtain ⟨_, _, _, _, rfl, _⟩ := h
    rfl
  · obtain ⟨v, n, r, x, rfl, hv, hx, hh, k⟩ := h
    refine ⟨_, (pss_one (ps_if (PW.pt (pw_or (pt_not (pt_val (pe_c c_is_person (hr.mono (by decide)) (pa_cons (pv 1) pa_nil)))) (pw_or1 (pt_cmpR op_notIn_seq (pv 1) (pv 0) (by rfl))))) (pss_one ps_never) pss_nil)), ?_⟩
    refine ⟨_, rfl, some x, rfl, _, rfl, ifF (by show (!decide (0 ≤ x)) = false; rw [decide_eq_true hx]; rfl) ?_⟩
    refine ⟨_, rfl, _, rfl, v, _, rfl, .inr (sqT hv), rfl, rows_flat, _, rfl, ifF (by show (!inV (.int x) (tab n (rV r))) = false; rw [inV_tab.mpr hh]; rfl) k⟩
/-- people of the arrangement, nobody twice -/
def spPeople : Sp := fun vs H Q _ => ∃ (v l : Addr) (n : Nat) (r : Rw) (xs : List Int), vs = [V.ref v, V.ref l] ∧ RAt H v n r ∧ H l = some (.lst (xs.map V.int)) ∧ (∀ x ∈ xs, 0 ≤ x ∧ ∃ k, k < n ∧ r k = some x) ∧ xs.Nodup ∧ xs.length ≤ 1000 ∧ ∀ H', Same H H' → Q .non H'
theorem sc_require_people : FnScope ["arrangement", "people", "seen", "index", "person"] ["arrangement", "people"] (defScope (top 28)) := ⟨rfl, rfl, rfl, by decide +kernel, rfl, by decide +kernel, by decide +kernel⟩
theorem cl_require_people (D : Df K mg "require_people" (top 28)) (T : Bt mg) (c_is_person : Cl P w K mg base "is_person" 2 ["value"] spWhole) : Cl P w K mg base "require_people" 3 ["arrangement", "people"] spPeople := by
  refine D.cl (fun f fd F => F.ok sc_require_people (fun vs H Q E h => ?_) (fun cdv A outer s H vs Q E hr h => ?_)) (fun _ _ _ _ _ _ us hl => match us, hl with | [_, _], _ => rfl)
  · obtain ⟨_, _, _, _, _, rfl, _⟩ := h
    rfl
  · obtain ⟨v, l, n, r, xs, rfl, hv, hl, hh, nd, hz, k⟩ := h
    refine ⟨_, (pss_cons (ps_if (pt_not (pt_val (pe_callB call_isi (by rfl) T.isinstance (by decide +kernel) (pa_cons (pv 1) (pa_cons (pe_bltn (v := .ty "list") (by rfl) T.list (by decide +kernel) rfl) pa_nil))))) (pss_one ps_never) pss_nil) (pss_cons (ps_set (i := 2) sc_require_people.nd rfl (by first | exact Or.inl rfl | exact Or.inr rfl) (pe_lst pa_nil)) (pss_one (ps_for PassesOwn.never rfl (pi_enum (by rfl) T.enumerate (pa_cons (pv 1) pa_nil)) (pg_tup rfl (pgs_cons (pg_name (i := 3) sc_require_people.nd rfl (by first | exact Or.inl rfl | exact Or.inr rfl)) (pgs_cons (pg_name (i := 4) sc_require_people.nd rfl (by first | exact Or.inl rfl | exact Or.inr rfl)) pgs_nil))) (pss_cons (ps_if (PW.pt (pw_or (pt_not (pt_val (pe_c c_is_person (hr.mono (by decide)) (pa_cons (pv 4) pa_nil)))) (pw_or (pt_cmpR op_in_seq (pv 4) (pv 2) (by rfl)) (pw_or1 (pt_cmpR op_notIn_seq (pv 4) (pv 0) (by rfl)))))) (pss_one ps_never) pss_nil) (pss_one (ps_expr (pe_bm PySem.F.plainAttrs_list PySem.F.slot_list_append PySem.F.type_list_append mt_append (pv 2) (pa_cons (pv 4) pa_nil))))))))), ?_⟩
    refine ⟨_, rfl, _, _, .type "list", .type "list", true, rfl, .ty _, .base (.lst hl), kit_ty (by decide +kernel), _, rfl, iteF ?_⟩
    refine ⟨Nat.zero_le _, fun b hb => ?_⟩
    refine ⟨_, rfl, l, _, rfl, lstS (same_new hb) hl, for_enumL (xs := xs.map V.int) (fun i σ H' => (∃ x1 x2, σ = [some (.ref v), some (.ref l), some (.ref b), x1, x2]) ∧ Same H H' ∧ H' b = some (.lst ((xs.take i).map V.int))) ?_ ?_ ?_ ?_⟩
    · exact ⟨⟨_, _, rfl⟩, same_new hb, upd_same⟩
    · exact fun i σ H' _ h => lstS h.2.1 hl
    · rintro i y T' σ H' hx ⟨⟨x1, x2, rfl⟩, sm, hb2⟩ hT
      rw [List.getElem?_map] at hx
      obtain ⟨x, hx2, rfl⟩ := Option.map_eq_some_iff.mp hx
      clear hx
      have hx := hx2
      obtain ⟨hi, hxe⟩ := List.getElem?_eq_some_iff.mp hx
      obtain ⟨g1, g2⟩ := hh x (List.mem_of_getElem? hx)
      have sm2 : Same H (upd H' T' (.tup [V.int (i : Nat), .int x])) := sm.trans (same_new hT)
      have hb3 : upd H' T' (.tup [V.int (i : Nat), .int x]) b = some (.lst ((xs.take i).map V.int)) := same_new hT _ _ hb2
      refine ⟨T', _, rfl, sqT upd_same, rfl, _, _, rfl, _, _, rfl, rfl, ?_⟩
      refine ⟨_, rfl, some x, rfl, _, rfl, ifF (by show (!decide (0 ≤ x)) = false; rw [decide_eq_true g1]; rfl) ?_⟩
      have ni : inV (.int x) ((xs.take i).map V.int) = false := by
        refine Bool.eq_false_iff.mpr fun z => ?_
        obtain ⟨j, hj⟩ := List.mem_iff_getElem?.mp (inV_ints.mp z)
        have hj2 : j < i := by
          have := (List.getElem?_eq_some_iff.mp hj).1
          rw [List.length_take] at this
          omega
        rw [List.getElem?_take, if_pos hj2] at hj
        have := nd_inj nd hj hx
        omega
      refine ⟨_, rfl, _, rfl, b, _, rfl, .inl (sqL hb3), rfl, ints_flat, _, rfl, ifF ni ?_⟩
      refine ⟨_, rfl, _, rfl, v, _, rfl, .inr (tupS sm2 hv), rfl, rows_flat, _, rfl, ifF (by show (!inV (.int x) (tab n (rV r))) = false; rw [inV_tab.mpr g2]; rfl) ?_⟩
      refine ⟨_, rfl, .inl ⟨rfl, _, sqL hb3⟩, _, rfl, b, _, _, rfl, rfl, hb3, szlt (by rw [List.length_map, List.length_take]; omega), ⟨_, _, rfl⟩, same_mut sm2 hb, ?_⟩
      rw [upd_same, List.take_succ, hx, List.map_append]
      rfl
    · rintro σ H' ⟨_, sm, _⟩
      exact k _ sm
def spOpen (C : Addr) : Sp := fun vs H Q _ => ∃ t as v n up r p, vs = [V.ref t, V.ref v, nV p] ∧ TAt C H as t n up ∧ RAt H v n r ∧ p < n ∧ Q (.bl (opn up r p)) H
theorem sc_is_open : FnScope ["tree", "rows", "post"] ["tree", "rows", "post"] (defScope (top 29)) := ⟨rfl, rfl, rfl, by decide +kernel, rfl, by decide +kernel, by decide +kernel⟩
theorem cl_is_open (D : Df K mg "is_open" (top 29)) (tc : TC K mg C) : Cl P w K mg base "is_open" 1 ["tree", "rows", "post"] (spOpen C) := by
  refine D.cl (fun f fd F => F.ok sc_is_open (fun vs H Q E h => ?_) (fun cdv A outer s H vs Q E hr h => ?_)) (fun _ _ _ _ _ _ us hl => match us, hl with | [_, _, _], _ => rfl)
  · obtain ⟨_, _, _, _, _, _, _, rfl, _⟩ := h
    rfl
  · obtain ⟨t, as, v, n, up, r, p, rfl, ht, hv, hp, k⟩ := h
    obtain ⟨dx, a, b, bs, -, t1, t2, -⟩ := ht.tr.ex
    refine ⟨_, (pss_one (ps_ret (pe_and (pe_cmp (pc_isN (pe_ix ix_tup (pv 1) (pv 2) (fun _ _ => rfl)))) (pe_one (pe_or (pe_cmpR op_eq (pv 2) pe_int (nomark _)) (pe_one (pe_cmp (pc_notN (pe_ix ix_tup (pv 1) (pe_ix ix_tup (pe_fld (pv 0) rfl) (pv 2) (fun _ _ => rfl)) (fun _ _ => rfl)))))))))), ?_⟩
    refine ⟨_, rfl, _, rfl, v, _, (p : Int), _, rfl, rfl, sqT hv, at_tab hp, _, rfl, ?_⟩
    show if decide (oV (r p) = V.non) = true then _ else _
    rw [oV_non]
    unfold opn at k
    cases q : r p with
    | some x => rw [q] at k; exact iteF k
    | none =>
      rw [q] at k
      refine iteT ⟨_, rfl, rfl, _, rfl, ?_⟩
      by_cases h0 : p = 0
      · subst h0
        exact ifT (decide_eq_true rfl) k
      · refine ifF (decide_eq_false (by intro z; injection z with z; omega)) ?_
        have hu := ht.ch.lt p (by omega)
        refine ⟨_, rfl, _, rfl, t, C, dx, _, _, rfl, t1, tc.cl, tc.nA, tF_above a b, _, rfl, a, _, (p : Int), nV (up p), rfl, rfl, sqT t2, by rw [at_tab hp, cV_pos (by omega)], v, _, (up p : Int), _, rfl, rfl, sqT hv, at_tab (by omega), ?_⟩
        rw [decide_eq_false h0] at k
        show Q (.bl (!decide (oV (r (up p)) = V.non))) H
        rw [oV_non, Option.not_isNone]
        exact k
end
end Mu


/-! move_up, leave_one. -/
namespace Mu
open PySem L2 PyProof.Rows PySem.SeqAt Mv
/-- the pairs (holder, post) of the posts ls -/
structure Ps (r : Rw) (H : Hp) (ts : List Addr) (ls : List Nat) : Prop where
  len : ts.length = ls.length
  at_ : ∀ (j : Nat) (t : Addr) (l : Nat), ts[j]? = some t → ls[j]? = some l → H t = some (.tup [rV r l, nV l])
theorem Ps.same {r : Rw} {H H' : Hp} {ts : List Addr} {ls : List Nat} (h : Ps r H ts ls) (s : Same H H') : Ps r H' ts ls := ⟨h.len, fun j t l e e2 => s _ _ (h.at_ j t l e e2)⟩
theorem Ps.upd {r : Rw} {H : Hp} {ts : List Addr} {ls : List Nat} (h : Ps r H ts ls) {D : Addr} {xs : List V} {o : HO} (hD : H D = some (.lst xs)) : Ps r (upd H D o) ts ls := by
  refine ⟨h.len, fun j t l e e2 => ?_⟩
  have := h.at_ j t l e e2
  rw [upd_ne (ne_of this hD (by intro z; cases z))]
  exact this
theorem Ps.snoc {r : Rw} {H : Hp} {ts : List Addr} {ls : List Nat} (h : Ps r H ts ls) {t : Addr} {l : Nat} (ht : H t = some (.tup [rV r l, nV l])) : Ps r H (ts ++ [t]) (ls ++ [l]) := by
  refine ⟨by simp [h.len], fun j u m e e2 => ?_⟩
  rcases getElem?_snoc e with ⟨h1, z⟩ | ⟨h1, z⟩
  · rcases getElem?_snoc e2 with ⟨h2, z2⟩ | ⟨h2, z2⟩
    · exact h.at_ j u m z z2
    · have := h.len; omega
  · rcases getElem?_snoc e2 with ⟨h2, z2⟩ | ⟨h2, z2⟩
    · have := h.len; omega
    · rw [z, z2]; exact ht
/-- those below p that are held -/
def hld (n : Nat) (up : Nat → Nat) (r : Rw) (p : Nat) : List Nat := (kids n up p).filter fun l => (r l).isSome
theorem mem_hld {n : Nat} {up : Nat → Nat} {r : Rw} {p l : Nat} : l ∈ hld n up r p ↔ (0 < l ∧ l < n ∧ up l = p) ∧ ∃ x, r l = some x := by
  unfold hld
  rw [List.mem_filter, mem_kids, Option.isSome_iff_exists]
theorem kids_len {n : Nat} {up : Nat → Nat} {p : Nat} : (kids n up p).length ≤ n := by
  refine Nat.le_trans (List.length_filter_le _ _) ?_
  rw [List.length_range]
  exact Nat.le_refl _
section
variable {P : Program} {w : World} {K : PySem.W.Frag} {mg : Str → Option Value} {base : Heap} {C : Addr}
/-- rows of people as a list at l -/
def LAt (H : Hp) (l : Addr) (n : Nat) (r : Rw) : Prop := H l = some (.lst (tab n (rV r)))
/-- what move_up has done -/
def MvR (H : Hp) (l : Addr) (n : Nat) (up : Nat → Nat) (r : Rw) (p : Nat) (v : V) (H' : Hp) : Prop :=
  (v = .non ∧ NoBest n up r p ∧ Same H H') ∨ ∃ m x, v = nV m ∧ Best n up r p m x ∧ But l H H' ∧ LAt H' l n (mvU r p m x)
def spMove (C : Addr) : Sp := fun vs H Q _ => ∃ (t l : Addr) (as : List Addr) (n : Nat) (up : Nat → Nat) (r : Rw) (p : Nat), vs = [V.ref t, V.ref l, nV p] ∧ TAt C H as t n up ∧ l ∉ as ∧ LAt H l n r ∧ p < n ∧ ∀ v H', MvR H l n up r p v H' → Q v H'
theorem sc_move_up : FnScope ["tree", "rows", "post", "held", "person", "lower"] ["tree", "rows", "post"] (defScope (top 30)) := ⟨rfl, rfl, rfl, by decide +kernel, rfl, by decide +kernel, by decide +kernel⟩
theorem cl_move_up (D : Df K mg "move_up" (top 30)) (tc : TC K mg C) (T : Bt mg) : Cl P w K mg base "move_up" 1 ["tree", "rows", "post"] (spMove C) := by
  refine D.cl (fun f fd F => F.ok sc_move_up (fun vs H Q E h => ?_) (fun cdv A outer s H vs Q E hr h => ?_)) (fun _ _ _ _ _ _ us hl => match us, hl with | [_, _, _], _ => rfl)
  · obtain ⟨_, _, _, _, _, _, _, rfl, _⟩ := h
    rfl
  · obtain ⟨t, l, as, n, up, r, p, rfl, ht, hla, hl, hp, k⟩ := h
    have k1 : NoBest n up r p → ∀ H', Same H H' → Q .non H' := fun a H' b => k _ _ (.inl ⟨rfl, a, b⟩)
    have k2 : ∀ m x, Best n up r p m x → ∀ H', But l H H' → LAt H' l n (mvU r p m x) → Q (nV m) H' := fun m x a H' b c => k _ _ (.inr ⟨m, x, rfl, a, b, c⟩)
    obtain ⟨dx, a, b, bs, -, t1, t2, t3, t4, t5⟩ := ht.tr.ex
    have hn := ht.le
    obtain ⟨c, hc⟩ : ∃ c, bs[p]? = some c := ⟨bs[p]'(by omega), List.getElem?_eq_getElem (by omega)⟩
    have hcl := t5 p c hc
    refine ⟨_, (pss_cons (ps_setLc (i := 3) (own := [("lower", 5)]) rfl sc_move_up.nd rfl rfl (sw_true rfl rfl rfl (by decide +kernel)) (pi_list (pe_ix ix_list (pe_fld (pv 0) rfl) (pv 2) (fun _ _ => rfl))) (blkOk_by (own := [("lower", 5)]) (N := ["tree", "rows", "post", "held", "person", "lower"]) (sc := defScope (top 30)) (by decide +kernel)) (fun _ _ _ _ _ => (pg_name (i := 5) sc_move_up.nd rfl (by first | exact Or.inl rfl | exact Or.inr rfl))) (fun _ _ _ _ _ => (pts_one (pt_cmp (pc_notN (pe_ix (ix_listK (K := K) rfl) (pv 1) (pv 5) (fun _ _ => rfl)))))) (fun _ _ _ _ _ => (pe_tup (pa_cons (pe_ix (ix_listK (K := K) rfl) (pv 1) (pv 5) (fun _ _ => rfl)) (pa_cons (pv 5) pa_nil))))) (pss_cons (ps_if (pt_cmpR (op_eqE hr.units0) (pv 3) (pe_lst pa_nil) (nomark _)) (pss_one (ps_ret pe_non)) pss_nil) (pss_cons (ps_asg (pe_callB (cr_minP rfl (hu_of hr)) (by rfl) T.min (by decide +kernel) (pa_cons (pv 3) pa_nil)) (pg_tup rfl (pgs_cons (pg_name (i := 4) sc_move_up.nd rfl (by first | exact Or.inl rfl | exact Or.inr rfl)) (pgs_cons (pg_name (i := 5) sc_move_up.nd rfl (by first | exact Or.inl rfl | exact Or.inr rfl)) pgs_nil)))) (pss_cons (ps_asg (pe_tup (pa_cons (pv 4) (pa_cons pe_non pa_nil))) (pg_tup rfl (pgs_cons (pg_sub (pv 1) (pv 2) set_list) (pgs_cons (pg_sub (pv 1) (pv 5) set_list) pgs_nil)))) (pss_one (ps_ret (pv 5))))))), ?_⟩
    refine ⟨_, rfl, t, C, dx, _, _, rfl, t1, tc.cl, tc.nB, tF_below a b, _, rfl, b, bs.map V.ref, (p : Int), .ref c, rfl, rfl, sqL t3, atI_nat (by rw [List.getElem?_map, hc]; rfl), c, rfl, ⟨_, sqL hcl⟩, fun D hD =>
      lc_list (xs := (kids n up p).map nV) (fun i H' => Same H H' ∧ ∃ ts : List Addr, H' D = some (.lst (ts.map V.ref)) ∧ Ps r H' ts (((kids n up p).take i).filter fun l => (r l).isSome)) ⟨same_new hD, [], upd_same, rfl, fun j t l e => by cases e⟩ (fun i H' _ h => lstS h.1 hcl) ?_ ?_⟩
    · rintro i x H' hx ⟨sm, ts, hD2, ps⟩
      rw [List.getElem?_map] at hx
      obtain ⟨m, hm, rfl⟩ := Option.map_eq_some_iff.mp hx
      have hmn : m < n := (mem_kids.mp (List.mem_of_getElem? hm)).2.1
      have htk : ((kids n up p).take (i + 1)).filter (fun l => (r l).isSome) = ((kids n up p).take i).filter (fun l => (r l).isSome) ++ (if (r m).isSome = true then [m] else []) := by
        rw [List.take_succ, hm, List.filter_append]
        congr 1
        by_cases e : (r m).isSome = true
        · simp [e]
        · simp [e]
      refine ⟨rfl, _, rfl, _, rfl, l, _, (m : Int), rV r m, rfl, rfl, lstS sm hl, at_tab hmn, _, rfl, ?_⟩
      show if (!decide (oV (r m) = V.non)) = true then _ else _
      rw [oV_non, Option.not_isNone]
      by_cases e : (r m).isSome = true
      · rw [if_pos e] at htk
        rw [htk]
        refine ifT e ⟨_, rfl, _, rfl, l, _, (m : Int), rV r m, rfl, rfl, lstS sm hl, at_tab hmn, _, rfl, szle (by show 2 ≤ 100000; decide), fun u hu => ⟨_, same_new hu _ _ hD2, ?_, same_mut (sm.trans (same_new hu)) hD, ts ++ [u], ?_, ?_⟩⟩
        · rw [List.length_map, ps.len]
          refine szlt (Nat.lt_of_le_of_lt (List.length_filter_le _ _) ?_)
          rw [List.length_take]
          have := kids_len (n := n) (up := up) (p := p)
          omega
        · rw [upd_same, List.map_append]; rfl
        · exact ((ps.same (same_new hu)).snoc upd_same).upd (same_new hu _ _ hD2)
      · rw [if_neg e, List.append_nil] at htk
        rw [htk]
        exact ifF (by simpa using e) ⟨sm, ts, hD2, ps⟩
    · rintro H1 ⟨s1, ts, hD1, ps⟩
      rw [List.length_map, List.take_length] at ps
      have ps' : Ps r H1 ts (hld n up r p) := ps
      refine ⟨_, rfl, szle (by show 0 ≤ 100000; decide), fun q hq => ⟨D, q, _, rfl, rfl, .inl ⟨sqL (same_new hq _ _ hD1), sqL upd_same⟩, _, rfl, ?_⟩⟩
      have s2 : Same H (upd H1 q (.lst [])) := s1.trans (same_new hq)
      cases ts with
      | nil =>
        refine iteT (k1 (fun m h1 h2 h3 => ?_) _ s2)
        cases e : r m with
        | none => rfl
        | some x =>
          have h4 : m ∈ hld n up r p := mem_hld.mpr ⟨⟨h1, h2, h3⟩, x, e⟩
          have h5 : hld n up r p = [] := List.length_eq_zero_iff.mp ps'.len.symm
          rw [h5] at h4
          cases h4
      | cons t0 ts0 =>
        have ps2 := ps'.same (same_new (o := .lst []) hq)
        refine iteF ⟨_, rfl, D, t0 :: ts0, fun i => ((hld n up r p)[i]?.bind r).getD 0, fun i => (((hld n up r p)[i]?).getD 0 : Nat), rfl, sqL (same_new hq _ _ hD1), by simp, ?_, ?_⟩
        · intro i u hu
          have hi := (List.getElem?_eq_some_iff.mp hu).1
          rw [ps2.len] at hi
          obtain ⟨m, hm⟩ : ∃ m, (hld n up r p)[i]? = some m := ⟨_, List.getElem?_eq_getElem hi⟩
          obtain ⟨_, x, hx⟩ := mem_hld.mp (List.mem_of_getElem? hm)
          have := ps2.at_ i u m hu hm
          refine sqT ?_
          rw [this]
          show some (HO.tup [oV (r m), nV m]) = _
          simp only [hm, Option.bind_some, Option.getD_some, hx]
          rfl
        · intro i u hu hmin
          have hi := (List.getElem?_eq_some_iff.mp hu).1
          rw [ps2.len] at hi
          obtain ⟨m, hm⟩ : ∃ m, (hld n up r p)[i]? = some m := ⟨_, List.getElem?_eq_getElem hi⟩
          obtain ⟨hmk, x, hx⟩ := mem_hld.mp (List.mem_of_getElem? hm)
          have hu2 := ps2.at_ i u m hu hm
          rw [show rV r m = V.int x from congrArg oV hx] at hu2
          have best : Best n up r p m x := by
            refine ⟨hmk, hx, fun m' y h1 h2 h3 h4 => ?_⟩
            obtain ⟨j, hj⟩ := List.mem_iff_getElem?.mp (mem_hld.mpr ⟨⟨h1, h2, h3⟩, y, h4⟩)
            have hjl : j < (t0 :: ts0).length := by
              rw [ps2.len]
              exact (List.getElem?_eq_some_iff.mp hj).1
            have := hmin j hjl
            simp only [hm, hj, Option.bind_some, hx, h4, Option.getD_some] at this
            exact this
          refine ⟨u, _, rfl, sqT hu2, rfl, _, _, rfl, _, _, rfl, rfl, ?_⟩
          refine ⟨_, rfl, szle (by show 2 ≤ 100000; decide), fun z hz => ?_⟩
          have s3 := s2.trans (same_new (o := .tup [V.int x, .non]) hz)
          have hl3 := s3 _ _ hl
          refine ⟨z, _, rfl, sqT upd_same, rfl, _, _, rfl, _, rfl, _, rfl, l, _, (p : Int), p, rfl, rfl, hl3, ix_tab hp, ?_⟩
          have e1 : (tab n (rV r)).set p (V.int x) = tab n (rV (Mv.st r p (some x))) := tab_st (v := some x)
          rw [e1]
          refine ⟨_, _, rfl, _, rfl, _, rfl, l, _, (m : Int), m, rfl, rfl, upd_same, ix_tab hmk.2.1, ?_⟩
          have e2 : (tab n (rV (Mv.st r p (some x)))).set m V.non = tab n (rV (mvU r p m x)) := tab_st (v := none)
          rw [e2]
          refine ⟨rfl, _, rfl, k2 m x best _ (fun g o hg ng => ?_) upd_same⟩
          rw [upd_ne ng, upd_ne ng]
          exact s3 _ _ hg
theorem idx_rows {n : Nat} {r : Rw} {k : Nat} {x : Int} (inj : ∀ j k x, r j = some x → r k = some x → j = k) (hk : k < n) (hx : r k = some x) :
    (tab n (rV r))[k]? = some (V.int x) ∧ eqV (V.int x) (V.int x) = true ∧ ∀ (m : Nat) (z : V), m < k → (tab n (rV r))[m]? = some z → eqV z (.int x) = false := by
  refine ⟨by rw [tab_get hk]; exact congrArg (fun o => some (oV o)) hx, by show (x == x) = true; simp, fun m z hm hz => ?_⟩
  obtain ⟨h1, rfl⟩ := tab_some hz
  show eqV (oV (r m)) _ = false
  rw [eqV_o]
  refine decide_eq_false fun e => ?_
  have := inj _ _ _ e hx
  omega
/-- the loop of the departures: what stands when lower has been set -/
def Lp (H0 : Hp) (t l : Addr) (x : V) (n : Nat) (up : Nat → Nat) (r0 : Rw) (k : Nat) (m : Nat) (σ : L2.St) (H' : Hp) : Prop := But l H0 H' ∧ ∃ q v, σ = [some (.ref t), some (.ref l), some x, some (nV q), some v] ∧
  ((v = .non ∧ m = 0 ∧ ∃ rr ms, LAt H' l n rr ∧ Lv n up r0 k rr q ms) ∨ ∃ rr p2, v = nV p2 ∧ LAt H' l n rr ∧ p2 < n ∧ n - p2 = m ∧ ∀ r' q' ms, Lv n up rr p2 r' q' ms → ∃ ms', Lv n up r0 k r' q' ms')
theorem Lp.of {H0 H1 H' : Hp} {t l : Addr} {x v : V} {n : Nat} {up : Nat → Nat} {r0 rr : Rw} {k pp : Nat} (c : Ch n up) (hpp : pp < n) (b : But l H0 H1) (hl : LAt H1 l n rr) (C : ∀ r' q' ms, Lv n up rr pp r' q' ms → ∃ ms', Lv n up r0 k r' q' ms')
    (h : MvR H1 l n up rr pp v H') : ∃ m, m < n - pp ∧ Lp H0 t l x n up r0 k m [some (.ref t), some (.ref l), some x, some (nV pp), some v] H' := by
  rcases h with ⟨rfl, nb, s⟩ | ⟨m, y, rfl, bb, bt, la⟩
  · obtain ⟨ms, hms⟩ := C _ _ _ (.stop nb)
    exact ⟨0, by omega, b.trans (But.of_same s), pp, .non, rfl, .inl ⟨rfl, rfl, rr, ms, s _ _ hl, hms⟩⟩
  · have h1 := bb.1
    have h2 := c.lt m h1.1
    exact ⟨n - m, by omega, b.trans bt, pp, nV m, rfl, .inr ⟨_, m, rfl, la, h1.2.1, rfl, fun r' q' ms h => C _ _ _ (.step bb h)⟩⟩
def spLeave (C : Addr) : Sp := fun vs H Q _ => ∃ (t l : Addr) (as : List Addr) (n : Nat) (up : Nat → Nat) (r : Rw) (x : Int) (k : Nat), vs = [V.ref t, V.ref l, V.int x] ∧ TAt C H as t n up ∧ l ∉ as ∧ LAt H l n r ∧ (∀ j k x, r j = some x → r k = some x → j = k) ∧ k < n ∧ r k = some x ∧
  ∀ H' r' q ms, But l H H' → LAt H' l n r' → Lv n up (Mv.st r k none) k r' q ms → Q (nV q) H'
theorem sc_leave_one : FnScope ["tree", "rows", "person", "post", "lower"] ["tree", "rows", "person"] (defScope (top 31)) := ⟨rfl, rfl, rfl, by decide +kernel, rfl, by decide +kernel, by decide +kernel⟩
theorem cl_leave_one (D : Df K mg "leave_one" (top 31)) (c_move_up : Cl P w K mg base "move_up" 1 ["tree", "rows", "post"] (spMove C)) : Cl P w K mg base "leave_one" 2 ["tree", "rows", "person"] (spLeave C) := by
  refine D.cl (fun f fd F => F.ok sc_leave_one (fun vs H Q E h => ?_) (fun cdv A outer s H vs Q E hr h => ?_)) (fun _ _ _ _ _ _ us hl => match us, hl with | [_, _, _], _ => rfl)
  · obtain ⟨_, _, _, _, _, _, _, _, rfl, _⟩ := h
    rfl
  · obtain ⟨t, l, as, n, up, r, x, k, rfl, ht, hla, hl, inj, hk, hx, kk⟩ := h
    refine ⟨_, (pss_cons (ps_set (i := 3) sc_leave_one.nd rfl (by first | exact Or.inl rfl | exact Or.inr rfl) (pe_bm PySem.F.plainAttrs_list PySem.F.slot_list_index PySem.F.type_list_index mt_index (pv 1) (pa_cons (pv 2) pa_nil))) (pss_cons (ps_asg pe_non (pg_sub (pv 1) (pv 3) set_list)) (pss_cons (ps_set (i := 4) sc_leave_one.nd rfl (by first | exact Or.inl rfl | exact Or.inr rfl) (pe_c c_move_up (hr.mono (by decide)) (pa_cons (pv 0) (pa_cons (pv 1) (pa_cons (pv 3) pa_nil))))) (pss_cons (ps_while PassesOwn.never (pt_cmp (pc_notN (pv 4))) (pss_cons (ps_set (i := 3) sc_leave_one.nd rfl (by first | exact Or.inl rfl | exact Or.inr rfl) (pv 4)) (pss_one (ps_set (i := 4) sc_leave_one.nd rfl (by first | exact Or.inl rfl | exact Or.inr rfl) (pe_c c_move_up (hr.mono (by decide)) (pa_cons (pv 0) (pa_cons (pv 1) (pa_cons (pv 3) pa_nil)))))))) (pss_one (ps_ret (pv 3))))))), ?_⟩
    obtain ⟨i1, i2, i3⟩ := idx_rows inj hk hx
    refine ⟨_, rfl, .inl ⟨rfl, _, sqL hl⟩, _, rfl, l, _, _, k, _, rfl, rfl, sqL hl, rfl, rows_flat, i1, i2, i3, ?_⟩
    refine ⟨_, rfl, _, rfl, l, _, (k : Int), k, rfl, rfl, hl, ix_tab hk, ?_⟩
    rw [show (tab n (rV r)).set k V.non = tab n (rV (Mv.st r k none)) from tab_st (v := none)]
    have b1 : But l H (upd H l (.lst (tab n (rV (Mv.st r k none))))) := But.upd
    have la1 : LAt (upd H l (.lst (tab n (rV (Mv.st r k none))))) l n (Mv.st r k none) := upd_same
    refine ⟨_, rfl, _, rfl, _, rfl, t, l, as, n, up, _, k, rfl, ht.but hla b1, hla, la1, hk, fun v H1 hv => ?_⟩
    obtain ⟨m, -, hL⟩ := Lp.of (t := t) (x := V.int x) ht.ch hk b1 la1 (r0 := Mv.st r k none) (k := k) (fun r' q' ms h => ⟨ms, h⟩) hv
    refine ⟨Lp H t l (V.int x) n up (Mv.st r k none) k, ⟨m, hL⟩, ?_⟩
    rintro m σ H2 ⟨b2, q, v, rfl, hv⟩
    refine ⟨_, rfl, _, rfl, ?_⟩
    rcases hv with ⟨rfl, -, rr, ms, la, lv⟩ | ⟨rr, p2, rfl, la, hp2, rfl, C2⟩
    · exact ifF (by simp) ⟨_, rfl, kk _ _ _ _ b2 la lv⟩
    · refine ifT (by rw [nV_ne]; rfl) ⟨fun σ' H' => ∃ m', m' < n - p2 ∧ Lp H t l (V.int x) n up (Mv.st r k none) k m' σ' H', fun _ _ h => h, ?_⟩
      exact ⟨_, rfl, _, rfl, _, rfl, _, rfl, t, l, as, n, up, rr, p2, rfl, ht.but hla b2, hla, la, hp2, fun v H3 hv => Lp.of ht.ch hp2 b2 la C2 hv⟩
end
end Mu


/-! join_one, reduced_arrangement. -/
namespace Mu
open PySem L2 PyProof.Rows PySem.SeqAt Mv
theorem cut_last {xs : List V} (h : xs ≠ []) : cutV xs none (some (-1)) = xs.dropLast := by
  have hl : 0 < xs.length := List.length_pos_iff.mpr h
  have e : HT.sIx xs.length xs.length (some (-1)) = xs.length - 1 := by
    show (if (-1 : Int) < 0 then (-1 + (xs.length : Int)).toNat else min (-1 : Int).toNat xs.length) = _
    rw [if_pos (by decide)]
    omega
  unfold cutV
  rw [e, HT.sIx_none, List.dropLast_eq_take]
  rfl
theorem wr_snoc : ∀ (ts : List (Nat × Int)) (t : Nat × Int) (r : Rw), wr (ts ++ [t]) r = Mv.st (wr ts r) t.1 (some t.2)
  | [], _, _ => rfl
  | _ :: ts, t, r => wr_snoc ts t _
theorem red_snoc {up : Nat → Nat} : ∀ (ts : List (Int × Nat)) (t : Int × Nat) (r : Rw), red up (ts ++ [t]) r = put1 up (red up ts r) t.2 t.1
  | [], _, _ => rfl
  | _ :: ts, t, r => red_snoc ts t _
section
variable {P : Program} {w : World} {K : PySem.W.Frag} {mg : Str → Option Value} {base : Heap} {C : Addr}
/-- the people above p and one more -/
def abv (up : Nat → Nat) (r : Rw) (p : Nat) (x : Int) : List Int := (pth up p).dropLast.map (fun d => (r d).getD 0) ++ [x]
def spJoin1 (C : Addr) : Sp := fun vs H Q _ => ∃ (t l : Addr) (as : List Addr) (n : Nat) (up : Nat → Nat) (r : Rw) (x : Int) (p : Nat), vs = [V.ref t, V.ref l, V.int x, nV p] ∧ TAt C H as t n up ∧ l ∉ as ∧ LAt H l n r ∧ p < n ∧ (∀ d, d ∈ (pth up p).dropLast → ∃ y, r d = some y) ∧
  ∀ (zs : List Int) H', zs.Perm (abv up r p x) → zs.Pairwise (· ≤ ·) → But l H H' → LAt H' l n (wr ((pth up p).zip zs) r) → Q .non H'
theorem sc_join_one : FnScope ["tree", "rows", "person", "post", "path", "people", "upper", "holder"] ["tree", "rows", "person", "post"] (defScope (top 32)) := ⟨rfl, rfl, rfl, by decide +kernel, rfl, by decide +kernel, by decide +kernel⟩
theorem cl_join_one (D : Df K mg "join_one" (top 32)) (T : Bt mg) (c_path : ClM P w K mg base C "path" 1 ["self", "post"] (spPath C)) : Cl P w K mg base "join_one" 2 ["tree", "rows", "person", "post"] (spJoin1 C) := by
  refine D.cl (fun f fd F => F.ok sc_join_one (fun vs H Q E h => ?_) (fun cdv A outer s H vs Q E hr h => ?_)) (fun _ _ _ _ _ _ us hl => match us, hl with | [_, _, _, _], _ => rfl)
  · obtain ⟨_, _, _, _, _, _, _, _, rfl, _⟩ := h
    rfl
  · obtain ⟨t, l, as, n, up, r, x, p, rfl, ht, hla, hl, hp, hh, k⟩ := h
    obtain ⟨dx, a, b, bs, -, t1, -⟩ := ht.tr.ex
    have hn := ht.le
    have hpl := pth_len ht.ch p
    have hpn := pth_ne ht.ch p
    refine ⟨_, (pss_cons (ps_set (i := 4) sc_join_one.nd rfl (by first | exact Or.inl rfl | exact Or.inr rfl) (pe_m c_path (hr.mono (by decide)) (pv 0) (pa_cons (pv 3) pa_nil))) (pss_cons (ps_set (i := 5) sc_join_one.nd rfl (by first | exact Or.inl rfl | exact Or.inr rfl) (pe_callB cr_sortedI (by rfl) T.sorted (by decide +kernel) (pa_cons (pe_op op_cat (pe_lc (own := [("upper", 6)]) rfl sc_join_one.nd (pi_list (pe_slice sl_list (pv 4) po_none (po_some (pe_un un_neg pe_int)))) (blkOk_by (own := [("upper", 6)]) (N := ["tree", "rows", "person", "post", "path", "people", "upper", "holder"]) (sc := defScope (top 32)) (by decide +kernel)) (fun _ _ _ _ _ => (pg_name (i := 6) sc_join_one.nd rfl (by first | exact Or.inl rfl | exact Or.inr rfl))) (fun _ _ _ _ _ => pts_nil) (fun _ _ _ _ _ => (pe_ix (ix_listK (K := K) rfl) (pv 1) (pv 6) (fun _ _ => rfl)))) (pe_lst (pa_cons (pv 2) pa_nil))) pa_nil))) (pss_one (ps_for PassesOwn.never rfl (pi_zipS (by rfl) T.zip (pa_cons (pv 4) (pa_cons (pv 5) pa_nil))) (pg_tup rfl (pgs_cons (pg_name (i := 6) sc_join_one.nd rfl (by first | exact Or.inl rfl | exact Or.inr rfl)) (pgs_cons (pg_name (i := 7) sc_join_one.nd rfl (by first | exact Or.inl rfl | exact Or.inr rfl)) pgs_nil))) (pss_one (ps_asg (pv 7) (pg_sub (pv 1) (pv 6) set_list))))))), ?_⟩
    refine ⟨_, rfl, t, dx, _, rfl, t1, tF_no _ _ (by decide +kernel) (by decide +kernel), _, rfl, t, as, n, up, p, rfl, ht, hp, fun H1 l1 s1 n1 e1 => ?_⟩
    have hmap : (pth up p).map nV ≠ [] := by simpa using hpn
    refine ⟨_, rfl, 1, rfl, _, rfl, l1, _, rfl, sqL e1, fun q hq => ⟨q, rfl, ⟨_, sqL upd_same⟩, fun D hD => ?_⟩⟩
    rw [cut_last hmap, ← List.map_dropLast] at hD ⊢
    have s2 : Same H (upd H1 q (.lst ((pth up p).dropLast.map nV))) := s1.trans (same_new hq)
    refine lc_list (xs := (pth up p).dropLast.map nV) (fun i H' => Same (upd H1 q (.lst ((pth up p).dropLast.map nV))) H' ∧ H' D = some (.lst ((((pth up p).dropLast.take i).map fun d => (r d).getD 0).map V.int))) ⟨same_new hD, upd_same⟩ (fun i H' _ h => lstS h.1 upd_same) ?_ ?_
    · rintro i y H' hy ⟨sm, hD2⟩
      rw [List.getElem?_map] at hy
      obtain ⟨d, hd, rfl⟩ := Option.map_eq_some_iff.mp hy
      have hdm := List.mem_of_getElem? hd
      obtain ⟨z, hz⟩ := hh d hdm
      have hdn : d < n := by
        have := le_of_mem ht.ch (List.dropLast_subset _ hdm)
        omega
      refine ⟨rfl, yes (iteT ⟨_, rfl, _, rfl, l, _, (d : Int), rV r d, rfl, rfl, lstS (s2.trans sm) hl, at_tab hdn, _, hD2, ?_, same_mut sm hD, ?_⟩)⟩
      · rw [List.length_map, List.length_map, List.length_take]
        have := (List.getElem?_eq_some_iff.mp hd).1
        rw [List.length_dropLast] at this
        rw [List.length_dropLast]
        exact szlt (by omega)
      · rw [upd_same, List.take_succ, hd, List.map_append, List.map_append]
        show some (HO.lst (_ ++ [oV (r d)])) = some (HO.lst (_ ++ [V.int ((r d).getD 0)]))
        rw [hz]
        rfl
    · rintro H2 ⟨sm, hD2⟩
      rw [List.length_map, List.take_length] at hD2
      have s3 := s2.trans sm
      refine ⟨_, rfl, szle (by show 1 ≤ 100000; decide), fun u hu => ⟨D, u, _, _, rfl, rfl, same_new hu _ _ hD2, upd_same, ?_, fun v hv => ?_⟩⟩
      · rw [List.length_map, List.length_map, List.length_dropLast]
        exact szle (by show _ + 1 ≤ _; omega)
      have s4 := (s3.trans (same_new (o := .lst [V.int x]) hu)).trans (same_new (o := .lst ((((pth up p).dropLast.map fun d => (r d).getD 0).map V.int) ++ [V.int x])) hv)
      refine ⟨v, abv up r p x, rfl, sqL (by rw [upd_same]; unfold abv; rw [List.map_append]; rfl), fun zs m pm so hm => ?_⟩
      have s5 := s4.trans (same_new (o := .lst (zs.map V.int)) hm)
      have lm : l ≠ m := ne_of_none (s4 _ _ hl) hm
      have ll1 : l ≠ l1 := ne_of_none hl n1
      have e5 := ((((same_new (o := .lst ((pth up p).dropLast.map nV)) hq).trans sm).trans (same_new (o := .lst [V.int x]) hu)).trans (same_new (o := .lst ((((pth up p).dropLast.map fun d => (r d).getD 0).map V.int) ++ [V.int x])) hv)).trans (same_new (o := .lst (zs.map V.int)) hm) _ _ e1
      have hlen : ((pth up p).map nV).length = (zs.map V.int).length := by
        rw [List.length_map, List.length_map, pm.length_eq]
        unfold abv
        rw [List.length_append, List.length_map, List.length_dropLast, List.length_singleton]
        have := List.length_pos_iff.mpr hpn
        omega
      refine ⟨_, rfl, _, rfl, l1, m, _, _, rfl, sqL e5, sqL upd_same, for_zipS hlen (fun i σ H' => (∃ x1 x2, σ = [some (.ref t), some (.ref l), some (.int x), some (nV p), some (.ref l1), some (.ref m), x1, x2]) ∧ But l H H' ∧ H' l1 = some (.lst ((pth up p).map nV)) ∧ H' m = some (.lst (zs.map V.int)) ∧ LAt H' l n (wr (((pth up p).zip zs).take i) r))
        ⟨⟨_, _, rfl⟩, But.of_same s5, e5, upd_same, s5 _ _ hl⟩ (fun i σ H' _ h => ⟨sqL h.2.2.1, sqL h.2.2.2.1⟩) ?_ ?_⟩
      · rintro i y z T' σ H' hy hz ⟨⟨x1, x2, rfl⟩, b1, b2, b3, b4⟩ hT
        rw [List.getElem?_map] at hy hz
        obtain ⟨d, hd, rfl⟩ := Option.map_eq_some_iff.mp hy
        obtain ⟨g, hg, rfl⟩ := Option.map_eq_some_iff.mp hz
        have hdn : d < n := by
          have := le_of_mem ht.ch (List.mem_of_getElem? hd)
          omega
        refine ⟨T', _, rfl, sqT upd_same, rfl, _, _, rfl, _, _, rfl, rfl, ?_⟩
        refine ⟨_, rfl, _, rfl, _, rfl, l, _, (d : Int), d, rfl, rfl, same_new hT _ _ b4, ix_tab hdn, ⟨_, _, rfl⟩, ?_, ?_, ?_, ?_⟩
        · intro c o hc nc
          rw [upd_ne nc]
          exact same_new hT _ _ (b1 _ _ hc nc)
        · rw [upd_ne ll1.symm]; exact same_new hT _ _ b2
        · rw [upd_ne lm.symm]; exact same_new hT _ _ b3
        · show upd _ _ _ _ = _
          rw [upd_same, List.take_succ, zip_at hd hg]
          show _ = some (HO.lst (tab n (rV (wr (_ ++ [(d, g)]) r))))
          rw [wr_snoc]
          exact congrArg (fun q => some (HO.lst q)) (tab_st (v := some g))
      · rintro σ H' ⟨_, b1, b2, b3, b4⟩
        refine k zs H' pm so b1 ?_
        rw [List.length_map] at b4 hlen
        rw [List.length_map] at hlen
        rw [List.take_of_length_le (by rw [List.length_zip]; omega)] at b4
        exact b4
end
end Mu


/-! reduced_arrangement. -/
namespace Mu
open PySem L2 PyProof.Rows PySem.SeqAt Mv
theorem fr_head {up : Nat → Nat} {g : Rw} {q f : Nat} (h : fr up g q = some f) : ((pth up q).filter fun k => (g k).isNone)[0]? = some f := by
  have e : ∀ l : List Nat, (l.filter fun k => (g k).isNone)[0]? = l.find? fun k => (g k).isNone := by
    intro l
    induction l with
    | nil => rfl
    | cons a l ih =>
      by_cases h : (g a).isNone = true
      · simp [h]
      · simp only [List.filter_cons, List.find?_cons, h]
        exact ih
  rw [e]
  exact h
theorem sorted_lt {zs : List Int} (s : zs.Pairwise (· ≤ ·)) (nd : zs.Nodup) {i j : Nat} {x y : Int} (hi : zs[i]? = some x) (hj : zs[j]? = some y) (h : i < j) : x < y := by
  obtain ⟨li, ei⟩ := List.getElem?_eq_some_iff.mp hi
  obtain ⟨lj, ej⟩ := List.getElem?_eq_some_iff.mp hj
  have h1 := List.pairwise_iff_getElem.mp s i j li lj h
  have h2 := List.pairwise_iff_getElem.mp nd i j li lj h
  rw [ei, ej] at h1 h2
  omega
section
variable {P : Program} {w : World} {K : PySem.W.Frag} {mg : Str → Option Value} {base : Heap} {C : Addr}
def spRed1 (C : Addr) : Sp := fun vs H Q _ => ∃ (t v l : Addr) (as : List Addr) (n : Nat) (up : Nat → Nat) (r : Rw) (ps : Int → Nat) (xs : List Int), vs = [V.ref t, V.ref v, V.ref l] ∧ TAt C H as t n up ∧ RAt H v n r ∧ Ar n up r ∧ H l = some (.lst (xs.map V.int)) ∧ xs.Nodup ∧ (∀ x, x ∈ xs → ps x < n ∧ r (ps x) = some x) ∧
  ∀ (zs : List Int) H' o, zs.Perm xs → zs.Pairwise (· ≤ ·) → Same H H' → H' o = some (.tup (tab n (rV (red up (zs.map fun x => (x, ps x)) fun _ => none)))) → Q (.ref o) H'
theorem sc_reduced_arrangement : FnScope ["tree", "arrangement", "people", "posts", "rows", "person", "free", "post"] ["tree", "arrangement", "people"] (defScope (top 33)) := ⟨rfl, rfl, rfl, by decide +kernel, rfl, by decide +kernel, by decide +kernel⟩
theorem cl_reduced_arrangement (D : Df K mg "reduced_arrangement" (top 33)) (T : Bt mg) (c_posts_of_people : Cl P w K mg base "posts_of_people" 1 ["arrangement"] spWhere) (c_path : ClM P w K mg base C "path" 1 ["self", "post"] (spPath C)) :
    Cl P w K mg base "reduced_arrangement" 3 ["tree", "arrangement", "people"] (spRed1 C) := by
  refine D.cl (fun f fd F => F.ok sc_reduced_arrangement (fun vs H Q E h => ?_) (fun cdv A outer s H vs Q E hr h => ?_)) (fun _ _ _ _ _ _ us hl => match us, hl with | [_, _, _], _ => rfl)
  · obtain ⟨_, _, _, _, _, _, _, _, _, rfl, _⟩ := h
    rfl
  · obtain ⟨t, v, l, as, n, up, r, ps, xs, rfl, ht, hv, ar, hl, nd, hps, k⟩ := h
    obtain ⟨dx, a, b, bs, -, t1, -⟩ := ht.tr.ex
    have hn := ht.le
    have hc := ht.ch
    refine ⟨_, (pss_cons (ps_set (i := 3) sc_reduced_arrangement.nd rfl (by first | exact Or.inl rfl | exact Or.inr rfl) (pe_c c_posts_of_people (hr.mono (by decide)) (pa_cons (pv 1) pa_nil))) (pss_cons (ps_set (i := 4) sc_reduced_arrangement.nd rfl (by first | exact Or.inl rfl | exact Or.inr rfl) (pe_lc (own := [("person", 5)]) rfl sc_reduced_arrangement.nd (pi_tup (pv 1)) (blkOk_by (own := [("person", 5)]) (N := ["tree", "arrangement", "people", "posts", "rows", "person", "free", "post"]) (sc := defScope (top 33)) (by decide +kernel)) (fun _ _ _ _ _ => (pg_name (i := 5) sc_reduced_arrangement.nd rfl (by first | exact Or.inl rfl | exact Or.inr rfl))) (fun _ _ _ _ _ => pts_nil) (fun _ _ _ _ _ => pe_non))) (pss_cons (ps_for PassesOwn.never rfl (pi_list (pe_callB cr_sortedI (by rfl) T.sorted (by decide +kernel) (pa_cons (pv 2) pa_nil))) (pg_name (i := 5) sc_reduced_arrangement.nd rfl (by first | exact Or.inl rfl | exact Or.inr rfl)) (pss_cons (ps_setLc (i := 6) (own := [("post", 7)]) rfl sc_reduced_arrangement.nd rfl rfl (sw_true rfl rfl rfl (by decide +kernel)) (pi_list (pe_m c_path (hr.mono (by decide)) (pv 0) (pa_cons (pe_dget (hu_of hr) (pv 3) (pv 5) (fun _ _ => rfl)) pa_nil))) (blkOk_by (own := [("post", 7)]) (N := ["tree", "arrangement", "people", "posts", "rows", "person", "free", "post"]) (sc := defScope (top 33)) (by decide +kernel)) (fun _ _ _ _ _ => (pg_name (i := 7) sc_reduced_arrangement.nd rfl (by first | exact Or.inl rfl | exact Or.inr rfl))) (fun _ _ _ _ _ => (pts_one (pt_cmp (pc_isN (pe_ix (ix_listK (K := K) rfl) (pv 4) (pv 7) (fun _ _ => rfl)))))) (fun _ _ _ _ _ => (pv 7))) (pss_one (ps_asg (pv 5) (pg_sub (pv 4) (pe_ix ix_list (pv 6) pe_int (fun _ _ => rfl)) set_list))))) (pss_one (ps_ret (pe_callTy call_tuple_of (by rfl) T.tuple (by decide +kernel) (pa_cons (pv 4) pa_nil))))))), ?_⟩
    refine ⟨_, rfl, v, n, r, rfl, hv, hn, ar.inj, fun H1 d kvs s1 d1 e1 hk => ?_⟩
    refine ⟨_, rfl, v, rfl, ⟨_, tupS s1 hv⟩, fun R hR => lc_tup (xs := tab n (rV r)) (fun i H' => Same H1 H' ∧ H' R = some (.lst (tab i (rV fun _ => none)))) ⟨same_new hR, upd_same⟩ (fun i H' _ h => tupS (s1.trans h.1) hv) ?_ ?_⟩
    · rintro i y H' hy ⟨sm, hR2⟩
      obtain ⟨hi, rfl⟩ := tab_some hy
      refine ⟨rfl, yes (iteT ⟨_, hR2, szlt (by rw [tab_len]; omega), same_mut sm hR, ?_⟩)⟩
      rw [upd_same]
      exact congrArg (fun z => some (HO.lst z)) tab_snoc
    rintro H2 ⟨sm, hR2⟩
    rw [tab_len] at hR2
    have s2 := s1.trans sm
    have R0 : H R = none := Same.free s1 hR
    refine ⟨_, rfl, l, xs, rfl, lstS s2 hl, fun zs Z pm so hZ => ?_⟩
    have zd : zs.Nodup := (pm.nodup_iff).mpr nd
    have s3 : Same H (upd H2 Z (.lst (zs.map V.int))) := s2.trans (same_new hZ)
    have Z0 : H Z = none := Same.free s2 hZ
    have nRZ : R ≠ Z := ne_of_none hR2 hZ
    have nRd : R ≠ d := (ne_of_none e1 hR).symm
    refine ⟨Z, rfl, ⟨_, sqL upd_same⟩, for_list (xs := zs.map V.int) (fun i σ H' => (∃ x1 x2 x3, σ = [some (.ref t), some (.ref v), some (.ref l), some (.ref d), some (.ref R), x1, x2, x3]) ∧ Same H H' ∧ H' d = some (.dK kvs) ∧ H' Z = some (.lst (zs.map V.int)) ∧
      LAt H' R n (red up ((zs.take i).map fun x => (x, ps x)) fun _ => none) ∧ Tk up ((zs.take i).map ps) (red up ((zs.take i).map fun x => (x, ps x)) fun _ => none)) ?_ ?_ ?_ ?_⟩
    · exact ⟨⟨_, _, _, rfl⟩, s3, same_new hZ _ _ (sm _ _ e1), upd_same, same_new hZ _ _ hR2, Tk.nil⟩
    · exact fun i σ H' _ h => sqL h.2.2.2.1
    · rintro i y σ H' hy ⟨⟨x1, x2, x3, rfl⟩, sm, hd, hz, hR, tk⟩
      rw [List.getElem?_map] at hy
      obtain ⟨x, hx, rfl⟩ := Option.map_eq_some_iff.mp hy
      obtain ⟨hp, hpx⟩ := hps x (pm.mem_iff.mp (List.mem_of_getElem? hx))
      refine ⟨_, rfl, t, dx, _, rfl, sm _ _ t1, tF_no _ _ (by decide +kernel) (by decide +kernel), _, rfl, _, rfl, d, nV (ps x), rfl, ?_, t, as, n, up, ps x, rfl, ht.same sm, hp, fun H3 l1 s4 n1 e3 => ?_⟩
      · have := DGet.k hd (k := Sum.inl x)
        rw [hk x (ps x) hp hpx] at this
        exact this
      obtain ⟨f1, hf⟩ := Tk.free hc ar tk hpx (fun e he => by
        obtain ⟨y, hy, rfl⟩ := List.mem_map.mp he
        obtain ⟨j, hj⟩ := List.mem_iff_getElem?.mp hy
        have hji : j < i := by
          have := (List.getElem?_eq_some_iff.mp hj).1
          rw [List.length_take] at this
          omega
        rw [List.getElem?_take, if_pos hji] at hj
        exact ⟨y, (hps y (pm.mem_iff.mp (List.mem_of_getElem? hj))).2, sorted_lt so zd hj hx hji⟩)
      have hfm := fr_mem hf
      have hfn : f1 < n := by
        have := le_of_mem hc hfm.1
        omega
      have hpl := pth_len hc (ps x)
      have sR : H3 R = some (.lst (tab n (rV (red up ((zs.take i).map fun x => (x, ps x)) fun _ => none)))) := s4 _ _ hR
      refine ⟨l1, rfl, ⟨_, sqL e3⟩, fun F hF => lc_list (xs := (pth up (ps x)).map nV) (fun j H4 => Same H3 H4 ∧ H4 F = some (.lst ((((pth up (ps x)).take j).filter fun k => (red up ((zs.take i).map fun x => (x, ps x)) (fun _ => none) k).isNone).map nV))) ⟨same_new hF, upd_same⟩ (fun j H4 _ h => lstS h.1 e3) ?_ ?_⟩
      · rintro j y H4 hy ⟨sm2, hF2⟩
        rw [List.getElem?_map] at hy
        obtain ⟨m, hm, rfl⟩ := Option.map_eq_some_iff.mp hy
        have hmn : m < n := by
          have := le_of_mem hc (List.mem_of_getElem? hm)
          omega
        refine ⟨rfl, _, rfl, _, rfl, R, _, (m : Int), _, rfl, rfl, lstS sm2 sR, at_tab hmn, _, rfl, ?_⟩
        show if decide (oV (red up ((zs.take i).map fun x => (x, ps x)) (fun _ => none) m) = V.non) = true then _ else _
        rw [oV_non]
        rw [List.take_succ, hm, List.filter_append]
        by_cases e : (red up ((zs.take i).map fun x => (x, ps x)) (fun _ => none) m).isNone = true
        · refine ifT e ⟨_, rfl, _, hF2, ?_, same_mut sm2 hF, ?_⟩
          · rw [List.length_map]
            refine szlt (Nat.lt_of_le_of_lt (List.length_filter_le _ _) ?_)
            rw [List.length_take]
            omega
          · rw [upd_same]
            simp only [Option.toList_some, List.filter_cons, e, if_true, List.filter_nil, List.map_append]
            rfl
        · have e' : (red up ((zs.take i).map fun x => (x, ps x)) (fun _ => none) m).isNone = false := Bool.eq_false_iff.mpr e
          refine ifF e' ⟨sm2, ?_⟩
          simp only [Option.toList_some, List.filter_cons, e', List.filter_nil, List.append_nil, if_false, Bool.false_eq_true]
          exact hF2
      · rintro H4 ⟨sm2, hF2⟩
        rw [List.length_map, List.take_length] at hF2
        have s5 := (sm.trans s4).trans sm2
        refine ⟨_, rfl, _, rfl, _, rfl, F, _, 0, nV f1, rfl, rfl, sqL hF2, atI_nat (j := 0) (by rw [List.getElem?_map, fr_head hf]; rfl), R, _, (f1 : Int), f1, rfl, rfl, sm2 _ _ sR, ix_tab hfn, ⟨_, _, _, rfl⟩, same_mut s5 R0, ?_, ?_, ?_, ?_⟩
        · rw [upd_ne nRd.symm]; exact sm2 _ _ (s4 _ _ hd)
        · rw [upd_ne nRZ.symm]; exact sm2 _ _ (s4 _ _ hz)
        · show upd _ _ _ _ = _
          rw [upd_same, List.take_succ, hx]
          show _ = some (HO.lst (tab n (rV (red up (List.map _ (_ ++ [x])) _))))
          rw [List.map_append]
          show _ = some (HO.lst (tab n (rV (red up (_ ++ [(x, ps x)]) _))))
          rw [red_snoc]
          show _ = some (HO.lst (tab n (rV (put1 up (red up ((zs.take i).map fun x => (x, ps x)) fun _ => none) (ps x) x))))
          rw [put1_some hf]
          exact congrArg (fun q => some (HO.lst q)) (tab_st (v := some x))
        · rw [List.take_succ, hx]
          show Tk up (List.map ps (_ ++ [x])) (red up (List.map _ (_ ++ [x])) _)
          rw [List.map_append, List.map_append]
          show Tk up (_ ++ [ps x]) (red up (_ ++ [(x, ps x)]) _)
          rw [red_snoc]
          exact tk.put
    · rintro σ H' ⟨⟨x1, x2, x3, rfl⟩, sm, hd, hz, hR, tk⟩
      rw [List.length_map, List.take_length] at hR
      refine ⟨_, rfl, R, _, rfl, .inl ⟨sqL hR, fun o ho => ?_⟩⟩
      exact k zs _ o pm so (sm.trans (same_new ho)) upd_same
end
end Mu


/-! post_of, open_posts, join, reduced, leave. -/
namespace Mu
open PySem L2 PyProof.Rows PySem.SeqAt Mv
/-- what a caller knows of a def with a star parameter -/
structure ClR (P : Program) (w : World) (K : PySem.W.Frag) (mg : Str → Option Value) (base : Heap) (x : Str) (k : Nat) (sp : Sp) : Prop where
  ex : ∃ f : Addr, FnR P w K mg base CX0 k f sp ∧ mg x = some (.ref f) ∧ PySem.W.keepIn K (.ref f) = true
def tCallR (sp : Sp) (E : XK) (t : TA) : TE := fun σ H Q => t σ H fun vs H1 => sp vs H1 Q E
theorem pe_cR {X : Cx} {x : Str} {k : Nat} {sp : Sp} {p pos : Pos} {e : Expr} {es : List Expr} {t : TA} (c : ClR X.prog X.w X.K X.mg X.base x k sp) (hr : Room k X.A) (ha : PA X (e :: es) t) (hg : Gl X x := by rfl)
    (hdb : (x == ("__debug__" : Str)) = false := by decide) (he : starEach (e :: es) X.env = (false, eval e X.env) :: starEach es X.env := by rfl) (hpl : (backTo pos (starEach es X.env)).any (·.1) = false := by rfl) :
    PE X (.Call (.Name x p) (e :: es) [] pos) (tCallR sp E0 t) := by
  obtain ⟨f, F, g, kp⟩ := c.ex
  refine ⟨fun pins s σ H Q I h => ?_⟩
  refine wpAny_Call_Name_kw (ld_glob I hg g ?_ hdb)
  refine PySem.W.callWith_K (h₀ := X.base) I.ok.mod.kin kp (thn (ha.run pos pins s σ H _ I h) fun us s1 ⟨vs, H1, I1, r, q⟩ => ⟨I1.kIn, ?_⟩) he hpl
  exact wpAny_call (run_fnR F hr pass0 I1 r q)
section
variable {P : Program} {w : World} {K : PySem.W.Frag} {mg : Str → Option Value} {base : Heap} {C : Addr}
def spPostOf : Sp := fun vs H Q _ => ∃ a v n up r x k, vs = [V.ref a, V.ref v, V.int x] ∧ AAt H a v n up r ∧ k < n ∧ r k = some x ∧ ∀ H', Same H H' → Q (nV k) H'
theorem sc_post_of : FnScope ["chart", "arrangement", "person"] ["chart", "arrangement", "person"] (defScope (top 34)) := ⟨rfl, rfl, rfl, by decide +kernel, rfl, by decide +kernel, by decide +kernel⟩
theorem cl_post_of (D : Df K mg "post_of" (top 34)) (c_require_chart : Cl P w K mg base "require_chart" 3 ["chart"] spChart) (c_require_arrangement : Cl P w K mg base "require_arrangement" 4 ["chart", "arrangement"] spArr) (c_is_person : Cl P w K mg base "is_person" 2 ["value"] spWhole)
    (c_posts_of_people : Cl P w K mg base "posts_of_people" 1 ["arrangement"] spWhere) : Cl P w K mg base "post_of" 5 ["chart", "arrangement", "person"] spPostOf := by
  refine D.cl (fun f fd F => F.ok sc_post_of (fun vs H Q E h => ?_) (fun cdv A outer s H vs Q E hr h => ?_)) (fun _ _ _ _ _ _ us hl => match us, hl with | [_, _, _], _ => rfl)
  · obtain ⟨_, _, _, _, _, _, _, rfl, _⟩ := h
    rfl
  · obtain ⟨a, v, n, up, r, x, j, rfl, ha, hj, hx, k⟩ := h
    refine ⟨_, (pss_cons (ps_expr (pe_c c_require_chart (hr.mono (by decide)) (pa_cons (pv 0) pa_nil))) (pss_cons (ps_expr (pe_c c_require_arrangement (hr.mono (by decide)) (pa_cons (pv 0) (pa_cons (pv 1) pa_nil)))) (pss_cons (ps_if (pt_not (pt_val (pe_c c_is_person (hr.mono (by decide)) (pa_cons (pv 2) pa_nil)))) (pss_one ps_never) pss_nil) (pss_one (ps_ret (pe_dget1 (hu_of hr) (pe_c c_posts_of_people (hr.mono (by decide)) (pa_cons (pv 1) pa_nil)) (pv 2) ⟨rfl, rfl, rfl, rfl⟩)))))), ?_⟩
    refine ⟨_, rfl, a, n, up, rfl, ha.c, fun H1 s1 => ⟨_, rfl, _, rfl, a, v, n, up, r, rfl, ha.same s1, fun H2 s2 => ?_⟩⟩
    have s12 := s1.trans s2
    refine ⟨_, rfl, some x, rfl, _, rfl, ifF (by show (!decide (0 ≤ x)) = false; rw [decide_eq_true (ha.ar.nn _ _ hx)]; rfl) ?_⟩
    refine ⟨_, rfl, v, n, r, rfl, (ha.same s12).v, ha.c.2.2, ha.ar.inj, fun H3 d kvs s3 _ hd hk => ?_⟩
    refine ⟨d, rfl, .inl ⟨kvs, .inl hd⟩, _, rfl, _, DGet.k hd (k := Sum.inl x), ?_⟩
    rw [hk x j hj hx]
    exact k _ (s12.trans s3)
def spOpenP : Sp := fun vs H Q _ => ∃ a v n up r, vs = [V.ref a, V.ref v] ∧ AAt H a v n up r ∧ ∀ H' l, Same H H' → H l = none → H' l = some (.lst ((flt n (opn up r)).map nV)) → Q (.ref l) H'
theorem sc_open_posts : FnScope ["chart", "arrangement", "tree", "post"] ["chart", "arrangement"] (defScope (top 35)) := ⟨rfl, rfl, rfl, by decide +kernel, rfl, by decide +kernel, by decide +kernel⟩
theorem cl_open_posts (D : Df K mg "open_posts" (top 35)) (T : Bt mg) (c_require_chart : Cl P w K mg base "require_chart" 3 ["chart"] spChart) (c_require_arrangement : Cl P w K mg base "require_arrangement" 4 ["chart", "arrangement"] spArr) (c_Tree : ClT P w K mg base C 1 ["self", "chart"] (spInit C))
    (c_is_open : Cl P w K mg base "is_open" 1 ["tree", "rows", "post"] (spOpen C)) : Cl P w K mg base "open_posts" 5 ["chart", "arrangement"] spOpenP := by
  refine D.cl (fun f fd F => F.ok sc_open_posts (fun vs H Q E h => ?_) (fun cdv A outer s H vs Q E hr h => ?_)) (fun _ _ _ _ _ _ us hl => match us, hl with | [_, _], _ => rfl)
  · obtain ⟨_, _, _, _, _, rfl, _⟩ := h
    rfl
  · obtain ⟨a, v, n, up, r, rfl, ha, k⟩ := h
    refine ⟨_, (pss_cons (ps_expr (pe_c c_require_chart (hr.mono (by decide)) (pa_cons (pv 0) pa_nil))) (pss_cons (ps_expr (pe_c c_require_arrangement (hr.mono (by decide)) (pa_cons (pv 0) (pa_cons (pv 1) pa_nil)))) (pss_cons (ps_set (i := 2) sc_open_posts.nd rfl (by first | exact Or.inl rfl | exact Or.inr rfl) (pe_makeT (hr.mono (by decide)) c_Tree (pa_cons (pv 0) pa_nil))) (pss_one (ps_ret (pe_lc (own := [("post", 3)]) rfl sc_open_posts.nd (pi_range1 (by rfl) T.range (pa_cons (pe_callB call_len_seq (by rfl) T.len (by decide +kernel) (pa_cons (pv 0) pa_nil)) pa_nil)) (blkOk_by (own := [("post", 3)]) (N := ["chart", "arrangement", "tree", "post"]) (sc := defScope (top 35)) (by decide +kernel)) (fun _ _ _ _ _ => (pg_name (i := 3) sc_open_posts.nd rfl (by first | exact Or.inl rfl | exact Or.inr rfl))) (fun _ _ _ _ _ => (pts_one (pt_val (pe_c c_is_open (hr.mono (by decide)) (pa_cons (pv 2) (pa_cons (pv 1) (pa_cons (pv 3) pa_nil))))))) (fun _ _ _ _ _ => (pv 3)))))))), ?_⟩
    refine ⟨_, rfl, a, n, up, rfl, ha.c, fun H1 s1 => ⟨_, rfl, _, rfl, a, v, n, up, r, rfl, ha.same s1, fun H2 s2 => ?_⟩⟩
    have s12 := s1.trans s2
    refine ⟨_, rfl, make_t (ha.c.same s12) fun H3 t as s3 ht T => ?_⟩
    have s13 := s12.trans s3
    have hn := ha.c.2.2
    refine ⟨_, rfl, a, _, rfl, .inr (tupS s13 ha.c.1), ?_⟩
    rw [tab_len]
    refine ⟨n, rfl, by omega, by omega, fun D hD => ?_⟩
    have e0 : ((n : Int)).toNat = n := by omega
    rw [e0]
    refine lc_range (fun i H' => Same H3 H' ∧ H' D = some (.lst ((flt i (opn up r)).map nV))) ⟨same_new hD, upd_same⟩ ?_ ?_
    · rintro i H' hi ⟨sm, hl⟩
      refine ⟨rfl, _, rfl, _, rfl, _, rfl, t, as, v, n, up, r, i, by rw [Int.zero_add]; rfl, T.same sm, ha.v.same (s13.trans sm), hi, _, rfl, ?_⟩
      by_cases e : opn up r i = true
      · refine ifT e ⟨_, rfl, _, hl, szlt (by rw [List.length_map]; exact Nat.lt_of_le_of_lt flt_len (by omega)), same_mut sm hD, ?_⟩
        rw [Int.zero_add]
        exact flt_step (p := opn up r) (f := nV) hl e
      · exact ifF (Bool.eq_false_iff.mpr e) ⟨sm, flt_skip hl (Bool.eq_false_iff.mpr e)⟩
    · rintro H' ⟨sm, hl⟩
      exact k _ _ (s13.trans sm) (Same.free s13 hD) hl
def spJoin : Sp := fun vs H Q _ => ∃ (a v : Addr) (n : Nat) (up : Nat → Nat) (r : Rw) (x : Int) (p : Nat), vs = [V.ref a, V.ref v, V.int x, nV p] ∧ AAt H a v n up r ∧ 0 ≤ x ∧ (∀ k, r k ≠ some x) ∧ p < n ∧ opn up r p = true ∧
  ∀ (zs : List Int) H' o, zs.Perm (abv up r p x) → zs.Pairwise (· ≤ ·) → Same H H' → H' o = some (.tup (tab n (rV (wr ((pth up p).zip zs) r)))) → Q (.ref o) H'
theorem opn_abv {n : Nat} {up : Nat → Nat} {r : Rw} {p : Nat} (c : Ch n up) (ar : Ar n up r) (h : opn up r p = true) {d : Nat} (hd : d ∈ (pth up p).dropLast) : ∃ y, r d = some y := by
  by_cases h0 : p = 0
  · subst h0
    rw [pth_drop0] at hd
    cases hd
  · rw [pth_drop c (by omega)] at hd
    unfold opn at h
    rw [decide_eq_false h0, Bool.false_or, Bool.and_eq_true] at h
    obtain ⟨y, hy⟩ := Option.isSome_iff_exists.mp h.2
    exact path_held c ar hd hy
theorem sc_join : FnScope ["chart", "arrangement", "person", "post", "tree", "rows"] ["chart", "arrangement", "person", "post"] (defScope (top 38)) := ⟨rfl, rfl, rfl, by decide +kernel, rfl, by decide +kernel, by decide +kernel⟩
theorem cl_join (D : Df K mg "join" (top 38)) (T : Bt mg) (c_require_chart : Cl P w K mg base "require_chart" 3 ["chart"] spChart) (c_require_arrangement : Cl P w K mg base "require_arrangement" 4 ["chart", "arrangement"] spArr) (c_is_person : Cl P w K mg base "is_person" 2 ["value"] spWhole) (c_is_whole : Cl P w K mg base "is_whole" 1 ["value"] spWhole)
    (c_Tree : ClT P w K mg base C 1 ["self", "chart"] (spInit C)) (c_is_open : Cl P w K mg base "is_open" 1 ["tree", "rows", "post"] (spOpen C)) (c_join_one : Cl P w K mg base "join_one" 2 ["tree", "rows", "person", "post"] (spJoin1 C)) :
    Cl P w K mg base "join" 5 ["chart", "arrangement", "person", "post"] spJoin := by
  refine D.cl (fun f fd F => F.ok sc_join (fun vs H Q E h => ?_) (fun cdv A outer s H vs Q E hr h => ?_)) (fun _ _ _ _ _ _ us hl => match us, hl with | [_, _, _, _], _ => rfl)
  · obtain ⟨_, _, _, _, _, _, _, rfl, _⟩ := h
    rfl
  · obtain ⟨a, v, n, up, r, x, p, rfl, ha, h0, hx, hp, ho, k⟩ := h
    refine ⟨_, (pss_cons (ps_expr (pe_c c_require_chart (hr.mono (by decide)) (pa_cons (pv 0) pa_nil))) (pss_cons (ps_expr (pe_c c_require_arrangement (hr.mono (by decide)) (pa_cons (pv 0) (pa_cons (pv 1) pa_nil)))) (pss_cons (ps_if (PW.pt (pw_or (pt_not (pt_val (pe_c c_is_person (hr.mono (by decide)) (pa_cons (pv 2) pa_nil)))) (pw_or1 (pt_cmpR op_in_seq (pv 2) (pv 1) (by rfl))))) (pss_one ps_never) pss_nil) (pss_cons (ps_set (i := 4) sc_join.nd rfl (by first | exact Or.inl rfl | exact Or.inr rfl) (pe_makeT (hr.mono (by decide)) c_Tree (pa_cons (pv 0) pa_nil))) (pss_cons (ps_if (PW.pt (pw_or (pt_not (pt_val (pe_c c_is_whole (hr.mono (by decide)) (pa_cons (pv 3) pa_nil)))) (pw_or (pt_cmpR op_ge (pv 3) (pe_callB call_len_seq (by rfl) T.len (by decide +kernel) (pa_cons (pv 0) pa_nil)) (nomark _)) (pw_or1 (pt_not (pt_val (pe_c c_is_open (hr.mono (by decide)) (pa_cons (pv 4) (pa_cons (pv 1) (pa_cons (pv 3) pa_nil)))))))))) (pss_one ps_never) pss_nil) (pss_cons (ps_set (i := 5) sc_join.nd rfl (by first | exact Or.inl rfl | exact Or.inr rfl) (pe_callTy call_list_of (by rfl) T.list (by decide +kernel) (pa_cons (pv 1) pa_nil))) (pss_cons (ps_expr (pe_c c_join_one (hr.mono (by decide)) (pa_cons (pv 4) (pa_cons (pv 5) (pa_cons (pv 2) (pa_cons (pv 3) pa_nil)))))) (pss_one (ps_ret (pe_callTy call_tuple_of (by rfl) T.tuple (by decide +kernel) (pa_cons (pv 5) pa_nil))))))))))), ?_⟩
    refine ⟨_, rfl, a, n, up, rfl, ha.c, fun H1 s1 => ⟨_, rfl, _, rfl, a, v, n, up, r, rfl, ha.same s1, fun H2 s2 => ?_⟩⟩
    have s12 := s1.trans s2
    have ni : inV (.int x) (tab n (rV r)) = false := Bool.eq_false_iff.mpr fun z => by
      obtain ⟨j, _, hj⟩ := inV_tab.mp z
      exact hx j hj
    refine ⟨_, rfl, some x, rfl, _, rfl, ifF (by show (!decide (0 ≤ x)) = false; rw [decide_eq_true h0]; rfl) ?_⟩
    refine ⟨_, rfl, _, rfl, v, _, rfl, .inr (tupS s12 ha.v), rfl, rows_flat, _, rfl, ifF ni ?_⟩
    refine ⟨_, rfl, make_t (ha.c.same s12) fun H3 t as s3 ht T => ?_⟩
    have s13 := s12.trans s3
    refine ⟨_, rfl, some (p : Int), rfl, _, rfl, ifF (by show (!decide ((0 : Int) ≤ (p : Int))) = false; rw [whole_some]; rfl) ?_⟩
    refine ⟨_, rfl, _, rfl, a, _, rfl, .inr (tupS s13 ha.c.1), (p : Int), _, rfl, rfl, _, rfl, ifF (decide_eq_false (by rw [tab_len]; omega)) ?_⟩
    refine ⟨_, rfl, _, rfl, _, rfl, t, as, v, n, up, r, p, rfl, T, ha.v.same s13, hp, _, rfl, ifF (by rw [ho]; rfl) ?_⟩
    refine ⟨_, rfl, v, _, rfl, .inr (tupS s13 ha.v), fun l hl => ?_⟩
    have s14 := s13.trans (same_new (o := .lst (tab n (rV r))) hl)
    refine ⟨_, rfl, _, rfl, _, rfl, _, rfl, t, l, as, n, up, r, x, p, rfl, T.same (same_new hl), T.tr.new hl, upd_same, hp, fun d hd => opn_abv ha.c.2.1 ha.ar ho hd, fun zs H5 pm so b5 l5 => ?_⟩
    refine ⟨_, rfl, l, _, rfl, .inl ⟨sqL l5, fun o ho => k zs _ o pm so (fun z u hz => ?_) upd_same⟩⟩
    have h5 := b5 _ _ (s14 _ _ hz) (ne_of_none (s13 _ _ hz) hl)
    exact same_new ho _ _ h5
def spReduced : Sp := fun vs H Q _ => ∃ (a v l : Addr) (n : Nat) (up : Nat → Nat) (r : Rw) (ps : Int → Nat) (xs : List Int), vs = [V.ref a, V.ref v, V.ref l] ∧ AAt H a v n up r ∧ H l = some (.lst (xs.map V.int)) ∧ xs.Nodup ∧ xs.length ≤ 1000 ∧ (∀ x, x ∈ xs → ps x < n ∧ r (ps x) = some x) ∧
  ∀ (zs : List Int) H' o, zs.Perm xs → zs.Pairwise (· ≤ ·) → Same H H' → H' o = some (.tup (tab n (rV (red up (zs.map fun x => (x, ps x)) fun _ => none)))) → Q (.ref o) H'
theorem sc_reduced : FnScope ["chart", "arrangement", "people"] ["chart", "arrangement", "people"] (defScope (top 39)) := ⟨rfl, rfl, rfl, by decide +kernel, rfl, by decide +kernel, by decide +kernel⟩
theorem cl_reduced (D : Df K mg "reduced" (top 39)) (c_require_chart : Cl P w K mg base "require_chart" 3 ["chart"] spChart) (c_require_arrangement : Cl P w K mg base "require_arrangement" 4 ["chart", "arrangement"] spArr) (c_require_people : Cl P w K mg base "require_people" 3 ["arrangement", "people"] spPeople)
    (c_Tree : ClT P w K mg base C 1 ["self", "chart"] (spInit C)) (c_reduced_arrangement : Cl P w K mg base "reduced_arrangement" 3 ["tree", "arrangement", "people"] (spRed1 C)) : Cl P w K mg base "reduced" 5 ["chart", "arrangement", "people"] spReduced := by
  refine D.cl (fun f fd F => F.ok sc_reduced (fun vs H Q E h => ?_) (fun cdv A outer s H vs Q E hr h => ?_)) (fun _ _ _ _ _ _ us hl => match us, hl with | [_, _, _], _ => rfl)
  · obtain ⟨_, _, _, _, _, _, _, _, rfl, _⟩ := h
    rfl
  · obtain ⟨a, v, l, n, up, r, ps, xs, rfl, ha, hl, nd, hz, hps, k⟩ := h
    refine ⟨_, (pss_cons (ps_expr (pe_c c_require_chart (hr.mono (by decide)) (pa_cons (pv 0) pa_nil))) (pss_cons (ps_expr (pe_c c_require_arrangement (hr.mono (by decide)) (pa_cons (pv 0) (pa_cons (pv 1) pa_nil)))) (pss_cons (ps_expr (pe_c c_require_people (hr.mono (by decide)) (pa_cons (pv 1) (pa_cons (pv 2) pa_nil)))) (pss_one (ps_ret (pe_c c_reduced_arrangement (hr.mono (by decide)) (pa_cons (pe_makeT (hr.mono (by decide)) c_Tree (pa_cons (pv 0) pa_nil)) (pa_cons (pv 1) (pa_cons (pv 2) pa_nil))))))))), ?_⟩
    refine ⟨_, rfl, a, n, up, rfl, ha.c, fun H1 s1 => ⟨_, rfl, _, rfl, a, v, n, up, r, rfl, ha.same s1, fun H2 s2 => ?_⟩⟩
    have s12 := s1.trans s2
    refine ⟨_, rfl, _, rfl, v, l, n, r, xs, rfl, ha.v.same s12, s12 _ _ hl, fun x hx => ⟨ha.ar.nn _ _ (hps x hx).2, ps x, (hps x hx)⟩, nd, hz, fun H3 s3 => ?_⟩
    have s13 := s12.trans s3
    refine ⟨_, rfl, make_t (ha.c.same s13) fun H4 t as s4 ht T => ?_⟩
    have s14 := s13.trans s4
    exact ⟨_, rfl, _, rfl, t, v, l, as, n, up, r, ps, xs, rfl, T, ha.v.same s14, ha.ar, s14 _ _ hl, nd, hps, fun zs H5 o pm so s5 e5 => k zs H5 o pm so (s14.trans s5) e5⟩
end
end Mu


/-! leave, require_standing, career. -/
namespace Mu
open PySem L2 PyProof.Rows PySem.SeqAt Mv
/-- who stands after a departure -/
theorem lv_has {n : Nat} {up : Nat → Nat} {r r' : Rw} {k q : Nat} {y : Int} {ms : List (Int × Nat × Nat)} (o : Ok n r) (hk : k < n) (hy : r k = some y) (lv : Lv n up (Mv.st r k none) k r' q ms) {z : Int} (hz : ∃ j, r j = some z) (ne : z ≠ y) : ∃ j, j < n ∧ r' j = some z := by
  have o2 := o.clear k
  have := (lv.who o2 hk Mv.st_same z).mpr (by
    obtain ⟨j, hj⟩ := hz
    refine ⟨j, ?_⟩
    rw [Mv.st_ne]
    · exact hj
    · rintro rfl
      rw [hy] at hj
      exact ne (Option.some.inj hj).symm)
  obtain ⟨j, hj⟩ := this
  exact ⟨j, (lv.ok o2 hk).lt hj, hj⟩
section
variable {P : Program} {w : World} {K : PySem.W.Frag} {mg : Str → Option Value} {base : Heap} {C : Addr}
def spLv0 : Sp := fun vs H Q _ => ∃ (a v p : Addr) (n : Nat) (up : Nat → Nat) (r : Rw) (x : Int) (k : Nat), vs = [V.ref a, V.ref v, V.ref p] ∧ AAt H a v n up r ∧ H p = some (.tup [V.int x]) ∧ k < n ∧ r k = some x ∧
  ∀ H' r' q ms o, Same H H' → Lv n up (Mv.st r k none) k r' q ms → RAt H' o n r' → Q (.ref o) H'
def spLv1 : Sp := fun vs H Q _ => ∃ (a v : Addr) (n : Nat) (up : Nat → Nat) (r : Rw) (x : Int) (k : Nat), vs = [V.ref a, V.ref v, V.int x] ∧ AAt H a v n up r ∧ k < n ∧ r k = some x ∧
  ∀ H' r' q ms o, Same H H' → Lv n up (Mv.st r k none) k r' q ms → RAt H' o n r' → Q (.ref o) H'
theorem sc_leave : FnScope ["chart", "arrangement", "people", "seen", "person", "tree", "rows"] ["chart", "arrangement", "people"] (defScope (top 36)) := ⟨rfl, rfl, rfl, by decide +kernel, rfl, by decide +kernel, by decide +kernel⟩
theorem cl_leave (D : Df K mg "leave" (top 36)) (T : Bt mg) (c_require_chart : Cl P w K mg base "require_chart" 3 ["chart"] spChart) (c_require_arrangement : Cl P w K mg base "require_arrangement" 4 ["chart", "arrangement"] spArr) (c_require_holder : Cl P w K mg base "require_holder" 3 ["arrangement", "person"] spHolder)
    (c_Tree : ClT P w K mg base C 1 ["self", "chart"] (spInit C)) (c_leave_one : Cl P w K mg base "leave_one" 2 ["tree", "rows", "person"] (spLeave C)) : ClR P w K mg base "leave" 5 spLv1 := by
  obtain ⟨f, fd, F, g⟩ := D.ex
  obtain ⟨oc, od, kV, doc, pm, an, cdv, ct, osl, rfl, lk, hcd⟩ := F.ex
  refine ⟨f, (StX.fn_star (CX := CX0) (sp := spLv0) (ps := ["chart", "arrangement"]) (pv := "people") lk hcd sc_leave StX.cxUp_none (fun us rest hl => ?_) (fun A outer s H vs Q E hr h => ?_)).imp (fun vs H Q E h => ?_), g, F.kp⟩
  · exact StX.bind_star2 (B := fun us => bindArgs _ ⟨us, []⟩) (fun _ _ => rfl) (fun _ _ _ _ => rfl) us rest hl
  · obtain ⟨a, v, p, n, up, r, x, j, rfl, ha, hp, hj, hx, k⟩ := h
    suffices hh : ∃ t, PSs (cxOf CX0 P w K mg base _ "leave" (defScope (top 36)) f cdv A outer s H E).nox (defBody (top 36)) t ∧ t { nx := fun _ H' => Q .non H', rt := Q } (L2.start _ [V.ref a, V.ref v, V.ref p]) H by
      obtain ⟨t, h1, h2⟩ := hh
      exact ⟨t, h1.nox, h2⟩
    refine ⟨_, (pss_cons (ps_expr (pe_c c_require_chart (hr.mono (by decide)) (pa_cons (pv 0) pa_nil))) (pss_cons (ps_expr (pe_c c_require_arrangement (hr.mono (by decide)) (pa_cons (pv 0) (pa_cons (pv 1) pa_nil)))) (pss_cons (ps_set (i := 3) sc_leave.nd rfl (by first | exact Or.inl rfl | exact Or.inr rfl) (pe_lst pa_nil)) (pss_cons (ps_for PassesOwn.never rfl (pi_tup (pv 2)) (pg_name (i := 4) sc_leave.nd rfl (by first | exact Or.inl rfl | exact Or.inr rfl)) (pss_cons (ps_expr (pe_c c_require_holder (hr.mono (by decide)) (pa_cons (pv 1) (pa_cons (pv 4) pa_nil)))) (pss_cons (ps_if (pt_cmpR op_in_seq (pv 4) (pv 3) (by rfl)) (pss_one ps_never) pss_nil) (pss_one (ps_expr (pe_bm PySem.F.plainAttrs_list PySem.F.slot_list_append PySem.F.type_list_append mt_append (pv 3) (pa_cons (pv 4) pa_nil))))))) (pss_cons (ps_set (i := 5) sc_leave.nd rfl (by first | exact Or.inl rfl | exact Or.inr rfl) (pe_makeT (hr.mono (by decide)) c_Tree (pa_cons (pv 0) pa_nil))) (pss_cons (ps_set (i := 6) sc_leave.nd rfl (by first | exact Or.inl rfl | exact Or.inr rfl) (pe_callTy call_list_of (by rfl) T.list (by decide +kernel) (pa_cons (pv 1) pa_nil))) (pss_cons (ps_for PassesOwn.never rfl (pi_tup (pv 2)) (pg_name (i := 4) sc_leave.nd rfl (by first | exact Or.inl rfl | exact Or.inr rfl)) (pss_one (ps_expr (pe_c c_leave_one (hr.mono (by decide)) (pa_cons (pv 5) (pa_cons (pv 6) (pa_cons (pv 4) pa_nil))))))) (pss_one (ps_ret (pe_callTy call_tuple_of (by rfl) T.tuple (by decide +kernel) (pa_cons (pv 6) pa_nil))))))))))), ?_⟩
    refine ⟨_, rfl, a, n, up, rfl, ha.c, fun H1 s1 => ⟨_, rfl, _, rfl, a, v, n, up, r, rfl, ha.same s1, fun H2 s2 => ?_⟩⟩
    have s12 := s1.trans s2
    refine ⟨szle (by show 0 ≤ 100000; decide), fun b hb => ?_⟩
    refine ⟨_, rfl, p, rfl, ⟨_, tupS (s12.trans (same_new hb)) hp⟩, for_tup (xs := [V.int x]) (fun i σ H' => (∃ y, σ = [some (.ref a), some (.ref v), some (.ref p), some (.ref b), y, none, none]) ∧ Same H H' ∧ H' b = some (.lst (([V.int x]).take i))) ?_ ?_ ?_ ?_⟩
    · exact ⟨⟨_, rfl⟩, s12.trans (same_new hb), upd_same⟩
    · exact fun i σ H' _ h => tupS h.2.1 hp
    · rintro i y σ H' hy ⟨⟨y0, rfl⟩, sm, hb2⟩
      obtain ⟨rfl, rfl⟩ : i = 0 ∧ y = V.int x := by
        cases i with
        | zero => exact ⟨rfl, (Option.some.inj hy).symm⟩
        | succ i => cases hy
      refine ⟨_, rfl, _, rfl, v, n, r, x, rfl, ha.v.same sm, ha.ar.nn _ _ hx, ⟨j, hj, hx⟩, ?_⟩
      refine ⟨_, rfl, _, rfl, b, _, rfl, .inl (sqL hb2), rfl, rfl, _, rfl, ifF (by rfl) ?_⟩
      exact ⟨_, rfl, .inl ⟨rfl, _, sqL hb2⟩, _, rfl, b, _, _, rfl, rfl, hb2, szlt (by show 0 < 100000; decide), ⟨_, rfl⟩, same_mut sm (Same.free s12 hb), upd_same⟩
    · rintro σ H3 ⟨⟨y0, rfl⟩, s13, -⟩
      refine ⟨_, rfl, make_t (ha.c.same s13) fun H4 t as s4 ht T => ?_⟩
      have s14 := s13.trans s4
      refine ⟨_, rfl, v, _, rfl, .inr (tupS s14 ha.v), fun l hl => ?_⟩
      have s15 := s14.trans (same_new (o := .lst (tab n (rV r))) hl)
      have l0 : H l = none := Same.free s14 hl
      have T5 := T.same (same_new (o := .lst (tab n (rV r))) hl)
      have hla : l ∉ as := T.tr.new hl
      refine ⟨_, rfl, p, rfl, ⟨_, tupS s15 hp⟩, for_tup (xs := [V.int x]) (fun i σ H' => (∃ y, σ = [some (.ref a), some (.ref v), some (.ref p), some (.ref b), y, some (.ref t), some (.ref l)]) ∧ Same H H' ∧
        ((i = 0 ∧ LAt H' l n r ∧ TAt C H' as t n up) ∨ (i = 1 ∧ ∃ r' q ms, Lv n up (Mv.st r j none) j r' q ms ∧ LAt H' l n r'))) ?_ ?_ ?_ ?_⟩
      · exact ⟨⟨_, rfl⟩, s15, .inl ⟨rfl, upd_same, T5⟩⟩
      · exact fun i σ H' _ h => tupS h.2.1 hp
      · rintro i y σ H' hy ⟨⟨y1, rfl⟩, sm, hs⟩
        obtain ⟨rfl, rfl⟩ : i = 0 ∧ y = V.int x := by
          cases i with
          | zero => exact ⟨rfl, (Option.some.inj hy).symm⟩
          | succ i => cases hy
        rcases hs with ⟨_, la, T6⟩ | ⟨e, _⟩
        · refine ⟨_, rfl, _, rfl, _, rfl, t, l, as, n, up, r, x, j, rfl, T6, hla, la, ha.ar.inj, hj, hx, fun H7 r' q ms b7 l7 lv => ?_⟩
          refine ⟨⟨_, rfl⟩, fun z o hz => b7 _ _ (sm _ _ hz) (ne_of_none hz l0), .inr ⟨rfl, r', q, ms, lv, l7⟩⟩
        · omega
      · rintro σ H7 ⟨⟨y1, rfl⟩, sm, hs⟩
        rcases hs with ⟨e, _⟩ | ⟨_, r', q, ms, lv, la⟩
        · cases e
        · exact ⟨_, rfl, l, _, rfl, .inl ⟨sqL la, fun o ho => k _ r' q ms o (sm.trans (same_new ho)) lv upd_same⟩⟩
  · obtain ⟨a, v, n, up, r, x, j, rfl, ha, hj, hx, k⟩ := h
    refine ⟨[V.ref a, V.ref v], [V.int x], rfl, rfl, szle (by show 1 ≤ 100000; decide), fun p hp => ⟨a, v, p, n, up, r, x, j, rfl, ha.same (same_new hp), upd_same, hj, hx, fun H' r' q ms o s1 lv ho => k H' r' q ms o ((same_new hp).trans s1) lv ho⟩⟩
def Held (n : Nat) (r : Rw) (x : Int) : Prop := ∃ k, k < n ∧ r k = some x
def spStand : Sp := fun vs H Q _ => ∃ (a v l : Addr) (n : Nat) (up : Nat → Nat) (r : Rw) (ys : List Int) (x : Int), vs = [V.ref a, V.ref v, V.ref l, V.int x] ∧ AAt H a v n up r ∧ H l = some (.lst (ys.map V.int)) ∧ (∀ y, y ∈ ys → Held n r y) ∧ ys.Nodup ∧ ys.length ≤ 1000 ∧ Held n r x ∧ x ∉ ys ∧ ∀ H', Same H H' → Q .non H'
theorem sc_require_standing : FnScope ["chart", "arrangement", "leavers", "person"] ["chart", "arrangement", "leavers", "person"] (defScope (top 41)) := ⟨rfl, rfl, rfl, by decide +kernel, rfl, by decide +kernel, by decide +kernel⟩
theorem cl_require_standing (D : Df K mg "require_standing" (top 41)) (c_require_chart : Cl P w K mg base "require_chart" 3 ["chart"] spChart) (c_require_arrangement : Cl P w K mg base "require_arrangement" 4 ["chart", "arrangement"] spArr) (c_require_people : Cl P w K mg base "require_people" 3 ["arrangement", "people"] spPeople)
    (c_require_holder : Cl P w K mg base "require_holder" 3 ["arrangement", "person"] spHolder) : Cl P w K mg base "require_standing" 5 ["chart", "arrangement", "leavers", "person"] spStand := by
  refine D.cl (fun f fd F => F.ok sc_require_standing (fun vs H Q E h => ?_) (fun cdv A outer s H vs Q E hr h => ?_)) (fun _ _ _ _ _ _ us hl => match us, hl with | [_, _, _, _], _ => rfl)
  · obtain ⟨_, _, _, _, _, _, _, _, rfl, _⟩ := h
    rfl
  · obtain ⟨a, v, l, n, up, r, ys, x, rfl, ha, hl, hh, nd, hz, hx, hn, k⟩ := h
    refine ⟨_, (pss_cons (ps_expr (pe_c c_require_chart (hr.mono (by decide)) (pa_cons (pv 0) pa_nil))) (pss_cons (ps_expr (pe_c c_require_arrangement (hr.mono (by decide)) (pa_cons (pv 0) (pa_cons (pv 1) pa_nil)))) (pss_cons (ps_expr (pe_c c_require_people (hr.mono (by decide)) (pa_cons (pv 1) (pa_cons (pv 2) pa_nil)))) (pss_cons (ps_expr (pe_c c_require_holder (hr.mono (by decide)) (pa_cons (pv 1) (pa_cons (pv 3) pa_nil)))) (pss_one (ps_if (pt_cmpR op_in_seq (pv 3) (pv 2) (by rfl)) (pss_one ps_never) pss_nil)))))), ?_⟩
    refine ⟨_, rfl, a, n, up, rfl, ha.c, fun H1 s1 => ⟨_, rfl, _, rfl, a, v, n, up, r, rfl, ha.same s1, fun H2 s2 => ?_⟩⟩
    have s12 := s1.trans s2
    refine ⟨_, rfl, _, rfl, v, l, n, r, ys, rfl, ha.v.same s12, s12 _ _ hl, fun y hy => ⟨?_, hh y hy⟩, nd, hz, fun H3 s3 => ?_⟩
    · obtain ⟨k, _, hk⟩ := hh y hy
      exact ha.ar.nn _ _ hk
    have s13 := s12.trans s3
    have h0 : 0 ≤ x := by
      obtain ⟨k, _, hk⟩ := hx
      exact ha.ar.nn _ _ hk
    refine ⟨_, rfl, _, rfl, v, n, r, x, rfl, ha.v.same s13, h0, hx, ?_⟩
    exact ⟨_, rfl, _, rfl, l, _, rfl, .inl (lstS s13 hl), rfl, ints_flat, _, rfl, ifF (Bool.eq_false_iff.mpr fun z => hn (inV_ints.mp z)) (k _ s13)⟩
def spCareer : Sp := fun vs H Q _ => ∃ (a v l : Addr) (n : Nat) (up : Nat → Nat) (r : Rw) (ys : List Int) (x : Int) (k : Nat), vs = [V.ref a, V.ref v, V.ref l, V.int x] ∧ AAt H a v n up r ∧ H l = some (.lst (ys.map V.int)) ∧ (∀ y, y ∈ ys → Held n r y) ∧ ys.Nodup ∧ ys.length ≤ 1000 ∧ k < n ∧ r k = some x ∧ x ∉ ys ∧
  ∀ H' c js, Same H H' → Ca n up x r ys js → (∀ j ∈ js, j < n) → H' c = some (.lst ((k :: js).map nV)) → Q (.ref c) H'
theorem sc_career : FnScope ["chart", "arrangement", "leavers", "person", "tree", "rows", "posts", "other"] ["chart", "arrangement", "leavers", "person"] (defScope (top 42)) := ⟨rfl, rfl, rfl, by decide +kernel, rfl, by decide +kernel, by decide +kernel⟩
theorem cl_career (D : Df K mg "career" (top 42)) (T : Bt mg) (c_require_standing : Cl P w K mg base "require_standing" 5 ["chart", "arrangement", "leavers", "person"] spStand)
    (c_Tree : ClT P w K mg base C 1 ["self", "chart"] (spInit C)) (c_leave_one : Cl P w K mg base "leave_one" 2 ["tree", "rows", "person"] (spLeave C)) : Cl P w K mg base "career" 6 ["chart", "arrangement", "leavers", "person"] spCareer := by
  refine D.cl (fun f fd F => F.ok sc_career (fun vs H Q E h => ?_) (fun cdv A outer s H vs Q E hr h => ?_)) (fun _ _ _ _ _ _ us hl => match us, hl with | [_, _, _, _], _ => rfl)
  · obtain ⟨_, _, _, _, _, _, _, _, _, rfl, _⟩ := h
    rfl
  · obtain ⟨a, v, l, n, up, r, ys, x, j, rfl, ha, hl, hh, nd, hz, hj, hx, hn, k⟩ := h
    refine ⟨_, (pss_cons (ps_expr (pe_c c_require_standing (hr.mono (by decide)) (pa_cons (pv 0) (pa_cons (pv 1) (pa_cons (pv 2) (pa_cons (pv 3) pa_nil)))))) (pss_cons (ps_set (i := 4) sc_career.nd rfl (by first | exact Or.inl rfl | exact Or.inr rfl) (pe_makeT (hr.mono (by decide)) c_Tree (pa_cons (pv 0) pa_nil))) (pss_cons (ps_set (i := 5) sc_career.nd rfl (by first | exact Or.inl rfl | exact Or.inr rfl) (pe_callTy call_list_of (by rfl) T.list (by decide +kernel) (pa_cons (pv 1) pa_nil))) (pss_cons (ps_set (i := 6) sc_career.nd rfl (by first | exact Or.inl rfl | exact Or.inr rfl) (pe_lst (pa_cons (pe_bm PySem.F.plainAttrs_list PySem.F.slot_list_index PySem.F.type_list_index mt_index (pv 5) (pa_cons (pv 3) pa_nil)) pa_nil))) (pss_cons (ps_for PassesOwn.never rfl (pi_list (pv 2)) (pg_name (i := 7) sc_career.nd rfl (by first | exact Or.inl rfl | exact Or.inr rfl)) (pss_cons (ps_expr (pe_c c_leave_one (hr.mono (by decide)) (pa_cons (pv 4) (pa_cons (pv 5) (pa_cons (pv 7) pa_nil))))) (pss_one (ps_expr (pe_bm PySem.F.plainAttrs_list PySem.F.slot_list_append PySem.F.type_list_append mt_append (pv 6) (pa_cons (pe_bm PySem.F.plainAttrs_list PySem.F.slot_list_index PySem.F.type_list_index mt_index (pv 5) (pa_cons (pv 3) pa_nil)) pa_nil)))))) (pss_one (ps_ret (pv 6)))))))), ?_⟩
    refine ⟨_, rfl, _, rfl, _, rfl, _, rfl, a, v, l, n, up, r, ys, x, rfl, ha, hl, hh, nd, hz, ⟨j, hj, hx⟩, hn, fun H1 s1 => ?_⟩
    refine ⟨_, rfl, make_t (ha.c.same s1) fun H2 t as s2 ht T => ?_⟩
    have s12 := s1.trans s2
    refine ⟨_, rfl, v, _, rfl, .inr (tupS s12 ha.v), fun R hR => ?_⟩
    have R0 : H R = none := Same.free s12 hR
    have s13 := s12.trans (same_new (o := .lst (tab n (rV r))) hR)
    have T3 := T.same (same_new (o := .lst (tab n (rV r))) hR)
    have hRa : R ∉ as := T.tr.new hR
    obtain ⟨i1, i2, i3⟩ := idx_rows ha.ar.inj hj hx
    refine ⟨_, rfl, .inl ⟨rfl, _, sqL upd_same⟩, _, rfl, R, _, _, j, _, rfl, rfl, sqL upd_same, rfl, rows_flat, i1, i2, i3, szle (by show 1 ≤ 100000; decide), fun c hc => ?_⟩
    have c0 : H c = none := Same.free s13 hc
    have cR : R ≠ c := ne_of_none (upd_same (H := H2) (a := R)) hc
    have s14 := s13.trans (same_new (o := .lst [V.int (j : Nat)]) hc)
    have T4 := T3.same (same_new (o := .lst [V.int (j : Nat)]) hc)
    have hca : c ∉ as := T3.tr.new hc
    refine ⟨_, rfl, l, rfl, ⟨_, lstS s14 hl⟩, for_list (xs := ys.map V.int) (fun i σ H' => (∃ y, σ = [some (.ref a), some (.ref v), some (.ref l), some (.int x), some (.ref t), some (.ref R), some (.ref c), y]) ∧ Same H H' ∧ TAt C H' as t n up ∧
      ∃ rr js, LAt H' R n rr ∧ H' c = some (.lst ((j :: js).map nV)) ∧ js.length = i ∧ (∀ z ∈ js, z < n) ∧ Ok n rr ∧ Held n rr x ∧ (∀ y, y ∈ ys.drop i → Held n rr y) ∧ ∀ js', Ca n up x rr (ys.drop i) js' → Ca n up x r ys (js ++ js')) ?_ ?_ ?_ ?_⟩
    · refine ⟨⟨_, rfl⟩, s14, T4, r, [], ?_, upd_same, rfl, by simp, ha.ar.ok, ⟨j, hj, hx⟩, hh, fun js' h => h⟩
      show upd _ _ _ _ = _
      rw [upd_ne cR, upd_same]
    · exact fun i σ H' _ h => lstS h.2.1 hl
    · rintro i y σ H' hy ⟨⟨y0, rfl⟩, sm, T5, rr, js, h1, h2, h3, h4, ok, hxx, hyy, cl⟩
      rw [List.getElem?_map] at hy
      obtain ⟨z, hz2, rfl⟩ := Option.map_eq_some_iff.mp hy
      have hil := (List.getElem?_eq_some_iff.mp hz2).1
      have hdr : ys.drop i = z :: ys.drop (i + 1) := by
        rw [List.drop_eq_getElem_cons hil]
        congr 1
        exact (List.getElem?_eq_some_iff.mp hz2).2
      obtain ⟨kz, hkz, hrz⟩ := hyy z (by rw [hdr]; exact List.mem_cons_self)
      have nxz : x ≠ z := fun e => hn (e ▸ List.mem_of_getElem? hz2)
      refine ⟨_, rfl, _, rfl, _, rfl, t, R, as, n, up, rr, z, kz, rfl, T5, hRa, h1, ok.inj, hkz, hrz, fun H6 r' q ms b6 l6 lv => ?_⟩
      have s6 : Same H H6 := fun g o hg => b6 _ _ (sm _ _ hg) (ne_of_none hg R0)
      have h26 : H6 c = some (.lst ((j :: js).map nV)) := b6 _ _ h2 cR.symm
      have ok' : Ok n r' := lv.ok (ok.clear kz) hkz
      obtain ⟨jx, hjx, hrx⟩ := lv_has ok hkz hrz lv (z := x) (by obtain ⟨q, _, h⟩ := hxx; exact ⟨q, h⟩) nxz
      obtain ⟨i1, i2, i3⟩ := idx_rows ok'.inj hjx hrx
      refine ⟨_, rfl, .inl ⟨rfl, _, sqL h26⟩, _, rfl, .inl ⟨rfl, _, sqL l6⟩, _, rfl, R, _, _, jx, _, rfl, rfl, sqL l6, rfl, rows_flat, i1, i2, i3, c, _, _, rfl, rfl, h26, ?_, ⟨_, rfl⟩, same_mut s6 c0, ?_, r', js ++ [jx], ?_, ?_, ?_, ?_, ok', ⟨jx, hjx, hrx⟩, ?_, ?_⟩
      · rw [List.length_map, List.length_cons]
        exact szlt (by omega)
      · exact (T5.but hRa b6).but hca But.upd
      · show upd _ _ _ _ = _
        rw [upd_ne cR]; exact l6
      · rw [upd_same, ← List.cons_append, List.map_append (l₁ := j :: js)]
        rfl
      · rw [List.length_append, h3]; rfl
      · intro g hg
        rcases List.mem_append.mp hg with z | z
        · exact h4 g z
        · rw [List.mem_singleton.mp z]; exact hjx
      · intro g hg
        have ngz : g ≠ z := by
          rintro rfl
          have nd2 : (ys.drop i).Nodup := List.Nodup.sublist (List.drop_sublist _ _) nd
          rw [hdr] at nd2
          exact (List.nodup_cons.mp nd2).1 hg
        obtain ⟨m, hm, hmr⟩ := lv_has ok hkz hrz lv (z := g) (by obtain ⟨q, _, h⟩ := hyy g (by rw [hdr]; exact List.mem_cons_of_mem _ hg); exact ⟨q, h⟩) ngz
        exact ⟨m, hm, hmr⟩
      · intro js' h
        rw [List.append_assoc]
        refine cl _ ?_
        rw [hdr]
        exact .cons hrz lv hrx h
    · rintro σ H' ⟨⟨y0, rfl⟩, sm, T5, rr, js, h1, h2, h3, h4, ok, hxx, hyy, cl⟩
      rw [List.length_map] at cl
      have := cl [] (by rw [List.drop_length]; exact .nil)
      rw [List.append_nil] at this
      exact ⟨_, rfl, k _ _ js sm this h4 h2⟩
end
end Mu


/-! the law's random numbers. -/
namespace Mu
open PySem L2 PyProof.Rows PySem.SeqAt Mv
/-- the generator's list, its count at most B -/
def GAt (H : Hp) (G : Addr) (B : Nat) : Prop := ∃ a b c : Int, H G = some (.lst [.int a, .int b, .int c]) ∧ 0 ≤ a ∧ 0 ≤ c ∧ c ≤ (B : Int)
theorem GAt.same {H H' : Hp} {G : Addr} {B : Nat} (g : GAt H G B) (s : Same H H') : GAt H' G B := by
  obtain ⟨a, b, c, h, r⟩ := g
  exact ⟨a, b, c, s _ _ h, r⟩
theorem GAt.but {H H' : Hp} {G : Addr} {B : Nat} {D : Addr} (g : GAt H G B) (s : But D H H') (n : G ≠ D) : GAt H' G B := by
  obtain ⟨a, b, c, h, r⟩ := g
  exact ⟨a, b, c, s _ _ h n, r⟩
theorem GAt.le {H : Hp} {G : Addr} {B B' : Nat} (g : GAt H G B) (h : B ≤ B') : GAt H G B' := by
  obtain ⟨a, b, c, h1, h2, h3, h4⟩ := g
  exact ⟨a, b, c, h1, h2, h3, by omega⟩
section
variable {P : Program} {w : World} {K : PySem.W.Frag} {mg : Str → Option Value} {base : Heap} {C : Addr}
def spCell : Sp := fun vs H Q _ => ∃ (S : Addr) (xs : List Int) (i : Nat), vs = [V.ref S, nV i] ∧ SqL K H S (xs.map V.int) ∧ ∀ x : Int, Q (.int x) H
theorem sc_law_cell : FnScope ["_law_script", "_law_index"] ["_law_script", "_law_index"] (defScope (top 44)) := ⟨rfl, rfl, rfl, by decide +kernel, rfl, by decide +kernel, by decide +kernel⟩
theorem cl_law_cell (D : Df K mg "_law_cell" (top 44)) (T : Bt mg) : Cl P w K mg base "_law_cell" 1 ["_law_script", "_law_index"] (spCell (K := K)) := by
  refine D.cl (fun f fd F => F.ok sc_law_cell (fun vs H Q E h => ?_) (fun cdv A outer s H vs Q E hr h => ?_)) (fun _ _ _ _ _ _ us hl => match us, hl with | [_, _], _ => rfl)
  · obtain ⟨_, _, _, rfl, _⟩ := h
    rfl
  · obtain ⟨S, xs, i, rfl, hs, k⟩ := h
    refine ⟨_, (pss_cons (ps_if (pt_cmpR op_lt (pv 1) (pe_callB call_len_seq (by rfl) T.len (by decide +kernel) (pa_cons (pv 0) pa_nil)) (nomark _)) (pss_one (ps_ret (pe_ix ix_list (pv 0) (pv 1) (fun _ _ => rfl)))) pss_nil) (pss_one (ps_ret pe_int))), ?_⟩
    refine ⟨_, rfl, _, rfl, S, _, rfl, .inl hs, (i : Int), _, rfl, rfl, _, rfl, ?_⟩
    by_cases e : i < xs.length
    · refine ifT (decide_eq_true (by rw [List.length_map]; omega)) ⟨_, rfl, _, rfl, S, _, (i : Int), V.int xs[i], rfl, rfl, hs, atI_nat ?_, k _⟩
      rw [List.getElem?_map, List.getElem?_eq_getElem e]; rfl
    · exact ifF (decide_eq_false (by rw [List.length_map]; omega)) (k 0)
def spHash : Sp := fun vs H Q _ => ∃ s i : Int, vs = [V.int s, V.int i] ∧ 0 ≤ i ∧ i ≤ 1000000 ∧ ∀ h : Int, Q (.int h) H
theorem sc_law_hash : FnScope ["_law_seed", "_law_index", "_law_mixed"] ["_law_seed", "_law_index"] (defScope (top 45)) := ⟨rfl, rfl, rfl, by decide +kernel, rfl, by decide +kernel, by decide +kernel⟩
theorem cl_law_hash (D : Df K mg "_law_hash" (top 45)) (T : Bt mg) : Cl P w K mg base "_law_hash" 1 ["_law_seed", "_law_index"] spHash := by
  refine D.cl (fun f fd F => F.ok sc_law_hash (fun vs H Q E h => ?_) (fun cdv A outer s H vs Q E hr h => ?_)) (fun _ _ _ _ _ _ us hl => match us, hl with | [_, _], _ => rfl)
  · obtain ⟨_, _, rfl, _⟩ := h
    rfl
  · obtain ⟨s, i, rfl, h1, h2, k⟩ := h
    refine ⟨_, (pss_cons (ps_set (i := 2) sc_law_hash.nd rfl (by first | exact Or.inl rfl | exact Or.inr rfl) (pe_op op_mod (pe_callTy call_int1 (by rfl) T.int (by decide +kernel) (pa_cons (pe_op op_add (pe_op op_add (pe_op op_add (pe_op op_mul (pv 0) pe_int) (pe_op op_mul (pe_op op_mul pe_int (pv 1)) (pv 1))) (pv 1)) pe_int) pa_nil)) pe_int)) (pss_cons (ps_set (i := 2) sc_law_hash.nd rfl (by first | exact Or.inl rfl | exact Or.inr rfl) (pe_op op_mod (pe_callTy call_int1 (by rfl) T.int (by decide +kernel) (pa_cons (pe_op op_add (pe_op op_mul (pv 2) (pv 2)) pe_int) pa_nil)) pe_int)) (pss_one (ps_ret (pe_op op_mod (pe_callTy call_int1 (by rfl) T.int (by decide +kernel) (pa_cons (pe_op op_mul (pv 2) pe_int) pa_nil)) pe_int))))), ?_⟩
    refine ⟨_, rfl, _, _, rfl, rfl, .inr (by decide), _, rfl, _, _, rfl, rfl, .inl (by decide), _, rfl, _, _, rfl, rfl, .inr ⟨by omega, by omega⟩, _, _, rfl, rfl, _, rfl, _, _, rfl, rfl, _, _, rfl, rfl, .inl ⟨_, rfl, _, _, rfl, rfl, by show (0 : Int) < 2147483647; decide, ?_⟩⟩
    have hm0 : 0 ≤ (s * 1103515245 + 7919 * i * i + i + 1) % 2147483647 ∧ (s * 1103515245 + 7919 * i * i + i + 1) % 2147483647 < 2147483647 := by omega
    refine ⟨_, rfl, _, rfl, _, _, rfl, rfl, .inl ⟨Int.lt_of_lt_of_le (by decide) hm0.1, Int.lt_trans hm0.2 (by decide)⟩, _, _, rfl, rfl, .inl ⟨_, rfl, _, _, rfl, rfl, by show (0 : Int) < 2147483629; decide, ?_⟩⟩
    exact ⟨_, rfl, _, _, rfl, rfl, .inr (by decide), .inl ⟨_, rfl, _, _, rfl, rfl, by show (0 : Int) < 2147483587; decide, k _⟩⟩
def spGen : Sp := fun vs H Q _ => ∃ (S : Addr) (xs : List Int) (i : Nat), vs = [V.ref S, nV i] ∧ SqL K H S (xs.map V.int) ∧ i ≤ 10 ∧ ∀ H' G, Same H H' → H G = none → GAt H' G 10000 → Q (.ref G) H'
theorem sc_law_generator : FnScope ["_law_script", "_law_index", "_law_seed"] ["_law_script", "_law_index"] (defScope (top 46)) := ⟨rfl, rfl, rfl, by decide +kernel, rfl, by decide +kernel, by decide +kernel⟩
theorem cl_law_generator (D : Df K mg "_law_generator" (top 46)) (T : Bt mg) (c_law_cell : Cl P w K mg base "_law_cell" 1 ["_law_script", "_law_index"] (spCell (K := K))) : Cl P w K mg base "_law_generator" 2 ["_law_script", "_law_index"] (spGen (K := K)) := by
  refine D.cl (fun f fd F => F.ok sc_law_generator (fun vs H Q E h => ?_) (fun cdv A outer s H vs Q E hr h => ?_)) (fun _ _ _ _ _ _ us hl => match us, hl with | [_, _], _ => rfl)
  · obtain ⟨_, _, _, rfl, _⟩ := h
    rfl
  · obtain ⟨S, xs, i, rfl, hs, hi, k⟩ := h
    refine ⟨_, (pss_cons (ps_set (i := 2) sc_law_generator.nd rfl (by first | exact Or.inl rfl | exact Or.inr rfl) (pe_c c_law_cell (hr.mono (by decide)) (pa_cons (pv 0) (pa_cons (pv 1) pa_nil)))) (pss_one (ps_ret (pe_lst (pa_cons (pe_op op_mod (pe_callTy call_int1 (by rfl) T.int (by decide +kernel) (pa_cons (pe_callB (call_max2 rfl) (by rfl) T.max (by decide +kernel) (pa_cons (pe_op op_sub (pv 2) (pe_op op_pow pe_int pe_int)) (pa_cons pe_int pa_nil))) pa_nil)) (pe_op op_powW (pe_op op_pow pe_int pe_int) pe_int)) (pa_cons (pe_op op_mod (pe_callTy call_int1 (by rfl) T.int (by decide +kernel) (pa_cons (pv 2) pa_nil)) pe_int) (pa_cons (pe_op op_mul pe_int (pv 1)) pa_nil))))))), ?_⟩
    refine ⟨_, rfl, _, rfl, S, xs, i, rfl, hs, fun x => ?_⟩
    refine ⟨_, rfl, _, _, rfl, rfl, ⟨by decide, by decide, by decide⟩, _, _, rfl, rfl, _, _, rfl, .inl ⟨_, rfl, _, _, rfl, rfl, ⟨by decide, by decide, by decide⟩, _, _, rfl, rfl, ⟨by decide, by decide +kernel⟩, _, _, rfl, rfl, by show (0 : Int) < (10 ^ Int.toNat 60) ^ Int.toNat 10; decide +kernel, ?_⟩⟩
    refine ⟨_, rfl, .inl ⟨_, rfl, _, _, rfl, rfl, by show (0 : Int) < 2147483647; decide, _, rfl, _, _, rfl, rfl, .inl (by decide), szle (by show 3 ≤ 100000; decide), fun G hG => ?_⟩⟩
    refine k _ _ (same_new hG) hG ⟨_, _, _, upd_same, Int.emod_nonneg _ (by decide +kernel), by omega, by omega⟩
def spRandom : Sp := fun vs H Q _ => ∃ (G : Addr) (m B : Nat), vs = [V.ref G, nV m] ∧ GAt H G B ∧ 1 ≤ m ∧ m ≤ 2000 ∧ B ≤ 100000 ∧ ∀ H' d, But G H H' → GAt H' G (B + 1) → d < m → Q (nV d) H'
theorem sc_law_random : FnScope ["_law_generator_here", "_law_bound", "_law_drawn", "_law_part"] ["_law_generator_here", "_law_bound"] (defScope (top 47)) := ⟨rfl, rfl, rfl, by decide +kernel, rfl, by decide +kernel, by decide +kernel⟩
theorem cl_law_random (D : Df K mg "_law_random" (top 47)) (T : Bt mg) (c_law_hash : Cl P w K mg base "_law_hash" 1 ["_law_seed", "_law_index"] spHash) : Cl P w K mg base "_law_random" 2 ["_law_generator_here", "_law_bound"] spRandom := by
  refine D.cl (fun f fd F => F.ok sc_law_random (fun vs H Q E h => ?_) (fun cdv A outer s H vs Q E hr h => ?_)) (fun _ _ _ _ _ _ us hl => match us, hl with | [_, _], _ => rfl)
  · obtain ⟨_, _, _, rfl, _⟩ := h
    rfl
  · obtain ⟨G, m, B, rfl, g, hm1, hm2, hB, k⟩ := h
    refine ⟨_, (pss_cons (ps_if (pt_cmpR op_gt (pe_ix ix_list (pv 0) pe_int (fun _ _ => rfl)) pe_int (nomark _)) (pss_cons (ps_set (i := 2) sc_law_random.nd rfl (by first | exact Or.inl rfl | exact Or.inr rfl) (pe_op op_mod (pe_callTy call_int1 (by rfl) T.int (by decide +kernel) (pa_cons (pe_ix ix_list (pv 0) pe_int (fun _ _ => rfl)) pa_nil)) (pv 1))) (pss_cons (ps_asg (pe_op op_fdiv (pe_ix ix_list (pv 0) pe_int (fun _ _ => rfl)) (pv 1)) (pg_sub (pv 0) pe_int set_list)) (pss_one (ps_ret (pv 2))))) pss_nil) (pss_cons (ps_set (i := 2) sc_law_random.nd rfl (by first | exact Or.inl rfl | exact Or.inr rfl) pe_int) (pss_cons (ps_for PassesOwn.never rfl (pi_range1 (by rfl) T.range (pa_cons (pe_op op_add pe_int (pe_op op_fdiv (pe_bits (pv 1)) pe_int)) pa_nil)) (pg_name (i := 3) sc_law_random.nd rfl (by first | exact Or.inl rfl | exact Or.inr rfl)) (pss_cons (ps_asg (pe_op op_add (pe_ix ix_list (pv 0) pe_int (fun _ _ => rfl)) pe_int) (pg_sub (pv 0) pe_int set_list)) (pss_one (ps_set (i := 2) sc_law_random.nd rfl (by first | exact Or.inl rfl | exact Or.inr rfl) (pe_op op_add (pe_op op_mul (pv 2) pe_int) (pe_c c_law_hash (hr.mono (by decide)) (pa_cons (pe_ix ix_list (pv 0) pe_int (fun _ _ => rfl)) (pa_cons (pe_ix ix_list (pv 0) pe_int (fun _ _ => rfl)) pa_nil)))))))) (pss_one (ps_ret (pe_op op_mod (pe_callTy call_int1 (by rfl) T.int (by decide +kernel) (pa_cons (pv 2) pa_nil)) (pv 1))))))), ?_⟩
    obtain ⟨a, b, c, hg, ha, hc1, hc2⟩ := g
    have i0 : atI [V.int a, V.int b, V.int c] 0 = some (.int a) := rfl
    have i1 : atI [V.int a, V.int b, V.int c] 1 = some (.int b) := rfl
    have i2 : atI [V.int a, V.int b, V.int c] 2 = some (.int c) := rfl
    refine ⟨_, rfl, G, _, 0, _, rfl, rfl, sqL hg, i0, _, _, rfl, rfl, _, rfl, ?_⟩
    by_cases e : 0 < a
    · refine ifT (decide_eq_true e) ?_
      refine ⟨_, rfl, G, _, 0, _, rfl, rfl, sqL hg, i0, .inl ⟨_, rfl, _, rfl, _, _, rfl, rfl, by omega, ?_⟩⟩
      refine ⟨_, rfl, G, _, 0, _, rfl, rfl, sqL hg, i0, _, rfl, _, _, rfl, rfl, ⟨by omega, by omega⟩, _, rfl, G, _, 0, 0, rfl, rfl, hg, rfl, ?_⟩
      have h1 := Int.emod_nonneg a (show (m : Int) ≠ 0 by omega)
      have h2 := Int.emod_lt_of_pos a (show (0 : Int) < m by omega)
      obtain ⟨d, hd⟩ := Int.eq_ofNat_of_zero_le h1
      refine ⟨_, rfl, ?_⟩
      show Q (.int (a % m)) (upd H G (.lst [.int (a / m), .int b, .int c]))
      rw [hd] at h2 ⊢
      exact k _ d But.upd ⟨a / m, b, c, upd_same, Int.ediv_nonneg ha (by omega), hc1, by omega⟩ (by omega)
    · refine ifF (decide_eq_false e) ?_
      have eb : ((Builtin.Int.intBits (m : Int) : Nat) : Int) / 30 = 0 := by
        have h3 : Builtin.Int.intBits (m : Int) ≤ 11 := PyProof.Rows.intBits_le (by omega)
        omega
      refine ⟨_, rfl, _, rfl, _, _, rfl, rfl, ⟨by decide, by decide⟩, _, _, rfl, rfl, _, rfl, by rw [eb]; decide, by rw [eb]; decide, ?_⟩
      rw [eb]
      refine for_range (n := 1) (fun i σ H' => ∃ y z, σ = [some (.ref G), some (nV m), some (.int y), z] ∧ ((i = 0 ∧ y = 0 ∧ H' = H) ∨ (i = 1 ∧ But G H H' ∧ GAt H' G (B + 1)))) ⟨0, _, rfl, .inl ⟨rfl, rfl, rfl⟩⟩ ?_ ?_
      · rintro i σ H' hi ⟨y, z, rfl, h | h⟩
        · obtain ⟨rfl, rfl, rfl⟩ := h
          refine ⟨_, rfl, G, _, 2, _, rfl, rfl, sqL hg, i2, _, _, rfl, rfl, _, rfl, G, _, 2, 2, rfl, rfl, hg, rfl, ?_⟩
          have j1 : atI [V.int a, V.int b, V.int (c + 1)] 1 = some (.int b) := rfl
          have j2 : atI [V.int a, V.int b, V.int (c + 1)] 2 = some (.int (c + 1)) := rfl
          have hg2 : upd H' G (.lst [V.int a, V.int b, V.int (c + 1)]) G = some (.lst [V.int a, V.int b, V.int (c + 1)]) := upd_same
          refine ⟨_, rfl, _, _, rfl, rfl, .inl (by decide), _, rfl, G, _, 1, _, rfl, rfl, sqL hg2, j1, _, rfl, G, _, 2, _, rfl, rfl, sqL hg2, j2, b, c + 1, rfl, by omega, by omega, fun hh => ?_⟩
          exact ⟨_, _, rfl, rfl, _, _, rfl, .inr ⟨rfl, But.upd, a, b, c + 1, upd_same, ha, by omega, by omega⟩⟩
        · omega
      · rintro σ H' ⟨y, z, rfl, h | h⟩
        · omega
        · obtain ⟨_, h1, h2⟩ := h
          refine ⟨_, rfl, .inl ⟨_, rfl, _, rfl, _, _, rfl, rfl, by omega, ?_⟩⟩
          have h3 := Int.emod_nonneg y (show (m : Int) ≠ 0 by omega)
          have h4 := Int.emod_lt_of_pos y (show (0 : Int) < m by omega)
          obtain ⟨d, hd⟩ := Int.eq_ofNat_of_zero_le h3
          show Q (.int (y % m)) H'
          rw [hd] at h4 ⊢
          exact k _ d h1 h2 (by omega)
end
end Mu


/-! the law's shuffling, charts, names. -/
namespace Mu
open PySem L2 PyProof.Rows PySem.SeqAt Mv
theorem ixN_lt {n j : Nat} (h : j < n) : ixN n (j : Int) = some j := by
  unfold ixN
  rw [if_pos (by omega), if_pos (by omega)]
  simp
theorem erase_map {α β : Type} (f : α → β) : ∀ (xs : List α) (k : Nat), (xs.map f).eraseIdx k = (xs.eraseIdx k).map f
  | [], _ => rfl
  | _ :: _, 0 => rfl
  | x :: xs, k + 1 => by
    show f x :: (xs.map f).eraseIdx k = _
    rw [erase_map f xs k]
    rfl
theorem perm_erase : ∀ {xs : List Int} {k : Nat} {y : Int}, xs[k]? = some y → (y :: xs.eraseIdx k).Perm xs
  | [], _, _, h => by cases h
  | x :: xs, 0, y, h => by
    obtain rfl : x = y := Option.some.inj h
    exact List.Perm.refl _
  | x :: xs, k + 1, y, h => by
    show (y :: x :: xs.eraseIdx k).Perm (x :: xs)
    exact (List.Perm.swap x y _).trans (List.Perm.cons x (perm_erase (xs := xs) h))
section
variable {P : Program} {w : World} {K : PySem.W.Frag} {mg : Str → Option Value} {base : Heap} {C : Addr}
theorem But.new {G : Addr} {H H2 : Hp} {p : Addr} {o : HO} (b : But G H H2) (h : H p = none) : But G H (L2.upd H2 p o) := fun z u e n => by
  rw [upd_ne (ne_of_none e h)]; exact b z u e n
theorem GAt.ne {H : Hp} {G p : Addr} {B : Nat} (g : GAt H G B) (h : H p = none) : G ≠ p := by
  obtain ⟨a, b, c, e, -⟩ := g
  exact ne_of_none e h
theorem But.free {G : Addr} {H H2 : Hp} {p : Addr} (b : But G H H2) (n : G ≠ p) (h : H2 p = none) : H p = none := by
  cases e : H p with
  | none => rfl
  | some o => rw [b _ _ e n.symm] at h; cases h
theorem But.lay {G : Addr} {H H2 : Hp} {p : Addr} {o : HO} {B : Nat} (b : But G H H2) (g : GAt H2 G B) (h : H2 p = none) : But G H (L2.upd H2 p o) := b.new (b.free (g.ne h) h)
def spShuf : Sp := fun vs H Q _ => ∃ (G N : Addr) (B : Nat) (xs : List Int), vs = [V.ref G, V.ref N] ∧ GAt H G B ∧ N ≠ G ∧ H N = some (.lst (xs.map V.int)) ∧ xs.length ≤ 1000 ∧ B ≤ 90000 ∧
  ∀ H' Z (zs : List Int), But G H H' → GAt H' G (B + xs.length) → H Z = none → H' Z = some (.lst (zs.map V.int)) → zs.Perm xs → Q (.ref Z) H'
theorem sc_law_shuffled : FnScope ["_law_generator_here", "_law_items", "_law_pool", "_law_item"] ["_law_generator_here", "_law_items"] (defScope (top 48)) := ⟨rfl, rfl, rfl, by decide +kernel, rfl, by decide +kernel, by decide +kernel⟩
theorem cl_law_shuffled (D : Df K mg "_law_shuffled" (top 48)) (T : Bt mg) (c_law_random : Cl P w K mg base "_law_random" 2 ["_law_generator_here", "_law_bound"] spRandom) : Cl P w K mg base "_law_shuffled" 3 ["_law_generator_here", "_law_items"] spShuf := by
  refine D.cl (fun f fd F => F.ok sc_law_shuffled (fun vs H Q E h => ?_) (fun cdv A outer s H vs Q E hr h => ?_)) (fun _ _ _ _ _ _ us hl => match us, hl with | [_, _], _ => rfl)
  · obtain ⟨_, _, _, _, rfl, _⟩ := h
    rfl
  · obtain ⟨G, N, B, xs, rfl, g, nNG, hN, hz, hB, k⟩ := h
    refine ⟨_, (pss_cons (ps_set (i := 2) sc_law_shuffled.nd rfl (by first | exact Or.inl rfl | exact Or.inr rfl) (pe_callTy call_list_of (by rfl) T.list (by decide +kernel) (pa_cons (pv 1) pa_nil))) (pss_one (ps_ret (pe_lc (own := [("_law_item", 3)]) rfl sc_law_shuffled.nd (pi_list (pv 1)) (blkOk_by (own := [("_law_item", 3)]) (N := ["_law_generator_here", "_law_items", "_law_pool", "_law_item"]) (sc := defScope (top 48)) (by decide +kernel)) (fun _ _ _ _ _ => (pg_name (i := 3) sc_law_shuffled.nd rfl (by first | exact Or.inl rfl | exact Or.inr rfl))) (fun _ _ _ _ _ => pts_nil) (fun _ _ _ _ _ => (pe_bmK (K := K) rfl PySem.F.plainAttrs_list PySem.F.slot_list_pop PySem.F.type_list_pop mt_popAt (pv 2) (pa_cons (pe_c c_law_random (hr.mono (by decide)) (pa_cons (pv 0) (pa_cons (pe_callB (call_lenK (K := K) rfl) (by rfl) T.len (by decide +kernel) (pa_cons (pv 2) pa_nil)) pa_nil))) pa_nil))))))), ?_⟩
    refine ⟨_, rfl, N, _, rfl, .inl (sqL hN), fun L hL => ?_⟩
    obtain ⟨ga, gb, gc, hG, -⟩ := id g
    have nGL : G ≠ L := ne_of_none hG hL
    have sL : Same H (upd H L (.lst (xs.map V.int))) := same_new hL
    refine ⟨_, rfl, N, rfl, ⟨_, sqL (sL _ _ hN)⟩, fun Z hZ => lc_list (xs := xs.map V.int) (fun i H' => But G H H' ∧ GAt H' G (B + i) ∧ ∃ zs ps : List Int, H' Z = some (.lst (zs.map V.int)) ∧ H' L = some (.lst (ps.map V.int)) ∧ (zs ++ ps).Perm xs ∧ zs.length = i) ?_ (fun i H' _ h => sqL (h.1 _ _ hN nNG)) ?_ ?_⟩
    · refine ⟨But.of_same (sL.trans (same_new hZ)), g.same (sL.trans (same_new hZ)), [], xs, upd_same, same_new hZ _ _ upd_same, List.Perm.refl _, rfl⟩
    · rintro i y H' hy ⟨b, g', zs, ps, h1, h2, pm, hl⟩
      have hi : i < xs.length := by
        have := (List.getElem?_eq_some_iff.mp hy).1
        rwa [List.length_map] at this
      have hpl := pm.length_eq
      rw [List.length_append, hl] at hpl
      have nLZ : L ≠ Z := ne_of_none (upd_same (H := H) (a := L)) hZ
      have Z0 : H Z = none := Same.free sL hZ
      have nGZ : G ≠ Z := ne_of_none hG Z0
      refine ⟨rfl, yes (iteT ⟨_, rfl, .inl ⟨rfl, _, sqL h2⟩, _, rfl, _, rfl, L, _, rfl, .inl (sqL h2), G, (ps.map V.int).length, B + i, rfl, g', ?_, ?_, by omega, fun H2 d b2 g2 hd => ?_⟩)⟩
      · rw [List.length_map]; omega
      · rw [List.length_map]; omega
      have hd' : d < ps.length := by rwa [List.length_map] at hd
      have h22 := b2 _ _ h2 nGL.symm
      refine ⟨L, _, (d : Int), d, V.int ps[d], rfl, rfl, h22, by omega, by omega, (ixN_seq (ixN_lt hd)).1, by rw [List.getElem?_map, List.getElem?_eq_getElem hd']; rfl, ?_⟩
      rw [erase_map]
      refine ⟨zs.map V.int, by rw [upd_ne nLZ.symm]; exact b2 _ _ h1 nGZ.symm, szlt (by rw [List.length_map]; omega), ?_, ?_, zs ++ [ps[d]], ps.eraseIdx d, by rw [upd_same, List.map_append]; rfl, by rw [upd_ne nLZ, upd_same], ?_, by rw [List.length_append, hl]; rfl⟩
      · exact ((b.trans b2).new hL).new Z0
      · exact ((g2.but (D := L) But.upd nGL).but (D := Z) But.upd nGZ)
      · rw [List.append_assoc]
        exact (List.Perm.append_left zs (perm_erase (List.getElem?_eq_getElem hd'))).trans pm
    · rintro H' ⟨b, g', zs, ps, h1, h2, pm, hl⟩
      rw [List.length_map] at hl g'
      have hpl := pm.length_eq
      rw [List.length_append, hl] at hpl
      have : ps = [] := List.length_eq_zero_iff.mp (by omega)
      subst this
      rw [List.append_nil] at pm
      exact k _ _ zs b g' (Same.free sL hZ) h1 pm
def spRChart : Sp := fun vs H Q _ => ∃ (G : Addr) (B : Nat), vs = [V.ref G, nV 10] ∧ GAt H G B ∧ B ≤ 90000 ∧ ∀ H' a n up, But G H H' → GAt H' G (B + 40) → CAt H' a n up → n ≤ 10 → Q (.ref a) H'
theorem at5 {k : Nat} (hk : k < 5) {a b c d e : Int} (ha : 0 ≤ a) (hb : 0 ≤ b) (hc : 0 ≤ c) (hd : 0 ≤ d) (he : 0 ≤ e) : ∃ z : Int, 0 ≤ z ∧ atI [V.int a, V.int b, V.int c, V.int d, V.int e] (k : Int) = some (.int z) := by
  match k, hk with
  | 0, _ => exact ⟨a, ha, rfl⟩
  | 1, _ => exact ⟨b, hb, rfl⟩
  | 2, _ => exact ⟨c, hc, rfl⟩
  | 3, _ => exact ⟨d, hd, rfl⟩
  | 4, _ => exact ⟨e, he, rfl⟩
theorem at3 {k : Nat} (hk : k < 3) {a b c : Int} (ha : 0 ≤ a) (hb : 0 ≤ b) (hc : 0 ≤ c) : ∃ z : Int, 0 ≤ z ∧ atI [V.int a, V.int b, V.int c] (k : Int) = some (.int z) := by
  match k, hk with
  | 0, _ => exact ⟨a, ha, rfl⟩
  | 1, _ => exact ⟨b, hb, rfl⟩
  | 2, _ => exact ⟨c, hc, rfl⟩
theorem sc_law_random_chart : FnScope ["_law_generator_here", "_law_most", "_law_size", "_law_kind", "_law_tree", "_law_place", "_law_upper"] ["_law_generator_here", "_law_most"] (defScope (top 49)) := ⟨rfl, rfl, rfl, by decide +kernel, rfl, by decide +kernel, by decide +kernel⟩
theorem cl_law_random_chart (D : Df K mg "_law_random_chart" (top 49)) (T : Bt mg) (c_law_random : Cl P w K mg base "_law_random" 2 ["_law_generator_here", "_law_bound"] spRandom) : Cl P w K mg base "_law_random_chart" 3 ["_law_generator_here", "_law_most"] spRChart := by
  refine D.cl (fun f fd F => F.ok sc_law_random_chart (fun vs H Q E h => ?_) (fun cdv A outer s H vs Q E hr h => ?_)) (fun _ _ _ _ _ _ us hl => match us, hl with | [_, _], _ => rfl)
  · obtain ⟨_, _, rfl, _⟩ := h
    rfl
  · obtain ⟨G, B, rfl, g, hB, k⟩ := h
    refine ⟨_, (pss_cons (ps_set (i := 2) sc_law_random_chart.nd rfl (by first | exact Or.inl rfl | exact Or.inr rfl) (pe_op op_add pe_int (pe_c c_law_random (hr.mono (by decide)) (pa_cons (pv 0) (pa_cons (pv 1) pa_nil))))) (pss_cons (ps_set (i := 3) sc_law_random_chart.nd rfl (by first | exact Or.inl rfl | exact Or.inr rfl) (pe_c c_law_random (hr.mono (by decide)) (pa_cons (pv 0) (pa_cons pe_int pa_nil)))) (pss_cons (ps_set (i := 4) sc_law_random_chart.nd rfl (by first | exact Or.inl rfl | exact Or.inr rfl) (pe_lst (pa_cons pe_non pa_nil))) (pss_cons (ps_for PassesOwn.never rfl (pi_range2 (by rfl) T.range (pa_cons pe_int (pa_cons (pv 2) pa_nil))) (pg_name (i := 5) sc_law_random_chart.nd rfl (by first | exact Or.inl rfl | exact Or.inr rfl)) (pss_cons (ps_set (i := 6) sc_law_random_chart.nd rfl (by first | exact Or.inl rfl | exact Or.inr rfl) (pe_lst (pa_cons (pe_op op_sub (pv 5) pe_int) (pa_cons pe_int (pa_cons (pe_c c_law_random (hr.mono (by decide)) (pa_cons (pv 0) (pa_cons (pv 5) pa_nil))) (pa_cons (pe_callB (call_max2 rfl) (by rfl) T.max (by decide +kernel) (pa_cons pe_int (pa_cons (pe_op op_sub (pe_op op_sub (pv 5) pe_int) (pe_c c_law_random (hr.mono (by decide)) (pa_cons (pv 0) (pa_cons pe_int pa_nil)))) pa_nil))) (pa_cons (pe_op op_fdiv (pv 5) pe_int) pa_nil))))))) (pss_one (ps_expr (pe_bm PySem.F.plainAttrs_list PySem.F.slot_list_append PySem.F.type_list_append mt_append (pv 4) (pa_cons (pe_callB (call_min2 rfl) (by rfl) T.min (by decide +kernel) (pa_cons (pe_op op_sub (pv 5) pe_int) (pa_cons (pe_ix ix_list (pv 6) (pv 3) (fun _ _ => rfl)) pa_nil))) pa_nil)))))) (pss_one (ps_ret (pe_callTy call_tuple_of (by rfl) T.tuple (by decide +kernel) (pa_cons (pv 4) pa_nil)))))))), ?_⟩
    refine ⟨_, rfl, _, rfl, G, 10, B, rfl, g, by decide, by decide, by omega, fun H1 d1 b1 g1 hd1 => ⟨_, _, rfl, rfl, ?_⟩⟩
    refine ⟨_, rfl, G, 5, _, rfl, g1, by decide, by decide, by omega, fun H2 kd b2 g2 hkd => ?_⟩
    have b12 := b1.trans b2
    refine ⟨szle (by show 1 ≤ 100000; decide), fun L hL => ?_⟩
    have nGL : G ≠ L := g2.ne hL
    have L0 : H L = none := b12.free nGL hL
    refine ⟨_, rfl, 1, (1 + (d1 : Int)), rfl, ⟨by decide, by decide, by omega, by omega⟩, ?_⟩
    rw [show ((1 + (d1 : Int)) - 1).toNat = d1 by omega]
    refine for_range (n := d1) (fun i σ H' => (∃ x1 x2 , σ = [some (.ref G), some (nV 10), some (.int (1 + (d1 : Int))), some (nV kd), some (.ref L), x1, x2]) ∧ But G H H' ∧ GAt H' G (B + 2 + 2 * i) ∧ ∃ up : Nat → Nat, up 0 = 0 ∧ (∀ k, 0 < k → up k < k) ∧ H' L = some (.lst (tab (i + 1) (cV up)))) ?_ ?_ ?_
    · exact ⟨⟨_, _, rfl⟩, b12.new L0, g2.same (same_new hL), fun k => 0, rfl, fun k h => h, upd_same⟩
    · rintro i σ H' hi ⟨⟨x1, x2, rfl⟩, b, g', up, u0, ul, hl⟩
      have ei : (1 + (i : Int)) = ((i + 1 : Nat) : Int) := by omega
      refine ⟨_, rfl, _, _, rfl, rfl, _, rfl, _, rfl, G, i + 1, _, by rw [ei]; rfl, g', by omega, by omega, by omega, fun H3 d3 b3 g3 hd3 => ?_⟩
      refine ⟨_, rfl, _, _, rfl, rfl, _, rfl, G, 3, _, rfl, g3, by decide, by decide, by omega, fun H4 d4 b4 g4 hd4 => ?_⟩
      have b34 := (b.trans b3).trans b4
      have hl4 : H4 L = some (.lst (tab (i + 1) (cV up))) := b4 _ _ (b3 _ _ hl nGL.symm) nGL.symm
      refine ⟨_, _, rfl, rfl, _, _, rfl, _, rfl, _, _, rfl, rfl, ⟨by decide, by decide⟩, szle (by show 5 ≤ 100000; decide), fun U hU => ?_⟩
      obtain ⟨z, z0, hz⟩ := at5 hkd (a := 1 + (i : Int) - 1) (b := 0) (c := (d3 : Int)) (d := if 1 + (i : Int) - 1 - (d4 : Int) > 0 then 1 + (i : Int) - 1 - (d4 : Int) else 0) (e := (1 + (i : Int)) / 2) (by omega) (by omega) (by omega) (by split <;> omega) (by omega)
      have hl5 := same_new (o := .lst [V.int (1 + (i : Int) - 1), V.int 0, V.int (d3 : Int), V.int (if 1 + (i : Int) - 1 - (d4 : Int) > 0 then 1 + (i : Int) - 1 - (d4 : Int) else 0), V.int ((1 + (i : Int)) / 2)]) hU _ _ hl4
      refine ⟨_, rfl, .inl ⟨rfl, _, sqL hl5⟩, _, rfl, _, _, rfl, rfl, _, rfl, _, rfl, U, _, (kd : Int), .int z, rfl, rfl, sqL upd_same, hz, _, _, rfl, L, _, _, rfl, rfl, hl5, szlt (by rw [tab_len]; omega), ⟨_, _, rfl⟩, ?_, ?_, ?_⟩
      · exact (b34.lay g4 hU).new L0
      · exact (((g4.same (same_new hU)).but But.upd nGL)).le (by omega)
      · have hw : 0 ≤ (if z < 1 + (i : Int) - 1 then z else 1 + (i : Int) - 1) ∧ (if z < 1 + (i : Int) - 1 then z else 1 + (i : Int) - 1) < (i : Int) + 1 := by split <;> omega
        obtain ⟨m, hm⟩ := Int.eq_ofNat_of_zero_le hw.1
        refine ⟨fun k => if k = i + 1 then m else up k, ?_, fun k hk => ?_, ?_⟩
        · show (if 0 = i + 1 then m else up 0) = 0
          rw [if_neg (by omega)]; exact u0
        · show (if k = i + 1 then m else up k) < k
          split
          · omega
          · exact ul k hk
        · rw [upd_same]
          show some (HO.lst (tab (i + 1) (cV up) ++ [V.int (if z < 1 + (i : Int) - 1 then z else 1 + (i : Int) - 1)])) = _
          rw [hm]
          have e1 : tab (i + 1) (cV up) = tab (i + 1) (cV fun k => if k = i + 1 then m else up k) := tab_congr fun k hk => by
            unfold cV
            dsimp only
            rw [if_neg (show ¬ k = i + 1 by omega)]
          have e2 : V.int ((m : Nat) : Int) = cV (fun k => if k = i + 1 then m else up k) (i + 1) := by
            rw [cV_pos (by omega)]
            show V.int (m : Int) = nV (if i + 1 = i + 1 then m else up (i + 1))
            rw [if_pos rfl]
            rfl
          rw [e1]
          show some (HO.lst (_ ++ [V.int ((m : Nat) : Int)])) = _
          rw [e2]
          exact congrArg (fun q => some (HO.lst q)) tab_snoc
    · rintro σ H' ⟨⟨x1, x2, rfl⟩, b, g', up, u0, ul, hl⟩
      exact ⟨_, rfl, L, _, rfl, .inl ⟨sqL hl, fun o ho => k _ o (d1 + 1) up (b.lay g' ho) ((g'.same (same_new ho)).le (by omega)) ⟨upd_same, ⟨by omega, u0, ul⟩, by omega⟩ (by omega)⟩⟩
def spNames : Sp := fun vs H Q _ => ∃ (G : Addr) (B n : Nat), vs = [V.ref G, nV n] ∧ GAt H G B ∧ n ≤ 100 ∧ B ≤ 90000 ∧
  ∀ H' L (xs : List Int), But G H H' → GAt H' G (B + 2 + n) → H L = none → H' L = some (.lst (xs.map V.int)) → xs.Pairwise (· < ·) → (∀ x ∈ xs, 0 ≤ x) → xs.length = n → Q (.ref L) H'
theorem sc_law_names : FnScope ["_law_generator_here", "_law_count", "_law_kind", "_law_names_here", "_law_name", "_law_index"] ["_law_generator_here", "_law_count"] (defScope (top 50)) := ⟨rfl, rfl, rfl, by decide +kernel, rfl, by decide +kernel, by decide +kernel⟩
theorem cl_law_names (D : Df K mg "_law_names" (top 50)) (T : Bt mg) (c_law_random : Cl P w K mg base "_law_random" 2 ["_law_generator_here", "_law_bound"] spRandom) : Cl P w K mg base "_law_names" 3 ["_law_generator_here", "_law_count"] spNames := by
  refine D.cl (fun f fd F => F.ok sc_law_names (fun vs H Q E h => ?_) (fun cdv A outer s H vs Q E hr h => ?_)) (fun _ _ _ _ _ _ us hl => match us, hl with | [_, _], _ => rfl)
  · obtain ⟨_, _, _, rfl, _⟩ := h
    rfl
  · obtain ⟨G, B, n, rfl, g, hn, hB, k⟩ := h
    refine ⟨_, (pss_cons (ps_set (i := 2) sc_law_names.nd rfl (by first | exact Or.inl rfl | exact Or.inr rfl) (pe_c c_law_random (hr.mono (by decide)) (pa_cons (pv 0) (pa_cons pe_int pa_nil)))) (pss_cons (ps_set (i := 3) sc_law_names.nd rfl (by first | exact Or.inl rfl | exact Or.inr rfl) (pe_lst pa_nil)) (pss_cons (ps_set (i := 4) sc_law_names.nd rfl (by first | exact Or.inl rfl | exact Or.inr rfl) (pe_ix ix_list (pe_lst (pa_cons pe_int (pa_cons (pe_c c_law_random (hr.mono (by decide)) (pa_cons (pv 0) (pa_cons pe_int pa_nil))) (pa_cons (pe_op op_sub (pe_op op_sub (pe_op op_pow pe_int pe_int) pe_int) (pe_op op_mul pe_int (pe_op op_add (pv 1) pe_int))) pa_nil)))) (pv 2) (fun _ _ => rfl))) (pss_cons (ps_for PassesOwn.never rfl (pi_range1 (by rfl) T.range (pa_cons (pv 1) pa_nil)) (pg_name (i := 5) sc_law_names.nd rfl (by first | exact Or.inl rfl | exact Or.inr rfl)) (pss_cons (ps_expr (pe_bm PySem.F.plainAttrs_list PySem.F.slot_list_append PySem.F.type_list_append mt_append (pv 3) (pa_cons (pv 4) pa_nil))) (pss_one (ps_set (i := 4) sc_law_names.nd rfl (by first | exact Or.inl rfl | exact Or.inr rfl) (pe_op op_add (pe_op op_add (pv 4) pe_int) (pe_c c_law_random (hr.mono (by decide)) (pa_cons (pv 0) (pa_cons (pe_ix ix_list (pe_lst (pa_cons pe_int (pa_cons pe_int (pa_cons pe_int pa_nil)))) (pv 2) (fun _ _ => rfl)) pa_nil)))))))) (pss_one (ps_ret (pv 3))))))), ?_⟩
    refine ⟨_, rfl, G, 3, B, rfl, g, by decide, by decide, by omega, fun H1 kd b1 g1 hkd => ?_⟩
    refine ⟨szle (by show 0 ≤ 100000; decide), fun L hL => ?_⟩
    have nGL : G ≠ L := g1.ne hL
    have L0 : H L = none := b1.free nGL hL
    have g1' := g1.same (same_new (o := .lst []) hL)
    refine ⟨_, rfl, G, 9, _, rfl, g1', by decide, by decide, by omega, fun H2 d b2 g2 hd => ?_⟩
    have b12 : But G H H2 := (b1.lay g1 hL).trans b2
    refine ⟨_, _, rfl, rfl, ⟨by decide, by decide, by decide⟩, _, _, rfl, rfl, _, rfl, _, _, rfl, rfl, _, _, rfl, rfl, .inl (by decide), _, _, rfl, rfl, szle (by show 3 ≤ 100000; decide), fun U hU => ?_⟩
    obtain ⟨z, z0, hz⟩ := at3 hkd (a := 0) (b := (d : Int)) (c := 10 ^ 18 - 1 - 1000 * ((n : Int) + 1)) (by omega) (by omega) (by omega)
    refine ⟨_, rfl, U, _, (kd : Int), .int z, rfl, rfl, sqL upd_same, hz, ?_⟩
    have hl2 := b2 _ _ (upd_same (H := H1) (a := L) (o := .lst [])) nGL.symm
    refine ⟨_, rfl, n, rfl, by omega, by omega, ?_⟩
    rw [show ((n : Int)).toNat = n by omega]
    refine for_range (n := n) (fun i σ H' => (∃ y x1, σ = [some (.ref G), some (nV n), some (nV kd), some (.ref L), some (.int y), x1] ∧ 0 ≤ y ∧ But G H H' ∧ GAt H' G (B + 2 + i) ∧ ∃ xs : List Int, H' L = some (.lst (xs.map V.int)) ∧ xs.length = i ∧ xs.Pairwise (· < ·) ∧ ∀ x ∈ xs, 0 ≤ x ∧ x < y)) ?_ ?_ ?_
    · exact ⟨z, _, rfl, z0, b12.lay g2 hU, g2.same (same_new hU), [], same_new hU _ _ hl2, rfl, List.Pairwise.nil, by simp⟩
    · rintro i σ H' hi ⟨y, x1, rfl, y0, b, g', xs, h1, h2, h3, h4⟩
      refine ⟨_, rfl, .inl ⟨rfl, _, sqL h1⟩, _, rfl, L, _, _, rfl, rfl, h1, szlt (by rw [List.length_map]; omega), ?_⟩
      have g5 := g'.but (But.upd (H := H') (a := L) (o := .lst (xs.map V.int ++ [V.int y]))) nGL
      have b5 : But G H (L2.upd H' L (.lst (xs.map V.int ++ [V.int y]))) := b.new L0
      have l5 : L2.upd H' L (.lst (xs.map V.int ++ [V.int y])) L = some (.lst (xs.map V.int ++ [V.int y])) := upd_same
      refine ⟨_, rfl, _, _, rfl, rfl, _, rfl, szle (by show 3 ≤ 100000; decide), fun W hW => ?_⟩
      obtain ⟨m, hm1, hm2, hm⟩ : ∃ m : Nat, 1 ≤ m ∧ m ≤ 2000 ∧ atI [V.int 1, V.int 5, V.int 999] (kd : Int) = some (nV m) := by
        match kd, hkd with
        | 0, _ => exact ⟨1, by decide, by decide, rfl⟩
        | 1, _ => exact ⟨5, by decide, by decide, rfl⟩
        | 2, _ => exact ⟨999, by decide, by decide, rfl⟩
      have l6 := same_new (o := .lst [V.int 1, V.int 5, V.int 999]) hW _ _ l5
      refine ⟨_, rfl, W, _, (kd : Int), nV m, rfl, rfl, sqL upd_same, hm, G, m, _, rfl, g5.same (same_new hW), hm1, hm2, by omega, fun H6 d6 b6 g6 hd6 => ?_⟩
      refine ⟨_, _, rfl, rfl, _, _, rfl, by omega, (b5.lay g5 hW).trans b6, g6, xs ++ [y], ?_, ?_, ?_, ?_⟩
      · rw [b6 _ _ l6 nGL.symm, List.map_append]; rfl
      · rw [List.length_append, h2]; rfl
      · rw [List.pairwise_append]
        exact ⟨h3, by simp, fun u hu v hv => by rw [List.mem_singleton.mp hv]; exact (h4 u hu).2⟩
      · intro u hu
        rcases List.mem_append.mp hu with q | q
        · have := h4 u q; omega
        · rw [List.mem_singleton.mp q]; omega
    · rintro σ H' ⟨y, x1, rfl, y0, b, g', xs, h1, h2, h3, h4⟩
      exact ⟨_, rfl, k _ _ xs b g' L0 h1 h3 (fun x hx => (h4 x hx).1) h2⟩
end
end Mu


/-! the law's filling, held people, some of them. -/
namespace Mu
open PySem L2 PyProof.Rows PySem.SeqAt Mv
theorem rep_flat {α : Type} {x : α} : ∀ n : Nat, (List.replicate n [x]).flatten = List.replicate n x
  | 0 => rfl
  | n + 1 => by rw [List.replicate_succ, List.replicate_succ, List.flatten_cons, rep_flat n]; rfl
theorem opn_none {up : Nat → Nat} {r : Rw} {p : Nat} (h : opn up r p = true) : r p = none := by
  unfold opn at h
  rw [Bool.and_eq_true] at h
  exact Option.isNone_iff_eq_none.mp h.1
section
variable {P : Program} {w : World} {K : PySem.W.Frag} {mg : Str → Option Value} {base : Heap} {C : Addr}
def spLOpen : Sp := fun vs H Q _ => ∃ (a R : Addr) (n : Nat) (up : Nat → Nat) (r : Rw), vs = [V.ref a, V.ref R] ∧ CAt H a n up ∧ LAt H R n r ∧ ∀ H' l, Same H H' → H l = none → H' l = some (.lst ((flt n (opn up r)).map nV)) → Q (.ref l) H'
theorem sc_law_open : FnScope ["_law_tree", "_law_rows", "_law_found", "_law_place", "_law_upper"] ["_law_tree", "_law_rows"] (defScope (top 51)) := ⟨rfl, rfl, rfl, by decide +kernel, rfl, by decide +kernel, by decide +kernel⟩
theorem cl_law_open (D : Df K mg "_law_open" (top 51)) (T : Bt mg) : Cl P w K mg base "_law_open" 1 ["_law_tree", "_law_rows"] spLOpen := by
  refine D.cl (fun f fd F => F.ok sc_law_open (fun vs H Q E h => ?_) (fun cdv A outer s H vs Q E hr h => ?_)) (fun _ _ _ _ _ _ us hl => match us, hl with | [_, _], _ => rfl)
  · obtain ⟨_, _, _, _, _, rfl, _⟩ := h
    rfl
  · obtain ⟨a, R, n, up, r, rfl, hc, hR, k⟩ := h
    have hn := hc.2.2
    refine ⟨_, (pss_cons (ps_set (i := 2) sc_law_open.nd rfl (by first | exact Or.inl rfl | exact Or.inr rfl) (pe_lst pa_nil)) (pss_cons (ps_for PassesOwn.never rfl (pi_enumT (by rfl) T.enumerate (pa_cons (pv 0) pa_nil)) (pg_tup rfl (pgs_cons (pg_name (i := 3) sc_law_open.nd rfl (by first | exact Or.inl rfl | exact Or.inr rfl)) (pgs_cons (pg_name (i := 4) sc_law_open.nd rfl (by first | exact Or.inl rfl | exact Or.inr rfl)) pgs_nil))) (pss_one (ps_if (PW.pt (pw_and (pt_cmp (pc_isN (pe_ix ix_list (pv 1) (pv 3) (fun _ _ => rfl)))) (pw_and1 (PW.pt (pw_or (pt_cmp (pc_isN (pv 4))) (pw_or1 (pt_cmp (pc_notN (pe_ix ix_list (pv 1) (pv 4) (fun _ _ => rfl)))))))))) (pss_one (ps_expr (pe_bm PySem.F.plainAttrs_list PySem.F.slot_list_append PySem.F.type_list_append mt_append (pv 2) (pa_cons (pv 3) pa_nil)))) pss_nil))) (pss_one (ps_ret (pv 2))))), ?_⟩
    refine ⟨szle (by show 0 ≤ 100000; decide), fun L hL => ?_⟩
    refine ⟨_, rfl, a, _, rfl, tupS (same_new hL) hc.1, for_enumT (xs := tab n (cV up)) (fun i σ H' => (∃ x y, σ = [some (.ref a), some (.ref R), some (.ref L), x, y]) ∧ Same H H' ∧ H' L = some (.lst ((flt i (opn up r)).map nV))) ⟨⟨_, _, rfl⟩, same_new hL, upd_same⟩ (fun i σ H' _ h => tupS h.2.1 hc.1) ?_ ?_⟩
    · rintro i x T' σ H' hx ⟨⟨x1, x2, rfl⟩, sm, hl⟩ hT
      obtain ⟨hi, rfl⟩ := tab_some hx
      have s2 : Same H (upd H' T' (.tup [V.int (i : Nat), cV up i])) := sm.trans (same_new hT)
      have hl2 : upd H' T' (.tup [V.int (i : Nat), cV up i]) L = some (.lst ((flt i (opn up r)).map nV)) := same_new hT _ _ hl
      have fin : opn up r i = true → ∃ l xs y, V.ref L = V.ref l ∧ [V.int (i : Nat)] = [y] ∧ upd H' T' (.tup [V.int (i : Nat), cV up i]) l = some (.lst xs) ∧ xs.length < sizeLine ∧
          ((∃ x y, [some (V.ref a), some (V.ref R), some (V.ref L), some (V.int (i : Nat)), some (cV up i)] = [some (.ref a), some (.ref R), some (.ref L), x, y]) ∧ Same H (upd (upd H' T' (.tup [V.int (i : Nat), cV up i])) l (.lst (xs ++ [y]))) ∧ upd (upd H' T' (.tup [V.int (i : Nat), cV up i])) l (.lst (xs ++ [y])) L = some (.lst ((flt (i + 1) (opn up r)).map nV))) := fun e =>
        ⟨L, _, _, rfl, rfl, hl2, szlt (by rw [List.length_map]; exact Nat.lt_of_le_of_lt flt_len (by omega)), ⟨_, _, rfl⟩, same_mut s2 hL, flt_step (p := opn up r) (f := nV) hl2 e⟩
      have nofin : opn up r i = false → ((∃ x y, [some (V.ref a), some (V.ref R), some (V.ref L), some (V.int (i : Nat)), some (cV up i)] = [some (.ref a), some (.ref R), some (.ref L), x, y]) ∧ Same H (upd H' T' (.tup [V.int (i : Nat), cV up i])) ∧ upd H' T' (.tup [V.int (i : Nat), cV up i]) L = some (.lst ((flt (i + 1) (opn up r)).map nV))) := fun e =>
        ⟨⟨_, _, rfl⟩, s2, flt_skip hl2 e⟩
      refine ⟨T', _, rfl, sqT upd_same, rfl, _, _, rfl, _, _, rfl, rfl, ?_⟩
      refine ⟨_, rfl, _, rfl, R, _, (i : Int), _, rfl, rfl, lstS s2 hR, at_tab hi, _, rfl, ?_⟩
      show if decide (oV (r i) = V.non) = true then _ else _
      rw [oV_non]
      cases q : r i with
      | some y => exact iteF (iteF (nofin (by unfold opn; rw [q]; rfl)))
      | none =>
        refine iteT ⟨_, rfl, _, rfl, ?_⟩
        by_cases h0 : i = 0
        · subst h0
          exact ifT (by rw [cV_zero]; exact decide_eq_true rfl) (iteT ⟨_, rfl, .inl ⟨rfl, _, sqL hl2⟩, _, rfl, fin (by unfold opn; rw [q]; rfl)⟩)
        · have e := cV_pos (up := up) (k := i) (by omega)
          have hu := hc.2.1.lt i (by omega)
          refine ifF (by rw [e]; exact nV_ne _) ⟨_, rfl, _, rfl, R, _, (up i : Int), _, rfl, e, lstS s2 hR, at_tab (by omega), _, rfl, ?_⟩
          show if (!decide (oV (r (up i)) = V.non)) = true then _ else _
          rw [oV_non, Option.not_isNone]
          by_cases e2 : (r (up i)).isSome = true
          · exact ifT e2 ⟨_, rfl, .inl ⟨rfl, _, sqL hl2⟩, _, rfl, fin (by unfold opn; rw [q, e2]; simp)⟩
          · exact ifF (Bool.eq_false_iff.mpr e2) (nofin (by unfold opn; rw [q, decide_eq_false h0, Bool.eq_false_iff.mpr e2]; rfl))
    · rintro σ H' ⟨⟨x1, x2, rfl⟩, sm, hl⟩
      rw [tab_len] at hl
      exact ⟨_, rfl, k _ _ sm hL hl⟩
def spFilled : Sp := fun vs H Q _ => ∃ (G a N : Addr) (B n : Nat) (up : Nat → Nat) (xs : List Int), vs = [V.ref G, V.ref a, V.ref N] ∧ GAt H G B ∧ CAt H a n up ∧ N ≠ G ∧ H N = some (.lst (xs.map V.int)) ∧ xs.Pairwise (· < ·) ∧ (∀ x ∈ xs, 0 ≤ x) ∧ xs.length ≤ n ∧ B ≤ 90000 ∧
  ∀ H' v r, But G H H' → GAt H' G (B + xs.length) → AAt H' a v n up r → (∀ k x, r k = some x → x ∈ xs) → Q (.ref v) H'
theorem sc_law_filled : FnScope ["_law_generator_here", "_law_tree", "_law_names_here", "_law_rows", "_law_name", "_law_free"] ["_law_generator_here", "_law_tree", "_law_names_here"] (defScope (top 52)) := ⟨rfl, rfl, rfl, by decide +kernel, rfl, by decide +kernel, by decide +kernel⟩
theorem cl_law_filled (D : Df K mg "_law_filled" (top 52)) (T : Bt mg) (c_law_random : Cl P w K mg base "_law_random" 2 ["_law_generator_here", "_law_bound"] spRandom) (c_law_open : Cl P w K mg base "_law_open" 1 ["_law_tree", "_law_rows"] spLOpen) : Cl P w K mg base "_law_filled" 3 ["_law_generator_here", "_law_tree", "_law_names_here"] spFilled := by
  refine D.cl (fun f fd F => F.ok sc_law_filled (fun vs H Q E h => ?_) (fun cdv A outer s H vs Q E hr h => ?_)) (fun _ _ _ _ _ _ us hl => match us, hl with | [_, _, _], _ => rfl)
  · obtain ⟨_, _, _, _, _, _, _, rfl, _⟩ := h
    rfl
  · obtain ⟨G, a, N, B, n, up, xs, rfl, g, hc, nNG, hN, srt, hx0, hz, hB, k⟩ := h
    have hn := hc.2.2
    refine ⟨_, (pss_cons (ps_set (i := 3) sc_law_filled.nd rfl (by first | exact Or.inl rfl | exact Or.inr rfl) (pe_op op_rep (pe_lst (pa_cons pe_non pa_nil)) (pe_callB call_len_seq (by rfl) T.len (by decide +kernel) (pa_cons (pv 1) pa_nil)))) (pss_cons (ps_for PassesOwn.never rfl (pi_list (pv 2)) (pg_name (i := 4) sc_law_filled.nd rfl (by first | exact Or.inl rfl | exact Or.inr rfl)) (pss_cons (ps_set (i := 5) sc_law_filled.nd rfl (by first | exact Or.inl rfl | exact Or.inr rfl) (pe_c c_law_open (hr.mono (by decide)) (pa_cons (pv 1) (pa_cons (pv 3) pa_nil)))) (pss_one (ps_asg (pv 4) (pg_sub (pv 3) (pe_ix ix_list (pv 5) (pe_c c_law_random (hr.mono (by decide)) (pa_cons (pv 0) (pa_cons (pe_callB call_len_seq (by rfl) T.len (by decide +kernel) (pa_cons (pv 5) pa_nil)) pa_nil))) (fun _ _ => rfl)) set_list))))) (pss_one (ps_ret (pe_callTy call_tuple_of (by rfl) T.tuple (by decide +kernel) (pa_cons (pv 3) pa_nil)))))), ?_⟩
    refine ⟨szle (by show 1 ≤ 100000; decide), fun U hU => ?_⟩
    have s1 : Same H (upd H U (.lst [.non])) := same_new hU
    refine ⟨_, rfl, a, _, rfl, .inr (tupS s1 hc.1), ?_⟩
    rw [tab_len]
    refine ⟨U, (n : Int), _, rfl, rfl, upd_same, by omega, by omega, szle (by show 1 * _ ≤ 100000; omega), fun R hR => ?_⟩
    have s2 : Same H (upd (upd H U (.lst [.non])) R (.lst (List.replicate (n : Int).toNat [V.non]).flatten)) := s1.trans (same_new hR)
    have R0 : H R = none := Same.free s1 hR
    have nGR : G ≠ R := g.ne R0
    have e0 : (List.replicate (n : Int).toNat [V.non]).flatten = tab n (rV fun _ => none) := by
      show _ = tab n (fun _ => V.non)
      rw [tab_rep, show ((n : Int)).toNat = n by omega, rep_flat]
    rw [e0] at s2 ⊢
    refine ⟨_, rfl, N, rfl, ⟨_, lstS s2 hN⟩, for_list (xs := xs.map V.int) (fun i σ H' => (∃ x y, σ = [some (.ref G), some (.ref a), some (.ref N), some (.ref R), x, y]) ∧ But G H H' ∧ GAt H' G (B + i) ∧ ∃ r, LAt H' R n r ∧ Ar n up r ∧ cnt n r = i ∧ ∀ k x, r k = some x → x ∈ xs.take i) ?_ ?_ ?_ ?_⟩
    · exact ⟨⟨_, _, rfl⟩, But.of_same s2, g.same s2, _, upd_same, Ar.empty, cnt_none, fun k x h => by cases h⟩
    · exact fun i σ H' _ h => sqL (h.2.1 _ _ hN nNG)
    · rintro i y σ H' hy ⟨⟨x1, x2, rfl⟩, b, g', r, hr1, ar, hcnt, hin⟩
      rw [List.getElem?_map] at hy
      obtain ⟨x, hx, rfl⟩ := Option.map_eq_some_iff.mp hy
      have hi := (List.getElem?_eq_some_iff.mp hx).1
      have ha : H' a = some (.tup (tab n (cV up))) := b _ _ hc.1 (by
        obtain ⟨_, _, _, e, -⟩ := g
        exact ne_of hc.1 e (by intro z; cases z))
      obtain ⟨k1, hk1, hk2⟩ := cnt_free (n := n) (r := r) (by omega)
      obtain ⟨p, hp, hpo⟩ := open_of hc.2.1 hk1 hk2
      refine ⟨_, rfl, _, rfl, a, R, n, up, r, rfl, ⟨ha, hc.2⟩, hr1, fun H2 l s3 hl0 hl => ?_⟩
      have hpm : p ∈ flt n (opn up r) := List.mem_filter.mpr ⟨List.mem_range.mpr hp, hpo⟩
      have hlen : 1 ≤ ((flt n (opn up r)).map nV).length := by
        rw [List.length_map]
        exact List.length_pos_of_mem hpm
      have hlen2 : ((flt n (opn up r)).map nV).length ≤ n := by
        rw [List.length_map]
        exact flt_len
      refine ⟨_, rfl, _, rfl, _, rfl, _, rfl, _, rfl, l, _, rfl, .inl (sqL hl), G, _, B + i, rfl, g'.same s3, hlen, by omega, by omega, fun H3 d b3 g3 hd => ?_⟩
      have nGl : G ≠ l := g'.ne hl0
      have hl3 := b3 _ _ hl nGl.symm
      have hd' : d < (flt n (opn up r)).length := by rwa [List.length_map] at hd
      have hq := List.getElem_mem hd'
      obtain ⟨hqn, hqo⟩ := List.mem_filter.mp hq
      have hqn := List.mem_range.mp hqn
      have hr3 : LAt H3 R n r := b3 _ _ (s3 _ _ hr1) nGR.symm
      refine ⟨l, _, (d : Int), nV (flt n (opn up r))[d], rfl, rfl, sqL hl3, atI_nat (by rw [List.getElem?_map, List.getElem?_eq_getElem hd']; rfl), R, _, ((flt n (opn up r))[d] : Nat), (flt n (opn up r))[d], rfl, rfl, hr3, ix_tab hqn, ?_⟩
      have hr : r (flt n (opn up r))[d] = none := by
        exact opn_none hqo
      refine ⟨⟨_, _, rfl⟩, ((b.trans (But.of_same s3)).trans b3).new R0, g3.but But.upd nGR, Mv.st r (flt n (opn up r))[d] (some x), ?_, ?_, ?_, ?_⟩
      · show upd _ _ _ _ = _
        rw [upd_same]
        exact congrArg (fun q => some (HO.lst q)) (tab_st (v := some x))
      · refine ar.put hc.2.1 hqn hqo (hx0 x (List.mem_of_getElem? hx)) fun k y hy => ?_
        obtain ⟨j, hj⟩ := List.mem_iff_getElem?.mp (hin k y hy)
        have hji : j < i := by
          have := (List.getElem?_eq_some_iff.mp hj).1
          rw [List.length_take] at this
          omega
        rw [List.getElem?_take, if_pos hji] at hj
        obtain ⟨li, ei⟩ := List.getElem?_eq_some_iff.mp hj
        obtain ⟨lj, ej⟩ := List.getElem?_eq_some_iff.mp hx
        rw [← ei, ← ej]
        exact List.pairwise_iff_getElem.mp srt j i li lj hji
      · rw [cnt_put hqn hr, hcnt]
      · intro k y hy
        rw [List.take_succ, hx]
        by_cases e : k = (flt n (opn up r))[d]
        · rw [e, Mv.st_same] at hy
          injection hy with hy
          rw [← hy]
          simp
        · rw [Mv.st_ne e] at hy
          exact List.mem_append_left _ (hin k y hy)
    · rintro σ H' ⟨⟨x1, x2, rfl⟩, b, g', r, hr1, ar, hcnt, hin⟩
      rw [List.length_map] at g' hin
      rw [List.take_length] at hin
      have ha : H' a = some (.tup (tab n (cV up))) := b _ _ hc.1 (by
        obtain ⟨_, _, _, e, -⟩ := g
        exact ne_of hc.1 e (by intro z; cases z))
      refine ⟨_, rfl, R, _, rfl, .inl ⟨sqL hr1, fun o ho => k _ o r (b.lay g' ho) (g'.same (same_new ho)) ⟨⟨same_new ho _ _ ha, hc.2⟩, upd_same, ar⟩ hin⟩⟩
end
end Mu


/-! held people, some of them, renumbering, what is moved. -/
namespace Mu
open PySem L2 PyProof.Rows PySem.SeqAt Mv
section
variable {P : Program} {w : World} {K : PySem.W.Frag} {mg : Str → Option Value} {base : Heap} {C : Addr}
def spHeldL : Sp := fun vs H Q _ => ∃ (v : Addr) (n : Nat) (r : Rw), vs = [V.ref v] ∧ RAt H v n r ∧ n ≤ 60 ∧ (∀ j k x, r j = some x → r k = some x → j = k) ∧
  ∀ H' L (zs : List Int), Same H H' → H L = none → H' L = some (.lst (zs.map V.int)) → (∀ x, x ∈ zs ↔ Held n r x) → zs.Nodup → zs.length ≤ n → Q (.ref L) H'
theorem sc_law_held : FnScope ["_law_rows", "_law_name"] ["_law_rows"] (defScope (top 53)) := ⟨rfl, rfl, rfl, by decide +kernel, rfl, by decide +kernel, by decide +kernel⟩
theorem cl_law_held (D : Df K mg "_law_held" (top 53)) (T : Bt mg) : Cl P w K mg base "_law_held" 1 ["_law_rows"] spHeldL := by
  refine D.cl (fun f fd F => F.ok sc_law_held (fun vs H Q E h => ?_) (fun cdv A outer s H vs Q E hr h => ?_)) (fun _ _ _ _ _ _ us hl => match us, hl with | [_], _ => rfl)
  · obtain ⟨_, _, _, rfl, _⟩ := h
    rfl
  · obtain ⟨v, n, r, rfl, hv, hn, inj, k⟩ := h
    refine ⟨_, (pss_one (ps_ret (pe_callB cr_sortedI (by rfl) T.sorted (by decide +kernel) (pa_cons (pe_lc (own := [("_law_name", 1)]) rfl sc_law_held.nd (pi_tup (pv 0)) (blkOk_by (own := [("_law_name", 1)]) (N := ["_law_rows", "_law_name"]) (sc := defScope (top 53)) (by decide +kernel)) (fun _ _ _ _ _ => (pg_name (i := 1) sc_law_held.nd rfl (by first | exact Or.inl rfl | exact Or.inr rfl))) (fun _ _ _ _ _ => (pts_one (pt_cmp (pc_notN (pv 1))))) (fun _ _ _ _ _ => (pv 1))) pa_nil)))), ?_⟩
    refine ⟨_, rfl, v, rfl, ⟨_, sqT hv⟩, fun L hL => lc_tup (xs := tab n (rV r)) (fun i H' => Same H H' ∧ ∃ ns : List Int, H' L = some (.lst (ns.map V.int)) ∧ (∀ x, x ∈ ns ↔ ∃ k, k < i ∧ r k = some x) ∧ ns.Nodup ∧ ns.length ≤ i) ⟨same_new hL, [], upd_same, by simp, List.nodup_nil, Nat.le_refl _⟩ (fun i H' _ h => tupS h.1 hv) ?_ ?_⟩
    · rintro i y H' hy ⟨sm, ns, h1, h2, h3, h4⟩
      obtain ⟨hi, rfl⟩ := tab_some hy
      refine ⟨rfl, _, rfl, _, rfl, ?_⟩
      show if (!decide (oV (r i) = V.non)) = true then _ else _
      rw [oV_non, Option.not_isNone]
      cases q : r i with
      | none =>
        refine iteF ⟨sm, ns, h1, fun x => (h2 x).trans ⟨fun ⟨k, hk, e⟩ => ⟨k, by omega, e⟩, fun ⟨k, hk, e⟩ => ⟨k, ?_, e⟩⟩, h3, by omega⟩
        rcases Nat.lt_or_ge k i with z | z
        · exact z
        · have : k = i := by omega
          rw [this, q] at e
          cases e
      | some x =>
        refine iteT ⟨_, rfl, _, h1, szlt (by rw [List.length_map]; omega), same_mut sm hL, ns ++ [x], ?_, fun y => ?_, ?_, by rw [List.length_append]; exact Nat.add_le_add_right h4 1⟩
        · rw [upd_same, List.map_append]
          show some (HO.lst (_ ++ [oV (r i)])) = _
          rw [q]
          rfl
        · rw [List.mem_append, List.mem_singleton, h2]
          constructor
          · rintro (⟨k, hk, e⟩ | rfl)
            · exact ⟨k, by omega, e⟩
            · exact ⟨i, by omega, q⟩
          · rintro ⟨k, hk, e⟩
            by_cases z : k = i
            · rw [z, q] at e
              exact .inr (Option.some.inj e).symm
            · exact .inl ⟨k, by omega, e⟩
        · rw [List.nodup_append]
          refine ⟨h3, by simp, fun u hu z hz e => ?_⟩
          rw [List.mem_singleton.mp hz] at e
          obtain ⟨k, hk, e2⟩ := (h2 u).mp hu
          have := inj _ _ _ (e ▸ e2) q
          omega
    · rintro H' ⟨sm, ns, h1, h2, h3, h4⟩
      rw [tab_len] at h2 h4
      refine ⟨L, ns, rfl, sqL h1, fun zs Z pm so hZ => k _ Z zs (sm.trans (same_new hZ)) (Same.free sm hZ) upd_same (fun x => pm.mem_iff.trans (h2 x)) (pm.nodup_iff.mpr h3) (by rw [pm.length_eq]; exact h4)⟩
def spSome : Sp := fun vs H Q _ => ∃ (G N : Addr) (B : Nat) (xs : List Int), vs = [V.ref G, V.ref N] ∧ GAt H G B ∧ N ≠ G ∧ H N = some (.lst (xs.map V.int)) ∧ xs.length ≤ 100 ∧ B ≤ 80000 ∧
  ∀ H' Z (zs : List Int), But G H H' → GAt H' G (B + 2 * xs.length) → H Z = none → H' Z = some (.lst (zs.map V.int)) → (∀ x ∈ zs, x ∈ xs) → (xs.Nodup → zs.Nodup) → zs.length ≤ xs.length → Q (.ref Z) H'
theorem sc_law_some : FnScope ["_law_generator_here", "_law_names_here", "_law_name"] ["_law_generator_here", "_law_names_here"] (defScope (top 54)) := ⟨rfl, rfl, rfl, by decide +kernel, rfl, by decide +kernel, by decide +kernel⟩
theorem cl_law_some (D : Df K mg "_law_some" (top 54)) (T : Bt mg) (c_law_random : Cl P w K mg base "_law_random" 2 ["_law_generator_here", "_law_bound"] spRandom) (c_law_shuffled : Cl P w K mg base "_law_shuffled" 3 ["_law_generator_here", "_law_items"] spShuf) : Cl P w K mg base "_law_some" 4 ["_law_generator_here", "_law_names_here"] spSome := by
  refine D.cl (fun f fd F => F.ok sc_law_some (fun vs H Q E h => ?_) (fun cdv A outer s H vs Q E hr h => ?_)) (fun _ _ _ _ _ _ us hl => match us, hl with | [_, _], _ => rfl)
  · obtain ⟨_, _, _, _, rfl, _⟩ := h
    rfl
  · obtain ⟨G, N, B, xs, rfl, g, nNG, hN, hz, hB, k⟩ := h
    refine ⟨_, (pss_one (ps_ret (pe_lc (own := [("_law_name", 2)]) rfl sc_law_some.nd (pi_list (pe_c c_law_shuffled (hr.mono (by decide)) (pa_cons (pv 0) (pa_cons (pv 1) pa_nil)))) (blkOk_by (own := [("_law_name", 2)]) (N := ["_law_generator_here", "_law_names_here", "_law_name"]) (sc := defScope (top 54)) (by decide +kernel)) (fun _ _ _ _ _ => (pg_name (i := 2) sc_law_some.nd rfl (by first | exact Or.inl rfl | exact Or.inr rfl))) (fun _ _ _ _ _ => (pts_one (pt_cmpR op_eq (pe_c c_law_random (hr.mono (by decide)) (pa_cons (pv 0) (pa_cons pe_int pa_nil))) pe_int (nomark _)))) (fun _ _ _ _ _ => (pv 2))))), ?_⟩
    refine ⟨_, rfl, _, rfl, G, N, B, xs, rfl, g, nNG, hN, by omega, by omega, fun H1 Y ys b1 g1 Y0 hY pm => ?_⟩
    have nGY : G ≠ Y := g.ne Y0
    have yl := pm.length_eq
    refine ⟨Y, rfl, ⟨_, sqL hY⟩, fun Z hZ => lc_list (xs := ys.map V.int) (fun i H' => But G H1 H' ∧ GAt H' G (B + xs.length + i) ∧ ∃ zs : List Int, H' Z = some (.lst (zs.map V.int)) ∧ zs.Sublist (ys.take i)) ⟨But.of_same (same_new hZ), g1.same (same_new hZ), [], upd_same, List.Sublist.refl _⟩ (fun i H' _ h => sqL (h.1 _ _ hY nGY.symm)) ?_ ?_⟩
    · rintro i y H' hy ⟨b, g', zs, h1, h2⟩
      rw [List.getElem?_map] at hy
      obtain ⟨x, hx, rfl⟩ := Option.map_eq_some_iff.mp hy
      have hi := (List.getElem?_eq_some_iff.mp hx).1
      refine ⟨rfl, _, rfl, G, 2, _, rfl, g', by decide, by decide, by omega, fun H2 d b2 g2 hd => ⟨rfl, _, rfl, ?_⟩⟩
      have nGZ : G ≠ Z := g1.ne hZ
      have h12 := b2 _ _ h1 nGZ.symm
      have hzl := h2.length_le
      rw [List.length_take] at hzl
      have htk : ys.take (i + 1) = ys.take i ++ [x] := by rw [List.take_succ, hx]; rfl
      by_cases e : nV d = V.int 0
      · refine ifT (decide_eq_true e) ⟨_, rfl, _, h12, szlt (by rw [List.length_map]; omega), (b.trans b2).new hZ, g2.but But.upd nGZ, zs ++ [x], by rw [upd_same, List.map_append]; rfl, ?_⟩
        rw [htk]
        exact List.Sublist.append h2 (List.Sublist.refl _)
      · refine ifF (decide_eq_false e) ⟨b.trans b2, g2, zs, h12, ?_⟩
        rw [htk]
        exact h2.trans (List.sublist_append_left _ _)
    · rintro H' ⟨b, g', zs, h1, h2⟩
      rw [List.length_map, List.take_length] at h2
      rw [List.length_map] at g'
      refine k _ Z zs (b1.trans b) (g'.le (by omega)) (b1.free (g1.ne hZ) hZ) h1 (fun x hx => pm.mem_iff.mp (h2.subset hx)) (fun nd => List.Nodup.sublist h2 (pm.nodup_iff.mpr nd)) (by have := h2.length_le; omega)
end
end Mu


/-! renumbering, what is moved. -/
namespace Mu
open PySem L2 PyProof.Rows PySem.SeqAt Mv
theorem nV_inj {j k : Nat} (h : nV j = nV k) : j = k := by
  injection h with h
  omega
theorem nats_flat {xs : List Nat} : (xs.map nV).all flatV = true := by
  rw [List.all_map]
  exact List.all_eq_true.mpr fun _ _ => rfl
theorem nats_nI {xs : List Nat} : (xs.map nV).all nI = true := by
  rw [List.all_map]
  exact List.all_eq_true.mpr fun _ _ => rfl
theorem idx_nats {os : List Nat} {k : Nat} (nd : os.Nodup) (hk : k ∈ os) : (os.map nV)[os.idxOf k]? = some (nV k) ∧ eqV (nV k) (nV k) = true ∧ ∀ (m : Nat) (z : V), m < os.idxOf k → (os.map nV)[m]? = some z → eqV z (nV k) = false := by
  refine ⟨by rw [List.getElem?_map, idx_at hk]; rfl, by show ((k : Int) == (k : Int)) = true; simp, fun m z hm hz => ?_⟩
  rw [List.getElem?_map] at hz
  obtain ⟨j, hj, rfl⟩ := Option.map_eq_some_iff.mp hz
  show ((j : Int) == (k : Int)) = false
  have : j ≠ k := by
    rintro rfl
    have := nd_inj nd hj (idx_at hk)
    omega
  exact beq_eq_false_iff_ne.mpr (by omega)
section
variable {P : Program} {w : World} {K : PySem.W.Frag} {mg : Str → Option Value} {base : Heap} {C : Addr}
theorem kids_filter {n : Nat} {up : Nat → Nat} {p : Nat} : kids n up p = flt n fun l => decide (0 < l ∧ up l = p) := rfl
theorem kids_nodup {n : Nat} {up : Nat → Nat} {p : Nat} : (kids n up p).Nodup := List.Nodup.sublist List.filter_sublist List.nodup_range
def spRenum : Sp := fun vs H Q _ => ∃ (G a : Addr) (B n : Nat) (up : Nat → Nat), vs = [V.ref G, V.ref a] ∧ GAt H G B ∧ CAt H a n up ∧ B ≤ 80000 ∧
  ∀ H' p π ρ, But G H H' → GAt H' G (B + n) → H p = none → H' p = some (.lst (tab n fun k => nV (π k))) → Pm n up π ρ → Q (.ref p) H'
theorem sc_law_renumbering : FnScope ["_law_generator_here", "_law_tree", "_law_order", "_law_waiting", "_law_place", "_law_other", "_law_upper"] ["_law_generator_here", "_law_tree"] (defScope (top 55)) := ⟨rfl, rfl, rfl, by decide +kernel, rfl, by decide +kernel, by decide +kernel⟩
theorem cl_law_renumbering (D : Df K mg "_law_renumbering" (top 55)) (T : Bt mg) (c_law_random : Cl P w K mg base "_law_random" 2 ["_law_generator_here", "_law_bound"] spRandom) : Cl P w K mg base "_law_renumbering" 3 ["_law_generator_here", "_law_tree"] spRenum := by
  refine D.cl (fun f fd F => F.ok sc_law_renumbering (fun vs H Q E h => ?_) (fun cdv A outer s H vs Q E hr h => ?_)) (fun _ _ _ _ _ _ us hl => match us, hl with | [_, _], _ => rfl)
  · obtain ⟨_, _, _, _, _, rfl, _⟩ := h
    rfl
  · obtain ⟨G, a, B, n, up, rfl, g, hc, hB, k⟩ := h
    have hn := hc.2.2
    have nGa : a ≠ G := by
      obtain ⟨_, _, _, e, -⟩ := g
      exact ne_of hc.1 e (by intro z; cases z)
    refine ⟨_, (pss_cons (ps_set (i := 2) sc_law_renumbering.nd rfl (by first | exact Or.inl rfl | exact Or.inr rfl) (pe_lst pa_nil)) (pss_cons (ps_set (i := 3) sc_law_renumbering.nd rfl (by first | exact Or.inl rfl | exact Or.inr rfl) (pe_lst (pa_cons pe_int pa_nil))) (pss_cons (ps_while PassesOwn.never (pt_cmpR (op_neE hr.units) (pv 3) (pe_lst pa_nil) (nomark _)) (pss_cons (ps_set (i := 4) sc_law_renumbering.nd rfl (by first | exact Or.inl rfl | exact Or.inr rfl) (pe_bm PySem.F.plainAttrs_list PySem.F.slot_list_pop PySem.F.type_list_pop mt_popAt (pv 3) (pa_cons (pe_c c_law_random (hr.mono (by decide)) (pa_cons (pv 0) (pa_cons (pe_callB call_len_seq (by rfl) T.len (by decide +kernel) (pa_cons (pv 3) pa_nil)) pa_nil))) pa_nil))) (pss_cons (ps_expr (pe_bm PySem.F.plainAttrs_list PySem.F.slot_list_append PySem.F.type_list_append mt_append (pv 2) (pa_cons (pv 4) pa_nil))) (pss_one (ps_set (i := 3) sc_law_renumbering.nd rfl (by first | exact Or.inl rfl | exact Or.inr rfl) (pe_op op_cat (pv 3) (pe_lc (own := [("_law_other", 5), ("_law_upper", 6)]) rfl sc_law_renumbering.nd (pi_enumT (by rfl) T.enumerate (pa_cons (pv 1) pa_nil)) (blkOk_by (own := [("_law_other", 5), ("_law_upper", 6)]) (N := ["_law_generator_here", "_law_tree", "_law_order", "_law_waiting", "_law_place", "_law_other", "_law_upper"]) (sc := defScope (top 55)) (by decide +kernel)) (fun _ _ _ _ _ => (pg_tupK (K := K) (n := 2) rfl rfl (pgs_cons (pg_name (i := 5) sc_law_renumbering.nd rfl (by first | exact Or.inl rfl | exact Or.inr rfl)) (pgs_cons (pg_name (i := 6) sc_law_renumbering.nd rfl (by first | exact Or.inl rfl | exact Or.inr rfl)) pgs_nil)))) (fun _ _ _ _ _ => (pts_one (pt_cmpR op_eq (pv 6) (pv 4) (nomark _)))) (fun _ _ _ _ _ => (pv 5))))))))) (pss_one (ps_ret (pe_lc (own := [("_law_place", 4)]) rfl sc_law_renumbering.nd (pi_range1 (by rfl) T.range (pa_cons (pe_callB call_len_seq (by rfl) T.len (by decide +kernel) (pa_cons (pv 1) pa_nil)) pa_nil)) (blkOk_by (own := [("_law_place", 4)]) (N := ["_law_generator_here", "_law_tree", "_law_order", "_law_waiting", "_law_place", "_law_other", "_law_upper"]) (sc := defScope (top 55)) (by decide +kernel)) (fun _ _ _ _ _ => (pg_name (i := 4) sc_law_renumbering.nd rfl (by first | exact Or.inl rfl | exact Or.inr rfl))) (fun _ _ _ _ _ => pts_nil) (fun _ _ _ _ _ => (pe_bmK (K := K) rfl PySem.F.plainAttrs_list PySem.F.slot_list_index PySem.F.type_list_index (mt_indexK (K := K) rfl) (pv 2) (pa_cons (pv 4) pa_nil))))))))), ?_⟩
    refine ⟨szle (by show 0 ≤ 100000; decide), fun O hO => ⟨szle (by show 1 ≤ 100000; decide), fun U hU => ?_⟩⟩
    have s1 : Same H (upd H O (.lst [])) := same_new hO
    have nOU : O ≠ U := ne_of_none (upd_same (H := H) (a := O)) hU
    refine ⟨fun m σ H' => ∃ (os ws : List Nat) (x : Addr) (y : Option V) , σ = [some (.ref G), some (.ref a), some (.ref O), some (.ref x), y, none, none] ∧ But G H H' ∧ GAt H' G (B + os.length) ∧ H' O = some (.lst (os.map nV)) ∧ H' x = some (.lst (ws.map nV)) ∧ O ≠ x ∧ H x = none ∧ Od n up os ws ∧ m = n - os.length,
      ⟨_, [], [0], U, none, rfl, But.of_same (s1.trans (same_new hU)), g.same (s1.trans (same_new hU)), same_new hU _ _ upd_same, upd_same, nOU, Same.free s1 hU, Od.init hc.2.1.pos, rfl⟩, ?_⟩
    rintro m σ H' ⟨os, ws, x, y, rfl, b, g', hos, hws, nOx, x0, od, rfl⟩
    refine ⟨_, rfl, szle (by show 0 ≤ 100000; decide), fun e he => ⟨x, e, _, rfl, rfl, nats_nI, sqL (same_new he _ _ hws), sqL upd_same, _, rfl, ?_⟩⟩
    have se : Same H' (upd H' e (.lst [])) := same_new he
    cases ws with
    | nil =>
      refine iteF ?_
      obtain ⟨hlen, pm⟩ := od.pm hc.2.1
      have nd : os.Nodup := by have := od.nd; rwa [List.append_nil] at this
      refine ⟨_, rfl, a, _, rfl, .inr (tupS se (b _ _ hc.1 nGa)), ?_⟩
      rw [tab_len]
      refine ⟨n, rfl, by omega, by omega, fun Z hZ => ?_⟩
      rw [show ((n : Int)).toNat = n by omega]
      have b1 := b.lay (o := .lst []) g' he
      have g1 := g'.same (same_new (o := .lst []) he)
      refine lc_range (fun i H2 => Same (upd H' e (.lst [])) H2 ∧ H2 Z = some (.lst (tab i fun k => nV (os.idxOf k)))) ⟨same_new hZ, upd_same⟩ ?_ ?_
      · rintro i H2 hi ⟨sm, hl⟩
        obtain ⟨i1, i2, i3⟩ := idx_nats nd (od.all hc.2.1 i hi)
        have hO2 := sm _ _ (se _ _ hos)
        refine ⟨rfl, yes (iteT ⟨_, rfl, .inl ⟨rfl, _, sqL hO2⟩, _, rfl, O, _, nV i, os.idxOf i, nV i, rfl, ?_, sqL hO2, rfl, nats_flat, i1, i2, i3, ?_⟩)⟩
        · rw [Int.zero_add]; rfl
        · exact ⟨_, hl, szlt (by rw [tab_len]; omega), same_mut sm hZ, by rw [upd_same]; exact congrArg (fun z => some (HO.lst z)) (tab_snoc (f := fun k => nV (os.idxOf k)))⟩
      · rintro H2 ⟨sm, hl⟩
        refine k _ Z _ _ (b1.trans (But.of_same sm)) ((g1.same sm).le (by omega)) (b1.free (g1.ne hZ) hZ) hl pm
    | cons w0 ws =>
      refine iteT ?_
      have hlt := od.len (by simp)
      have b1 := b.lay (o := .lst []) g' he
      have g1 := g'.same (same_new (o := .lst []) he)
      refine ⟨fun σ2 H2 => ∃ m', m' < n - os.length ∧ ∃ (os ws : List Nat) (x : Addr) (y : Option V) , σ2 = [some (.ref G), some (.ref a), some (.ref O), some (.ref x), y, none, none] ∧ But G H H2 ∧ GAt H2 G (B + os.length) ∧ H2 O = some (.lst (os.map nV)) ∧ H2 x = some (.lst (ws.map nV)) ∧ O ≠ x ∧ H x = none ∧ Od n up os ws ∧ m' = n - os.length, fun _ _ h => h, ?_⟩
      have hwl : ((w0 :: ws).map nV).length ≤ n := by
        rw [List.length_map]
        have := nodup_len n _ od.nd od.lt
        rw [List.length_append] at this
        omega
      refine ⟨_, rfl, .inl ⟨rfl, _, sqL (se _ _ hws)⟩, _, rfl, _, rfl, x, _, rfl, .inl (sqL (se _ _ hws)), G, ((w0 :: ws).map nV).length, _, rfl, g1, by simp, by omega, by omega, fun H2 d b2 g2 hd => ?_⟩
      have hd' : d < (w0 :: ws).length := by rwa [List.length_map] at hd
      have nGx : G ≠ x := g.ne x0
      have nGO : G ≠ O := g.ne hO
      have hx2 := b2 _ _ (se _ _ hws) nGx.symm
      have hO2 := b2 _ _ (se _ _ hos) nGO.symm
      obtain ⟨p, hp⟩ : ∃ p, (w0 :: ws)[d]? = some p := ⟨_, List.getElem?_eq_getElem hd'⟩
      refine ⟨x, _, (d : Int), d, nV p, rfl, rfl, hx2, by omega, by omega, (ixN_seq (ixN_lt hd)).1, by rw [List.getElem?_map, hp]; rfl, ?_⟩
      rw [erase_map]
      have hO3 : upd H2 x (.lst (((w0 :: ws).eraseIdx d).map nV)) O = some (.lst (os.map nV)) := by rw [upd_ne nOx]; exact hO2
      refine ⟨_, rfl, .inl ⟨rfl, _, sqL hO3⟩, _, rfl, O, _, _, rfl, rfl, hO3, szlt (by rw [List.length_map]; omega), ?_⟩
      have b4 : But G H (upd (upd H2 x (.lst (((w0 :: ws).eraseIdx d).map nV))) O (.lst (os.map nV ++ [nV p]))) := ((b1.trans b2).new x0).new hO
      have g4 : GAt (upd (upd H2 x (.lst (((w0 :: ws).eraseIdx d).map nV))) O (.lst (os.map nV ++ [nV p]))) G (B + os.length + 1) := (g2.but But.upd nGx).but But.upd nGO
      have hx4 : upd (upd H2 x (.lst (((w0 :: ws).eraseIdx d).map nV))) O (.lst (os.map nV ++ [nV p])) x = some (.lst (((w0 :: ws).eraseIdx d).map nV)) := by rw [upd_ne nOx.symm, upd_same]
      have hO4 : upd (upd H2 x (.lst (((w0 :: ws).eraseIdx d).map nV))) O (.lst (os.map nV ++ [nV p])) O = some (.lst ((os ++ [p]).map nV)) := by rw [upd_same, List.map_append]; rfl
      generalize upd (upd H2 x (.lst (((w0 :: ws).eraseIdx d).map nV))) O (.lst (os.map nV ++ [nV p])) = H4 at b4 g4 hx4 hO4 ⊢
      refine ⟨_, rfl, _, rfl, a, _, rfl, sqT (b4 _ _ hc.1 nGa), fun Z hZ => lc_enumT (xs := tab n (cV up)) (fun i H5 => Same H4 H5 ∧ H5 Z = some (.lst ((flt i fun l => decide (0 < l ∧ up l = p)).map nV))) ⟨same_new hZ, upd_same⟩ (fun i H5 _ h => tupS h.1 (b4 _ _ hc.1 nGa)) ?_ ?_⟩
      · rintro i c T' H5 hcx ⟨sm, hl⟩ hT
        obtain ⟨hi, rfl⟩ := tab_some hcx
        have hl2 := same_new (o := .tup [V.int (i : Nat), cV up i]) hT _ _ hl
        refine ⟨T', _, rfl, sqT upd_same, rfl, _, _, rfl, _, _, rfl, rfl, rfl, _, rfl, _, rfl, ?_, _, rfl, ?_⟩
        · rw [cV_eq]; cases cO up i <;> rfl
        by_cases e : 0 < i ∧ up i = p
        · have e2 : cV up i = nV p := by rw [cV_pos e.1, e.2]
          refine ifT (decide_eq_true e2) ⟨_, rfl, _, hl2, szlt (by rw [List.length_map]; exact Nat.lt_of_le_of_lt flt_len (by omega)), same_mut (sm.trans (same_new hT)) hZ, flt_step (p := fun l => decide (0 < l ∧ up l = p)) (f := nV) hl2 (decide_eq_true e)⟩
        · refine ifF (decide_eq_false fun e2 => e ?_) ⟨sm.trans (same_new hT), flt_skip (p := fun l => decide (0 < l ∧ up l = p)) hl2 (decide_eq_false e)⟩
          by_cases h0 : i = 0
          · subst h0
            rw [cV_zero] at e2
            cases e2
          · rw [cV_pos (by omega)] at e2
            exact ⟨by omega, nV_inj e2⟩
      · rintro H5 ⟨sm, hl⟩
        rw [tab_len, ← kids_filter] at hl
        have hx5 := sm _ _ hx4
        refine ⟨x, Z, _, _, rfl, rfl, hx5, hl, ?_, fun V0 hV => ?_⟩
        · rw [List.length_map, List.length_map]
          have h1 := kids_len (n := n) (up := up) (p := p)
          have h2 : ((w0 :: ws).eraseIdx d).length ≤ (w0 :: ws).length := List.length_eraseIdx_le _ _
          rw [List.length_map] at hwl
          exact szle (by omega)
        have b5 := b4.trans (But.of_same sm)
        have g5 := g4.same sm
        refine ⟨n - (os ++ [p]).length, by rw [List.length_append, List.length_singleton]; omega, os ++ [p], (w0 :: ws).eraseIdx d ++ kids n up p, V0, _, rfl, b5.lay g5 hV, (g5.same (same_new hV)).le (by rw [List.length_append, List.length_singleton]; omega), same_new hV _ _ (sm _ _ hO4), by rw [upd_same, List.map_append], ne_of_none (sm _ _ hO4) hV, b5.free (g5.ne hV) hV, od.step hp (fun l => mem_kids) kids_nodup, rfl⟩
def spMChart : Sp := fun vs H Q _ => ∃ (a p : Addr) (n : Nat) (up up' π ρ : Nat → Nat), vs = [V.ref a, V.ref p] ∧ CAt H a n up ∧ H p = some (.lst (tab n fun k => nV (π k))) ∧ Rn n up up' π ρ ∧ ∀ H' o, Same H H' → CAt H' o n up' → Q (.ref o) H'
theorem sc_law_moved_chart : FnScope ["_law_tree", "_law_places", "_law_moved", "_law_place", "_law_upper"] ["_law_tree", "_law_places"] (defScope (top 56)) := ⟨rfl, rfl, rfl, by decide +kernel, rfl, by decide +kernel, by decide +kernel⟩
theorem cl_law_moved_chart (D : Df K mg "_law_moved_chart" (top 56)) (T : Bt mg) : Cl P w K mg base "_law_moved_chart" 1 ["_law_tree", "_law_places"] spMChart := by
  refine D.cl (fun f fd F => F.ok sc_law_moved_chart (fun vs H Q E h => ?_) (fun cdv A outer s H vs Q E hr h => ?_)) (fun _ _ _ _ _ _ us hl => match us, hl with | [_, _], _ => rfl)
  · obtain ⟨_, _, _, _, _, _, _, rfl, _⟩ := h
    rfl
  · obtain ⟨a, p, n, up, up', π, ρ, rfl, hc, hp, R, k⟩ := h
    have hn := hc.2.2
    refine ⟨_, (pss_cons (ps_set (i := 2) sc_law_moved_chart.nd rfl (by first | exact Or.inl rfl | exact Or.inr rfl) (pe_op op_rep (pe_lst (pa_cons pe_non pa_nil)) (pe_callB call_len_seq (by rfl) T.len (by decide +kernel) (pa_cons (pv 0) pa_nil)))) (pss_cons (ps_for PassesOwn.never rfl (pi_enumT (by rfl) T.enumerate (pa_cons (pv 0) pa_nil)) (pg_tup rfl (pgs_cons (pg_name (i := 3) sc_law_moved_chart.nd rfl (by first | exact Or.inl rfl | exact Or.inr rfl)) (pgs_cons (pg_name (i := 4) sc_law_moved_chart.nd rfl (by first | exact Or.inl rfl | exact Or.inr rfl)) pgs_nil))) (pss_one (ps_asg (pe_ifExp (pt_cmp (pc_isN (pv 4))) pe_non (pe_ix ix_list (pv 1) (pv 4) (fun _ _ => rfl))) (pg_sub (pv 2) (pe_ix ix_list (pv 1) (pv 3) (fun _ _ => rfl)) set_list)))) (pss_one (ps_ret (pe_callTy call_tuple_of (by rfl) T.tuple (by decide +kernel) (pa_cons (pv 2) pa_nil)))))), ?_⟩
    refine ⟨szle (by show 1 ≤ 100000; decide), fun U hU => ?_⟩
    have s1 : Same H (upd H U (.lst [.non])) := same_new hU
    refine ⟨_, rfl, a, _, rfl, .inr (tupS s1 hc.1), ?_⟩
    rw [tab_len]
    refine ⟨U, (n : Int), _, rfl, rfl, upd_same, by omega, by omega, szle (by show 1 * _ ≤ 100000; omega), fun M hM => ?_⟩
    have M0 : H M = none := Same.free s1 hM
    have e0 : (List.replicate (n : Int).toNat [V.non]).flatten = tab n (fun _ => V.non) := by
      rw [tab_rep, show ((n : Int)).toNat = n by omega, rep_flat]
    rw [e0]
    have s2 : Same H (upd (upd H U (.lst [.non])) M (.lst (tab n fun _ => V.non))) := s1.trans (same_new hM)
    refine ⟨_, rfl, a, _, rfl, tupS s2 hc.1, for_enumT (xs := tab n (cV up)) (fun i σ H' => (∃ x y, σ = [some (.ref a), some (.ref p), some (.ref M), x, y]) ∧ Same H H' ∧ H' M = some (.lst (tab n fun j => if ρ j < i then cV up' j else .non))) ⟨⟨_, _, rfl⟩, s2, upd_same⟩ (fun i σ H' _ h => tupS h.2.1 hc.1) ?_ ?_⟩
    · rintro i c T' σ H' hcx ⟨⟨x1, x2, rfl⟩, sm, hl⟩ hT
      obtain ⟨hi, rfl⟩ := tab_some hcx
      have s3 : Same H (upd H' T' (.tup [V.int (i : Nat), cV up i])) := sm.trans (same_new hT)
      have hl2 := same_new (o := .tup [V.int (i : Nat), cV up i]) hT _ _ hl
      refine ⟨T', _, rfl, sqT upd_same, rfl, _, _, rfl, _, _, rfl, rfl, ?_⟩
      have fin : (tab n fun j => if ρ j < i then cV up' j else V.non).set (π i) (cV up' (π i)) = tab n fun j => if ρ j < i + 1 then cV up' j else V.non := by
        rw [tab_set]
        refine tab_congr fun j hj => ?_
        by_cases e : j = π i
        · rw [if_pos e, e, if_pos (by rw [R.l i hi]; omega)]
        · rw [if_neg e]
          have : ρ j ≠ i := fun q => e (by rw [← q, R.r j hj])
          by_cases e2 : ρ j < i
          · rw [if_pos e2, if_pos (by omega)]
          · rw [if_neg e2, if_neg (by omega)]
      refine ⟨_, rfl, _, rfl, ?_⟩
      have step : ∀ v : V, v = cV up' (π i) → ∃ p_1 xs k j, V.ref M = V.ref p_1 ∧ nV (π i) = V.int k ∧ upd H' T' (.tup [V.int (i : Nat), cV up i]) p_1 = some (.lst xs) ∧ ixN xs.length k = some j ∧
          ((∃ x y, [some (V.ref a), some (V.ref p), some (V.ref M), some (V.int (i : Nat)), some (cV up i)] = [some (.ref a), some (.ref p), some (.ref M), x, y]) ∧ Same H (upd (upd H' T' (.tup [V.int (i : Nat), cV up i])) p_1 (.lst (xs.set j v))) ∧ upd (upd H' T' (.tup [V.int (i : Nat), cV up i])) p_1 (.lst (xs.set j v)) M = some (.lst (tab n fun j => if ρ j < i + 1 then cV up' j else .non))) := by
        rintro v rfl
        exact ⟨M, _, (π i : Int), π i, rfl, rfl, hl2, ix_tab (R.lt i hi), ⟨_, _, rfl⟩, same_mut s3 M0, by rw [upd_same, fin]⟩
      by_cases h0 : i = 0
      · subst h0
        refine ifT (by rw [cV_zero]; exact decide_eq_true rfl) ?_
        exact ⟨_, rfl, _, rfl, _, rfl, p, _, ((0 : Nat) : Int), nV (π 0), rfl, rfl, lstS s3 hp, at_tab hi, step V.non (by rw [R.z]; rfl)⟩
      · have e := cV_pos (up := up) (k := i) (by omega)
        have hu := hc.2.1.lt i (by omega)
        refine ifF (by rw [e]; exact nV_ne _) ?_
        refine ⟨_, rfl, _, rfl, p, _, (up i : Int), nV (π (up i)), rfl, e, lstS s3 hp, at_tab (by omega), ?_⟩
        refine ⟨_, rfl, _, rfl, _, rfl, p, _, (i : Int), nV (π i), rfl, rfl, lstS s3 hp, at_tab hi, step _ ?_⟩
        rw [cV_pos ((R.pos hi).mpr (by omega)), R.up i (by omega) hi]
    · rintro σ H' ⟨⟨x1, x2, rfl⟩, sm, hl⟩
      rw [tab_len] at hl
      have e9 : (tab n fun j => if ρ j < n then cV up' j else V.non) = tab n (cV up') := tab_congr fun j hj => if_pos (R.lt' j hj)
      rw [e9] at hl
      exact ⟨_, rfl, M, _, rfl, .inl ⟨sqL hl, fun o ho => k _ o (sm.trans (same_new ho)) ⟨upd_same, R.c', hn⟩⟩⟩
/-- the new numbers of the people in S, in the dict at d -/
def NAt (P : Program) (w : World) (H : Hp) (d : Addr) (ev : List Int) (ν : Int → Int) : Prop := ∃ kvs : List (Option Key × V), H d = some (nD P w d kvs) ∧ kvs.map (·.1) = none :: ev.map (fun x => some (.inl x)) ∧ valV kvs none = some .non ∧ ∀ x, x ∈ ev → valV kvs (some (.inl x)) = some (.int (ν x))
theorem NAt.same {H H' : Hp} {d : Addr} {ev : List Int} {ν : Int → Int} (h : NAt P w H d ev ν) (s : Same H H') : NAt P w H' d ev ν := by
  obtain ⟨kvs, e, r⟩ := h
  exact ⟨kvs, s _ _ e, r⟩
def spMRows (P : Program) (w : World) : Sp := fun vs H Q _ => ∃ (v p d : Addr) (n : Nat) (up up' π ρ : Nat → Nat) (r : Rw) (ev : List Int) (ν : Int → Int), vs = [V.ref v, V.ref p, V.ref d] ∧ RAt H v n r ∧ n ≤ 60 ∧ H p = some (.lst (tab n fun k => nV (π k))) ∧ Rn n up up' π ρ ∧ NAt P w H d ev ν ∧ In (fun x => x ∈ ev) r ∧
  ∀ H' o, Same H H' → H o = none → RAt H' o n (mv n ρ ν r) → Q (.ref o) H'
theorem sc_law_moved_rows : FnScope ["_law_rows", "_law_places", "_law_names_here", "_law_moved", "_law_place", "_law_name"] ["_law_rows", "_law_places", "_law_names_here"] (defScope (top 57)) := ⟨rfl, rfl, rfl, by decide +kernel, rfl, by decide +kernel, by decide +kernel⟩
theorem cl_law_moved_rows (D : Df K mg "_law_moved_rows" (top 57)) (T : Bt mg) : Cl P w K mg base "_law_moved_rows" 1 ["_law_rows", "_law_places", "_law_names_here"] (spMRows P w) := by
  refine D.cl (fun f fd F => F.ok sc_law_moved_rows (fun vs H Q E h => ?_) (fun cdv A outer s H vs Q E hr h => ?_)) (fun _ _ _ _ _ _ us hl => match us, hl with | [_, _, _], _ => rfl)
  · obtain ⟨_, _, _, _, _, _, _, _, _, _, _, rfl, _⟩ := h
    rfl
  · obtain ⟨v, p, d, n, up, up', π, ρ, r, ev, ν, rfl, hv, hn, hp, R, hN, hS, k⟩ := h
    refine ⟨_, (pss_cons (ps_set (i := 3) sc_law_moved_rows.nd rfl (by first | exact Or.inl rfl | exact Or.inr rfl) (pe_op op_rep (pe_lst (pa_cons pe_non pa_nil)) (pe_callB call_len_seq (by rfl) T.len (by decide +kernel) (pa_cons (pv 0) pa_nil)))) (pss_cons (ps_for PassesOwn.never rfl (pi_enumT (by rfl) T.enumerate (pa_cons (pv 0) pa_nil)) (pg_tup rfl (pgs_cons (pg_name (i := 4) sc_law_moved_rows.nd rfl (by first | exact Or.inl rfl | exact Or.inr rfl)) (pgs_cons (pg_name (i := 5) sc_law_moved_rows.nd rfl (by first | exact Or.inl rfl | exact Or.inr rfl)) pgs_nil))) (pss_one (ps_asg (pe_nget1 (pv 2) (pv 5) ⟨rfl, rfl, rfl, rfl⟩) (pg_sub (pv 3) (pe_ix ix_list (pv 1) (pv 4) (fun _ _ => rfl)) set_list)))) (pss_one (ps_ret (pe_callTy call_tuple_of (by rfl) T.tuple (by decide +kernel) (pa_cons (pv 3) pa_nil)))))), ?_⟩
    refine ⟨szle (by show 1 ≤ 100000; decide), fun U hU => ?_⟩
    have s1 : Same H (upd H U (.lst [.non])) := same_new hU
    refine ⟨_, rfl, v, _, rfl, .inr (tupS s1 hv), ?_⟩
    rw [tab_len]
    refine ⟨U, (n : Int), _, rfl, rfl, upd_same, by omega, by omega, szle (by show 1 * _ ≤ 100000; omega), fun M hM => ?_⟩
    have M0 : H M = none := Same.free s1 hM
    have e0 : (List.replicate (n : Int).toNat [V.non]).flatten = tab n (fun _ => V.non) := by
      rw [tab_rep, show ((n : Int)).toNat = n by omega, rep_flat]
    rw [e0]
    have s2 : Same H (upd (upd H U (.lst [.non])) M (.lst (tab n fun _ => V.non))) := s1.trans (same_new hM)
    refine ⟨_, rfl, v, _, rfl, tupS s2 hv, for_enumT (xs := tab n (rV r)) (fun i σ H' => (∃ x y, σ = [some (.ref v), some (.ref p), some (.ref d), some (.ref M), x, y]) ∧ Same H H' ∧ H' M = some (.lst (tab n fun j => if ρ j < i then rV (mv n ρ ν r) j else .non))) ⟨⟨_, _, rfl⟩, s2, upd_same⟩ (fun i σ H' _ h => tupS h.2.1 hv) ?_ ?_⟩
    · rintro i c T' σ H' hcx ⟨⟨x1, x2, rfl⟩, sm, hl⟩ hT
      obtain ⟨hi, rfl⟩ := tab_some hcx
      have s3 : Same H (upd H' T' (.tup [V.int (i : Nat), rV r i])) := sm.trans (same_new hT)
      have hl2 := same_new (o := .tup [V.int (i : Nat), rV r i]) hT _ _ hl
      refine ⟨T', _, rfl, sqT upd_same, rfl, _, _, rfl, _, _, rfl, rfl, ?_⟩
      have fin : (tab n fun j => if ρ j < i then rV (mv n ρ ν r) j else V.non).set (π i) (rV (mv n ρ ν r) (π i)) = tab n fun j => if ρ j < i + 1 then rV (mv n ρ ν r) j else V.non := by
        rw [tab_set]
        refine tab_congr fun j hj => ?_
        by_cases e : j = π i
        · rw [if_pos e, e, if_pos (by rw [R.l i hi]; omega)]
        · rw [if_neg e]
          have : ρ j ≠ i := fun q => e (by rw [← q, R.r j hj])
          by_cases e2 : ρ j < i
          · rw [if_pos e2, if_pos (by omega)]
          · rw [if_neg e2, if_neg (by omega)]
      obtain ⟨kvs, hd, -, hd0, hd1⟩ := hN.same s3
      have ev : (valV kvs (kO (r i))).getD .non = rV (mv n ρ ν r) (π i) := by
        show _ = oV (mv n ρ ν r (π i))
        rw [mv_at R hi]
        cases q : r i with
        | none => rw [show kO none = none from rfl, hd0]; rfl
        | some x => rw [show kO (some x) = some (.inl x) from rfl, hd1 x (hS i x q)]; rfl
      refine ⟨_, rfl, d, kvs, rfl, .inl hd, _, rfl, kO (r i), (nkV_kO (r i)).symm, .inl hd, ?_⟩
      rw [ev]
      refine ⟨_, rfl, _, rfl, _, rfl, p, _, (i : Int), nV (π i), rfl, rfl, lstS s3 hp, at_tab hi, M, _, (π i : Int), π i, rfl, rfl, hl2, ix_tab (R.lt i hi), ⟨_, _, rfl⟩, same_mut s3 M0, by rw [upd_same, fin]⟩
    · rintro σ H' ⟨⟨x1, x2, rfl⟩, sm, hl⟩
      rw [tab_len] at hl
      have e9 : (tab n fun j => if ρ j < n then rV (mv n ρ ν r) j else V.non) = tab n (rV (mv n ρ ν r)) := tab_congr fun j hj => if_pos (R.lt' j hj)
      rw [e9] at hl
      exact ⟨_, rfl, M, _, rfl, .inl ⟨sqL hl, fun o ho => k _ o (sm.trans (same_new ho)) (Same.free sm ho) upd_same⟩⟩
end
end Mu


/-! the law on charts. -/
namespace Mu
open PySem L2 PyProof.Rows PySem.SeqAt Mv
/-- what the law's parts are handed -/
structure LW (P : Program) (w : World) (H : Hp) (a a' v v' p d : Addr) (n : Nat) (up up' π ρ : Nat → Nat) (r : Rw) (ev : List Int) (ν : Int → Int) : Prop where
  A : AAt H a v n up r
  A' : AAt H a' v' n up' (mv n ρ ν r)
  p : H p = some (.lst (tab n fun k => nV (π k)))
  R : Rn n up up' π ρ
  N : NAt P w H d ev ν
  m : Nm (fun x => x ∈ ev) ν
  S : In (fun x => x ∈ ev) r
  le : n ≤ 10
theorem LW.same {P : Program} {w : World} {H H' : Hp} {a a' v v' p d : Addr} {n : Nat} {up up' π ρ : Nat → Nat} {r : Rw} {ev : List Int} {ν : Int → Int} (h : LW P w H a a' v v' p d n up up' π ρ r ev ν) (s : Same H H') : LW P w H' a a' v v' p d n up up' π ρ r ev ν :=
  ⟨h.A.same s, h.A'.same s, s _ _ h.p, h.R, h.N.same s, h.m, h.S, h.le⟩
theorem int_nat (ns : List Nat) : ns.map nV = (ns.map Mv.cast).map V.int := by rw [List.map_map]; rfl
section
variable {P : Program} {w : World} {K : PySem.W.Frag} {mg : Str → Option Value} {base : Heap} {C : Addr}
def spChartsR : Sp := fun vs H Q _ => ∃ (G a a' p : Addr) (B n : Nat) (up up' π ρ : Nat → Nat), vs = [V.ref G, V.ref a, V.ref a', V.ref p] ∧ GAt H G B ∧ CAt H a n up ∧ CAt H a' n up' ∧ H p = some (.lst (tab n fun k => nV (π k))) ∧ p ≠ G ∧ Rn n up up' π ρ ∧ n ≤ 10 ∧ B ≤ 80000 ∧
  ∀ H', But G H H' → GAt H' G (B + 2) → Q (.bl true) H'
theorem sc_law_charts_right : FnScope ["_law_generator_here", "_law_tree", "_law_other_tree", "_law_places", "_law_one", "_law_two", "_law_attempt", "_law_place"] ["_law_generator_here", "_law_tree", "_law_other_tree", "_law_places"] (defScope (top 58)) := ⟨rfl, rfl, rfl, by decide +kernel, rfl, by decide +kernel, by decide +kernel⟩
theorem cl_law_charts_right (D : Df K mg "_law_charts_right" (top 58)) (T : Bt mg) (c_law_random : Cl P w K mg base "_law_random" 2 ["_law_generator_here", "_law_bound"] spRandom) (c_path_to : Cl P w K mg base "path_to" 4 ["chart", "post"] spPathTo) (c_posts_below : Cl P w K mg base "posts_below" 4 ["chart", "post"] spBelowAll) (c_common_post : Cl P w K mg base "common_post" 4 ["chart", "a", "b"] spCommonP) :
    Cl P w K mg base "_law_charts_right" 5 ["_law_generator_here", "_law_tree", "_law_other_tree", "_law_places"] spChartsR := by
  refine D.cl (fun f fd F => F.ok sc_law_charts_right (fun vs H Q E h => ?_) (fun cdv A outer s H vs Q E hr h => ?_)) (fun _ _ _ _ _ _ us hl => match us, hl with | [_, _, _, _], _ => rfl)
  · obtain ⟨_, _, _, _, _, _, _, _, _, _, rfl, _⟩ := h
    rfl
  · obtain ⟨G, a, a', p, B, n, up, up', π, ρ, rfl, g, hc, hc', hp, npG, R, hn, hB, k⟩ := h
    refine ⟨_, (pss_cons (ps_asg (pe_lc (own := [("_law_attempt", 6)]) rfl sc_law_charts_right.nd (pi_range1 (by rfl) T.range (pa_cons pe_int pa_nil)) (blkOk_by (own := [("_law_attempt", 6)]) (N := ["_law_generator_here", "_law_tree", "_law_other_tree", "_law_places", "_law_one", "_law_two", "_law_attempt", "_law_place"]) (sc := defScope (top 58)) (by decide +kernel)) (fun _ _ _ _ _ => (pg_name (i := 6) sc_law_charts_right.nd rfl (by first | exact Or.inl rfl | exact Or.inr rfl))) (fun _ _ _ _ _ => pts_nil) (fun _ _ _ _ _ => (pe_c c_law_random (hr.mono (by decide)) (pa_cons (pv 0) (pa_cons (pe_callB (call_lenK (K := K) rfl) (by rfl) T.len (by decide +kernel) (pa_cons (pv 1) pa_nil)) pa_nil))))) (pg_unl rfl (pgs_cons (pg_name (i := 4) sc_law_charts_right.nd rfl (by first | exact Or.inl rfl | exact Or.inr rfl)) (pgs_cons (pg_name (i := 5) sc_law_charts_right.nd rfl (by first | exact Or.inl rfl | exact Or.inr rfl)) pgs_nil)))) (pss_cons (ps_if (pt_cmpR (op_neS hr.units) (pe_c c_path_to (hr.mono (by decide)) (pa_cons (pv 2) (pa_cons (pe_ix ix_list (pv 3) (pv 4) (fun _ _ => rfl)) pa_nil))) (pe_lc (own := [("_law_place", 7)]) rfl sc_law_charts_right.nd (pi_list (pe_c c_path_to (hr.mono (by decide)) (pa_cons (pv 1) (pa_cons (pv 4) pa_nil)))) (blkOk_by (own := [("_law_place", 7)]) (N := ["_law_generator_here", "_law_tree", "_law_other_tree", "_law_places", "_law_one", "_law_two", "_law_attempt", "_law_place"]) (sc := defScope (top 58)) (by decide +kernel)) (fun _ _ _ _ _ => (pg_name (i := 7) sc_law_charts_right.nd rfl (by first | exact Or.inl rfl | exact Or.inr rfl))) (fun _ _ _ _ _ => pts_nil) (fun _ _ _ _ _ => (pe_ix (ix_listK (K := K) rfl) (pv 3) (pv 7) (fun _ _ => rfl)))) (nomark _)) (pss_one (ps_ret pe_bl)) pss_nil) (pss_cons (ps_if (pt_cmpR (op_neS hr.units) (pe_c c_posts_below (hr.mono (by decide)) (pa_cons (pv 2) (pa_cons (pe_ix ix_list (pv 3) (pv 4) (fun _ _ => rfl)) pa_nil))) (pe_callB cr_sortedI (by rfl) T.sorted (by decide +kernel) (pa_cons (pe_lc (own := [("_law_place", 7)]) rfl sc_law_charts_right.nd (pi_list (pe_c c_posts_below (hr.mono (by decide)) (pa_cons (pv 1) (pa_cons (pv 4) pa_nil)))) (blkOk_by (own := [("_law_place", 7)]) (N := ["_law_generator_here", "_law_tree", "_law_other_tree", "_law_places", "_law_one", "_law_two", "_law_attempt", "_law_place"]) (sc := defScope (top 58)) (by decide +kernel)) (fun _ _ _ _ _ => (pg_name (i := 7) sc_law_charts_right.nd rfl (by first | exact Or.inl rfl | exact Or.inr rfl))) (fun _ _ _ _ _ => pts_nil) (fun _ _ _ _ _ => (pe_ix (ix_listK (K := K) rfl) (pv 3) (pv 7) (fun _ _ => rfl)))) pa_nil)) (nomark _)) (pss_one (ps_ret pe_bl)) pss_nil) (pss_one (ps_ret (pe_cmpR op_eq (pe_c c_common_post (hr.mono (by decide)) (pa_cons (pv 2) (pa_cons (pe_ix ix_list (pv 3) (pv 4) (fun _ _ => rfl)) (pa_cons (pe_ix ix_list (pv 3) (pv 5) (fun _ _ => rfl)) pa_nil)))) (pe_ix ix_list (pv 3) (pe_c c_common_post (hr.mono (by decide)) (pa_cons (pv 1) (pa_cons (pv 4) (pa_cons (pv 5) pa_nil)))) (fun _ _ => rfl)) (nomark _))))))), ?_⟩
    have naG : a ≠ G := by
      obtain ⟨_, _, _, e, -⟩ := g
      exact ne_of hc.1 e (by intro z; cases z)
    have nbG : a' ≠ G := by
      obtain ⟨_, _, _, e, -⟩ := g
      exact ne_of hc'.1 e (by intro z; cases z)
    refine ⟨2, rfl, by decide, by decide, fun L hL => ?_⟩
    have nGL : G ≠ L := g.ne hL
    refine lc_range (n := 2) (fun i H' => But G H H' ∧ GAt H' G (B + i) ∧ ∃ xs : List Nat, H' L = some (.lst (xs.map nV)) ∧ xs.length = i ∧ ∀ x ∈ xs, x < n) ⟨But.of_same (same_new hL), g.same (same_new hL), [], upd_same, rfl, by simp⟩ ?_ ?_
    · rintro i H' hi ⟨b, g', xs, h1, h2, h3⟩
      refine ⟨rfl, yes (iteT ⟨_, rfl, _, rfl, a, _, rfl, .inr (sqT (b _ _ hc.1 naG)), G, n, _, by rw [tab_len]; rfl, g', hc.2.1.pos, by omega, by omega, fun H2 d b2 g2 hd => ?_⟩)⟩
      refine ⟨_, b2 _ _ h1 nGL.symm, szlt (by rw [List.length_map]; omega), (b.trans b2).new hL, g2.but But.upd nGL, xs ++ [d], by rw [upd_same, List.map_append]; rfl, by rw [List.length_append, h2]; rfl, fun x hx => ?_⟩
      rcases List.mem_append.mp hx with q | q
      · exact h3 x q
      · rw [List.mem_singleton.mp q]; exact hd
    · rintro H1 ⟨b1, g1, xs, h1, h2, h3⟩
      obtain ⟨o, t, rfl⟩ : ∃ o t, xs = [o, t] := by
        match xs, h2 with
        | [o, t], _ => exact ⟨o, t, rfl⟩
      have ho : o < n := h3 o (by simp)
      have ht : t < n := h3 t (by simp)
      refine ⟨L, _, rfl, sqL h1, rfl, _, _, rfl, _, _, rfl, rfl, ?_⟩
      have hcA : CAt H1 a n up := ⟨b1 _ _ hc.1 naG, hc.2⟩
      have hcB : CAt H1 a' n up' := ⟨b1 _ _ hc'.1 nbG, hc'.2⟩
      have hpl : H1 p = some (.lst (tab n fun k => nV (π k))) := b1 _ _ hp npG
      clear hc hc' hp h1
      refine ⟨_, rfl, _, rfl, _, rfl, p, _, (o : Int), nV (π o), rfl, rfl, sqL hpl, at_tab ho, a', n, up', π o, rfl, hcB, R.lt o ho, fun H2 l2 s2 _ e2 => ?_⟩
      refine ⟨_, rfl, _, rfl, a, n, up, o, rfl, hcA.same s2, ho, fun H3 l3 s3 _ e3 => ?_⟩
      have s13 := s2.trans s3
      refine ⟨l3, rfl, ⟨_, sqL e3⟩, fun Z hZ => lc_list (xs := (pth up o).map nV) (fun i H' => Same H3 H' ∧ H' Z = some (.lst ((((pth up o).take i).map π).map nV))) ⟨same_new hZ, upd_same⟩ (fun i H' _ h => lstS h.1 e3) ?_ ?_⟩
      · rintro i y H' hy ⟨sm, hz⟩
        rw [List.getElem?_map] at hy
        obtain ⟨x, hx, rfl⟩ := Option.map_eq_some_iff.mp hy
        have hxn : x < n := by
          have := le_of_mem R.c (List.mem_of_getElem? hx)
          omega
        have hil := (List.getElem?_eq_some_iff.mp hx).1
        have hpl2 := pth_len R.c o
        refine ⟨rfl, yes (iteT ⟨_, rfl, _, rfl, p, _, (x : Int), nV (π x), rfl, rfl, lstS (s13.trans sm) hpl, at_tab hxn, _, hz, szlt (by rw [List.length_map, List.length_map, List.length_take]; omega), same_mut sm hZ, ?_⟩)⟩
        rw [upd_same, List.take_succ, hx, List.map_append, List.map_append]
        rfl
      rintro H4 ⟨s4, hz⟩
      rw [List.length_map, List.take_length, ← R.pth ho] at hz
      have s14 := s13.trans s4
      refine ⟨l2, Z, _, rfl, rfl, nats_nI, .inl ⟨sqL ((s3.trans s4) _ _ e2), sqL hz⟩, _, rfl, iteF ?_⟩
      clear hz hZ Z e3 e2
      refine ⟨_, rfl, _, rfl, _, rfl, p, _, (o : Int), nV (π o), rfl, rfl, lstS s14 hpl, at_tab ho, a', n, up', π o, rfl, hcB.same s14, R.lt o ho, fun H5 l5 s5 _ e5 => ?_⟩
      have s15 := s14.trans s5
      refine ⟨_, rfl, _, rfl, a, n, up, o, rfl, hcA.same s15, ho, fun H6 l6 s6 _ e6 => ?_⟩
      have s16 := s15.trans s6
      refine ⟨l6, rfl, ⟨_, sqL e6⟩, fun Z hZ => lc_list (xs := (flt n fun k => decide (o ∈ pth up k)).map nV) (fun i H' => Same H6 H' ∧ H' Z = some (.lst ((((flt n fun k => decide (o ∈ pth up k)).take i).map π).map nV))) ⟨same_new hZ, upd_same⟩ (fun i H' _ h => lstS h.1 e6) ?_ ?_⟩
      · rintro i y H' hy ⟨sm, hz⟩
        rw [List.getElem?_map] at hy
        obtain ⟨x, hx, rfl⟩ := Option.map_eq_some_iff.mp hy
        have hxn : x < n := List.mem_range.mp (List.mem_filter.mp (List.mem_of_getElem? hx)).1
        have hil := (List.getElem?_eq_some_iff.mp hx).1
        have hpl2 := flt_len (i := n) (p := fun k => decide (o ∈ pth up k))
        refine ⟨rfl, yes (iteT ⟨_, rfl, _, rfl, p, _, (x : Int), nV (π x), rfl, rfl, lstS (s16.trans sm) hpl, at_tab hxn, _, hz, szlt (by rw [List.length_map, List.length_map, List.length_take]; omega), same_mut sm hZ, ?_⟩)⟩
        rw [upd_same, List.take_succ, hx, List.map_append, List.map_append]
        rfl
      rintro H7 ⟨s7, hz⟩
      rw [List.length_map, List.take_length, int_nat] at hz
      have s17 := s16.trans s7
      refine ⟨Z, _, rfl, sqL hz, fun ns V0 pm so hV => ?_⟩
      have heq : ns = ((List.range n).filter fun k => decide (π o ∈ pth up' k)).map Mv.cast := R.filt (P := fun k => decide (o ∈ pth up k)) (P' := fun k => decide (π o ∈ pth up' k)) (fun k hk => below_mv R ho hk) pm so
      have s18 := s17.trans (same_new (o := .lst (ns.map V.int)) hV)
      have e58 : upd H7 V0 (.lst (ns.map V.int)) l5 = some (.lst (ns.map V.int)) := by
        rw [same_new hV _ _ ((s6.trans s7) _ _ e5), heq, ← int_nat]
        rfl
      refine ⟨l5, V0, _, rfl, rfl, ?_, .inl ⟨sqL e58, sqL upd_same⟩, _, rfl, iteF ?_⟩
      · rw [List.all_map]
        exact List.all_eq_true.mpr fun _ _ => rfl
      generalize upd H7 V0 (.lst (ns.map V.int)) = H8 at s18
      refine ⟨_, rfl, _, rfl, _, rfl, p, _, (o : Int), nV (π o), rfl, rfl, lstS s18 hpl, at_tab ho, _, rfl, _, rfl, p, _, (t : Int), nV (π t), rfl, rfl, lstS s18 hpl, at_tab ht, a', n, up', π o, π t, rfl, hcB.same s18, R.lt o ho, R.lt t ht, fun H9 c' s9 hl' _ => ?_⟩
      have s19 := s18.trans s9
      refine ⟨_, rfl, _, rfl, _, rfl, _, rfl, a, n, up, o, t, rfl, hcA.same s19, ho, ht, fun H10 c s10 hl hcn => ?_⟩
      have s20 := s19.trans s10
      refine ⟨p, _, (c : Int), nV (π c), rfl, rfl, lstS s20 hpl, at_tab hcn, rfl, ?_⟩
      have ec : c' = π c := lca_one R.c' hl' (R.lca ho ht hl)
      rw [ec, decide_eq_true rfl]
      exact k _ (b1.trans (But.of_same s20)) (g1.same s20)
end
end Mu


/-! the law on joining. -/
namespace Mu
open PySem L2 PyProof.Rows PySem.SeqAt Mv
theorem free_name {n : Nat} {r : Rw} {ev : List Int} (nd : ev.Nodup) (h : n < ev.length) : ∃ x, x ∈ ev ∧ ¬ Held n r x := by
  refine Classical.byContradiction fun hn => ?_
  have all : ∀ x ∈ ev, Held n r x := fun x hx => Classical.byContradiction fun q => hn ⟨x, hx, q⟩
  have h1 : (ev.map (pso n r)).Nodup := by
    unfold List.Nodup
    rw [List.pairwise_map]
    refine List.Pairwise.imp_of_mem (fun {a b} ha hb hab e => hab ?_) nd
    have h1 := (pso_at (all a ha)).2
    have h2 := (pso_at (all b hb)).2
    rw [e, h2] at h1
    exact (Option.some.inj h1).symm
  have := nodup_len n _ h1 fun k hk => by
    obtain ⟨x, hx, rfl⟩ := List.mem_map.mp hk
    exact (pso_at (all x hx)).1
  rw [List.length_map] at this
  omega
theorem abv_mv {n : Nat} {up up' π ρ : Nat → Nat} {r : Rw} {ν : Int → Int} {q : Nat} {x : Int} (R : Rn n up up' π ρ) (hq : q < n) (h : ∀ d, d ∈ (pth up q).dropLast → ∃ y, r d = some y) : abv up' (mv n ρ ν r) (π q) (ν x) = (abv up r q x).map ν := by
  unfold abv
  rw [R.pth hq, ← List.map_dropLast, List.map_append, List.map_map, List.map_map]
  congr 1
  refine List.map_congr_left fun d hd => ?_
  obtain ⟨y, hy⟩ := h d hd
  have hdn : d < n := by
    have := le_of_mem R.c (List.dropLast_subset _ hd)
    omega
  show (mv n ρ ν r (π d)).getD 0 = ν ((r d).getD 0)
  rw [mv_at R hdn, hy]
  rfl
theorem held_lt {n : Nat} {up : Nat → Nat} {r : Rw} (ar : Ar n up r) {k : Nat} {x : Int} (h : r k = some x) : Held n r x := ⟨k, ar.ok.lt h, h⟩
section
variable {P : Program} {w : World} {K : PySem.W.Frag} {mg : Str → Option Value} {base : Heap} {C : Addr}
theorem LW.get {H : Hp} {a a' v v' p d : Addr} {n : Nat} {up up' π ρ : Nat → Nat} {r : Rw} {ev : List Int} {ν : Int → Int} (h : LW P w H a a' v v' p d n up up' π ρ r ev ν) {x : Int} (hx : x ∈ ev) : ∃ kvs, H d = some (nD P w d kvs) ∧ valV kvs (some (.inl x)) = some (.int (ν x)) := by
  obtain ⟨kvs, h1, _, _, h2⟩ := h.N
  exact ⟨kvs, h1, h2 x hx⟩
def spJoiningR (P : Program) (w : World) : Sp := fun vs H Q _ => ∃ (a a' v v' p d : Addr) (n : Nat) (up up' π ρ : Nat → Nat) (r : Rw) (ev : List Int) (ν : Int → Int), vs = [V.ref a, V.ref a', V.ref v, V.ref v', V.ref p, V.ref d] ∧ LW P w H a a' v v' p d n up up' π ρ r ev ν ∧ ev.Nodup ∧ n < ev.length ∧ ev.length ≤ 100 ∧ (∀ x ∈ ev, 0 ≤ x) ∧
  ∀ H', Same H H' → Q (.bl true) H'
theorem sc_law_joining_right : FnScope ["_law_tree", "_law_other_tree", "_law_rows", "_law_other_rows", "_law_places", "_law_names_here", "_law_newcomer", "_law_free", "_law_place", "_law_expected", "_law_name"] ["_law_tree", "_law_other_tree", "_law_rows", "_law_other_rows", "_law_places", "_law_names_here"] (defScope (top 61)) := ⟨rfl, rfl, rfl, by decide +kernel, rfl, by decide +kernel, by decide +kernel⟩
theorem cl_law_joining_right (D : Df K mg "_law_joining_right" (top 61)) (T : Bt mg) (c_open_posts : Cl P w K mg base "open_posts" 5 ["chart", "arrangement"] spOpenP) (c_join : Cl P w K mg base "join" 5 ["chart", "arrangement", "person", "post"] spJoin) (c_law_moved_rows : Cl P w K mg base "_law_moved_rows" 1 ["_law_rows", "_law_places", "_law_names_here"] (spMRows P w)) :
    Cl P w K mg base "_law_joining_right" 6 ["_law_tree", "_law_other_tree", "_law_rows", "_law_other_rows", "_law_places", "_law_names_here"] (spJoiningR P w) := by
  refine D.cl (fun f fd F => F.ok sc_law_joining_right (fun vs H Q E h => ?_) (fun cdv A outer s H vs Q E hr h => ?_)) (fun _ _ _ _ _ _ us hl => match us, hl with | [_, _, _, _, _, _], _ => rfl)
  · obtain ⟨_, _, _, _, _, _, _, _, _, _, _, _, _, _, rfl, _⟩ := h
    rfl
  · obtain ⟨a, a', v, v', p, d, n, up, up', π, ρ, r, ev, ν, rfl, W, nd, hlen, hz, h0, k⟩ := h
    have hn := W.le
    refine ⟨_, (pss_cons (ps_set (i := 6) sc_law_joining_right.nd rfl (by first | exact Or.inl rfl | exact Or.inr rfl) (pe_ix ix_list (pe_lock (pe_lc (own := [("_law_name", 10)]) rfl sc_law_joining_right.nd (pi_nkeys (pv 5)) (blkOk_by (own := [("_law_name", 10)]) (N := ["_law_tree", "_law_other_tree", "_law_rows", "_law_other_rows", "_law_places", "_law_names_here", "_law_newcomer", "_law_free", "_law_place", "_law_expected", "_law_name"]) (sc := defScope (top 61)) (by decide +kernel)) (fun _ _ _ _ _ => (pg_name (i := 10) sc_law_joining_right.nd rfl (by first | exact Or.inl rfl | exact Or.inr rfl))) (fun _ _ _ _ _ => (pts_one (PW.pt (pw_and (pt_cmp (pc_notN (pv 10))) (pw_and1 (pt_cmpR (op_notInK (K := K) rfl) (pv 10) (pv 2) (by rfl))))))) (fun _ _ _ _ _ => (pv 10)))) pe_int (fun _ _ => rfl))) (pss_cons (ps_set (i := 7) sc_law_joining_right.nd rfl (by first | exact Or.inl rfl | exact Or.inr rfl) (pe_c c_open_posts (hr.mono (by decide)) (pa_cons (pv 0) (pa_cons (pv 2) pa_nil)))) (pss_cons (ps_if (pt_cmpR (op_neS hr.units) (pe_c c_open_posts (hr.mono (by decide)) (pa_cons (pv 1) (pa_cons (pv 3) pa_nil))) (pe_callB cr_sortedI (by rfl) T.sorted (by decide +kernel) (pa_cons (pe_lc (own := [("_law_place", 8)]) rfl sc_law_joining_right.nd (pi_list (pv 7)) (blkOk_by (own := [("_law_place", 8)]) (N := ["_law_tree", "_law_other_tree", "_law_rows", "_law_other_rows", "_law_places", "_law_names_here", "_law_newcomer", "_law_free", "_law_place", "_law_expected", "_law_name"]) (sc := defScope (top 61)) (by decide +kernel)) (fun _ _ _ _ _ => (pg_name (i := 8) sc_law_joining_right.nd rfl (by first | exact Or.inl rfl | exact Or.inr rfl))) (fun _ _ _ _ _ => pts_nil) (fun _ _ _ _ _ => (pe_ix (ix_listK (K := K) rfl) (pv 4) (pv 8) (fun _ _ => rfl)))) pa_nil)) (nomark _)) (pss_one (ps_ret pe_bl)) pss_nil) (pss_cons (ps_for PassesOwn.never rfl (pi_list (pv 7)) (pg_name (i := 8) sc_law_joining_right.nd rfl (by first | exact Or.inl rfl | exact Or.inr rfl)) (pss_cons (ps_set (i := 9) sc_law_joining_right.nd rfl (by first | exact Or.inl rfl | exact Or.inr rfl) (pe_c c_law_moved_rows (hr.mono (by decide)) (pa_cons (pe_c c_join (hr.mono (by decide)) (pa_cons (pv 0) (pa_cons (pv 2) (pa_cons (pv 6) (pa_cons (pv 8) pa_nil))))) (pa_cons (pv 4) (pa_cons (pv 5) pa_nil))))) (pss_one (ps_if (pt_cmpR (op_neS hr.units) (pe_c c_join (hr.mono (by decide)) (pa_cons (pv 1) (pa_cons (pv 3) (pa_cons (pe_nget (pv 5) (pv 6) (fun _ _ => rfl)) (pa_cons (pe_ix ix_list (pv 4) (pv 8) (fun _ _ => rfl)) pa_nil))))) (pv 9) (nomark _)) (pss_one (ps_ret pe_bl)) pss_nil)))) (pss_one (ps_ret pe_bl)))))), ?_⟩
    obtain ⟨kvs, hd, hk, -⟩ := W.N
    have key : ∀ i ko z, kvs[i]? = some (ko, z) → (i = 0 ∧ ko = none) ∨ ∃ j x, i = j + 1 ∧ ev[j]? = some x ∧ ko = some (.inl x) := fun i ko z hi => by
      have h1 : (kvs.map (·.1))[i]? = some ko := by rw [List.getElem?_map, hi]; rfl
      rw [hk] at h1
      cases i with
      | zero => exact .inl ⟨rfl, (Option.some.inj h1).symm⟩
      | succ j =>
        rw [List.getElem?_cons_succ, List.getElem?_map] at h1
        obtain ⟨x, hx, e⟩ := Option.map_eq_some_iff.mp h1
        exact .inr ⟨j, x, rfl, hx, e.symm⟩
    have hkl : kvs.length = ev.length + 1 := by
      have := congrArg List.length hk
      rwa [List.length_map, List.length_cons, List.length_map] at this
    refine ⟨d, nD P w d kvs, hd, trivial, fun od => ⟨_, rfl, d, od, kvs, rfl, upd_same, fun L hL => ?_⟩⟩
    have ndv : v ≠ d := ne_of W.A.v hd (by intro z; cases z)
    have hvf : ∀ H', Same (upd H d (.frz od (nD P w d kvs))) H' → H' v = some (.tup (tab n (rV r))) := fun H' s => s _ _ (by rw [upd_ne ndv]; exact W.A.v)
    refine lc_it walk_nkeys (fun i H' => Same (upd H d (.frz od (nD P w d kvs))) H' ∧ ∃ xs : List Int, H' L = some (.lst (xs.map V.int)) ∧ xs.length ≤ i ∧ (∀ x ∈ xs, x ∈ ev ∧ ¬ Held n r x) ∧ ∀ j x, j + 1 < i → ev[j]? = some x → ¬ Held n r x → x ∈ xs) ⟨same_new hL, [], upd_same, Nat.le_refl _, by simp, fun j x hj => by omega⟩ (fun i H' _ h => h.1 _ _ upd_same) ?_ ?_
    · rintro i y H1 H' hi ⟨sm, xs, h1, h2, h3, h4⟩ ⟨rfl, ko, z, hkz, rfl⟩
      refine ⟨rfl, ?_⟩
      rcases key i ko z hkz with ⟨rfl, rfl⟩ | ⟨j, x, rfl, hx, rfl⟩
      · refine ⟨_, rfl, _, rfl, ifF (by rfl) (iteF ⟨sm, xs, h1, by omega, h3, fun j x hj => by omega⟩)⟩
      · refine ⟨_, rfl, _, rfl, ifT (by rfl) ⟨_, rfl, _, rfl, v, _, rfl, .inr (sqT (hvf _ sm)), rfl, rows_flat, _, rfl, ?_⟩⟩
        by_cases e : Held n r x
        · refine ifF (by show (!inV (.int x) (tab n (rV r))) = false; rw [inV_tab.mpr e]; rfl) ⟨sm, xs, h1, by omega, h3, fun j' x' hj' hx' hn' => ?_⟩
          by_cases q : j' = j
          · rw [q, hx] at hx'
            exact absurd (Option.some.inj hx' ▸ e) hn'
          · exact h4 j' x' (by omega) hx' hn'
        · have ni : inV (.int x) (tab n (rV r)) = false := Bool.eq_false_iff.mpr fun q => e (inV_tab.mp q)
          refine ifT (by show (!inV (.int x) (tab n (rV r))) = true; rw [ni]; rfl) ⟨_, rfl, _, h1, szlt (by rw [List.length_map]; omega), same_mut sm hL, xs ++ [x], by rw [upd_same, List.map_append]; rfl, by rw [List.length_append]; exact Nat.add_le_add_right h2 1, fun y hy => ?_, fun j' x' hj' hx' hn' => ?_⟩
          · rcases List.mem_append.mp hy with q | q
            · exact h3 y q
            · rw [List.mem_singleton.mp q]
              exact ⟨List.mem_of_getElem? hx, e⟩
          · by_cases q : j' = j
            · rw [q, hx] at hx'
              rw [← Option.some.inj hx']
              simp
            · exact List.mem_append_left _ (h4 j' x' (by omega) hx' hn')
    · rintro H1 ⟨sm, xs, h1, h2, h3, h4⟩
      have hd1 := sm _ _ upd_same
      refine ⟨hd1, ?_⟩
      have nLd : L ≠ d := (ne_of_none (upd_same (H := H) (a := d)) hL).symm
      have s1 : Same H (upd H1 d (nD P w d kvs)) := fun b o hb => by
        by_cases q : b = d
        · rw [q] at hb ⊢
          rw [upd_same, ← hb, hd]
        · rw [upd_ne q]
          exact sm _ _ (by rw [upd_ne q]; exact hb)
      have hL1 : upd H1 d (nD P w d kvs) L = some (.lst (xs.map V.int)) := by rw [upd_ne nLd]; exact h1
      generalize upd H1 d (nD P w d kvs) = H2 at s1 hL1
      obtain ⟨xf, hxf, hnf⟩ := free_name (r := r) nd hlen
      obtain ⟨jf, hjf⟩ := List.mem_iff_getElem?.mp hxf
      have hjl := (List.getElem?_eq_some_iff.mp hjf).1
      have hmem := h4 jf xf (by omega) hjf hnf
      obtain ⟨x, t, rfl⟩ : ∃ x t, xs = x :: t := by
        cases xs with
        | nil => cases hmem
        | cons x t => exact ⟨x, t, rfl⟩
      obtain ⟨hxe, hxn⟩ := h3 x (by simp)
      clear hmem h4 h3 h2 h1 hd1 sm hL
      have W2 := W.same s1
      refine ⟨L, _, 0, .int x, rfl, rfl, sqL hL1, atI_nat (j := 0) rfl, ?_⟩
      refine ⟨_, rfl, _, rfl, a, v, n, up, r, rfl, W2.A, fun H3 l s3 _ hl => ?_⟩
      have W3 := W2.same s3
      refine ⟨_, rfl, _, rfl, a', v', n, up', _, rfl, W3.A', fun H4 l' s4 _ hl' => ?_⟩
      have W4 := W3.same s4
      have hl4 := s4 _ _ hl
      refine ⟨_, rfl, l, rfl, ⟨_, sqL hl4⟩, fun Z hZ => lc_list (xs := (flt n (opn up r)).map nV) (fun i H' => Same H4 H' ∧ H' Z = some (.lst ((((flt n (opn up r)).take i).map π).map nV))) ⟨same_new hZ, upd_same⟩ (fun i H' _ h => lstS h.1 hl4) ?_ ?_⟩
      · rintro i y H' hy ⟨sm, hz⟩
        rw [List.getElem?_map] at hy
        obtain ⟨q, hq, rfl⟩ := Option.map_eq_some_iff.mp hy
        have hqn : q < n := List.mem_range.mp (List.mem_filter.mp (List.mem_of_getElem? hq)).1
        have hil := (List.getElem?_eq_some_iff.mp hq).1
        have hfl := flt_len (i := n) (p := opn up r)
        refine ⟨rfl, yes (iteT ⟨_, rfl, _, rfl, p, _, (q : Int), nV (π q), rfl, rfl, lstS sm W4.p, at_tab hqn, _, hz, szlt (by rw [List.length_map, List.length_map, List.length_take]; omega), same_mut sm hZ, ?_⟩)⟩
        rw [upd_same, List.take_succ, hq, List.map_append, List.map_append]
        rfl
      rintro H5 ⟨s5, hz⟩
      rw [List.length_map, List.take_length, int_nat] at hz
      refine ⟨Z, _, rfl, sqL hz, fun ns V0 pm so hV => ?_⟩
      have heq : ns = ((List.range n).filter (opn up' (mv n ρ ν r))).map Mv.cast := W.R.filt (P := opn up r) (P' := opn up' (mv n ρ ν r)) (fun k hk => opn_mv W.R hk) pm so
      have s6 := s5.trans (same_new (o := .lst (ns.map V.int)) hV)
      have el' : upd H5 V0 (.lst (ns.map V.int)) l' = some (.lst (ns.map V.int)) := by
        rw [s6 _ _ hl', heq, ← int_nat]
        rfl
      refine ⟨l', V0, _, rfl, rfl, ?_, .inl ⟨sqL el', sqL upd_same⟩, _, rfl, iteF ?_⟩
      · rw [List.all_map]
        exact List.all_eq_true.mpr fun _ _ => rfl
      have W6 := W4.same s6
      have hl6 := s6 _ _ hl4
      have s16 := (s1.trans s3).trans (s4.trans s6)
      generalize upd H5 V0 (.lst (ns.map V.int)) = H6 at W6 hl6 s16
      refine ⟨_, rfl, l, rfl, ⟨_, sqL hl6⟩, for_list (xs := (flt n (opn up r)).map nV) (fun i σ H' => (∃ x1 x2, σ = [some (.ref a), some (.ref a'), some (.ref v), some (.ref v'), some (.ref p), some (.ref d), some (.int x), some (.ref l), x1, x2, none]) ∧ Same H6 H') ⟨⟨_, _, rfl⟩, Same.refl _⟩ (fun i σ H' _ h => lstS h.2 hl6) ?_ ?_⟩
      · rintro i y σ H7 hy ⟨⟨x1, x2, rfl⟩, s7⟩
        rw [List.getElem?_map] at hy
        obtain ⟨q, hq, rfl⟩ := Option.map_eq_some_iff.mp hy
        obtain ⟨hqn, hqo⟩ := List.mem_filter.mp (List.mem_of_getElem? hq)
        have hqn := List.mem_range.mp hqn
        have W7 := W6.same s7
        have hab : ∀ g, g ∈ (pth up q).dropLast → ∃ y, r g = some y := fun g hg => opn_abv W.R.c W.A.ar hqo hg
        refine ⟨_, rfl, _, rfl, _, rfl, _, rfl, a, v, n, up, r, x, q, rfl, W7.A, h0 x hxe, fun g hg => hxn (held_lt W.A.ar hg), hqn, hqo, fun zs H8 o pm1 so1 s8 ho => ?_⟩
        have W8 := W7.same s8
        have zin : ∀ z ∈ abv up r q x, z ∈ ev := fun z hz => by
          unfold abv at hz
          rcases List.mem_append.mp hz with hz | hz
          · obtain ⟨g, hg, rfl⟩ := List.mem_map.mp hz
            obtain ⟨y, hy⟩ := hab g hg
            rw [hy]
            exact W.S g y hy
          · rw [List.mem_singleton.mp hz]
            exact hxe
        refine ⟨_, rfl, _, rfl, o, p, d, n, up, up', π, ρ, _, ev, ν, rfl, ho, by omega, W8.p, W8.R, W8.N, wr_in W.S (fun t ht => zin _ (pm1.mem_iff.mp (List.of_mem_zip ht).2)), fun H9 e s9 _ he => ?_⟩
        have W9 := W8.same s9
        obtain ⟨kv9, hk9, hv9⟩ := W9.get hxe
        refine ⟨_, rfl, _, rfl, _, rfl, _, rfl, d, kv9, some (.inl x), .int (ν x), rfl, .inl hk9, rfl, hv9, _, rfl, _, rfl, p, _, (q : Int), nV (π q), rfl, rfl, sqL W9.p, at_tab hqn, a', v', n, up', _, ν x, π q, rfl, W9.A', W.m.nn x hxe, ?_, W.R.lt q hqn, by rw [opn_mv W.R hqn]; exact hqo, fun zs2 H10 o2 pm2 so2 s10 ho2 => ?_⟩
        · intro g hg
          obtain ⟨_, k0, y0, hk0, _, hy0, e0⟩ := mv_some W.R hg
          have := W.m.inj hxe (W.S k0 y0 hy0) e0
          rw [← this] at hy0
          exact hxn ⟨k0, hk0, hy0⟩
        rw [abv_mv W.R hqn hab] at pm2
        have ez : zs2 = zs.map ν := sorted_map W.m zin pm1 so1 pm2 so2
        rw [ez, W.R.pth hqn, zip_map2, wr_mv W.R _ _ (fun t ht => by
          have := le_of_mem W.R.c (List.of_mem_zip ht).1
          omega)] at ho2
        refine ⟨_, rfl, o2, e, _, rfl, rfl, tab_all fun k => rV_nI _ k, .inr ⟨sqT ho2, sqT (s10 _ _ he)⟩, _, rfl, iteF ⟨⟨_, _, rfl⟩, ?_⟩⟩
        exact ((s7.trans s8).trans s9).trans s10
      · rintro σ H7 ⟨_, s7⟩
        exact k _ (s16.trans s7)
end
end Mu


/-! the law on lists of people. -/
namespace Mu
open PySem L2 PyProof.Rows PySem.SeqAt Mv
theorem cut_mem {xs : List Int} {lo hi : Option Int} {y : V} {i : Nat} (h : (cutV (xs.map V.int) lo hi)[i]? = some y) : ∃ x, x ∈ xs ∧ y = .int x := by
  have h1 := List.mem_of_getElem? h
  unfold cutV at h1
  obtain ⟨x, hx, e⟩ := List.mem_map.mp (List.mem_of_mem_drop (List.mem_of_mem_take h1))
  exact ⟨x, hx, e.symm⟩
theorem nodup_nu {ev : List Int} {ν : Int → Int} (m : Nm (fun x => x ∈ ev) ν) {zs : List Int} (h : zs.Nodup) (hs : ∀ x ∈ zs, x ∈ ev) : (zs.map ν).Nodup := by
  unfold List.Nodup
  rw [List.pairwise_map]
  exact List.Pairwise.imp_of_mem (fun {a b} ha hb hab e => hab (m.inj (hs a ha) (hs b hb) e)) h
section
variable {P : Program} {w : World} {K : PySem.W.Frag} {mg : Str → Option Value} {base : Heap} {C : Addr}
theorem LW.but {H H' : Hp} {a a' v v' p d G : Addr} {B n : Nat} {up up' π ρ : Nat → Nat} {r : Rw} {ev : List Int} {ν : Int → Int} (h : LW P w H a a' v v' p d n up up' π ρ r ev ν) (g : GAt H G B) (np : p ≠ G) (b : But G H H') : LW P w H' a a' v v' p d n up up' π ρ r ev ν := by
  obtain ⟨x, y, z, hG, -⟩ := g
  refine ⟨⟨⟨b _ _ h.A.c.1 (ne_of h.A.c.1 hG (by intro z; cases z)), h.A.c.2⟩, b _ _ h.A.v (ne_of h.A.v hG (by intro z; cases z)), h.A.ar⟩, ⟨⟨b _ _ h.A'.c.1 (ne_of h.A'.c.1 hG (by intro z; cases z)), h.A'.c.2⟩, b _ _ h.A'.v (ne_of h.A'.v hG (by intro z; cases z)), h.A'.ar⟩, b _ _ h.p np, h.R, ?_, h.m, h.S, h.le⟩
  obtain ⟨kvs, e, q⟩ := h.N
  exact ⟨kvs, b _ _ e (ne_of e hG (by intro z; cases z)), q⟩
theorem LW.mvheld {H : Hp} {a a' v v' p d : Addr} {n : Nat} {up up' π ρ : Nat → Nat} {r : Rw} {ev : List Int} {ν : Int → Int} (h : LW P w H a a' v v' p d n up up' π ρ r ev ν) {x : Int} (hx : Held n r x) : Held n (mv n ρ ν r) (ν x) := by
  obtain ⟨k, hk, e⟩ := hx
  exact ⟨π k, h.R.lt k hk, by rw [mv_at h.R hk, e]; rfl⟩
theorem LW.ev {H : Hp} {a a' v v' p d : Addr} {n : Nat} {up up' π ρ : Nat → Nat} {r : Rw} {ev : List Int} {ν : Int → Int} (h : LW P w H a a' v v' p d n up up' π ρ r ev ν) {x : Int} (hx : Held n r x) : x ∈ ev := by
  obtain ⟨k, hk, e⟩ := hx
  exact h.S k x e
/-- [names[x] for x in l]: a turn -/
def spListsR (P : Program) (w : World) : Sp := fun vs H Q _ => ∃ (G a a' v v' p d : Addr) (B n : Nat) (up up' π ρ : Nat → Nat) (r : Rw) (ev : List Int) (ν : Int → Int), vs = [V.ref G, V.ref a, V.ref a', V.ref v, V.ref v', V.ref p, V.ref d] ∧ LW P w H a a' v v' p d n up up' π ρ r ev ν ∧ GAt H G B ∧ p ≠ G ∧ B ≤ 70000 ∧
  ∀ H', But G H H' → GAt H' G (B + 20) → Q (.bl true) H'
theorem sc_law_lists_right : FnScope ["_law_generator_here", "_law_tree", "_law_other_tree", "_law_rows", "_law_other_rows", "_law_places", "_law_names_here", "_law_some_here", "_law_expected", "_law_leaving", "_law_name", "_law_place", "_law_other"] ["_law_generator_here", "_law_tree", "_law_other_tree", "_law_rows", "_law_other_rows", "_law_places", "_law_names_here"] (defScope (top 60)) := ⟨rfl, rfl, rfl, by decide +kernel, rfl, by decide +kernel, by decide +kernel⟩
theorem cl_law_lists_right (D : Df K mg "_law_lists_right" (top 60)) (T : Bt mg) (c_law_held : Cl P w K mg base "_law_held" 1 ["_law_rows"] spHeldL) (c_law_some : Cl P w K mg base "_law_some" 4 ["_law_generator_here", "_law_names_here"] spSome)
    (c_reduced : Cl P w K mg base "reduced" 5 ["chart", "arrangement", "people"] spReduced) (c_career : Cl P w K mg base "career" 6 ["chart", "arrangement", "leavers", "person"] spCareer) (c_law_moved_rows : Cl P w K mg base "_law_moved_rows" 1 ["_law_rows", "_law_places", "_law_names_here"] (spMRows P w)) :
    Cl P w K mg base "_law_lists_right" 7 ["_law_generator_here", "_law_tree", "_law_other_tree", "_law_rows", "_law_other_rows", "_law_places", "_law_names_here"] (spListsR P w) := by
  refine D.cl (fun f fd F => F.ok sc_law_lists_right (fun vs H Q E h => ?_) (fun cdv A outer s H vs Q E hr h => ?_)) (fun _ _ _ _ _ _ us hl => match us, hl with | [_, _, _, _, _, _, _], _ => rfl)
  · obtain ⟨_, _, _, _, _, _, _, _, _, _, _, _, _, _, _, _, rfl, _⟩ := h
    rfl
  · obtain ⟨G, a, a', v, v', p, d, B, n, up, up', π, ρ, r, ev, ν, rfl, W, g, npG, hB, k⟩ := h
    have hn := W.le
    refine ⟨_, (pss_cons (ps_set (i := 7) sc_law_lists_right.nd rfl (by first | exact Or.inl rfl | exact Or.inr rfl) (pe_c c_law_some (hr.mono (by decide)) (pa_cons (pv 0) (pa_cons (pe_c c_law_held (hr.mono (by decide)) (pa_cons (pv 3) pa_nil)) pa_nil)))) (pss_cons (ps_set (i := 8) sc_law_lists_right.nd rfl (by first | exact Or.inl rfl | exact Or.inr rfl) (pe_c c_law_moved_rows (hr.mono (by decide)) (pa_cons (pe_c c_reduced (hr.mono (by decide)) (pa_cons (pv 1) (pa_cons (pv 3) (pa_cons (pv 7) pa_nil)))) (pa_cons (pv 5) (pa_cons (pv 6) pa_nil))))) (pss_cons (ps_if (pt_cmpR (op_neS hr.units) (pe_c c_reduced (hr.mono (by decide)) (pa_cons (pv 2) (pa_cons (pv 4) (pa_cons (pe_lc (own := [("_law_name", 10)]) rfl sc_law_lists_right.nd (pi_list (pv 7)) (blkOk_by (own := [("_law_name", 10)]) (N := ["_law_generator_here", "_law_tree", "_law_other_tree", "_law_rows", "_law_other_rows", "_law_places", "_law_names_here", "_law_some_here", "_law_expected", "_law_leaving", "_law_name", "_law_place", "_law_other"]) (sc := defScope (top 60)) (by decide +kernel)) (fun _ _ _ _ _ => (pg_name (i := 10) sc_law_lists_right.nd rfl (by first | exact Or.inl rfl | exact Or.inr rfl))) (fun _ _ _ _ _ => pts_nil) (fun _ _ _ _ _ => (pe_ngetK (P := P) (w := w) rfl rfl (pv 6) (pv 10) (fun _ _ => rfl)))) pa_nil)))) (pv 8) (nomark _)) (pss_one (ps_ret pe_bl)) pss_nil) (pss_cons (ps_setLc (i := 9) (own := [("_law_name", 10)]) rfl sc_law_lists_right.nd rfl rfl (sw_true rfl rfl rfl (by decide +kernel)) (pi_list (pe_c c_law_held (hr.mono (by decide)) (pa_cons (pv 3) pa_nil))) (blkOk_by (own := [("_law_name", 10)]) (N := ["_law_generator_here", "_law_tree", "_law_other_tree", "_law_rows", "_law_other_rows", "_law_places", "_law_names_here", "_law_some_here", "_law_expected", "_law_leaving", "_law_name", "_law_place", "_law_other"]) (sc := defScope (top 60)) (by decide +kernel)) (fun _ _ _ _ _ => (pg_name (i := 10) sc_law_lists_right.nd rfl (by first | exact Or.inl rfl | exact Or.inr rfl))) (fun _ _ _ _ _ => (pts_one (pt_cmpR (op_notInK (K := K) rfl) (pv 10) (pv 7) (by rfl)))) (fun _ _ _ _ _ => (pv 10))) (pss_cons (ps_for PassesOwn.never rfl (pi_list (pe_slice sl_list (pv 7) po_none (po_some pe_int))) (pg_name (i := 10) sc_law_lists_right.nd rfl (by first | exact Or.inl rfl | exact Or.inr rfl)) (pss_cons (ps_setLc (i := 8) (own := [("_law_place", 11)]) rfl sc_law_lists_right.nd rfl rfl (sw_true rfl rfl rfl (by decide +kernel)) (pi_list (pe_c c_career (hr.mono (by decide)) (pa_cons (pv 1) (pa_cons (pv 3) (pa_cons (pv 9) (pa_cons (pv 10) pa_nil)))))) (blkOk_by (own := [("_law_place", 11)]) (N := ["_law_generator_here", "_law_tree", "_law_other_tree", "_law_rows", "_law_other_rows", "_law_places", "_law_names_here", "_law_some_here", "_law_expected", "_law_leaving", "_law_name", "_law_place", "_law_other"]) (sc := defScope (top 60)) (by decide +kernel)) (fun _ _ _ _ _ => (pg_name (i := 11) sc_law_lists_right.nd rfl (by first | exact Or.inl rfl | exact Or.inr rfl))) (fun _ _ _ _ _ => pts_nil) (fun _ _ _ _ _ => (pe_ix (ix_listK (K := K) rfl) (pv 5) (pv 11) (fun _ _ => rfl)))) (pss_one (ps_if (pt_cmpR (op_neS hr.units) (pe_c c_career (hr.mono (by decide)) (pa_cons (pv 2) (pa_cons (pv 4) (pa_cons (pe_lc (own := [("_law_other", 12)]) rfl sc_law_lists_right.nd (pi_list (pv 9)) (blkOk_by (own := [("_law_other", 12)]) (N := ["_law_generator_here", "_law_tree", "_law_other_tree", "_law_rows", "_law_other_rows", "_law_places", "_law_names_here", "_law_some_here", "_law_expected", "_law_leaving", "_law_name", "_law_place", "_law_other"]) (sc := defScope (top 60)) (by decide +kernel)) (fun _ _ _ _ _ => (pg_name (i := 12) sc_law_lists_right.nd rfl (by first | exact Or.inl rfl | exact Or.inr rfl))) (fun _ _ _ _ _ => pts_nil) (fun _ _ _ _ _ => (pe_ngetK (P := P) (w := w) rfl rfl (pv 6) (pv 12) (fun _ _ => rfl)))) (pa_cons (pe_nget (pv 6) (pv 10) (fun _ _ => rfl)) pa_nil))))) (pv 8) (nomark _)) (pss_one (ps_ret pe_bl)) pss_nil)))) (pss_one (ps_ret pe_bl))))))), ?_⟩
    refine ⟨_, rfl, _, rfl, v, n, r, rfl, W.A.v, by omega, W.A.ar.inj, fun H1 L xs s1 L0 hL hmem hnd hlen => ?_⟩
    have g1 := g.same s1
    refine ⟨G, L, B, xs, rfl, g1, (g.ne L0).symm, hL, by omega, by omega, fun H2 Z zs b2 g2 Z0 hZ hsub hnd2 hlz => ?_⟩
    have W2 := (W.same s1).but g1 npG b2
    have zheld : ∀ x ∈ zs, Held n r x := fun x hx => (hmem x).mp (hsub x hx)
    have znd := hnd2 hnd
    have b02 : But G H H2 := (But.of_same s1).trans b2
    have g2' : GAt H2 G (B + 20) := g2.le (by omega)
    clear b2 g2 hL
    refine ⟨_, rfl, _, rfl, _, rfl, a, v, Z, n, up, r, pso n r, zs, rfl, W2.A, hZ, znd, by omega, fun x hx => pso_at (zheld x hx), fun ts H3 o pm so s3 ho => ?_⟩
    have W3 := W2.same s3
    have tev : ∀ x ∈ ts, x ∈ ev := fun x hx => W.ev (zheld x (pm.mem_iff.mp hx))
    refine ⟨_, rfl, _, rfl, o, p, d, n, up, up', π, ρ, _, ev, ν, rfl, ho, by omega, W3.p, W3.R, W3.N, red_in (fun _ _ h => by cases h) (fun t ht => by
      obtain ⟨x, hx, rfl⟩ := List.mem_map.mp ht
      exact tev x hx), fun H4 e s4 _ he => ?_⟩
    have W4 := W3.same s4
    have s24 := s3.trans s4
    have hZ4 := s24 _ _ hZ
    refine ⟨_, rfl, _, rfl, _, rfl, Z, rfl, ⟨_, sqL hZ4⟩, fun Y hY => lc_list (xs := zs.map V.int) (fun i H' => Same H4 H' ∧ H' Y = some (.lst (((zs.take i).map ν).map V.int))) ⟨same_new hY, upd_same⟩ (fun i H' _ h => lstS h.1 hZ4) ?_ ?_⟩
    · rintro i y H' hy ⟨sm, hz⟩
      rw [List.getElem?_map] at hy
      obtain ⟨x, hx, rfl⟩ := Option.map_eq_some_iff.mp hy
      have hil := (List.getElem?_eq_some_iff.mp hx).1
      obtain ⟨kv, hk, hv⟩ := (W4.same sm).get (W.ev (zheld x (List.mem_of_getElem? hx)))
      refine ⟨rfl, yes (iteT ⟨_, rfl, _, rfl, d, kv, some (.inl x), .int (ν x), rfl, .inl hk, rfl, hv, _, hz, szlt (by rw [List.length_map, List.length_map, List.length_take]; omega), same_mut sm hY, ?_⟩)⟩
      rw [upd_same, List.take_succ, hx, List.map_append, List.map_append]
      rfl
    rintro H5 ⟨s5, hY5⟩
    rw [List.length_map, List.take_length] at hY5
    have W5 := W4.same s5
    refine ⟨a', v', Y, n, up', _, pso n (mv n ρ ν r), zs.map ν, rfl, W5.A', hY5, nodup_nu W.m znd (fun x hx => W.ev (zheld x hx)), by rw [List.length_map]; omega, fun x hx => ?_, fun ts2 H6 o2 pm2 so2 s6 ho2 => ?_⟩
    · obtain ⟨y, hy, rfl⟩ := List.mem_map.mp hx
      exact pso_at (W.mvheld (zheld y hy))
    have et : ts2 = ts.map ν := sorted_map W.m (fun x hx => W.ev (zheld x hx)) pm so pm2 so2
    rw [et, red_mv2 W.R W.m W.A.ar.ok W.S (fun x hx => zheld x (pm.mem_iff.mp hx))] at ho2
    refine ⟨_, rfl, o2, e, _, rfl, rfl, tab_all fun k => rV_nI _ k, .inr ⟨sqT ho2, sqT ((s5.trans s6) _ _ he)⟩, _, rfl, iteF ?_⟩
    have W6 := W5.same s6
    have s26 := (s24.trans s5).trans s6
    have hZ6 := s26 _ _ hZ
    clear ho2 he ho hY5 hZ4 hY W3 W4 W5
    refine ⟨_, rfl, v, n, r, rfl, W6.A.v, by omega, W.A.ar.inj, fun H7 L2 xs2 s7 _ hL2 hmem2 hnd3 hlen2 => ?_⟩
    have W7 := W6.same s7
    have s27 := s26.trans s7
    have hZ7 := s27 _ _ hZ
    refine ⟨L2, rfl, ⟨_, sqL hL2⟩, fun Y hY => lc_list (xs := xs2.map V.int) (fun i H' => Same H7 H' ∧ ∃ ys : List Int, H' Y = some (.lst (ys.map V.int)) ∧ ys.Sublist (xs2.take i) ∧ ∀ y ∈ ys, y ∉ zs) ⟨same_new hY, [], upd_same, List.Sublist.refl _, by simp⟩ (fun i H' _ h => lstS h.1 hL2) ?_ ?_⟩
    · rintro i y H' hy ⟨sm, ys, h1, h2, h3⟩
      rw [List.getElem?_map] at hy
      obtain ⟨x, hx, rfl⟩ := Option.map_eq_some_iff.mp hy
      have hil := (List.getElem?_eq_some_iff.mp hx).1
      have hyl := h2.length_le
      rw [List.length_take] at hyl
      have htk : xs2.take (i + 1) = xs2.take i ++ [x] := by rw [List.take_succ, hx]; rfl
      refine ⟨rfl, _, rfl, _, rfl, Z, _, rfl, .inl (lstS sm hZ7), rfl, ints_flat, _, rfl, ?_⟩
      by_cases e : x ∈ zs
      · refine ifF (by show (!inV (.int x) (zs.map V.int)) = false; rw [inV_ints.mpr e]; rfl) ⟨sm, ys, h1, ?_, h3⟩
        rw [htk]
        exact h2.trans (List.sublist_append_left _ _)
      · have ni : inV (.int x) (zs.map V.int) = false := Bool.eq_false_iff.mpr fun q => e (inV_ints.mp q)
        refine ifT (by show (!inV (.int x) (zs.map V.int)) = true; rw [ni]; rfl) ⟨_, rfl, _, h1, szlt (by rw [List.length_map]; omega), same_mut sm hY, ys ++ [x], by rw [upd_same, List.map_append]; rfl, ?_, fun y hy => ?_⟩
        · rw [htk]
          exact List.Sublist.append h2 (List.Sublist.refl _)
        · rcases List.mem_append.mp hy with q | q
          · exact h3 y q
          · rw [List.mem_singleton.mp q]; exact e
    rintro H8 ⟨s8, ys, h1, h2, h3⟩
    rw [List.length_map, List.take_length] at h2
    have W8 := W7.same s8
    have s28 := s27.trans s8
    have hZ8 := s28 _ _ hZ
    have yheld : ∀ y ∈ ys, Held n r y := fun y hy => (hmem2 y).mp (h2.subset hy)
    have ynd : ys.Nodup := List.Nodup.sublist h2 hnd3
    have ylen := h2.length_le
    refine ⟨_, rfl, _, rfl, Z, _, rfl, sqL hZ8, fun U hU => ⟨U, rfl, ⟨_, sqL upd_same⟩, for_list (xs := cutV (zs.map V.int) none (some 3)) (fun i σ H' => (∃ x1 x2, σ = [some (.ref G), some (.ref a), some (.ref a'), some (.ref v), some (.ref v'), some (.ref p), some (.ref d), some (.ref Z), x1, some (.ref Y), x2, none, none]) ∧ Same H2 H' ∧ H' Y = some (.lst (ys.map V.int)) ∧ H' U = some (.lst (cutV (zs.map V.int) none (some 3)))) ⟨⟨_, _, rfl⟩, s28.trans (same_new hU), same_new hU _ _ h1, upd_same⟩ (fun i σ H' _ h => sqL h.2.2.2) ?_ ?_⟩⟩
    · rintro i y σ H9 hy ⟨⟨x1, x2, rfl⟩, s9, hY9, hU9⟩
      obtain ⟨x, hx, rfl⟩ := cut_mem hy
      have W9 := W2.same s9
      obtain ⟨kx, hkx, hrx⟩ := zheld x hx
      have xny : x ∉ ys := fun q => h3 x q hx
      refine ⟨_, rfl, _, rfl, _, rfl, _, rfl, a, v, Y, n, up, r, ys, x, kx, rfl, W9.A, hY9, yheld, ynd, by omega, hkx, hrx, xny, fun H10 c js s10 ca hjs hc => ?_⟩
      have W10 := W9.same s10
      have hY10 := s10 _ _ hY9
      have hlt : ∀ j ∈ kx :: js, j < n := fun j hj => by
        rcases List.mem_cons.mp hj with rfl | q
        · exact hkx
        · exact hjs j q
      have hjl : js.length ≤ 1000 := by
        have : ∀ {r : Rw} {ys : List Int} {js : List Nat}, Ca n up x r ys js → js.length = ys.length := fun h => by
          induction h with
          | nil => rfl
          | cons _ _ _ _ ih => rw [List.length_cons, List.length_cons, ih]
        rw [this ca]
        omega
      refine ⟨c, rfl, ⟨_, sqL hc⟩, fun e he => lc_list (xs := (kx :: js).map nV) (fun i H' => Same H10 H' ∧ H' e = some (.lst ((((kx :: js).take i).map π).map nV))) ⟨same_new he, upd_same⟩ (fun i H' _ h => lstS h.1 hc) ?_ ?_⟩
      · rintro j y H' hy ⟨sm, hz⟩
        rw [List.getElem?_map] at hy
        obtain ⟨q, hq, rfl⟩ := Option.map_eq_some_iff.mp hy
        have hil := (List.getElem?_eq_some_iff.mp hq).1
        rw [List.length_cons] at hil
        refine ⟨rfl, yes (iteT ⟨_, rfl, _, rfl, p, _, (q : Int), nV (π q), rfl, rfl, lstS sm W10.p, at_tab (hlt q (List.mem_of_getElem? hq)), _, hz, szlt (by rw [List.length_map, List.length_map, List.length_take, List.length_cons]; omega), same_mut sm he, ?_⟩)⟩
        rw [upd_same, List.take_succ, hq, List.map_append, List.map_append]
        rfl
      rintro H11 ⟨s11, he11⟩
      rw [List.length_map, List.take_length] at he11
      have W11 := W10.same s11
      have hY11 := s11 _ _ hY10
      refine ⟨_, rfl, _, rfl, _, rfl, Y, rfl, ⟨_, sqL hY11⟩, fun b hb => lc_list (xs := ys.map V.int) (fun i H' => Same H11 H' ∧ H' b = some (.lst (((ys.take i).map ν).map V.int))) ⟨same_new hb, upd_same⟩ (fun i H' _ h => lstS h.1 hY11) ?_ ?_⟩
      · rintro j y H' hy ⟨sm, hz⟩
        rw [List.getElem?_map] at hy
        obtain ⟨q, hq, rfl⟩ := Option.map_eq_some_iff.mp hy
        have hil := (List.getElem?_eq_some_iff.mp hq).1
        obtain ⟨kv, hk, hv⟩ := (W11.same sm).get (W.ev (yheld q (List.mem_of_getElem? hq)))
        refine ⟨rfl, yes (iteT ⟨_, rfl, _, rfl, d, kv, some (.inl q), .int (ν q), rfl, .inl hk, rfl, hv, _, hz, szlt (by rw [List.length_map, List.length_map, List.length_take]; omega), same_mut sm hb, ?_⟩)⟩
        rw [upd_same, List.take_succ, hq, List.map_append, List.map_append]
        rfl
      rintro H12 ⟨s12, hb12⟩
      rw [List.length_map, List.take_length] at hb12
      have W12 := W11.same s12
      obtain ⟨kv, hk, hv⟩ := W12.get (W.ev (zheld x hx))
      refine ⟨_, rfl, _, rfl, d, kv, some (.inl x), .int (ν x), rfl, .inl hk, rfl, hv, a', v', b, n, up', _, ys.map ν, ν x, π kx, rfl, W12.A', hb12, fun y hy => ?_, nodup_nu W.m ynd (fun y hy => W.ev (yheld y hy)), by rw [List.length_map]; omega, W.R.lt kx hkx, by rw [mv_at W.R hkx, hrx]; rfl, fun hm => ?_, fun H13 c2 js2 s13 ca2 _ hc2 => ?_⟩
      · obtain ⟨z, hz, rfl⟩ := List.mem_map.mp hy
        exact W.mvheld (yheld z hz)
      · obtain ⟨z, hz, e2⟩ := List.mem_map.mp hm
        exact xny (W.m.inj (W.ev (yheld z hz)) (W.ev (zheld x hx)) e2 ▸ hz)
      have ej : js2 = js.map π := Ca.mv W.R W.m ca W.A.ar.ok W.S ca2
      have s913 := ((s10.trans s11).trans s12).trans s13
      refine ⟨_, rfl, c2, e, _, rfl, rfl, nats_nI, .inl ⟨sqL hc2, sqL ?_⟩, _, rfl, iteF ⟨⟨_, _, rfl⟩, s9.trans s913, s913 _ _ hY9, s913 _ _ hU9⟩⟩
      rw [ej]
      exact (s12.trans s13) _ _ he11
    · rintro σ H9 ⟨_, s9, -⟩
      exact k _ (b02.trans (But.of_same s9)) (g2'.same s9)
end
end Mu


/-! A generator def whose consumer may change objects of its own (f tells which) between two items, and lay new ones. The count of the items that are out takes the place of a list of them. -/
namespace Mu
open PySem PySem.Spec L2 PyProof.Rows PySem.SeqAt GenW
theorem un_but {fs ch : List Addr} {H : Hp} {h h' : Heap} (k : ∀ b o, b ∉ ch → h.get? b = some o → h'.get? b = some o) : Un fs ch H H h h' :=
  ⟨fun b o e _ _ hx => k b o hx e, fun b o e _ _ hx => ⟨o.slots, k b o hx e⟩, fun _ _ _ n _ => n, fun b o e hx => ⟨o, k b o hx e⟩, fun _ _ q => q, fun _ _ _ q => q, fun b ps q => ⟨#[], by rw [q]; simp⟩⟩
theorem hok_but {P : Program} {w : World} {ch : List Addr} {H : Hp} {h h' : Heap} (ok : HOk P w H h) (n : ∀ b ∈ ch, H b = none) (k : ∀ b o, b ∉ ch → h.get? b = some o → h'.get? b = some o) : HOk P w H h' := fun b u q => by
  refine (ok b u q).stay (fun c v hc y => k c v (fun hm => ?_) y) (fun _ y => y) fun _ _ y => y
  rcases hc with y | y
  · rw [← y, n c hm] at q; cases q
  · rw [n c hm] at y; cases y
theorem obj_there {P : Program} {w : World} {H : Hp} {h : Heap} {a : Addr} {o : HO} (x : ObjOk P w H h a o) : ∃ u, h.get? a = some u := by
  cases o with
  | lst xs => obtain ⟨_, _, _, _, e⟩ := x; exact ⟨_, e⟩
  | tup xs => obtain ⟨_, _, _, o, e, _⟩ := x; exact ⟨_, e⟩
  | dK kvs => obtain ⟨_, _, _, _, o, _, _, e, _⟩ := x; exact ⟨_, e⟩
  | dT kvs => obtain ⟨_, _, _, _, o, _, _, e, _⟩ := x; exact ⟨_, e⟩
  | set S n => obtain ⟨o, _, _, _, e, _⟩ := x; exact ⟨_, e⟩
  | ins C dx fs => obtain ⟨_, _, _, e, _⟩ := x; exact ⟨_, e⟩
  | own y => exact x
  | xd fs => obtain ⟨_, ⟨_, _, _, e, _⟩, _⟩ := x; exact ⟨_, e⟩
  | rng lo hi => obtain ⟨_, _, _, e⟩ := x; exact ⟨_, e⟩
  | frz ob u => obtain ⟨e, _⟩ := x; exact ⟨_, e⟩
  | tbl ps => exact ⟨_, (show h.get? a = some _ from x)⟩
  | met f y => exact ⟨_, (show h.get? a = some _ from x)⟩
  | ext φ => exact x.2.1
/-- while the generator sleeps -/
structure Slp (f : Heap → List Addr) (s₀ s s' : Shared) : Prop where
  os : s'.os = s.os
  bare : AllBare s'.gens
  keep : ∀ b o, b ∉ f s₀.heap → s.heap.get? b = some o → s'.heap.get? b = some o
  own : ∀ b ∈ f s'.heap, (b ∈ f s₀.heap ∨ (s.heap.get? b = none ∧ ∃ c ∈ f s₀.heap, c ≤ b)) ∧ ∃ o, s'.heap.get? b = some o ∧ ∀ v, o.data ≠ .cell v
/-- the generator runs: what the consumer owned when it was woken (at s₀) stands as it was then -/
structure GIn (X : Cx) (p0 : List (Addr × Obj)) (f : Heap → List Addr) (s₀ : Shared) (σ : L2.St) (H : Hp) (s : Shared) : Prop where
  inv : Inv X (p0 ++ pinsAt (f s₀.heap) s₀.heap) σ H s
  fr : ∀ b ∈ f s₀.heap, X.s_0.heap.objs.size ≤ b ∧ (∀ p ∈ p0, p.1 ≠ b) ∧ ∃ o, s₀.heap.get? b = some o
section
variable {X : Cx} {p0 : List (Addr × Obj)} {f : Heap → List Addr} {s₀ s s' : Shared} {σ : L2.St} {H : Hp}
theorem GIn.own (g : GIn X p0 f s₀ σ H s) {b : Addr} (hb : b ∈ f s₀.heap) : ∃ o, s₀.heap.get? b = some o ∧ s.heap.get? b = some o ∧ H b = none ∧ b ≠ X.env.locals ∧ b ∉ X.fs ∧ ∀ v, o.data ≠ .cell v := by
  obtain ⟨_, _, o, ho⟩ := g.fr b hb
  obtain ⟨h1, h2, h3, h4, h5⟩ := g.inv.pin (b, o) (List.mem_append_right _ (List.mem_append_right _ (mem_pinsAt hb ho)))
  exact ⟨o, ho, h1, h2, h3, h4, h5⟩
theorem GIn.fp (hX : X.pn = []) (g : GIn X p0 f s₀ σ H s) {b : Addr} (hb : b ∈ f s₀.heap) : FpOk X p0 H b := by
  obtain ⟨o, _, e, h2, h3, h4, h5⟩ := g.own hb
  obtain ⟨a1, a2, _⟩ := g.fr b hb
  refine ⟨h2, h3, h4, .inr a1, fun x c hc z => ?_, fun p hp => a2 p (by rw [hX] at hp; exact hp)⟩
  obtain ⟨v, oc, ho, hd⟩ := g.inv.cell x c hc
  rw [z, e] at ho
  cases ho
  exact h5 v hd
theorem GIn.woken (hX : X.pn = []) (g : GIn X p0 f s₀ σ H s) (z : Slp f s₀ s s') : GIn X p0 f s' σ H s' := by
  have I0 : Inv X p0 σ H s := g.inv.unpinned
  have J : Inv X p0 σ H s' := by
    refine I0.call' (ch := f s₀.heap) z.os (un_but z.keep) (hok_but I0.hok (fun b hb => (g.own hb).choose_spec.2.2.1) z.keep) z.bare fun b hb => ?_
    obtain ⟨f0, f1, f2, f3, f4, f5⟩ := g.fp hX hb
    exact ⟨f3, f1, f4, f5⟩
  have fp : ∀ b ∈ f s'.heap, FpOk X p0 H b := fun b hb => by
    rcases (z.own b hb).1 with h | ⟨h, c, hc, hle⟩
    · exact g.fp hX h
    · have no : ∀ o, s.heap.get? b = some o → False := fun o e => by rw [h] at e; cases e
      refine ⟨?_, fun e => ?_, fun e => ?_, .inr (Nat.le_trans (g.fr c hc).1 hle), fun x c' e z => ?_, fun p hp e => ?_⟩
      · cases q : H b with
        | none => rfl
        | some u =>
          obtain ⟨o, e⟩ := obj_there (I0.hok b u q)
          exact (no o e).elim
      · obtain ⟨m, ⟨o, _, _, ho, _⟩, _⟩ := I0.loc
        exact no o (e ▸ ho)
      · obtain ⟨_, o, ho, _⟩ := I0.funs.mem e
        exact no o ho
      · obtain ⟨v, o, ho, _⟩ := I0.cell x c' e
        exact no o (z ▸ ho)
      · obtain ⟨h1, _⟩ := I0.pin p hp
        exact no p.2 (e ▸ h1)
  refine ⟨J.pinned fp fun b hb => (z.own b hb).2, fun b hb => ⟨?_, fun p hp => ?_, ?_⟩⟩
  · rcases (z.own b hb).1 with h | h
    · exact (g.fr b h).1
    · obtain ⟨c, hc, hle⟩ := h.2
      exact Nat.le_trans (g.fr c hc).1 hle
  · exact (fp b hb).2.2.2.2.2 p (List.mem_append_right _ hp)
  · obtain ⟨o, e, _⟩ := (z.own b hb).2
    exact ⟨o, e⟩
end
/-! ### the protocol -/
abbrev YF := Nat → V → Hp → Prop
def GYn (X : Cx) (p0 : List (Addr × Obj)) (f : Heap → List Addr) (Y : YF) : Protocol := fun n s₀ v s kap =>
  ∃ i x σ H, n + 1 + i = sizeLine ∧ RelV x v ∧ GIn X p0 f s₀ σ H s ∧ Y i x H ∧ ∀ s', Slp f s₀ s s' → kap (.send .none) s'
structure GE where
  nx : Nat → L2.St → Hp → Prop
  rt : Nat → VK
  bk : Nat → L2.St → Hp → Prop := fun _ _ _ => False
  ct : Nat → L2.St → Hp → Prop := fun _ _ _ => False
abbrev TGc := GE → Nat → L2.St → Hp → Prop
def GE.at (D : GE) (i : Nat) : Ends := { nx := D.nx i, rt := D.rt i, bk := D.bk i, ct := D.ct i }
def GSPn (X : Cx) (p0 : List (Addr × Obj)) (f : Heap → List Addr) (s₀ : Shared) (D : GE) (i : Nat) (fl : Flow) (s : Shared) : Prop :=
  match fl with
  | .next => ∃ σ H, GIn X p0 f s₀ σ H s ∧ D.nx i σ H
  | .brk => ∃ σ H, GIn X p0 f s₀ σ H s ∧ D.bk i σ H
  | .cont => ∃ σ H, GIn X p0 f s₀ σ H s ∧ D.ct i σ H
  | .ret u => ∃ v σ H, GIn X p0 f s₀ σ H s ∧ RelV v u ∧ D.rt i v H
structure GCn (X : Cx) (A : Around) (c : Code) (fs : List Frame) (gd : Bool → Bool) : Prop where
  pn : X.pn = []
  xe : ∀ e s, X.xe e s → False
  over : A.over c fs = X.A
  split : splitAtGen fs = none
  guard : fs.any Frame.guarded = false
  gd : gd false = false
def GKn (X : Cx) (p0 : List (Addr × Obj)) (f : Heap → List Addr) (Y : YF) (A : Around) (R : GenEnd) (c : Code) (fs : List Frame) (K : Flow → Sem PySem.Fin) (D : GE) : Prop :=
  ∀ (n i : Nat) (s₀ s : Shared) (fl : Flow), n + i = sizeLine → GSPn X p0 f s₀ D i fl s → Seg (model X.prog X.w) A R (GYn X p0 f Y) n s₀ c (K fl) fs s
structure GSn (X : Cx) (st : Stmt) (Y : YF) (t : TGc) : Prop where
  run : ∀ (A : Around) (p0 : List (Addr × Obj)) (f : Heap → List Addr) (R : GenEnd) (n i : Nat) (s₀ : Shared) (c : Code) (fs : List Frame) (K : Flow → Sem PySem.Fin) (J : Value → Sem PySem.Fin) (gd : Bool → Bool) (lv : List Value → List Value) (s : Shared) (σ : L2.St) (H : Hp) (D : GE),
    GCn X A c fs gd → n + i = sizeLine → GKn X p0 f Y A R c fs K D → GIn X p0 f s₀ σ H s → t D i σ H → Seg (model X.prog X.w) A R (GYn X p0 f Y) n s₀ c ((exec st X.env).wrap K J gd lv) fs s
structure GSsn (X : Cx) (st : List Stmt) (Y : YF) (t : TGc) : Prop where
  run : ∀ (A : Around) (p0 : List (Addr × Obj)) (f : Heap → List Addr) (R : GenEnd) (n i : Nat) (s₀ : Shared) (c : Code) (fs : List Frame) (K : Flow → Sem PySem.Fin) (J : Value → Sem PySem.Fin) (gd : Bool → Bool) (lv : List Value → List Value) (s : Shared) (σ : L2.St) (H : Hp) (D : GE),
    GCn X A c fs gd → n + i = sizeLine → GKn X p0 f Y A R c fs K D → GIn X p0 f s₀ σ H s → t D i σ H → Seg (model X.prog X.w) A R (GYn X p0 f Y) n s₀ c ((execs st X.env).wrap K J gd lv) fs s
section
variable {X : Cx} {st : Stmt} {rest : List Stmt} {Y : YF}
def cPlain (t : TS) : TGc := fun D i σ H => t (D.at i) σ H
theorem sp_gspn {p0 : List (Addr × Obj)} {f : Heap → List Addr} {s₀ s1 s : Shared} {σ : L2.St} {H : Hp} {D : GE} {i : Nat} {fl : Flow} (g : GIn X p0 f s₀ σ H s1) (h : SP X (p0 ++ pinsAt (f s₀.heap) s₀.heap) (D.at i) fl s) : GSPn X p0 f s₀ D i fl s := by
  cases fl with
  | next => obtain ⟨σ, H, I, q⟩ := h; exact ⟨σ, H, ⟨I, g.fr⟩, q⟩
  | brk => obtain ⟨σ, H, I, q⟩ := h; exact ⟨σ, H, ⟨I, g.fr⟩, q⟩
  | cont => obtain ⟨σ, H, I, q⟩ := h; exact ⟨σ, H, ⟨I, g.fr⟩, q⟩
  | ret u => obtain ⟨v, σ, H, I, r1, q⟩ := h; exact ⟨v, σ, H, ⟨I, g.fr⟩, r1, q⟩
theorem gc_ps {t : TS} (h : PS X st t) : GSn X st Y (cPlain t) := by
  refine ⟨fun A p0 f R n i s₀ c fs K J gd lv s σ H D g hn k hI ht => seg_wrap ?_⟩
  rw [g.over]
  exact wpAny_mono (h.run _ s σ H (D.at i) hI.inv ht) (fun fl s' hs => k n i s₀ s' fl hn (sp_gspn hI hs)) fun x s' hx => (g.xe x s' hx).elim
theorem gcs_nil : GSsn X [] Y (fun D i σ H => D.nx i σ H) :=
  ⟨fun A p0 f R n i s₀ c fs K J gd lv s σ H D g hn k hI ht => seg_execs_nil (k n i s₀ s .next hn ⟨σ, H, hI, ht⟩)⟩
def cThen (t u : TGc) : TGc := fun D i σ H => t { D with nx := fun i' σ' H' => u D i' σ' H' } i σ H
theorem gcs_cons {t u : TGc} (a : GSn X st Y t) (b : GSsn X rest Y u) : GSsn X (st :: rest) Y (cThen t u) := by
  refine ⟨fun A p0 f R n i s₀ c fs K J gd lv s σ H D g hn k hI ht => seg_execs_cons ?_⟩
  refine a.run A p0 f R n i s₀ c fs _ J gd lv s σ H { D with nx := fun i' σ' H' => u D i' σ' H' } g hn (fun n' i' s₀' s' fl hn' hs => ?_) hI ht
  cases fl with
  | next =>
    obtain ⟨σ', H', I', q⟩ := hs
    exact b.run A p0 f R n' i' s₀' c fs K J gd lv s' σ' H' D g hn' k I' q
  | brk => exact k n' i' s₀' s' .brk hn' hs
  | cont => exact k n' i' s₀' s' .cont hn' hs
  | ret u => exact k n' i' s₀' s' (.ret u) hn' hs
/-- yield e -/
def cYield (Y : YF) (te : TE) : TGc := fun D i σ H => i < sizeLine ∧ te σ H fun x H1 => Y i x H1 ∧ D.nx (i + 1) σ H1
theorem gc_yield {e : Expr} {yp pos : Pos} {te : TE} (he : PE X e te) (hco : X.env.scope.isCoroutine = false := by rfl) (hi : interactive X.env = false := by rfl) : GSn X (.Expr (.Yield (some e) yp) pos) Y (cYield Y te) := by
  refine ⟨fun A p0 f R n i s₀ c fs K J gd lv s σ H D g hn k hI ht => ?_⟩
  obtain ⟨hlt, ht⟩ := ht
  obtain ⟨n, rfl⟩ : ∃ m, n = m + 1 := ⟨n - 1, by omega⟩
  refine seg_Expr_Yield g.split g.gd g.guard ?_ hco hi
  rw [g.over]
  refine wpAny_mono (he.run _ s σ H _ hI.inv ht) (fun v s' hv => ?_) fun x s' hx => (g.xe x s' hx).elim
  obtain ⟨x, H1, I1, rv, hY, q⟩ := hv
  have G1 : GIn X p0 f s₀ σ H1 s' := ⟨I1, hI.fr⟩
  intro kap hk
  refine ⟨i, x, σ, H1, hn, rv, G1, hY, fun s'' z => hk .none s'' ?_⟩
  exact k n (i + 1) s'' s'' .next (by omega) ⟨σ, H1, G1.woken g.pn z, q⟩
/-- while -/
def cWhile (c : TT) (tb : TGc) : TGc := fun D i σ H => ∃ W : Nat → Nat → L2.St → Hp → Prop, (∃ m, W m i σ H) ∧ ∀ m i σ H, W m i σ H →
  c σ H fun b H1 => if b = true then ∃ N : Nat → L2.St → Hp → Prop, (∀ i' σ' H', N i' σ' H' → ∃ m', m' < m ∧ W m' i' σ' H') ∧ tb { D with nx := N, ct := N, bk := D.nx } i σ H1 else D.nx i σ H1
theorem gcn_loop {A : Around} {c c' : Code} {fs : List Frame} {gd : Bool → Bool} {k : Result → Sem PySem.Fin} {l kp : List Value} {p : Pos} (g : GCn X A c fs gd) (hw : c'.weight = 0) (hu : c'.cUnits = 0) : GCn X A c' (.ret k none (gd false) l c p kp :: fs) id where
  pn := g.pn
  xe := g.xe
  over := (over_loop hw hu).trans g.over
  split := by
    show (splitAtGen fs).map _ = none
    rw [g.split]; rfl
  guard := by
    show (gd false || fs.any Frame.guarded) = false
    rw [g.gd, g.guard]; rfl
  gd := rfl
theorem gc_while {test : Expr} {body : List Stmt} {pos : Pos} {tc : TT} {tb : TGc} (hc : PT X test tc) (hb : GSsn X body Y tb) : GSn X (.While test body [] pos) Y (cWhile tc tb) := by
  refine ⟨fun A p0 f R n i s₀ c fs K J gd lv s σ H D g hn k hI ht => ?_⟩
  obtain ⟨W, ⟨m0, w0⟩, turn⟩ := ht
  refine seg_While fun p => ?_
  have gl := fun (kk : Result → Sem PySem.Fin) => gcn_loop (k := kk) (c' := .whileLoop test body [] X.env) (l := lv []) (kp := []) (p := p) g rfl rfl
  have loop : ∀ (m n i : Nat) (s₀ s : Shared) (σ : L2.St) (H : Hp), n + i = sizeLine → W m i σ H → GIn X p0 f s₀ σ H s →
      Seg (model X.prog X.w) A R (GYn X p0 f Y) n s₀ (.whileLoop test body [] X.env) ((model X.prog X.w).den (.whileLoop test body [] X.env))
        (.ret (fun r => ((match r with | .ok fl => (.pure fl : Sem Flow) | .error e => .raise e).onRaise fun (x : Value) => do
        if (← field x 1) == Value.none then unsupported "frame.own-activation:exception-without-traceback"
        setFlight x X.env.frame).wrap K J gd lv) none (gd false) (lv []) c p [] :: fs) s := by
    intro m
    induction m using Nat.strongRecOn with
    | ind m ih =>
      intro n i s₀ s σ H hn w hI
      refine seg_whileLoop ?_
      rw [(gl _).over]
      refine wpAny_mono (hc.run _ s σ H _ hI.inv (turn m i σ H w)) (fun b s' hb' => ?_) fun x s' hx => (g.xe x s' hx).elim
      obtain ⟨H2, I2, q2⟩ := hb'
      cases b with
      | true =>
        obtain ⟨N, hN, q2⟩ := q2
        rw [if_pos rfl]
        refine hb.run A p0 f R n i s₀ _ _ _ _ id id s' σ H2 { D with nx := N, ct := N, bk := D.nx } (gl _) hn (fun n' i' s₀' s3 fl hn' hs => ?_) ⟨I2, hI.fr⟩ q2
        cases fl with
        | next =>
          obtain ⟨σ3, H3, I3, n3⟩ := hs
          obtain ⟨m', hm, w3⟩ := hN i' σ3 H3 n3
          exact seg_again rfl (ih m' hm n' i' s₀' s3 σ3 H3 hn' w3 I3)
        | cont =>
          obtain ⟨σ3, H3, I3, n3⟩ := hs
          obtain ⟨m', hm, w3⟩ := hN i' σ3 H3 n3
          exact seg_again rfl (ih m' hm n' i' s₀' s3 σ3 H3 hn' w3 I3)
        | brk => exact seg_leaf (.ok .next) (k n' i' s₀' s3 .next hn' hs)
        | ret v => exact seg_leaf (.ok (.ret v)) (k n' i' s₀' s3 (.ret v) hn' hs)
      | false =>
        rw [if_neg Bool.false_ne_true]
        refine seg_execs_nil ?_
        exact seg_leaf (.ok .next) (k n i s₀ s' .next hn ⟨σ, H2, ⟨I2, hI.fr⟩, q2⟩)
  exact loop m0 n i s₀ s σ H hn w0 hI
end
end Mu

/-! What a call of such a generator def gives. -/
namespace Mu
open PySem PySem.Spec L2 PyProof.Rows PySem.SeqAt GenW
/-- the end of a run; an item -/
def REn (P : Program) (w : World) (outer : List Env) (H : Hp) (s : Shared) (f : Heap → List Addr) (Q : Nat → Hp → Prop) (n : Nat) (s₀ s1 : Shared) : Prop :=
  ∃ H' i, n + i = sizeLine ∧ s1.os = s.os ∧ AllBare s1.gens ∧ Un (frs outer) [] H H' s.heap s1.heap ∧ HOk P w H' s1.heap ∧ (∀ b ∈ f s₀.heap, H' b = none ∧ ∀ o, s₀.heap.get? b = some o → s1.heap.get? b = some o) ∧ Q i H'
def YIn (P : Program) (w : World) (outer : List Env) (H : Hp) (s : Shared) (f : Heap → List Addr) (a : Addr) (g : Nat) (Y : YF) : Protocol := fun n s₀ v s1 kap =>
  s1.os = s.os ∧ AllBare s1.gens ∧ s1.heap.NoLimit ∧ s1.heap.IsGen a g ∧ (∃ i x H', n + 1 + i = sizeLine ∧ RelV x v ∧ Un (frs outer) [] H H' s.heap s1.heap ∧ HOk P w H' s1.heap ∧ (∀ b ∈ f s₀.heap, H' b = none ∧ ∀ o, s₀.heap.get? b = some o → s1.heap.get? b = some o) ∧ Y i x H') ∧
  ∀ s', Slp f s₀ s1 s' → kap (.send .none) s'
def REnd2 (P : Program) (w : World) (outer : List Env) (H : Hp) (s : Shared) (f : Heap → List Addr) (Q : Nat → Hp → Prop) : GenEnd := fun n s₀ r s1 => ((r = .ok (.ret .none) ∨ r = .ok .next) ∧ REn P w outer H s f Q n s₀ s1) ∨ ∃ e, r = .error e ∧ False
def GMd (P : Program) (w : World) (k : Nat) (outer : List Env) (H : Hp) (s : Shared) (Y : YF) (Q : Nat → Hp → Prop) (u : Value) (s' : Shared) : Prop :=
  ∃ (a : Addr) (g : Nat) (c : Code), u = .ref a ∧ s.heap.objs.size ≤ a ∧ a < s'.heap.objs.size ∧ s'.heap.IsGen a g ∧ s'.gens[g]? = some (.fresh c) ∧ s'.os = s.os ∧ AllBare s'.gens ∧ s'.heap.NoLimit ∧ (∀ b o, s.heap.get? b = some o → s'.heap.get? b = some o) ∧
    ∀ (A : Around) (f : Heap → List Addr) (s2 : Shared), Room k A → A.frames = some outer → (∀ b ∈ f s2.heap, s'.heap.objs.size ≤ b ∧ ∃ o, s2.heap.get? b = some o ∧ ∀ v, o.data ≠ .cell v) → (∀ b o, s'.heap.get? b = some o → s2.heap.get? b = some o) → s2.os = s.os → AllBare s2.gens →
      Seg (model P w) A (REnd2 P w outer H s f Q) (YIn P w outer H s f a g Y) sizeLine s2 c ((model P w).den c) [] s2
abbrev SpC := List V → Hp → YF → (Nat → Hp → Prop) → Prop
structure GFc (P : Program) (w : World) (K : PySem.W.Frag) (mg : Str → Option Value) (base : Heap) (k : Nat) (f : Addr) (fd : FuncData) (ps : List Str) (sp : SpC) : Prop where
  len : ∀ vs H Y Q, sp vs H Y Q → vs.length = ps.length
  run : ∀ (A : Around) (outer : List Env) (s : Shared) (H : Hp) (args : Args) (us : List Value) (vs : List V) (Y : YF) (Q : Nat → Hp → Prop), Room k A → Env0 P w K mg base A outer s H → BindsTo s fd args (ps.zip us) → Vals vs us → sp vs H Y Q →
    codeAny (model P w) A (.call (.ref f) args) (fun r s' => match r with | .ok (.ret u) => GMd P w k outer H s Y Q u s' | _ => False) s
section
variable {P : Program} {w : World} {K : PySem.W.Frag} {mg : Str → Option Value} {base : Heap} {N ps : List Str} {qual : Str} {scope : Scope} {f : Addr} {cd : Value} {A : Around} {outer : List Env} {s s1 : Shared} {H H' : Hp}
theorem inv_conv {σ : L2.St} (I : Inv (gcxOf P w K mg base N qual scope f cd A outer s H E0 []) [] σ H' s1) : Inv (cxOf CX0 P w K mg base N qual scope f cd A outer s H E0).nox [] σ H' s1 :=
  ⟨⟨I.ok.mod, I.ok.kind, I.ok.glob, I.ok.blt, I.ok.above, I.ok.inj, I.ok.has, I.ok.cab, I.ok.hd, I.ok.frames, I.ok.stk, I.ok.exf, I.ok.bs, I.ok.bsz, I.ok.noex, I.ok.exfs, I.ok.funs, I.ok.frf⟩, I.os, I.bare, I.base, I.loc, I.cell, I.free, I.freeC, I.pin, I.hok, I.len⟩
end
/-- a generator def by its body -/
theorem gfc_of {P : Program} {w : World} {K : PySem.W.Frag} {mg : Str → Option Value} {base : Heap} {k : Nat} {f : Addr} {name qual : Str} {params : Arguments} {body : List Stmt} {scope : Scope} {dV kV doc pm cdv ct oc : Value} {an od : Option Addr}
    {osl : Array (Option Value)} {N ps : List Str} {sp : SpC} (lk : K.lookup f = some ⟨oc, od, .func (PySem.W.fnOf name qual params body scope dV kV doc pm an cdv ct), osl⟩) (hcd : PySem.W.codeIn K cdv qual = true) (S : GScope N ps scope)
    (len : ∀ vs H Y Q, sp vs H Y Q → vs.length = ps.length)
    (hbody : ∀ (A : Around) (outer : List Env) (s : Shared) (H : Hp) (vs : List V) (Y : YF) (Q : Nat → Hp → Prop), Room k (A.deeper (envOfC qual scope s.heap.objs.size f cdv)) → sp vs H Y Q →
      ∃ t, GSsn (cxOf CX0 P w K mg base N qual scope f cdv A outer s H E0).nox body Y t ∧ t { nx := fun i _ H' => Q i H', rt := fun i v H' => v = .non ∧ Q i H' } 0 (start N vs) H) :
    GFc P w K mg base (k + 1) f (PySem.W.fnOf name qual params body scope dV kV doc pm an cdv ct) ps sp := by
  refine ⟨len, fun A outer s H args us vs Y Q hr e0 hb r hsp => ?_⟩
  have hl := len _ _ _ _ hsp
  have KX : K.In s.heap := e0.mod.kin.keeps fun b o e => (e0.bs b o e).1
  have lim : s.heap.NoLimit := e0.mod.nolimit.keeps fun b o e => (e0.bs b o e).1
  have hkind : ∀ y ∈ ps.zip us, scope.names.lookup y.1 = some .local ∨ (scope.names.lookup y.1 = some .cell ∧ ((cellsFrom (s.heap.objs.size + 1) scope.names []).lookup y.1).isSome = true) := fun ⟨n, v⟩ hy => by
    rcases S.par n (List.of_mem_zip hy).1 with q | q
    · exact .inl q
    · exact .inr ⟨q, PySem.W.cellsFrom_some _ _ _ (.inl q)⟩
  refine codeAny_call_generator hr.depth (KX _ _ lk) rfl S.co S.gen rfl (PySem.W.codeRec_of KX hcd) (hb _ _ _ _ ?_)
  refine wpAny_newFunctionEnv_cells S.kind hkind fun env he s1 x => ?_
  subst he
  have lim1 : s1.heap.NoLimit := lim.keeps x.toInCall.keep
  refine ⟨lim1, ?_⟩
  obtain ⟨h1, tk, es1, hk1⟩ := x.done
  have os1 : s1.os = s.os := by rw [es1]
  have gen1 : s1.gens = s.gens := by rw [es1]
  have lt1 : s.heap.objs.size < s1.heap.objs.size := x.toInCall.ns.lt
  have sz1 : s.heap.objs.size ≤ s1.heap.objs.size := Nat.le_of_lt lt1
  have kp1 : ∀ b o, s.heap.get? b = some o → s1.heap.get? b = some o := x.toInCall.keep
  have main : ∀ (go : Obj) (nm qn : Value) (tk2 : Nat), go.cls = .type "generator" → go.data = .fields #[.int s1.gens.size 0, nm, qn] → go.slots = #[] → (∀ h : Heap, (h.push go).get? h.objs.size = some go) →
      GMd P w (k + 1) outer H s Y Q (.ref s1.heap.objs.size) { s1 with gens := s1.gens.push (.fresh (.func body (envOfC qual scope s.heap.objs.size f cdv))), toks := tk2, heap := s1.heap.push go } := by
    intro go nm qn tk2 hgc hgd0 hgs hgp
    have hgen : ∀ h : Heap, h.get? s1.heap.objs.size = some go → h.IsGen s1.heap.objs.size s1.gens.size := fun h e => ⟨go, nm, qn, e, hgc, hgd0, hgs⟩
    have hpushed : (s1.heap.push go).get? s1.heap.objs.size = some go := hgp _
    refine ⟨s1.heap.objs.size, s1.gens.size, _, rfl, sz1, ?_, hgen _ hpushed, Array.getElem?_push_size .., os1, ?_, lim1.keeps fun b o e => Heap.get?_push_of_some _ e, fun b o e => Heap.get?_push_of_some _ (kp1 b o e), ?_⟩
    · show _ < (s1.heap.push _).objs.size
      rw [Heap.size_push]; exact Nat.lt_succ_self _
    · exact AllBare.push (by rw [gen1]; exact e0.bare) rfl
    intro Aw fw s2 hrw hfr hown hk2 hos hba
    have e0w : Env0 P w K mg base Aw outer s H := ⟨hfr, e0.mod, e0.bs, e0.bsz, e0.funs, e0.frf, e0.hok, e0.bare⟩
    obtain ⟨t, ht, hq⟩ := hbody Aw outer s H vs Y Q (hrw.deeper _) hsp
    have I1 := inv_conv (inv_startG (E := E0) S hrw.hd e0w hl r x)
    have kp2 : ∀ b o, s1.heap.get? b = some o → s2.heap.get? b = some o := fun b o e => hk2 b o (Heap.get?_push_of_some _ e)
    have I2 := I1.call' (s' := s2) (ch := []) (hos.trans os1.symm) (Un.kept kp2) (I1.hok.kept kp2) hba fun b z => by simp at z
    have hsz : s1.heap.objs.size + 1 = (s1.heap.push go).objs.size := (Heap.size_push ..).symm
    have hea : s2.heap.get? s1.heap.objs.size = some go := hk2 s1.heap.objs.size go hpushed
    have hgd : ∀ v, go.data ≠ .cell v := fun v q => by rw [hgd0] at q; cases q
    have fpy : ∀ b, s1.heap.objs.size ≤ b → FpOk (cxOf CX0 P w K mg base N qual scope f cdv Aw outer s H E0).nox [] H b := fun b hb => I1.fpOk hb (I1.hok.fresh hb)
    have J0 := I2.pinned (pins := []) (fp := [s1.heap.objs.size]) (fun b hb => by rw [List.mem_singleton.mp hb]; exact fpy _ (Nat.le_refl _)) (fun b hb => by rw [List.mem_singleton.mp hb]; exact ⟨go, hea, hgd⟩)
    have ep : [] ++ pinsAt [s1.heap.objs.size] s2.heap = [(s1.heap.objs.size, go)] := by
      unfold pinsAt
      rw [List.nil_append, List.filterMap_cons, hea]
      rfl
    rw [ep] at J0
    have hne : ∀ b ∈ fw s2.heap, s1.heap.objs.size < b := fun b hb => by
      have := (hown b hb).1
      have h9 : (s1.heap.push go).objs.size ≤ b := this
      rw [← hsz] at h9
      exact h9
    have hG : GIn (cxOf CX0 P w K mg base N qual scope f cdv Aw outer s H E0).nox [(s1.heap.objs.size, go)] fw s2 (start N vs) H s2 := by
      refine ⟨J0.pinned (fun b hb => ?_) fun b hb => (hown b hb).2, fun b hb => ⟨Nat.le_trans sz1 (Nat.le_of_lt (hne b hb)), fun p hp => ?_, ?_⟩⟩
      · obtain ⟨f0, f1, f2, f3, f4, f5⟩ := fpy b (Nat.le_of_lt (hne b hb))
        exact ⟨f0, f1, f2, f3, f4, fun p hp => by
          rw [show p = (s1.heap.objs.size, go) from List.mem_singleton.mp hp]
          exact Nat.ne_of_lt (hne b hb)⟩
      · rw [List.mem_singleton.mp hp]
        exact Nat.ne_of_lt (hne b hb)
      · obtain ⟨o, e, _⟩ := (hown b hb).2
        exact ⟨o, e⟩
    have pinned : ∀ {s₀ s' : Shared} {σ' : L2.St} {H' : Hp}, GIn (cxOf CX0 P w K mg base N qual scope f cdv Aw outer s H E0).nox [(s1.heap.objs.size, go)] fw s₀ σ' H' s' → s'.heap.IsGen s1.heap.objs.size s1.gens.size := fun {s₀ s' σ' H'} hI =>
      hgen _ (hI.inv.pin (s1.heap.objs.size, go) (List.mem_append_right _ (List.mem_append_left _ (List.mem_singleton.mpr rfl)))).1
    have owned : ∀ {s₀ s' : Shared} {σ' : L2.St} {H' : Hp}, GIn (cxOf CX0 P w K mg base N qual scope f cdv Aw outer s H E0).nox [(s1.heap.objs.size, go)] fw s₀ σ' H' s' → ∀ b ∈ fw s₀.heap, H' b = none ∧ ∀ o, s₀.heap.get? b = some o → s'.heap.get? b = some o := fun {s₀ s' σ' H'} hI b hb => by
      obtain ⟨o, e0, e1, e2, _⟩ := hI.own hb
      exact ⟨e2, fun o' e => by rw [e0] at e; cases e; exact e1⟩
    refine seg_func ?_
    refine seg_imp (R := fun n s₀ r s' => ∃ i v u σ' H', r = .ok (.ret u) ∧ n + i = sizeLine ∧ GIn (cxOf CX0 P w K mg base N qual scope f cdv Aw outer s H E0).nox [(s1.heap.objs.size, go)] fw s₀ σ' H' s' ∧ RelV v u ∧ v = .non ∧ Q i H')
      (Y := GYn (cxOf CX0 P w K mg base N qual scope f cdv Aw outer s H E0).nox [(s1.heap.objs.size, go)] fw Y) (fun n s₀ r s1' hR => ?_) (fun n s₀ v s1' kap kap' hkk hY => ?_) sizeLine ?_
    · obtain ⟨i, v, u, σ', H', rfl, hn, hI, rv, rfl, hQ⟩ := hR
      have eu : u = Value.none := rv
      subst eu
      exact .inl ⟨.inl rfl, H', i, hn, hI.inv.os, hI.inv.bare, hI.inv.base, hI.inv.hok, owned hI, hQ⟩
    · obtain ⟨i, xx, σ', H', hn, h2, hI, hYy, h3⟩ := hY
      exact ⟨hI.inv.os, hI.inv.bare, hI.inv.nolimit, pinned hI, ⟨i, xx, H', hn, h2, hI.inv.base, hI.inv.hok, owned hI, hYy⟩, fun s' z => hkk _ _ (h3 s' z)⟩
    · refine ht.run Aw _ fw _ sizeLine 0 s2 _ [] _ _ id id s2 (start N vs) H _ ⟨rfl, fun _ _ h => h, over_func, rfl, rfl, rfl⟩ (Nat.add_zero _) (fun n i s₀ s' fl hn hs => ?_) hG hq
      cases fl with
      | next =>
        obtain ⟨σ', H', hI, hQ⟩ := hs
        exact seg_end (.ok (.ret .none)) ⟨i, .non, .none, σ', H', rfl, hn, hI, rfl, rfl, hQ⟩
      | brk => obtain ⟨_, _, _, q⟩ := hs; exact False.elim q
      | cont => obtain ⟨_, _, _, q⟩ := hs; exact False.elim q
      | ret u =>
        obtain ⟨v, σ', H', hI, rv, ev, hQ⟩ := hs
        exact seg_end (.ok (.ret u)) ⟨i, v, u, σ', H', rfl, hn, hI, rv, ev, hQ⟩
  exact main _ _ _ _ rfl rfl rfl fun h => Heap.get?_push_size _ rfl
end Mu

/-! Evaluations that tell the whole state behind them: names, two kinds of subscripts, a tuple of them, a store to three names. -/
namespace Mu
open PySem PySem.Spec L2 PyProof.Rows PySem.SeqAt GenW
section
variable {P : Program} {w : World} {A : Around} {E : Value → Shared → Prop} {s : Shared} {env : Env}
theorem nm_raw {x : Str} {u : Value} {pos : Pos} {Q : Value → Shared → Prop} (hk : env.scope.kind = .function) (hl : ∃ m, s.heap.Ns env.locals m ∧ Look env s.heap m x u) (h : Q u s) (hd : (x == ("__debug__" : Str)) = false) (hcd : (x == ("__classdict__" : Str)) = false) :
    wpAny (model P w) A (eval (.Name x pos) env) Q E s := by
  obtain ⟨m, hn, l⟩ := hl
  rcases l with ⟨k, hm⟩ | ⟨k, c, hc, hcell⟩
  · exact wpAny_Name (wpAny_loadName_local hk k hn hm h) hd
  · rcases k with k | k
    · exact wpAny_Name (wpAny_loadName_cell hk k hc hcell h) hd
    · exact wpAny_Name (wpAny_loadName_free hk k hc hcell h hcd) hd
/-- a name's value, wherever the state is -/
structure Has (env : Env) (h : Heap) (x : Str) (u : Value) : Prop where
  ex : ∃ m, h.Ns env.locals m ∧ Look env h m x u
  hd : (x == ("__debug__" : Str)) = false
  hcd : (x == ("__classdict__" : Str)) = false
theorem Has.ev {x : Str} {u : Value} {pos : Pos} {Q : Value → Shared → Prop} (a : Has env s.heap x u) (hk : env.scope.kind = .function) (h : Q u s) : wpAny (model P w) A (eval (.Name x pos) env) Q E s := nm_raw hk a.ex h a.hd a.hcd
theorem dget_raw {H : Hp} {nm a : Str} {p1 p2 p3 : Pos} {d : Addr} {kvs : List (Option Key × V)} {k : Option Key} {v : V} {u : Value} {Q : Value → Shared → Prop} (hk : env.scope.kind = .function) (h1 : Has env s.heap nm (.ref d)) (h2 : Has env s.heap a u) (ok : HOk P w H s.heap) (e : H d = some (nD P w d kvs))
    (l : valV kvs k = some v) (ry : RelV (nkV k) u) (hQ : ∀ w', RelV v w' → Q w' { s with toks := s.toks + 1 }) : wpAny (model P w) A (eval (.Subscript (.Name nm p1) (.Name a p2) p3) env) Q E s := by
  refine subD_of PySem.F.slot_dict_getitem.lookup (fun _ _ => rfl) (h1.ev hk (h2.ev hk ?_))
  obtain ⟨z, hd, vs, rel, dd⟩ := nD_rd ok (.inl e)
  obtain ⟨w', hw, rw'⟩ := RelO.some_of (v := v) (o := valueAt vs k) (by rw [← l]; exact rel.val k)
  exact ⟨dd.typeIs, wpAny_getItem_of (nk_is ry) dd.mapOf hw (hQ w' rw')⟩
theorem lget_raw {pl b : Str} {p1 p2 p3 : Pos} {p : Addr} {items : Array Value} {j : Nat} {t : Tok} {u : Value} {Q : Value → Shared → Prop} (hk : env.scope.kind = .function) (h1 : Has env s.heap pl (.ref p)) (h2 : Has env s.heap b (.int (j : Int) t)) (hl : s.heap.IsList p items) (hj : items[j]? = some u) (hz : j < 1000000) (hQ : Q u s) :
    wpAny (model P w) A (eval (.Subscript (.Name pl p1) (.Name b p2) p3) env) Q E s := by
  refine Subscript_ (h1.ev hk (h2.ev hk ?_))
  exact item_listR hl (by omega) (by omega) (by simpa using hj) hQ rfl
/-- (names[a], places[b], places[c]) -/
theorem elt_raw {H : Hp} {nm pl a b c : Str} {q1 q2 q3 q4 q5 q6 q7 q8 q9 tp : Pos} {kk : Nat} {d p : Addr} {kvs : List (Option Key × V)} {k : Option Key} {v : V} {ua w1 w2 : Value} {items : Array Value} {i j : Nat} {t1 t2 : Tok} {Q : Value → Shared → Prop} (hk : env.scope.kind = .function)
    (h1 : Has env s.heap nm (.ref d)) (h2 : Has env s.heap pl (.ref p)) (ha : Has env s.heap a ua) (hb : Has env s.heap b (.int (i : Int) t1)) (hc : Has env s.heap c (.int (j : Int) t2)) (ok : HOk P w H s.heap) (e : H d = some (nD P w d kvs)) (l : valV kvs k = some v) (ry : RelV (nkV k) ua)
    (hl : s.heap.IsList p items) (hi : items[i]? = some w1) (hj : items[j]? = some w2) (zi : i < 1000000) (zj : j < 1000000)
    (hQ : ∀ w0 tk, RelV v w0 → Q (.ref s.heap.objs.size) { s with toks := tk, heap := s.heap.push { cls := .type "tuple", data := .seq #[w0, w1, w2] } }) :
    wpAny (model P w) A (eval (.Tuple [.Subscript (.Name nm q1) (.Name a q2) q3, .Subscript (.Name pl q4) (.Name b q5) q6, .Subscript (.Name pl q7) (.Name c q8) q9] kk tp) env) Q E s := by
  refine wpAny_Tuple_spliced ?_
  show wpAny _ _ (spliced [(false, eval (.Subscript (.Name nm q1) (.Name a q2) q3) env), (false, eval (.Subscript (.Name pl q4) (.Name b q5) q6) env), (false, eval (.Subscript (.Name pl q7) (.Name c q8) q9) env)]) _ _ s
  refine Calls.spliced_cons (dget_raw hk h1 ha ok e l ry fun w0 r0 => ?_)
  refine Calls.spliced_cons (lget_raw (s := { s with toks := s.toks + 1 }) hk h2 hb hl hi zi ?_)
  refine Calls.spliced_cons (lget_raw (s := { s with toks := s.toks + 1 }) hk h2 hc hl hj zj ?_)
  exact Calls.spliced_nil ⟨szle (by show 3 ≤ 100000; decide), hQ w0 _ r0⟩
/-- a, b, c = the tuple at t -/
theorem asg_raw {a b c : Str} {pa pb pc pt : Pos} {kt : Nat} {t : Addr} {ua ub uc : Value} {m : Str → Option Value} {Q : Unit → Shared → Prop} (hh : A.handled = none) (hk : env.scope.kind = .function) (ht : IsTup s.heap t #[ua, ub, uc]) (hn : s.heap.Ns env.locals m)
    (ka : env.kindOf a = some .local) (kb : env.kindOf b = some .local) (kc : env.kindOf c = some .local) (nab : a ≠ b) (nac : a ≠ c) (nbc : b ≠ c)
    (hQ : ∀ h' m' tk, (∀ x o, x ≠ env.locals → s.heap.get? x = some o → h'.get? x = some o) → h'.Ns env.locals m' → m' a = some ua → m' b = some ub → m' c = some uc → Q () { s with heap := h', toks := tk }) :
    wpAny (model P w) A (assign (.Tuple [.Name a pa, .Name b pb, .Name c pc] kt pt) env (.ref t)) Q E s := by
  have hcls : (env.scope.kind == .class || (env.scope.kind == .module && env.locals != env.globals)) = false := by rw [hk]; rfl
  refine assign_Tuple_tuple hh ht rfl rfl fun h0 hx => ?_
  have hn0 : h0.Ns env.locals m := hn.extBut hx (Nat.ne_of_lt hn.lt)
  show wpAny _ _ (assignInOrder [assign (.Name a pa) env, assign (.Name b pb) env, assign (.Name c pc) env] [ua, ub, uc]) _ _ _
  refine assignInOrder_cons (wpAny_assign_Name (wpAny_storeName_local ka hn0 (fun h1 n1 s1 => ?_) hcls))
  refine assignInOrder_cons (wpAny_assign_Name (wpAny_storeName_local kb n1 (fun h2 n2 s2 => ?_) hcls))
  refine assignInOrder_cons (wpAny_assign_Name (wpAny_storeName_local kc n2 (fun h3 n3 s3 => ?_) hcls))
  refine assignInOrder_nil (hQ h3 _ _ (fun x o hne he => ?_) n3 ?_ ?_ ?_)
  · have hlt : x ≠ s.heap.objs.size := Nat.ne_of_lt (Heap.lt_size he)
    exact (s3.2 x hne).trans ((s2.2 x hne).trans ((s1.2 x hne).trans (hx x o hlt he)))
  · show (if a = c then some uc else if a = b then some ub else if a = a then some ua else m a) = some ua
    rw [if_neg nac, if_neg nab, if_pos rfl]
  · show (if b = c then some uc else if b = b then some ub else if b = a then some ua else m b) = some ub
    rw [if_neg nbc, if_pos rfl]
  · show (if c = c then some uc else _) = some uc
    rw [if_pos rfl]
end
end Mu

/-! A comprehension over a generator: the objects that come to be tracked behind it. -/
namespace Mu
open PySem PySem.Spec L2 PyProof.Rows PySem.SeqAt GenW
theorem adopt {P : Program} {w : World} {fs ch : List Addr} {H H' : Hp} {h h' : Heap} {b : Addr} {u : HO} (lt : h.objs.size ≤ b) (un : Un fs ch H H' h h') (ok : HOk P w H' h') (hn : H' b = none) (new : ObjOk P w (upd H' b u) h' b u) : Un fs ch H (upd H' b u) h h' ∧ HOk P w (upd H' b u) h' := by
  have ne : ∀ c ob, h.get? c = some ob → c ≠ b := fun c ob q => Nat.ne_of_lt (Nat.lt_of_lt_of_le (Heap.lt_size q) lt)
  refine ⟨⟨un.keep, un.slot, fun c ob q n hx => ?_, un.there, fun c xs q => ?_, fun c ob y q => ?_, fun c qs q => ?_⟩, fun c x q => ?_⟩
  · rw [upd_ne (ne c ob q)]; exact un.free c ob q n hx
  · have q2 := un.tups c xs q
    rw [upd_ne (ne_of_none q2 hn)]; exact q2
  · have q2 := un.frzs c ob y q
    rw [upd_ne (ne_of_none q2 hn)]; exact q2
  · obtain ⟨more, q2⟩ := un.tbls c qs q
    exact ⟨more, by rw [upd_ne (ne_of_none q2 hn)]; exact q2⟩
  · by_cases hb : c = b
    · subst hb
      rw [upd_same] at q
      cases q
      exact new
    · rw [upd_ne hb] at q
      exact (ok c x q).stay (fun _ _ _ z => z) (fun d z => by rw [upd_ne (ne_of_none z hn)]; exact z) fun d xs z => by rw [upd_ne (ne_of_none z hn)]; exact z
/-- a tuple stands at t -/
def TupAt (h : Heap) (t : Addr) (r : List V) : Prop := r.length ≤ sizeLine ∧ ∃ its : List Value, Vals r its ∧ IsTup h t its.toArray
theorem TupAt.at {h h' : Heap} {t : Addr} {r : List V} (x : TupAt h t r) (k : ∀ o, h.get? t = some o → h'.get? t = some o) : TupAt h' t r := by
  obtain ⟨z, its, rv, o, ho, c⟩ := x
  exact ⟨z, its, rv, o, k o ho, c⟩
theorem adopt_rows {P : Program} {w : World} {fs ch : List Addr} {H : Hp} {h h' : Heap} : ∀ (as : List Addr) (rows : List (List V)) (H' : Hp), as.Nodup → (∀ (j : Nat) (t : Addr), as[j]? = some t → ∃ r, rows[j]? = some r ∧ h.objs.size ≤ t ∧ H' t = none ∧ TupAt h' t r) → Un fs ch H H' h h' → HOk P w H' h' →
    ∃ H2, Same H' H2 ∧ Un fs ch H H2 h h' ∧ HOk P w H2 h' ∧ (∀ (j : Nat) (t : Addr) (r : List V), as[j]? = some t → rows[j]? = some r → H2 t = some (.tup r)) ∧ ∀ b, H' b = none → b ∉ as → H2 b = none
  | [], rows, H', _, _, un, ok => ⟨H', Same.refl _, un, ok, (fun j t r e => (by cases e)), fun b e _ => e⟩
  | a :: as, rows, H', nd, hs, un, ok => by
    obtain ⟨r, hr, lt, hn, tp⟩ := hs 0 a rfl
    obtain ⟨un1, ok1⟩ := adopt (u := .tup r) lt un ok hn tp
    obtain ⟨na, nd'⟩ := List.nodup_cons.mp nd
    obtain ⟨r0, rows', rfl⟩ : ∃ r0 rs, rows = r0 :: rs := by
      cases rows with
      | nil => cases hr
      | cons r0 rs => exact ⟨r0, rs, rfl⟩
    obtain rfl : r0 = r := Option.some.inj hr
    obtain ⟨H2, s2, un2, ok2, at2, no2⟩ := adopt_rows as rows' (upd H' a (.tup r0)) nd' (fun j t e => by
      obtain ⟨r', hr', lt', hn', tp'⟩ := hs (j + 1) t e
      have : t ≠ a := fun q => na (q ▸ List.mem_of_getElem? e)
      exact ⟨r', hr', lt', by rw [upd_ne this]; exact hn', tp'⟩) un1 ok1
    refine ⟨H2, (same_new hn).trans s2, un2, ok2, fun j t r' e e' => ?_, fun b e hb => ?_⟩
    · cases j with
      | zero =>
        obtain rfl : a = t := Option.some.inj e
        obtain rfl : r0 = r' := Option.some.inj e'
        exact s2 _ _ upd_same
      | succ j => exact at2 j t r' e e'
    · have : b ≠ a := fun q => hb (q ▸ List.mem_cons_self)
      exact no2 b (by rw [upd_ne this]; exact e) fun q => hb (List.mem_cons_of_mem _ q)
/-- the consumer's own: its block's names, its list, what the list holds -/
def drefs (D : Addr) (h : Heap) : List Addr := match h.get? D with
  | some o => (match o.data with
    | .seq arr _ => arr.toList.filterMap fun v => match v with
      | .ref t => some t
      | _ => none
    | _ => [])
  | none => []
def cown (C D : Addr) (h : Heap) : List Addr := C :: D :: drefs D h
theorem drefs_at {D : Addr} {h : Heap} {acc : Array Value} {cc : Nat} {as : List Addr} (e : h.get? D = some (lstObj acc cc)) (ea : acc.toList = as.map Value.ref) : drefs D h = as := by
  unfold drefs
  rw [e]
  show acc.toList.filterMap _ = as
  rw [ea, List.filterMap_map]
  exact List.filterMap_some
end Mu

/-! [(names[a], places[b], places[c]) for a, b, c in f(..)], f a generator def. -/
namespace Mu
open PySem PySem.Spec L2 PyProof.Rows PySem.SeqAt GenW
/-- the names of such a comprehension -/
structure LgC (X : Cx) (scope : Scope) (nm pl a b c : Str) (inm ipl : Nat) : Prop where
  inm : X.N[inm]? = some nm
  ipl : X.N[ipl]? = some pl
  knm : X.env.scope.names.lookup nm = some .cell
  kpl : X.env.scope.names.lookup pl = some .cell
  cnm : (relS scope X.env.scope).names.lookup nm = some .cell ∨ (relS scope X.env.scope).names.lookup nm = some .free
  cpl : (relS scope X.env.scope).names.lookup pl = some .cell ∨ (relS scope X.env.scope).names.lookup pl = some .free
  ka : (relS scope X.env.scope).names.lookup a = some .local
  kb : (relS scope X.env.scope).names.lookup b = some .local
  kc : (relS scope X.env.scope).names.lookup c = some .local
  nab : a ≠ b
  nac : a ≠ c
  nbc : b ≠ c
  db : ∀ x ∈ [nm, pl, a, b, c], (x == ("__debug__" : Str)) = false ∧ (x == ("__classdict__" : Str)) = false
  lnm : ∀ (n : Nat) (cells : List (Str × Addr)), (cellsFrom n scope.names (cloFrom cells scope.names [])).lookup nm = some ((cells.lookup nm).getD 0)
  lpl : ∀ (n : Nat) (cells : List (Str × Addr)), (cellsFrom n scope.names (cloFrom cells scope.names [])).lookup pl = some ((cells.lookup pl).getD 0)
def rowI (m : Int × Nat × Nat) : List V := [.int m.1, nV m.2.1, nV m.2.2]
def rowO (ν : Int → Int) (π : Nat → Nat) (m : Int × Nat × Nat) : List V := [.int (ν m.1), nV (π m.2.1), nV (π m.2.2)]
def yOf (H1 : Hp) (ms : List (Int × Nat × Nat)) : YF := fun i v H' => Same H1 H' ∧ ∃ m t, ms[i]? = some m ∧ v = .ref t ∧ H' t = some (.tup (rowI m))
def qOf (H1 : Hp) (ms : List (Int × Nat × Nat)) : Nat → Hp → Prop := fun i H' => Same H1 H' ∧ i = ms.length
def tLcG (P : Program) (w : World) (sp : SpC) (inm ipl : Nat) (ta : TA) : TE := fun σ H Q => ta σ H fun vs H1 => ∃ (d p : Addr) (kvs : List (Option Key × V)) (pls : List V) (ms : List (Int × Nat × Nat)) (ν : Int → Int) (π : Nat → Nat),
  σ[inm]? = some (some (.ref d)) ∧ σ[ipl]? = some (some (.ref p)) ∧ H1 d = some (nD P w d kvs) ∧ H1 p = some (.lst pls) ∧ ms.length ≤ 1000 ∧ pls.length ≤ 1000 ∧
  (∀ m ∈ ms, valV kvs (some (.inl m.1)) = some (.int (ν m.1)) ∧ pls[m.2.1]? = some (nV (π m.2.1)) ∧ pls[m.2.2]? = some (nV (π m.2.2))) ∧ sp vs H1 (yOf H1 ms) (qOf H1 ms) ∧
  ∀ (H' : Hp) (D : Addr) (as : List Addr), Same H1 H' → H1 D = none → H' D = some (.lst (as.map V.ref)) → as.length = ms.length → (∀ (j : Nat) (t : Addr) (m : Int × Nat × Nat), as[j]? = some t → ms[j]? = some m → H' t = some (.tup (rowO ν π m))) → Q (.ref D) H'
/-- between two items -/
def LgI (P : Program) (w : World) (A : Around) (R : GenEnd) (Y : Protocol) (os0 : OsState) (ga : Addr) (g : Nat) (C D : Addr) (N0 : Nat) (rows : List (List V)) (m : Nat) (s : Shared) : Prop :=
  ∃ (i : Nat) (as : List Addr) (acc : Array Value) (cc : Nat) (mC : Str → Option Value) (gs : GenState), m + i = rows.length ∧ s.os = os0 ∧ AllBare s.gens ∧ s.heap.NoLimit ∧ s.heap.IsGen ga g ∧ s.gens[g]? = some gs ∧ gs.Goes (model P w) A R Y (sizeLine - i) (.send .none) (s.setGen g .running) ∧
    s.heap.get? D = some (lstObj acc cc) ∧ acc.toList = as.map Value.ref ∧ as.length = i ∧ as.Nodup ∧ (∀ (j : Nat) (t : Addr), as[j]? = some t → ∃ r, rows[j]? = some r ∧ N0 ≤ t ∧ t ≠ C ∧ t ≠ D ∧ TupAt s.heap t r) ∧ s.heap.Ns C mC
theorem vals3 {x y z : V} {its : List Value} (h : Vals [x, y, z] its) : ∃ u v t, its = [u, v, t] ∧ RelV x u ∧ RelV y v ∧ RelV z t := by
  cases h with
  | cons a r =>
    cases r with
    | cons b r =>
      cases r with
      | cons c r =>
        cases r
        exact ⟨_, _, _, rfl, a, b, c⟩
theorem refs_vals : ∀ as : List Addr, Vals (as.map V.ref) (as.map Value.ref)
  | [] => .nil
  | _ :: as => .cons rfl (refs_vals as)
section
variable {X : Cx} {k : Nat} {f : Addr} {fd : FuncData} {ps : List Str} {sp : SpC} {x : Str} {e : Expr} {es : List Expr} {ta : TA} {nm pl a b c : Str} {inm ipl : Nat} {scope : Scope} {own : List (Str × Nat)} {q1 q2 q3 q4 q5 q6 q7 q8 q9 tp pa pb pc pt pn pos' pos : Pos} {kk kt : Nat}
theorem lcGen_core (hcalm : X.calm = true) (hN : X.N.Nodup) (F : GFc X.prog X.w X.K X.mg X.base k f fd ps sp) (hbd : Binds X.K fd ps []) (hg : Gl X x) (hm : X.mg x = some (.ref f)) (hkp : PySem.W.keepIn X.K (.ref f) = true) (hr : Room k X.A) (hr1 : Room k X.A.in1) (hroom : X.A.depth < recursionLimit)
    (ha : PA X (e :: es) ta) (ok : BlkOk X.N X.env.scope scope own) (L : LgC X scope nm pl a b c inm ipl) (hdb : (x == ("__debug__" : Str)) = false) (he : starEach (e :: es) X.env = (false, eval e X.env) :: starEach es X.env) (hpl : (backTo pos' (starEach es X.env)).any (·.1) = false)
    (hs : ∀ y, foldedSetIterable (.Call (.Name x pn) (e :: es) [] pos') X.env y = pure y) {pins : List (Addr × Obj)} {s : Shared} {σ : L2.St} {H : Hp} {Q : VK} {use : Option (Value → Sem Unit)} {Qf : Value → Shared → Prop} {posc : Pos} (I : Inv X pins σ H s) (h : tLcG X.prog X.w sp inm ipl ta σ H Q)
    (hRR : ∀ D C s' m H', Inv X pins σ H' s' → Q (.ref D) H' → s'.heap.Ns C m → FpOk X pins H' C → compPost (model X.prog X.w) X.A X.xe use Qf (.ref D) C (.ok .next) s') :
    wpAny (model X.prog X.w) X.A (comprehension (.ListComp (.Tuple [.Subscript (.Name nm q1) (.Name a q2) q3, .Subscript (.Name pl q4) (.Name b q5) q6, .Subscript (.Name pl q7) (.Name c q8) q9] kk tp) [⟨.Tuple [.Name a pa, .Name b pb, .Name c pc] kt pt, .Call (.Name x pn) (e :: es) [] pos', [], 0⟩] scope pos) scope X.env posc (newList []) false (eval (.Call (.Name x pn) (e :: es) [] pos') X.env) use) Qf X.xe s := by
  have hfree : ∀ y ∈ scope.names, y.2 = .free → ∃ c, X.env.cells.lookup y.1 = some c := fun y hy e => by
    rcases ok.free y hy e with k | k
    · exact I.ok.has _ (.inl k)
    · exact I.ok.has _ (.inr k)
  refine wpAny_comprehension_free (use := use) rfl hs (closure_ok hfree) ok.kind (fun y hy e => by rw [ok.uniq y hy, e]) (wpAny_Call_Name_kw (ld_glob I hg hm ?_ hdb))
  refine PySem.W.callWith_K (h₀ := X.base) I.ok.mod.kin hkp (thn (ha.run pos' pins s σ H _ I h) fun us s1 ⟨vs, H1, I1, r, q⟩ => ⟨I1.kIn, ?_⟩) he hpl
  obtain ⟨d, p, kvs, pls, ms, ν, π, e1, e2, hd, hp, hz, hpz, hms, hsp, kq⟩ := q
  have hl2 : us.length = ps.length := by rw [← r.length]; exact F.len _ _ _ _ hsp
  have hb1 := hbd s1 us I1.kIn (by rw [List.append_nil]; exact hl2)
  rw [List.append_nil] at hb1
  refine wpAny_call (codeAny_mono (F.run X.A X.stack s1 H1 ⟨us, []⟩ us vs _ _ hr I1.env0 hb1 r hsp) fun r s2 hq => ?_)
  cases r with
  | error e => exact False.elim hq
  | ok fl =>
  cases fl with
  | next => exact False.elim hq
  | brk => exact False.elim hq
  | cont => exact False.elim hq
  | ret u =>
  obtain ⟨ga, g, cd, rfl, ha1, ha2, hgen, hgs, hos, hb2, hlim, hkp2, wake⟩ := hq
  refine wpAny_pyIter_gen hgen ?_
  refine wpAny_newObj_type (newEnv_comp ?_) (by show 0 ≤ sizeLine; decide)
  have I2 : Inv X pins σ H1 s2 := I1.call' (ch := []) hos (Un.kept hkp2) (I1.hok.kept hkp2) hb2 (by simp)
  generalize hD : s2.heap.objs.size = D
  generalize hs3 : ({ s2 with heap := s2.heap.push { cls := .type "list", data := .seq ([] : List Value).toArray } } : Shared) = s3
  have h3 : s3.heap = s2.heap.push { cls := .type "list", data := .seq ([] : List Value).toArray } := by rw [← hs3]
  have I3 : Inv X pins σ (upd H1 D (.lst [])) s3 := by
    rw [← hs3]
    refine I2.laid (t' := s2.toks) (fun b o e => Heap.get?_push_of_some _ e) (Nat.le_of_eq hD) ⟨Nat.zero_le _, [], 0, .nil, ?_⟩
    rw [← hD]
    exact Heap.get?_push_size _ rfl
  have I4 := block_start (fp := []) I3 ok hN (fun b hb => by simp at hb)
  have hD3 : s3.heap.get? D = some (lstObj #[] 0) := by
    rw [h3, ← hD]
    exact Heap.get?_push_size _ rfl
  have k23 : ∀ b o, s2.heap.get? b = some o → s3.heap.get? b = some o := fun b o e => by rw [h3]; exact Heap.get?_push_of_some _ e
  show codeAny _ _ (.compStart (.ListComp _ [⟨_, _, [], 0⟩] scope pos) 0 (.ref ga) (.ref D) (compEnvC scope (cellsFrom (s3.heap.objs.size + 1) scope.names (cloFrom X.env.cells scope.names [])) s3.heap.objs.size X.env)) (compPost (model X.prog X.w) X.A X.xe use Qf (.ref D) s3.heap.objs.size) { s3 with heap := pushCells (s3.heap.push { cls := .type "dict", data := .dict #[] }) scope.names }
  have cnm := L.lnm (s3.heap.objs.size + 1) X.env.cells
  have cpl := L.lpl (s3.heap.objs.size + 1) X.env.cells
  generalize hce : compEnvC scope (cellsFrom (s3.heap.objs.size + 1) scope.names (cloFrom X.env.cells scope.names [])) s3.heap.objs.size X.env = ce at I4 ⊢
  have cL : ce.locals = s3.heap.objs.size := by subst hce; rfl
  have cS : ce.scope = relS scope X.env.scope := by subst hce; rfl
  have cC : ce.cells = cellsFrom (s3.heap.objs.size + 1) scope.names (cloFrom X.env.cells scope.names []) := by subst hce; rfl
  have cK : ce.scope.kind = .function := by rw [cS]; exact ok.kind
  rw [← cC] at cnm cpl
  generalize hs4 : ({ s3 with heap := pushCells (s3.heap.push { cls := .type "dict", data := .dict #[] }) scope.names } : Shared) = s4 at I4 ⊢
  have k34 : ∀ b o, s3.heap.get? b = some o → s4.heap.get? b = some o := fun b o e => by rw [← hs4]; exact pushCells_keeps _ _ _ _ (Heap.get?_push_of_some _ e)
  have os4 : s4.os = s1.os := by rw [← hs4, ← hs3]; exact hos
  have ge4 : s4.gens = s2.gens := by rw [← hs4, ← hs3]
  obtain ⟨mC0, nC0, -⟩ := I4.loc
  have nC0 : s4.heap.Ns ce.locals mC0 := nC0
  generalize hC : ce.locals = C at nC0
  have hCs : C = s3.heap.objs.size := by rw [← hC]; exact cL
  have hCD : C ≠ D := by rw [hCs, h3, Heap.size_push, ← hD]; exact Nat.succ_ne_self _
  have hs2C : s2.heap.objs.size ≤ C := by rw [hCs, h3, Heap.size_push]; exact Nat.le_succ _
  have hs2D : s2.heap.objs.size ≤ D := Nat.le_of_eq hD
  have h12 : s1.heap.objs.size ≤ s2.heap.objs.size := Nat.le_trans ha1 (Nat.le_of_lt ha2)
  have C1 : H1 C = none := I2.hok.fresh hs2C
  have D1 : H1 D = none := I2.hok.fresh hs2D
  -- the two captured names
  have cap : ∀ {y : Str} {i : Nat} {t : Addr}, X.N[i]? = some y → σ[i]? = some (some (.ref t)) → X.env.scope.names.lookup y = some .cell → ce.cells.lookup y = some ((X.env.cells.lookup y).getD 0) → ∃ cc o, ce.cells.lookup y = some cc ∧ s1.heap.get? cc = some o ∧ o.data = .cell (some (.ref t)) ∧ H1 cc = none := fun {y i t} h1 h2 h3 h4 => by
    obtain ⟨m, _, hl⟩ := I1.loc
    obtain ⟨u, ru, lk⟩ := hl i y _ h1 h2 (.inr (.inl h3))
    rcases lk with ⟨kl, _⟩ | ⟨_, cc, hcc, o, ho, hdat⟩
    · have : X.env.scope.names.lookup y = some .local := kl
      rw [h3] at this; cases this
    · have eu : u = .ref t := ru
      subst eu
      rw [hcc] at h4
      exact ⟨cc, o, h4, ho, hdat, I1.freeC y cc hcc⟩
  obtain ⟨c1, o1, cl1, g1, dt1, f1⟩ := cap L.inm e1 L.knm cnm
  obtain ⟨c2, o2, cl2, g2, dt2, f2⟩ := cap L.ipl e2 L.kpl cpl
  have lt1 := Heap.lt_size g1
  have lt2 := Heap.lt_size g2
  have k24 : ∀ b o, s2.heap.get? b = some o → s4.heap.get? b = some o := fun b o e => k34 b o (k23 b o e)
  have s4D : s4.heap.get? D = some (lstObj #[] 0) := k34 _ _ hD3
  have hrl : (ms.map (rowO ν π)).length = ms.length := List.length_map _
  have zl : (1000 : Nat) < sizeLine := szlt (by decide)
  have inC : ∀ h : Heap, C ∈ cown C D h := fun h => List.mem_cons_self
  have inD : ∀ h : Heap, D ∈ cown C D h := fun h => List.mem_cons_of_mem _ List.mem_cons_self
  have nscell : ∀ {h : Heap} {m : Str → Option Value}, h.Ns C m → ∃ o, h.get? C = some o ∧ ∀ v, o.data ≠ .cell v := fun ⟨o, _, _, ho, hdat, _⟩ => ⟨o, ho, fun v q => by rw [hdat] at q; cases q⟩
  have stC : cStatics < s2.heap.objs.size := let ⟨_, hn, _⟩ := hlim; hn.lt
  have start : LgI X.prog X.w X.A.in1 (REnd2 X.prog X.w X.stack H1 s1 (cown C D) (qOf H1 ms)) (YIn X.prog X.w X.stack H1 s1 (cown C D) ga g (yOf H1 ms)) s1.os ga g C D s2.heap.objs.size (ms.map (rowO ν π)) ms.length s4 := by
    refine ⟨0, [], #[], 0, mC0, .fresh cd, by rw [hrl]; rfl, os4, by rw [ge4]; exact hb2, hlim.keeps k24, hgen.keeps k24, by rw [ge4]; exact hgs, ⟨rfl, ?_⟩, s4D, rfl, rfl, List.nodup_nil, (fun j t e => (by cases e)), nC0⟩
    refine wake X.A.in1 (cown C D) (s4.setGen g .running) hr1 I.ok.frames (fun b hb => ?_) k24 os4 (allBare_setGen (by rw [ge4]; exact hb2) rfl)
    have hb : b ∈ C :: D :: drefs D s4.heap := hb
    rw [drefs_at (as := []) s4D rfl] at hb
    rcases List.mem_cons.mp hb with rfl | hb
    · exact ⟨hs2C, nscell nC0⟩
    · rcases List.mem_cons.mp hb with rfl | hb
      · exact ⟨hs2D, _, s4D, fun v q => by cases q⟩
      · cases hb
  have turn : ∀ n s, LgI X.prog X.w X.A.in1 (REnd2 X.prog X.w X.stack H1 s1 (cown C D) (qOf H1 ms)) (YIn X.prog X.w X.stack H1 s1 (cown C D) ga g (yOf H1 ms)) s1.os ga g C D s2.heap.objs.size (ms.map (rowO ν π)) n s → wpAny (model X.prog X.w) X.A (pyNext (.ref ga)) (fun r s₁ => match r with
      | none => compPost (model X.prog X.w) X.A X.xe use Qf (.ref D) C (.ok .next) s₁
      | some v => wpAny (model X.prog X.w) X.A (letOwnedTupleGo (.Tuple [.Name a pa, .Name b pb, .Name c pc] kt pt) (.ref ga) v) (fun _ s₁' => wpAny (model X.prog X.w) X.A (assign (.Tuple [.Name a pa, .Name b pb, .Name c pc] kt pt) ce v) (fun _ s₂ =>
          wpAny (model X.prog X.w) X.A (forIn ([] : List Expr) true fun c r => if r = true then do let ok ← isTrue c ce (eval c ce); pure (ForInStep.yield ok) else pure (ForInStep.yield r)) (fun ok s₃ =>
            if ok = true then wpAny (model X.prog X.w) X.A (eval (.Tuple [.Subscript (.Name nm q1) (.Name a q2) q3, .Subscript (.Name pl q4) (.Name b q5) q6, .Subscript (.Name pl q7) (.Name c q8) q9] kk tp) ce) (fun x s₄ =>
              wpAny (model X.prog X.w) X.A (call (.builtin "list.append") [.ref D, x]) (fun _ s₅ => ∃ m, m < n ∧ LgI X.prog X.w X.A.in1 (REnd2 X.prog X.w X.stack H1 s1 (cown C D) (qOf H1 ms)) (YIn X.prog X.w X.stack H1 s1 (cown C D) ga g (yOf H1 ms)) s1.os ga g C D s2.heap.objs.size (ms.map (rowO ν π)) m s₅) (notedBy (model X.prog X.w) X.A ce fun e s' => compPost (model X.prog X.w) X.A X.xe use Qf (.ref D) C (.error e) s') s₄) (notedBy (model X.prog X.w) X.A ce fun e s' => compPost (model X.prog X.w) X.A X.xe use Qf (.ref D) C (.error e) s') s₃
            else ∃ m, m < n ∧ LgI X.prog X.w X.A.in1 (REnd2 X.prog X.w X.stack H1 s1 (cown C D) (qOf H1 ms)) (YIn X.prog X.w X.stack H1 s1 (cown C D) ga g (yOf H1 ms)) s1.os ga g C D s2.heap.objs.size (ms.map (rowO ν π)) m s₃) (notedBy (model X.prog X.w) X.A ce fun e s' => compPost (model X.prog X.w) X.A X.xe use Qf (.ref D) C (.error e) s') s₂) (notedBy (model X.prog X.w) X.A ce fun e s' => compPost (model X.prog X.w) X.A X.xe use Qf (.ref D) C (.error e) s') s₁') (notedBy (model X.prog X.w) X.A ce fun e s' => compPost (model X.prog X.w) X.A X.xe use Qf (.ref D) C (.error e) s') s₁) (notedBy (model X.prog X.w) X.A ce fun e s' => compPost (model X.prog X.w) X.A X.xe use Qf (.ref D) C (.error e) s') s := by
    rintro n s5 ⟨i, as, acc, cc, mC, gs, hmi, os5, b5, lim5, gen5, gs5, goes, eD, eacc, eas, nda, tups, nC⟩
    rw [hrl] at hmi
    have hgl : g < s5.gens.size := (Array.getElem?_eq_some_iff.mp gs5).1
    obtain ⟨nn, hnn⟩ : ∃ nn, sizeLine - i = nn + 1 := ⟨sizeLine - i - 1, by omega⟩
    rw [hnn] at goes
    have own5 : cown C D s5.heap = C :: D :: as := by
      unfold cown
      rw [drefs_at eD eacc]
    have accz : acc.size = i := by
      have := congrArg List.length eacc
      rw [List.length_map, eas] at this
      simpa using this
    refine wpAny_gsz (n := g + 1) hgl (next_genG (A := X.A) (F := REn X.prog X.w X.stack H1 s1 (cown C D) (qOf H1 ms)) (Er := fun _ _ => False) (Y := YIn X.prog X.w X.stack H1 s1 (cown C D) ga g (yOf H1 ms)) (n := nn + 1) (I.ok.hd hcalm) lim5 hroom gen5 gs5 goes (fun v s6 gs' hbare hv => ?_) (fun s6 hF h' hk' => ?_) fun e s6 h => h.elim)
    · intro hsz
      obtain ⟨os6, b6, lim6, gen6, ⟨i', v', H', hn', rv, un, hok, hown, ⟨sm, mm, t0, hmm, rfl, ht0⟩⟩, hkap⟩ := hv
      have ei : i' = i := by omega
      subst ei
      have own6 : ∀ b ∈ C :: D :: as, H' b = none ∧ ∀ o, s5.heap.get? b = some o → s6.heap.get? b = some o := fun b hb => hown b (by
        show b ∈ cown C D s5.heap
        rw [own5]; exact hb)
      have mC' : C ∈ C :: D :: as := List.mem_cons_self
      have mD' : D ∈ C :: D :: as := List.mem_cons_of_mem _ List.mem_cons_self
      have ev : v = Value.ref t0 := rv
      subst ev
      have hil : i' < ms.length := (List.getElem?_eq_some_iff.mp hmm).1
      obtain ⟨hm1, hm2, hm3⟩ := hms mm (List.mem_of_getElem? hmm)
      have I6 : Inv X pins σ H' (s6.setGen g gs') := I1.call' (ch := []) os6 un hok (allBare_setGen b6 hbare) (by simp)
      obtain ⟨its, rvv, htup, _⟩ := I6.tuple (sqT ht0)
      obtain ⟨ua, ub, uc, rfl, ra, rb, rc⟩ := vals3 rvv
      obtain ⟨tb, rfl⟩ := (show ∃ t, ub = Value.int (mm.2.1 : Int) t from rb)
      obtain ⟨tc, rfl⟩ := (show ∃ t, uc = Value.int (mm.2.2 : Int) t from rc)
      obtain ⟨og, nmv, qn, hog, hogc, hogd, hogs⟩ := id gen6
      refine go_of (s := s6.setGen g gs') hog hogc hogd (by decide) ?_
      have nC6 : (s6.setGen g gs').heap.Ns ce.locals mC := by rw [hC]; exact nC.at' (own6 C mC').2
      have ka : ce.kindOf a = some .local := by
        show ce.scope.names.lookup a = _
        rw [cS]; exact L.ka
      have kb : ce.kindOf b = some .local := by
        show ce.scope.names.lookup b = _
        rw [cS]; exact L.kb
      have kc : ce.kindOf c = some .local := by
        show ce.scope.names.lookup c = _
        rw [cS]; exact L.kc
      refine asg_raw (I.ok.hd hcalm) cK htup nC6 ka kb kc L.nab L.nac L.nbc fun h7 m7 tk7 k7 n7 ea eb ec => ?_
      refine wpAny_tests_nil ?_
      rw [if_pos rfl]
      rw [hC] at k7
      have k7' : ∀ b o, b ∉ [C] → s6.heap.get? b = some o → h7.get? b = some o := fun b o hb e => k7 b o (fun q => hb (List.mem_singleton.mpr q)) e
      have Hc : ∀ b ∈ [C], H' b = none := fun b hb => by rw [List.mem_singleton.mp hb]; exact (own6 C mC').1
      have ok7 : HOk X.prog X.w H' h7 := hok_but hok Hc k7'
      have cellAt : ∀ {cc : Addr} {o : Obj} {vv : Value}, s1.heap.get? cc = some o → H1 cc = none → o.data = .cell (some vv) → h7.IsCell cc (some vv) := fun {cc o vv} g1 f1 dt1 => by
        obtain ⟨sl, e⟩ := un.any g1 f1 (by simp)
        have hlt := Heap.lt_size g1
        exact ⟨_, k7 cc _ (Nat.ne_of_lt (Nat.lt_of_lt_of_le hlt (Nat.le_trans h12 hs2C))) e, dt1⟩
      have dbs := L.db
      have hasN : Has ce h7 nm (.ref d) := ⟨⟨m7, n7, .inr ⟨by show ce.scope.names.lookup nm = _ ∨ ce.scope.names.lookup nm = _; rw [cS]; exact L.cnm, c1, cl1, cellAt g1 f1 dt1⟩⟩, (dbs nm (by simp)).1, (dbs nm (by simp)).2⟩
      have hasP : Has ce h7 pl (.ref p) := ⟨⟨m7, n7, .inr ⟨by show ce.scope.names.lookup pl = _ ∨ ce.scope.names.lookup pl = _; rw [cS]; exact L.cpl, c2, cl2, cellAt g2 f2 dt2⟩⟩, (dbs pl (by simp)).1, (dbs pl (by simp)).2⟩
      have hasA : Has ce h7 a ua := ⟨⟨m7, n7, .inl ⟨ka, ea⟩⟩, (dbs a (by simp)).1, (dbs a (by simp)).2⟩
      have hasB : Has ce h7 b (.int (mm.2.1 : Int) tb) := ⟨⟨m7, n7, .inl ⟨kb, eb⟩⟩, (dbs b (by simp)).1, (dbs b (by simp)).2⟩
      have hasC : Has ce h7 c (.int (mm.2.2 : Int) tc) := ⟨⟨m7, n7, .inl ⟨kc, ec⟩⟩, (dbs c (by simp)).1, (dbs c (by simp)).2⟩
      obtain ⟨_, lits, ln, lv, lget⟩ := (show ObjOk X.prog X.w H' h7 p (.lst pls) from ok7 p _ (sm _ _ hp))
      obtain ⟨w1, ew1, rw1⟩ := lv.get hm2
      obtain ⟨w2, ew2, rw2⟩ := lv.get hm3
      have z1 := (List.getElem?_eq_some_iff.mp hm2).1
      have z2 := (List.getElem?_eq_some_iff.mp hm3).1
      refine elt_raw (H := H') (k := some (Sum.inl mm.1)) cK hasN hasP hasA hasB hasC ok7 (sm _ _ hd) hm1 ra ⟨_, lget, rfl, _, rfl⟩ (by simpa using ew1) (by simpa using ew2) (by omega) (by omega) fun w0 tk r0 => ?_
      have eD7 : h7.get? D = some (lstObj acc cc) := k7 D _ hCD.symm ((own6 D mD').2 _ eD)
      refine append_at (hsz := by omega) (Heap.get?_push_of_some _ eD7) fun h9 sb ho9 => ?_
      have ltC : C < h7.objs.size := by
        have := n7.lt
        rw [hC] at this
        exact this
      have ltD : D < h7.objs.size := Heap.lt_size eD7
      have k19 : ∀ b o, b ≠ C → b ≠ D → s6.heap.get? b = some o → h9.get? b = some o := fun b o hbC hbD e => (sb.2 b hbD).trans (Heap.get?_push_of_some _ (k7 b o hbC e))
      have tups6 : ∀ (j : Nat) (t : Addr), as[j]? = some t → ∃ r, (ms.map (rowO ν π))[j]? = some r ∧ s2.heap.objs.size ≤ t ∧ t ≠ C ∧ t ≠ D ∧ TupAt h9 t r ∧ t < h7.objs.size := fun j t e => by
        obtain ⟨r, hrr, hle, ntC, ntD, tp⟩ := tups j t e
        have hm : t ∈ C :: D :: as := List.mem_cons_of_mem _ (List.mem_cons_of_mem _ (List.mem_of_getElem? e))
        refine ⟨r, hrr, hle, ntC, ntD, tp.at fun o ho => k19 t o ntC ntD ((own6 t hm).2 o ho), ?_⟩
        obtain ⟨_, _, _, o, ho, _⟩ := tp
        exact Heap.lt_size (k7 t o ntC ((own6 t hm).2 o ho))
      generalize htn : h7.objs.size = tn at ho9 ltC ltD tups6
      have ntnC : tn ≠ C := Nat.ne_of_gt ltC
      have ntnD : tn ≠ D := Nat.ne_of_gt ltD
      have tnas : tn ∉ as := fun hm => by
        obtain ⟨j, hj⟩ := List.mem_iff_getElem?.mp hm
        obtain ⟨_, _, _, _, _, _, hlt⟩ := tups6 j tn hj
        exact Nat.lt_irrefl _ hlt
      have tpn : TupAt h9 tn (rowO ν π mm) := by
        refine ⟨szle (by show 3 ≤ 100000; decide), [w0, w1, w2], .cons r0 (.cons rw1 (.cons rw2 .nil)), { cls := .type "tuple", data := .seq #[w0, w1, w2] }, (sb.2 tn ntnD).trans ?_, rfl, _, rfl⟩
        rw [← htn]
        exact Heap.get?_push_size _ rfl
      have s6no : s6.heap.get? tn = none := by
        cases q : s6.heap.get? tn with
        | none => rfl
        | some o =>
          have := Heap.lt_size (k7 tn o ntnC q)
          rw [htn] at this
          exact absurd this (Nat.lt_irrefl _)
      have eacc9 : (acc.push (Value.ref tn)).toList = (as ++ [tn]).map Value.ref := by
        rw [Array.toList_push, eacc, List.map_append]; rfl
      have nC9 : h9.Ns C m7 := by
        have q : h7.Ns C m7 := by
          have := n7
          rwa [hC] at this
        exact (q.push _).sameBut sb hCD
      have gl6 : g < s6.gens.size := by
        have : g + 1 ≤ (s6.setGen g gs').gens.size := hsz
        rw [setGen_size] at this
        exact this
      have bare7 : AllBare (s6.setGen g gs').gens := allBare_setGen b6 hbare
      have tall : ∀ (j : Nat) (t : Addr), (as ++ [tn])[j]? = some t → ∃ r, (ms.map (rowO ν π))[j]? = some r ∧ s2.heap.objs.size ≤ t ∧ t ≠ C ∧ t ≠ D ∧ TupAt h9 t r := fun j t e => by
        rcases getElem?_snoc e with ⟨_, z⟩ | ⟨hj, z⟩
        · obtain ⟨r, q1, q2, q3, q4, q5, _⟩ := tups6 j t z
          exact ⟨r, q1, q2, q3, q4, q5⟩
        · rw [z, hj, eas]
          exact ⟨rowO ν π mm, by rw [List.getElem?_map, hmm]; rfl, Nat.le_trans hs2D (Nat.le_of_lt ltD), ntnC, ntnD, tpn⟩
      have hnn2 : sizeLine - (i' + 1) = nn := by omega
      refine ⟨n - 1, by omega, i' + 1, as ++ [tn], acc.push (.ref tn), cc + 1, m7, gs', by rw [hrl]; omega, os6, bare7, ?_, ?_, setGen_at gl6, ?_, ho9, eacc9, by rw [List.length_append, eas]; rfl, ?_, tall, nC9⟩
      · obtain ⟨mc, hns, hnn'⟩ := lim6
        exact ⟨mc, hns.at' fun o e => k19 cStatics o (Nat.ne_of_lt (Nat.lt_of_lt_of_le stC hs2C)) (Nat.ne_of_lt (Nat.lt_of_lt_of_le stC hs2D)) e, hnn'⟩
      · exact ⟨og, nmv, qn, k19 ga og (Nat.ne_of_lt (Nat.lt_of_lt_of_le ha2 hs2C)) (Nat.ne_of_lt (Nat.lt_of_lt_of_le ha2 hs2D)) hog, hogc, hogd, hogs⟩
      · rw [hnn2]
        refine hkap _ ⟨rfl, allBare_setGen bare7 rfl, fun b o hb e => ?_, fun b hb => ?_⟩
        · have hb : b ∉ cown C D s5.heap := hb
          exact k19 b o (fun q => hb (q ▸ inC _)) (fun q => hb (q ▸ inD _)) e
        · have hb : b ∈ C :: D :: drefs D h9 := hb
          rw [drefs_at ho9 eacc9] at hb
          show (b ∈ cown C D s5.heap ∨ _) ∧ _
          rw [own5]
          rcases List.mem_cons.mp hb with rfl | hb
          · exact ⟨.inl mC', nscell nC9⟩
          · rcases List.mem_cons.mp hb with rfl | hb
            · exact ⟨.inl mD', _, ho9, fun v q => by cases q⟩
            · obtain ⟨j, hj⟩ := List.mem_iff_getElem?.mp hb
              obtain ⟨r, _, _, _, _, _, its', _, o, ho, _, nq, hdq⟩ := tall j b hj
              refine ⟨?_, o, ho, fun v q => by rw [hdq] at q; cases q⟩
              rcases List.mem_append.mp hb with q | q
              · exact .inl (List.mem_cons_of_mem _ (List.mem_cons_of_mem _ q))
              · rw [List.mem_singleton.mp q]
                exact .inr ⟨s6no, C, inC _, Nat.le_of_lt ltC⟩
      · rw [List.nodup_append]
        refine ⟨nda, by simp, fun u hu v hv e => tnas ?_⟩
        rw [List.mem_singleton.mp hv] at e
        rw [← e]; exact hu
    · intro _
      obtain ⟨H', i', hn', os6, b6, un, hok, hown, ⟨sm, hi'⟩⟩ := hF
      have ei : i' = i := by omega
      subst ei
      have own6 : ∀ b ∈ C :: D :: as, H' b = none ∧ ∀ o, s5.heap.get? b = some o → s6.heap.get? b = some o := fun b hb => hown b (by
        show b ∈ cown C D s5.heap
        rw [own5]; exact hb)
      have nC6 : h'.Ns C mC := (nC.at' (own6 C List.mem_cons_self).2).keeps hk'
      have k6 : ∀ b o, b ∉ [C] → s6.heap.get? b = some o → h'.get? b = some o := fun b o _ e => hk' b o e
      have Hc : ∀ b ∈ [C], H' b = none := fun b hb => by rw [List.mem_singleton.mp hb]; exact (own6 C List.mem_cons_self).1
      have un2 : Un (frs X.stack) [C] H1 H' s1.heap h' := (un.mono (fun _ q => q) (by simp)).trans (un_but k6)
      have hok2 : HOk X.prog X.w H' h' := hok_but hok Hc k6
      obtain ⟨H2, sm2, un3, hok3, at3, no3⟩ := adopt_rows as (ms.map (rowO ν π)) H' nda (fun j t e => by
        obtain ⟨r, hrr, hle, ntC, ntD, tp⟩ := tups j t e
        have hm : t ∈ C :: D :: as := List.mem_cons_of_mem _ (List.mem_cons_of_mem _ (List.mem_of_getElem? e))
        refine ⟨r, hrr, Nat.le_trans h12 hle, (own6 t hm).1, tp.at fun o ho => hk' t o ((own6 t hm).2 o ho)⟩) un2 hok2
      have Das : D ∉ as := fun hm => by
        obtain ⟨j, hj⟩ := List.mem_iff_getElem?.mp hm
        obtain ⟨_, _, _, _, ntD, _⟩ := tups j D hj
        exact ntD rfl
      have Cas : C ∉ as := fun hm => by
        obtain ⟨j, hj⟩ := List.mem_iff_getElem?.mp hm
        obtain ⟨_, _, _, ntC, _, _⟩ := tups j C hj
        exact ntC rfl
      have Dn : H2 D = none := no3 D (own6 D (List.mem_cons_of_mem _ List.mem_cons_self)).1 Das
      have Cn : H2 C = none := no3 C (own6 C List.mem_cons_self).1 Cas
      have eD6 : h'.get? D = some (lstObj acc cc) := hk' D _ ((own6 D (List.mem_cons_of_mem _ List.mem_cons_self)).2 _ eD)
      obtain ⟨un4, hok4⟩ := adopt (u := .lst (as.map V.ref)) (Nat.le_trans h12 hs2D) un3 hok3 Dn ⟨by rw [List.length_map, eas]; omega, as.map Value.ref, cc, refs_vals as, by rw [eD6, ← eacc]⟩
      obtain ⟨f0, ff1, ff2, ff3, ff4, ff5⟩ := I1.fpOk (b := C) (Nat.le_trans h12 hs2C) C1
      refine hRR D C _ mC (upd H2 D (.lst (as.map V.ref))) (I1.call' (ch := [C]) os6 un4 hok4 (allBare_setGen b6 rfl) (fun b hb => by rw [List.mem_singleton.mp hb]; exact ⟨ff3, ff1, ff4, ff5⟩)) ?_ nC6 ⟨by rw [upd_ne hCD]; exact Cn, ff1, ff2, ff3, ff4, ff5⟩
      refine kq _ D as ((sm.trans sm2).trans (same_new Dn)) D1 upd_same (by rw [eas]; exact hi') fun j t m hj hjm => ?_
      have htD : t ≠ D := fun q => Das (q ▸ List.mem_of_getElem? hj)
      rw [upd_ne htD]
      exact at3 j t _ hj (by rw [List.getElem?_map, hjm]; rfl)
  have loop := compLoop_any (R := compPost (model X.prog X.w) X.A X.xe use Qf (.ref D) C) (iter := .Call (.Name x pn) (e :: es) [] pos') (scope := scope) (pos := pos) _ turn ms.length start
  rw [hCs] at loop
  exact codeAny_compStart_list loop (wpAny_pyIter_gen (hgen.keeps k24) loop)
theorem pe_lcGen (hcalm : X.calm = true) (hN : X.N.Nodup) (F : GFc X.prog X.w X.K X.mg X.base k f fd ps sp) (hbd : Binds X.K fd ps []) (hg : Gl X x) (hm : X.mg x = some (.ref f)) (hkp : PySem.W.keepIn X.K (.ref f) = true) (hr : Room k X.A) (hr1 : Room k X.A.in1) (hroom : X.A.depth < recursionLimit)
    (ha : PA X (e :: es) ta) (ok : BlkOk X.N X.env.scope scope own) (L : LgC X scope nm pl a b c inm ipl) (hdb : (x == ("__debug__" : Str)) = false := by decide) (he : starEach (e :: es) X.env = (false, eval e X.env) :: starEach es X.env := by rfl) (hpl : (backTo pos' (starEach es X.env)).any (·.1) = false := by rfl)
    (hs : ∀ y, foldedSetIterable (.Call (.Name x pn) (e :: es) [] pos') X.env y = pure y := by intro _; rfl) :
    PE X (.ListComp (.Tuple [.Subscript (.Name nm q1) (.Name a q2) q3, .Subscript (.Name pl q4) (.Name b q5) q6, .Subscript (.Name pl q7) (.Name c q8) q9] kk tp) [⟨.Tuple [.Name a pa, .Name b pb, .Name c pc] kt pt, .Call (.Name x pn) (e :: es) [] pos', [], 0⟩] scope pos) (tLcG X.prog X.w sp inm ipl ta) := by
  refine ⟨fun pins s σ H Q I h => ?_⟩
  rw [eval_ListComp]
  refine lcGen_core hcalm hN F hbd hg hm hkp hr hr1 hroom ha ok L hdb he hpl hs I h fun D C s' m H' I' q hn f => ⟨m, hn, fun h'' sb => ?_⟩
  obtain ⟨f0, f1, f2, f3, f4, f5⟩ := f
  exact ⟨.ref D, H', I'.turned (t' := s'.toks) (fun b o hb e => (sb.2 b hb).trans e) f0 f1 f3 f4 f5, rfl, q⟩
theorem ps_lcGen {i : Nat} {y : Str} {py spos : Pos} (hcalm : X.calm = true) (hN : X.N.Nodup) (F : GFc X.prog X.w X.K X.mg X.base k f fd ps sp) (hbd : Binds X.K fd ps []) (hg : Gl X x) (hm : X.mg x = some (.ref f)) (hkp : PySem.W.keepIn X.K (.ref f) = true) (hr : Room k X.A) (hr1 : Room k X.A.in1) (hroom : X.A.depth < recursionLimit)
    (ha : PA X (e :: es) ta) (ok : BlkOk X.N X.env.scope scope own) (L : LgC X scope nm pl a b c inm ipl) (hy : X.N[i]? = some y) (hyl : X.env.scope.names.lookup y = some .local) (hsw : swapsWith (.ListComp (.Tuple [.Subscript (.Name nm q1) (.Name a q2) q3, .Subscript (.Name pl q4) (.Name b q5) q6, .Subscript (.Name pl q7) (.Name c q8) q9] kk tp) [⟨.Tuple [.Name a pa, .Name b pb, .Name c pc] kt pt, .Call (.Name x pn) (e :: es) [] pos', [], 0⟩] scope pos) (some (.Name y py)) spos.line X.env = pure true) (hdb : (x == ("__debug__" : Str)) = false := by decide) (he : starEach (e :: es) X.env = (false, eval e X.env) :: starEach es X.env := by rfl) (hpl : (backTo pos' (starEach es X.env)).any (·.1) = false := by rfl)
    (hs : ∀ y, foldedSetIterable (.Call (.Name x pn) (e :: es) [] pos') X.env y = pure y := by intro _; rfl) :
    PS X (.Assign [.Name y py] (.ListComp (.Tuple [.Subscript (.Name nm q1) (.Name a q2) q3, .Subscript (.Name pl q4) (.Name b q5) q6, .Subscript (.Name pl q7) (.Name c q8) q9] kk tp) [⟨.Tuple [.Name a pa, .Name b pb, .Name c pc] kt pt, .Call (.Name x pn) (e :: es) [] pos', [], 0⟩] scope pos) spos) (tAsg (tLcG X.prog X.w sp inm ipl ta) (gName i)) := by
  refine ⟨fun pins s σ H D I h => ?_⟩
  rw [exec_Assign_Name_used _ _ _ _ hsw]
  refine wpAny_bind (wpAny_standAt (wpAny_bind ?_))
  show wpAny _ X.A (do let _ ← comprehension (.ListComp (.Tuple [.Subscript (.Name nm q1) (.Name a q2) q3, .Subscript (.Name pl q4) (.Name b q5) q6, .Subscript (.Name pl q7) (.Name c q8) q9] kk tp) [⟨.Tuple [.Name a pa, .Name b pb, .Name c pc] kt pt, .Call (.Name x pn) (e :: es) [] pos', [], 0⟩] scope pos) scope X.env (firstIterPos [⟨.Tuple [.Name a pa, .Name b pb, .Name c pc] kt pt, .Call (.Name x pn) (e :: es) [] pos', [], 0⟩] pos) (newList []) false (eval (.Call (.Name x pn) (e :: es) [] pos') X.env) (some (assign (.Name y py) X.env))) _ _ s
  have h : tLcG X.prog X.w sp inm ipl ta σ H (fun x H1 => gName i x σ H1 D.nx) := h
  refine wpAny_bind (thn (lcGen_core (Qf := fun _ s' => SP X pins D .next s') hcalm hN F hbd hg hm hkp hr hr1 hroom ha ok L hdb he hpl hs I h fun U C s' m H' I' q hn f => ?_) fun _ s' hq => wpAny_pure (wpAny_pure hq))
  show wpAny _ _ (assign (.Name y py) X.env (.ref U)) _ _ _
  refine wpAny_assign_Name (store_ok2 (v := V.ref U) I' hN hy (.inl hyl) rfl (fun s2 I2 ⟨b, sb, hb⟩ => ?_) (.inr hyl))
  obtain ⟨f0, f1, f2, f3, f4, f5⟩ := f
  have hbC : C ≠ b := by
    rcases hb with z | z
    · rw [z]; exact f1
    · exact fun e => f4 y b z e.symm
  refine ⟨m, hn.sameBut sb hbC, fun h3 sb3 => ?_⟩
  exact ⟨_, H', I2.turned (t' := s2.toks) (fun b o hb e => (sb3.2 b hb).trans e) f0 f1 f3 f4 f5, q⟩
end
end Mu

/-! chain. -/
namespace Mu
open PySem L2 PyProof.Rows PySem.SeqAt Mv GenW
theorem sc_chain : GScope ["chart", "arrangement", "person", "tree", "rows", "post", "lower"] ["chart", "arrangement", "person"] (defScope (top 37)) := ⟨rfl, rfl, rfl, by decide +kernel, rfl, by decide +kernel, by decide +kernel⟩
/-- the next move -/
theorem lv_next {n : Nat} {up : Nat → Nat} {rr r' : Rw} {l q : Nat} {rest : List (Int × Nat × Nat)} {H H' : Hp} {R : Addr} {v : V} (c : Ch n up) (o : Ok n rr) (hl : l < n) (lv : Lv n up rr l r' q rest) (h : MvR H R n up rr l v H') :
    (v = .non ∧ rest = [] ∧ Same H H') ∨ ∃ m y rest', v = nV m ∧ rest = (y, m, l) :: rest' ∧ m < n ∧ Lv n up (mvU rr l m y) m r' q rest' ∧ But R H H' ∧ LAt H' R n (mvU rr l m y) ∧ Ok n (mvU rr l m y) ∧ mvU rr l m y l = some y := by
  rcases h with ⟨rfl, nb, s⟩ | ⟨m, y, rfl, b, bt, la⟩
  · cases lv with
    | stop _ => exact .inl ⟨rfl, rfl, s⟩
    | step b _ => exact (best_not b nb).elim
  · cases lv with
    | stop nb => exact (best_not b nb).elim
    | step b2 t2 =>
      obtain ⟨rfl, rfl⟩ := best_one o b b2
      have h1 := c.lt m b.1.1
      refine .inr ⟨m, y, _, rfl, rfl, b.1.2.1, t2, bt, la, o.mvU hl b.2.1, ?_⟩
      rw [mvU_at, if_neg (by have := b.1.2.2; omega), if_pos rfl]
section
variable {P : Program} {w : World} {K : PySem.W.Frag} {mg : Str → Option Value} {base : Heap} {C : Addr}
/-- what stands at the loop's head -/
def ChI (C : Addr) (H0 : Hp) (a v t R : Addr) (as : List Addr) (x : Int) (n : Nat) (up : Nat → Nat) (r' : Rw) (q : Nat) (ms : List (Int × Nat × Nat)) (m i : Nat) (σ : L2.St) (H' : Hp) : Prop :=
  m + i = ms.length ∧ Same H0 H' ∧ TAt C H' as t n up ∧ ∃ (p : Nat) (lw : V), σ = [some (.ref a), some (.ref v), some (.int x), some (.ref t), some (.ref R), some (nV p), some lw] ∧ p < n ∧
    ((lw = .non ∧ m = 0) ∨ ∃ (l : Nat) (y : Int) (rr : Rw) (rest : List (Int × Nat × Nat)), lw = nV l ∧ l < n ∧ LAt H' R n rr ∧ Ok n rr ∧ rr p = some y ∧ ms.drop i = (y, l, p) :: rest ∧ Lv n up rr l r' q rest)
theorem ChI.next {H0 H1 H' : Hp} {a v t R : Addr} {as : List Addr} {x : Int} {n : Nat} {up : Nat → Nat} {rr r' : Rw} {q l i : Nat} {ms rest : List (Int × Nat × Nat)} {w : V} (R0 : H0 R = none) (Ra : R ∉ as) (T : TAt C H1 as t n up) (s : Same H0 H1) (o : Ok n rr) (hl : l < n) (hd : ms.drop i = rest) (lv : Lv n up rr l r' q rest) (h : MvR H1 R n up rr l w H') (hi : i ≤ ms.length) :
    ChI C H0 a v t R as x n up r' q ms (ms.length - i) i [some (.ref a), some (.ref v), some (.int x), some (.ref t), some (.ref R), some (nV l), some w] H' := by
  have hdl : rest.length = ms.length - i := by rw [← hd, List.length_drop]
  rcases lv_next T.ch o hl lv h with ⟨rfl, rfl, sm⟩ | ⟨m, y, rest', rfl, rfl, hm, lv2, bt, la, o2, e2⟩
  · exact ⟨by omega, s.trans sm, T.same sm, l, .non, rfl, hl, .inl ⟨rfl, by simpa using hdl.symm⟩⟩
  · exact ⟨by omega, fun b u hb => bt _ _ (s _ _ hb) (ne_of_none hb R0), T.but Ra bt, l, nV m, rfl, hl, .inr ⟨m, y, _, rest', rfl, hm, la, o2, e2, hd, lv2⟩⟩
/-- what a caller of chain brings -/
def ChA (vs : List V) (H : Hp) (a v : Addr) (n : Nat) (up : Nat → Nat) (r : Rw) (x : Int) (k : Nat) (r' : Rw) (q : Nat) (ms : List (Int × Nat × Nat)) : Prop := vs = [V.ref a, V.ref v, V.int x] ∧ AAt H a v n up r ∧ k < n ∧ r k = some x ∧ Lv n up (Mv.st r k none) k r' q ms ∧ ms.length ≤ 1000
def spChainC : SpC := fun vs H Y Q => ∃ a v n up r x k r' q ms, ChA vs H a v n up r x k r' q ms ∧ (∀ i v H', yOf H ms i v H' → Y i v H') ∧ ∀ i H', qOf H ms i H' → Q i H'
theorem cl_chainC (D : Df K mg "chain" (top 37)) (T : Bt mg) (tc : TC K mg C) (c_require_chart : Cl P w K mg base "require_chart" 3 ["chart"] spChart) (c_require_arrangement : Cl P w K mg base "require_arrangement" 4 ["chart", "arrangement"] spArr) (c_require_holder : Cl P w K mg base "require_holder" 3 ["arrangement", "person"] spHolder)
    (c_Tree : ClT P w K mg base C 1 ["self", "chart"] (spInit C)) (c_move_up : Cl P w K mg base "move_up" 1 ["tree", "rows", "post"] (spMove C)) :
    ∃ (f : Addr) (fd : FuncData), GFc P w K mg base 5 f fd ["chart", "arrangement", "person"] spChainC ∧ mg "chain" = some (.ref f) ∧ PySem.W.keepIn K (.ref f) = true ∧ Binds K fd ["chart", "arrangement", "person"] [] := by
  obtain ⟨f, fd, F, g⟩ := D.ex
  have hbind : Binds K fd ["chart", "arrangement", "person"] [] := F.binds fun _ _ _ _ _ _ us hl => match us, hl with | [_, _, _], _ => rfl
  obtain ⟨oc, od, kV, doc, pm, an, cdv, ct, osl, rfl, lk, hcd⟩ := F.ex
  refine ⟨f, _, gfc_of lk hcd sc_chain (fun vs H Y Q h => ?_) (fun A outer s H vs Y Q hr h => ?_), g, F.kp, hbind⟩
  · obtain ⟨_, _, _, _, _, _, _, _, _, _, ⟨rfl, _⟩, _⟩ := h
    rfl
  · obtain ⟨a, v, n, up, r, x, k, r', q, ms, ⟨rfl, ha, hk, hx, lv, hz⟩, hY, hQ⟩ := h
    refine ⟨_, (gcs_cons (gc_ps (ps_expr (pe_c c_require_chart (hr.mono (by decide)) (pa_cons (pv 0) pa_nil)))) (gcs_cons (gc_ps (ps_expr (pe_c c_require_arrangement (hr.mono (by decide)) (pa_cons (pv 0) (pa_cons (pv 1) pa_nil))))) (gcs_cons (gc_ps (ps_expr (pe_c c_require_holder (hr.mono (by decide)) (pa_cons (pv 1) (pa_cons (pv 2) pa_nil))))) (gcs_cons (gc_ps (ps_set (i := 3) sc_chain.nd rfl (by first | exact Or.inl rfl | exact Or.inr rfl) (pe_makeT (hr.mono (by decide)) c_Tree (pa_cons (pv 0) pa_nil)))) (gcs_cons (gc_ps (ps_set (i := 4) sc_chain.nd rfl (by first | exact Or.inl rfl | exact Or.inr rfl) (pe_callTy call_list_of (by rfl) T.list (by decide +kernel) (pa_cons (pv 1) pa_nil)))) (gcs_cons (gc_ps (ps_set (i := 5) sc_chain.nd rfl (by first | exact Or.inl rfl | exact Or.inr rfl) (pe_bm PySem.F.plainAttrs_list PySem.F.slot_list_index PySem.F.type_list_index mt_index (pv 4) (pa_cons (pv 2) pa_nil)))) (gcs_cons (gc_ps (ps_asg pe_non (pg_sub (pv 4) (pv 5) set_list))) (gcs_cons (gc_ps (ps_set (i := 6) sc_chain.nd rfl (by first | exact Or.inl rfl | exact Or.inr rfl) (pe_c c_move_up (hr.mono (by decide)) (pa_cons (pv 3) (pa_cons (pv 4) (pa_cons (pv 5) pa_nil)))))) (gcs_cons (gc_while (pt_cmp (pc_notN (pv 6))) (gcs_cons (gc_yield (pe_tup (pa_cons (pe_ix ix_list (pv 4) (pv 5) (fun _ _ => rfl)) (pa_cons (pv 6) (pa_cons (pv 5) pa_nil))))) (gcs_cons (gc_ps (ps_set (i := 5) sc_chain.nd rfl (by first | exact Or.inl rfl | exact Or.inr rfl) (pv 6))) (gcs_cons (gc_ps (ps_set (i := 6) sc_chain.nd rfl (by first | exact Or.inl rfl | exact Or.inr rfl) (pe_c c_move_up (hr.mono (by decide)) (pa_cons (pv 3) (pa_cons (pv 4) (pa_cons (pv 5) pa_nil)))))) gcs_nil)))) gcs_nil))))))))), ?_⟩
    refine ⟨_, rfl, a, n, up, rfl, ha.c, fun H1 s1 => ⟨_, rfl, _, rfl, a, v, n, up, r, rfl, ha.same s1, fun H2 s2 => ?_⟩⟩
    have s12 := s1.trans s2
    refine ⟨_, rfl, _, rfl, v, n, r, x, rfl, ha.v.same s12, ha.ar.nn _ _ hx, ⟨k, hk, hx⟩, ?_⟩
    refine ⟨_, rfl, make_t (ha.c.same s12) fun H3 t as s3 ht TT => ?_⟩
    have s13 := s12.trans s3
    refine ⟨_, rfl, v, _, rfl, .inr (tupS s13 ha.v), fun R hR => ?_⟩
    have R0 : H R = none := Same.free s13 hR
    have Ra : R ∉ as := TT.tr.new hR
    have s14 := s13.trans (same_new (o := .lst (tab n (rV r))) hR)
    have T4 := TT.same (same_new (o := .lst (tab n (rV r))) hR)
    obtain ⟨i1, i2, i3⟩ := idx_rows ha.ar.inj hk hx
    refine ⟨_, rfl, .inl ⟨rfl, _, sqL upd_same⟩, _, rfl, R, _, _, k, _, rfl, rfl, sqL upd_same, rfl, rows_flat, i1, i2, i3, ?_⟩
    refine ⟨_, rfl, _, rfl, R, _, (k : Int), k, rfl, rfl, upd_same, ix_tab hk, ?_⟩
    rw [show (tab n (rV r)).set k V.non = tab n (rV (Mv.st r k none)) from tab_st (v := none)]
    have b5 : But R (upd H3 R (.lst (tab n (rV r)))) (upd (upd H3 R (.lst (tab n (rV r)))) R (.lst (tab n (rV (Mv.st r k none))))) := But.upd
    have la5 : LAt (upd (upd H3 R (.lst (tab n (rV r)))) R (.lst (tab n (rV (Mv.st r k none))))) R n (Mv.st r k none) := upd_same
    have s5 : Same H (upd (upd H3 R (.lst (tab n (rV r)))) R (.lst (tab n (rV (Mv.st r k none))))) := same_mut s14 R0
    refine ⟨_, rfl, _, rfl, _, rfl, t, R, as, n, up, _, k, rfl, T4.but Ra b5, Ra, la5, hk, fun vv H6 hv => ?_⟩
    have h0 := ChI.next (C := C) (a := a) (v := v) (x := x) (ms := ms) (i := 0) R0 Ra (T4.but Ra b5) s5 (ha.ar.ok.clear k) hk rfl lv hv (Nat.zero_le _)
    refine ⟨ChI C H a v t R as x n up r' q ms, ⟨_, h0⟩, ?_⟩
    rintro m i σ H7 ⟨hmi, sm, TT7, p, lw, rfl, hp, hs⟩
    refine ⟨_, rfl, _, rfl, ?_⟩
    rcases hs with ⟨rfl, rfl⟩ | ⟨l, y, rr, rest, rfl, hl, la, o, hy, hdr, lv2⟩
    · refine ifF (by simp) (hQ _ _ ⟨sm, ?_⟩)
      omega
    · have hil : i < ms.length := by
        have := congrArg List.length hdr
        rw [List.length_drop, List.length_cons] at this
        omega
      have hmsi : ms[i]? = some (y, l, p) := by
        rw [List.drop_eq_getElem_cons hil] at hdr
        rw [List.getElem?_eq_getElem hil]
        exact congrArg some (List.cons.inj hdr).1
      have hdr2 : ms.drop (i + 1) = rest := by
        rw [List.drop_eq_getElem_cons hil] at hdr
        exact (List.cons.inj hdr).2
      refine ifT (by rw [nV_ne]; rfl) ⟨fun i' σ' H' => ∃ m', m' < m ∧ ChI C H a v t R as x n up r' q ms m' i' σ' H', fun _ _ _ h => h, ?_⟩
      refine ⟨Nat.lt_of_lt_of_le hil (szle (by omega)), ?_⟩
      refine ⟨_, rfl, _, rfl, R, _, (p : Int), _, rfl, rfl, sqL la, at_tab hp, _, rfl, _, rfl, szle (by show 3 ≤ 100000; decide), fun U hU => ⟨hY _ _ _ ⟨sm.trans (same_new hU), (y, l, p), U, hmsi, rfl, ?_⟩, ?_⟩⟩
      · rw [upd_same]
        show some (HO.tup [oV (rr p), nV l, nV p]) = _
        rw [hy]
        rfl
      have s8 := sm.trans (same_new (o := .tup [rV rr p, nV l, nV p]) hU)
      have T8 := TT7.same (same_new (o := .tup [rV rr p, nV l, nV p]) hU)
      have la8 : LAt (upd H7 U (.tup [rV rr p, nV l, nV p])) R n rr := same_new hU _ _ la
      refine ⟨_, rfl, _, rfl, _, rfl, _, rfl, t, R, as, n, up, rr, l, rfl, T8, Ra, la8, hl, fun vv H9 hv => ⟨ms.length - (i + 1), by omega, ?_⟩⟩
      exact ChI.next R0 Ra T8 s8 o hl hdr2 lv2 hv (by omega)
end
end Mu


/-! chain, drained by list(). -/
namespace Mu
open PySem L2 PyProof.Rows PySem.SeqAt Mv GenW
section
variable {P : Program} {w : World} {K : PySem.W.Frag} {mg : Str → Option Value} {base : Heap} {C : Addr}
def spChainK : SpG := fun vs H Q _ => ∃ a v n up r x k r' q ms, ChA vs H a v n up r x k r' q ms ∧ ∀ (H' : Hp) (os : List Addr), Same H H' → os.length = ms.length → (∀ (j : Nat) (u : Addr) (mm : Int × Nat × Nat), os[j]? = some u → ms[j]? = some mm → H' u = some (.tup (rowI mm))) → Q (os.map V.ref) H'
theorem cl_chainK (D : Df K mg "chain" (top 37)) (T : Bt mg) (tc : TC K mg C) (c_require_chart : Cl P w K mg base "require_chart" 3 ["chart"] spChart) (c_require_arrangement : Cl P w K mg base "require_arrangement" 4 ["chart", "arrangement"] spArr) (c_require_holder : Cl P w K mg base "require_holder" 3 ["arrangement", "person"] spHolder)
    (c_Tree : ClT P w K mg base C 1 ["self", "chart"] (spInit C)) (c_move_up : Cl P w K mg base "move_up" 1 ["tree", "rows", "post"] (spMove C)) :
    ∃ (f : Addr) (fd : FuncData), GFn P w K mg base 5 f fd ["chart", "arrangement", "person"] spChainK ∧ mg "chain" = some (.ref f) ∧ PySem.W.keepIn K (.ref f) = true ∧ Binds K fd ["chart", "arrangement", "person"] [] := by
  obtain ⟨f, fd, F, g⟩ := D.ex
  have hbind : Binds K fd ["chart", "arrangement", "person"] [] := F.binds fun _ _ _ _ _ _ us hl => match us, hl with | [_, _, _], _ => rfl
  obtain ⟨oc, od, kV, doc, pm, an, cdv, ct, osl, rfl, lk, hcd⟩ := F.ex
  refine ⟨f, _, gfn_of lk hcd sc_chain (fun vs H Q E h => ?_) (fun A outer s H vs Q E pn hr h => ?_), g, F.kp, hbind⟩
  · obtain ⟨_, _, _, _, _, _, _, _, _, _, ⟨rfl, _⟩, _⟩ := h
    rfl
  · obtain ⟨a, v, n, up, r, x, k, r', q, ms, ⟨rfl, ha, hk, hx, lv, hz⟩, hQ⟩ := h
    refine ⟨_, (gss_cons (gs_ps (ps_expr (pe_c c_require_chart (hr.mono (by decide)) (pa_cons (pv 0) pa_nil)))) (gss_cons (gs_ps (ps_expr (pe_c c_require_arrangement (hr.mono (by decide)) (pa_cons (pv 0) (pa_cons (pv 1) pa_nil))))) (gss_cons (gs_ps (ps_expr (pe_c c_require_holder (hr.mono (by decide)) (pa_cons (pv 1) (pa_cons (pv 2) pa_nil))))) (gss_cons (gs_ps (ps_set (i := 3) sc_chain.nd rfl (by first | exact Or.inl rfl | exact Or.inr rfl) (pe_makeT (hr.mono (by decide)) c_Tree (pa_cons (pv 0) pa_nil)))) (gss_cons (gs_ps (ps_set (i := 4) sc_chain.nd rfl (by first | exact Or.inl rfl | exact Or.inr rfl) (pe_callTy call_list_of (by rfl) T.list (by decide +kernel) (pa_cons (pv 1) pa_nil)))) (gss_cons (gs_ps (ps_set (i := 5) sc_chain.nd rfl (by first | exact Or.inl rfl | exact Or.inr rfl) (pe_bm PySem.F.plainAttrs_list PySem.F.slot_list_index PySem.F.type_list_index mt_index (pv 4) (pa_cons (pv 2) pa_nil)))) (gss_cons (gs_ps (ps_asg pe_non (pg_sub (pv 4) (pv 5) set_list))) (gss_cons (gs_ps (ps_set (i := 6) sc_chain.nd rfl (by first | exact Or.inl rfl | exact Or.inr rfl) (pe_c c_move_up (hr.mono (by decide)) (pa_cons (pv 3) (pa_cons (pv 4) (pa_cons (pv 5) pa_nil)))))) (gss_cons (gs_while owns_gcx (pt_cmp (pc_notN (pv 6))) (gss_cons (gs_yield (pe_tup (pa_cons (pe_ix ix_list (pv 4) (pv 5) (fun _ _ => rfl)) (pa_cons (pv 6) (pa_cons (pv 5) pa_nil))))) (gss_cons (gs_ps (ps_set (i := 5) sc_chain.nd rfl (by first | exact Or.inl rfl | exact Or.inr rfl) (pv 6))) (gss_cons (gs_ps (ps_set (i := 6) sc_chain.nd rfl (by first | exact Or.inl rfl | exact Or.inr rfl) (pe_c c_move_up (hr.mono (by decide)) (pa_cons (pv 3) (pa_cons (pv 4) (pa_cons (pv 5) pa_nil)))))) gss_nil)))) gss_nil))))))))), ?_⟩
    refine ⟨_, rfl, a, n, up, rfl, ha.c, fun H1 s1 => ⟨_, rfl, _, rfl, a, v, n, up, r, rfl, ha.same s1, fun H2 s2 => ?_⟩⟩
    have s12 := s1.trans s2
    refine ⟨_, rfl, _, rfl, v, n, r, x, rfl, ha.v.same s12, ha.ar.nn _ _ hx, ⟨k, hk, hx⟩, ?_⟩
    refine ⟨_, rfl, make_t (ha.c.same s12) fun H3 t as s3 ht TT => ?_⟩
    have s13 := s12.trans s3
    refine ⟨_, rfl, v, _, rfl, .inr (tupS s13 ha.v), fun R hR => ?_⟩
    have R0 : H R = none := Same.free s13 hR
    have Ra : R ∉ as := TT.tr.new hR
    have s14 := s13.trans (same_new (o := .lst (tab n (rV r))) hR)
    have T4 := TT.same (same_new (o := .lst (tab n (rV r))) hR)
    obtain ⟨i1, i2, i3⟩ := idx_rows ha.ar.inj hk hx
    refine ⟨_, rfl, .inl ⟨rfl, _, sqL upd_same⟩, _, rfl, R, _, _, k, _, rfl, rfl, sqL upd_same, rfl, rows_flat, i1, i2, i3, ?_⟩
    refine ⟨_, rfl, _, rfl, R, _, (k : Int), k, rfl, rfl, upd_same, ix_tab hk, ?_⟩
    rw [show (tab n (rV r)).set k V.non = tab n (rV (Mv.st r k none)) from tab_st (v := none)]
    have b5 : But R (upd H3 R (.lst (tab n (rV r)))) (upd (upd H3 R (.lst (tab n (rV r)))) R (.lst (tab n (rV (Mv.st r k none))))) := But.upd
    have la5 : LAt (upd (upd H3 R (.lst (tab n (rV r)))) R (.lst (tab n (rV (Mv.st r k none))))) R n (Mv.st r k none) := upd_same
    have s5 : Same H (upd (upd H3 R (.lst (tab n (rV r)))) R (.lst (tab n (rV (Mv.st r k none))))) := same_mut s14 R0
    refine ⟨_, rfl, _, rfl, _, rfl, t, R, as, n, up, _, k, rfl, T4.but Ra b5, Ra, la5, hk, fun vv H6 hv => ?_⟩
    have h0 := ChI.next (C := C) (a := a) (v := v) (x := x) (ms := ms) (i := 0) R0 Ra (T4.but Ra b5) s5 (ha.ar.ok.clear k) hk rfl lv hv (Nat.zero_le _)
    refine ⟨fun m ys σ H' => ∃ os : List Addr, ys = os.map V.ref ∧ ChI C H a v t R as x n up r' q ms m os.length σ H' ∧ ∀ (j : Nat) (u : Addr) (mm : Int × Nat × Nat), os[j]? = some u → ms[j]? = some mm → H' u = some (.tup (rowI mm)), ⟨_, [], rfl, h0, (fun j u mm e => (by cases e))⟩, ?_⟩
    rintro m ys σ H7 ⟨os, rfl, ⟨hmi, sm, TT7, p, lw, rfl, hp, hs⟩, hrows⟩
    refine ⟨_, rfl, _, rfl, ?_⟩
    rcases hs with ⟨rfl, rfl⟩ | ⟨l, y, rr, rest, rfl, hl, la, o, hy, hdr, lv2⟩
    · exact ifF (by simp) (hQ _ os sm (by omega) hrows)
    · have hil : os.length < ms.length := by
        have := congrArg List.length hdr
        rw [List.length_drop, List.length_cons] at this
        omega
      have hmsi : ms[os.length]? = some (y, l, p) := by
        rw [List.drop_eq_getElem_cons hil] at hdr
        rw [List.getElem?_eq_getElem hil]
        exact congrArg some (List.cons.inj hdr).1
      have hdr2 : ms.drop (os.length + 1) = rest := by
        rw [List.drop_eq_getElem_cons hil] at hdr
        exact (List.cons.inj hdr).2
      refine ifT (by rw [nV_ne]; rfl) ⟨fun ys' σ' H' => ∃ m', m' < m ∧ ∃ os : List Addr, ys' = os.map V.ref ∧ ChI C H a v t R as x n up r' q ms m' os.length σ' H' ∧ ∀ (j : Nat) (u : Addr) (mm : Int × Nat × Nat), os[j]? = some u → ms[j]? = some mm → H' u = some (.tup (rowI mm)), fun _ _ _ h => h, ?_⟩
      refine ⟨by rw [List.length_map]; exact Nat.lt_of_lt_of_le hil (szle (by omega)), ?_⟩
      refine ⟨_, rfl, _, rfl, R, _, (p : Int), _, rfl, rfl, sqL la, at_tab hp, _, rfl, _, rfl, szle (by show 3 ≤ 100000; decide), fun U hU => ?_⟩
      have s8 := sm.trans (same_new (o := .tup [rV rr p, nV l, nV p]) hU)
      have T8 := TT7.same (same_new (o := .tup [rV rr p, nV l, nV p]) hU)
      have la8 : LAt (upd H7 U (.tup [rV rr p, nV l, nV p])) R n rr := same_new hU _ _ la
      refine ⟨_, rfl, _, rfl, _, rfl, _, rfl, t, R, as, n, up, rr, l, rfl, T8, Ra, la8, hl, fun vv H9 hv => ⟨ms.length - (os.length + 1), by omega, os ++ [U], by rw [List.map_append]; rfl, ?_, fun j u mm e e' => ?_⟩⟩
      · rw [List.length_append, List.length_singleton]
        exact ChI.next R0 Ra T8 s8 o hl hdr2 lv2 hv (by omega)
      · have keep : ∀ b ob, upd H7 U (.tup [rV rr p, nV l, nV p]) b = some ob → b ≠ R → H9 b = some ob := by
          intro b ob hb nb
          rcases hv with ⟨_, _, s⟩ | ⟨_, _, _, _, bt, _⟩
          · exact s _ _ hb
          · exact bt _ _ hb nb
        have key : upd H7 U (.tup [rV rr p, nV l, nV p]) u = some (.tup (rowI mm)) := by
          rcases getElem?_snoc e with ⟨_, z⟩ | ⟨hj, z⟩
          · exact same_new hU _ _ (hrows j u mm z e')
          · rw [z, upd_same]
            rw [hj, hmsi] at e'
            rw [← Option.some.inj e']
            show some (HO.tup [oV (rr p), nV l, nV p]) = _
            rw [hy]
            rfl
        exact keep _ _ key (ne_of key la8 (by intro z; cases z))
end
end Mu


/-! the law on people. -/
namespace Mu
open PySem L2 PyProof.Rows PySem.SeqAt Mv GenW
def ChK (P : Program) (w : World) (K : PySem.W.Frag) (mg : Str → Option Value) (base : Heap) : Prop := ∃ (f : Addr) (fd : FuncData), GFn P w K mg base 5 f fd ["chart", "arrangement", "person"] spChainK ∧ mg "chain" = some (.ref f) ∧ PySem.W.keepIn K (.ref f) = true ∧ Binds K fd ["chart", "arrangement", "person"] []
def ChC (P : Program) (w : World) (K : PySem.W.Frag) (mg : Str → Option Value) (base : Heap) : Prop := ∃ (f : Addr) (fd : FuncData), GFc P w K mg base 5 f fd ["chart", "arrangement", "person"] spChainC ∧ mg "chain" = some (.ref f) ∧ PySem.W.keepIn K (.ref f) = true ∧ Binds K fd ["chart", "arrangement", "person"] []
section
variable {X : Cx}
theorem pe_chK {e : Expr} {es : List Expr} {t : TA} {p p2 pos pos' : Pos} (c : ChK X.prog X.w X.K X.mg X.base) (hr : Room 8 X.A) (hl : X.mg "list" = none) (ha : PA X (e :: es) t) (hg : Gl X "chain" := by rfl) (hg2 : Gl X "list" := by rfl)
    (he : starEach (e :: es) X.env = (false, eval e X.env) :: starEach es X.env := by rfl) (hpl : (backTo pos' (starEach es X.env)).any (·.1) = false := by rfl)
    (he2 : starEach [.Call (.Name "chain" p2) (e :: es) [] pos'] X.env = (false, eval (.Call (.Name "chain" p2) (e :: es) [] pos') X.env) :: starEach [] X.env := by rfl) :
    PE X (.Call (.Name "list" p) [.Call (.Name "chain" p2) (e :: es) [] pos'] [] pos) (tListG (tCallG spChainK [] E0 t)) := by
  obtain ⟨f, fd, F, g, kp, b⟩ := c
  refine pe_listG (pgen_call F (hr.mono (by decide)) hg g kp b .nil ha (by decide) he hpl) (fun _ _ _ _ _ _ _ h => ?_) (fun _ _ _ h => h.elim) hr hg2 hl (by decide +kernel) (by decide) (by decide) he2
  obtain ⟨_, _, _, _, _, _, _, _, _, _, _, _, h⟩ := h
  exact h.elim
theorem ps_chC {i : Nat} {y : Str} {py spos : Pos} {e : Expr} {es : List Expr} {ta : TA} {nm pl a b c : Str} {inm ipl : Nat} {scope : Scope} {own : List (Str × Nat)} {q1 q2 q3 q4 q5 q6 q7 q8 q9 tp pa pb pc pt pn pos' pos : Pos} {kk kt : Nat} (cc : ChC X.prog X.w X.K X.mg X.base) (hr : Room 8 X.A) (hcalm : X.calm = true) (hN : X.N.Nodup)
    (ha : PA X (e :: es) ta) (ok : BlkOk X.N X.env.scope scope own) (L : LgC X scope nm pl a b c inm ipl) (hy : X.N[i]? = some y) (hyl : X.env.scope.names.lookup y = some .local)
    (hsw : swapsWith (.ListComp (.Tuple [.Subscript (.Name nm q1) (.Name a q2) q3, .Subscript (.Name pl q4) (.Name b q5) q6, .Subscript (.Name pl q7) (.Name c q8) q9] kk tp) [⟨.Tuple [.Name a pa, .Name b pb, .Name c pc] kt pt, .Call (.Name "chain" pn) (e :: es) [] pos', [], 0⟩] scope pos) (some (.Name y py)) spos.line X.env = pure true)
    (hg : Gl X "chain" := by rfl) (he : starEach (e :: es) X.env = (false, eval e X.env) :: starEach es X.env := by rfl) (hpl : (backTo pos' (starEach es X.env)).any (·.1) = false := by rfl)
    (hs : ∀ y, foldedSetIterable (.Call (.Name "chain" pn) (e :: es) [] pos') X.env y = pure y := by intro _; rfl) :
    PS X (.Assign [.Name y py] (.ListComp (.Tuple [.Subscript (.Name nm q1) (.Name a q2) q3, .Subscript (.Name pl q4) (.Name b q5) q6, .Subscript (.Name pl q7) (.Name c q8) q9] kk tp) [⟨.Tuple [.Name a pa, .Name b pb, .Name c pc] kt pt, .Call (.Name "chain" pn) (e :: es) [] pos', [], 0⟩] scope pos) spos) (tAsg (tLcG X.prog X.w spChainC inm ipl ta) (gName i)) := by
  obtain ⟨f, fd, F, g, kp, bd⟩ := cc
  refine ps_lcGen hcalm hN F bd hg g kp (hr.mono (by decide)) ⟨hr.hd, ?_, ?_⟩ ?_ ha ok L hy hyl hsw (by decide) he hpl hs
  · have := hr.dp
    show X.A.depth + 3 * 5 + 5 < _
    omega
  · have := hr.un
    show X.A.units + 1 + 16 * 5 + 200 < _
    omega
  · have := hr.dp
    omega
end
theorem rws_of {K : PySem.W.Frag} {H : Hp} : ∀ (as : List Addr) (ts : List (List V)), as.length = ts.length → (∀ (j : Nat) (a : Addr) (t : List V), as[j]? = some a → ts[j]? = some t → H a = some (.tup t) ∧ t.all nI = true) → Rws K H as ts
  | [], [], _, _ => trivial
  | [], _ :: _, h, _ => by cases h
  | _ :: _, [], h, _ => by cases h
  | a :: as, t :: ts, h, hs => ⟨sqT (hs 0 a t rfl rfl).1, (hs 0 a t rfl rfl).2, rws_of as ts (by simpa using h) fun j b u e e' => hs (j + 1) b u e e'⟩
section
variable {P : Program} {w : World} {K : PySem.W.Frag} {mg : Str → Option Value} {base : Heap} {C : Addr}
def spPeopleR (P : Program) (w : World) : Sp := fun vs H Q _ => ∃ (a a' v v' p d : Addr) (n : Nat) (up up' π ρ : Nat → Nat) (r : Rw) (ev : List Int) (ν : Int → Int), vs = [V.ref a, V.ref a', V.ref v, V.ref v', V.ref p, V.ref d] ∧ LW P w H a a' v v' p d n up up' π ρ r ev ν ∧ ∀ H', Same H H' → Q (.bl true) H'
theorem sc_law_people_right : FnScope ["_law_tree", "_law_other_tree", "_law_rows", "_law_other_rows", "_law_places", "_law_names_here", "_law_name", "_law_expected", "_law_moves", "_law_mover", "_law_old", "_law_new"] ["_law_tree", "_law_other_tree", "_law_rows", "_law_other_rows", "_law_places", "_law_names_here"] (defScope (top 59)) := ⟨rfl, rfl, rfl, by decide +kernel, rfl, by decide +kernel, by decide +kernel⟩
theorem cl_law_people_right (D : Df K mg "_law_people_right" (top 59)) (T : Bt mg) (c_law_held : Cl P w K mg base "_law_held" 1 ["_law_rows"] spHeldL) (c_leave : ClR P w K mg base "leave" 5 spLv1) (c_chainC : ChC P w K mg base) (c_chainK : ChK P w K mg base) (c_post_of : Cl P w K mg base "post_of" 5 ["chart", "arrangement", "person"] spPostOf)
    (c_law_moved_rows : Cl P w K mg base "_law_moved_rows" 1 ["_law_rows", "_law_places", "_law_names_here"] (spMRows P w)) : Cl P w K mg base "_law_people_right" 9 ["_law_tree", "_law_other_tree", "_law_rows", "_law_other_rows", "_law_places", "_law_names_here"] (spPeopleR P w) := by
  refine D.cl (fun f fd F => F.ok sc_law_people_right (fun vs H Q E h => ?_) (fun cdv A outer s H vs Q E hr h => ?_)) (fun _ _ _ _ _ _ us hl => match us, hl with | [_, _, _, _, _, _], _ => rfl)
  · obtain ⟨_, _, _, _, _, _, _, _, _, _, _, _, _, _, rfl, _⟩ := h
    rfl
  · obtain ⟨a, a', v, v', p, d, n, up, up', π, ρ, r, ev, ν, rfl, W, k⟩ := h
    have hn := W.le
    refine ⟨_, (pss_cons (ps_for PassesOwn.never rfl (pi_list (pe_c c_law_held (hr.mono (by decide)) (pa_cons (pv 2) pa_nil))) (pg_name (i := 6) sc_law_people_right.nd rfl (by first | exact Or.inl rfl | exact Or.inr rfl)) (pss_cons (ps_set (i := 7) sc_law_people_right.nd rfl (by first | exact Or.inl rfl | exact Or.inr rfl) (pe_c c_law_moved_rows (hr.mono (by decide)) (pa_cons (pe_cR c_leave (hr.mono (by decide)) (pa_cons (pv 0) (pa_cons (pv 2) (pa_cons (pv 6) pa_nil)))) (pa_cons (pv 4) (pa_cons (pv 5) pa_nil))))) (pss_cons (ps_if (pt_cmpR (op_neS hr.units) (pe_cR c_leave (hr.mono (by decide)) (pa_cons (pv 1) (pa_cons (pv 3) (pa_cons (pe_nget (pv 5) (pv 6) (fun _ _ => rfl)) pa_nil)))) (pv 7) (nomark _)) (pss_one (ps_ret pe_bl)) pss_nil) (pss_cons (ps_chC (i := 8) (inm := 5) (ipl := 4) c_chainC (hr.mono (by decide)) rfl sc_law_people_right.nd (pa_cons (pv 0) (pa_cons (pv 2) (pa_cons (pv 6) pa_nil))) (blkOk_by (own := [("_law_mover", 9), ("_law_old", 10), ("_law_new", 11)]) (N := ["_law_tree", "_law_other_tree", "_law_rows", "_law_other_rows", "_law_places", "_law_names_here", "_law_name", "_law_expected", "_law_moves", "_law_mover", "_law_old", "_law_new"]) (sc := defScope (top 59)) (by decide +kernel)) ⟨rfl, rfl, rfl, rfl, Or.inl rfl, Or.inl rfl, rfl, rfl, rfl, by decide, by decide, by decide, by decide, fun _ _ => rfl, fun _ _ => rfl⟩ rfl rfl (sw_true rfl rfl rfl (by decide +kernel))) (pss_cons (ps_if (pt_cmpR (op_neR hr.units) (pe_chK c_chainK (hr.mono (by decide)) T.list (pa_cons (pv 1) (pa_cons (pv 3) (pa_cons (pe_nget (pv 5) (pv 6) (fun _ _ => rfl)) pa_nil)))) (pv 8) (nomark _)) (pss_one (ps_ret pe_bl)) pss_nil) (pss_one (ps_if (pt_cmpR op_ne (pe_c c_post_of (hr.mono (by decide)) (pa_cons (pv 1) (pa_cons (pv 3) (pa_cons (pe_nget (pv 5) (pv 6) (fun _ _ => rfl)) pa_nil)))) (pe_ix ix_list (pv 4) (pe_c c_post_of (hr.mono (by decide)) (pa_cons (pv 0) (pa_cons (pv 2) (pa_cons (pv 6) pa_nil)))) (fun _ _ => rfl)) (nomark _)) (pss_one (ps_ret pe_bl)) pss_nil))))))) (pss_one (ps_ret pe_bl))), ?_⟩
    refine ⟨_, rfl, v, n, r, rfl, W.A.v, by omega, W.A.ar.inj, fun H1 L xs s1 _ hL hmem _ _ => ?_⟩
    have W1 := W.same s1
    refine ⟨L, rfl, ⟨_, sqL hL⟩, for_list (xs := xs.map V.int) (fun i σ H' => (∃ x1 x2 x3, σ = [some (.ref a), some (.ref a'), some (.ref v), some (.ref v'), some (.ref p), some (.ref d), x1, x2, x3, none, none, none]) ∧ Same H1 H') ⟨⟨_, _, _, rfl⟩, Same.refl _⟩ (fun i σ H' _ h => lstS h.2 hL) ?_ ?_⟩
    · rintro i y σ H2 hy ⟨⟨x1, x2, x3, rfl⟩, s2⟩
      rw [List.getElem?_map] at hy
      obtain ⟨x, hx, rfl⟩ := Option.map_eq_some_iff.mp hy
      have W2 := W1.same s2
      have xh := (hmem x).mp (List.mem_of_getElem? hx)
      obtain ⟨kx, hkx, hrx⟩ := id xh
      have xev := W.ev xh
      refine ⟨_, rfl, _, rfl, _, rfl, a, v, n, up, r, x, kx, rfl, W2.A, hkx, hrx, fun H3 r' q ms o s3 lv ho => ?_⟩
      have W3 := W2.same s3
      refine ⟨_, rfl, _, rfl, o, p, d, n, up, up', π, ρ, r', ev, ν, rfl, ho, by omega, W3.p, W3.R, W3.N, lv.inS W.S.clear, fun H4 e s4 _ he => ?_⟩
      have W4 := W3.same s4
      obtain ⟨kv, hk4, hv⟩ := W4.get xev
      have hmx : mv n ρ ν r (π kx) = some (ν x) := by rw [mv_at W.R hkx, hrx]; rfl
      refine ⟨_, rfl, _, rfl, _, rfl, _, rfl, d, kv, some (.inl x), .int (ν x), rfl, .inl hk4, rfl, hv, a', v', n, up', _, ν x, π kx, rfl, W4.A', W.R.lt kx hkx, hmx, fun H5 r2 q2 ms2 o2 s5 lv2 ho2 => ?_⟩
      obtain ⟨er, eq2, ems⟩ := leave_mv W.R W.m W.A.ar.ok W.S hkx lv lv2
      have W5 := W4.same s5
      rw [er] at ho2
      refine ⟨_, rfl, o2, e, _, rfl, rfl, tab_all fun k => rV_nI _ k, .inr ⟨sqT ho2, sqT (s5 _ _ he)⟩, _, rfl, iteF ?_⟩
      have hlen : ms.length ≤ n := by
        obtain ⟨r9, q9, ms9, lv9, hl9⟩ := Lv.total W.R.c _ (Mv.st r kx none) kx rfl hkx
        have := (lv.one (W.A.ar.ok.clear kx) hkx lv9).2.2
        rw [this]
        omega
      have nums := lv.nums W.R.c hkx
      obtain ⟨kv5, hk5, _, hv50, hv5⟩ := W5.N
      have hms : ∀ m ∈ ms, valV kv5 (some (Sum.inl m.1)) = some (.int (ν m.1)) ∧ (tab n fun k => nV (π k))[m.2.1]? = some (nV (π m.2.1)) ∧ (tab n fun k => nV (π k))[m.2.2]? = some (nV (π m.2.2)) := fun m hm => by
        obtain ⟨h1, h2, k0, hk0⟩ := nums m hm
        exact ⟨hv5 _ (W.S.clear k0 _ hk0), tab_get h1, tab_get h2⟩
      refine ⟨_, rfl, _, rfl, _, rfl, d, p, kv5, _, ms, ν, π, rfl, rfl, hk5, W5.p, by omega, by rw [tab_len]; omega, hms, ⟨a, v, n, up, r, x, kx, r', q, ms, ⟨rfl, W5.A, hkx, hrx, lv, by omega⟩, fun _ _ _ h => h, fun _ _ h => h⟩, fun H6 D as s6 D0 hD has hrows => ?_⟩
      have W6 := W5.same s6
      obtain ⟨kv6, hk6, hv6⟩ := W6.get xev
      refine ⟨_, rfl, _, rfl, _, rfl, _, rfl, d, kv6, some (.inl x), .int (ν x), rfl, .inl hk6, rfl, hv6, a', v', n, up', _, ν x, π kx, r2, q2, ms2, ⟨rfl, W6.A', W.R.lt kx hkx, hmx, lv2, by rw [ems, List.length_map]; omega⟩, fun H7 os s7 hol hor p7 hp7 => ?_⟩
      have s8 : Same H7 (upd H7 p7 (.lst (os.map V.ref))) := same_new hp7
      have nIrow : ∀ m : Int × Nat × Nat, (rowO ν π m).all nI = true := fun _ => rfl
      have R1 : Rws K (upd H7 p7 (.lst (os.map V.ref))) os (ms.map (rowO ν π)) := rws_of _ _ (by rw [hol, ems, List.length_map, List.length_map]) fun j u t hj hjt => by
        rw [List.getElem?_map] at hjt
        obtain ⟨m, hm, rfl⟩ := Option.map_eq_some_iff.mp hjt
        exact ⟨s8 _ _ (hor j u (ν m.1, π m.2.1, π m.2.2) hj (by rw [ems, List.getElem?_map, hm]; rfl)), nIrow m⟩
      have R2 : Rws K (upd H7 p7 (.lst (os.map V.ref))) as (ms.map (rowO ν π)) := rws_of _ _ (by rw [has, List.length_map]) fun j u t hj hjt => by
        rw [List.getElem?_map] at hjt
        obtain ⟨m, hm, rfl⟩ := Option.map_eq_some_iff.mp hjt
        exact ⟨s8 _ _ (s7 _ _ (hrows j u m hj hm)), nIrow m⟩
      refine ⟨_, rfl, p7, D, os, as, ms.map (rowO ν π), rfl, rfl, sqL upd_same, sqL (s8 _ _ (s7 _ _ hD)), R1, R2, _, rfl, iteF ?_⟩
      have W8 := (W6.same s7).same s8
      have s28 := ((((s2.trans s3).trans s4).trans s5).trans s6).trans (s7.trans s8)
      generalize upd H7 p7 (.lst (os.map V.ref)) = H8 at W8 s28
      obtain ⟨kv8, hk8, hv8⟩ := W8.get xev
      refine ⟨_, rfl, _, rfl, _, rfl, _, rfl, d, kv8, some (.inl x), .int (ν x), rfl, .inl hk8, rfl, hv8, a', v', n, up', _, ν x, π kx, rfl, W8.A', W.R.lt kx hkx, hmx, fun H9 s9 => ?_⟩
      have W9 := W8.same s9
      refine ⟨_, rfl, _, rfl, _, rfl, _, rfl, a, v, n, up, r, x, kx, rfl, W9.A, hkx, hrx, fun H10 s10 => ?_⟩
      have W10 := W9.same s10
      refine ⟨p, _, (kx : Int), nV (π kx), rfl, rfl, sqL W10.p, at_tab hkx, rfl, _, rfl, ifF (by rw [decide_eq_true rfl]; rfl) ⟨⟨_, _, _, rfl⟩, (s28.trans s9).trans s10⟩⟩
    · rintro σ H2 ⟨_, s2⟩
      exact k _ (s1.trans s2)
end
end Mu


/-! law. -/
namespace Mu
open PySem L2 PyProof.Rows PySem.SeqAt Mv
open C8 (tCut pss_cut)
theorem cut_take (xs : List V) (d : Nat) : cutV xs none (some (d : Int)) = xs.take d := by
  unfold cutV
  rw [HT.sIx_nat, HT.sIx_none, List.drop_zero, Nat.sub_zero]
  rcases Nat.le_total d xs.length with h | h
  · rw [Nat.min_eq_left h]
  · rw [Nat.min_eq_right h, List.take_length, List.take_of_length_le h]
theorem cut_tail (x : V) (xs : List V) : cutV (x :: xs) (some 1) none = xs := by
  have e : HT.sIx (x :: xs).length 0 (some 1) = 1 := by
    rw [show (1 : Int) = ((1 : Nat) : Int) from rfl, HT.sIx_nat]
    exact Nat.min_eq_left (by simp)
  unfold cutV
  rw [e, HT.sIx_none]
  show xs.take ((x :: xs).length - 1) = xs
  rw [List.length_cons, Nat.add_sub_cancel, List.take_length]
theorem same_but {H H1 H2 : Hp} {G : Addr} (s : Same H H1) (g : H G = none) (b : But G H1 H2) : Same H H2 := fun z u e => b _ _ (s _ _ e) (ne_of_none e g)
theorem sq_same {K : PySem.W.Frag} {H H' : Hp} {a : Addr} {xs : List V} (s : Same H H') (h : SqL K H a xs) : SqL K H' a xs := by
  rcases h with (h | ⟨o, h⟩) | h
  · exact Or.inl (Or.inl (s _ _ h))
  · exact Or.inl (Or.inr ⟨o, s _ _ h⟩)
  · exact Or.inr h
theorem GAt.neL {H : Hp} {G a : Addr} {B : Nat} {xs : List V} (g : GAt H G B) (h : H a = some (.tup xs)) : a ≠ G := by
  obtain ⟨x, y, z, hG, -⟩ := g
  exact ne_of h hG (by intro z; cases z)
theorem CAt.but {H H' : Hp} {G a : Addr} {B n : Nat} {up : Nat → Nat} (h : CAt H a n up) (g : GAt H G B) (b : But G H H') : CAt H' a n up := ⟨b _ _ h.1 (g.neL h.1), h.2⟩
theorem AAt.but {H H' : Hp} {G a v : Addr} {B n : Nat} {up : Nat → Nat} {r : Rw} (h : AAt H a v n up r) (g : GAt H G B) (b : But G H H') : AAt H' a v n up r := by
  obtain ⟨x, y, z, hG, -⟩ := id g
  exact ⟨h.c.but g b, b _ _ h.v (ne_of h.v hG (by intro z; cases z)), h.ar⟩
theorem NAt.but {P : Program} {w : World} {H H' : Hp} {G d : Addr} {B : Nat} {ev : List Int} {ν : Int → Int} (h : NAt P w H d ev ν) (g : GAt H G B) (b : But G H H') : NAt P w H' d ev ν := by
  obtain ⟨x, y, z, hG, -⟩ := g
  obtain ⟨kvs, e, q⟩ := h
  exact ⟨kvs, b _ _ e (ne_of e hG (by intro z; cases z)), q⟩
/-- None and the old numbers, each with its new number -/
def keysOf (ev : List Int) : List (Option Key) := none :: ev.map (fun x => some (.inl x))
theorem keysOf_nodup {ev : List Int} (h : ev.Nodup) : (keysOf ev).Nodup := by
  unfold keysOf
  rw [List.nodup_cons]
  refine ⟨fun z => ?_, ?_⟩
  · obtain ⟨x, _, h⟩ := List.mem_map.mp z
    cases h
  · refine List.Pairwise.map _ (fun x y e => ?_) h
    intro z
    cases z
    exact e rfl
theorem valV_zip {ev : List Int} : ∀ {nv : List Int} {x : Int}, ev.length = nv.length → x ∈ ev → valV ((ev.map fun x => (some (.inl x) : Option Key)).zip (nv.map V.int)) (some (.inl x)) = some (.int (nuOf ev nv x)) := by
  induction ev with
  | nil => intro nv x _ h; cases h
  | cons a ev ih =>
    intro nv x hl hx
    match nv, hl with
    | b :: nv, hl =>
      by_cases e : a = x
      · subst e
        have : nuOf (a :: ev) (b :: nv) a = b := by
          unfold nuOf
          rw [List.idxOf_cons_self]
          rfl
        rw [this]
        exact valV_pos rfl
      · have e2 : (a :: ev).idxOf x = ev.idxOf x + 1 := by
          rw [List.idxOf_cons]
          have : (a == x) = false := by simpa using e
          rw [this]
          rfl
        have : nuOf (a :: ev) (b :: nv) x = nuOf ev nv x := by
          unfold nuOf
          rw [e2]
          rfl
        rw [this]
        refine (valV_neg (by intro z; cases z; exact e rfl)).trans (ih (by simpa using hl) ?_)
        rcases List.mem_cons.mp hx with h | h
        · exact absurd h.symm e
        · exact h
theorem nat_zip {P : Program} {w : World} {H : Hp} {d : Addr} {ev nv : List Int} (hl : ev.length = nv.length) (h : H d = some (nD P w d ((keysOf ev).zip (V.non :: nv.map V.int)))) : NAt P w H d ev (nuOf ev nv) := by
  refine ⟨_, h, ?_, valV_pos rfl, fun x hx => (valV_neg (by intro z; cases z)).trans (valV_zip hl hx)⟩
  rw [List.map_fst_zip]
  · rfl
  · unfold keysOf
    simp [hl]
section
variable {P : Program} {w : World} {K : PySem.W.Frag} {mg : Str → Option Value} {base : Heap} {C : Addr}
def spLaw : Sp := fun vs H Q _ => ∃ (S : Addr) (xs : List Int), vs = [V.ref S] ∧ SqL K H S (xs.map V.int) ∧ ∀ H', Same H H' → Q (.bl true) H'
theorem sc_law : FnScope ["_law_script", "_law_index", "_law_generator_here", "_law_tree", "_law_every", "_law_rows", "_law_names_here", "_law_places", "_law_other_tree", "_law_other_rows"] ["_law_script"] (defScope (top 62)) := ⟨rfl, rfl, rfl, by decide +kernel, rfl, by decide +kernel, by decide +kernel⟩
theorem ok_law {f : Addr} {fd : FuncData} (F : Fun K "law" "law" (top 62) f fd) (T : Bt mg) (c_law_generator : Cl P w K mg base "_law_generator" 2 ["_law_script", "_law_index"] (spGen (K := K))) (c_law_random_chart : Cl P w K mg base "_law_random_chart" 3 ["_law_generator_here", "_law_most"] spRChart) (c_law_names : Cl P w K mg base "_law_names" 3 ["_law_generator_here", "_law_count"] spNames)
    (c_law_random : Cl P w K mg base "_law_random" 2 ["_law_generator_here", "_law_bound"] spRandom) (c_law_filled : Cl P w K mg base "_law_filled" 3 ["_law_generator_here", "_law_tree", "_law_names_here"] spFilled) (c_law_renumbering : Cl P w K mg base "_law_renumbering" 3 ["_law_generator_here", "_law_tree"] spRenum)
    (c_law_moved_chart : Cl P w K mg base "_law_moved_chart" 1 ["_law_tree", "_law_places"] spMChart) (c_law_moved_rows : Cl P w K mg base "_law_moved_rows" 1 ["_law_rows", "_law_places", "_law_names_here"] (spMRows P w)) (c_check_chart : Cl P w K mg base "check_chart" 3 ["value"] spChart) (c_check_arrangement : Cl P w K mg base "check_arrangement" 4 ["chart", "value"] spArr)
    (c_law_charts_right : Cl P w K mg base "_law_charts_right" 5 ["_law_generator_here", "_law_tree", "_law_other_tree", "_law_places"] spChartsR) (c_law_people_right : Cl P w K mg base "_law_people_right" 9 ["_law_tree", "_law_other_tree", "_law_rows", "_law_other_rows", "_law_places", "_law_names_here"] (spPeopleR P w))
    (c_law_lists_right : Cl P w K mg base "_law_lists_right" 7 ["_law_generator_here", "_law_tree", "_law_other_tree", "_law_rows", "_law_other_rows", "_law_places", "_law_names_here"] (spListsR P w)) (c_law_joining_right : Cl P w K mg base "_law_joining_right" 6 ["_law_tree", "_law_other_tree", "_law_rows", "_law_other_rows", "_law_places", "_law_names_here"] (spJoiningR P w)) :
    FnOk P w K mg base CX0 10 f fd ["_law_script"] (spLaw (K := K)) := by
  refine F.ok sc_law (fun vs H Q E h => ?_) (fun cdv A outer s H vs Q E hr h => ?_)
  · obtain ⟨_, _, rfl, _⟩ := h
    rfl
  · obtain ⟨S, sc, rfl, hS, k⟩ := h
    refine ⟨_, (pss_cons (ps_for PassesOwn.never rfl (pi_range1 (by rfl) T.range (pa_cons pe_int pa_nil)) (pg_name (i := 1) sc_law.nd rfl (by first | exact Or.inl rfl | exact Or.inr rfl)) (pss_cons (ps_set (i := 2) sc_law.nd rfl (by first | exact Or.inl rfl | exact Or.inr rfl) (pe_c c_law_generator (hr.mono (by decide)) (pa_cons (pv 0) (pa_cons (pv 1) pa_nil)))) (pss_cons (ps_set (i := 3) sc_law.nd rfl (by first | exact Or.inl rfl | exact Or.inr rfl) (pe_c c_law_random_chart (hr.mono (by decide)) (pa_cons (pv 2) (pa_cons pe_int pa_nil)))) (pss_cons (ps_set (i := 4) sc_law.nd rfl (by first | exact Or.inl rfl | exact Or.inr rfl) (pe_c c_law_names (hr.mono (by decide)) (pa_cons (pv 2) (pa_cons (pe_op op_add (pe_callB call_len_seq (by rfl) T.len (by decide +kernel) (pa_cons (pv 3) pa_nil)) pe_int) pa_nil)))) (pss_cons (ps_set (i := 5) sc_law.nd rfl (by first | exact Or.inl rfl | exact Or.inr rfl) (pe_c c_law_filled (hr.mono (by decide)) (pa_cons (pv 2) (pa_cons (pv 3) (pa_cons (pe_slice sl_list (pv 4) po_none (po_some (pe_c c_law_random (hr.mono (by decide)) (pa_cons (pv 2) (pa_cons (pe_op op_add (pe_callB call_len_seq (by rfl) T.len (by decide +kernel) (pa_cons (pv 3) pa_nil)) pe_int) pa_nil))))) pa_nil))))) (pss_cut (ps_if (pt_cmpR op_eq (pe_c c_law_random (hr.mono (by decide)) (pa_cons (pv 2) (pa_cons pe_int pa_nil))) pe_int (nomark _)) (pss_one (ps_set (i := 5) sc_law.nd rfl (by first | exact Or.inl rfl | exact Or.inr rfl) (pe_c c_law_filled (hr.mono (by decide)) (pa_cons (pv 2) (pa_cons (pv 3) (pa_cons (pe_slice sl_list (pe_slice sl_list (pv 4) (po_some pe_int) po_none) po_none (po_some (pe_c c_law_random (hr.mono (by decide)) (pa_cons (pv 2) (pa_cons (pe_op op_add (pe_callB call_len_seq (by rfl) T.len (by decide +kernel) (pa_cons (pv 3) pa_nil)) pe_int) pa_nil))))) pa_nil)))))) pss_nil) (pss_cons (ps_set (i := 6) sc_law.nd rfl (by first | exact Or.inl rfl | exact Or.inr rfl) (pe_dictzip rfl (by rfl) T.dict (by rfl) T.zip (pa_cons (pe_op op_cat (pe_lst (pa_cons pe_non pa_nil)) (pv 4)) (pa_cons (pe_op op_cat (pe_lst (pa_cons pe_non pa_nil)) (pe_c c_law_names (hr.mono (by decide)) (pa_cons (pv 2) (pa_cons (pe_callB call_len_seq (by rfl) T.len (by decide +kernel) (pa_cons (pv 4) pa_nil)) pa_nil)))) pa_nil)))) (pss_cons (ps_set (i := 7) sc_law.nd rfl (by first | exact Or.inl rfl | exact Or.inr rfl) (pe_c c_law_renumbering (hr.mono (by decide)) (pa_cons (pv 2) (pa_cons (pv 3) pa_nil)))) (pss_cons (ps_par (i := 8) (j := 9) rfl sc_law.nd rfl rfl (by decide) rfl rfl (pa_cons (pe_c c_law_moved_chart (hr.mono (by decide)) (pa_cons (pv 3) (pa_cons (pv 7) pa_nil))) (pa_cons (pe_c c_law_moved_rows (hr.mono (by decide)) (pa_cons (pv 5) (pa_cons (pv 7) (pa_cons (pv 6) pa_nil)))) pa_nil)) (by rfl)) (pss_cons (ps_if (PW.pt (pw_or (pt_cmp (pc_notN (pe_c c_check_chart (hr.mono (by decide)) (pa_cons (pv 8) pa_nil)))) (pw_or1 (pt_cmp (pc_notN (pe_c c_check_arrangement (hr.mono (by decide)) (pa_cons (pv 8) (pa_cons (pv 9) pa_nil)))))))) (pss_one (ps_ret pe_bl)) pss_nil) (pss_cons (ps_if (pt_not (pt_val (pe_c c_law_charts_right (hr.mono (by decide)) (pa_cons (pv 2) (pa_cons (pv 3) (pa_cons (pv 8) (pa_cons (pv 7) pa_nil))))))) (pss_one (ps_ret pe_bl)) pss_nil) (pss_cons (ps_if (pt_not (pt_val (pe_c c_law_people_right (hr.mono (by decide)) (pa_cons (pv 3) (pa_cons (pv 8) (pa_cons (pv 5) (pa_cons (pv 9) (pa_cons (pv 7) (pa_cons (pv 6) pa_nil))))))))) (pss_one (ps_ret pe_bl)) pss_nil) (pss_cons (ps_if (pt_not (pt_val (pe_c c_law_lists_right (hr.mono (by decide)) (pa_cons (pv 2) (pa_cons (pv 3) (pa_cons (pv 8) (pa_cons (pv 5) (pa_cons (pv 9) (pa_cons (pv 7) (pa_cons (pv 6) pa_nil)))))))))) (pss_one (ps_ret pe_bl)) pss_nil) (pss_one (ps_if (pt_not (pt_val (pe_c c_law_joining_right (hr.mono (by decide)) (pa_cons (pv 3) (pa_cons (pv 8) (pa_cons (pv 5) (pa_cons (pv 9) (pa_cons (pv 7) (pa_cons (pv 6) pa_nil))))))))) (pss_one (ps_ret pe_bl)) pss_nil))))))))))))))) (pss_one (ps_ret pe_bl))), ?_⟩
    refine ⟨3, rfl, by omega, by omega, for_range (n := 3) (fun i σ H' => (∃ x1 x2 x3 x4 x5 x6 x7 x8 x9, σ = [some (.ref S), x1, x2, x3, x4, x5, x6, x7, x8, x9]) ∧ Same H H') ⟨⟨_, _, _, _, _, _, _, _, _, rfl⟩, Same.refl _⟩ ?_ ?_⟩
    · rintro i σ H1 hi ⟨⟨x1, x2, x3, x4, x5, x6, x7, x8, x9, rfl⟩, s1⟩
      refine ⟨_, rfl, _, rfl, S, sc, i, by rw [Int.zero_add]; rfl, sq_same s1 hS, by omega, fun H2 G s2 G0 g2 => ?_⟩
      have done : ∀ H', But G H2 H' → Same H H' := fun H' b => s1.trans (same_but s2 G0 b)
      refine ⟨_, rfl, G, _, rfl, g2, by omega, fun H3 a n up b3 g3 hc3 hn => ?_⟩
      refine ⟨_, rfl, _, rfl, _, _, rfl, .inr (sqT hc3.1), _, _, rfl, rfl, G, _, n + 1, by rw [tab_len]; rfl, g3, by omega, by omega, fun H4 L ev b4 g4 L0 hL so e0 el => ?_⟩
      have b24 := b3.trans b4
      have g4' : GAt H4 G 10100 := g4.le (by omega)
      have hc4 := hc3.but g3 b4
      have nLG : L ≠ G := (g3.ne L0).symm
      refine ⟨_, rfl, _, rfl, _, rfl, _, rfl, _, rfl, _, _, rfl, .inr (sqT hc4.1), _, _, rfl, rfl, G, n + 1, _, by rw [tab_len]; rfl, g4', by omega, by omega, by omega, fun H5 d b5 g5 hd => ?_⟩
      have hL5 := b5 _ _ hL nLG
      have b25 := b24.trans b5
      have hc5 := hc4.but g4' b5
      refine ⟨(d : Int), rfl, L, _, rfl, sqL hL5, fun N hN => ?_⟩
      rw [cut_take, ← List.map_take]
      have s6 := same_new (o := .lst ((ev.take d).map V.int)) hN
      refine ⟨G, a, N, _, n, up, ev.take d, rfl, g5.same s6, hc5.same s6, (g5.ne hN).symm, upd_same, List.Pairwise.sublist (List.take_sublist _ _) so, fun x hx => e0 x (List.mem_of_mem_take hx), by rw [List.length_take]; omega, by omega, fun H7 v r b7 g7 A7 hr7 => ?_⟩
      have b27 := (b25.lay g5 hN).trans b7
      have hL7 := b7 _ _ (s6 _ _ hL5) nLG
      have g7' : GAt H7 G 10200 := g7.le (by rw [List.length_take]; omega)
      have hr7' : In (fun x => x ∈ ev) r := fun k x e => List.mem_of_mem_take (hr7 k x e)
      refine ⟨fun σ' H' => ∃ y v r, σ' = [some (.ref S), some (.int y), some (.ref G), some (.ref a), some (.ref L), some (.ref v), x6, x7, x8, x9] ∧ But G H2 H' ∧ GAt H' G 10300 ∧ AAt H' a v n up r ∧ In (fun x => x ∈ ev) r ∧ H' L = some (.lst (ev.map V.int)), ?_, ?_⟩
      · clear b25 hc4 hL hc3 g3 g4 g4' hL5 hc5 g5 s6 b7 g7 b5 b4 b3 hr7 b24 L0
        refine ⟨_, rfl, G, 2, _, rfl, g7', by omega, by omega, by omega, fun H8 e b8 g8 he => ?_⟩
        refine ⟨rfl, _, rfl, ?_⟩
        have b28 := b27.trans b8
        have hc8 := A7.c.but g7' b8
        have hL8 := b8 _ _ hL7 nLG
        by_cases z : nV e = V.int 0
        · refine ifT (decide_eq_true z) ⟨_, rfl, _, rfl, _, rfl, 1, rfl, L, _, rfl, sqL hL8, fun N1 hN1 => ?_⟩
          have s9 := same_new (o := .lst (cutV (ev.map V.int) (some 1) none)) hN1
          have g9 := g8.same s9
          have hc9 := hc8.same s9
          have hL9 := s9 _ _ hL8
          have b29 := b28.lay (o := .lst (cutV (ev.map V.int) (some 1) none)) g8 hN1
          have h9 : L2.upd H8 N1 (.lst (cutV (ev.map V.int) (some 1) none)) N1 = some (.lst (cutV (ev.map V.int) (some 1) none)) := upd_same
          have nN1 := (g8.ne hN1).symm
          generalize L2.upd H8 N1 (.lst (cutV (ev.map V.int) (some 1) none)) = H9 at g9 hc9 hL9 b29 h9
          refine ⟨_, rfl, _, rfl, _, _, rfl, .inr (sqT hc9.1), _, _, rfl, rfl, G, n + 1, _, by rw [tab_len]; rfl, g9, by omega, by omega, by omega, fun H10 d2 b10 g10 hd2 => ?_⟩
          have h10 := b10 _ _ h9 nN1
          have b210 := b29.trans b10
          refine ⟨(d2 : Int), rfl, N1, _, rfl, sqL h10, fun N2 hN2 => ?_⟩
          obtain ⟨ev1, hev1, hle, hsu, hmm⟩ : ∃ ev1 : List Int, cutV (cutV (ev.map V.int) (some 1) none) none (some (d2 : Int)) = ev1.map V.int ∧ ev1.length ≤ n ∧ ev1.Pairwise (· < ·) ∧ ∀ x ∈ ev1, x ∈ ev := by
            match ev, el, so with
            | x :: ev, el, so =>
              refine ⟨ev.take d2, ?_, ?_, List.Pairwise.sublist (List.take_sublist _ _) (List.pairwise_cons.mp so).2, fun x hx => List.mem_cons_of_mem _ (List.mem_of_mem_take hx)⟩
              · rw [List.map_cons, cut_tail, cut_take, List.map_take]
              · rw [List.length_take]
                have : ev.length = n := by simpa using el
                omega
          rw [hev1]
          have s11 := same_new (o := .lst (ev1.map V.int)) hN2
          refine ⟨G, a, N2, _, n, up, ev1, rfl, g10.same s11, (hc9.but g9 b10).same s11, (g10.ne hN2).symm, upd_same, hsu, fun x hx => e0 x (hmm x hx), hle, by omega, fun H12 v2 r2 b12 g12 A12 hr12 => ?_⟩
          exact ⟨_, v2, r2, rfl, (b210.lay g10 hN2).trans b12, g12.le (by omega), A12, fun k x e => hmm x (hr12 k x e), b12 _ _ (s11 _ _ (b10 _ _ hL9 nLG)) nLG⟩
        · exact ifF (decide_eq_false z) ⟨_, v, r, rfl, b28, g8.le (by omega), A7.but g7' b8, hr7', hL8⟩
      · rintro σ' H10 ⟨y, v, r, rfl, b10, g10, A10, hr10, hL10⟩
        have hnd : ev.Nodup := so.imp fun h e => by omega
        have hlen : (ev.map V.int).length = n + 1 := by rw [List.length_map, el]
        refine ⟨szle (by show 1 ≤ 100000; decide), fun p1 hp1 => ?_⟩
        have t1 := same_new (o := .lst [V.non]) hp1
        refine ⟨_, rfl, p1, L, _, _, rfl, rfl, upd_same, t1 _ _ hL10, szle (by rw [hlen]; show 1 + (n + 1) ≤ 100000; omega), fun p2 hp2 => ?_⟩
        have t2 := t1.trans (same_new (o := .lst ([V.non] ++ ev.map V.int)) hp2)
        have hk2 : L2.upd (L2.upd H10 p1 (.lst [V.non])) p2 (.lst ([V.non] ++ ev.map V.int)) p2 = some (.lst ([V.non] ++ ev.map V.int)) := upd_same
        generalize L2.upd (L2.upd H10 p1 (.lst [V.non])) p2 (.lst ([V.non] ++ ev.map V.int)) = H11 at t2 hk2
        clear t1 hp1 hp2
        refine ⟨szle (by show 1 ≤ 100000; decide), fun p3 hp3 => ?_⟩
        have t3 := t2.trans (same_new (o := .lst [V.non]) hp3)
        have hk3 := same_new (o := .lst [V.non]) hp3 _ _ hk2
        have h3 : L2.upd H11 p3 (.lst [V.non]) p3 = some (.lst [V.non]) := upd_same
        generalize L2.upd H11 p3 (.lst [V.non]) = H12 at t3 hk3 h3
        have g12 := g10.same t3
        have nG : ∀ {z : Addr} {xs : List V}, H12 z = some (.lst (V.non :: xs)) → z ≠ G := fun {z xs} hz => by
          obtain ⟨x1, x2, x3, hG, -⟩ := g12
          exact ne_of hz hG (by intro q; cases q)
        refine ⟨_, rfl, _, rfl, _, _, rfl, .inl (sqL (t3 _ _ hL10)), G, _, n + 1, by rw [hlen]; rfl, g12, by omega, by omega, fun H13 M nv b13 g13 M0 hM so2 nv0 nl => ?_⟩
        have h13 := b13 _ _ h3 (nG h3)
        have hk13 := b13 _ _ hk3 (nG hk3)
        have A13 := (A10.same t3).but g12 b13
        have b213 : But G H2 H13 := (b10.trans (But.of_same t3)).trans b13
        refine ⟨p3, M, _, _, rfl, rfl, h13, hM, szle (by rw [List.length_map, nl]; show 1 + (n + 1) ≤ 100000; omega), fun p4 hp4 => ?_⟩
        have t4 := same_new (o := .lst ([V.non] ++ nv.map V.int)) hp4
        have h4 : L2.upd H13 p4 (.lst ([V.non] ++ nv.map V.int)) p4 = some (.lst ([V.non] ++ nv.map V.int)) := upd_same
        have b214 := b213.lay (o := .lst ([V.non] ++ nv.map V.int)) g13 hp4
        generalize L2.upd H13 p4 (.lst ([V.non] ++ nv.map V.int)) = H14 at t4 h4 b214
        refine ⟨p2, p4, keysOf ev, V.non :: nv.map V.int, rfl, sqL (by unfold keysOf; rw [t4 _ _ hk13, List.map_cons, List.map_map]; rfl), sqL h4, by unfold keysOf; simp [el, nl], keysOf_nodup hnd, fun D0 hD0 => ?_⟩
        have t5 := same_new (o := nD P w D0 ((keysOf ev).zip (V.non :: nv.map V.int))) hD0
        have N15 : NAt P w (L2.upd H14 D0 (nD P w D0 ((keysOf ev).zip (V.non :: nv.map V.int)))) D0 ev (nuOf ev nv) := nat_zip (by omega) upd_same
        have g14 := g13.same t4
        have b215 := b214.lay (o := nD P w D0 ((keysOf ev).zip (V.non :: nv.map V.int))) g14 hD0
        have A15 := (A13.same t4).same t5
        have g15 := g14.same t5
        have hnm := nu_nm (by omega) so so2 nv0
        clear h13 hk13 h3 hk3 hk2 nG
        refine ⟨_, rfl, _, rfl, G, a, _, n, up, rfl, g15, A15.c, by omega, fun H16 p π ρ b16 g16 p0 hp pm => ?_⟩
        have R := pm.rn A15.c.2.1
        have A16 := A15.but g15 b16
        have N16 := N15.but g15 b16
        have npG : p ≠ G := (g15.ne p0).symm
        have b216 := b215.trans b16
        have g16' : GAt H16 G 10400 := g16.le (by omega)
        generalize nup n up π ρ = up' at R
        refine ⟨_, rfl, _, rfl, a, p, n, up, up', π, ρ, rfl, A16.c, hp, R, fun H17 a' s17 hc' => ?_⟩
        refine ⟨_, rfl, _, rfl, _, rfl, v, p, D0, n, up, up', π, ρ, r, ev, _, rfl, s17 _ _ A16.v, by omega, s17 _ _ hp, R, N16.same s17, hr10, fun H18 v' s18 v0 hv' => ?_⟩
        have t18 := s17.trans s18
        have W18 : LW P w H18 a a' v v' p D0 n up up' π ρ r ev (nuOf ev nv) := ⟨A16.same t18, ⟨hc'.same s18, hv', A16.ar.mv R hnm hr10⟩, t18 _ _ hp, R, N16.same t18, hnm, hr10, hn⟩
        have b218 := b216.trans (But.of_same t18)
        have g18 := g16'.same t18
        refine ⟨_, _, rfl, ?_⟩
        refine ⟨_, rfl, a', n, up', rfl, W18.A'.c, fun H19 s19 => ?_⟩
        have W19 := W18.same s19
        refine ⟨_, rfl, iteF ⟨_, rfl, _, rfl, a', v', n, up', _, rfl, W19.A', fun H20 s20 => ⟨_, rfl, ?_⟩⟩⟩
        have W20 := W19.same s20
        have b220 := (b218.trans (But.of_same s19)).trans (But.of_same s20)
        have g20 := (g18.same s19).same s20
        refine iteF ?_
        refine ⟨_, rfl, _, rfl, _, rfl, _, rfl, G, a, a', p, _, n, up, up', π, ρ, rfl, g20, W20.A.c, W20.A'.c, W20.p, npG, R, hn, by omega, fun H21 b21 g21 => ?_⟩
        have W21 := W20.but g20 npG b21
        refine ⟨_, rfl, iteF ?_⟩
        refine ⟨_, rfl, _, rfl, _, rfl, _, rfl, _, rfl, _, rfl, a, a', v, v', p, D0, n, up, up', π, ρ, r, ev, _, rfl, W21, fun H22 s22 => ?_⟩
        refine ⟨_, rfl, iteF ?_⟩
        have W22 := W21.same s22
        have g22 := g21.same s22
        refine ⟨_, rfl, _, rfl, _, rfl, _, rfl, _, rfl, _, rfl, _, rfl, G, a, a', v, v', p, D0, _, n, up, up', π, ρ, r, ev, _, rfl, W22, g22, npG, by omega, fun H23 b23 g23 => ?_⟩
        refine ⟨_, rfl, iteF ?_⟩
        have W23 := W22.but g22 npG b23
        refine ⟨_, rfl, _, rfl, _, rfl, _, rfl, _, rfl, _, rfl, a, a', v, v', p, D0, n, up, up', π, ρ, r, ev, _, rfl, W23, hnd, by omega, by omega, e0, fun H24 s24 => ?_⟩
        refine ⟨_, rfl, iteF ⟨⟨_, _, _, _, _, _, _, _, _, rfl⟩, ?_⟩⟩
        exact done _ (((b220.trans b21).trans (But.of_same s22)).trans (b23.trans (But.of_same s24)))
    · rintro σ H1 ⟨_, s1⟩
      exact k _ s1
end
end Mu


/-! All promises joined. -/
namespace Mu
open PySem L2 PyProof.Rows PySem.SeqAt
section
variable {K : PySem.W.Frag} {mg : Str → Option Value} {h : Heap}
theorem fun_of {x q : Str} {st : Stmt} {f : Addr} {oc : Value} {od an : Option Addr} {osl : Array (Option Value)} {kV doc pm cdv ct : Value} (l : K.lookup f = some ⟨oc, od, .func (PySem.W.fnOf x q (defArgs st) (defBody st) (defScope st) .none kV doc pm an cdv ct), osl⟩)
    (c : PySem.W.codeIn K cdv q = true) (k : PySem.W.keepIn K (.ref f) = true) : ∃ fd, Fun K x q st f fd := ⟨_, fun_mk l c k⟩
theorem df_of {x : Str} {st : Stmt} {f : Addr} (X : K.In h) (G : h.Ns mainGlobals mg) (a : PySem.W.nsIn K mainGlobals x = some (some (.ref f))) (F : ∃ fd, Fun K x x st f fd) : Df K mg x st := by
  obtain ⟨fd, F⟩ := F
  exact ⟨f, fd, F, PySem.W.mg_of X G a⟩
theorem dm_of {C : Addr} {m q : Str} {st : Stmt} {f : Addr} (tc : TC K mg C) (a : PySem.W.findIn K (.ref C) m = some (some (.ref f))) (i : PySem.W.isFn K (.ref f) = true) (k : PySem.W.keepIn K (.ref f) = true) (F : ∃ fd, Fun K m q st f fd) : DfM K C m q st := by
  obtain ⟨fd, F⟩ := F
  exact ⟨f, fd, F, tc.cl, ⟨a, i, k⟩⟩
theorem di_of {C : Addr} {q : Str} {st : Stmt} {f : Addr} (tc : TC K mg C) (mk : PySem.W.makesIn K C = true) (a : PySem.W.findIn K (.ref C) "__init__" = some (some (.ref f))) (i : PySem.W.isFn K (.ref f) = true) (k : PySem.W.keepIn K (.ref C) = true) (F : ∃ fd, Fun K "__init__" q st f fd) : DfI K mg C q st := by
  obtain ⟨fd, F⟩ := F
  exact ⟨f, fd, F, ⟨mk, a, i, k⟩, tc.mgC⟩
theorem tc_of {C : Addr} (X : K.In h) (G : h.Ns mainGlobals mg) (a : PySem.W.nsIn K mainGlobals "Tree" = some (some (.ref C))) (pg : PySem.W.plainGet K C Str.empty = true) (hd : PySem.W.hasDictIn K C = true) (po : PySem.W.plainOver K C = true) (sa : PySem.W.findIn K (.ref C) "__setattr__" = some (some (.builtin "object.__setattr__")))
    (nA : PySem.W.findIn K (.ref C) "above" = some none) (nB : PySem.W.findIn K (.ref C) "below" = some none) : TC K mg C := ⟨⟨pg, hd, po, sa⟩, nA, nB, PySem.W.mg_of X G a⟩
end
theorem all_mk {l : PySem.W.OpenLaw} {w : World} {K : PySem.W.Frag} {h : Heap} {mg : Str → Option Value} {fa C : Addr} (X : K.In h) (G : h.Ns mainGlobals mg) (hfa : mg "law" = some (.ref fa)) (tc : TC K mg C) (T : Bt mg)
    (d9 : Df K mg "is_whole" (top 9))
    (d10 : Df K mg "chart_fault" (top 10))
    (d11 : Df K mg "check_chart" (top 11))
    (d12 : Df K mg "require_chart" (top 12))
    (d13 : Df K mg "require_post" (top 13))
    (m_init : TC K mg C → DfI K mg C "Tree.__init__" (inClass (top 14) 0))
    (m_path : TC K mg C → DfM K C "path" "Tree.path" (inClass (top 14) 1))
    (m_is_below : TC K mg C → DfM K C "is_below" "Tree.is_below" (inClass (top 14) 2))
    (m_common : TC K mg C → DfM K C "common" "Tree.common" (inClass (top 14) 3))
    (d15 : Df K mg "path_to" (top 15))
    (d16 : Df K mg "posts_below" (top 16))
    (d17 : Df K mg "common_post" (top 17))
    (d19 : Df K mg "is_person" (top 19))
    (d20 : Df K mg "first_fault" (top 20))
    (d21 : Df K mg "repeats" (top 21))
    (d22 : Df K mg "is_out_of_order" (top 22))
    (d23 : Df K mg "arrangement_fault" (top 23))
    (d24 : Df K mg "check_arrangement" (top 24))
    (d25 : Df K mg "require_arrangement" (top 25))
    (d26 : Df K mg "posts_of_people" (top 26))
    (d27 : Df K mg "require_holder" (top 27))
    (d28 : Df K mg "require_people" (top 28))
    (d29 : Df K mg "is_open" (top 29))
    (d30 : Df K mg "move_up" (top 30))
    (d31 : Df K mg "leave_one" (top 31))
    (d32 : Df K mg "join_one" (top 32))
    (d33 : Df K mg "reduced_arrangement" (top 33))
    (d34 : Df K mg "post_of" (top 34))
    (d35 : Df K mg "open_posts" (top 35))
    (d38 : Df K mg "join" (top 38))
    (d39 : Df K mg "reduced" (top 39))
    (d36 : Df K mg "leave" (top 36))
    (d41 : Df K mg "require_standing" (top 41))
    (d42 : Df K mg "career" (top 42))
    (d44 : Df K mg "_law_cell" (top 44))
    (d45 : Df K mg "_law_hash" (top 45))
    (d46 : Df K mg "_law_generator" (top 46))
    (d47 : Df K mg "_law_random" (top 47))
    (d48 : Df K mg "_law_shuffled" (top 48))
    (d49 : Df K mg "_law_random_chart" (top 49))
    (d50 : Df K mg "_law_names" (top 50))
    (d51 : Df K mg "_law_open" (top 51))
    (d52 : Df K mg "_law_filled" (top 52))
    (d53 : Df K mg "_law_held" (top 53))
    (d54 : Df K mg "_law_some" (top 54))
    (d55 : Df K mg "_law_renumbering" (top 55))
    (d56 : Df K mg "_law_moved_chart" (top 56))
    (d57 : Df K mg "_law_moved_rows" (top 57))
    (d58 : Df K mg "_law_charts_right" (top 58))
    (d61 : Df K mg "_law_joining_right" (top 61))
    (d60 : Df K mg "_law_lists_right" (top 60))
    (d37 : Df K mg "chain" (top 37))
    (d59 : Df K mg "_law_people_right" (top 59))
    (d62 : Df K mg "law" (top 62)) :
    ∃ fd : FuncData, (∀ (s : Shared) (v : Value), BindsTo s fd ⟨[v], []⟩ [("_law_script", v)]) ∧ ∀ base : Heap, K.In base → base.Ns mainGlobals mg → FnOk l.prog w K mg base CX0 10 fa fd ["_law_script"] (spLaw (K := K)) := by
  obtain ⟨f, fd, F, g⟩ := d62.ex
  have e := hfa.symm.trans g
  cases e
  obtain ⟨oc, od, kV, doc, pm, an, cdv, ct, osl, rfl, lk, hcd⟩ := id F.ex
  refine ⟨PySem.W.fnOf "law" "law" (defArgs (top 62)) (defBody (top 62)) (defScope (top 62)) .none kV doc pm an cdv ct, fun s v => .of_eq rfl, fun base _ _ => ?_⟩
  have c_is_whole := cl_is_whole (P := l.prog) (w := w) (base := base) d9 T
  have c_chart_fault := cl_chart_fault (P := l.prog) (w := w) (base := base) d10 T c_is_whole
  have c_check_chart := cl_check_chart (P := l.prog) (w := w) (base := base) d11 c_chart_fault
  have c_require_chart := cl_require_chart (P := l.prog) (w := w) (base := base) d12 c_chart_fault
  have c_require_post := cl_require_post (P := l.prog) (w := w) (base := base) d13 T c_is_whole
  have c_Tree := cl_Tree (P := l.prog) (w := w) (base := base) (m_init tc) tc T
  have c_path := cl_path (P := l.prog) (w := w) (base := base) (m_path tc) tc
  have c_is_below := cl_is_below (P := l.prog) (w := w) (base := base) (m_is_below tc) tc
  have c_common := cl_common (P := l.prog) (w := w) (base := base) (m_common tc) tc T
  have c_path_to := cl_path_to (P := l.prog) (w := w) (base := base) d15 c_require_chart c_require_post c_Tree c_path
  have c_posts_below := cl_posts_below (P := l.prog) (w := w) (base := base) d16 T c_require_chart c_require_post c_Tree c_is_below
  have c_common_post := cl_common_post (P := l.prog) (w := w) (base := base) d17 c_require_chart c_require_post c_Tree c_common
  have c_is_person := cl_is_person (P := l.prog) (w := w) (base := base) d19 c_is_whole
  have c_first_fault := cl_first_fault (P := l.prog) (w := w) (base := base) d20 T
  have c_repeats := cl_repeats (P := l.prog) (w := w) (base := base) d21 T
  have c_is_out_of_order := cl_is_out_of_order (P := l.prog) (w := w) (base := base) d22
  have c_arrangement_fault := cl_arrangement_fault (P := l.prog) (w := w) (base := base) d23 T c_is_person c_first_fault c_repeats c_is_out_of_order
  have c_check_arrangement := cl_check_arrangement (P := l.prog) (w := w) (base := base) d24 c_require_chart c_arrangement_fault
  have c_require_arrangement := cl_require_arrangement (P := l.prog) (w := w) (base := base) d25 c_arrangement_fault
  have c_posts_of_people := cl_posts_of_people (P := l.prog) (w := w) (base := base) d26 T
  have c_require_holder := cl_require_holder (P := l.prog) (w := w) (base := base) d27 c_is_person
  have c_require_people := cl_require_people (P := l.prog) (w := w) (base := base) d28 T c_is_person
  have c_is_open := cl_is_open (P := l.prog) (w := w) (base := base) d29 tc
  have c_move_up := cl_move_up (P := l.prog) (w := w) (base := base) d30 tc T
  have c_leave_one := cl_leave_one (P := l.prog) (w := w) (base := base) d31 c_move_up
  have c_join_one := cl_join_one (P := l.prog) (w := w) (base := base) d32 T c_path
  have c_reduced_arrangement := cl_reduced_arrangement (P := l.prog) (w := w) (base := base) d33 T c_posts_of_people c_path
  have c_post_of := cl_post_of (P := l.prog) (w := w) (base := base) d34 c_require_chart c_require_arrangement c_is_person c_posts_of_people
  have c_open_posts := cl_open_posts (P := l.prog) (w := w) (base := base) d35 T c_require_chart c_require_arrangement c_Tree c_is_open
  have c_join := cl_join (P := l.prog) (w := w) (base := base) d38 T c_require_chart c_require_arrangement c_is_person c_is_whole c_Tree c_is_open c_join_one
  have c_reduced := cl_reduced (P := l.prog) (w := w) (base := base) d39 c_require_chart c_require_arrangement c_require_people c_Tree c_reduced_arrangement
  have c_leave := cl_leave (P := l.prog) (w := w) (base := base) d36 T c_require_chart c_require_arrangement c_require_holder c_Tree c_leave_one
  have c_require_standing := cl_require_standing (P := l.prog) (w := w) (base := base) d41 c_require_chart c_require_arrangement c_require_people c_require_holder
  have c_career := cl_career (P := l.prog) (w := w) (base := base) d42 T c_require_standing c_Tree c_leave_one
  have c_law_cell := cl_law_cell (P := l.prog) (w := w) (base := base) d44 T
  have c_law_hash := cl_law_hash (P := l.prog) (w := w) (base := base) d45 T
  have c_law_generator := cl_law_generator (P := l.prog) (w := w) (base := base) d46 T c_law_cell
  have c_law_random := cl_law_random (P := l.prog) (w := w) (base := base) d47 T c_law_hash
  have c_law_shuffled := cl_law_shuffled (P := l.prog) (w := w) (base := base) d48 T c_law_random
  have c_law_random_chart := cl_law_random_chart (P := l.prog) (w := w) (base := base) d49 T c_law_random
  have c_law_names := cl_law_names (P := l.prog) (w := w) (base := base) d50 T c_law_random
  have c_law_open := cl_law_open (P := l.prog) (w := w) (base := base) d51 T
  have c_law_filled := cl_law_filled (P := l.prog) (w := w) (base := base) d52 T c_law_random c_law_open
  have c_law_held := cl_law_held (P := l.prog) (w := w) (base := base) d53 T
  have c_law_some := cl_law_some (P := l.prog) (w := w) (base := base) d54 T c_law_random c_law_shuffled
  have c_law_renumbering := cl_law_renumbering (P := l.prog) (w := w) (base := base) d55 T c_law_random
  have c_law_moved_chart := cl_law_moved_chart (P := l.prog) (w := w) (base := base) d56 T
  have c_law_moved_rows := cl_law_moved_rows (P := l.prog) (w := w) (base := base) d57 T
  have c_law_charts_right := cl_law_charts_right (P := l.prog) (w := w) (base := base) d58 T c_law_random c_path_to c_posts_below c_common_post
  have c_law_joining_right := cl_law_joining_right (P := l.prog) (w := w) (base := base) d61 T c_open_posts c_join c_law_moved_rows
  have c_law_lists_right := cl_law_lists_right (P := l.prog) (w := w) (base := base) d60 T c_law_held c_law_some c_reduced c_career c_law_moved_rows
  have c_chainC := cl_chainC (P := l.prog) (w := w) (base := base) d37 T tc c_require_chart c_require_arrangement c_require_holder c_Tree c_move_up
  have c_chainK := cl_chainK (P := l.prog) (w := w) (base := base) d37 T tc c_require_chart c_require_arrangement c_require_holder c_Tree c_move_up
  have c_law_people_right := cl_law_people_right (P := l.prog) (w := w) (base := base) d59 T c_law_held c_leave c_chainC c_chainK c_post_of c_law_moved_rows
  exact ok_law F T c_law_generator c_law_random_chart c_law_names c_law_random c_law_filled c_law_renumbering c_law_moved_chart c_law_moved_rows c_check_chart c_check_arrangement c_law_charts_right c_law_people_right c_law_lists_right c_law_joining_right
theorem walk {l : PySem.W.OpenLaw} {q : Program} {loose : List Str} {XP : (Str → Option Value) → Heap → Prop} {YP : World → Heap → Prop} {d : DefRec} {K : Params → PySem.W.Frag} (hn : l.most = some 63) (hdf : d.params.defaults = [])
    (hY : ∀ (w : World) (h : Heap), YP w h → (K w.params).In h)
    (F : ∀ (w : World) (mg : Str → Option Value) (fa : Addr) (h : Heap), (K w.params).In h → h.Ns mainGlobals mg → mg d.name = some (.ref fa) →
      ∃ fd : FuncData, (∀ (s : Shared) (u : Value), BindsTo s fd ⟨[u], []⟩ [("_law_script", u)]) ∧ ∀ base : Heap, (K w.params).In base → base.Ns mainGlobals mg → FnOk l.prog w (K w.params) mg base CX0 10 fa fd ["_law_script"] (spLaw (K := K w.params))) :
    PySem.W.WalkO q loose XP YP l.row.toRowW d [] (fun f vs => PySem.call f vs) :=
  L2.walk_of (n := 63) (k := 10) (x := "_law_script") (CX := fun _ => CX0) (sp := fun w => spLaw (K := K w.params)) hn (by decide) hdf ⟨rfl, by decide, by decide⟩ hY F (fun _ _ a ns hl _ hS => ⟨a, ns, rfl, hS, fun _ _ => rfl⟩) fun _ _ _ _ _ z => z
end Mu

open PySem PySem.W PyProof.Rows
set_option maxRecDepth 100000 in
set_option maxHeartbeats 0 in
theorem PySem.Challenge.cw_movingup_k82_whole_other_numbers_holds : PySem.Challenge.rw_movingup_k82_whole_other_numbers.Holds := by
  w_on; o_law; k_head; (case hw => w_witness2)
  k_fill
  refine Mu.walk (l := PySem.Challenge.rw_movingup_k82_whole_other_numbers) rfl rfl (fun w h Y => PySem.W.kIn_of Y) ?F
  case F =>
    intro w mg fa h KX G hmg
    refine' Mu.all_mk KX G hmg ?tc ?T ?d9 ?d10 ?d11 ?d12 ?d13 ?m_init ?m_path ?m_is_below ?m_common ?d15 ?d16 ?d17 ?d19 ?d20 ?d21 ?d22 ?d23 ?d24 ?d25 ?d26 ?d27 ?d28 ?d29 ?d30 ?d31 ?d32 ?d33 ?d34 ?d35 ?d38 ?d39 ?d36 ?d41 ?d42 ?d44 ?d45 ?d46 ?d47 ?d48 ?d49 ?d50 ?d51 ?d52 ?d53 ?d54 ?d55 ?d56 ?d57 ?d58 ?d61 ?d60 ?d37 ?d59 ?d62
    (case tc => refine' Mu.tc_of KX G ?tca ?tpg ?thd ?tpo ?tsa ?tnA ?tnB; (case tca => k_is); (case tpg => k_is); (case thd => k_is); (case tpo => k_is); (case tsa => k_is); (case tnA => k_is); (case tnB => k_is))
    (case T => refine' ⟨PySem.W.mg_none_of KX G ?z1, PySem.W.mg_none_of KX G ?z2, PySem.W.mg_none_of KX G ?z3, PySem.W.mg_none_of KX G ?z4, PySem.W.mg_none_of KX G ?z5, PySem.W.mg_none_of KX G ?z6, PySem.W.mg_none_of KX G ?z7, PySem.W.mg_none_of KX G ?z8, PySem.W.mg_none_of KX G ?z9, PySem.W.mg_none_of KX G ?z10, PySem.W.mg_none_of KX G ?z11, PySem.W.mg_none_of KX G ?z12, PySem.W.mg_none_of KX G ?z13⟩; (case z1 => k_is); (case z2 => k_is); (case z3 => k_is); (case z4 => k_is); (case z5 => k_is); (case z6 => k_is); (case z7 => k_is); (case z8 => k_is); (case z9 => k_is); (case z10 => k_is); (case z11 => k_is); (case z12 => k_is); (case z13 => k_is))
    (case d9 => refine' Mu.df_of KX G ?aq0 (Mu.fun_of ?lq0 ?cq0 ?kq0); (case aq0 => k_is); (case lq0 => k_is); (case cq0 => k_is); (case kq0 => k_is))
    (case d10 => refine' Mu.df_of KX G ?aq1 (Mu.fun_of ?lq1 ?cq1 ?kq1); (case aq1 => k_is); (case lq1 => k_is); (case cq1 => k_is); (case kq1 => k_is))
    (case d11 => refine' Mu.df_of KX G ?aq2 (Mu.fun_of ?lq2 ?cq2 ?kq2); (case aq2 => k_is); (case lq2 => k_is); (case cq2 => k_is); (case kq2 => k_is))
    (case d12 => refine' Mu.df_of KX G ?aq3 (Mu.fun_of ?lq3 ?cq3 ?kq3); (case aq3 => k_is); (case lq3 => k_is); (case cq3 => k_is); (case kq3 => k_is))
    (case d13 => refine' Mu.df_of KX G ?aq4 (Mu.fun_of ?lq4 ?cq4 ?kq4); (case aq4 => k_is); (case lq4 => k_is); (case cq4 => k_is); (case kq4 => k_is))
    (case m_init => intro tcx; refine' Mu.di_of tcx ?eq5 ?aq5 ?iq5 ?uq5 (Mu.fun_of ?lq5 ?cq5 ?kq5); (case eq5 => k_is); (case aq5 => k_is); (case iq5 => k_is); (case uq5 => k_is); (case lq5 => k_is); (case cq5 => k_is); (case kq5 => k_is))
    (case m_path => intro tcx; refine' Mu.dm_of tcx ?aq6 ?iq6 ?uq6 (Mu.fun_of ?lq6 ?cq6 ?kq6); (case aq6 => k_is); (case iq6 => k_is); (case uq6 => k_is); (case lq6 => k_is); (case cq6 => k_is); (case kq6 => k_is))
    (case m_is_below => intro tcx; refine' Mu.dm_of tcx ?aq7 ?iq7 ?uq7 (Mu.fun_of ?lq7 ?cq7 ?kq7); (case aq7 => k_is); (case iq7 => k_is); (case uq7 => k_is); (case lq7 => k_is); (case cq7 => k_is); (case kq7 => k_is))
    (case m_common => intro tcx; refine' Mu.dm_of tcx ?aq8 ?iq8 ?uq8 (Mu.fun_of ?lq8 ?cq8 ?kq8); (case aq8 => k_is); (case iq8 => k_is); (case uq8 => k_is); (case lq8 => k_is); (case cq8 => k_is); (case kq8 => k_is))
    (case d15 => refine' Mu.df_of KX G ?aq9 (Mu.fun_of ?lq9 ?cq9 ?kq9); (case aq9 => k_is); (case lq9 => k_is); (case cq9 => k_is); (case kq9 => k_is))
    (case d16 => refine' Mu.df_of KX G ?aq10 (Mu.fun_of ?lq10 ?cq10 ?kq10); (case aq10 => k_is); (case lq10 => k_is); (case cq10 => k_is); (case kq10 => k_is))
    (case d17 => refine' Mu.df_of KX G ?aq11 (Mu.fun_of ?lq11 ?cq11 ?kq11); (case aq11 => k_is); (case lq11 => k_is); (case cq11 => k_is); (case kq11 => k_is))
    (case d19 => refine' Mu.df_of KX G ?aq12 (Mu.fun_of ?lq12 ?cq12 ?kq12); (case aq12 => k_is); (case lq12 => k_is); (case cq12 => k_is); (case kq12 => k_is))
    (case d20 => refine' Mu.df_of KX G ?aq13 (Mu.fun_of ?lq13 ?cq13 ?kq13); (case aq13 => k_is); (case lq13 => k_is); (case cq13 => k_is); (case kq13 => k_is))
    (case d21 => refine' Mu.df_of KX G ?aq14 (Mu.fun_of ?lq14 ?cq14 ?kq14); (case aq14 => k_is); (case lq14 => k_is); (case cq14 => k_is); (case kq14 => k_is))
    (case d22 => refine' Mu.df_of KX G ?aq15 (Mu.fun_of ?lq15 ?cq15 ?kq15); (case aq15 => k_is); (case lq15 => k_is); (case cq15 => k_is); (case kq15 => k_is))
    (case d23 => refine' Mu.df_of KX G ?aq16 (Mu.fun_of ?lq16 ?cq16 ?kq16); (case aq16 => k_is); (case lq16 => k_is); (case cq16 => k_is); (case kq16 => k_is))
    (case d24 => refine' Mu.df_of KX G ?aq17 (Mu.fun_of ?lq17 ?cq17 ?kq17); (case aq17 => k_is); (case lq17 => k_is); (case cq17 => k_is); (case kq17 => k_is))
    (case d25 => refine' Mu.df_of KX G ?aq18 (Mu.fun_of ?lq18 ?cq18 ?kq18); (case aq18 => k_is); (case lq18 => k_is); (case cq18 => k_is); (case kq18 => k_is))
    (case d26 => refine' Mu.df_of KX G ?aq19 (Mu.fun_of ?lq19 ?cq19 ?kq19); (case aq19 => k_is); (case lq19 => k_is); (case cq19 => k_is); (case kq19 => k_is))
    (case d27 => refine' Mu.df_of KX G ?aq20 (Mu.fun_of ?lq20 ?cq20 ?kq20); (case aq20 => k_is); (case lq20 => k_is); (case cq20 => k_is); (case kq20 => k_is))
    (case d28 => refine' Mu.df_of KX G ?aq21 (Mu.fun_of ?lq21 ?cq21 ?kq21); (case aq21 => k_is); (case lq21 => k_is); (case cq21 => k_is); (case kq21 => k_is))
    (case d29 => refine' Mu.df_of KX G ?aq22 (Mu.fun_of ?lq22 ?cq22 ?kq22); (case aq22 => k_is); (case lq22 => k_is); (case cq22 => k_is); (case kq22 => k_is))
    (case d30 => refine' Mu.df_of KX G ?aq23 (Mu.fun_of ?lq23 ?cq23 ?kq23); (case aq23 => k_is); (case lq23 => k_is); (case cq23 => k_is); (case kq23 => k_is))
    (case d31 => refine' Mu.df_of KX G ?aq24 (Mu.fun_of ?lq24 ?cq24 ?kq24); (case aq24 => k_is); (case lq24 => k_is); (case cq24 => k_is); (case kq24 => k_is))
    (case d32 => refine' Mu.df_of KX G ?aq25 (Mu.fun_of ?lq25 ?cq25 ?kq25); (case aq25 => k_is); (case lq25 => k_is); (case cq25 => k_is); (case kq25 => k_is))
    (case d33 => refine' Mu.df_of KX G ?aq26 (Mu.fun_of ?lq26 ?cq26 ?kq26); (case aq26 => k_is); (case lq26 => k_is); (case cq26 => k_is); (case kq26 => k_is))
    (case d34 => refine' Mu.df_of KX G ?aq27 (Mu.fun_of ?lq27 ?cq27 ?kq27); (case aq27 => k_is); (case lq27 => k_is); (case cq27 => k_is); (case kq27 => k_is))
    (case d35 => refine' Mu.df_of KX G ?aq28 (Mu.fun_of ?lq28 ?cq28 ?kq28); (case aq28 => k_is); (case lq28 => k_is); (case cq28 => k_is); (case kq28 => k_is))
    (case d38 => refine' Mu.df_of KX G ?aq29 (Mu.fun_of ?lq29 ?cq29 ?kq29); (case aq29 => k_is); (case lq29 => k_is); (case cq29 => k_is); (case kq29 => k_is))
    (case d39 => refine' Mu.df_of KX G ?aq30 (Mu.fun_of ?lq30 ?cq30 ?kq30); (case aq30 => k_is); (case lq30 => k_is); (case cq30 => k_is); (case kq30 => k_is))
    (case d36 => refine' Mu.df_of KX G ?aq31 (Mu.fun_of ?lq31 ?cq31 ?kq31); (case aq31 => k_is); (case lq31 => k_is); (case cq31 => k_is); (case kq31 => k_is))
    (case d41 => refine' Mu.df_of KX G ?aq32 (Mu.fun_of ?lq32 ?cq32 ?kq32); (case aq32 => k_is); (case lq32 => k_is); (case cq32 => k_is); (case kq32 => k_is))
    (case d42 => refine' Mu.df_of KX G ?aq33 (Mu.fun_of ?lq33 ?cq33 ?kq33); (case aq33 => k_is); (case lq33 => k_is); (case cq33 => k_is); (case kq33 => k_is))
    (case d44 => refine' Mu.df_of KX G ?aq34 (Mu.fun_of ?lq34 ?cq34 ?kq34); (case aq34 => k_is); (case lq34 => k_is); (case cq34 => k_is); (case kq34 => k_is))
    (case d45 => refine' Mu.df_of KX G ?aq35 (Mu.fun_of ?lq35 ?cq35 ?kq35); (case aq35 => k_is); (case lq35 => k_is); (case cq35 => k_is); (case kq35 => k_is))
    (case d46 => refine' Mu.df_of KX G ?aq36 (Mu.fun_of ?lq36 ?cq36 ?kq36); (case aq36 => k_is); (case lq36 => k_is); (case cq36 => k_is); (case kq36 => k_is))
    (case d47 => refine' Mu.df_of KX G ?aq37 (Mu.fun_of ?lq37 ?cq37 ?kq37); (case aq37 => k_is); (case lq37 => k_is); (case cq37 => k_is); (case kq37 => k_is))
    (case d48 => refine' Mu.df_of KX G ?aq38 (Mu.fun_of ?lq38 ?cq38 ?kq38); (case aq38 => k_is); (case lq38 => k_is); (case cq38 => k_is); (case kq38 => k_is))
    (case d49 => refine' Mu.df_of KX G ?aq39 (Mu.fun_of ?lq39 ?cq39 ?kq39); (case aq39 => k_is); (case lq39 => k_is); (case cq39 => k_is); (case kq39 => k_is))
    (case d50 => refine' Mu.df_of KX G ?aq40 (Mu.fun_of ?lq40 ?cq40 ?kq40); (case aq40 => k_is); (case lq40 => k_is); (case cq40 => k_is); (case kq40 => k_is))
    (case d51 => refine' Mu.df_of KX G ?aq41 (Mu.fun_of ?lq41 ?cq41 ?kq41); (case aq41 => k_is); (case lq41 => k_is); (case cq41 => k_is); (case kq41 => k_is))
    (case d52 => refine' Mu.df_of KX G ?aq42 (Mu.fun_of ?lq42 ?cq42 ?kq42); (case aq42 => k_is); (case lq42 => k_is); (case cq42 => k_is); (case kq42 => k_is))
    (case d53 => refine' Mu.df_of KX G ?aq43 (Mu.fun_of ?lq43 ?cq43 ?kq43); (case aq43 => k_is); (case lq43 => k_is); (case cq43 => k_is); (case kq43 => k_is))
    (case d54 => refine' Mu.df_of KX G ?aq44 (Mu.fun_of ?lq44 ?cq44 ?kq44); (case aq44 => k_is); (case lq44 => k_is); (case cq44 => k_is); (case kq44 => k_is))
    (case d55 => refine' Mu.df_of KX G ?aq45 (Mu.fun_of ?lq45 ?cq45 ?kq45); (case aq45 => k_is); (case lq45 => k_is); (case cq45 => k_is); (case kq45 => k_is))
    (case d56 => refine' Mu.df_of KX G ?aq46 (Mu.fun_of ?lq46 ?cq46 ?kq46); (case aq46 => k_is); (case lq46 => k_is); (case cq46 => k_is); (case kq46 => k_is))
    (case d57 => refine' Mu.df_of KX G ?aq47 (Mu.fun_of ?lq47 ?cq47 ?kq47); (case aq47 => k_is); (case lq47 => k_is); (case cq47 => k_is); (case kq47 => k_is))
    (case d58 => refine' Mu.df_of KX G ?aq48 (Mu.fun_of ?lq48 ?cq48 ?kq48); (case aq48 => k_is); (case lq48 => k_is); (case cq48 => k_is); (case kq48 => k_is))
    (case d61 => refine' Mu.df_of KX G ?aq49 (Mu.fun_of ?lq49 ?cq49 ?kq49); (case aq49 => k_is); (case lq49 => k_is); (case cq49 => k_is); (case kq49 => k_is))
    (case d60 => refine' Mu.df_of KX G ?aq50 (Mu.fun_of ?lq50 ?cq50 ?kq50); (case aq50 => k_is); (case lq50 => k_is); (case cq50 => k_is); (case kq50 => k_is))
    (case d37 => refine' Mu.df_of KX G ?aq51 (Mu.fun_of ?lq51 ?cq51 ?kq51); (case aq51 => k_is); (case lq51 => k_is); (case cq51 => k_is); (case kq51 => k_is))
    (case d59 => refine' Mu.df_of KX G ?aq52 (Mu.fun_of ?lq52 ?cq52 ?kq52); (case aq52 => k_is); (case lq52 => k_is); (case cq52 => k_is); (case kq52 => k_is))
    (case d62 => refine' Mu.df_of KX G ?aq53 (Mu.fun_of ?lq53 ?cq53 ?kq53); (case aq53 => k_is); (case lq53 => k_is); (case cq53 => k_is); (case kq53 => k_is))
