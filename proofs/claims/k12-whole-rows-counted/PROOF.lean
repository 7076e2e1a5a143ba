import PyProof.Rows.All
import Wide.All
import OpenK.AllK
import Wide.FinOn
import HandS.ForMost
import HandS.Star
import HandS.TupAny
import HandS.TupLen
import HandS.TupLe
import HandS.Conv
import HandS.IsInst
import HandS.SortInts
import HandS.SortRule
import HandS.DictTup
import HandS.TupSets
import HandS.Walk
import HandS.Wide
import HandS.Style
import HandS.Flow
import HandS.More
import KE.SortData
import KE.KDictDisplayH
import KE.KDictWalk
import HandS.Keys
import KE.GoesEnum
import PySem.Challenge.RW_stoopers_k12_whole_rows_counted
/-! part KMath -/
set_option Elab.async false
set_option linter.all false
/-! The mathematics of the law, without the program: webs, stoops, rows of stoops counted. -/
namespace Sto
abbrev Tie := Nat × Nat

/-! ### sorting short lists -/
def insN (x : Nat) : List Nat → List Nat
  | [] => [x]
  | y :: r => if x ≤ y then x :: y :: r else y :: insN x r
def sortN : List Nat → List Nat
  | [] => []
  | x :: r => insN x (sortN r)
theorem insN_perm (x : Nat) : ∀ l : List Nat, (insN x l).Perm (x :: l)
  | [] => .refl _
  | y :: r => by
    unfold insN
    split
    · exact .refl _
    · exact ((insN_perm x r).cons y).trans (.swap ..)
theorem sortN_perm : ∀ l : List Nat, (sortN l).Perm l
  | [] => .refl _
  | x :: r => (insN_perm x (sortN r)).trans ((sortN_perm r).cons x)
theorem insN_sorted (x : Nat) : ∀ l : List Nat, l.Pairwise (· ≤ ·) → (insN x l).Pairwise (· ≤ ·)
  | [], _ => by simp [insN]
  | y :: r, h => by
    obtain ⟨h1, h2⟩ := List.pairwise_cons.mp h
    unfold insN
    split
    · rename_i hxy
      refine List.pairwise_cons.mpr ⟨fun b hb => ?_, h⟩
      rcases List.mem_cons.mp hb with rfl | hb
      · exact hxy
      · exact Nat.le_trans hxy (h1 b hb)
    · rename_i hxy
      refine List.pairwise_cons.mpr ⟨fun b hb => ?_, insN_sorted x r h2⟩
      rcases List.mem_cons.mp ((insN_perm x r).mem_iff.mp hb) with rfl | hb
      · omega
      · exact h1 b hb
theorem sortN_sorted : ∀ l : List Nat, (sortN l).Pairwise (· ≤ ·)
  | [] => .nil
  | x :: r => insN_sorted x _ (sortN_sorted r)
/-- what sorted gives over ints is this -/
theorem sortN_int {l : List Nat} {zs : List Int} (p : zs.Perm (l.map fun k : Nat => (k : Int))) (s : zs.Pairwise (· ≤ ·)) : zs = (sortN l).map fun k : Nat => (k : Int) := by
  refine List.Perm.eq_of_pairwise (le := fun a b : Int => a ≤ b) (fun a b _ _ h1 h2 => Int.le_antisymm h1 h2) s ?_ (p.trans ((sortN_perm l).map _).symm)
  rw [List.pairwise_map]
  exact (sortN_sorted l).imp fun h => Int.ofNat_le.mpr h
theorem sortN_mem {l : List Nat} {x : Nat} : x ∈ sortN l ↔ x ∈ l := (sortN_perm l).mem_iff
theorem sortN_len (l : List Nat) : (sortN l).length = l.length := (sortN_perm l).length_eq

/-! ### webs -/
def nbRaw (ts : List Tie) (p : Nat) : List Nat := ts.filterMap fun t => if p = t.1 ∨ p = t.2 then some (t.1 + t.2 - p) else none
def nb (ts : List Tie) (p : Nat) : List Nat := sortN (nbRaw ts p)
structure Ok (n : Nat) (ts : List Tie) : Prop where
  n1 : 1 ≤ n
  n4 : n ≤ 4
  few : ts.length ≤ 6
  tie : ∀ t ∈ ts, t.1 < t.2 ∧ t.2 < n
  srt : ts.Pairwise fun a b => a.1 < b.1 ∨ (a.1 = b.1 ∧ a.2 < b.2)
theorem nbRaw_len (ts : List Tie) (p : Nat) : (nbRaw ts p).length ≤ ts.length := List.length_filterMap_le _ _
theorem nb_len (ts : List Tie) (p : Nat) : (nb ts p).length ≤ ts.length := by
  unfold nb
  rw [sortN_len]
  exact nbRaw_len ts p
theorem mem_nb {ts : List Tie} {p o : Nat} : o ∈ nb ts p ↔ ∃ t ∈ ts, (p = t.1 ∧ o = t.2) ∨ (p = t.2 ∧ o = t.1) := by
  unfold nb nbRaw
  rw [sortN_mem, List.mem_filterMap]
  constructor
  · rintro ⟨t, ht, h⟩
    by_cases c : p = t.1 ∨ p = t.2
    · rw [if_pos c] at h
      have e : t.1 + t.2 - p = o := Option.some.inj h
      refine ⟨t, ht, ?_⟩
      rcases c with c | c
      · exact .inl ⟨c, by omega⟩
      · exact .inr ⟨c, by omega⟩
    · rw [if_neg c] at h
      cases h
  · rintro ⟨t, ht, h⟩
    refine ⟨t, ht, ?_⟩
    rcases h with ⟨c, e⟩ | ⟨c, e⟩
    · rw [if_pos (.inl c)]
      exact congrArg some (by omega)
    · rw [if_pos (.inr c)]
      exact congrArg some (by omega)
section
variable {n : Nat} {ts : List Tie}
theorem Ok.nb_lt (W : Ok n ts) {p o : Nat} (h : o ∈ nb ts p) : o < n ∧ p < n ∧ p ≠ o := by
  obtain ⟨t, ht, h⟩ := mem_nb.mp h
  have q := W.tie t ht
  omega
end

/-! ### heights and stoops -/
def ht (hs : List Int) (p : Nat) : Int := hs.getD p 0
theorem ht_get {hs : List Int} {p : Nat} (h : p < hs.length) : hs[p]? = some (ht hs p) := by
  unfold ht
  rw [List.getD_eq_getElem?_getD, List.getElem?_eq_getElem h]
  rfl
theorem ht_mem {hs : List Int} {p : Nat} (h : p < hs.length) : ht hs p ∈ hs := List.mem_of_getElem? (ht_get h)
def lower (ts : List Tie) (hs : List Int) (p : Nat) : List Nat := (nb ts p).filter fun o => decide (ht hs o < ht hs p)
def stp (n : Nat) (ts : List Tie) (hs : List Int) : List (Nat × Nat) := (List.range n).flatMap fun p => (lower ts hs p).map fun o => (p, o)
def aft (hs : List Int) (s : Nat × Nat) : List Int := hs.take s.1 ++ ht hs s.2 :: hs.drop (s.1 + 1)
structure Hs (n : Nat) (hs : List Int) : Prop where
  len : hs.length = n
  rng : ∀ x ∈ hs, -2 ≤ x ∧ x ≤ 3
theorem mem_stp {n : Nat} {ts : List Tie} {hs : List Int} {s : Nat × Nat} : s ∈ stp n ts hs ↔ s.1 < n ∧ s.2 ∈ nb ts s.1 ∧ ht hs s.2 < ht hs s.1 := by
  unfold stp lower
  constructor
  · intro h
    obtain ⟨p, hp, h⟩ := List.mem_flatMap.mp h
    obtain ⟨o, ho, rfl⟩ := List.mem_map.mp h
    obtain ⟨h1, h2⟩ := List.mem_filter.mp ho
    exact ⟨List.mem_range.mp hp, h1, of_decide_eq_true h2⟩
  · rintro ⟨h1, h2, h3⟩
    exact List.mem_flatMap.mpr ⟨s.1, List.mem_range.mpr h1, List.mem_map.mpr ⟨s.2, List.mem_filter.mpr ⟨h2, decide_eq_true h3⟩, rfl⟩⟩
theorem lower_len (ts : List Tie) (hs : List Int) (p : Nat) : (lower ts hs p).length ≤ ts.length := Nat.le_trans (List.length_filter_le _ _) (nb_len ts p)
theorem stp_len_le (n : Nat) (ts : List Tie) (hs : List Int) : (stp n ts hs).length ≤ n * ts.length := by
  unfold stp
  have g : ∀ l : List Nat, (l.flatMap fun p => (lower ts hs p).map fun o => (p, o)).length ≤ l.length * ts.length := by
    intro l
    induction l with
    | nil => simp
    | cons a r ih =>
      rw [List.flatMap_cons, List.length_append, List.length_map, List.length_cons, Nat.add_mul, Nat.one_mul]
      have := lower_len ts hs a
      omega
  have q := g (List.range n)
  rwa [List.length_range] at q
theorem split_at {hs : List Int} {p : Nat} (h : p < hs.length) : hs = hs.take p ++ ht hs p :: hs.drop (p + 1) := by
  have e1 : hs.drop p = ht hs p :: hs.drop (p + 1) := by
    rw [List.drop_eq_getElem_cons h]
    have e2 : hs[p] = ht hs p := Option.some.inj ((List.getElem?_eq_getElem h).symm.trans (ht_get h))
    rw [e2]
  rw [← e1, List.take_append_drop]
theorem aft_len {hs : List Int} {s : Nat × Nat} (h : s.1 < hs.length) : (aft hs s).length = hs.length := by
  unfold aft
  rw [List.length_append, List.length_cons, List.length_take, List.length_drop]
  omega
theorem aft_mem {hs : List Int} {s : Nat × Nat} (h : s.2 < hs.length) {x : Int} (hx : x ∈ aft hs s) : x ∈ hs := by
  unfold aft at hx
  rcases List.mem_append.mp hx with q | q
  · exact List.mem_of_mem_take q
  · rcases List.mem_cons.mp q with rfl | q
    · exact ht_mem h
    · exact List.mem_of_mem_drop q
theorem aft_sum {hs : List Int} {s : Nat × Nat} (h : s.1 < hs.length) : (aft hs s).sum = hs.sum - ht hs s.1 + ht hs s.2 := by
  have e : hs.sum = (hs.take s.1).sum + (ht hs s.1 + (hs.drop (s.1 + 1)).sum) := by
    conv => lhs; rw [split_at h]
    rw [List.sum_append, List.sum_cons]
  unfold aft
  rw [List.sum_append, List.sum_cons, e]
  omega
theorem aft_lt {hs : List Int} {s : Nat × Nat} (h : s.1 < hs.length) (hl : ht hs s.2 < ht hs s.1) : aft hs s < hs := by
  have e := split_at h
  conv => rhs; rw [e]
  unfold aft
  exact List.append_left_lt (List.cons_lt_cons_iff.mpr (.inl hl))
theorem aft_get {hs : List Int} {s : Nat × Nat} (h : s.1 < hs.length) (q : Nat) : ht (aft hs s) q = if q = s.1 then ht hs s.2 else ht hs q := by
  have e : aft hs s = hs.set s.1 (ht hs s.2) := by
    unfold aft
    rw [List.set_eq_take_append_cons_drop, if_pos h]
  rw [e]
  unfold ht
  rw [List.getD_eq_getElem?_getD, List.getElem?_set]
  by_cases c : q = s.1
  · subst c
    rw [if_pos rfl, if_pos h, if_pos rfl]
    rfl
  · rw [if_neg (fun z => c z.symm), if_neg c, List.getD_eq_getElem?_getD]
theorem Hs.aft {n : Nat} {ts : List Tie} {hs : List Int} (W : Ok n ts) (h : Hs n hs) {s : Nat × Nat} (m : s ∈ stp n ts hs) : Hs n (Sto.aft hs s) := by
  obtain ⟨h1, h2, h3⟩ := mem_stp.mp m
  have q := W.nb_lt h2
  exact ⟨(aft_len (by rw [h.len]; exact h1)).trans h.len, fun x hx => h.rng x (aft_mem (by rw [h.len]; exact q.1) hx)⟩
end Sto

/-! part KMath2 -/
set_option Elab.async false
set_option linter.all false
namespace Sto
/-! ### sums over lists -/
def sumN {α : Type} (l : List α) (f : α → Nat) : Nat := (l.map f).sum
section
variable {α : Type}
theorem sumN_nil (f : α → Nat) : sumN [] f = 0 := rfl
theorem sumN_cons (a : α) (l : List α) (f : α → Nat) : sumN (a :: l) f = f a + sumN l f := by
  unfold sumN
  rw [List.map_cons, List.sum_cons]
theorem sumN_append (l m : List α) (f : α → Nat) : sumN (l ++ m) f = sumN l f + sumN m f := by
  induction l with
  | nil => rw [List.nil_append, sumN_nil, Nat.zero_add]
  | cons a r ih => rw [List.cons_append, sumN_cons, sumN_cons, ih, Nat.add_assoc]
theorem sumN_congr {l : List α} {f g : α → Nat} (h : ∀ a ∈ l, f a = g a) : sumN l f = sumN l g := by
  unfold sumN
  rw [List.map_congr_left h]
theorem sumN_zero {l : List α} {f : α → Nat} (h : ∀ a ∈ l, f a = 0) : sumN l f = 0 := by
  induction l with
  | nil => rfl
  | cons a r ih => rw [sumN_cons, h a (List.mem_cons_self ..), ih fun b hb => h b (List.mem_cons_of_mem _ hb)]
theorem sumN_add (l : List α) (f g : α → Nat) : sumN l (fun a => f a + g a) = sumN l f + sumN l g := by
  induction l with
  | nil => rfl
  | cons a r ih =>
    rw [sumN_cons, sumN_cons, sumN_cons, ih]
    omega
theorem sumN_perm {l m : List α} (p : l.Perm m) (f : α → Nat) : sumN l f = sumN m f := by
  induction p with
  | nil => rfl
  | cons a _ ih => rw [sumN_cons, sumN_cons, ih]
  | swap a b l => rw [sumN_cons, sumN_cons, sumN_cons, sumN_cons]; omega
  | trans _ _ i1 i2 => rw [i1, i2]
variable [DecidableEq α] [BEq α] [LawfulBEq α]
theorem sumN_single {os : List α} {x : α} (nd : os.Nodup) (hx : x ∈ os) (f : α → Nat) : sumN os (fun s => (if x = s then 1 else 0) * f s) = f x := by
  induction os with
  | nil => cases hx
  | cons a r ih =>
    obtain ⟨h1, h2⟩ := List.nodup_cons.mp nd
    rw [sumN_cons]
    by_cases e : x = a
    · subst e
      rw [if_pos rfl, Nat.one_mul, sumN_zero (l := r), Nat.add_zero]
      intro b hb
      rw [if_neg (fun z => h1 (by rw [z]; exact hb)), Nat.zero_mul]
    · rw [if_neg e, Nat.zero_mul, Nat.zero_add]
      exact ih h2 ((List.mem_cons.mp hx).resolve_left e)
theorem sumN_group {os : List α} (nd : os.Nodup) (f : α → Nat) : ∀ l : List α, (∀ x ∈ l, x ∈ os) → sumN l f = sumN os fun s => l.count s * f s
  | [], _ => by
    rw [sumN_nil, sumN_zero]
    intro a _
    rw [List.count_nil, Nat.zero_mul]
  | x :: r, h => by
    rw [sumN_cons, sumN_group nd f r fun y hy => h y (List.mem_cons_of_mem _ hy)]
    have e := sumN_single nd (h x (List.mem_cons_self ..)) f
    rw [← e, ← sumN_add]
    refine sumN_congr fun s _ => ?_
    rw [List.count_cons, ← Nat.add_mul]
    by_cases c : x = s
    · rw [if_pos c, if_pos (by simp [c]), Nat.add_comm]
    · rw [if_neg c, if_neg (by simp [c]), Nat.add_comm]
theorem sumN_count {os : List α} (nd : os.Nodup) (l : List α) (h : ∀ x ∈ l, x ∈ os) : sumN os (fun s => l.count s) = l.length := by
  have e := sumN_group nd (fun _ => 1) l h
  have e2 : sumN l (fun _ => 1) = l.length := by
    clear h e
    induction l with
    | nil => rfl
    | cons a r ih => rw [sumN_cons, ih, List.length_cons, Nat.add_comm]
  rw [← e2, e]
  exact sumN_congr fun s _ => (Nat.mul_one _).symm
theorem count_flat {β : Type} [BEq β] [LawfulBEq β] (l : List α) (f : α → List β) (g : β) : (l.flatMap f).count g = sumN l fun x => (f x).count g := by
  induction l with
  | nil => rfl
  | cons a r ih => rw [List.flatMap_cons, List.count_append, sumN_cons, ih]
end

/-! ### all rows of so many stoops -/
def nexts (n : Nat) (ts : List Tie) (h : List Int) : List (List Int) := (stp n ts h).map (aft h)
def lay (n : Nat) (ts : List Tie) (h0 : List Int) : Nat → List (List Int)
  | 0 => [h0]
  | k + 1 => (lay n ts h0 k).flatMap (nexts n ts)
/-- how many rows of k stoops lead to g -/
def W (n : Nat) (ts : List Tie) (h0 : List Int) (k : Nat) (g : List Int) : Nat := (lay n ts h0 k).count g
def Reach (n : Nat) (ts : List Tie) (h0 g : List Int) : Prop := ∃ k, g ∈ lay n ts h0 k
section
variable {n : Nat} {ts : List Tie} {h0 : List Int}
theorem W_pos {k : Nat} {g : List Int} : W n ts h0 k g ≠ 0 ↔ g ∈ lay n ts h0 k := by
  unfold W
  rw [← List.count_pos_iff]
  omega
theorem reach_W {g : List Int} : Reach n ts h0 g ↔ ∃ k, W n ts h0 k g ≠ 0 :=
  ⟨fun ⟨k, h⟩ => ⟨k, W_pos.mpr h⟩, fun ⟨k, h⟩ => ⟨k, W_pos.mp h⟩⟩
theorem reach_self : Reach n ts h0 h0 := ⟨0, List.mem_singleton.mpr rfl⟩
theorem reach_step {g g' : List Int} (h : Reach n ts h0 g) (m : g' ∈ nexts n ts g) : Reach n ts h0 g' := by
  obtain ⟨k, hk⟩ := h
  exact ⟨k + 1, List.mem_flatMap.mpr ⟨g, hk, m⟩⟩
/-- the outcomes are the least set that has the heights and goes with stoops -/
theorem reach_least {P : List Int → Prop} (p0 : P h0) (ps : ∀ g g', P g → g' ∈ nexts n ts g → P g') {g : List Int} (h : Reach n ts h0 g) : P g := by
  obtain ⟨k, hk⟩ := h
  induction k generalizing g with
  | zero => rw [List.mem_singleton.mp hk]; exact p0
  | succ k ih =>
    obtain ⟨f, hf, hg⟩ := List.mem_flatMap.mp hk
    exact ps f g (ih hf) hg
theorem Hs.next (w : Ok n ts) {h g : List Int} (q : Hs n h) (m : g ∈ nexts n ts h) : Hs n g ∧ g.sum + 1 ≤ h.sum ∧ g < h := by
  obtain ⟨s, hs, rfl⟩ := List.mem_map.mp m
  obtain ⟨h1, h2, h3⟩ := mem_stp.mp hs
  have hl : s.1 < h.length := by rw [q.len]; exact h1
  refine ⟨Hs.aft w q hs, ?_, aft_lt hl h3⟩
  rw [aft_sum hl]
  omega
theorem lay_hs (w : Ok n ts) (q : Hs n h0) : ∀ (k : Nat) (g : List Int), g ∈ lay n ts h0 k → Hs n g ∧ g.sum + (k : Int) ≤ h0.sum
  | 0, g, h => by
    rw [List.mem_singleton.mp h]
    exact ⟨q, by omega⟩
  | k + 1, g, h => by
    obtain ⟨f, hf, hg⟩ := List.mem_flatMap.mp h
    obtain ⟨h1, h2⟩ := lay_hs w q k f hf
    obtain ⟨h3, h4, _⟩ := h1.next w hg
    exact ⟨h3, by omega⟩
theorem reach_hs (w : Ok n ts) (q : Hs n h0) {g : List Int} (h : Reach n ts h0 g) : Hs n g := by
  obtain ⟨k, hk⟩ := h
  exact (lay_hs w q k g hk).1
theorem sum_bd : ∀ (hs : List Int), (∀ x ∈ hs, -2 ≤ x ∧ x ≤ 3) → -2 * (hs.length : Int) ≤ hs.sum ∧ hs.sum ≤ 3 * (hs.length : Int)
  | [], _ => ⟨by decide, by decide⟩
  | x :: r, h => by
    have h1 := h x (List.mem_cons_self ..)
    have h2 := sum_bd r fun y hy => h y (List.mem_cons_of_mem _ hy)
    rw [List.sum_cons, List.length_cons]
    omega
theorem lay_k (w : Ok n ts) (q : Hs n h0) {k : Nat} {g : List Int} (h : g ∈ lay n ts h0 k) : k ≤ 20 := by
  obtain ⟨h1, h2⟩ := lay_hs w q k g h
  have b1 := sum_bd g h1.rng
  have b2 := sum_bd h0 q.rng
  rw [h1.len] at b1
  rw [q.len] at b2
  have := w.n4
  omega
theorem lay_end (w : Ok n ts) (q : Hs n h0) {k : Nat} (h : lay n ts h0 k ≠ []) : k ≤ 20 := by
  obtain ⟨g, hg⟩ := List.exists_mem_of_ne_nil _ h
  exact lay_k w q hg
theorem lay_gone {k : Nat} (h : lay n ts h0 k = []) : ∀ m, k ≤ m → lay n ts h0 m = [] := by
  intro m hm
  induction m with
  | zero =>
    have e : k = 0 := by omega
    subst e
    exact h
  | succ m ih =>
    by_cases e : k = m + 1
    · rw [← e]; exact h
    · show (lay n ts h0 m).flatMap _ = []
      rw [ih (by omega)]
      rfl
theorem W_big (w : Ok n ts) (q : Hs n h0) {k : Nat} {g : List Int} (h : W n ts h0 k g ≠ 0) : k ≤ 20 := lay_k w q (W_pos.mp h)

/-! ### counted by what stands ahead -/
def part (n : Nat) (ts : List Tie) (h0 : List Int) (S : List (List Int)) (g : List Int) : Nat → Nat
  | 0 => if h0 = g then 1 else 0
  | k + 1 => sumN S fun s => W n ts h0 k s * (nexts n ts s).count g
theorem W_zero (g : List Int) : W n ts h0 0 g = if h0 = g then 1 else 0 := by
  unfold W
  show List.count g [h0] = _
  rw [List.count_singleton]
  by_cases c : h0 = g
  · rw [if_pos c, if_pos (by simp [c])]
  · rw [if_neg c, if_neg (by simp [c])]
theorem W_succ {os : List (List Int)} (nd : os.Nodup) {k : Nat} (h : ∀ x ∈ lay n ts h0 k, x ∈ os) (g : List Int) : W n ts h0 (k + 1) g = sumN os fun s => W n ts h0 k s * (nexts n ts s).count g := by
  unfold W
  show List.count g ((lay n ts h0 k).flatMap (nexts n ts)) = _
  rw [count_flat, sumN_group nd _ _ h]
theorem part_all {os : List (List Int)} (nd : os.Nodup) (h : ∀ x, Reach n ts h0 x → x ∈ os) (g : List Int) (k : Nat) : part n ts h0 os g k = W n ts h0 k g := by
  cases k with
  | zero => exact (W_zero g).symm
  | succ k => exact (W_succ nd (fun x hx => h x ⟨k, hx⟩) g).symm
/-- all that leads to now stands ahead of it -/
theorem part_now (w : Ok n ts) {S R : List (List Int)} {now : List Int} (nd : (S ++ now :: R).Nodup) (h : ∀ x, Reach n ts h0 x → x ∈ S ++ now :: R) (hh : ∀ x ∈ now :: R, Hs n x) (hd : ∀ x ∈ R, x < now) (k : Nat) :
    part n ts h0 S now k = W n ts h0 k now := by
  cases k with
  | zero => exact (W_zero now).symm
  | succ k =>
    rw [W_succ nd (fun x hx => h x ⟨k, hx⟩) now, sumN_append, sumN_zero (l := now :: R)]
    · rfl
    · intro s hs
      have e : (nexts n ts s).count now = 0 := by
        refine List.count_eq_zero_of_not_mem fun m => ?_
        have lt := ((hh s hs).next w m).2.2
        rcases List.mem_cons.mp hs with rfl | hs
        · exact List.lt_irrefl _ lt
        · exact List.lt_irrefl _ (List.lt_trans lt (hd s hs))
      rw [e, Nat.mul_zero]
/-- rows one stoop longer -/
def addS (f u : Nat → Nat) : Nat → Nat := fun k => f k + (match k with | 0 => 0 | j + 1 => u j)
theorem part_snoc (S : List (List Int)) (now g : List Int) : part n ts h0 (S ++ [now]) g = addS (part n ts h0 S g) fun k => W n ts h0 k now * (nexts n ts now).count g := by
  funext k
  cases k with
  | zero => rfl
  | succ k =>
    show sumN (S ++ [now]) _ = sumN S _ + _
    rw [sumN_append, sumN_cons, sumN_nil, Nat.add_zero]
/-- within now's stoops, the first j of them done -/
def mid (n : Nat) (ts : List Tie) (h0 : List Int) (S : List (List Int)) (now : List Int) (j : Nat) (g : List Int) : Nat → Nat :=
  addS (part n ts h0 S g) fun k => W n ts h0 k now * (((stp n ts now).take j).map (aft now)).count g
theorem mid_zero (S : List (List Int)) (now g : List Int) : mid n ts h0 S now 0 g = part n ts h0 S g := by
  funext k
  unfold mid addS
  rw [List.take_zero]
  cases k <;> simp
theorem mid_end (S : List (List Int)) (now g : List Int) : mid n ts h0 S now (stp n ts now).length g = part n ts h0 (S ++ [now]) g := by
  rw [part_snoc]
  unfold mid nexts
  rw [List.take_length]
theorem mid_step (S : List (List Int)) (now g : List Int) {j : Nat} {s : Nat × Nat} (hj : (stp n ts now)[j]? = some s) :
    mid n ts h0 S now (j + 1) g = if aft now s = g then addS (mid n ts h0 S now j g) (fun k => W n ts h0 k now) else mid n ts h0 S now j g := by
  have e : (((stp n ts now).take (j + 1)).map (aft now)).count g = (((stp n ts now).take j).map (aft now)).count g + if aft now s = g then 1 else 0 := by
    rw [List.take_add_one, hj, List.map_append, List.count_append]
    congr 1
    show List.count g [aft now s] = _
    rw [List.count_singleton]
    by_cases c : aft now s = g
    · rw [if_pos c, if_pos (by simp [c])]
    · rw [if_neg c, if_neg (by simp [c])]
  by_cases c : aft now s = g
  · rw [if_pos c]
    funext k
    unfold mid addS
    rw [e, if_pos c]
    cases k with
    | zero => rfl
    | succ k => simp only [Nat.mul_add, Nat.mul_one]; omega
  · rw [if_neg c]
    unfold mid
    rw [e, if_neg c, Nat.add_zero]
end
end Sto

/-! part KMath3 -/
set_option Elab.async false
set_option linter.all false
namespace Sto
/-! ### tables as lists of pairs -/
section
variable {α β : Type} [DecidableEq α]
def gA (l : List (α × β)) (k : α) : Option β := (l.find? fun e => decide (e.1 = k)).map (·.2)
def pA (l : List (α × β)) (k : α) (v : β) : List (α × β) :=
  if (l.any fun e => decide (e.1 = k)) = true then l.map (fun e => if e.1 = k then (e.1, v) else e) else l ++ [(k, v)]
theorem gA_nil (k : α) : gA ([] : List (α × β)) k = none := rfl
theorem gA_cons (e : α × β) (r : List (α × β)) (k : α) : gA (e :: r) k = if e.1 = k then some e.2 else gA r k := by
  unfold gA
  rw [List.find?_cons]
  by_cases c : e.1 = k
  · rw [if_pos c, decide_eq_true c]
    rfl
  · rw [if_neg c, decide_eq_false c]
theorem gA_mem {l : List (α × β)} {k : α} {v : β} (h : gA l k = some v) : (k, v) ∈ l := by
  induction l with
  | nil => cases h
  | cons e r ih =>
    rw [gA_cons] at h
    by_cases c : e.1 = k
    · rw [if_pos c] at h
      have e2 : e.2 = v := Option.some.inj h
      exact List.mem_cons.mpr (.inl (Prod.ext c.symm e2.symm))
    · rw [if_neg c] at h
      exact List.mem_cons_of_mem _ (ih h)
theorem gA_of_mem {l : List (α × β)} (nd : (l.map (·.1)).Nodup) {k : α} {v : β} (h : (k, v) ∈ l) : gA l k = some v := by
  induction l with
  | nil => cases h
  | cons e r ih =>
    rw [List.map_cons, List.nodup_cons] at nd
    rw [gA_cons]
    rcases List.mem_cons.mp h with rfl | h
    · rw [if_pos rfl]
    · rw [if_neg]
      · exact ih nd.2 h
      · intro c
        exact nd.1 (by rw [c]; exact List.mem_map.mpr ⟨_, h, rfl⟩)
theorem gA_none {l : List (α × β)} {k : α} : gA l k = none ↔ k ∉ l.map (·.1) := by
  induction l with
  | nil => simp [gA_nil]
  | cons e r ih =>
    rw [gA_cons, List.map_cons, List.mem_cons, not_or]
    by_cases c : e.1 = k
    · rw [if_pos c]
      constructor
      · intro z
        cases z
      · intro z
        exact (z.1 c.symm).elim
    · rw [if_neg c, ih]
      exact ⟨fun z => ⟨fun y => c y.symm, z⟩, fun z => z.2⟩
theorem any_key {l : List (α × β)} {k : α} : (l.any fun e => decide (e.1 = k)) = true ↔ k ∈ l.map (·.1) := by
  rw [List.any_eq_true, List.mem_map]
  exact ⟨fun ⟨e, h, q⟩ => ⟨e, h, of_decide_eq_true q⟩, fun ⟨e, h, q⟩ => ⟨e, h, decide_eq_true q⟩⟩
theorem pA_keys (l : List (α × β)) (k : α) (v : β) : (pA l k v).map (·.1) = if k ∈ l.map (·.1) then l.map (·.1) else l.map (·.1) ++ [k] := by
  unfold pA
  by_cases c : k ∈ l.map (·.1)
  · rw [if_pos (any_key.mpr c), if_pos c, List.map_map]
    refine List.map_congr_left fun e _ => ?_
    show (if e.1 = k then (e.1, v) else e).1 = e.1
    split <;> rfl
  · rw [if_neg (fun z => c (any_key.mp z)), if_neg c, List.map_append]
    rfl
theorem nodup_snoc {l : List α} {k : α} (h : l.Nodup) (hk : k ∉ l) : (l ++ [k]).Nodup := by
  rw [List.nodup_append]
  refine ⟨h, by simp, fun a ha b hb e => ?_⟩
  rw [List.mem_singleton] at hb
  exact hk (by rw [← hb, ← e]; exact ha)
theorem pA_nd {l : List (α × β)} (nd : (l.map (·.1)).Nodup) (k : α) (v : β) : ((pA l k v).map (·.1)).Nodup := by
  rw [pA_keys]
  split
  · exact nd
  · rename_i c
    exact nodup_snoc nd c
theorem pA_mem_keys (l : List (α × β)) (k : α) (v : β) (j : α) : j ∈ (pA l k v).map (·.1) ↔ j = k ∨ j ∈ l.map (·.1) := by
  rw [pA_keys]
  split
  · rename_i c
    exact ⟨.inr, fun h => h.elim (fun e => by rw [e]; exact c) id⟩
  · rw [List.mem_append, List.mem_singleton]
    exact or_comm
theorem pA_len (l : List (α × β)) (k : α) (v : β) : (pA l k v).length ≤ l.length + 1 := by
  unfold pA
  split
  · rw [List.length_map]; omega
  · rw [List.length_append, List.length_singleton]; omega
theorem gA_map_ne (l : List (α × β)) (k j : α) (v : β) (h : ¬ j = k) : gA (l.map fun e => if e.1 = k then (e.1, v) else e) j = gA l j := by
  induction l with
  | nil => rfl
  | cons e r ih =>
    rw [List.map_cons, gA_cons, gA_cons, ih]
    by_cases c : e.1 = k
    · rw [if_pos c]
      show (if e.1 = j then some v else gA r j) = _
      rw [if_neg (fun z => h (z.symm.trans c)), if_neg (fun z => h (z.symm.trans c))]
    · rw [if_neg c]
theorem gA_map_eq (l : List (α × β)) (k : α) (v : β) (h : k ∈ l.map (·.1)) : gA (l.map fun e => if e.1 = k then (e.1, v) else e) k = some v := by
  induction l with
  | nil => cases h
  | cons e r ih =>
    rw [List.map_cons, gA_cons]
    by_cases c : e.1 = k
    · rw [if_pos c]
      show (if e.1 = k then some v else _) = _
      rw [if_pos c]
    · rw [if_neg c, if_neg c]
      exact ih ((List.mem_cons.mp h).resolve_left fun z => c z.symm)
theorem gA_append (l m : List (α × β)) (k : α) : gA (l ++ m) k = (gA l k).or (gA m k) := by
  induction l with
  | nil => rfl
  | cons e r ih =>
    rw [List.cons_append, gA_cons, gA_cons, ih]
    split <;> rfl
theorem gA_pA (l : List (α × β)) (k j : α) (v : β) : gA (pA l k v) j = if j = k then some v else gA l j := by
  unfold pA
  by_cases c : k ∈ l.map (·.1)
  · rw [if_pos (any_key.mpr c)]
    by_cases e : j = k
    · subst e
      rw [if_pos rfl]
      exact gA_map_eq l j v c
    · rw [if_neg e]
      exact gA_map_ne l k j v e
  · rw [if_neg (fun z => c (any_key.mp z)), gA_append, gA_cons, gA_nil]
    by_cases e : j = k
    · subst e
      rw [if_pos rfl, if_pos rfl, gA_none.mpr c]
      rfl
    · rw [if_neg (fun z => e z.symm), if_neg e]
      cases gA l j <;> rfl
theorem gA_mem_keys {l : List (α × β)} {k : α} {v : β} (h : gA l k = some v) : k ∈ l.map (·.1) := List.mem_map.mpr ⟨_, gA_mem h, rfl⟩
theorem gA_some {l : List (α × β)} {k : α} (h : k ∈ l.map (·.1)) : ∃ v, gA l k = some v := by
  cases e : gA l k with
  | none => exact (gA_none.mp e h).elim
  | some v => exact ⟨v, rfl⟩

/-! ### a table of numbers that are not 0 -/
structure IsG (l : List (α × Nat)) (f : α → Nat) : Prop where
  nd : (l.map (·.1)).Nodup
  at_ : ∀ k, gA l k = if f k = 0 then none else some (f k)
theorem IsG.mem {l : List (α × Nat)} {f : α → Nat} (h : IsG l f) {k : α} : k ∈ l.map (·.1) ↔ f k ≠ 0 := by
  constructor
  · intro m z
    have e := h.at_ k
    rw [if_pos z] at e
    exact gA_none.mp e m
  · intro z
    have e := h.at_ k
    rw [if_neg z] at e
    exact gA_mem_keys e
theorem IsG.val {l : List (α × Nat)} {f : α → Nat} (h : IsG l f) {e : α × Nat} (m : e ∈ l) : e.2 = f e.1 ∧ f e.1 ≠ 0 := by
  have z : f e.1 ≠ 0 := h.mem.mp (List.mem_map.mpr ⟨e, m, rfl⟩)
  have q := gA_of_mem h.nd (k := e.1) (v := e.2) m
  rw [h.at_, if_neg z] at q
  exact ⟨(Option.some.inj q).symm, z⟩
theorem IsG.getD {l : List (α × Nat)} {f : α → Nat} (h : IsG l f) (k : α) : (gA l k).getD 0 = f k := by
  rw [h.at_]
  by_cases z : f k = 0
  · rw [if_pos z, z]; rfl
  · rw [if_neg z]; rfl
theorem IsG.nil : IsG ([] : List (α × Nat)) fun _ => 0 := ⟨.nil, fun _ => rfl⟩
theorem IsG.add {l : List (α × Nat)} {f : α → Nat} (h : IsG l f) (k : α) {u : Nat} (hu : u ≠ 0) : IsG (pA l k (f k + u)) fun j => if j = k then f j + u else f j := by
  refine ⟨pA_nd h.nd k _, fun j => ?_⟩
  rw [gA_pA]
  by_cases e : j = k
  · subst e
    rw [if_pos rfl, if_pos rfl, if_neg (by omega)]
  · rw [if_neg e, if_neg e]
    exact h.at_ j
theorem IsG.congr {l : List (α × Nat)} {f g : α → Nat} (h : IsG l f) (e : ∀ k, f k = g k) : IsG l g := ⟨h.nd, fun k => by rw [h.at_, e]⟩
theorem IsG.take {l : List (α × Nat)} {f : α → Nat} (h : IsG l f) (i : Nat) (k : α) : (gA (l.take i) k).getD 0 = if k ∈ (l.take i).map (·.1) then f k else 0 := by
  by_cases c : k ∈ (l.take i).map (·.1)
  · rw [if_pos c]
    obtain ⟨e, he, rfl⟩ := List.mem_map.mp c
    have m : e ∈ l := List.mem_of_mem_take he
    have nd : ((l.take i).map (·.1)).Nodup := by
      rw [List.map_take]
      exact h.nd.sublist (List.take_sublist _ _)
    rw [gA_of_mem nd (k := e.1) (v := e.2) he]
    exact (h.val m).1
  · rw [if_neg c, gA_none.mpr c]
    rfl
end

/-! ### tables told by other tables -/
section
variable {α β κ υ : Type} [DecidableEq α] [DecidableEq κ]
theorem find_enc {kf : α → κ} (inj : ∀ a b, kf a = kf b → a = b) (vf : β → υ) (l : List (α × β)) (k : α) : ((l.map fun e => (kf e.1, vf e.2)).find? fun e => decide (e.1 = kf k)).map (·.2) = (gA l k).map vf := by
  induction l with
  | nil => rfl
  | cons e r ih =>
    rw [List.map_cons, List.find?_cons, gA_cons]
    by_cases c : e.1 = k
    · rw [if_pos c, show decide ((kf e.1, vf e.2).1 = kf k) = true from decide_eq_true (congrArg kf c)]
      rfl
    · rw [if_neg c, show decide ((kf e.1, vf e.2).1 = kf k) = false from decide_eq_false fun z => c (inj _ _ z)]
      exact ih
theorem any_enc {kf : α → κ} (inj : ∀ a b, kf a = kf b → a = b) (vf : β → υ) (l : List (α × β)) (k : α) : ((l.map fun e => (kf e.1, vf e.2)).any fun e => decide (e.1 = kf k)) = l.any fun e => decide (e.1 = k) := by
  induction l with
  | nil => rfl
  | cons e r ih =>
    rw [List.map_cons, List.any_cons, List.any_cons, ih]
    by_cases c : e.1 = k
    · rw [show decide ((kf e.1, vf e.2).1 = kf k) = true from decide_eq_true (congrArg kf c), decide_eq_true c]
    · rw [show decide ((kf e.1, vf e.2).1 = kf k) = false from decide_eq_false fun z => c (inj _ _ z), decide_eq_false c]
theorem map_enc {kf : α → κ} (inj : ∀ a b, kf a = kf b → a = b) (vf : β → υ) (l : List (α × β)) (k : α) (v : β) :
    (l.map fun e => (kf e.1, vf e.2)).map (fun e => if e.1 = kf k then (e.1, vf v) else e) = (l.map fun e => if e.1 = k then (e.1, v) else e).map fun e => (kf e.1, vf e.2) := by
  rw [List.map_map, List.map_map]
  refine List.map_congr_left fun e _ => ?_
  show (if kf e.1 = kf k then (kf e.1, vf v) else (kf e.1, vf e.2)) = (kf (if e.1 = k then (e.1, v) else e).1, vf (if e.1 = k then (e.1, v) else e).2)
  by_cases c : e.1 = k
  · rw [if_pos c, if_pos (congrArg kf c)]
  · rw [if_neg c, if_neg fun z => c (inj _ _ z)]
end

/-! ### the numbers of stoops, rising, with their rows -/
def lens (f : Nat → Nat) : List (Nat × Nat) := ((List.range 21).filter fun k => decide (f k ≠ 0)).map fun k => (k, f k)
theorem lens_keys (f : Nat → Nat) : (lens f).map (·.1) = (List.range 21).filter fun k => decide (f k ≠ 0) := by
  unfold lens
  rw [List.map_map]
  exact List.map_id _
theorem lens_sorted (f : Nat → Nat) : ((lens f).map (·.1)).Pairwise (· < ·) := by
  rw [lens_keys]
  exact List.Pairwise.sublist List.filter_sublist List.pairwise_lt_range
theorem lens_mem {f : Nat → Nat} (hf : ∀ k, f k ≠ 0 → k ≤ 20) {e : Nat × Nat} : e ∈ lens f ↔ e.2 = f e.1 ∧ f e.1 ≠ 0 := by
  unfold lens
  rw [List.mem_map]
  constructor
  · rintro ⟨k, hk, rfl⟩
    exact ⟨rfl, of_decide_eq_true (List.mem_filter.mp hk).2⟩
  · rintro ⟨h1, h2⟩
    exact ⟨e.1, List.mem_filter.mpr ⟨List.mem_range.mpr (by have := hf _ h2; omega), decide_eq_true h2⟩, Prod.ext rfl h1.symm⟩
theorem nodup_of_keys {α β : Type} {l : List (α × β)} (h : (l.map (·.1)).Nodup) : l.Nodup := by
  induction l with
  | nil => exact .nil
  | cons e r ih =>
    rw [List.map_cons, List.nodup_cons] at h
    exact List.nodup_cons.mpr ⟨fun m => h.1 (List.mem_map.mpr ⟨e, m, rfl⟩), ih h.2⟩
theorem lens_perm {l : List (Nat × Nat)} {f : Nat → Nat} (h : IsG l f) (hf : ∀ k, f k ≠ 0 → k ≤ 20) : l.Perm (lens f) := by
  refine (List.perm_ext_iff_of_nodup (nodup_of_keys h.nd) (nodup_of_keys ((lens_sorted f).imp fun q => Nat.ne_of_lt q))).mpr fun e => ?_
  rw [lens_mem hf]
  constructor
  · intro m
    exact h.val m
  · rintro ⟨h1, h2⟩
    have q := h.at_ e.1
    rw [if_neg h2] at q
    have := gA_mem q
    rw [← h1] at this
    exact this
/-- sorted by the number, it is this -/
theorem lens_eq {l : List (Nat × Nat)} {f : Nat → Nat} (h : l.Perm (lens f)) (s : l.Pairwise fun a b => a.1 ≤ b.1) : l = lens f := by
  refine List.Perm.eq_of_pairwise (le := fun a b : Nat × Nat => a.1 ≤ b.1) (fun a b ha hb h1 h2 => ?_) s ?_ h
  · have e : a.1 = b.1 := Nat.le_antisymm h1 h2
    have ha' : a ∈ lens f := h.mem_iff.mp ha
    unfold lens at ha' hb
    obtain ⟨k, _, rfl⟩ := List.mem_map.mp ha'
    obtain ⟨j, _, rfl⟩ := List.mem_map.mp hb
    have e' : k = j := e
    rw [e']
  · have q := lens_sorted f
    rw [List.pairwise_map] at q
    exact q.imp fun z => Nat.le_of_lt z
/-- keys sorted -/
theorem lens_keys_eq {ks : List Nat} {f : Nat → Nat} (h : ks.Perm ((lens f).map (·.1))) (s : ks.Pairwise (· ≤ ·)) : ks = (lens f).map (·.1) :=
  List.Perm.eq_of_pairwise (le := fun a b : Nat => a ≤ b) (fun _ _ _ _ h1 h2 => Nat.le_antisymm h1 h2) s ((lens_sorted f).imp fun z => Nat.le_of_lt z) h
def IsMost (f : Nat → Nat) (m : Nat) : Prop := f m ≠ 0 ∧ ∀ k, f k ≠ 0 → k ≤ m
def IsFew (f : Nat → Nat) (m : Nat) : Prop := f m ≠ 0 ∧ ∀ k, f k ≠ 0 → m ≤ k
theorem IsMost.eq {f : Nat → Nat} {a b : Nat} (h : IsMost f a) (q : IsMost f b) : a = b := Nat.le_antisymm (q.2 a h.1) (h.2 b q.1)
theorem IsFew.eq {f : Nat → Nat} {a b : Nat} (h : IsFew f a) (q : IsFew f b) : a = b := Nat.le_antisymm (h.2 b q.1) (q.2 a h.1)

/-! ### all tuples of so many small heights -/
def univ : Nat → List (List Int)
  | 0 => [[]]
  | n + 1 => (univ n).flatMap fun l => ([-2, -1, 0, 1, 2, 3] : List Int).map fun x => x :: l
theorem univ_mem : ∀ (g : List Int), (∀ x ∈ g, -2 ≤ x ∧ x ≤ 3) → g ∈ univ g.length
  | [], _ => List.mem_singleton.mpr rfl
  | x :: r, h => by
    have h1 := h x (List.mem_cons_self ..)
    have h2 := univ_mem r fun y hy => h y (List.mem_cons_of_mem _ hy)
    refine List.mem_flatMap.mpr ⟨r, h2, List.mem_map.mpr ⟨x, ?_, rfl⟩⟩
    have c : x = -2 ∨ x = -1 ∨ x = 0 ∨ x = 1 ∨ x = 2 ∨ x = 3 := by omega
    rcases c with rfl | rfl | rfl | rfl | rfl | rfl <;> decide
theorem univ_len : ∀ n, (univ n).length = 6 ^ n
  | 0 => rfl
  | n + 1 => by
    show ((univ n).flatMap _).length = _
    rw [Nat.pow_succ, ← univ_len n]
    induction univ n with
    | nil => rfl
    | cons a r ih =>
      rw [List.flatMap_cons, List.length_append, ih, List.length_map, List.length_cons]
      show 6 + r.length * 6 = (r.length + 1) * 6
      omega
theorem few_hs {n : Nat} (h4 : n ≤ 4) {l : List (List Int)} (nd : l.Nodup) (h : ∀ g ∈ l, Hs n g) : l.length ≤ 1296 := by
  have q := nd.length_le_of_subset (l₂ := univ n) fun g hg => by
    have e := univ_mem g (h g hg).rng
    rw [(h g hg).len] at e
    exact e
  rw [univ_len] at q
  have : 6 ^ n ≤ 6 ^ 4 := Nat.pow_le_pow_right (by decide) h4
  have e : (6 : Nat) ^ 4 = 1296 := by decide
  omega
end Sto

/-! part KMath4 -/
set_option Elab.async false
set_option linter.all false
namespace Sto
/-! ### what hangs together -/
def hIn (lot : List Nat) (s : List Nat × List Nat) (o : Nat) : List Nat × List Nat := if o ∈ lot ∧ o ∉ s.1 then (s.1 ++ [o], s.2 ++ [o]) else s
def hStep (ts : List Tie) (lot : List Nat) (s : List Nat × List Nat) : List Nat × List Nat := (nb ts (s.2.getLastD 0)).foldl (hIn lot) (s.1, s.2.dropLast)
/-- found, with so many turns at most, where no list grows beyond 50 -/
def hRun (ts : List Tie) (lot : List Nat) : Nat → List Nat × List Nat → Option (List Nat)
  | 0, _ => none
  | m + 1, s => if s.1.length ≤ 50 ∧ s.2.length ≤ 50 then (if s.2 = [] then some s.1 else hRun ts lot m (hStep ts lot s)) else none
def hang (ts : List Tie) (p : Nat) (lot : List Nat) : Option (List Nat) := (hRun ts lot 30 ([p], [p])).map sortN
/-- the parts of a lot -/
def pRun (ts : List Tie) : Nat → List Nat → Option (List (List Nat))
  | 0, _ => none
  | m + 1, left => match left with
    | [] => some []
    | x :: r => (hang ts x (x :: r)).bind fun p => (pRun ts m ((x :: r).filter fun y => decide (y ∉ p))).map fun q => p :: q
def partsM (n : Nat) (ts : List Tie) : List (List Nat) := (pRun ts 10 (List.range n)).getD []
def bools : Nat → List (List Bool)
  | 0 => [[]]
  | n + 1 => (bools n).flatMap fun l => [true :: l, false :: l]
theorem bools_mem : ∀ l : List Bool, l ∈ bools l.length
  | [] => List.mem_singleton.mpr rfl
  | b :: r => List.mem_flatMap.mpr ⟨r, bools_mem r, by cases b <;> simp⟩
def webChk (n : Nat) (ts : List Tie) : Bool :=
  decide (ts.length ≤ 6) && match pRun ts 10 (List.range n) with
  | none => false
  | some ps => ((List.range n).all fun p => ps.any fun part => decide (p ∈ part)) && (ps.all fun part => decide (part ≠ []) && decide (part.length ≤ 4) && part.all fun p => decide (p < n)) &&
      (ts.all fun t => ps.all fun part => decide (t.1 ∈ part) == decide (t.2 ∈ part)) && decide (ps.flatten.Nodup) &&
      ((bools n).all fun c => !(ts.all fun t => c.getD t.1 false == c.getD t.2 false) || ps.all fun part => part.all fun a => part.all fun b => c.getD a false == c.getD b false)
def prs : Nat → List Tie
  | 0 => []
  | 1 => []
  | 2 => [(0, 1)]
  | 3 => [(0, 1), (0, 2), (1, 2)]
  | _ => [(0, 1), (0, 2), (0, 3), (1, 2), (1, 3), (2, 3)]
def subs {α : Type} : List α → List (List α)
  | [] => [[]]
  | x :: r => subs r ++ (subs r).map fun l => x :: l
theorem chk1 : (subs (prs 1)).all (webChk 1) = true := by decide +kernel
theorem chk2 : (subs (prs 2)).all (webChk 2) = true := by decide +kernel
theorem chk3 : (subs (prs 3)).all (webChk 3) = true := by decide +kernel
theorem chk4 : (subs (prs 4)).all (webChk 4) = true := by decide +kernel
theorem subs_mem {α : Type} {r : α → α → Prop} (as : ∀ a b, r a b → r b a → False) : ∀ (L l : List α), L.Pairwise r → l.Pairwise r → (∀ x ∈ l, x ∈ L) → l ∈ subs L
  | [], l, _, _, h => by
    cases l with
    | nil => exact List.mem_singleton.mpr rfl
    | cons a r => exact nomatch h a (List.mem_cons_self ..)
  | x :: L, l, hL, hl, h => by
    obtain ⟨h1, h2⟩ := List.pairwise_cons.mp hL
    unfold subs
    rw [List.mem_append]
    cases l with
    | nil => exact .inl (subs_mem as L [] h2 .nil fun _ z => nomatch z)
    | cons t l =>
      obtain ⟨q1, q2⟩ := List.pairwise_cons.mp hl
      rcases List.mem_cons.mp (h t (List.mem_cons_self ..)) with e | e
      · subst e
        refine .inr (List.mem_map.mpr ⟨l, subs_mem as L l h2 q2 fun y hy => ?_, rfl⟩)
        rcases List.mem_cons.mp (h y (List.mem_cons_of_mem _ hy)) with e | e
        · subst e
          exact (as _ _ (q1 _ hy) (q1 _ hy)).elim
        · exact e
      · refine .inl (subs_mem as L (t :: l) h2 hl fun y hy => ?_)
        rcases List.mem_cons.mp (h y hy) with e2 | e2
        · subst e2
          rcases List.mem_cons.mp hy with e3 | e3
          · rw [e3]; exact e
          · exact (as _ _ (h1 t e) (q1 _ e3)).elim
        · exact e2
theorem Ok.prs_mem {n : Nat} {ts : List Tie} (w : Ok n ts) : ts ∈ subs (prs n) := by
  refine subs_mem (r := fun a b : Tie => a.1 < b.1 ∨ (a.1 = b.1 ∧ a.2 < b.2)) (fun a b h1 h2 => by omega) (prs n) ts ?_ w.srt fun x hx => ?_
  · have h := w.n4
    have h' := w.n1
    have c : n = 1 ∨ n = 2 ∨ n = 3 ∨ n = 4 := by omega
    rcases c with rfl | rfl | rfl | rfl <;> decide
  · obtain ⟨a, b⟩ := x
    have q := w.tie _ hx
    simp only at q
    have h := w.n4
    have c : n = 1 ∨ n = 2 ∨ n = 3 ∨ n = 4 := by omega
    have ca : a = 0 ∨ a = 1 ∨ a = 2 := by omega
    have cb : b = 1 ∨ b = 2 ∨ b = 3 := by omega
    rcases c with rfl | rfl | rfl | rfl <;> rcases ca with rfl | rfl | rfl <;> rcases cb with rfl | rfl | rfl <;> first | decide | omega
theorem Ok.chk {n : Nat} {ts : List Tie} (w : Ok n ts) : webChk n ts = true := by
  have h := w.n4
  have h' := w.n1
  have m := w.prs_mem
  have c : n = 1 ∨ n = 2 ∨ n = 3 ∨ n = 4 := by omega
  rcases c with rfl | rfl | rfl | rfl
  · exact List.all_eq_true.mp chk1 ts m
  · exact List.all_eq_true.mp chk2 ts m
  · exact List.all_eq_true.mp chk3 ts m
  · exact List.all_eq_true.mp chk4 ts m
structure Parts (n : Nat) (ts : List Tie) (ps : List (List Nat)) : Prop where
  run : pRun ts 10 (List.range n) = some ps
  all : ∀ p, p < n → ∃ part ∈ ps, p ∈ part
  some_ : ∀ part ∈ ps, part ≠ [] ∧ part.length ≤ 4 ∧ ∀ p ∈ part, p < n
  tie : ∀ t ∈ ts, ∀ part ∈ ps, t.1 ∈ part ↔ t.2 ∈ part
  nd : ps.flatten.Nodup
  flat : ∀ c : List Bool, c.length = n → (∀ t ∈ ts, c.getD t.1 false = c.getD t.2 false) → ∀ part ∈ ps, ∀ a ∈ part, ∀ b ∈ part, c.getD a false = c.getD b false
theorem Ok.parts {n : Nat} {ts : List Tie} (w : Ok n ts) : Parts n ts (partsM n ts) := by
  have h := w.chk
  unfold webChk at h
  unfold partsM
  cases e : pRun ts 10 (List.range n) with
  | none => rw [e] at h; simp at h
  | some ps =>
    rw [e] at h
    simp only [Bool.and_eq_true, List.all_eq_true, List.any_eq_true, decide_eq_true_eq, beq_iff_eq, List.mem_range, Bool.or_eq_true, Bool.not_eq_true'] at h
    obtain ⟨_, ⟨⟨⟨h1, h2⟩, h3⟩, h4⟩, h5⟩ := h
    refine ⟨e, h1, fun part hp => ⟨(h2 part hp).1.1, (h2 part hp).1.2, (h2 part hp).2⟩, fun t ht part hp => ?_, h4, fun c hc hf part hp a ha b hb => ?_⟩
    · have q := h3 t ht part hp
      by_cases c : t.1 ∈ part
      · exact ⟨fun _ => of_decide_eq_true (by rw [← q]; exact decide_eq_true c), fun _ => c⟩
      · refine ⟨fun z => (c z).elim, fun z => ?_⟩
        rw [decide_eq_false c] at q
        exact (of_decide_eq_false q.symm z).elim
    · have q := h5 c (by rw [← hc]; exact bools_mem c)
      rcases q with q | q
      · have z : (ts.all fun t => c.getD t.1 false == c.getD t.2 false) = true := List.all_eq_true.mpr fun t ht => by rw [hf t ht]; exact beq_self_eq_true _
        rw [z] at q
        cases q
      · exact q part hp a ha b hb

/-! ### the lowest heights -/
def lowL : List Int → Int
  | [] => 0
  | [x] => x
  | x :: y :: r => if x ≤ lowL (y :: r) then x else lowL (y :: r)
theorem lowL_is : ∀ {l : List Int}, l ≠ [] → lowL l ∈ l ∧ ∀ y ∈ l, lowL l ≤ y
  | [], h => (h rfl).elim
  | [x], _ => ⟨List.mem_singleton.mpr rfl, fun y hy => by rw [List.mem_singleton.mp hy]; exact Int.le_refl _⟩
  | x :: y :: r, _ => by
    obtain ⟨h1, h2⟩ := lowL_is (l := y :: r) (fun z => nomatch z)
    unfold lowL
    split
    · rename_i c
      refine ⟨List.mem_cons_self .., fun z hz => ?_⟩
      rcases List.mem_cons.mp hz with rfl | hz
      · exact Int.le_refl _
      · exact Int.le_trans c (h2 z hz)
    · rename_i c
      refine ⟨List.mem_cons_of_mem _ h1, fun z hz => ?_⟩
      rcases List.mem_cons.mp hz with rfl | hz
      · omega
      · exact h2 z hz
theorem lowL_eq {l : List Int} {m : Int} (h : m ∈ l) (q : ∀ y ∈ l, m ≤ y) : m = lowL l := by
  have ne : l ≠ [] := fun z => by rw [z] at h; cases h
  obtain ⟨h1, h2⟩ := lowL_is ne
  exact Int.le_antisymm (q _ h1) (h2 _ h)
def lowP (hs : List Int) (part : List Nat) : Int := lowL (part.map (ht hs))
def setAll (f : List Int) (part : List Nat) (v : Int) : List Int := part.foldl (fun f p => f.set p v) f
def lowsF (hs : List Int) (f : List Int) (ps : List (List Nat)) : List Int := ps.foldl (fun f part => setAll f part (lowP hs part)) f
def lowsM (n : Nat) (ts : List Tie) (hs : List Int) : List Int := lowsF hs (List.replicate n 0) (partsM n ts)
theorem setAll_len : ∀ (part : List Nat) (f : List Int) (v : Int), (setAll f part v).length = f.length
  | [], _, _ => rfl
  | p :: r, f, v => by
    show (setAll (f.set p v) r v).length = _
    rw [setAll_len r, List.length_set]
theorem ht_set {f : List Int} {p q : Nat} {v : Int} (h : p < f.length) : ht (f.set p v) q = if q = p then v else ht f q := by
  unfold ht
  rw [List.getD_eq_getElem?_getD, List.getElem?_set]
  by_cases c : q = p
  · subst c
    rw [if_pos rfl, if_pos h, if_pos rfl]
    rfl
  · rw [if_neg (fun z => c z.symm), if_neg c, List.getD_eq_getElem?_getD]
theorem setAll_get : ∀ (part : List Nat) (f : List Int) (v : Int) (q : Nat), (∀ p ∈ part, p < f.length) → ht (setAll f part v) q = if q ∈ part then v else ht f q
  | [], f, v, q, _ => by
    rw [if_neg (fun z => nomatch z)]
    rfl
  | p :: r, f, v, q, h => by
    show ht (setAll (f.set p v) r v) q = _
    rw [setAll_get r _ v q fun x hx => by rw [List.length_set]; exact h x (List.mem_cons_of_mem _ hx), ht_set (h p (List.mem_cons_self ..))]
    by_cases c : q ∈ r
    · rw [if_pos c, if_pos (List.mem_cons_of_mem _ c)]
    · rw [if_neg c]
      by_cases e : q = p
      · rw [if_pos e, if_pos (by rw [e]; exact List.mem_cons_self ..)]
      · rw [if_neg e, if_neg fun z => (List.mem_cons.mp z).elim e c]
theorem lowsF_len (hs : List Int) : ∀ (ps : List (List Nat)) (f : List Int), (lowsF hs f ps).length = f.length
  | [], _ => rfl
  | p :: r, f => by
    show (lowsF hs (setAll f p _) r).length = _
    rw [lowsF_len hs r, setAll_len]
theorem lowsF_get (hs : List Int) : ∀ (ps : List (List Nat)) (f : List Int) (q : Nat), (∀ part ∈ ps, ∀ p ∈ part, p < f.length) → ps.flatten.Nodup →
    (∀ part ∈ ps, q ∈ part → ht (lowsF hs f ps) q = lowP hs part) ∧ ((∀ part ∈ ps, q ∉ part) → ht (lowsF hs f ps) q = ht f q)
  | [], f, q, _, _ => ⟨fun _ z => (nomatch z), fun _ => rfl⟩
  | a :: r, f, q, h, nd => by
    rw [List.flatten_cons, List.nodup_append] at nd
    obtain ⟨_, n2, n3⟩ := nd
    have e : lowsF hs f (a :: r) = lowsF hs (setAll f a (lowP hs a)) r := rfl
    have g := lowsF_get hs r (setAll f a (lowP hs a)) q (fun part hp p hq => by rw [setAll_len]; exact h part (List.mem_cons_of_mem _ hp) p hq) n2
    have s := setAll_get a f (lowP hs a) q (h a (List.mem_cons_self ..))
    refine ⟨fun part hp hq => ?_, fun hn => ?_⟩
    · rw [e]
      rcases List.mem_cons.mp hp with rfl | hp
      · rw [g.2 fun part' hp' hq' => n3 q hq q (List.mem_flatten.mpr ⟨part', hp', hq'⟩) rfl, s, if_pos hq]
      · exact g.1 part hp hq
    · rw [e, g.2 fun part hp => hn part (List.mem_cons_of_mem _ hp), s, if_neg (hn a (List.mem_cons_self ..))]
section
variable {n : Nat} {ts : List Tie} {h0 : List Int}
/-- what a part's least height is, stays -/
def Keeps (part : List Nat) (m : Int) (g : List Int) : Prop := (∃ p ∈ part, ht g p = m) ∧ ∀ p ∈ part, m ≤ ht g p
theorem keeps_next (w : Ok n ts) {ps : List (List Nat)} (P : Parts n ts ps) {part : List Nat} (hp : part ∈ ps) {m : Int} {g g' : List Int} (hg : Hs n g) (k : Keeps part m g) (h : g' ∈ nexts n ts g) : Keeps part m g' := by
  obtain ⟨s, hs, rfl⟩ := List.mem_map.mp h
  obtain ⟨h1, h2, h3⟩ := mem_stp.mp hs
  have hl : s.1 < g.length := by rw [hg.len]; exact h1
  have both : s.1 ∈ part → s.2 ∈ part := by
    intro hm
    obtain ⟨t, ht', c⟩ := mem_nb.mp h2
    have q := P.tie t ht' part hp
    rcases c with ⟨c1, c2⟩ | ⟨c1, c2⟩
    · rw [c2]; exact q.mp (by rw [← c1]; exact hm)
    · rw [c2]; exact q.mpr (by rw [← c1]; exact hm)
  obtain ⟨⟨p, hpp, hpe⟩, hlow⟩ := k
  refine ⟨⟨p, hpp, ?_⟩, fun q hq => ?_⟩
  · rw [aft_get hl]
    by_cases c : p = s.1
    · subst c
      have := hlow s.2 (both hpp)
      omega
    · rw [if_neg c]; exact hpe
  · rw [aft_get hl]
    by_cases c : q = s.1
    · rw [if_pos c]
      exact hlow s.2 (both (by rw [← c]; exact hq))
    · rw [if_neg c]; exact hlow q hq
/-- no stoop: neighbors are alike -/
theorem flat_of {g : List Int} (w : Ok n ts) (h : stp n ts g = []) : ∀ t ∈ ts, ht g t.1 = ht g t.2 := by
  intro t ht'
  have q := w.tie t ht'
  have no : ∀ s : Nat × Nat, s ∈ stp n ts g → False := fun s hs => by rw [h] at hs; cases hs
  have a : ¬ ht g t.2 < ht g t.1 := fun z => no (t.1, t.2) (mem_stp.mpr ⟨by show t.1 < n; omega, mem_nb.mpr ⟨t, ht', .inl ⟨rfl, rfl⟩⟩, z⟩)
  have b : ¬ ht g t.1 < ht g t.2 := fun z => no (t.2, t.1) (mem_stp.mpr ⟨q.2, mem_nb.mpr ⟨t, ht', .inr ⟨rfl, rfl⟩⟩, z⟩)
  omega
theorem flat_part {g : List Int} (w : Ok n ts) {ps : List (List Nat)} (P : Parts n ts ps) (h : stp n ts g = []) {part : List Nat} (hp : part ∈ ps) {a b : Nat} (ha : a ∈ part) (hb : b ∈ part) : ht g a = ht g b := by
  have f := flat_of w h
  have key := P.flat ((List.range n).map fun q => decide (ht g q = ht g a)) (by rw [List.length_map, List.length_range]) ?_ part hp a ha b hb
  · have at_ : ∀ q, q < n → ((List.range n).map fun q => decide (ht g q = ht g a)).getD q false = decide (ht g q = ht g a) := by
      intro q hq
      rw [List.getD_eq_getElem?_getD, List.getElem?_map, List.getElem?_range hq]
      rfl
    rw [at_ a ((P.some_ part hp).2.2 a ha), at_ b ((P.some_ part hp).2.2 b hb), decide_eq_true rfl] at key
    exact (of_decide_eq_true key.symm).symm
  · intro t ht'
    have q := w.tie t ht'
    have at_ : ∀ q, q < n → ((List.range n).map fun q => decide (ht g q = ht g a)).getD q false = decide (ht g q = ht g a) := by
      intro q hq
      rw [List.getD_eq_getElem?_getD, List.getElem?_map, List.getElem?_range hq]
      rfl
    rw [at_ t.1 (by omega), at_ t.2 q.2, f t ht']
theorem lowP_keeps {ps : List (List Nat)} (P : Parts n ts ps) {part : List Nat} (hp : part ∈ ps) : Keeps part (lowP h0 part) h0 := by
  have ne : part.map (ht h0) ≠ [] := fun z => (P.some_ part hp).1 (List.map_eq_nil_iff.mp z)
  obtain ⟨h1, h2⟩ := lowL_is ne
  obtain ⟨p, hp1, hp2⟩ := List.mem_map.mp h1
  exact ⟨⟨p, hp1, hp2⟩, fun q hq => h2 _ (List.mem_map.mpr ⟨q, hq, rfl⟩)⟩
theorem ext_ht {f g : List Int} (h1 : f.length = n) (h2 : g.length = n) (h : ∀ q, q < n → ht f q = ht g q) : f = g := by
  apply List.ext_getElem?
  intro i
  by_cases c : i < n
  · rw [ht_get (by omega), ht_get (by omega), h i c]
  · rw [List.getElem?_eq_none (by omega), List.getElem?_eq_none (by omega)]
/-- an outcome without a stoop is the lowest heights -/
theorem end_lows (w : Ok n ts) (q : Hs n h0) {g : List Int} (hg : Reach n ts h0 g) (he : stp n ts g = []) : g = lowsM n ts h0 := by
  have P := w.parts
  have G := reach_hs w q hg
  have len : (lowsM n ts h0).length = n := by
    unfold lowsM
    rw [lowsF_len, List.length_replicate]
  refine ext_ht G.len len fun p hp => ?_
  obtain ⟨part, hpart, hmem⟩ := P.all p hp
  have k := reach_least (n := n) (ts := ts) (h0 := h0) (P := fun g => Hs n g ∧ Keeps part (lowP h0 part) g) ⟨q, lowP_keeps P hpart⟩ (fun f f' k m => ⟨(k.1.next w m).1, keeps_next w P hpart k.1 k.2 m⟩) hg
  obtain ⟨⟨r, hr, er⟩, _⟩ := k.2
  rw [flat_part w P he hpart hmem hr, er]
  have bd : ∀ part ∈ partsM n ts, ∀ p ∈ part, p < (List.replicate n (0 : Int)).length := fun part hp p hq => by
    rw [List.length_replicate]
    exact (P.some_ part hp).2.2 p hq
  exact ((lowsF_get h0 (partsM n ts) (List.replicate n 0) p bd P.nd).1 part hpart hmem).symm
/-- there is one -/
theorem end_is (w : Ok n ts) (q : Hs n h0) : ∃ g, Reach n ts h0 g ∧ stp n ts g = [] := by
  have step : ∀ m : Nat, ∀ k, m + k = 21 → lay n ts h0 k ≠ [] → ∃ g, Reach n ts h0 g ∧ stp n ts g = [] := by
    intro m
    induction m with
    | zero =>
      intro k hk h
      have := lay_end w q h
      omega
    | succ m ih =>
      intro k hk h
      obtain ⟨g, hg⟩ := List.exists_mem_of_ne_nil _ h
      by_cases c : stp n ts g = []
      · exact ⟨g, ⟨k, hg⟩, c⟩
      · refine ih (k + 1) (by omega) fun z => ?_
        obtain ⟨s, hs⟩ := List.exists_mem_of_ne_nil _ c
        have m : aft g s ∈ lay n ts h0 (k + 1) := List.mem_flatMap.mpr ⟨g, hg, List.mem_map.mpr ⟨s, hs, rfl⟩⟩
        rw [z] at m
        cases m
  exact step 21 0 rfl fun z => nomatch z
theorem lows_end (w : Ok n ts) (q : Hs n h0) : Reach n ts h0 (lowsM n ts h0) ∧ stp n ts (lowsM n ts h0) = [] := by
  obtain ⟨g, h1, h2⟩ := end_is w q
  rw [← end_lows w q h1 h2]
  exact ⟨h1, h2⟩
end
end Sto

/-! part KR1 -/
set_option Elab.async false
set_option linter.all false
set_option maxRecDepth 100000
set_option maxHeartbeats 4000000
namespace L2
open PySem PySem.Spec PyProof.Rows
section
variable {X : Cx}
/-- {k: v}, k a tuple of ints and texts -/
def tDispT (tk tv : TE) : TE := fun σ H Q => ∀ p, H p = none → tPairs [(tk, tv)] σ (upd H p (.dT [])) fun ps H2 => H2 p = some (.dT []) ∧ ∃ (y : V) (b : Addr) (k : List Key), ps = [(.ref b, y)] ∧ H2 b = some (.tup (k.map kV)) ∧ Q (.ref p) (upd H2 p (.dT [(k, y)]))
theorem pe_dispT {pos : Pos} {ek ev : Expr} {tk tv : TE} (hu : X.A.units < cLine) (hk : PE X ek tk) (hv : PE X ev tv) : PE X (.Dict [some ek] [ev] pos) (tDispT tk tv) := by
  refine ⟨fun pins s σ H Q I q => ?_⟩
  have hn := I.hok.fresh (Nat.le_refl s.heap.objs.size)
  have I1 := I.laid (a := s.heap.objs.size) (o := .dT []) (h' := s.heap.push { cls := .type "dict", data := .dict #[] }) (t' := s.toks) (fun _ _ q => Heap.get?_push_of_some _ q) (Nat.le_refl _) (dt_empty s.heap I.big)
  have pp : PPs X pos [some ek] [ev] [(tk, tv)] := pps_cons hk hv pps_nil
  have z1 := zip_pairTrees [some ek] [ev] X.env pos (by rfl) (by rfl)
  have z2 : (pairTrees [some ek] [ev] X.env pos).length = 1 := pairTrees_length [some ek] [ev] X.env pos (by rfl) (by rfl)
  rw [arm_eval_Dict, z1, dictDisplay_pairs (pairTrees [some ek] [ev] X.env pos) (fun e => by rw [e] at z2; exact absurd z2 (by simp)) (by omega)]
  refine wpAny_bind (wpAny_standAt (wpAny_bind (wpAny_subDictH (knd := tupleKind (mixKind X.prog X.w)) (Q := fun d s' => wpAny (model X.prog X.w) X.A (pure (Value.ref d)) (EP X pins σ Q) X.xe s') hu (by omega) ?_)))
  refine thn (pp.run pins _ σ _ _ I1 (q _ hn)) fun ws s2 ⟨ps, H2, I2, rel, e, y, b, k, ep, hb, q2⟩ => ?_
  subst ep
  cases rel with
  | @cons _ vv _ vs r1 r2 =>
    cases r2
    obtain ⟨rk, rv⟩ := r1
    obtain ⟨v1, v2⟩ := vv
    cases (show v1 = Value.ref b from rk)
    obtain ⟨z, hd, xs, rl, dd⟩ := dt_of I2.hok e
    cases rl
    refine ⟨[(k, b, v2)], ⟨rfl, rfl, key_of I2.hok hb, trivial⟩, dd, fun h' tk' dd' hs => wpAny_pure ⟨.ref s.heap.objs.size, _, ?_, rfl, q2⟩⟩
    obtain ⟨qo, es, ep, hq, h2, h3, h4, _, h5⟩ := dd'
    refine d_write (t' := tk') I2 (by rw [e]; exact True.intro) hs ⟨qo, hq⟩ ⟨?_, hd, [(k, b, v2)], ?_, qo, es, ep, hq, h2, h3, h4, h5⟩
    · show 1 ≤ sizeLine; rw [sizeLine_eq]; decide
    · refine .cons ⟨rfl, ?_, rv⟩ .nil
      show upd H2 s.heap.objs.size _ b = _
      rw [upd_ne (ne_of hb e (fun z => nomatch z))]
      exact hb
end
end L2

/-! part KR2 -/
set_option Elab.async false
set_option linter.all false
set_option maxRecDepth 100000
set_option maxHeartbeats 4000000
namespace L2
open PySem PySem.Spec PyProof.Rows
open DX (itemsO itemsO_ok takeT)
section
variable {X : Cx}
/-! ### d.items(), d.values() of a dict with int and text keys, as views -/
def rItemsK : V → List V → Hp → VK → Prop := fun x xs H Q => ∃ (a : Addr) (kvs : List (Key × V)), x = .ref a ∧ xs = [] ∧ H a = some (.dK kvs) ∧ ∀ p, H p = none → Q (.ref p) (upd H p (itemsO p a))
theorem mt_itemsK : MtR X "dict.items" rItemsK := by
  intro pins s σ H x xs v us Q I rx rxs h
  obtain ⟨a, kvs, rfl, rfl, ha, q⟩ := h
  cases rx
  cases rxs
  obtain ⟨z, hd, vs, rel, dd⟩ := dk_of I.hok ha
  obtain ⟨ep, o, es, ho, hx, hdat, _⟩ := dd.dictAt
  refine DT.callItems (es := es) (ep := ep) hd ⟨o, ho, hx, hdat⟩ ?_
  have hf : H s.heap.objs.size = none := I.hok.fresh (Nat.le_refl _)
  exact ⟨.ref s.heap.objs.size, upd H s.heap.objs.size (itemsO s.heap.objs.size a), I.laid (t' := s.toks) (fun b u e => Heap.get?_push_of_some _ e) (Nat.le_refl _) (itemsO_ok (Heap.get?_push_size _ rfl)), rfl, q _ hf⟩
def valsO (p d : Addr) : HO := .ext fun h => h.IsValuesView p d
theorem valsO_ok {P : Program} {w : World} {H : Hp} {h : Heap} {p d : Addr} (e : h.get? p = some { cls := .type "dict_values", data := .fields #[.ref d] }) : ObjOk P w H h p (valsO p d) :=
  ⟨⟨_, e, rfl, rfl⟩, ⟨_, e⟩, fun h1 h2 x k => let ⟨o, ho, r⟩ := x; ⟨o, k o ho, r⟩⟩
def rValsK : V → List V → Hp → VK → Prop := fun x xs H Q => ∃ (a : Addr) (kvs : List (Key × V)), x = .ref a ∧ xs = [] ∧ H a = some (.dK kvs) ∧ ∀ p, H p = none → Q (.ref p) (upd H p (valsO p a))
theorem mt_valuesK : MtR X "dict.values" rValsK := by
  intro pins s σ H x xs v us Q I rx rxs h
  obtain ⟨a, kvs, rfl, rfl, ha, q⟩ := h
  cases rx
  cases rxs
  obtain ⟨z, hd, vs, rel, dd⟩ := dk_of I.hok ha
  refine call_meetsIn PySem.F.slot_dict_values dd.typeIs PySem.F.entry_dict_values (PySem.F.args_dict_values_1 _) (meets_dict_values (mixKind X.prog X.w) a hd) ⟨⟨vs, dd⟩, ?_⟩
  have hf : H s.heap.objs.size = none := I.hok.fresh (Nat.le_refl _)
  exact ⟨.ref s.heap.objs.size, upd H s.heap.objs.size (valsO s.heap.objs.size a), I.laid (t' := s.toks) (fun b u e => Heap.get?_push_of_some _ e) (Nat.le_refl _) (valsO_ok (Heap.get?_push_size _ rfl)), rfl, q _ hf⟩
/-- sum(d.values()) -/
def rSumV : List V → Hp → VK → Prop := fun vs H Q => ∃ (p a : Addr) (kvs : List (Key × V)) (is : List Int), vs = [V.ref p] ∧ H p = some (valsO p a) ∧ H a = some (.dK kvs) ∧ kvs.map (·.2) = is.map V.int ∧ Q (.int is.sum) H
theorem cr_sumV (hc : X.calm = true) : CallR X (.builtin "sum") rSumV := by
  intro pins s σ H vs us Q I r h
  obtain ⟨p, a, kvs, is, rfl, hp, ha, hv, q⟩ := h
  rw [Vals.ref1 r]
  have view : s.heap.IsValuesView p a := (show ObjOk X.prog X.w H s.heap p (valsO p a) from I.hok p _ hp).1
  obtain ⟨_, hsys, vs, rel, dof⟩ := dk_of I.hok ha
  obtain ⟨ep, dat⟩ := dof.dictAt
  obtain ⟨ob, es, ho, hex, hdat, hko, hpr, hnd⟩ := id dat
  have hlt : a < s.heap.objs.size := Heap.lt_size ho
  have hlv : vs.length = is.length := by
    have e1 := congrArg List.length hv
    rw [List.length_map, List.length_map] at e1
    rw [← e1]
    exact (KV.length rel).symm
  have hval : ∀ (i : Nat) (v : Value), (∃ k, vs[i]? = some (k, v)) → ∃ t, v = Value.int (is.getD i 0) t := fun i v ⟨k, hk⟩ => by
    obtain ⟨x, h1, h2⟩ := KV.at' rel hk
    have e1 : (kvs.map (·.2))[i]? = some x := by rw [List.getElem?_map, h1] <;> rfl
    rw [hv, List.getElem?_map] at e1
    obtain ⟨j, hj, e2⟩ := Option.map_eq_some_iff.mp e1
    subst e2
    obtain ⟨t, e3⟩ := h2
    refine ⟨t, ?_⟩
    rw [e3, List.getD_eq_getElem?_getD, hj] <;> rfl
  refine call_sum_walkG (wpAny_pyIter_values (knd := mixKind X.prog X.w) view dat ?_)
  refine ⟨_, _, _, _, _, _, _, rfl, Walks.dictValues (knd := mixKind X.prog X.w) (A := X.A.in1) (I.ok.hd hc) s.heap.objs.size a (Nat.ne_of_lt hlt) vs ep,
    ⟨⟨_, Heap.get?_push_size _ rfl, rfl, rfl⟩, dat.keep fun b u e => Heap.get?_push_of_some _ e⟩, fun b hb => ?_, hval, fun h' tk t' hk => ?_⟩
  · show b < (s.heap.push _).objs.size
    rw [Heap.size_push]
    rcases List.mem_cons.mp hb with e | hb
    · rw [e]
      exact Nat.lt_succ_self _
    · rw [List.mem_singleton.mp hb]
      exact Nat.lt_succ_of_lt hlt
  · have e : preSum (fun i => is.getD i 0) vs.length = is.sum := by
      rw [PyProof.Rows.preSum_getD, hlv, List.take_length]
    refine ⟨.int is.sum, H, I.kept (t' := tk) fun b u e => hk b u (fun hmem => ?_) (Heap.get?_push_of_some _ e), ⟨t', by rw [e]⟩, q⟩
    have e1 : b = s.heap.objs.size := List.mem_singleton.mp hmem
    have e2 := Heap.lt_size e
    rw [e1] at e2
    exact absurd e2 (Nat.lt_irrefl _)
/-- max(d), d a dict with int keys -/
def rMaxK : List V → Hp → VK → Prop := fun vs H Q => ∃ (a : Addr) (kvs : List (Key × V)) (is : List Int), vs = [V.ref a] ∧ H a = some (.dK kvs) ∧ kvs.map (·.1) = is.map Sum.inl ∧ is ≠ [] ∧ ∀ m, m ∈ is → (∀ j ∈ is, j ≤ m) → Q (.int m) H
theorem cr_maxK (hc : X.calm = true) : CallR X (.builtin "max") rMaxK := by
  intro pins s σ H vs us Q I r h
  obtain ⟨a, kvs, is, rfl, ha, hv, hne, q⟩ := h
  rw [Vals.ref1 r]
  obtain ⟨_, hsys, vs, rel, dof⟩ := dk_of I.hok ha
  obtain ⟨ep, dat⟩ := dof.dictAt
  obtain ⟨ob, es, ho, hex, hdat, hko, hpr, hnd⟩ := id dat
  have hlt : a < s.heap.objs.size := Heap.lt_size ho
  have hkeys : vs.map (·.1) = is.map Sum.inl := (KV.keys rel).symm.trans hv
  have hlv : vs.length = is.length := by
    have e1 := congrArg List.length hkeys
    rw [List.length_map, List.length_map] at e1
    exact e1
  have hlen : 0 < vs.length := by
    rw [hlv]
    exact List.length_pos_iff.mpr hne
  have hval : ∀ (i : Nat) (v : Value), (∃ k x, vs[i]? = some (k, x) ∧ (mixKind X.prog X.w).is k v = true) → ∃ t, v = Value.int (is.getD i 0) t := fun i v ⟨k, x, hk, hkey⟩ => by
    have e1 : (vs.map (·.1))[i]? = some k := by rw [List.getElem?_map, hk] <;> rfl
    rw [hkeys, List.getElem?_map] at e1
    obtain ⟨j, hj, e2⟩ := Option.map_eq_some_iff.mp e1
    subst e2
    have hi : Value.isInt j v = true := hkey
    obtain ⟨t, e3⟩ := Value.isInt_shape (k := j) (v := v) hi
    refine ⟨t, ?_⟩
    rw [e3, List.getD_eq_getElem?_getD, hj] <;> rfl
  refine call_max_walk (wpAny_pyIter_dict (knd := mixKind X.prog X.w) hsys dat ?_)
  refine ⟨_, _, _, _, _, _, _, rfl, Walks.dictKeys (knd := mixKind X.prog X.w) (A := X.A.in1) (I.ok.hd hc) s.heap.objs.size a (Nat.ne_of_lt hlt) vs ep,
    ⟨⟨_, Heap.get?_push_size _ rfl, rfl, rfl⟩, dat.keep fun b u e => Heap.get?_push_of_some _ e⟩, fun b hb => ?_, hlen, CmpOf.ints_gt (fun i => is.getD i 0) hval, fun v h' tk hP hk => ?_⟩
  · show b < (s.heap.push _).objs.size
    rw [Heap.size_push]
    rcases List.mem_cons.mp hb with e | hb
    · rw [e]
      exact Nat.lt_succ_self _
    · rw [List.mem_singleton.mp hb]
      exact Nat.lt_succ_of_lt hlt
  · obtain ⟨t, rfl⟩ := hval _ v hP
    obtain ⟨b1, b2⟩ := argBest_gt (fun i => is.getD i 0) (vs.length - 1)
    refine ⟨.int _, H, I.kept (t' := tk) fun b u e => hk b u (fun hmem => ?_) (Heap.get?_push_of_some _ e), ⟨t, rfl⟩, q _ ?_ fun j hj => ?_⟩
    · have e1 : b = s.heap.objs.size := List.mem_singleton.mp hmem
      have e2 := Heap.lt_size e
      rw [e1] at e2
      exact absurd e2 (Nat.lt_irrefl _)
    · have hb : argBest (fun i j => decide (is.getD i 0 > is.getD j 0)) (vs.length - 1) < is.length := by omega
      rw [List.getD_eq_getElem?_getD, List.getElem?_eq_getElem hb]
      exact List.getElem_mem hb
    · obtain ⟨i, hi, e⟩ := List.mem_iff_getElem.mp hj
      have e2 : is.getD i 0 = j := by rw [List.getD_eq_getElem?_getD, List.getElem?_eq_getElem hi, ← e] <;> rfl
      rw [← e2]
      exact b2 i (by omega)
end
/-! ### sorted(d.items()), ints to ints -/
theorem eachIs_map {α β : Type} {R : α → β → Prop} {f : β → α} (h : ∀ a b, R a b → a = f b) : ∀ {as : List α} {bs : List β}, PySem.W.EachIs R as bs → as = bs.map f
  | _, _, .nil => rfl
  | _, _, .cons r t => by rw [List.map_cons, h _ _ r, ← eachIs_map h t]
abbrev entI (e : Int × Int) : Key × V := (Sum.inl e.1, V.int e.2)
def rSortItK : List V → Hp → VK → Prop := fun vs H Q => ∃ (p a : Addr) (kv : List (Int × Int)), vs = [.ref p] ∧ H p = some (itemsO p a) ∧ H a = some (.dK (kv.map entI)) ∧
  ∀ (H' : Hp) (l : Addr) (ps : List (Addr × Int × Int)), (∀ b o, H b = some o → H' b = some o) → (ps.map (·.2)).Perm kv → (ps.map (·.2)).Pairwise (fun a b => a.1 < b.1 ∨ (a.1 = b.1 ∧ a.2 ≤ b.2)) → H l = none → H' l = some (.lst (ps.map fun z => V.ref z.1)) →
    (∀ z ∈ ps, H' z.1 = some (.tup [.int z.2.1, .int z.2.2])) → Q (.ref l) H'
section
variable {X : Cx}
theorem cr_sortItK (hc : X.calm = true) (hu : X.A.units + 64 < cLine) : CallR X (.builtin "sorted") rSortItK := by
  intro pins s σ H xs us Q I r h
  obtain ⟨p, a, kv, rfl, hp, ha, q⟩ := h
  obtain rfl := Vals.ref1 r
  have view : s.heap.IsItemsView p a := (show ObjOk X.prog X.w H s.heap p (itemsO p a) from I.hok p _ hp).1
  obtain ⟨z, hd, vs, rel, dd⟩ := dk_of I.hok ha
  obtain ⟨ep, o, es, ho, hx, hdat, hko, hpr, hnd⟩ := dd.dictAt
  have l1 : kv.length = vs.length := by
    have e := KV.length rel
    rw [List.length_map] at e
    exact e
  have l2 : es.size = vs.length := by
    have e := hpr.length
    rw [Array.length_toList] at e
    exact e
  have lz : kv.length ≤ sizeLine := by
    rw [List.length_map] at z
    exact z
  have hh : X.A.handled = none := I.ok.hd hc
  refine DT.sortedI (es := es) (ep := ep) hh view ⟨o, ho, hx, hdat⟩ (by omega) fun h' tk as hk hlt hl hG => ?_
  have lak : as.length = kv.length := by omega
  have nd : as.Nodup := List.Pairwise.imp (fun h => Nat.ne_of_lt h) hG.rise
  -- the pairs that were made
  have pr : ∀ (j : Nat) (b : Addr), as[j]? = some b → ∃ (e : Int × Int) (t u : Tok), kv[j]? = some e ∧ h'.get? b = some { cls := .type "tuple", data := .seq #[Value.int e.1 t, Value.int e.2 u] } := by
    intro j b hj
    obtain ⟨en, he, hg⟩ := hG.pairs j b hj
    have hjl : j < kv.length := by
      rw [← lak]
      exact (List.getElem?_eq_some_iff.mp hj).1
    have e1 : kv[j]? = some kv[j] := List.getElem?_eq_getElem hjl
    obtain ⟨⟨k, v⟩, hv⟩ : ∃ x, vs[j]? = some x := ⟨vs[j]'(by omega), List.getElem?_eq_getElem (by omega)⟩
    obtain ⟨x, hx1, hx2⟩ := KV.at' rel hv
    rw [List.getElem?_map, e1] at hx1
    have e2 : (Sum.inl kv[j].1, V.int kv[j].2) = (k, x) := Option.some.inj hx1
    obtain ⟨e3, e4⟩ := Prod.mk.inj e2
    subst e3 e4
    obtain ⟨u, rfl⟩ := hx2
    have he' : es.toList[j]? = some en := by rw [Array.getElem?_toList]; exact he
    obtain ⟨q1, q2⟩ := hpr.get? he' hv
    rcases keyIs_shape (show keyIs (Sum.inl kv[j].1) en.key = true from q1) with ⟨i, t, ek, ev⟩ | ⟨zz, t, ek, ev⟩
    · cases ek
      refine ⟨kv[j], t, u, e1, ?_⟩
      rw [hg, ev, q2]
    · cases ek
  -- the heap of the sort
  have hob : (h'.push { cls := .type "list", data := .seq (as.map Value.ref).toArray }).get? h'.objs.size = some (seqObj "list" (as.map Value.ref).toArray 0) := Heap.get?_push_size _ rfl
  have kb : ∀ b o, s.heap.get? b = some o → (h'.push { cls := .type "list", data := .seq (as.map Value.ref).toArray }).get? b = some o := fun b o e => Heap.get?_push_of_some _ (hk b o e)
  have ne0 : ∀ b o, h'.get? b = some o → b ≠ h'.objs.size := fun b o e => Nat.ne_of_lt (Heap.lt_size e)
  generalize hh2 : h'.push { cls := .type "list", data := .seq (as.map Value.ref).toArray } = h2 at hob kb ⊢
  have ka : ∀ b o, h'.get? b = some o → h2.get? b = some o := fun b o e => by rw [← hh2]; exact Heap.get?_push_of_some _ e
  have idx : ∀ z' ∈ as.zip kv, ∃ j : Nat, as[j]? = some z'.1 ∧ kv[j]? = some z'.2 := by
    intro z' hz'
    obtain ⟨j, hj⟩ := List.mem_iff_getElem?.mp hz'
    exact ⟨j, List.getElem?_zip_eq_some.mp hj⟩
  have eR : PySem.W.EachIs (fun v (b : Addr × Int × Int) => v = Value.ref b.1) (as.map Value.ref) (as.zip kv) := by
    have m1 : (as.zip kv).map (·.1) = as := List.map_fst_zip (by omega)
    have := PySem.W.EachIs.of (R := fun v (b : Addr × Int × Int) => v = Value.ref b.1) (zs := (as.zip kv).map fun z => (Value.ref z.1, z)) (fun p hp => by
      obtain ⟨z', _, rfl⟩ := List.mem_map.mp hp
      rfl)
    rw [List.map_map, List.map_map] at this
    have e1 : List.map (Prod.fst ∘ fun z : Addr × Int × Int => (Value.ref z.1, z)) (as.zip kv) = as.map Value.ref := by
      rw [show (Prod.fst ∘ fun z : Addr × Int × Int => (Value.ref z.1, z)) = Value.ref ∘ (·.1) from rfl, ← List.map_map, m1]
    have e2 : List.map (Prod.snd ∘ fun z : Addr × Int × Int => (Value.ref z.1, z)) (as.zip kv) = as.zip kv := List.map_id _
    rw [e1, e2] at this
    exact this
  have tupAt : ∀ z' ∈ as.zip kv, ∃ t u, h2.get? z'.1 = some { cls := .type "tuple", data := .seq #[Value.int z'.2.1 t, Value.int z'.2.2 u] } := by
    intro z' hz'
    obtain ⟨j, j1, j2⟩ := idx z' hz'
    obtain ⟨e, t, u, h1, h3⟩ := pr j _ j1
    have ee : e = z'.2 := Option.some.inj (h1.symm.trans j2)
    subst ee
    exact ⟨t, u, ka _ _ h3⟩
  refine thn (PySem.W.list_sort_data (A := X.A.in1) (s := { s with heap := h2, toks := tk }) (a := h'.objs.size) (n := 0) (vs := as.map Value.ref) (bs := as.zip kv) (enc := fun b => .tuple [.int b.2.1, .int b.2.2])
    (R := fun v b => v = Value.ref b.1 ∧ b ∈ as.zip kv) (Q := fun v s' => ∃ out : List (Addr × Int × Int), out.Perm (as.zip kv) ∧ (out.map (·.2)).Pairwise (fun a b => a.1 < b.1 ∨ (a.1 = b.1 ∧ a.2 ≤ b.2)) ∧ s' = { s with heap := sortedHeap h2 h'.objs.size (as.map Value.ref) (out.map fun z => Value.ref z.1).toArray, toks := tk }) hob ?_ ?_ ?_ ?_ ?_ ?_ ?_) fun _ s' z' => ?_
  · exact (PySem.W.each_mem eR).mono fun v b ⟨h1, h2⟩ => ⟨h1, h2⟩
  · refine (PySem.W.each_mem eR).mono fun v b ⟨h1, h3⟩ => ?_
    obtain ⟨t, u, hg⟩ := tupAt b h3
    refine ⟨[], ?_, fun z => nomatch z⟩
    rw [h1]
    exact .tuple hg rfl rfl (.cons (.int _ _) (.cons (.int _ _) .nil))
  · exact PySem.W.AllAlike.of fun b b' => by simp [PySem.W.alike, PySem.W.alikeAll]
  · exact PySem.W.Sortable.tuples fun b => ⟨_, _, rfl⟩
  · rw [List.length_zip]; omega
  · intro b _
    show X.A.units + 1 + 1 + PyData.depth (.tuple [.int b.2.1, .int b.2.2]) < cLine
    have : PyData.depth (.tuple [.int b.2.1, .int b.2.2]) ≤ 1 := by simp [PyData.depth, PyData.depthAll]
    omega
  · intro out hol hE
    refine ⟨(as.zip kv).mergeSort (PySem.W.dataLe false fun b : Addr × Int × Int => PyData.tuple [PyData.int b.snd.fst, PyData.int b.snd.snd]), List.mergeSort_perm _ _, ?_, ?_⟩
    · rw [PySem.W.dataLe_ii (fun b : Addr × Int × Int => b.2.1) (fun b => b.2.2), List.pairwise_map]
      refine (List.pairwise_mergeSort (le := fun p q : Addr × Int × Int => decide (p.2.1 < q.2.1 ∨ (p.2.1 = q.2.1 ∧ p.2.2 ≤ q.2.2))) (fun a b c h1 h2 => ?_) (fun a b => ?_) _).imp fun h => of_decide_eq_true h
      · have g1 := of_decide_eq_true h1
        have g2 := of_decide_eq_true h2
        exact decide_eq_true (by omega)
      · rw [Bool.or_eq_true]
        by_cases c : a.2.1 < b.2.1 ∨ (a.2.1 = b.2.1 ∧ a.2.2 ≤ b.2.2)
        · exact .inl (decide_eq_true c)
        · exact .inr (decide_eq_true (by omega))
    · have e := eachIs_map (f := fun z : Addr × Int × Int => Value.ref z.1) (fun a b h => h.1) hE
      rw [← e]
  · obtain ⟨ps, o1, o2, rfl⟩ := z'
    generalize hout : (ps.map fun z => Value.ref z.1).toArray = out
    show EP X pins σ Q (.ref h'.objs.size) { s with heap := sortedHeap h2 h'.objs.size (as.map Value.ref) out, toks := tk }
    have hperm : (ps.map (·.2)).Perm kv := by
      have e := o1.map (·.2)
      have m2 : (as.zip kv).map (·.2) = kv := List.map_snd_zip (by omega)
      rw [m2] at e
      exact e
    have kF : ∀ b o, b ≠ h'.objs.size → h2.get? b = some o → (sortedHeap h2 h'.objs.size (as.map Value.ref) out).get? b = some o := fun b o hb e => (PyProof.Rows.sortedHeap_old hb (Heap.lt_size e)).trans e
    have kS : ∀ b o, s.heap.get? b = some o → (sortedHeap h2 h'.objs.size (as.map Value.ref) out).get? b = some o := fun b o e => kF b o (ne0 _ _ (hk b o e)) (kb b o e)
    obtain ⟨eF, heF⟩ := PyProof.Rows.sortedHeap_at (vs := as.map Value.ref) (out := out) hob
    have I1 : Inv X pins σ H { s with heap := sortedHeap h2 h'.objs.size (as.map Value.ref) out, toks := tk } := I.kept (t' := tk) kS
    have hn0 : H h'.objs.size = none := I.hok.fresh (Nat.le_of_lt hlt)
    have hlen : (ps.map fun z => V.ref z.1).length ≤ sizeLine := by
      have e := hperm.length_eq
      rw [List.length_map] at e
      rw [List.length_map]
      omega
    have rv : Vals (ps.map fun z => V.ref z.1) out.toList := by
      rw [← hout]
      exact vals_maps (fun z : Addr × Int × Int => V.ref z.1) (fun z => Value.ref z.1) ps fun _ _ => rfl
    have I2 : Inv X pins σ (upd H h'.objs.size (.lst (ps.map fun z => V.ref z.1))) { s with heap := sortedHeap h2 h'.objs.size (as.map Value.ref) out, toks := tk } :=
      I1.take (h' := sortedHeap h2 h'.objs.size (as.map Value.ref) out) (t' := tk) (fun b ob _ e => e) (I.fpOk (Nat.le_of_lt hlt) hn0) ⟨hlen, out.toList, eF, rv, heF⟩
    obtain ⟨H2, I3, g, qt⟩ := takeT (P := fun b vs => ∃ (j : Nat) (e : Int × Int), as[j]? = some b ∧ kv[j]? = some e ∧ vs = [.int e.1, .int e.2]) I as _ I2 nd fun b hb => by
      obtain ⟨j, hj⟩ := List.mem_iff_getElem?.mp hb
      obtain ⟨e, t, u, he, hg⟩ := pr j b hj
      have hbl : s.heap.objs.size ≤ b := Nat.le_of_lt (hG.above b hb)
      refine ⟨hbl, ?_, [.int e.1, .int e.2], ⟨j, e, hj, he, rfl⟩, fun H3 => ⟨(by rw [sizeLine_eq]; show 2 ≤ 16777216; omega), [Value.int e.1 t, Value.int e.2 u], .cons ⟨_, rfl⟩ (.cons ⟨_, rfl⟩ .nil), ⟨_, kF _ _ (ne0 _ _ hg) (ka _ _ hg), rfl, 0, rfl⟩⟩⟩
      rw [upd_ne (ne0 _ _ hg)]
      exact I.hok.fresh hbl
    have gr : ∀ b o, H b = some o → H2 b = some o := fun b o e => g b o (by rw [upd_ne (ne_of_none e hn0)]; exact e)
    refine ⟨.ref h'.objs.size, H2, I3, rfl, q H2 h'.objs.size ps gr hperm o2 hn0 (g _ _ upd_same) fun z' hz' => ?_⟩
    obtain ⟨i, i1, i2⟩ := idx z' (o1.mem_iff.mp hz')
    obtain ⟨vs, ⟨j, e, j1, j2, ev⟩, hH⟩ := qt z'.1 (List.mem_of_getElem? i1)
    have eij : i = j := (List.getElem?_inj (List.getElem?_eq_some_iff.mp i1).1 nd).mp (i1.trans j1.symm)
    subst eij
    have ee : e = z'.2 := Option.some.inj (j2.symm.trans i2)
    rw [ev, ee] at hH
    exact hH
end
end L2

/-! part KR3 -/
set_option Elab.async false
set_option linter.all false
set_option maxRecDepth 100000
set_option maxHeartbeats 4000000
namespace PySem.W
open PySem PySem.Calls PyProof.Rows
/-- tuples of whole numbers, upwards -/
theorem dataLe_tups {β : Type} (x : β → List Int) : dataLe false (fun b => .tuple ((x b).map .int)) = fun p q => decide (x p ≤ x q) := by
  funext p q
  show (!dataLt (.tuple ((x q).map .int)) (.tuple ((x p).map .int))) = _
  rw [dataLt_tuple]
  show (!rowLt ((x q).map .int) ((x p).map .int)) = _
  rw [dataLt_ints]
  by_cases h : x q < x p
  · have h' : ¬ x p ≤ x q := fun r => List.not_lt.mpr r h
    simp [h, h']
  · have h' : x p ≤ x q := List.not_lt.mp h
    simp [h, h']
theorem le_tups_trans (a b c : List Int) : decide (a ≤ b) = true → decide (b ≤ c) = true → decide (a ≤ c) = true := fun h1 h2 => decide_eq_true (List.le_trans (of_decide_eq_true h1) (of_decide_eq_true h2))
theorem le_tups_total (a b : List Int) : (decide (a ≤ b) || decide (b ≤ a)) = true := by
  rw [Bool.or_eq_true]
  rcases List.le_total a b with h | h
  · exact .inl (decide_eq_true h)
  · exact .inr (decide_eq_true h)
end PySem.W
namespace L2
open PySem PySem.Spec PyProof.Rows
section
variable {X : Cx}
theorem eachIs_fst {ks : List (Addr × List Int)} : PySem.W.EachIs (fun v (b : Addr × List Int) => v = Value.ref b.1) (ks.map fun z => Value.ref z.1) ks := by
  induction ks with
  | nil => exact .nil
  | cons a r ih => exact .cons rfl ih
theorem reads_tup {P : Program} {w : World} {H : Hp} {h : Heap} {a : Addr} {ns : List Int} (ok : HOk P w H h) (e : H a = some (.tup (ns.map V.int))) : PySem.Reads h (.ref a) (.tuple (ns.map .int)) [] := by
  obtain ⟨_, its, r, o, h1, h2, n, h3⟩ := (show ObjOk P w H h a (.tup (ns.map V.int)) from ok a _ e)
  have all : ∀ (ns : List Int) (its : List Value), Vals (ns.map V.int) its → PySem.ReadsAll h its (ns.map .int) [] := by
    intro ns
    induction ns with
    | nil => intro its r; cases r; exact .nil
    | cons n ns ih =>
      intro its r
      cases r with
      | cons r rr =>
        obtain ⟨t, rfl⟩ := r
        exact .cons (as := []) (.int _ _) (ih _ rr)
  exact .tuple h1 h2 h3 (by simpa using all ns its r)
/-- what sorting a row of tuples of ints leaves -/
theorem sorted_tups_end {ks : List (Addr × List Int)} {out : List Value} (hE : PySem.W.EachIs (fun v (b : Addr × List Int) => v = Value.ref b.1) out (ks.mergeSort (PySem.W.dataLe false fun b => .tuple (b.2.map .int)))) :
    ∃ ps : List (Addr × List Int), ps.Perm ks ∧ (ps.map (·.2)).Pairwise (· ≤ ·) ∧ out = ps.map fun z => Value.ref z.1 := by
  refine ⟨ks.mergeSort (PySem.W.dataLe false fun b => .tuple (b.2.map .int)), List.mergeSort_perm _ _, ?_, eachIs_map (fun _ _ h => h) hE⟩
  rw [PySem.W.dataLe_tups (fun b : Addr × List Int => b.2), List.pairwise_map]
  exact (List.pairwise_mergeSort (le := fun p q : Addr × List Int => decide (p.2 ≤ q.2)) (fun a b c => PySem.W.le_tups_trans a.2 b.2 c.2) (fun a b => PySem.W.le_tups_total a.2 b.2) _).imp fun h => of_decide_eq_true h
/-- sorted(xs), a list of tuples of ints, none empty -/
def rSortTL (K : PySem.W.Frag) : List V → Hp → VK → Prop := fun vs H Q => ∃ (a : Addr) (ks : List (Addr × List Int)), vs = [V.ref a] ∧ SqL K H a (ks.map fun z => V.ref z.1) ∧ (∀ z ∈ ks, H z.1 = some (.tup (z.2.map V.int)) ∧ z.2 ≠ []) ∧
  ∀ (ps : List (Addr × List Int)) (p : Addr), ps.Perm ks → (ps.map (·.2)).Pairwise (· ≤ ·) → H p = none → Q (.ref p) (upd H p (.lst (ps.map fun z => V.ref z.1)))
theorem vals_refs' : ∀ {ks : List (Addr × List Int)} {us : List Value}, Vals (ks.map fun z => V.ref z.1) us → us = ks.map fun z => Value.ref z.1
  | [], _, r => by cases r; rfl
  | k :: ks, _, r => by
    cases r with
    | cons r rr =>
      cases r
      rw [List.map_cons, vals_refs' rr]
theorem cr_sortTL (hu : X.A.units + 64 < cLine) : CallR X (.builtin "sorted") (rSortTL X.K) := by
  intro pins s σ H vs us Q I r h
  obtain ⟨a, ks, rfl, hs, hk, q⟩ := h
  obtain ⟨its, rv, hl, hz⟩ := I.list hs
  rw [Vals.ref1 r]
  have e := vals_refs' rv
  subst e
  rw [List.length_map] at hz
  refine PySem.W.sorted_data (R := fun v (b : Addr × List Int) => v = Value.ref b.1) (bs := ks) (enc := fun b => .tuple (b.2.map .int)) hl.isList eachIs_fst ?_ (PySem.W.AllAlike.of fun b b' => PySem.W.alike_ints _ _) ?_ hz ?_ fun out hol hE => ?_
  · refine (PySem.W.each_mem eachIs_fst).mono fun v b ⟨h1, h2⟩ => ⟨[], ?_⟩
    rw [h1]
    exact reads_tup I.hok (hk b h2).1
  · refine .inl fun d hd => ?_
    obtain ⟨b, hb, rfl⟩ := List.mem_map.mp hd
    obtain ⟨_, h2⟩ := hk b hb
    cases hb2 : b.2 with
    | nil => exact (h2 hb2).elim
    | cons x r => exact ⟨_, _, rfl⟩
  · intro b _
    show X.A.units + 2 + PyData.depth (.tuple (b.2.map .int)) < cLine
    have : PyData.depth (.tuple (b.2.map .int)) ≤ 1 := by
      rw [PyData.depth, PySem.W.depth_ints]
      exact Nat.le_refl _
    omega
  · obtain ⟨ps, o1, o2, rfl⟩ := sorted_tups_end hE
    obtain ⟨ep, he'⟩ := PyProof.Rows.sortedAll_at s.heap (ks.map fun z => Value.ref z.1) (ps.map fun z => Value.ref z.1).toArray
    exact ⟨.ref _, upd H (s.heap.objs.size + 1) (.lst (ps.map fun z => V.ref z.1)), I.laid (t' := s.toks) (fun _ _ => PyProof.Rows.sortedAll_old) (Nat.le_succ _)
      ⟨by rw [List.length_map, o1.length_eq]; exact hz, _, ep, vals_maps (fun z : Addr × List Int => V.ref z.1) (fun z => Value.ref z.1) ps fun _ _ => rfl, he'⟩, rfl, q ps _ o1 o2 (I.hok.fresh (Nat.le_succ _))⟩
/-- sorted(d), d a dict whose keys are tuples of ints, none empty -/
def rSortDT : List V → Hp → VK → Prop := fun vs H Q => ∃ (a : Addr) (kvs : List (List Key × V)) (gs : List (List Int)), vs = [V.ref a] ∧ H a = some (.dT kvs) ∧ kvs.map (·.1) = gs.map (fun g => g.map Sum.inl) ∧ (∀ g ∈ gs, g ≠ []) ∧
  ∀ (ps : List (Addr × List Int)) (p : Addr), (ps.map (·.2)).Perm gs → (ps.map (·.2)).Pairwise (· ≤ ·) → (∀ z ∈ ps, H z.1 = some (.tup (z.2.map V.int))) → H p = none → Q (.ref p) (upd H p (.lst (ps.map fun z => V.ref z.1)))
theorem kv_ints (g : List Int) : ((g.map Sum.inl : List Key)).map kV = g.map V.int := by
  rw [List.map_map]
  rfl
theorem keys_zip : ∀ {kvs : List (List Key × V)} {gs : List (List Int)} {xs : List (List Key × Addr × Value)} {H : Hp}, KT H kvs xs → kvs.map (·.1) = gs.map (fun g => g.map Sum.inl) →
    ∃ ks : List (Addr × List Int), ks.map (·.2) = gs ∧ ks.map (·.1) = xs.map (fun x => x.2.1) ∧ ∀ z ∈ ks, H z.1 = some (.tup (z.2.map V.int)) := by
  intro kvs gs xs H r
  induction r generalizing gs with
  | nil =>
    intro e
    have e' : gs = [] := List.map_eq_nil_iff.mp e.symm
    subst e'
    exact ⟨[], rfl, rfl, fun _ z => nomatch z⟩
  | @cons p q ps qs h t ih =>
    intro e
    cases gs with
    | nil => exact nomatch e
    | cons g gs =>
      rw [List.map_cons, List.map_cons] at e
      obtain ⟨e1, e2⟩ := List.cons.inj e
      obtain ⟨ks, k1, k2, k3⟩ := ih e2
      refine ⟨(q.2.1, g) :: ks, by rw [List.map_cons, k1], by rw [List.map_cons, k2, List.map_cons], fun z hz => ?_⟩
      rcases List.mem_cons.mp hz with rfl | hz
      · have h2 := h.2.1
        rw [e1, kv_ints] at h2
        exact h2
      · exact k3 z hz
theorem cr_sortDT (hc : X.calm = true) (hu : X.A.units + 64 < cLine) : CallR X (.builtin "sorted") rSortDT := by
  intro pins s σ H vs us Q I r h
  obtain ⟨a, kvs, gs, rfl, ha, hg, hne, q⟩ := h
  rw [Vals.ref1 r]
  obtain ⟨z, hs, xs, pr, o, es, ep, ho, hx, hdt, he, hn⟩ := (show ObjOk X.prog X.w H s.heap a (.dT kvs) from I.hok a _ ha)
  obtain ⟨ks, k1, k2, k3⟩ := keys_zip pr hg
  have l1 : es.size = xs.length := size_of_entries he
  have l2 : kvs.length = xs.length := Paired.length pr
  have l3 : ks.length = xs.length := by
    have e := congrArg List.length k2
    rw [List.length_map, List.length_map] at e
    exact e
  refine Calls.call_function_entry PyProof.Rows.kind_sorted PyProof.Rows.plain_sorted PyProof.Rows.entry_sorted (PyProof.Rows.args_sorted1 _) ?_
  unfold Builtin.«sorted»
  refine wpAny_bind (m := checkCount "sorted" 1 1 _) (wpAny_pure ?_)
  refine wpAny_bind (PySem.W.kdu_collect (A := X.A.in1) (kdl_raw hs hx hdt) (I.ok.hd hc) ho (by omega) fun h' tk acc hk it => ?_)
  have ea : acc.toList = ks.map fun z => Value.ref z.1 := by
    have e0 : (ks.map fun z => Value.ref z.1) = xs.map fun x => Value.ref x.2.1 := by
      have e := congrArg (List.map Value.ref) k2
      rw [List.map_map, List.map_map] at e
      exact e
    rw [e0]
    have hl : acc.toList.length = xs.length := by rw [Array.length_toList, it.1]; exact l1
    apply List.ext_getElem?
    intro j
    rw [List.getElem?_map]
    cases hj : acc.toList[j]? with
    | none =>
      have h1 := List.getElem?_eq_none_iff.mp hj
      rw [List.getElem?_eq_none (by omega)]
      rfl
    | some v =>
      obtain ⟨en, hen, hv⟩ := it.2 j v (by rw [← Array.getElem?_toList]; exact hj)
      have qe := entry_at he j
      rw [hen] at qe
      cases hb : xs[j]? with
      | none =>
        rw [hb] at qe
        exact nomatch (show some en = none from qe)
      | some b =>
        rw [hb] at qe
        have e2 : en = entryOfKey (tupleKind (mixKind X.prog X.w)) b := Option.some.inj qe
        rw [hv, e2]
        rfl
  have I1 : Inv X pins σ H { s with heap := h', toks := tk } := I.kept hk
  rw [ea]
  refine wpAny_bind (wpAny_newList ?_ (by rw [List.length_map]; omega))
  have hoL : (h'.push (seqObj "list" (ks.map fun z => Value.ref z.1).toArray 0)).get? h'.objs.size = some (seqObj "list" (ks.map fun z => Value.ref z.1).toArray 0) := Heap.get?_push_size _ rfl
  have I2 : Inv X pins σ H { s with heap := h'.push (seqObj "list" (ks.map fun z => Value.ref z.1).toArray 0), toks := tk } := I1.kept (t' := tk) fun b u e => Heap.get?_push_of_some _ e
  show wpAny _ _ _ _ _ { s with heap := h'.push (seqObj "list" (ks.map fun z => Value.ref z.1).toArray 0), toks := tk }
  refine wpAny_bind (wpAny_holding (thn (PySem.W.list_sort_data (A := X.A.in1) (s := { s with heap := h'.push (seqObj "list" (ks.map fun z => Value.ref z.1).toArray 0), toks := tk }) (a := h'.objs.size) (n := 0) (vs := ks.map fun z => Value.ref z.1) (bs := ks) (enc := fun b => .tuple (b.2.map .int))
    (R := fun v b => v = Value.ref b.1) (Q := fun v s' => ∃ ps : List (Addr × List Int), ps.Perm ks ∧ (ps.map (·.2)).Pairwise (· ≤ ·) ∧ s' = { s with heap := sortedHeap (h'.push (seqObj "list" (ks.map fun z => Value.ref z.1).toArray 0)) h'.objs.size (ks.map fun z => Value.ref z.1) (ps.map fun z => Value.ref z.1).toArray, toks := tk }) hoL eachIs_fst ?_ (PySem.W.AllAlike.of fun b b' => PySem.W.alike_ints _ _) ?_ (by omega) ?_ ?_) fun _ s' z' => ?_))
  · refine (PySem.W.each_mem eachIs_fst).mono fun v b ⟨h1, h2⟩ => ⟨[], ?_, fun z => nomatch z⟩
    rw [h1]
    exact reads_tup I2.hok (k3 b h2)
  · refine .inl fun d hd => ?_
    obtain ⟨b, hb, rfl⟩ := List.mem_map.mp hd
    have h2 : b.2 ≠ [] := hne _ (by rw [← k1]; exact List.mem_map.mpr ⟨b, hb, rfl⟩)
    cases hb2 : b.2 with
    | nil => exact (h2 hb2).elim
    | cons x r => exact ⟨_, _, rfl⟩
  · intro b _
    show X.A.units + 1 + 1 + PyData.depth (.tuple (b.2.map .int)) < cLine
    have : PyData.depth (.tuple (b.2.map .int)) ≤ 1 := by
      rw [PyData.depth, PySem.W.depth_ints]
      exact Nat.le_refl _
    omega
  · intro out hol hE
    obtain ⟨ps, o1, o2, rfl⟩ := sorted_tups_end hE
    exact ⟨ps, o1, o2, rfl⟩
  · obtain ⟨ps, o1, o2, rfl⟩ := z'
    obtain ⟨e', he'⟩ := PyProof.Rows.sortedHeap_at (vs := ks.map fun z => Value.ref z.1) (out := (ps.map fun z => Value.ref z.1).toArray) hoL
    have p2 : (ps.map (·.2)).Perm gs := by
      have e := o1.map (·.2)
      rw [k1] at e
      exact e
    refine wpAny_pure ⟨_, rfl, .ref h'.objs.size, upd H h'.objs.size (.lst (ps.map fun z => V.ref z.1)), I1.laid (t' := tk) (fun b u e => ?_) (Nat.le_refl _)
      (show ObjOk X.prog X.w _ _ _ (.lst (ps.map fun z => V.ref z.1)) from ⟨by rw [List.length_map, o1.length_eq]; omega, _, e', vals_maps (fun z : Addr × List Int => V.ref z.1) (fun z => Value.ref z.1) ps fun _ _ => rfl, he'⟩), rfl, q ps _ p2 o2 (fun z hz => k3 z (o1.mem_iff.mp hz)) (I1.hok.fresh (Nat.le_refl _))⟩
    have hb : b < h'.objs.size := Heap.lt_size e
    rw [PyProof.Rows.sortedHeap_old (Nat.ne_of_lt hb) (by rw [size_push']; exact Nat.lt_succ_of_lt hb)]
    exact Heap.get?_push_of_some _ e
end
end L2

/-! part KR4 -/
set_option Elab.async false
set_option linter.all false
set_option maxRecDepth 100000
set_option maxHeartbeats 4000000
namespace PySem
open PySem.AutoSeq1 (wpAny_loadPart')
theorem meets_enumerate_newB1 {v : Value} {o : Obj} {H : Heap → Prop} (B : Begins v o H) :
    Meets (Builtin.«enumerate.__new__» ⟨[.type "enumerate", v], []⟩) (fun _ R s => H s.heap ∧
      R (.ok (.ret (.ref (s.heap.push o).objs.size))) { s with heap := (s.heap.push o).push { cls := .type "enumerate", data := .fields #[.none, .bool false, .ref s.heap.objs.size, rawInt 0, .none, .none] } }) :=
  .of_wp fun prog w A R s h => by
    obtain ⟨hp, g, d, tk, os⟩ := s; obtain ⟨h1, h⟩ := h
    have hsub := sub_enumerate
    have q1 : ∀ {A' : Around} {E : Value → Shared → Prop} {Q : Value → Shared → Prop}, Q (.ref hp.objs.size) ⟨hp.push o, g, d, tk, os⟩ → wpAny (model prog w) A' (pyIter v) Q E ⟨hp, g, d, tk, os⟩ :=
      fun q => B.iter prog w _ _ ⟨hp, g, d, tk, os⟩ _ h1 q
    wp_walk using q1
    refine wpAny_stack_any fun st => wpAny_pure ?_
    split
    · rename_i c _ _ _ _ _
      cases (c == Value.type "enumerate")
      · wp_walk using q1
        exact ⟨_, rfl, h⟩
      · wp_walk using q1
        exact ⟨_, rfl, h⟩
    · wp_walk using q1
      exact ⟨_, rfl, h⟩
section
variable {prog : Program} {w : World} {A : Around} {E : Value → Shared → Prop} {s : Shared}
theorem enum_begins1 {v : Value} {o : Obj} {H : Heap → Prop} {Q : Value → Shared → Prop} (B : Begins v o H) (h1 : H s.heap)
    (h : ∀ h', IsEnum h' (s.heap.objs.size + 1) s.heap.objs.size 0 .none → h'.get? s.heap.objs.size = some o → h'.objs.size = s.heap.objs.size + 2 →
      (∀ b o, s.heap.get? b = some o → h'.get? b = some o) → Q (.ref (s.heap.objs.size + 1)) { s with heap := h' }) :
    wpAny (model prog w) A (call (.type "enumerate") [v]) Q E s := by
  refine callType_new F.called_enumerate (by decide) (F.typeCall_enumerate_1 _) (F.newCall_enumerate_1 _) (fun obj => F.args_object_init_2 obj _) F.entry_enumerate_new
    (meets_enumerate_newB1 B) ⟨h1, ?_⟩
  have hz : (s.heap.push o).objs.size = s.heap.objs.size + 1 := Heap.size_push ..
  show _ ∧ _
  rw [hz]
  have he : IsEnum ((s.heap.push o).push { cls := .type "enumerate", data := .fields #[.none, .bool false, .ref s.heap.objs.size, rawInt 0, .none, .none] }) (s.heap.objs.size + 1) s.heap.objs.size 0 .none := by
    have := Heap.get?_push_size (s.heap.push o) (o := { cls := .type "enumerate", data := .fields #[.none, .bool false, .ref s.heap.objs.size, rawInt 0, .none, .none] }) rfl
    rw [hz] at this; exact this
  refine ⟨⟨_, he, rfl⟩, h _ he (Heap.get?_push_of_some _ (Heap.get?_push_size _ B.free)) (by rw [Heap.size_push, hz]) fun b o x => Heap.get?_push_of_some _ (Heap.get?_push_of_some _ x)⟩
end
end PySem
namespace L2
open PySem PySem.Spec PyProof.Rows
/-- enumerate of the tracked tuple at a -/
def Itet (a : Addr) (xs : List V) : It :=
  ⟨fun i H => H a = some (.tup xs) ∧ i < xs.length, fun i H v H' => ∃ T x, v = .ref T ∧ H T = none ∧ H' = upd H T (.tup [.int (i : Nat), x]) ∧ xs[i]? = some x, fun i H => H a = some (.tup xs) ∧ xs.length ≤ i⟩
theorem turn_enumT {P : Program} {w : World} {K : PySem.W.Frag} {elts : List Expr} {kk : Nat} {tpos : Pos} (a e it : Addr) (xs : List V) :
    Turn P w K (.Tuple elts kk tpos) (Itet a xs) [e, it] e (fun i h => (∃ old, IsEnum h e it ((i : Nat) : Int) old) ∧ h.IsTupleIter it a i ∧ e ≠ it) where
  mem := by simp
  obj := fun i h st b hb => by
    obtain ⟨⟨old, he⟩, ⟨o, ho, hc, hd⟩, _⟩ := st
    have e' : b = e ∨ b = it := by simpa using hb
    rcases e' with z | z
    · rw [z]; exact ⟨_, he, fun v q => nomatch q⟩
    · rw [z]; exact ⟨o, ho, fun v q => by rw [hd] at q; cases q⟩
  keep := fun i h h' st k => let ⟨⟨old, he⟩, hi, hne⟩ := st; ⟨⟨old, k e (by simp) _ he⟩, hi.at fun o q => k it (by simp) o q, hne⟩
  item := by
    intro X hP hw hK hc i pins s σ H E I hf st hg
    subst hP hw hK
    obtain ⟨⟨old, he⟩, hit, hne⟩ := st
    obtain ⟨hq, hi⟩ := hg
    obtain ⟨its, rv, p, hz⟩ := I.tuple (SqT.of hq)
    have hx : xs[i]? = some xs[i] := List.getElem?_eq_getElem hi
    obtain ⟨u, hu, ru⟩ := rv.get hx
    have hel : e < s.heap.objs.size := Heap.lt_size he
    have hil : it < s.heap.objs.size := by obtain ⟨_, q, _⟩ := hit; exact Heap.lt_size q
    have nea : e ≠ a := fun z => by have := (hf e (by simp)).1; rw [z, hq] at this; cases this
    have nia : a ≠ it := fun z => by have := (hf it (by simp)).1; rw [← z, hq] at this; cases this
    have hl : i < its.toArray.size := by rw [List.size_toArray, ← rv.length]; exact hi
    refine wpAny_pyNext_enum_itemD (Draws.tuple (A := X.A.in1) (I.ok.hd hc) it a nia its.toArray) he ⟨hit, p⟩ hl hne (by simp [hne, nea]) fun x h' tk hP ho hst' hT hsz hk => ?_
    have eu : x = u := by
      have e1 : its.toArray[i]? = some u := by simpa using hu
      exact Option.some.inj (hP.symm.trans e1)
    subst eu
    obtain ⟨hit', _⟩ := hst'
    refine ⟨_, rfl, wpAny_letOwnedTupleGo_enum (s := { s with heap := h', toks := tk + 1 }) ho fun h'' he' sb => ?_⟩
    have hT2 : h''.get? s.heap.objs.size = some { cls := .type "tuple", data := .seq #[.int i tk, x] } := (sb.2 _ (Nat.ne_of_gt hel)).trans hT
    have new : ObjOk X.prog X.w (upd H s.heap.objs.size (.tup [.int (i : Nat), xs[i]])) h'' s.heap.objs.size (.tup [.int (i : Nat), xs[i]]) :=
      ⟨by show 2 ≤ sizeLine; decide, [.int i tk, x], .cons ⟨_, rfl⟩ (.cons ru .nil), ⟨_, hT2, rfl, _, rfl⟩⟩
    have I1 : Inv X pins σ (upd H s.heap.objs.size (.tup [.int (i : Nat), xs[i]])) { s with heap := h'', toks := tk + 1 } :=
      I.turnedNew (ch := [e, it]) (fun b ob hb q => (sb.2 b (fun z => hb (by simp [z]))).trans (hk b ob (fun z => hb (by simp [z])) (fun z => hb (by simp [z])) q)) hf (Nat.le_refl _) new
    refine ⟨.ref s.heap.objs.size, _, I1, rfl, ⟨_, xs[i], rfl, I.hok.fresh (Nat.le_refl _), rfl, hx⟩, ⟨⟨x, ?_⟩, hit'.at fun o q => (sb.2 it (Ne.symm hne)).trans q, hne⟩, fun b hb => ?_⟩
    · have e1 : ((i + 1 : Nat) : Int) = (i : Int) + 1 := by omega
      rw [e1]; exact he'
    · have hb' : b < s.heap.objs.size := by
        have e' : b = e ∨ b = it := by simpa using hb
        rcases e' with z | z
        · rw [z]; exact hel
        · rw [z]; exact hil
      rw [upd_ne (Nat.ne_of_lt hb')]
      exact (hf b hb).1
  done := by
    intro X hP hw hK hc i pins s σ H E I hf st hg
    subst hP hw hK
    obtain ⟨⟨old, he⟩, hit, hne⟩ := st
    obtain ⟨hq, hx⟩ := hg
    obtain ⟨its, rv, p, hz⟩ := I.tuple (SqT.of hq)
    obtain ⟨f0, f1, f2, f3, f4, f5⟩ := hf it (by simp)
    have hl := rv.length
    have hT : s.TypeIs (.ref e) "enumerate" := ⟨_, he, rfl⟩
    unfold pyNext
    refine wpAny_bind (wpAny_attempt (wpAny_callSpecial?_slot (name := Str.ofString "__next__") hT F.slot_enumerate_next
      (wpAny_call_entry F.slot_enumerate_next hT F.entry_enumerate_next ?_ (F.args_enumerate_next_1 _))))
    show wpAny _ _ (field (.ref e) 2 >>= _) _ _ _
    refine wpAny_bind (wpAny_field he rfl (x := .ref it) rfl ?_)
    refine wpAny_bind (wpAny_nextOf_tuple_end (A := X.A.in1) (I.ok.hd hc) hit p (by simp; omega) fun h' x he' hx' => ?_)
    obtain ⟨o, ho, hc'⟩ := hx'
    refine wpAny_bind (wpAny_isInstance (T := "StopIteration") (b := true) ⟨o, ho, hc'⟩ isSubtype_stop ?_)
    exact wpAny_pure ⟨rfl, I.turned (t' := s.toks) (fun b o hb q => he' b o hb q) f0 f1 f3 f4 f5⟩
  self := fun A i s Q E st h => let ⟨⟨_, he⟩, _⟩ := st; wpAny_pyIter_enum he h
def iEnumT (ta : TA) : TI := fun σ H R => ta σ H fun vs H1 => ∃ a xs, vs = [.ref a] ∧ H1 a = some (.tup xs) ∧ R (Itet a xs) H1
theorem pi_enumT {X : Cx} {e : Expr} {ta : TA} {p pos tpos : Pos} {elts : List Expr} {kk : Nat} (hg : Gl X "enumerate") (hm : X.mg "enumerate" = none) (ha : PA X [e] ta) (hs : starEach [e] X.env = [(false, eval e X.env)] := by rfl) :
    PI X (.Tuple elts kk tpos) (.Call (.Name "enumerate" p) [e] [] pos) (iEnumT ta) := by
  refine ⟨fun pins s σ H R I h => ?_⟩
  refine Call_ (ld_blt I hg hm boot_enumerate (PyProof.Rows.callWith_type1 (thn (ha.run pos pins s σ H _ I h) fun us s1 ⟨vs, H1, I1, r1, q1⟩ => ?_) hs rfl))
  obtain ⟨a, xs, ex, hq, q⟩ := q1
  subst ex
  cases r1 with
  | cons r rr =>
    cases rr
    cases r
    obtain ⟨its, rv, p', hz⟩ := I1.tuple (SqT.of hq)
    refine enum_begins1 (begins_tuple a its.toArray) p' fun h' he hit hsz hk => wpAny_pyIter_enum he ?_
    have I2 : Inv X pins σ H1 { s1 with heap := h' } := I1.kept (t' := s1.toks) hk
    refine ⟨s1.heap.objs.size + 1, [s1.heap.objs.size + 1, s1.heap.objs.size], _, _, H1, rfl, I2, turn_enumT a (s1.heap.objs.size + 1) s1.heap.objs.size xs, ⟨⟨.none, he⟩, ⟨_, hit, rfl, rfl⟩, Nat.succ_ne_self _⟩, fun b hb => ?_, q⟩
    have e' : b = s1.heap.objs.size + 1 ∨ b = s1.heap.objs.size := by simpa using hb
    have hle : s1.heap.objs.size ≤ b := by
      rcases e' with z | z
      · rw [z]; exact Nat.le_add_right _ _
      · rw [z]; exact Nat.le_refl _
    exact I1.fpOk hle (I1.hok.fresh hle)
theorem walk_enumT {a : Addr} {xs : List V} : Walk (Itet a xs) xs.length (fun H => H a = some (.tup xs)) (YPair (fun i => some (.int (i : Nat))) (fun i => xs[i]?)) := by
  refine ⟨fun i _ hi q => ⟨q, hi⟩, fun _ q => ⟨q, Nat.le_refl _⟩, fun i H v H' _ q y => ?_⟩
  obtain ⟨T, x, h1, h2, h3, h4⟩ := y
  exact ⟨T, .int (i : Nat), x, h1, h2, h3, rfl, h4⟩
end L2

/-! part KR5 -/
set_option Elab.async false
set_option linter.all false
set_option maxRecDepth 100000
set_option maxHeartbeats 4000000
namespace PySem
section
variable {prog : Program} {w : World} {A : Around} {E : Value → Shared → Prop} {s : Shared}
/-- two dicts compared, the second one empty -/
theorem samePairs_empty {nm : String} {a b : Addr} {es es' : Array DictEntry} {ep ep' : Nat} {Q : Bool → Shared → Prop} (ha : (a == sysModules) = false) (hb : (b == sysModules) = false)
    (da : s.heap.DictRaw a es ep) (db : s.heap.DictRaw b es' ep') (h0 : es'.size = 0) (h : Q (es.size == 0) s) :
    wpAny (model prog w) A (Builtin.Dict.samePairs nm a b) Q E s := by
  obtain ⟨oa, hoa, _, hda⟩ := da
  obtain ⟨ob, hob, _, hdb⟩ := db
  unfold Builtin.Dict.samePairs Builtin.Dict.showsAll
  rw [if_neg (show ¬ (a == sysModules) = true by rw [ha]; exact Bool.false_ne_true), if_neg (show ¬ (b == sysModules) = true by rw [hb]; exact Bool.false_ne_true)]
  refine wpAny_bind (wpAny_pure (wpAny_bind (wpAny_pure ?_)))
  refine wpAny_bind (wpAny_dictEntries hoa hda ?_)
  dsimp only
  refine wpAny_bind (wpAny_dictEntries hob hdb ?_)
  by_cases hsz : es.size = 0
  · rw [if_neg (by rw [hsz, h0]; simp)]
    refine wpAny_bind (wpAny_dictEpoch hoa hda ?_)
    have hq : Q true s := by simpa [hsz] using h
    refine wpAny_bind ?_
    rw [Std.Legacy.Range.forIn_eq_forIn_range']
    simp only [Std.Legacy.Range.size, Nat.sub_zero, Nat.add_sub_cancel, Nat.div_one, hsz, List.range'_zero]
    rw [List.forIn_nil]
    exact wpAny_pure (wpAny_pure hq)
  · rw [if_pos (by rw [h0]; simpa using hsz)]
    have hbf : (es.size == 0) = false := by simpa using hsz
    rw [hbf] at h
    exact wpAny_bind (wpAny_rule (wpAny_pure h))
theorem ne_dict_empty {a b : Addr} {es es' : Array DictEntry} {ep ep' : Nat} {Q : Value → Shared → Prop} (ha : (a == sysModules) = false) (hb : (b == sysModules) = false)
    (da : s.heap.DictRaw a es ep) (db : s.heap.DictRaw b es' ep') (hu : A.units < cLine) (h0 : es'.size = 0) (h : Q (.bool (!(es.size == 0))) s) :
    wpAny (model prog w) A (compareOp .NotEq (.ref a) (.ref b)) Q E s := by
  refine wpAny_richCompare_same_room (op := .NotEq) da.typeIs db.typeIs PySem.F.slot_dict_ne (wpAny_call_entry PySem.F.slot_dict_ne da.typeIs PySem.F.entry_dict_ne ?_ (PySem.F.args_dict_ne_2 _ _)) hu
  show wpAny _ _ (Builtin.Dict.dictSlotArgs "__ne__" ⟨[.ref a, .ref b], []⟩ >>= _) _ _ s
  refine wpAny_bind ?_
  unfold Builtin.Dict.dictSlotArgs
  refine wpAny_bind (wpAny_notOrdered_dict da.typeIs ?_)
  show wpAny _ _ (pure (Value.ref a, Value.ref b)) _ _ s
  refine wpAny_pure ?_
  refine wpAny_bind (wpAny_isInstance (T := "dict") db.typeIs PySem.F.sub_dict_dict ?_)
  simp only [Bool.not_true, Bool.false_eq_true, if_false]
  refine wpAny_bind (wpAny_pure (wpAny_bind (wpAny_pure ?_)))
  refine wpAny_bind (samePairs_empty ha hb da db h0 ?_)
  refine wpAny_pure ⟨_, rfl, ?_, ?_⟩
  · exact fun x => nomatch x
  · simpa using h
end
end PySem
namespace L2
open PySem PySem.Spec PyProof.Rows
section
variable {X : Cx}
theorem dK_raw {pins : List (Addr × Obj)} {σ : St} {H : Hp} {s : Shared} {a : Addr} {kvs : List (Key × V)} (I : Inv X pins σ H s) (e : H a = some (.dK kvs)) : (a == sysModules) = false ∧ ∃ es ep, s.heap.DictRaw a es ep ∧ es.size = kvs.length := by
  obtain ⟨z, hd, vs, rel, dd⟩ := dk_of I.hok e
  obtain ⟨es, ep, h1, h2, _⟩ := dd.raw
  exact ⟨hd, es, ep, h1, by rw [h2, ← KV.length rel]⟩
theorem dT_raw {pins : List (Addr × Obj)} {σ : St} {H : Hp} {s : Shared} {a : Addr} {kvs : List (List Key × V)} (I : Inv X pins σ H s) (e : H a = some (.dT kvs)) : (a == sysModules) = false ∧ ∃ es ep, s.heap.DictRaw a es ep ∧ es.size = kvs.length := by
  obtain ⟨z, hd, xs, rel, dd⟩ := dt_of I.hok e
  obtain ⟨es, ep, h1, h2, _⟩ := dd.raw
  exact ⟨hd, es, ep, h1, by rw [h2]; exact (Paired.length rel).symm⟩
/-- d != {} -/
def rNeT0 : R2 := fun x y H Q => ∃ a b kvs, x = .ref a ∧ y = .ref b ∧ H a = some (.dT kvs) ∧ H b = some (.dT []) ∧ Q (.bl (!(kvs.length == 0))) H
theorem op_neT0 (hu : X.A.units < cLine) : OpR X (compareOp .NotEq) rNeT0 := by
  intro pins s σ H x y v u Q I rx ry h
  obtain ⟨a, b, kvs, rfl, rfl, ea, eb, q⟩ := h
  obtain rfl : v = Value.ref a := rx
  obtain rfl : u = Value.ref b := ry
  obtain ⟨ha, es, ep, da, l1⟩ := dT_raw I ea
  obtain ⟨hb, es', ep', db, l2⟩ := dT_raw I eb
  refine ne_dict_empty ha hb da db hu l2 ?_
  rw [l1]
  exact ⟨.bl _, H, I, rfl, q⟩
def rNeK0 : R2 := fun x y H Q => ∃ a b kvs, x = .ref a ∧ y = .ref b ∧ H a = some (.dK kvs) ∧ H b = some (.dK []) ∧ Q (.bl (!(kvs.length == 0))) H
theorem op_neK0 (hu : X.A.units < cLine) : OpR X (compareOp .NotEq) rNeK0 := by
  intro pins s σ H x y v u Q I rx ry h
  obtain ⟨a, b, kvs, rfl, rfl, ea, eb, q⟩ := h
  obtain rfl : v = Value.ref a := rx
  obtain rfl : u = Value.ref b := ry
  obtain ⟨ha, es, ep, da, l1⟩ := dK_raw I ea
  obtain ⟨hb, es', ep', db, l2⟩ := dK_raw I eb
  refine ne_dict_empty ha hb da db hu l2 ?_
  rw [l1]
  exact ⟨.bl _, H, I, rfl, q⟩
end
/-! ### for v in d.values(), keys tuples: the dict is locked from then on -/
def Itdt (d : Addr) (o : Obj) (kvs : List (List Key × V)) : It :=
  ⟨fun i H => H d = some (.frz o (.dT kvs)) ∧ i < kvs.length, fun i H x H' => H' = H ∧ ∃ k, kvs[i]? = some (k, x), fun i H => H d = some (.frz o (.dT kvs)) ∧ kvs.length ≤ i⟩
theorem Inv.frzTv {X : Cx} {pins : List (Addr × Obj)} {σ : St} {H : Hp} {s : Shared} {d : Addr} {o : Obj} {kvs : List (List Key × V)} (I : Inv X pins σ H s) (h : H d = some (.frz o (.dT kvs))) :
    (d == sysModules) = false ∧ s.heap.get? d = some o ∧ o.ExactDict ∧ ∃ (es : Array DictEntry) (ep : Nat), o.data = .dict es ep ∧ es.size = kvs.length ∧
      ∀ (i : Nat) (k : List Key) (v : V), kvs[i]? = some (k, v) → ∃ (en : DictEntry), es[i]? = some en ∧ RelV v en.val := by
  obtain ⟨hd, z, hs, xs, pr, o', es, ep, ho, hx, hdt, he, _⟩ := I.hok d _ h
  rw [hd] at ho
  cases ho
  refine ⟨hs, hd, hx, es, ep, hdt, ?_, fun i k v e => ?_⟩
  · have l1 : es.size = xs.length := size_of_entries he
    have l2 : kvs.length = xs.length := Paired.length pr
    omega
  · obtain ⟨b, hb, e1, e2, e3⟩ := paired_get pr e
    have q := entry_at he i
    rw [hb] at q
    exact ⟨_, q, e3⟩
theorem turn_valsT {P : Program} {w : World} {K : PySem.W.Frag} {tg : Expr} {d : Addr} {o : Obj} {es : Array DictEntry} {ep : Nat} {kvs : List (List Key × V)} (it : Addr) (hod : o.data = .dict es ep) : Turn P w K tg (Itdt d o kvs) [it] it (fun i h => h.IsValIter it d i kvs.length ep) where
  mem := by simp
  obj := fun i h st b hb => by
    have e : b = it := by simpa using hb
    subst e
    obtain ⟨oi, e, c, dd⟩ := st
    exact ⟨oi, e, fun v z => by rw [dd] at z; cases z⟩
  keep := fun i h h' st k => st.at fun oi e => k it (by simp) oi e
  item := by
    intro X hP hw hK hc i pins s σ H E I hf st hg
    subst hP hw hK
    obtain ⟨hd, hi⟩ := hg
    obtain ⟨f0, f1, f2, f3, f4, f5⟩ := hf it (by simp)
    obtain ⟨hs, hgd, hx, es', ep', hdt, hsz, ent⟩ := I.frzTv hd
    obtain ⟨rfl, rfl⟩ := dict_ep hod hdt
    obtain ⟨⟨k, v⟩, hkv⟩ : ∃ p, kvs[i]? = some p := ⟨kvs[i], List.getElem?_eq_getElem hi⟩
    obtain ⟨en, hen, ru⟩ := ent i k v hkv
    have hlt : i < es'.size := by omega
    have een : es'[i] = en := Option.some.inj ((Array.getElem?_eq_getElem hlt).symm.trans hen)
    rw [← hsz] at st
    refine wpAny_pyNext_values_item_raw st ⟨o, hgd, hx, hdt⟩ hlt fun h' st' sb => ?_
    have I1 : Inv X pins σ H { s with heap := h' } := I.turned (t' := s.toks) (fun b ob hb e => (sb.2 b hb).trans e) f0 f1 f3 f4 f5
    obtain ⟨oi, e, c, dd⟩ := id st'
    rw [een]
    refine ⟨en.val, rfl, go_of (s := { s with heap := h' }) e c dd (by decide) ⟨v, H, I1, ru, ⟨rfl, k, hkv⟩, ?_, fun b hb => (hf b hb).1⟩⟩
    show h'.IsValIter it d (i + 1) kvs.length _
    rw [← hsz]
    exact st'
  done := by
    intro X hP hw hK hc i pins s σ H E I hf st hg
    subst hP hw hK
    obtain ⟨hd, hi⟩ := hg
    obtain ⟨f0, f1, f2, f3, f4, f5⟩ := hf it (by simp)
    obtain ⟨hs, hgd, hx, es', ep', hdt, hsz, ent⟩ := I.frzTv hd
    obtain ⟨rfl, rfl⟩ := dict_ep hod hdt
    rw [← hsz] at st hi
    exact wpAny_pyNext_values_end_raw (I.ok.hd hc) st ⟨o, hgd, hx, hdt⟩ hi fun h' eb => ⟨rfl, I.turned (t' := s.toks) (fun b ob hb e => eb b ob hb e) f0 f1 f3 f4 f5⟩
  self := fun A i s Q E st h => wpAny_pyIter_valiter st h
def iValsT (td : TE) : TI := fun σ H R => td σ H fun x H1 => ∃ d kvs, x = .ref d ∧ H1 d = some (.dT kvs) ∧ ∀ o, R (Itdt d o kvs) (upd H1 d (.frz o (.dT kvs)))
theorem pi_valuesT {X : Cx} {tg e : Expr} {td : TE} {apos cpos : Pos} (he : PE X e td) (hbase : attributeBase e "values" X.env (eval e X.env) = eval e X.env := by rfl) (hline : (apos.endLine == cpos.line) = true := by rfl) : PI X tg (.Call (.Attribute e "values" apos) [] [] cpos) (iValsT td) := by
  refine ⟨fun pins s σ H R I h => ?_⟩
  refine wpAny_Call_method (T := "dict") (id := "dict.values") hbase rfl hline F.plainAttrs_dict F.slot_dict_values F.type_dict_values (thn (he.run pins s σ H _ I h) fun u s1 ⟨x, H1, I1, rx, d, kvs, ex, hd, q⟩ => ?_)
  subst ex
  obtain rfl : u = Value.ref d := rx
  obtain ⟨o, I2⟩ := I1.lock hd trivial
  have q := q o
  have hd2 : upd H1 d (.frz o (.dT kvs)) d = some (.frz o (.dT kvs)) := upd_same
  obtain ⟨hs, hgd, hx, es, ep, hdt, hsz, ent⟩ := I2.frzTv hd2
  have raw : s1.heap.DictRaw d es ep := ⟨o, hgd, hx, hdt⟩
  refine ⟨raw.typeIs, ?_, ?_⟩
  · intro b e; cases e; exact ⟨o, hgd, hx.2.1⟩
  have I3 : Inv X pins σ (upd H1 d (.frz o (.dT kvs))) { s1 with heap := s1.heap.push { cls := .type "dict_values", data := .fields #[.ref d] } } := I2.kept (t' := s1.toks) fun b ob q => Heap.get?_push_of_some _ q
  have fin : wpAny (model X.prog X.w) X.A (pyIter (.ref s1.heap.objs.size)) (PIE X pins σ tg R) X.xe { s1 with heap := s1.heap.push { cls := .type "dict_values", data := .fields #[.ref d] } } := by
    refine wpAny_pyIter_values_raw (d := d) (es := es) (ep := ep) ⟨_, Heap.get?_push_size _ rfl, rfl, rfl⟩ (raw.at fun o' e => Heap.get?_push_of_some _ e) (pi_one (tk := s1.toks) I3 _ (turn_valsT _ hdt) ⟨_, Heap.get?_push_size _ rfl, rfl, ?_⟩ q)
    rw [hsz]
    rfl
  show wpAny _ _ (callWith cpos (.builtin "dict.values") [.ref d] [] []) _ X.xe s1
  exact method_meetsIn F.slot_dict_values F.entry_dict_values rfl (PySem.evalArgs_none ⟨rfl, raw.typeIs, F.args_dict_values_1 _, _, meets_dict_values_raw d hs, ⟨es, ep, raw⟩, fin⟩)
theorem walk_valuesT {d : Addr} {o : Obj} {kvs : List (List Key × V)} : Walk (Itdt d o kvs) kvs.length (fun H => H d = some (.frz o (.dT kvs))) (fun i H x H' => H' = H ∧ ∃ k, kvs[i]? = some (k, x)) :=
  ⟨fun _ _ hi q => ⟨q, hi⟩, fun _ q => ⟨q, Nat.le_refl _⟩, fun _ _ _ _ _ _ y => y⟩
end L2

/-! part KT -/
set_option Elab.async false
set_option linter.all false
set_option maxRecDepth 100000
set_option maxHeartbeats 4000000
/-! The text by places; what stands in memory. -/
namespace Sto
open PySem PySem.Spec PyProof.Rows L2 StX
def topS (i : Nat) : Stmt := PySem.Challenge.pw_stoopers_k12_whole_rows_counted.main.body.getD i (.Pass ⟨0, 0, 0, 0⟩)
/-- a def of the top, by its name -/
structure DefAt (K : PySem.W.Frag) (mg : Str → Option Value) (x : Str) (st : Stmt) (ps : List Str) : Prop where
  ex : ∃ (f : Addr) (fd : FuncData), Fun K x x st f fd ∧ mg x = some (.ref f) ∧ Binds K fd ps []
/-- the built-ins are as they were; the module's constants -/
structure Blt (mg : Str → Option Value) : Prop where
  isi : mg "isinstance" = none
  int : mg "int" = none
  bool : mg "bool" = none
  tuple : mg "tuple" = none
  list : mg "list" = none
  str : mg "str" = none
  dict : mg "dict" = none
  len : mg "len" = none
  enum : mg "enumerate" = none
  sorted : mg "sorted" = none
  range : mg "range" = none
  min : mg "min" = none
  max : mg "max" = none
  sum : mg "sum" = none
  mp : ∃ t, mg "MOST_PERSONS" = some (.int 8 t)
  mh : ∃ t, mg "MOST_HEIGHT" = some (.int 1000 t)
  mo : ∃ t, mg "MOST_OUTCOMES" = some (.int 5000 t)
  ms : ∃ t, mg "MOST_STEPS" = some (.int 60 t)
/-- a def that may be called by its name -/
structure Cal (P : Program) (w : World) (K : PySem.W.Frag) (mg : Str → Option Value) (base : Heap) (k : Nat) (x : Str) (sp : Sp) : Prop where
  ex : ∃ (f : Addr) (fd : FuncData) (ps : List Str), FnOk P w K mg base CX0 k f fd ps sp ∧ mg x = some (.ref f) ∧ PySem.W.keepIn K (.ref f) = true ∧ Binds K fd ps []
theorem pe_c {X : Cx} {k j : Nat} {x : Str} {sp : Sp} {p pos : Pos} {e : Expr} {es : List Expr} {t : TA} (c : Cal X.prog X.w X.K X.mg X.base k x sp) (hr : Room j X.A) (hk : k ≤ j) (hg : Gl X x) (ha : PA X (e :: es) t)
    (hdb : (x == ("__debug__" : Str)) = false := by decide) (he : starEach (e :: es) X.env = (false, eval e X.env) :: starEach es X.env := by rfl) (hpl : (backTo pos (starEach es X.env)).any (·.1) = false := by rfl) :
    PE X (.Call (.Name x p) (e :: es) [] pos) (tCall sp [] E0 t) := by
  obtain ⟨f, fd, ps, F, hm, kp, b⟩ := c.ex
  exact pe_call F (hr.mono hk) hg hm kp b .nil pass0 ha hdb he hpl
section
variable {P : Program} {w : World} {K : PySem.W.Frag} {mg : Str → Option Value} {base : Heap}
theorem cal_mk {x : Str} {st : Stmt} {N ps : List Str} {k : Nat} {sp : Sp} (D : DefAt K mg x st ps) (S : FnScope N ps (defScope st)) (len : ∀ vs H Q E, sp vs H Q E → vs.length = ps.length)
    (hbody : ∀ (f : Addr) (cdv : Value) (A : Around) (outer : List Env) (s : Shared) (H : Hp) (vs : List V) (Q : VK) (E : XK), Room k (A.deeper (envOfC x (defScope st) s.heap.objs.size f cdv)) → sp vs H Q E →
      ∃ t, PSs (cxOf CX0 P w K mg base N x (defScope st) f cdv A outer s H E).nox (defBody st) t ∧ t { nx := fun _ H' => Q .non H', rt := Q } (start N vs) H) : Cal P w K mg base (k + 1) x sp := by
  obtain ⟨f, fd, F, m, b⟩ := D.ex
  exact ⟨f, fd, ps, F.ok S len fun cdv A outer s H vs Q E hr h => hbody f cdv A outer s H vs Q E hr h, m, F.kp, b⟩
end
/-! ### memory -/
abbrev vn (k : Nat) : V := .int (k : Int)
def PairT (H : Hp) (b : Addr) (t : Nat × Nat) : Prop := H b = some (.tup [vn t.1, vn t.2])
def HtT (H : Hp) (a : Addr) (hs : List Int) : Prop := H a = some (.tup (hs.map V.int))
def WebT (H : Hp) (a : Addr) (n : Nat) (ts : List Tie) : Prop := ∃ (t : Addr) (bs : List Addr), H a = some (.tup [vn n, .ref t]) ∧ H t = some (.tup (bs.map V.ref)) ∧ Paired (PairT H) bs ts
section
variable {H H' : Hp} {a : Addr}
theorem PairT.same {b : Addr} {t : Nat × Nat} (h : PairT H b t) (s : Same H H') : PairT H' b t := s _ _ h
theorem HtT.same {hs : List Int} (h : HtT H a hs) (s : Same H H') : HtT H' a hs := s _ _ h
theorem pairs_same {bs : List Addr} {ts : List Tie} (h : Paired (PairT H) bs ts) (s : Same H H') : Paired (PairT H') bs ts := Paired.mapP h fun _ _ z => s _ _ z
theorem WebT.same {n : Nat} {ts : List Tie} (h : WebT H a n ts) (s : Same H H') : WebT H' a n ts := by
  obtain ⟨t, bs, h1, h2, h3⟩ := h
  exact ⟨t, bs, s _ _ h1, s _ _ h2, pairs_same h3 s⟩
theorem same_new {p : Addr} {o : HO} (h : H p = none) : Same H (upd H p o) := fun b x e => by
  rw [upd_ne (ne_of_none e h)]
  exact e
/-- a new object changed: what stood ahead of it stands -/
theorem _root_.L2.Same.upd_new {H0 : Hp} {p : Addr} {o : HO} (s : Same H0 H) (h : H0 p = none) : Same H0 (upd H p o) := fun b x e => by
  rw [upd_ne (ne_of_none e h)]
  exact s _ _ e
end
theorem paired_at {α β : Type} {F : α → β → Prop} : ∀ {as : List α} {bs : List β} {i : Nat} {b : β}, Paired F as bs → bs[i]? = some b → ∃ a, as[i]? = some a ∧ F a b
  | _, _, _, _, .nil, h => by simp at h
  | _, _, 0, _, .cons r _, h => by
    have e := Option.some.inj h
    subst e
    exact ⟨_, rfl, r⟩
  | _, _, i + 1, _, .cons _ t, h => paired_at (i := i) t h
theorem paired_at' {α β : Type} {F : α → β → Prop} : ∀ {as : List α} {bs : List β} {i : Nat} {a : α}, Paired F as bs → as[i]? = some a → ∃ b, bs[i]? = some b ∧ F a b
  | _, _, _, _, .nil, h => by simp at h
  | _, _, 0, _, .cons r _, h => by
    have e := Option.some.inj h
    subst e
    exact ⟨_, rfl, r⟩
  | _, _, i + 1, _, .cons _ t, h => paired_at' (i := i) t h
theorem paired_snoc {α β : Type} {F : α → β → Prop} {a : α} {b : β} : ∀ {as : List α} {bs : List β}, Paired F as bs → F a b → Paired F (as ++ [a]) (bs ++ [b])
  | _, _, .nil, h => .cons h .nil
  | _, _, .cons r t, h => .cons r (paired_snoc t h)
theorem paired_append {α β : Type} {F : α → β → Prop} : ∀ {as cs : List α} {bs ds : List β}, Paired F as bs → Paired F cs ds → Paired F (as ++ cs) (bs ++ ds)
  | _, _, _, _, .nil, h => h
  | _, _, _, _, .cons r t, h => .cons r (paired_append t h)
theorem ref_at {bs : List Addr} {i : Nat} {x : V} (h : (bs.map V.ref)[i]? = some x) : ∃ b, bs[i]? = some b ∧ x = V.ref b := by
  rw [List.getElem?_map] at h
  obtain ⟨b, h1, h2⟩ := Option.map_eq_some_iff.mp h
  exact ⟨b, h1, h2.symm⟩
theorem int_at {ns : List Int} {i : Nat} {x : V} (h : (ns.map V.int)[i]? = some x) : ∃ b, ns[i]? = some b ∧ x = V.int b := by
  rw [List.getElem?_map] at h
  obtain ⟨b, h1, h2⟩ := Option.map_eq_some_iff.mp h
  exact ⟨b, h1, h2.symm⟩
theorem vn_at {ns : List Nat} {i : Nat} {x : V} (h : (ns.map vn)[i]? = some x) : ∃ b, ns[i]? = some b ∧ x = vn b := by
  rw [List.getElem?_map] at h
  obtain ⟨b, h1, h2⟩ := Option.map_eq_some_iff.mp h
  exact ⟨b, h1, h2.symm⟩
theorem small {n m : Nat} (h : n ≤ m) (h2 : m ≤ 16777216 := by decide) : n ≤ sizeLine := by
  rw [sizeLine_eq]
  exact Nat.le_trans h h2
theorem smallL {n m : Nat} (h : n ≤ m) (h2 : m < 16777216 := by decide) : n < sizeLine := by
  rw [sizeLine_eq]
  exact Nat.lt_of_le_of_lt h h2
/-- room for deep comparisons -/
theorem hu64 {A : Around} {k : Nat} (hr : Room k A) : A.units + 64 < cLine := by have := hr.un; omega
theorem hu0 {A : Around} {k : Nat} (hr : Room k A) : A.units < cLine := by have := hr.un; omega
end Sto

/-! part KD1 -/
set_option Elab.async false
set_option linter.all false
set_option maxRecDepth 100000
set_option maxHeartbeats 4000000
namespace Sto
open PySem PySem.Spec PyProof.Rows L2 StX
section
variable {P : Program} {w : World} {K : PySem.W.Frag} {mg : Str → Option Value} {base : Heap}
theorem blT {Q : VK} {H : Hp} {p : Prop} [Decidable p] (h : p) (q : Q (.bl true) H) : Q (.bl (decide p)) H := by
  rw [decide_eq_true h]
  exact q
/-! ### is_int, is_from, need_from, is_height -/
def spIsInt : Sp := fun vs H Q _ => ∃ i : Int, vs = [.int i] ∧ Q (.bl true) H
theorem scIsInt : FnScope ["value"] ["value"] (defScope (topS 9)) := ⟨rfl, rfl, rfl, by decide +kernel, rfl, by decide +kernel, by decide +kernel⟩
theorem cal_is_int (D : DefAt K mg "is_int" (topS 9) ["value"]) (B : Blt mg) : Cal P w K mg base 1 "is_int" spIsInt := by
  refine cal_mk D scIsInt (fun vs H Q E h => ?_) (fun f cdv A outer s H vs Q E hr h => ?_)
  · obtain ⟨i, rfl, _⟩ := h
    rfl
  · obtain ⟨i, rfl, q⟩ := h
    refine ⟨_, pss_one (ps_ret (pe_and (pe_callB call_isi (by rfl) B.isi boot_isinstance (pa_cons (pv 0) (pa_cons (pe_bltn (v := .ty "int") (by rfl) B.int boot_int rfl) pa_nil)))
      (pe_one (pe_not (pe_callB call_isi (by rfl) B.isi boot_isinstance (pa_cons (pv 0) (pa_cons (pe_bltn (v := .ty "bool") (by rfl) B.bool boot_bool rfl) pa_nil))))))), ?_⟩
    refine ⟨_, rfl, _, _, _, _, true, rfl, .ty _, .base (.int i), kit_ty (by decide +kernel), true, rfl, iteT ?_⟩
    exact ⟨_, rfl, _, _, _, _, false, rfl, .ty _, .base (.int i), kit_ty (by decide +kernel), false, rfl, q⟩
def spIsFrom : Sp := fun vs H Q _ => ∃ i a b : Int, vs = [.int i, .int a, .int b] ∧ a ≤ i ∧ i ≤ b ∧ Q (.bl true) H
theorem scIsFrom : FnScope ["value", "least", "most"] ["value", "least", "most"] (defScope (topS 10)) := ⟨rfl, rfl, rfl, by decide +kernel, rfl, by decide +kernel, by decide +kernel⟩
theorem cal_is_from (D : DefAt K mg "is_from" (topS 10) ["value", "least", "most"]) (B : Blt mg) (c1 : Cal P w K mg base 1 "is_int" spIsInt) : Cal P w K mg base 2 "is_from" spIsFrom := by
  refine cal_mk D scIsFrom (fun vs H Q E h => ?_) (fun f cdv A outer s H vs Q E hr h => ?_)
  · obtain ⟨i, a, b, rfl, _⟩ := h
    rfl
  · obtain ⟨i, a, b, rfl, h1, h2, q⟩ := h
    refine ⟨_, pss_one (ps_ret (pe_and (pe_c c1 hr (by decide) (by rfl) (pa_cons (pv 0) pa_nil)) (pe_one (pe_chain op_le op_le (pv 1) (pv 0) (pv 2))))), ?_⟩
    refine ⟨_, rfl, i, rfl, true, rfl, iteT ?_⟩
    refine ⟨_, rfl, _, rfl, _, _, rfl, rfl, _, rfl, ?_⟩
    rw [decide_eq_true h1]
    refine iteT ⟨_, rfl, _, _, rfl, rfl, ?_⟩
    exact blT (Q := Q) h2 q
def spNeedFrom : Sp := fun vs H Q _ => ∃ i a b : Int, vs = [.int i, .int a, .int b] ∧ a ≤ i ∧ i ≤ b ∧ Q .non H
theorem scNeedFrom : FnScope ["value", "least", "most"] ["value", "least", "most"] (defScope (topS 11)) := ⟨rfl, rfl, rfl, by decide +kernel, rfl, by decide +kernel, by decide +kernel⟩
theorem cal_need_from (D : DefAt K mg "need_from" (topS 11) ["value", "least", "most"]) (B : Blt mg) (c1 : Cal P w K mg base 2 "is_from" spIsFrom) : Cal P w K mg base 3 "need_from" spNeedFrom := by
  refine cal_mk D scNeedFrom (fun vs H Q E h => ?_) (fun f cdv A outer s H vs Q E hr h => ?_)
  · obtain ⟨i, a, b, rfl, _⟩ := h
    rfl
  · obtain ⟨i, a, b, rfl, h1, h2, q⟩ := h
    refine ⟨_, pss_one (ps_if (pt_not (pt_val (pe_c c1 hr (by decide) (by rfl) (pa_cons (pv 0) (pa_cons (pv 1) (pa_cons (pv 2) pa_nil)))))) (pss_one ps_never) pss_nil), ?_⟩
    refine ⟨_, rfl, _, rfl, _, rfl, i, a, b, rfl, h1, h2, true, rfl, ?_⟩
    exact iteF q
def spIsHeight : Sp := fun vs H Q _ => ∃ i : Int, vs = [.int i] ∧ -1000 ≤ i ∧ i ≤ 1000 ∧ Q (.bl true) H
theorem scIsHeight : FnScope ["value"] ["value"] (defScope (topS 12)) := ⟨rfl, rfl, rfl, by decide +kernel, rfl, by decide +kernel, by decide +kernel⟩
theorem cal_is_height (D : DefAt K mg "is_height" (topS 12) ["value"]) (B : Blt mg) (c1 : Cal P w K mg base 2 "is_from" spIsFrom) : Cal P w K mg base 3 "is_height" spIsHeight := by
  refine cal_mk D scIsHeight (fun vs H Q E h => ?_) (fun f cdv A outer s H vs Q E hr h => ?_)
  · obtain ⟨i, rfl, _⟩ := h
    rfl
  · obtain ⟨i, rfl, h1, h2, q⟩ := h
    obtain ⟨tm, em⟩ := B.mh
    refine ⟨_, pss_one (ps_ret (pe_c c1 hr (by decide) (by rfl) (pa_cons (pv 0) (pa_cons (pe_un un_neg (pe_glob (v := .int 1000) rfl em ⟨_, rfl⟩)) (pa_cons (pe_glob (v := .int 1000) rfl em ⟨_, rfl⟩) pa_nil))))), ?_⟩
    exact ⟨_, rfl, 1000, rfl, i, -1000, 1000, rfl, h1, h2, q⟩
/-! ### is_tie, need_web, need_heights -/
def spIsTie : Sp := fun vs H Q _ => ∃ (b : Addr) (t : Tie) (n : Nat), vs = [.ref b, vn n] ∧ PairT H b t ∧ t.1 < t.2 ∧ t.2 < n ∧ Q (.bl true) H
theorem scIsTie : FnScope ["value", "many"] ["value", "many"] (defScope (topS 13)) := ⟨rfl, rfl, rfl, by decide +kernel, rfl, by decide +kernel, by decide +kernel⟩
theorem cal_is_tie (D : DefAt K mg "is_tie" (topS 13) ["value", "many"]) (B : Blt mg) (c1 : Cal P w K mg base 2 "is_from" spIsFrom) : Cal P w K mg base 3 "is_tie" spIsTie := by
  refine cal_mk D scIsTie (fun vs H Q E h => ?_) (fun f cdv A outer s H vs Q E hr h => ?_)
  · obtain ⟨b, t, n, rfl, _⟩ := h
    rfl
  · obtain ⟨b, t, n, rfl, hb, h1, h2, q⟩ := h
    have hq : SqT K H b [vn t.1, vn t.2] := SqT.of hb
    refine ⟨_, pss_cons (ps_if (PW.pt (pw_or (pt_not (pt_val (pe_callB call_isi (by rfl) B.isi boot_isinstance (pa_cons (pv 0) (pa_cons (pe_bltn (v := .ty "tuple") (by rfl) B.tuple boot_tuple rfl) pa_nil)))))
        (pw_or1 (pt_cmpR op_ne (pe_callB call_len_seq (by rfl) B.len boot_len (pa_cons (pv 0) pa_nil)) pe_int (nomark _))))) (pss_one (ps_ret pe_bl)) pss_nil)
      (pss_one (ps_ret (pe_and (pe_c c1 hr (by decide) (by rfl) (pa_cons (pe_ix ix_tup (pv 0) pe_int (fun _ _ => rfl)) (pa_cons pe_int (pa_cons (pe_op op_sub (pv 1) pe_int) pa_nil))))
        (pe_and (pe_c c1 hr (by decide) (by rfl) (pa_cons (pe_ix ix_tup (pv 0) pe_int (fun _ _ => rfl)) (pa_cons pe_int (pa_cons (pe_op op_sub (pv 1) pe_int) pa_nil))))
        (pe_one (pe_cmpR op_lt (pe_ix ix_tup (pv 0) pe_int (fun _ _ => rfl)) (pe_ix ix_tup (pv 0) pe_int (fun _ _ => rfl)) (nomark _))))))), ?_⟩
    refine ⟨_, rfl, _, _, _, _, true, rfl, .ty _, .base (.tup hb), kit_ty (by decide +kernel), true, rfl, iteF ?_⟩
    refine ⟨_, rfl, b, _, rfl, .inr hq, rfl, false, rfl, iteF ?_⟩
    refine ⟨_, rfl, b, _, 0, _, rfl, rfl, hq, atI_nat (j := 0) rfl, _, rfl, _, _, rfl, rfl, _, _, _, rfl, by omega, by omega, true, rfl, iteT ?_⟩
    refine ⟨_, rfl, b, _, 1, _, rfl, rfl, hq, atI_nat (j := 1) rfl, _, rfl, _, _, rfl, rfl, _, _, _, rfl, by omega, by omega, true, rfl, iteT ?_⟩
    refine ⟨_, rfl, b, _, 0, _, rfl, rfl, hq, atI_nat (j := 0) rfl, _, rfl, b, _, 1, _, rfl, rfl, hq, atI_nat (j := 1) rfl, _, _, rfl, rfl, ?_⟩
    exact blT (Q := Q) (by omega) q
end
end Sto

/-! part KD2 -/
set_option Elab.async false
set_option linter.all false
set_option maxRecDepth 100000
set_option maxHeartbeats 4000000
namespace Sto
open PySem PySem.Spec PyProof.Rows L2 StX
theorem le_pair {a b c d : Int} (h : a < c ∨ (a = c ∧ b < d)) :
    Ob.lexAt (fun j => decide (([c, d] : List Int).getD j 0 = ([a, b] : List Int).getD j 0)) (fun j => decide (([c, d] : List Int).getD j 0 ≤ ([a, b] : List Int).getD j 0)) (decide (([c, d] : List Int).length ≤ ([a, b] : List Int).length)) 0 (min ([c, d] : List Int).length ([a, b] : List Int).length) = false := by
  simp only [Ob.lexAt, List.length_cons, List.length_nil, List.getD_cons_zero, List.getD_cons_succ, Nat.min_self]
  by_cases e : c = a
  · have hb : ¬ d ≤ b := by omega
    have hb' : ¬ d = b := by omega
    simp [e, hb, hb', Ob.lexAt]
  · have hc : ¬ c ≤ a := by omega
    simp [e, hc, Ob.lexAt]
section
variable {P : Program} {w : World} {K : PySem.W.Frag} {mg : Str → Option Value} {base : Heap}
def spNeedWeb : Sp := fun vs H Q _ => ∃ (a : Addr) (n : Nat) (ts : List Tie), vs = [.ref a] ∧ WebT H a n ts ∧ Ok n ts ∧ ∀ H', Same H H' → Q .non H'
theorem scNeedWeb : FnScope ["value", "many", "ties", "index", "tie"] ["value"] (defScope (topS 14)) := ⟨rfl, rfl, rfl, by decide +kernel, rfl, by decide +kernel, by decide +kernel⟩
theorem cal_need_web (D : DefAt K mg "need_web" (topS 14) ["value"]) (B : Blt mg) (c1 : Cal P w K mg base 2 "is_from" spIsFrom) (c2 : Cal P w K mg base 3 "is_tie" spIsTie) : Cal P w K mg base 4 "need_web" spNeedWeb := by
  refine cal_mk D scNeedWeb (fun vs H Q E h => ?_) (fun f cdv A outer s H vs Q E hr h => ?_)
  · obtain ⟨a, n, ts, rfl, _⟩ := h
    rfl
  · obtain ⟨a, n, ts, rfl, hw, ok, q⟩ := h
    obtain ⟨t, bs, h1, h2, h3⟩ := hw
    obtain ⟨tm, em⟩ := B.mp
    have nd := scNeedWeb.nd
    have hn1 := ok.n1
    have hn4 := ok.n4
    refine ⟨_, pss_cons (ps_if (PW.pt (pw_or (pt_not (pt_val (pe_callB call_isi (by rfl) B.isi boot_isinstance (pa_cons (pv 0) (pa_cons (pe_bltn (v := .ty "tuple") (by rfl) B.tuple boot_tuple rfl) pa_nil)))))
        (pw_or1 (pt_cmpR op_ne (pe_callB call_len_seq (by rfl) B.len boot_len (pa_cons (pv 0) pa_nil)) pe_int (nomark _))))) (pss_one ps_never) pss_nil)
      (pss_cons (ps_asg (pv 0) (pg_tup rfl (pgs_cons (pg_name (i := 1) nd rfl (.inl rfl)) (pgs_cons (pg_name (i := 2) nd rfl (.inl rfl)) pgs_nil))))
      (pss_cons (ps_if (PW.pt (pw_or (pt_not (pt_val (pe_c c1 hr (by decide) (by rfl) (pa_cons (pv 1) (pa_cons pe_int (pa_cons (pe_glob (v := .int 8) rfl em ⟨_, rfl⟩) pa_nil))))))
        (pw_or1 (pt_not (pt_val (pe_callB call_isi (by rfl) B.isi boot_isinstance (pa_cons (pv 2) (pa_cons (pe_bltn (v := .ty "tuple") (by rfl) B.tuple boot_tuple rfl) pa_nil)))))))) (pss_one ps_never) pss_nil)
      (pss_one (ps_for PassesOwn.never rfl (pi_enumT (by rfl) B.enum (pa_cons (pv 2) pa_nil)) (pg_tup rfl (pgs_cons (pg_name (i := 3) nd rfl (.inl rfl)) (pgs_cons (pg_name (i := 4) nd rfl (.inl rfl)) pgs_nil)))
        (pss_one (ps_if (PW.pt (pw_or (pt_not (pt_val (pe_c c2 hr (by decide) (by rfl) (pa_cons (pv 4) (pa_cons (pv 1) pa_nil)))))
          (pw_or1 (PW.pt (pw_and (pt_cmpR op_gt (pv 3) pe_int (nomark _)) (pw_and1 (pt_cmpR (op_leT (hu0 hr)) (pv 4) (pe_ix ix_tup (pv 2) (pe_op op_sub (pv 3) pe_int) (fun _ _ => rfl)) (nomark _)))))))) (pss_one ps_never) pss_nil)))))), ?_⟩
    refine ⟨_, rfl, _, _, _, _, true, rfl, .ty _, .base (.tup h1), kit_ty (by decide +kernel), true, rfl, iteF ?_⟩
    refine ⟨_, rfl, a, _, rfl, .inr (SqT.of h1), rfl, false, rfl, iteF ?_⟩
    refine ⟨_, rfl, a, _, rfl, SqT.of h1, rfl, vn n, [.ref t], rfl, .ref t, [], rfl, rfl, ?_⟩
    refine ⟨_, rfl, _, _, _, rfl, by omega, by omega, true, rfl, iteF ?_⟩
    refine ⟨_, rfl, _, _, _, _, true, rfl, .ty _, .base (.tup h2), kit_ty (by decide +kernel), true, rfl, iteF ?_⟩
    refine ⟨_, rfl, t, _, rfl, h2, for_it walk_enumT (fun i σ H' => Same H H' ∧ ∃ y3 y4, σ = [some (.ref a), some (vn n), some (.ref t), y3, y4]) ⟨Same.refl _, _, _, rfl⟩ (fun i σ H' _ z => z.1 _ _ h2) ?_ (fun σ H' z => q H' z.1)⟩
    rintro i x σ H1 H2 hi ⟨s1, y3, y4, rfl⟩ ⟨T, x1, x2, rfl, nT, rfl, e1, e2⟩
    cases Option.some.inj e1
    obtain ⟨b, hb, rfl⟩ := ref_at e2
    obtain ⟨tt, ht, hbt⟩ := paired_at' h3 hb
    have sT : Same H (upd H1 T (.tup [.int (i : Nat), .ref b])) := s1.trans (same_new nT)
    have hm : tt ∈ ts := List.mem_of_getElem? ht
    have ht' := ok.tie tt hm
    refine ⟨T, _, rfl, SqT.of upd_same, rfl, _, _, rfl, _, _, rfl, rfl, ?_⟩
    refine ⟨_, rfl, _, rfl, b, tt, n, rfl, sT _ _ hbt, ht'.1, ht'.2, true, rfl, iteF ?_⟩
    refine ⟨_, rfl, _, _, rfl, rfl, _, rfl, ite2 (fun hp => ?_) (fun hp => ?_)⟩
    · have hp : (0 : Int) < (i : Int) := of_decide_eq_true hp
      obtain ⟨j, rfl⟩ : ∃ j, i = j + 1 := ⟨i - 1, by omega⟩
      have hjl : j < bs.length := by
        rw [List.length_map] at hi
        omega
      have hb' : bs[j]? = some bs[j] := List.getElem?_eq_getElem hjl
      obtain ⟨tt', ht2, hbt'⟩ := paired_at' h3 hb'
      have lt : tt'.1 < tt.1 ∨ (tt'.1 = tt.1 ∧ tt'.2 < tt.2) := by
        obtain ⟨l1, e1⟩ := List.getElem?_eq_some_iff.mp ht
        obtain ⟨l2, e2⟩ := List.getElem?_eq_some_iff.mp ht2
        have := List.pairwise_iff_getElem.mp ok.srt j (j + 1) l2 l1 (by omega)
        rw [e1, e2] at this
        exact this
      refine ⟨_, rfl, _, rfl, _, rfl, _, _, rfl, rfl, t, _, _, .ref bs[j], rfl, rfl, SqT.of (sT _ _ h2), ?_, b, bs[j], [(tt.1 : Int), (tt.2 : Int)], [(tt'.1 : Int), (tt'.2 : Int)], rfl, rfl, SqT.of (sT _ _ hbt), SqT.of (sT _ _ hbt'), _, rfl, ?_⟩
      · refine at_of (j := j) (by omega) ?_
        rw [List.getElem?_map, hb']
        rfl
      · rw [le_pair (by omega)]
        exact iteF ⟨sT, _, _, rfl⟩
    · exact iteF ⟨sT, _, _, rfl⟩
def spNeedHeights : Sp := fun vs H Q _ => ∃ (a b : Addr) (n : Nat) (ts : List Tie) (hs : List Int), vs = [.ref a, .ref b] ∧ WebT H a n ts ∧ HtT H b hs ∧ Hs n hs ∧ ∀ H', Same H H' → Q .non H'
theorem scNeedHeights : FnScope ["web", "value", "index", "height"] ["web", "value"] (defScope (topS 15)) := ⟨rfl, rfl, rfl, by decide +kernel, rfl, by decide +kernel, by decide +kernel⟩
theorem cal_need_heights (D : DefAt K mg "need_heights" (topS 15) ["web", "value"]) (B : Blt mg) (c1 : Cal P w K mg base 3 "is_height" spIsHeight) : Cal P w K mg base 4 "need_heights" spNeedHeights := by
  refine cal_mk D scNeedHeights (fun vs H Q E h => ?_) (fun f cdv A outer s H vs Q E hr h => ?_)
  · obtain ⟨a, b, n, ts, hs, rfl, _⟩ := h
    rfl
  · obtain ⟨a, b, n, ts, hs, rfl, hw, hb, hh, q⟩ := h
    obtain ⟨t, bs, h1, h2, h3⟩ := hw
    have nd := scNeedHeights.nd
    refine ⟨_, pss_cons (ps_if (PW.pt (pw_or (pt_not (pt_val (pe_callB call_isi (by rfl) B.isi boot_isinstance (pa_cons (pv 1) (pa_cons (pe_bltn (v := .ty "tuple") (by rfl) B.tuple boot_tuple rfl) pa_nil)))))
        (pw_or1 (pt_cmpR op_ne (pe_callB call_len_seq (by rfl) B.len boot_len (pa_cons (pv 1) pa_nil)) (pe_ix ix_tup (pv 0) pe_int (fun _ _ => rfl)) (nomark _))))) (pss_one ps_never) pss_nil)
      (pss_one (ps_for PassesOwn.never rfl (pi_enumT (by rfl) B.enum (pa_cons (pv 1) pa_nil)) (pg_tup rfl (pgs_cons (pg_name (i := 2) nd rfl (.inl rfl)) (pgs_cons (pg_name (i := 3) nd rfl (.inl rfl)) pgs_nil)))
        (pss_one (ps_if (pt_not (pt_val (pe_c c1 hr (by decide) (by rfl) (pa_cons (pv 3) pa_nil)))) (pss_one ps_never) pss_nil)))), ?_⟩
    refine ⟨_, rfl, _, _, _, _, true, rfl, .ty _, .base (.tup hb), kit_ty (by decide +kernel), true, rfl, iteF ?_⟩
    refine ⟨_, rfl, b, _, rfl, .inr (SqT.of hb), _, rfl, a, _, 0, _, rfl, rfl, SqT.of h1, atI_nat (j := 0) rfl, rfl, _, rfl, iteNS (by rw [List.length_map, hh.len]) ?_⟩
    refine ⟨_, rfl, b, _, rfl, hb, for_it walk_enumT (fun i σ H' => Same H H' ∧ ∃ y3 y4, σ = [some (.ref a), some (.ref b), y3, y4]) ⟨Same.refl _, _, _, rfl⟩ (fun i σ H' _ z => z.1 _ _ hb) ?_ (fun σ H' z => q H' z.1)⟩
    rintro i x σ H1 H2 hi ⟨s1, y3, y4, rfl⟩ ⟨T, x1, x2, rfl, nT, rfl, e1, e2⟩
    cases Option.some.inj e1
    obtain ⟨z, hz, rfl⟩ := int_at e2
    have sT : Same H (upd H1 T (.tup [.int (i : Nat), .int z])) := s1.trans (same_new nT)
    have zr := hh.rng z (List.mem_of_getElem? hz)
    refine ⟨T, _, rfl, SqT.of upd_same, rfl, _, _, rfl, _, _, rfl, rfl, ?_⟩
    refine ⟨_, rfl, z, rfl, by omega, by omega, true, rfl, iteF ⟨sT, _, _, rfl⟩⟩
end
end Sto

/-! part KD3 -/
set_option Elab.async false
set_option linter.all false
set_option maxRecDepth 100000
set_option maxHeartbeats 4000000
namespace Sto
open PySem PySem.Spec PyProof.Rows L2 StX
/-- tuples stay -/
def Tups (H H' : Hp) : Prop := ∀ b xs, H b = some (.tup xs) → H' b = some (.tup xs)
section
variable {H H' H2 : Hp} {a l p : Addr} {o u : HO}
theorem Tups.refl (H : Hp) : Tups H H := fun _ _ h => h
theorem Tups.trans (s : Tups H H') (t : Tups H' H2) : Tups H H2 := fun b xs h => t b xs (s b xs h)
theorem Tups.of (s : Same H H') : Tups H H' := fun b xs h => s b _ h
theorem Tups.new (h : H p = none) : Tups H (upd H p o) := .of (same_new h)
theorem Tups.put (h : H l = some u) (no : ∀ xs, u ≠ .tup xs := by intro _ z; cases z) : Tups H (upd H l o) := fun b xs e => by
  rw [upd_ne (ne_of e h fun z => no xs z.symm)]
  exact e
theorem HtT.tups {hs : List Int} (h : HtT H a hs) (s : Tups H H') : HtT H' a hs := s _ _ h
theorem pairs_tups {bs : List Addr} {ts : List Tie} (h : Paired (PairT H) bs ts) (s : Tups H H') : Paired (PairT H') bs ts := Paired.mapP h fun _ _ z => s _ _ z
theorem WebT.tups {n : Nat} {ts : List Tie} (h : WebT H a n ts) (s : Tups H H') : WebT H' a n ts := by
  obtain ⟨t, bs, h1, h2, h3⟩ := h
  exact ⟨t, bs, s _ _ h1, s _ _ h2, pairs_tups h3 s⟩
end
theorem vn_map (l : List Nat) : l.map vn = (l.map fun k : Nat => (k : Int)).map V.int := by
  rw [List.map_map]
  rfl
theorem inV_vn (p : Nat) (l : List Nat) : inV (vn p) (l.map vn) = decide (p ∈ l) := by
  unfold inV
  rw [List.any_map]
  induction l with
  | nil => rfl
  | cons a r ih =>
    rw [List.any_cons, ih]
    show (((a : Int) == (p : Int)) || decide (p ∈ r)) = decide (p ∈ a :: r)
    by_cases e : a = p
    · subst e
      simp
    · have e' : ¬ (a : Int) = (p : Int) := fun z => e (Int.ofNat.inj z)
      have e2 : ¬ p = a := fun z => e z.symm
      simp [e', e2]
theorem flat_vn (l : List Nat) : (l.map vn).all flatV = true := by
  rw [List.all_map]
  exact List.all_eq_true.mpr fun _ _ => rfl
theorem nbRaw_snoc (ts : List Tie) (i p : Nat) (t : Tie) (h : ts[i]? = some t) : nbRaw (ts.take (i + 1)) p = nbRaw (ts.take i) p ++ (if p = t.1 ∨ p = t.2 then [t.1 + t.2 - p] else []) := by
  unfold nbRaw
  rw [List.take_add_one, h, List.filterMap_append]
  congr 1
  show List.filterMap _ [t] = _
  rw [List.filterMap_cons, List.filterMap_nil]
  split <;> rename_i c
  · split at c
    · cases c
    · rename_i e
      rw [if_neg e]
  · split at c
    · rename_i e
      cases c
      rw [if_pos e]
    · cases c
section
variable {P : Program} {w : World} {K : PySem.W.Frag} {mg : Str → Option Value} {base : Heap}
/-! ### tied_to -/
def spTied : Sp := fun vs H Q _ => ∃ (a : Addr) (n : Nat) (ts : List Tie) (p : Nat), vs = [.ref a, vn p] ∧ WebT H a n ts ∧ ts.length ≤ 6 ∧
  ∀ H' l, Same H H' → H l = none → H' l = some (.lst ((nb ts p).map vn)) → Q (.ref l) H'
theorem scTied : FnScope ["web", "person", "found", "one", "other"] ["web", "person"] (defScope (topS 16)) := ⟨rfl, rfl, rfl, by decide +kernel, rfl, by decide +kernel, by decide +kernel⟩
theorem cal_tied_to (D : DefAt K mg "tied_to" (topS 16) ["web", "person"]) (B : Blt mg) : Cal P w K mg base 1 "tied_to" spTied := by
  refine cal_mk D scTied (fun vs H Q E h => ?_) (fun f cdv A outer s H vs Q E hr h => ?_)
  · obtain ⟨a, n, ts, p, rfl, _⟩ := h
    rfl
  · obtain ⟨a, n, ts, p, rfl, hw, h6, q⟩ := h
    obtain ⟨t, bs, h1, h2, h3⟩ := hw
    have nd := scTied.nd
    have hlen : bs.length = ts.length := Paired.length h3
    refine ⟨_, pss_cons (ps_set (i := 2) nd rfl (.inl rfl) (pe_lst pa_nil))
      (pss_cons (ps_for PassesOwn.never rfl (pi_tup (pe_ix ix_tup (pv 0) pe_int (fun _ _ => rfl))) (pg_tup rfl (pgs_cons (pg_name (i := 3) nd rfl (.inl rfl)) (pgs_cons (pg_name (i := 4) nd rfl (.inl rfl)) pgs_nil)))
        (pss_one (ps_if (pt_cmpR op_in_seq (pv 1) (pe_tup (pa_cons (pv 3) (pa_cons (pv 4) pa_nil))) (by rfl))
          (pss_one (ps_expr (pe_bm PySem.F.plainAttrs_list PySem.F.slot_list_append PySem.F.type_list_append mt_append (pv 2) (pa_cons (pe_op op_sub (pe_op op_add (pv 3) (pv 4)) (pv 1)) pa_nil)))) pss_nil)))
      (pss_one (ps_ret (pe_callB cr_sortedI (by rfl) B.sorted boot_sorted (pa_cons (pv 2) pa_nil))))), ?_⟩
    refine ⟨Nat.zero_le _, fun l nl => ?_⟩
    have s0 : Same H (upd H l (.lst [])) := same_new nl
    refine ⟨_, rfl, a, _, 1, .ref t, rfl, rfl, SqT.of (s0 _ _ h1), atI_nat (j := 1) rfl, t, rfl, ⟨_, SqT.of (s0 _ _ h2)⟩, for_it (walk_tup (K := K) (a := t) (xs := bs.map V.ref)) (fun i σ H' => Same H H' ∧ H' l = some (.lst ((nbRaw (ts.take i) p).map vn)) ∧ ∃ y3 y4, σ = [some (.ref a), some (vn p), some (.ref l), y3, y4])
      ⟨s0, upd_same, _, _, rfl⟩ (fun i σ H' _ z => SqT.of (z.1 _ _ h2)) ?_ ?_⟩
    · rintro i x σ H1 H2 hi ⟨s1, hl, y3, y4, rfl⟩ ⟨rfl, e⟩
      obtain ⟨b, hb, rfl⟩ := ref_at e
      obtain ⟨tt, ht, hbt⟩ := paired_at' h3 hb
      refine ⟨b, _, rfl, SqT.of (s1 _ _ hbt), rfl, _, _, rfl, _, _, rfl, rfl, ?_⟩
      refine ⟨_, rfl, _, rfl, _, rfl, small (m := 2) (Nat.le_refl _), fun T nT => ⟨T, [vn tt.1, vn tt.2], rfl, .inr (SqT.of upd_same), rfl, rfl, _, rfl, ?_⟩⟩
      have sT := s1.trans (same_new (o := .tup [vn tt.1, vn tt.2]) nT)
      have nTl : l ≠ T := ne_of_none hl nT
      have hlT : upd H2 T (.tup [vn tt.1, vn tt.2]) l = some (.lst ((nbRaw (ts.take i) p).map vn)) := by
        rw [upd_ne nTl]
        exact hl
      have ev := inV_vn p [tt.1, tt.2]
      rw [show [vn tt.1, vn tt.2] = [tt.1, tt.2].map vn from rfl, ev]
      have sn := nbRaw_snoc ts i p tt ht
      refine ite2 (fun hp => ?_) (fun hp => ?_)
      · have hp : p ∈ [tt.1, tt.2] := of_decide_eq_true hp
        have hp' : p = tt.1 ∨ p = tt.2 := by simpa using hp
        rw [if_pos hp'] at sn
        refine ⟨_, rfl, .inl ⟨rfl, _, SqL.of hlT⟩, _, rfl, _, rfl, _, _, rfl, rfl, _, rfl, _, _, rfl, rfl, l, _, _, rfl, rfl, hlT, ?_, ?_⟩
        · rw [List.length_map]
          have := nbRaw_len (ts.take i) p
          rw [List.length_take] at this
          exact smallL (m := 6) (by omega)
        · refine ⟨sT.upd_new nl, ?_, _, _, rfl⟩
          rw [upd_same, sn, List.map_append]
          have e : ((tt.1 : Int) + (tt.2 : Int) - (p : Int)) = ((tt.1 + tt.2 - p : Nat) : Int) := by omega
          show some (HO.lst (_ ++ [V.int ((tt.1 : Int) + (tt.2 : Int) - (p : Int))])) = _
          rw [e]
          rfl
      · have hp : ¬ p ∈ [tt.1, tt.2] := fun z => hp (decide_eq_true z)
        have hp' : ¬ (p = tt.1 ∨ p = tt.2) := by simpa using hp
        rw [if_neg hp', List.append_nil] at sn
        exact ⟨sT, by rw [sn]; exact hlT, _, _, rfl⟩
    · rintro σ H1 ⟨s1, hl, y3, y4, rfl⟩
      rw [List.length_map, hlen, List.take_length, vn_map] at hl
      refine ⟨_, rfl, l, _, rfl, SqL.of hl, fun zs u pz sz nu => ?_⟩
      rw [sortN_int pz sz, ← vn_map]
      exact q _ u (s1.trans (same_new nu)) (s1.free nu) upd_same
/-! ### everybody -/
def spEvery : Sp := fun vs H Q _ => ∃ (a : Addr) (n : Nat) (ts : List Tie), vs = [.ref a] ∧ WebT H a n ts ∧ n ≤ 4 ∧ ∀ H' p, Same H H' → H p = none → H' p = some (.tup ((List.range n).map vn)) → Q (.ref p) H'
theorem scEvery : FnScope ["web"] ["web"] (defScope (topS 19)) := ⟨rfl, rfl, rfl, by decide +kernel, rfl, by decide +kernel, by decide +kernel⟩
theorem rgV_range (n : Nat) : rgV 0 (n : Int) = (List.range n).map vn := by
  unfold rgV
  rw [Int.sub_zero, Int.toNat_natCast]
  refine List.map_congr_left fun k _ => ?_
  rw [Int.zero_add]
theorem cal_everybody (D : DefAt K mg "everybody" (topS 19) ["web"]) (B : Blt mg) : Cal P w K mg base 1 "everybody" spEvery := by
  refine cal_mk D scEvery (fun vs H Q E h => ?_) (fun f cdv A outer s H vs Q E hr h => ?_)
  · obtain ⟨a, n, ts, rfl, _⟩ := h
    rfl
  · obtain ⟨a, n, ts, rfl, hw, h4, q⟩ := h
    obtain ⟨t, bs, h1, h2, h3⟩ := hw
    refine ⟨_, pss_one (ps_ret (pe_tupRg rfl (by rfl) B.tuple (prg_1 (by rfl) B.range (pe_ix ix_tup (pv 0) pe_int (fun _ _ => rfl))))), ?_⟩
    refine ⟨_, rfl, a, _, 0, _, rfl, rfl, SqT.of h1, atI_nat (j := 0) rfl, _, rfl, RgOk.of_le (by decide) (by omega) (by decide) (by omega), fun p np => ?_⟩
    rw [rgV_range]
    exact q _ p (same_new np) np upd_same
/-! ### after -/
def spAfter : Sp := fun vs H Q _ => ∃ (b : Addr) (hs : List Int) (p o : Nat), vs = [.ref b, vn p, vn o] ∧ HtT H b hs ∧ p < hs.length ∧ o < hs.length ∧ hs.length ≤ 4 ∧
  ∀ H' q, Same H H' → H q = none → HtT H' q (aft hs (p, o)) → Q (.ref q) H'
theorem scAfter : FnScope ["heights", "person", "other"] ["heights", "person", "other"] (defScope (topS 23)) := ⟨rfl, rfl, rfl, by decide +kernel, rfl, by decide +kernel, by decide +kernel⟩
theorem ht_at {hs : List Int} {p : Nat} (h : p < hs.length) : atI (hs.map V.int) (p : Int) = some (.int (ht hs p)) := by
  refine atI_nat ?_
  rw [List.getElem?_map, ht_get h]
  rfl
theorem cut_lo {hs : List Int} {p : Nat} (h : p < hs.length) : cutV (hs.map V.int) none (some (p : Int)) = (hs.take p).map V.int := by
  unfold cutV
  rw [HT.sIx_nat, HT.sIx_none, List.drop_zero, List.length_map, Nat.min_eq_left (Nat.le_of_lt h), Nat.sub_zero, List.map_take]
theorem cut_hi {hs : List Int} {p : Nat} (h : p < hs.length) : cutV (hs.map V.int) (some ((p : Int) + 1)) none = (hs.drop (p + 1)).map V.int := by
  unfold cutV
  rw [show ((p : Int) + 1) = ((p + 1 : Nat) : Int) from by omega, HT.sIx_nat, HT.sIx_none, List.length_map, Nat.min_eq_left h, ← List.map_drop, ← List.map_take, List.take_of_length_le]
  rw [List.length_drop]
  exact Nat.le_refl _
theorem cal_after (D : DefAt K mg "after" (topS 23) ["heights", "person", "other"]) (B : Blt mg) : Cal P w K mg base 1 "after" spAfter := by
  refine cal_mk D scAfter (fun vs H Q E h => ?_) (fun f cdv A outer s H vs Q E hr h => ?_)
  · obtain ⟨b, hs, p, o, rfl, _⟩ := h
    rfl
  · obtain ⟨b, hs, p, o, rfl, hb, hp, ho, h4, q⟩ := h
    refine ⟨_, pss_one (ps_ret (pe_tup (pa_star (pe_slice sl_tup (pv 0) po_none (po_some (pv 1))) (pa_cons (pe_ix ix_tup (pv 0) (pv 2) (fun _ _ => rfl)) (pa_star (pe_slice sl_tup (pv 0) (po_some (pe_op op_add (pv 1) pe_int)) po_none) pa_nil))))), ?_⟩
    refine ⟨_, rfl, _, rfl, _, rfl, b, _, rfl, SqT.of hb, ?_, fun u nu => ?_⟩
    · rw [HT.sIx_nat, List.length_map]
      omega
    have s1 : Same H (upd H u (.tup (cutV (hs.map V.int) none (some (p : Int))))) := same_new nu
    refine ⟨u, _, rfl, .inl (SqT.of upd_same), _, rfl, _, rfl, b, _, _, _, rfl, rfl, SqT.of (s1 _ _ hb), ht_at ho, ?_⟩
    refine ⟨_, rfl, _, rfl, _, _, rfl, rfl, _, rfl, b, _, rfl, SqT.of (s1 _ _ hb), ?_, fun v nv => ?_⟩
    · rw [show ((p : Int) + 1) = ((p + 1 : Nat) : Int) from by omega, HT.sIx_nat, List.length_map]
      omega
    refine ⟨v, _, rfl, .inl (SqT.of upd_same), ?_⟩
    have s2 := s1.trans (same_new (o := .tup (cutV (hs.map V.int) (some ((p : Int) + 1)) none)) nv)
    rw [cut_lo hp, cut_hi hp] at s2 ⊢
    have e : (hs.take p).map V.int ++ (V.int (ht hs o) :: ((hs.drop (p + 1)).map V.int ++ [])) = (aft hs (p, o)).map V.int := by
      unfold aft
      rw [List.append_nil, List.map_append, List.map_cons]
    show ((hs.take p).map V.int ++ (V.int (ht hs o) :: ((hs.drop (p + 1)).map V.int ++ []))).length ≤ sizeLine ∧ _
    rw [e]
    refine ⟨?_, fun r nr => ?_⟩
    · rw [List.length_map, aft_len hp]
      exact small h4
    · exact q _ r (s2.trans (same_new nr)) (s2.free nr) upd_same
end
end Sto

/-! part KD4 -/
set_option Elab.async false
set_option linter.all false
set_option maxRecDepth 100000
set_option maxHeartbeats 4000000
namespace Sto
open PySem PySem.Spec PyProof.Rows L2 StX
theorem filter_snoc {α : Type} {l : List α} {i : Nat} {x : α} (h : l[i]? = some x) (f : α → Bool) : (l.take (i + 1)).filter f = (l.take i).filter f ++ (if f x = true then [x] else []) := by
  rw [List.take_add_one, h, List.filter_append]
  congr 1
  show List.filter f [x] = _
  by_cases c : f x = true
  · rw [List.filter_cons_of_pos c, if_pos c]
    rfl
  · rw [List.filter_cons_of_neg c, if_neg c]
    rfl
/-- the stoops of the persons below i -/
def stpTo (i : Nat) (ts : List Tie) (hs : List Int) : List (Nat × Nat) := (List.range i).flatMap fun p => (lower ts hs p).map fun o => (p, o)
theorem stpTo_succ (i : Nat) (ts : List Tie) (hs : List Int) : stpTo (i + 1) ts hs = stpTo i ts hs ++ (lower ts hs i).map fun o => (i, o) := by
  unfold stpTo
  rw [List.range_succ, List.flatMap_append]
  congr 1
  exact List.flatMap_singleton ..
theorem stpTo_len (i : Nat) (ts : List Tie) (hs : List Int) : (stpTo i ts hs).length ≤ i * ts.length := stp_len_le i ts hs
theorem range_at {n i : Nat} {x : V} (h : ((List.range n).map vn)[i]? = some x) : i < n ∧ x = vn i := by
  obtain ⟨k, h1, rfl⟩ := vn_at h
  obtain ⟨h2, h3⟩ := List.getElem?_eq_some_iff.mp h1
  rw [List.getElem_range] at h3
  rw [List.length_range] at h2
  exact ⟨h2, by rw [h3]⟩
/-! ### within a comprehension's block: the written part by its name -/
theorem ix_tupK {X : Cx} (K : PySem.W.Frag) (e : X.K = K) : IxR X (rIxT K) := by
  subst e
  exact ix_tup
theorem op_inK {X : Cx} (K : PySem.W.Frag) (e : X.K = K) : OpR X (compareOp .In) (rIn K false) := by
  subst e
  exact op_in_seq
theorem op_notInK {X : Cx} (K : PySem.W.Frag) (e : X.K = K) : OpR X (compareOp .NotIn) (rIn K true) := by
  subst e
  exact op_notIn_seq
section
variable {P : Program} {w : World} {K : PySem.W.Frag} {mg : Str → Option Value} {base : Heap}
/-! ### next_of -/
def spNext : Sp := fun vs H Q _ => ∃ (a b : Addr) (n : Nat) (ts : List Tie) (hs : List Int), vs = [.ref a, .ref b] ∧ WebT H a n ts ∧ HtT H b hs ∧ Ok n ts ∧ hs.length = n ∧
  ∀ H' p bs, Same H H' → H p = none → H' p = some (.tup (bs.map V.ref)) → Paired (PairT H') bs (stp n ts hs) → Q (.ref p) H'
theorem scNext : FnScope ["web", "heights", "found", "person", "one"] ["web", "heights"] (defScope (topS 22)) := ⟨rfl, rfl, rfl, by decide +kernel, rfl, by decide +kernel, by decide +kernel⟩
theorem cal_next_of (D : DefAt K mg "next_of" (topS 22) ["web", "heights"]) (B : Blt mg) (c1 : Cal P w K mg base 1 "everybody" spEvery) (c2 : Cal P w K mg base 1 "tied_to" spTied) : Cal P w K mg base 2 "next_of" spNext := by
  refine cal_mk D scNext (fun vs H Q E h => ?_) (fun f cdv A outer s H vs Q E hr h => ?_)
  · obtain ⟨a, b, n, ts, hs, rfl, _⟩ := h
    rfl
  · obtain ⟨a, b, n, ts, hs, rfl, hw, hb, ok, hl, q⟩ := h
    have nd := scNext.nd
    have h4 := ok.n4
    have h6 := ok.few
    refine ⟨_, pss_cons (ps_set (i := 2) nd rfl (.inl rfl) (pe_lst pa_nil))
      (pss_cons (ps_for PassesOwn.never rfl (pi_tup (pe_c c1 hr (by decide) (by rfl) (pa_cons (pv 0) pa_nil))) (pg_name (i := 3) nd rfl (.inr rfl))
        (pss_one (ps_expr (pe_bm PySem.F.plainAttrs_list PySem.F.slot_list_extend PySem.F.type_list_extend mt_extend (pv 2) (pa_cons
          (pe_lc (own := [("one", 4)]) (g := gName 4) (by rfl) nd (pi_list (pe_c c2 hr (by decide) (by rfl) (pa_cons (pv 0) (pa_cons (pv 3) pa_nil))))
            (blkOk_by (own := [("one", 4)]) (N := ["web", "heights", "found", "person", "one"]) (sc := defScope (topS 22)) (by decide +kernel)) (fun _ _ _ _ _ => pg_name (i := 4) nd rfl (Or.inl rfl))
            (fun _ _ _ _ _ => pts_one (pt_cmpR op_lt (pe_ix (ix_tupK K rfl) (pv 1) (pv 4) (fun _ _ => rfl)) (pe_ix (ix_tupK K rfl) (pv 1) (pv 3) (fun _ _ => rfl)) (nomark _)))
            (fun _ _ _ _ _ => pe_tup (pa_cons (pv 3) (pa_cons (pv 4) pa_nil)))) pa_nil)))))
      (pss_one (ps_ret (pe_tupleOf (by rfl) B.tuple (pv 2))))), ?_⟩
    refine ⟨Nat.zero_le _, fun l nl => ?_⟩
    have s0 : Same H (upd H l (.lst [])) := same_new nl
    refine ⟨_, rfl, a, n, ts, rfl, hw.same s0, h4, fun H1 e s1 ne he => ?_⟩
    have sH1 := s0.trans s1
    refine ⟨e, rfl, ⟨_, SqT.of he⟩, for_it (walk_tup (K := K) (a := e) (xs := (List.range n).map vn)) (fun i σ H' => Same H H' ∧ (∃ bs, H' l = some (.lst (bs.map V.ref)) ∧ Paired (PairT H') bs (stpTo i ts hs)) ∧ H' e = some (.tup ((List.range n).map vn)) ∧ ∃ y3 y4, σ = [some (.ref a), some (.ref b), some (.ref l), y3, y4])
      ⟨sH1, ⟨[], s1 _ _ upd_same, .nil⟩, he, _, _, rfl⟩ (fun i σ H' _ z => SqT.of z.2.2.1) ?_ ?_⟩
    · rintro i x σ H2 H3 hi ⟨s2, ⟨bs, hbl, hbp⟩, he2, y3, y4, rfl⟩ ⟨rfl, ex⟩
      obtain ⟨hin, rfl⟩ := range_at ex
      -- found.extend([..])
      refine ⟨_, rfl, .inl ⟨rfl, _, SqL.of hbl⟩, ?_⟩
      refine ⟨_, rfl, _, rfl, a, n, ts, i, rfl, hw.same s2, h6, fun H4 m s4 nm hm => ⟨m, rfl, ⟨_, SqL.of hm⟩, fun D nD => ?_⟩⟩
      have s24 := s2.trans s4
      have hbl4 := s4 _ _ hbl
      have nlD : l ≠ D := ne_of_none hbl4 nD
      have nmD : m ≠ D := ne_of_none hm nD
      have hb4 := hb.same s24
      have nDH : H D = none := s24.free nD
      refine lc_it (walk_list (K := K) (a := m) (xs := (nb ts i).map vn)) (fun j H' => Same H H' ∧ H' l = some (.lst (bs.map V.ref)) ∧ Paired (PairT H') bs (stpTo i ts hs) ∧ H' m = some (.lst ((nb ts i).map vn)) ∧ H' e = some (.tup ((List.range n).map vn)) ∧
        ∃ cs, H' D = some (.lst (cs.map V.ref)) ∧ Paired (PairT H') cs ((((nb ts i).take j).filter fun o => decide (ht hs o < ht hs i)).map fun o => (i, o))) ?_ (fun j H' _ z => SqL.of z.2.2.2.1) ?_ ?_
      · refine ⟨s24.trans (same_new nD), by rw [upd_ne nlD]; exact hbl4, pairs_same hbp (s4.trans (same_new nD)), by rw [upd_ne nmD]; exact hm, (s4.trans (same_new nD)) _ _ he2, [], upd_same, .nil⟩
      · rintro j x H5 H6 hj ⟨s5, l5, p5, m5, e5, cs, d5, c5⟩ ⟨rfl, ex⟩
        obtain ⟨o, ho, rfl⟩ := vn_at ex
        have hom : o ∈ nb ts i := List.mem_of_getElem? ho
        have hon := (ok.nb_lt hom).1
        have fs := filter_snoc ho fun o => decide (ht hs o < ht hs i)
        refine ⟨rfl, ?_⟩
        refine ⟨_, rfl, _, rfl, b, _, _, _, rfl, rfl, SqT.of (hb.same s5), ht_at (by omega), _, rfl, _, rfl, b, _, _, _, rfl, rfl, SqT.of (hb.same s5), ht_at (by omega), _, _, rfl, rfl, _, rfl, ?_⟩
        refine ite2 (fun hp => ?_) (fun hp => ?_)
        · rw [if_pos hp] at fs
          refine ⟨_, rfl, _, rfl, small (m := 2) (Nat.le_refl _), fun T nT => ⟨_, by rw [upd_ne (ne_of_none d5 nT)]; exact d5, ?_, ?_⟩⟩
          · rw [List.length_map, Paired.length c5, List.length_map]
            have h1 := List.length_filter_le (fun o => decide (ht hs o < ht hs i)) ((nb ts i).take j)
            have h2 : ((nb ts i).take j).length ≤ (nb ts i).length := by rw [List.length_take]; omega
            have h3 := nb_len ts i
            exact smallL (m := 6) (by omega)
          · have ntD : D ≠ T := ne_of_none d5 nT
            have tp : Tups H6 (upd (upd H6 T (.tup [vn i, vn o])) D (.lst (cs.map V.ref ++ [.ref T]))) := (Tups.new nT).trans (.put (u := .lst (cs.map V.ref)) (by rw [upd_ne ntD]; exact d5))
            have sD : Same H (upd (upd H6 T (.tup [vn i, vn o])) D (.lst (cs.map V.ref ++ [.ref T]))) := (s5.trans (same_new nT)).upd_new nDH
            refine ⟨sD, ?_, pairs_tups p5 tp, ?_, tp _ _ e5, cs ++ [T], ?_, ?_⟩
            · rw [upd_ne nlD, upd_ne (ne_of_none l5 nT)]
              exact l5
            · rw [upd_ne nmD, upd_ne (ne_of_none m5 nT)]
              exact m5
            · rw [upd_same, List.map_append]
              rfl
            · rw [fs, List.map_append]
              refine paired_append (pairs_tups c5 tp) (.cons ?_ .nil)
              show upd _ _ _ T = _
              rw [upd_ne ntD.symm, upd_same]
        · rw [if_neg hp, List.append_nil] at fs
          exact ⟨s5, l5, p5, m5, e5, cs, d5, by rw [fs]; exact c5⟩
      · rintro H5 ⟨s5, l5, p5, m5, e5, cs, d5, c5⟩
        rw [List.length_map, List.take_length] at c5
        have c5 : Paired (PairT H5) cs ((lower ts hs i).map fun o => (i, o)) := c5
        refine ⟨l, D, _, _, rfl, rfl, l5, d5, ?_, ?_⟩
        · rw [List.length_map, List.length_map, Paired.length p5, Paired.length c5, List.length_map]
          have h1 := stpTo_len i ts hs
          have h2 := lower_len ts hs i
          have h3 : i * ts.length ≤ 4 * 6 := Nat.mul_le_mul (by omega) h6
          exact small (m := 30) (by omega)
        · have nDl : D ≠ l := nlD.symm
          have tp : Tups H5 (upd H5 l (.lst (bs.map V.ref ++ cs.map V.ref))) := .put l5
          refine ⟨s5.upd_new nl, ⟨bs ++ cs, ?_, ?_⟩, tp _ _ e5, _, _, rfl⟩
          · rw [upd_same, List.map_append]
          · rw [stpTo_succ]
            exact paired_append (pairs_tups p5 tp) (pairs_tups c5 tp)
    · rintro σ H2 ⟨s2, ⟨bs, hbl, hbp⟩, he2, y3, y4, rfl⟩
      rw [List.length_map, List.length_range] at hbp
      refine ⟨_, rfl, .inl ⟨l, _, rfl, SqL.of hbl, fun u nu => ?_⟩⟩
      exact q _ u bs (s2.trans (same_new nu)) (s2.free nu) upd_same (pairs_same hbp (same_new nu))
end
end Sto

/-! part KD5 -/
set_option Elab.async false
set_option linter.all false
set_option maxRecDepth 100000
set_option maxHeartbeats 4000000
namespace Sto
open PySem PySem.Spec PyProof.Rows L2 StX
section
variable {P : Program} {w : World} {K : PySem.W.Frag} {mg : Str → Option Value} {base : Heap}
/-! ### _law_ties -/
theorem scLTies : FnScope ["_law_web_here", "_law_person", "_law_one", "_law_other"] ["_law_web_here", "_law_person"] (defScope (topS 45)) := ⟨rfl, rfl, rfl, by decide +kernel, rfl, by decide +kernel, by decide +kernel⟩
theorem cal_law_ties (D : DefAt K mg "_law_ties" (topS 45) ["_law_web_here", "_law_person"]) (B : Blt mg) : Cal P w K mg base 1 "_law_ties" spTied := by
  refine cal_mk D scLTies (fun vs H Q E h => ?_) (fun f cdv A outer s H vs Q E hr h => ?_)
  · obtain ⟨a, n, ts, p, rfl, _⟩ := h
    rfl
  · obtain ⟨a, n, ts, p, rfl, hw, h6, q⟩ := h
    obtain ⟨t, bs, h1, h2, h3⟩ := hw
    have nd := scLTies.nd
    have hlen : bs.length = ts.length := Paired.length h3
    refine ⟨_, pss_one (ps_ret (pe_callB cr_sortedI (by rfl) B.sorted boot_sorted (pa_cons
      (pe_lc (own := [("_law_one", 2), ("_law_other", 3)]) (g := gTup K 2 (gCons (gName 2) (gCons (gName 3) gNil))) (by rfl) nd (pi_tup (pe_ix ix_tup (pv 0) pe_int (fun _ _ => rfl)))
        (blkOk_by (own := [("_law_one", 2), ("_law_other", 3)]) (N := ["_law_web_here", "_law_person", "_law_one", "_law_other"]) (sc := defScope (topS 45)) (by decide +kernel))
        (fun _ _ _ _ _ => pg_tup rfl (pgs_cons (pg_name (i := 2) nd rfl (Or.inl rfl)) (pgs_cons (pg_name (i := 3) nd rfl (Or.inl rfl)) pgs_nil)))
        (fun _ _ _ _ _ => pts_one (pt_cmpR (op_inK K rfl) (pv 1) (pe_tup (pa_cons (pv 2) (pa_cons (pv 3) pa_nil))) (by rfl)))
        (fun _ _ _ _ _ => pe_op op_sub (pe_op op_add (pv 2) (pv 3)) (pv 1))) pa_nil))), ?_⟩
    refine ⟨_, rfl, a, _, 1, .ref t, rfl, rfl, SqT.of h1, atI_nat (j := 1) rfl, t, rfl, ⟨_, SqT.of h2⟩, fun D nD => ?_⟩
    refine lc_it (walk_tup (K := K) (a := t) (xs := bs.map V.ref)) (fun j H' => Same H H' ∧ H' D = some (.lst ((nbRaw (ts.take j) p).map vn))) ⟨same_new nD, upd_same⟩ (fun j H' _ z => SqT.of (z.1 _ _ h2)) ?_ ?_
    · rintro i x H1 H2 hi ⟨s1, hl⟩ ⟨rfl, e⟩
      obtain ⟨b, hb, rfl⟩ := ref_at e
      obtain ⟨tt, ht, hbt⟩ := paired_at' h3 hb
      refine ⟨b, _, rfl, SqT.of (s1 _ _ hbt), rfl, _, _, rfl, _, _, rfl, rfl, rfl, ?_⟩
      refine ⟨_, rfl, _, rfl, _, rfl, small (m := 2) (Nat.le_refl _), fun T nT => ⟨T, [vn tt.1, vn tt.2], rfl, .inr (SqT.of upd_same), rfl, rfl, _, rfl, ?_⟩⟩
      have sT := s1.trans (same_new (o := .tup [vn tt.1, vn tt.2]) nT)
      have nTl : D ≠ T := ne_of_none hl nT
      have hlT : upd H2 T (.tup [vn tt.1, vn tt.2]) D = some (.lst ((nbRaw (ts.take i) p).map vn)) := by
        rw [upd_ne nTl]
        exact hl
      have ev := inV_vn p [tt.1, tt.2]
      rw [show [vn tt.1, vn tt.2] = [tt.1, tt.2].map vn from rfl, ev]
      have sn := nbRaw_snoc ts i p tt ht
      refine ite2 (fun hp => ?_) (fun hp => ?_)
      · have hp : p ∈ [tt.1, tt.2] := of_decide_eq_true hp
        have hp' : p = tt.1 ∨ p = tt.2 := by simpa using hp
        rw [if_pos hp'] at sn
        refine ⟨_, rfl, _, rfl, _, _, rfl, rfl, _, rfl, _, _, rfl, rfl, _, hlT, ?_, ?_⟩
        · rw [List.length_map]
          have := nbRaw_len (ts.take i) p
          rw [List.length_take] at this
          exact smallL (m := 6) (by omega)
        · refine ⟨sT.upd_new nD, ?_⟩
          rw [upd_same, sn, List.map_append]
          have e : ((tt.1 : Int) + (tt.2 : Int) - (p : Int)) = ((tt.1 + tt.2 - p : Nat) : Int) := by omega
          show some (HO.lst (_ ++ [V.int ((tt.1 : Int) + (tt.2 : Int) - (p : Int))])) = _
          rw [e]
          rfl
      · have hp : ¬ p ∈ [tt.1, tt.2] := fun z => hp (decide_eq_true z)
        have hp' : ¬ (p = tt.1 ∨ p = tt.2) := by simpa using hp
        rw [if_neg hp', List.append_nil] at sn
        exact ⟨sT, by rw [sn]; exact hlT⟩
    · rintro H1 ⟨s1, hl⟩
      rw [List.length_map, hlen, List.take_length, vn_map] at hl
      refine ⟨D, _, rfl, SqL.of hl, fun zs u pz sz nu => ?_⟩
      rw [sortN_int pz sz, ← vn_map]
      exact q _ u (s1.trans (same_new nu)) (s1.free nu) upd_same
/-! ### _law_stoops -/
def spStoops : Sp := fun vs H Q _ => ∃ (a b : Addr) (n : Nat) (ts : List Tie) (hs : List Int), vs = [.ref a, .ref b] ∧ WebT H a n ts ∧ HtT H b hs ∧ Ok n ts ∧ hs.length = n ∧
  ∀ H' p bs, Same H H' → H p = none → H' p = some (.lst (bs.map V.ref)) → Paired (PairT H') bs (stp n ts hs) → Q (.ref p) H'
theorem scLStoops : FnScope ["_law_web_here", "_law_heights_here", "_law_found", "_law_person", "_law_one"] ["_law_web_here", "_law_heights_here"] (defScope (topS 46)) := ⟨rfl, rfl, rfl, by decide +kernel, rfl, by decide +kernel, by decide +kernel⟩
theorem cal_law_stoops (D : DefAt K mg "_law_stoops" (topS 46) ["_law_web_here", "_law_heights_here"]) (B : Blt mg) (c2 : Cal P w K mg base 1 "_law_ties" spTied) : Cal P w K mg base 2 "_law_stoops" spStoops := by
  refine cal_mk D scLStoops (fun vs H Q E h => ?_) (fun f cdv A outer s H vs Q E hr h => ?_)
  · obtain ⟨a, b, n, ts, hs, rfl, _⟩ := h
    rfl
  · obtain ⟨a, b, n, ts, hs, rfl, hw, hb, ok, hl, q⟩ := h
    have nd := scLStoops.nd
    have h4 := ok.n4
    have h6 := ok.few
    obtain ⟨wt, wbs, hw1, hw2, hw3⟩ := id hw
    refine ⟨_, pss_cons (ps_set (i := 2) nd rfl (.inl rfl) (pe_lst pa_nil))
      (pss_cons (ps_for PassesOwn.never rfl (pi_range1 (by rfl) B.range (pa_cons (pe_ix ix_tup (pv 0) pe_int (fun _ _ => rfl)) pa_nil)) (pg_name (i := 3) nd rfl (.inr rfl))
        (pss_one (ps_set (i := 2) nd rfl (.inl rfl) (pe_op op_cat (pv 2)
          (pe_lc (own := [("_law_one", 4)]) (g := gName 4) (by rfl) nd (pi_list (pe_c c2 hr (by decide) (by rfl) (pa_cons (pv 0) (pa_cons (pv 3) pa_nil))))
            (blkOk_by (own := [("_law_one", 4)]) (N := ["_law_web_here", "_law_heights_here", "_law_found", "_law_person", "_law_one"]) (sc := defScope (topS 46)) (by decide +kernel)) (fun _ _ _ _ _ => pg_name (i := 4) nd rfl (Or.inl rfl))
            (fun _ _ _ _ _ => pts_one (pt_cmpR op_lt (pe_ix (ix_tupK K rfl) (pv 1) (pv 4) (fun _ _ => rfl)) (pe_ix (ix_tupK K rfl) (pv 1) (pv 3) (fun _ _ => rfl)) (nomark _)))
            (fun _ _ _ _ _ => pe_tup (pa_cons (pv 3) (pa_cons (pv 4) pa_nil))))))))
      (pss_one (ps_ret (pv 2)))), ?_⟩
    refine ⟨Nat.zero_le _, fun l nl => ?_⟩
    have s0 : Same H (upd H l (.lst [])) := same_new nl
    refine ⟨_, rfl, a, _, 0, _, rfl, rfl, SqT.of (s0 _ _ hw1), atI_nat (j := 0) rfl, _, rfl, by omega, by omega, for_it walk_range (fun i σ H' => Same H H' ∧ (∃ l bs, H l = none ∧ H' l = some (.lst (bs.map V.ref)) ∧ Paired (PairT H') bs (stpTo i ts hs) ∧ ∃ y3 y4, σ = [some (.ref a), some (.ref b), some (.ref l), y3, y4]))
      ⟨s0, l, [], nl, upd_same, .nil, _, _, rfl⟩ (fun _ _ _ _ _ => trivial) ?_ ?_⟩
    · rintro i x σ H2 H3 hi ⟨s2, l, bs, nl, hbl, hbp, y3, y4, rfl⟩ ⟨rfl, ex⟩
      rw [Int.toNat_natCast] at hi
      have ex : x = vn i := by
        rw [ex]
        show V.int (0 + (i : Int)) = _
        rw [Int.zero_add]
      subst ex
      -- found + [..]
      refine ⟨_, rfl, ?_⟩
      refine ⟨_, rfl, _, rfl, a, n, ts, i, rfl, hw.same s2, h6, fun H4 m s4 nm hm => ⟨m, rfl, ⟨_, SqL.of hm⟩, fun D nD => ?_⟩⟩
      have s24 := s2.trans s4
      have hbl4 := s4 _ _ hbl
      have nlD : l ≠ D := ne_of_none hbl4 nD
      have nmD : m ≠ D := ne_of_none hm nD
      have hb4 := hb.same s24
      have nDH : H D = none := s24.free nD
      refine lc_it (walk_list (K := K) (a := m) (xs := (nb ts i).map vn)) (fun j H' => Same H H' ∧ H' l = some (.lst (bs.map V.ref)) ∧ Paired (PairT H') bs (stpTo i ts hs) ∧ H' m = some (.lst ((nb ts i).map vn)) ∧
        ∃ cs, H' D = some (.lst (cs.map V.ref)) ∧ Paired (PairT H') cs ((((nb ts i).take j).filter fun o => decide (ht hs o < ht hs i)).map fun o => (i, o))) ?_ (fun j H' _ z => SqL.of z.2.2.2.1) ?_ ?_
      · refine ⟨s24.trans (same_new nD), by rw [upd_ne nlD]; exact hbl4, pairs_same hbp (s4.trans (same_new nD)), by rw [upd_ne nmD]; exact hm, [], upd_same, .nil⟩
      · rintro j x H5 H6 hj ⟨s5, l5, p5, m5, cs, d5, c5⟩ ⟨rfl, ex⟩
        obtain ⟨o, ho, rfl⟩ := vn_at ex
        have hom : o ∈ nb ts i := List.mem_of_getElem? ho
        have hon := (ok.nb_lt hom).1
        have fs := filter_snoc ho fun o => decide (ht hs o < ht hs i)
        refine ⟨rfl, ?_⟩
        refine ⟨_, rfl, _, rfl, b, _, _, _, rfl, rfl, SqT.of (hb.same s5), ht_at (by omega), _, rfl, _, rfl, b, _, _, _, rfl, rfl, SqT.of (hb.same s5), ht_at (by omega), _, _, rfl, rfl, _, rfl, ?_⟩
        refine ite2 (fun hp => ?_) (fun hp => ?_)
        · rw [if_pos hp] at fs
          refine ⟨_, rfl, _, rfl, small (m := 2) (Nat.le_refl _), fun T nT => ⟨_, by rw [upd_ne (ne_of_none d5 nT)]; exact d5, ?_, ?_⟩⟩
          · rw [List.length_map, Paired.length c5, List.length_map]
            have h1 := List.length_filter_le (fun o => decide (ht hs o < ht hs i)) ((nb ts i).take j)
            have h2 : ((nb ts i).take j).length ≤ (nb ts i).length := by rw [List.length_take]; omega
            have h3 := nb_len ts i
            exact smallL (m := 6) (by omega)
          · have ntD : D ≠ T := ne_of_none d5 nT
            have tp : Tups H6 (upd (upd H6 T (.tup [vn i, vn o])) D (.lst (cs.map V.ref ++ [.ref T]))) := (Tups.new nT).trans (.put (u := .lst (cs.map V.ref)) (by rw [upd_ne ntD]; exact d5))
            have sD : Same H (upd (upd H6 T (.tup [vn i, vn o])) D (.lst (cs.map V.ref ++ [.ref T]))) := (s5.trans (same_new nT)).upd_new nDH
            refine ⟨sD, ?_, pairs_tups p5 tp, ?_, cs ++ [T], ?_, ?_⟩
            · rw [upd_ne nlD, upd_ne (ne_of_none l5 nT)]
              exact l5
            · rw [upd_ne nmD, upd_ne (ne_of_none m5 nT)]
              exact m5
            · rw [upd_same, List.map_append]
              rfl
            · rw [fs, List.map_append]
              refine paired_append (pairs_tups c5 tp) (.cons ?_ .nil)
              show upd _ _ _ T = _
              rw [upd_ne ntD.symm, upd_same]
        · rw [if_neg hp, List.append_nil] at fs
          exact ⟨s5, l5, p5, m5, cs, d5, by rw [fs]; exact c5⟩
      · rintro H5 ⟨s5, l5, p5, m5, cs, d5, c5⟩
        rw [List.length_map, List.take_length] at c5
        have c5 : Paired (PairT H5) cs ((lower ts hs i).map fun o => (i, o)) := c5
        refine ⟨l, D, _, _, rfl, rfl, l5, d5, ?_, fun u nu => ?_⟩
        · rw [List.length_map, List.length_map, Paired.length p5, Paired.length c5, List.length_map]
          have h1 := stpTo_len i ts hs
          have h2 := lower_len ts hs i
          have h3 : i * ts.length ≤ 4 * 6 := Nat.mul_le_mul (by omega) h6
          exact small (m := 30) (by omega)
        · refine ⟨s5.trans (same_new nu), u, bs ++ cs, s5.free nu, ?_, ?_, _, _, rfl⟩
          · rw [upd_same, List.map_append]
          · rw [stpTo_succ]
            exact paired_append (pairs_tups p5 (.new nu)) (pairs_tups c5 (.new nu))
    · rintro σ H2 ⟨s2, l, bs, nl, hbl, hbp, y3, y4, rfl⟩
      rw [Int.toNat_natCast] at hbp
      exact ⟨_, rfl, q _ l bs s2 nl hbl hbp⟩
/-! ### _law_after -/
def spLAfter : Sp := fun vs H Q _ => ∃ (b c : Addr) (hs : List Int) (p : Nat × Nat), vs = [.ref b, .ref c] ∧ HtT H b hs ∧ PairT H c p ∧ p.1 < hs.length ∧ p.2 < hs.length ∧ hs.length ≤ 4 ∧
  ∀ H' q, Same H H' → H q = none → HtT H' q (aft hs p) → Q (.ref q) H'
theorem scLAfter : FnScope ["_law_heights_here", "_law_pair"] ["_law_heights_here", "_law_pair"] (defScope (topS 47)) := ⟨rfl, rfl, rfl, by decide +kernel, rfl, by decide +kernel, by decide +kernel⟩
theorem cal_law_after (D : DefAt K mg "_law_after" (topS 47) ["_law_heights_here", "_law_pair"]) (B : Blt mg) : Cal P w K mg base 1 "_law_after" spLAfter := by
  refine cal_mk D scLAfter (fun vs H Q E h => ?_) (fun f cdv A outer s H vs Q E hr h => ?_)
  · obtain ⟨b, c, hs, p, rfl, _⟩ := h
    rfl
  · obtain ⟨b, c, hs, ⟨p, o⟩, rfl, hb, hc, hp, ho, h4, q⟩ := h
    simp only at hp ho
    refine ⟨_, pss_one (ps_ret (pe_op op_catA (pe_op op_catA (pe_slice sl_tup (pv 0) po_none (po_some (pe_ix ix_tup (pv 1) pe_int (fun _ _ => rfl)))) (pe_tup (pa_cons (pe_ix ix_tup (pv 0) (pe_ix ix_tup (pv 1) pe_int (fun _ _ => rfl)) (fun _ _ => rfl)) pa_nil)))
      (pe_slice sl_tup (pv 0) (po_some (pe_op op_add (pe_ix ix_tup (pv 1) pe_int (fun _ _ => rfl)) pe_int)) po_none))), ?_⟩
    refine ⟨_, rfl, _, rfl, c, _, 0, _, rfl, rfl, SqT.of hc, atI_nat (j := 0) rfl, _, rfl, b, _, rfl, SqT.of hb, ?_, fun u nu => ?_⟩
    · rw [HT.sIx_nat, List.length_map]
      omega
    rw [cut_lo hp]
    have s1 : Same H (upd H u (.tup ((hs.take p).map V.int))) := same_new nu
    refine ⟨_, rfl, _, rfl, c, _, 1, _, rfl, rfl, SqT.of (s1 _ _ hc), atI_nat (j := 1) rfl, b, _, _, _, rfl, rfl, SqT.of (s1 _ _ hb), ht_at ho, ?_⟩
    refine ⟨small (m := 1) (Nat.le_refl _), fun v nv => ?_⟩
    have s2 := s1.trans (same_new (o := .tup [V.int (ht hs o)]) nv)
    have u2 : upd (upd H u (.tup ((hs.take p).map V.int))) v (.tup [V.int (ht hs o)]) u = some (.tup ((hs.take p).map V.int)) := by
      rw [upd_ne (ne_of_none upd_same nv), upd_same]
    -- the second +, whatever the first one gave
    have go : ∀ (H2 : Hp) (r : Addr), Same H H2 → H r = none → H2 r = some (.tup ((hs.take p).map V.int ++ [V.int (ht hs o)])) →
        (tSl (rSlT K) (tVar 0) (tPart (tOp (rI0 fun i j => .int (i + j)) (tOp (rIxT K) (tVar 1) (tC (.int 0))) (tC (.int 1)))) tNoPart) (start ["_law_heights_here", "_law_pair"] [V.ref b, V.ref c]) H2 (fun y H3 => rCatA K (.ref r) y H3 Q) := by
      intro H2 r s3 nr hr2
      refine ⟨_, rfl, _, rfl, c, _, 0, _, rfl, rfl, SqT.of (s3 _ _ hc), atI_nat (j := 0) rfl, _, _, rfl, rfl, _, rfl, b, _, rfl, SqT.of (s3 _ _ hb), ?_, fun x nx => ?_⟩
      · rw [show ((p : Int) + 1) = ((p + 1 : Nat) : Int) from by omega, HT.sIx_nat, List.length_map]
        omega
      rw [cut_hi hp]
      have s4 := s3.trans (same_new (o := .tup ((hs.drop (p + 1)).map V.int)) nx)
      have e : (hs.take p).map V.int ++ [V.int (ht hs o)] ++ (hs.drop (p + 1)).map V.int = (aft hs (p, o)).map V.int := by
        unfold aft
        rw [List.map_append, List.map_cons, List.append_assoc]
        rfl
      refine ⟨r, x, _, _, rfl, rfl, SqT.of ((same_new nx) _ _ hr2), SqT.of upd_same, ?_, fun z => ?_, fun _ z => ?_, fun _ _ y ny => ?_⟩
      · rw [← List.length_append, e, List.length_map, aft_len hp]
        exact small h4
      · exact absurd z (by simp)
      · refine q _ r s4 nr ?_
        have z2 := (same_new (o := .tup ((hs.drop (p + 1)).map V.int)) nx) _ _ hr2
        have e3 : (aft hs (p, o)).map V.int = (hs.take p).map V.int ++ [V.int (ht hs o)] := by rw [← e, z, List.append_nil]
        show _ = some (HO.tup ((aft hs (p, o)).map V.int))
        rw [e3]
        exact z2
      · rw [e]
        exact q _ y (s4.trans (same_new ny)) (s4.free ny) upd_same
    refine ⟨u, v, _, _, rfl, rfl, SqT.of u2, SqT.of upd_same, ?_, fun z => ?_, fun _ z => ?_, fun _ _ r nr => ?_⟩
    · rw [List.length_map, List.length_take]
      exact small (m := 5) (by show min p hs.length + 1 ≤ 5; omega)
    · refine go _ v s2 (s1.free nv) ?_
      rw [upd_same, z]
      rfl
    · exact absurd z (by simp)
    · exact go _ r (s2.trans (same_new nr)) (s2.free nr) upd_same
end
end Sto

/-! part KD6 -/
set_option Elab.async false
set_option linter.all false
set_option maxRecDepth 100000
set_option maxHeartbeats 4000000
namespace Sto
open PySem PySem.Spec PyProof.Rows L2 StX
/-! ### lists compared with [] -/
section
variable {K : PySem.W.Frag} {H : Hp} {a u : Addr} {Q : VK}
theorem dpAll_ints : ∀ ns : List Int, DpAll K H (ns.map V.int) (ns.map PyData.int)
  | [] => .nil
  | n :: r => .cons (.int n) (dpAll_ints r)
theorem shaped_nil : SeqAt.shaped (.list []) = true := PySem.W.shaped_ints []
theorem eqv_nil (ds : List PyData) : PyData.eqv (.list ds) (.list []) = ds.isEmpty := by
  cases ds with
  | nil => simp [PyData.eqv, PyData.eqvAll]
  | cons d r => simp [PyData.eqv, PyData.eqvAll]
theorem ne_ints {ns : List Int} (h : SqL K H a (ns.map V.int)) (h2 : SqL K H u []) (q : Q (.bl (!ns.isEmpty)) H) : rNeD K (.ref a) (.ref u) H Q := by
  refine ⟨_, _, .lst h (dpAll_ints ns), .lst h2 .nil, PySem.W.shaped_ints ns, shaped_nil, ?_⟩
  rw [eqv_nil]
  cases ns with
  | nil => exact q
  | cons _ _ => exact q
theorem ne_vns {ns : List Nat} (h : SqL K H a (ns.map vn)) (h2 : SqL K H u []) (q : Q (.bl (!ns.isEmpty)) H) : rNeD K (.ref a) (.ref u) H Q := by
  rw [vn_map] at h
  refine ne_ints h h2 ?_
  cases ns with
  | nil => exact q
  | cons _ _ => exact q
def dpr (t : Nat × Nat) : PyData := .tuple [.int (t.1 : Int), .int (t.2 : Int)]
theorem dpAll_pairs : ∀ {bs : List Addr} {ts : List (Nat × Nat)}, Paired (PairT H) bs ts → DpAll K H (bs.map V.ref) (ts.map dpr)
  | _, _, .nil => .nil
  | _, _, .cons r t => .cons (.tup (SqT.of r) (.cons (.int _) (.cons (.int _) .nil))) (dpAll_pairs t)
theorem shaped_pairs (ts : List (Nat × Nat)) : SeqAt.shaped (.list (ts.map dpr)) = true := by
  have h1 : PyData.canLayAll0 (ts.map dpr) = true := by
    induction ts with
    | nil => simp [PyData.canLayAll0]
    | cons t r ih => simp [PyData.canLayAll0, PyData.canLay0, dpr, ih]
  have h2 : PyData.depthAll (ts.map dpr) ≤ 3 := by
    clear h1
    induction ts with
    | nil => simp [PyData.depthAll]
    | cons t r ih =>
      simp only [List.map_cons, PyData.depthAll, dpr, PyData.depth] at ih ⊢
      omega
  have h3 : PyData.depth (.list (ts.map dpr)) ≤ 64 := by simp only [PyData.depth]; omega
  show (PyData.canLay0 (.list (ts.map dpr)) && decide (PyData.depth (.list (ts.map dpr)) ≤ 64)) = true
  rw [Bool.and_eq_true]
  exact ⟨by simp only [PyData.canLay0]; exact h1, decide_eq_true h3⟩
theorem ne_pairs {bs : List Addr} {ts : List (Nat × Nat)} (h : SqL K H a (bs.map V.ref)) (p : Paired (PairT H) bs ts) (h2 : SqL K H u []) (q : Q (.bl (!ts.isEmpty)) H) : rNeD K (.ref a) (.ref u) H Q := by
  refine ⟨_, _, .lst h (dpAll_pairs p), .lst h2 .nil, shaped_pairs ts, shaped_nil, ?_⟩
  rw [eqv_nil]
  cases ts with
  | nil => exact q
  | cons _ _ => exact q
theorem eq_pairs {bs : List Addr} {ts : List (Nat × Nat)} (h : SqL K H a (bs.map V.ref)) (p : Paired (PairT H) bs ts) (h2 : SqL K H u []) (q : Q (.bl ts.isEmpty) H) : rEqD K (.ref a) (.ref u) H Q := by
  refine ⟨_, _, .lst h (dpAll_pairs p), .lst h2 .nil, shaped_pairs ts, shaped_nil, ?_⟩
  rw [eqv_nil]
  cases ts with
  | nil => exact q
  | cons _ _ => exact q
end
theorem ixN_nat {n j : Nat} (h : j < n) : ixN n (j : Int) = some j := by
  unfold ixN
  rw [if_pos (by omega), if_pos (by omega)]
  simp
/-! ### one turn of hanging -/
theorem hIn_len (lot : List Nat) (s : List Nat × List Nat) (o : Nat) : (hIn lot s o).1.length ≤ s.1.length + 1 ∧ (hIn lot s o).2.length ≤ s.2.length + 1 := by
  unfold hIn
  split
  · simp
  · omega
theorem hIns_len (lot : List Nat) : ∀ (l : List Nat) (s : List Nat × List Nat), (l.foldl (hIn lot) s).1.length ≤ s.1.length + l.length ∧ (l.foldl (hIn lot) s).2.length ≤ s.2.length + l.length
  | [], s => ⟨Nat.le_refl _, Nat.le_refl _⟩
  | o :: r, s => by
    have h1 := hIn_len lot s o
    have h2 := hIns_len lot r (hIn lot s o)
    show (r.foldl (hIn lot) (hIn lot s o)).1.length ≤ _ ∧ (r.foldl (hIn lot) (hIn lot s o)).2.length ≤ _
    rw [List.length_cons]
    omega
theorem foldl_snoc {α β : Type} (f : β → α → β) (b : β) {l : List α} {i : Nat} {x : α} (h : l[i]? = some x) : (l.take (i + 1)).foldl f b = f ((l.take i).foldl f b) x := by
  rw [List.take_add_one, h, List.foldl_append]
  rfl
theorem pRun_len (ts : List Tie) : ∀ (m : Nat) (left : List Nat) (ps : List (List Nat)), pRun ts m left = some ps → ps.length ≤ m
  | 0, _, _, h => by
    unfold pRun at h
    cases h
  | m + 1, [], ps, h => by
    unfold pRun at h
    cases h
    exact Nat.zero_le _
  | m + 1, x :: r, ps, h => by
    unfold pRun at h
    obtain ⟨p, _, h⟩ := Option.bind_eq_some_iff.mp h
    obtain ⟨q, h2, rfl⟩ := Option.map_eq_some_iff.mp h
    rw [List.length_cons]
    exact Nat.succ_le_succ (pRun_len ts m _ _ h2)
section
variable {P : Program} {w : World} {K : PySem.W.Frag} {mg : Str → Option Value} {base : Heap}
/-! ### hanging -/
def spHang : Sp := fun vs H Q _ => ∃ (a lo : Addr) (n : Nat) (ts : List Tie) (p : Nat) (ls r : List Nat), vs = [.ref a, vn p, .ref lo] ∧ WebT H a n ts ∧ ts.length ≤ 6 ∧ H lo = some (.lst (ls.map vn)) ∧ hang ts p ls = some r ∧
  ∀ H' q, Same H H' → H q = none → H' q = some (.tup (r.map vn)) → Q (.ref q) H'
theorem scHang : FnScope ["web", "person", "lot", "found", "edge", "here", "other"] ["web", "person", "lot"] (defScope (topS 17)) := ⟨rfl, rfl, rfl, by decide +kernel, rfl, by decide +kernel, by decide +kernel⟩
theorem cal_hanging (D : DefAt K mg "hanging" (topS 17) ["web", "person", "lot"]) (B : Blt mg) (c1 : Cal P w K mg base 1 "tied_to" spTied) : Cal P w K mg base 2 "hanging" spHang := by
  refine cal_mk D scHang (fun vs H Q E h => ?_) (fun f cdv A outer s H vs Q E hr h => ?_)
  · obtain ⟨a, lo, n, ts, p, ls, r, rfl, _⟩ := h
    rfl
  · obtain ⟨a, lo, n, ts, p, ls, r, rfl, hw, h6, hlo, hrun, q⟩ := h
    obtain ⟨r0, hr0, rfl⟩ := Option.map_eq_some_iff.mp hrun
    have nd := scHang.nd
    refine ⟨_, pss_cons (ps_par (i := 3) (j := 4) rfl nd rfl rfl (by decide) rfl rfl (pa_cons (pe_lst (pa_cons (pv 1) pa_nil)) (pa_cons (pe_lst (pa_cons (pv 1) pa_nil)) pa_nil)) (by rfl))
      (pss_cons (ps_while PassesOwn.never (pt_cmpR (op_neD (hu64 hr)) (pv 4) (pe_lst pa_nil) (nomark _))
        (pss_cons (ps_set (i := 5) nd rfl (.inl rfl) (pe_bm0 PySem.F.plainAttrs_list PySem.F.slot_list_pop PySem.F.type_list_pop mt_pop (pv 4)))
        (pss_one (ps_for PassesOwn.never rfl (pi_list (pe_c c1 hr (by decide) (by rfl) (pa_cons (pv 0) (pa_cons (pv 5) pa_nil)))) (pg_name (i := 6) nd rfl (.inl rfl))
          (pss_one (ps_if (PW.pt (pw_and (pt_cmpR op_in_seq (pv 6) (pv 2) (by rfl)) (pw_and1 (pt_cmpR op_notIn_seq (pv 6) (pv 3) (by rfl)))))
            (pss_cons (ps_expr (pe_bm PySem.F.plainAttrs_list PySem.F.slot_list_append PySem.F.type_list_append mt_append (pv 3) (pa_cons (pv 6) pa_nil)))
            (pss_one (ps_expr (pe_bm PySem.F.plainAttrs_list PySem.F.slot_list_append PySem.F.type_list_append mt_append (pv 4) (pa_cons (pv 6) pa_nil))))) pss_nil))))))
      (pss_one (ps_ret (pe_tupleOf (by rfl) B.tuple (pe_callB cr_sortedI (by rfl) B.sorted boot_sorted (pa_cons (pv 3) pa_nil)))))), ?_⟩
    refine ⟨_, rfl, small (m := 1) (Nat.le_refl _), fun lf nf => ⟨_, rfl, small (m := 1) (Nat.le_refl _), fun le ne => ⟨_, _, rfl, ?_⟩⟩⟩
    have nfe : lf ≠ le := ne_of_none upd_same ne
    have s0 : Same H (upd (upd H lf (.lst [vn p])) le (.lst [vn p])) := (same_new nf).trans (same_new ne)
    have ne0 : H le = none := (same_new nf).free ne
    refine ⟨fun m σ H' => ∃ f e y5 y6, hRun ts ls m (f, e) = some r0 ∧ Same H H' ∧ H' lf = some (.lst (f.map vn)) ∧ H' le = some (.lst (e.map vn)) ∧ σ = [some (.ref a), some (vn p), some (.ref lo), some (.ref lf), some (.ref le), y5, y6],
      ⟨30, [p], [p], none, none, hr0, s0, by rw [upd_ne nfe]; exact upd_same, upd_same, rfl⟩, ?_⟩
    rintro m σ H1 ⟨f, e, y5, y6, hrun1, s1, hf, he, rfl⟩
    cases m with
    | zero =>
      unfold hRun at hrun1
      cases hrun1
    | succ m =>
      unfold hRun at hrun1
      by_cases hsz : f.length ≤ 50 ∧ e.length ≤ 50
      case neg =>
        rw [if_neg (fun z => hsz z)] at hrun1
        cases hrun1
      case pos =>
        rw [if_pos (show (f, e).1.length ≤ 50 ∧ (f, e).2.length ≤ 50 from hsz)] at hrun1
        refine ⟨_, rfl, Nat.zero_le _, fun u nu => ?_⟩
        have s1u := s1.trans (same_new (o := .lst []) nu)
        have hfu := same_new (o := .lst []) nu _ _ hf
        have heu := same_new (o := .lst []) nu _ _ he
        refine ne_vns (SqL.of heu) (SqL.of upd_same) ⟨_, rfl, ?_⟩
        by_cases ee : e = []
        · subst ee
          rw [if_pos rfl] at hrun1
          cases hrun1
          refine iteF ?_
          rw [vn_map] at hfu
          refine ⟨_, rfl, lf, _, rfl, SqL.of hfu, fun zs v pz sz nv => .inl ⟨v, _, rfl, SqL.of upd_same, fun x nx => ?_⟩⟩
          rw [sortN_int pz sz, ← vn_map] at nx ⊢
          exact q _ x ((s1u.trans (same_new nv)).trans (same_new nx)) ((s1u.trans (same_new nv)).free nx) upd_same
        · rw [if_neg (show ¬ (f, e).2 = [] from ee)] at hrun1
          have en : e.isEmpty = false := by
            cases e with
            | nil => exact (ee rfl).elim
            | cons _ _ => rfl
          rw [en]
          refine iteT ⟨fun σ' H' => ∃ f e y5 y6, hRun ts ls m (f, e) = some r0 ∧ Same H H' ∧ H' lf = some (.lst (f.map vn)) ∧ H' le = some (.lst (e.map vn)) ∧ σ' = [some (.ref a), some (vn p), some (.ref lo), some (.ref lf), some (.ref le), y5, y6], fun σ' H' z => ⟨m, Nat.lt_succ_self m, z⟩, ?_⟩
          -- here = edge.pop()
          obtain ⟨h0, eh⟩ : ∃ h0, e.getLast? = some h0 := by
            cases g : e.getLast? with
            | none => exact (ee (List.getLast?_eq_none_iff.mp g)).elim
            | some x => exact ⟨x, rfl⟩
          have el : e[e.length - 1]? = some h0 := by rw [← List.getLast?_eq_getElem?]; exact eh
          have elD : e.getLastD 0 = h0 := by rw [List.getLastD_eq_getLast?, eh]; rfl
          refine ⟨_, rfl, .inl ⟨rfl, _, SqL.of heu⟩, le, _, vn h0, rfl, rfl, heu, ?_, ?_⟩
          · rw [List.length_map, List.getElem?_map, el]
            rfl
          have s2 := s1u.upd_new (o := .lst ((e.map vn).dropLast)) ne0
          refine ⟨_, rfl, _, rfl, a, n, ts, h0, rfl, hw.same s2, h6, fun H2 l3 s3 nl3 hl3 => ⟨l3, rfl, ⟨_, SqL.of hl3⟩, ?_⟩⟩
          have hf2 : H2 lf = some (.lst (f.map vn)) := s3 _ _ (by rw [upd_ne nfe]; exact hfu)
          have he2 : H2 le = some (.lst (e.dropLast.map vn)) := by
            have := s3 _ _ (upd_same (H := upd H1 u (.lst [])) (a := le) (o := .lst ((e.map vn).dropLast)))
            rw [this, List.map_dropLast]
          have n3f : l3 ≠ lf := fun z => by rw [z, upd_ne nfe, hfu] at nl3; cases nl3
          have n3e : l3 ≠ le := fun z => by rw [z, upd_same] at nl3; cases nl3
          have nl3H : H l3 = none := s2.free nl3
          have hlo2 := (s2.trans s3) _ _ hlo
          have nlof : lo ≠ lf := ne_of_none hlo nf
          have nloe : lo ≠ le := ne_of_none hlo ne0
          refine for_it (walk_list (K := K) (a := l3) (xs := (nb ts h0).map vn)) (fun i σ H' => Same H H' ∧ H' l3 = some (.lst ((nb ts h0).map vn)) ∧ (∃ s', s' = ((nb ts h0).take i).foldl (hIn ls) (f, e.dropLast) ∧ H' lf = some (.lst (s'.1.map vn)) ∧ H' le = some (.lst (s'.2.map vn))) ∧ ∃ y6, σ = [some (.ref a), some (vn p), some (.ref lo), some (.ref lf), some (.ref le), some (vn h0), y6])
            ⟨s2.trans s3, hl3, ⟨_, rfl, hf2, he2⟩, _, rfl⟩ (fun i σ H' _ z => SqL.of z.2.1) ?_ ?_
          · rintro i x σ H3 H4 hi ⟨s4, h4, ⟨s', es, hf4, he4⟩, y6, rfl⟩ ⟨rfl, ex⟩
            obtain ⟨o, ho, rfl⟩ := vn_at ex
            have sn := foldl_snoc (hIn ls) (f, e.dropLast) ho
            rw [← es] at sn
            have hl1 := hIns_len ls ((nb ts h0).take i) (f, e.dropLast)
            rw [← es] at hl1
            have hnl := nb_len ts h0
            rw [List.length_take, List.length_dropLast] at hl1
            dsimp only at hl1
            rw [List.length_map] at hi
            have b1 : s'.1.length ≤ 60 := by have := hsz.1; omega
            have b2 : s'.2.length ≤ 60 := by have := hsz.2; omega
            refine ⟨_, rfl, _, rfl, lo, _, rfl, .inl (SqL.of (s4 _ _ hlo)), rfl, flat_vn ls, _, rfl, ?_⟩
            rw [inV_vn]
            refine ite2 (fun hp => ?_) (fun hp => ?_)
            · have hp : o ∈ ls := of_decide_eq_true hp
              refine ⟨_, rfl, _, rfl, lf, _, rfl, .inl (SqL.of hf4), rfl, flat_vn _, _, rfl, ?_⟩
              rw [inV_vn]
              refine ite2 (fun hq => ?_) (fun hq => ?_)
              · have hq : o ∉ s'.1 := fun z => by
                  have : (!decide (o ∈ s'.1)) = true := hq
                  rw [decide_eq_true z] at this
                  cases this
                have e1 : hIn ls s' o = (s'.1 ++ [o], s'.2 ++ [o]) := by
                  unfold hIn
                  rw [if_pos ⟨hp, hq⟩]
                rw [e1] at sn
                refine ⟨_, rfl, .inl ⟨rfl, _, SqL.of hf4⟩, _, rfl, lf, _, _, rfl, rfl, hf4, ?_, ?_⟩
                · rw [List.length_map]; exact smallL b1
                have he5 : upd H4 lf (.lst (s'.1.map vn ++ [vn o])) le = some (.lst (s'.2.map vn)) := by rw [upd_ne nfe.symm]; exact he4
                refine ⟨_, rfl, .inl ⟨rfl, _, SqL.of he5⟩, _, rfl, le, _, _, rfl, rfl, he5, ?_, ?_⟩
                · rw [List.length_map]; exact smallL b2
                refine ⟨(s4.upd_new nf).upd_new ne0, ?_, ⟨_, sn.symm, ?_, ?_⟩, _, rfl⟩
                · rw [upd_ne n3e, upd_ne n3f]; exact h4
                · rw [upd_ne nfe, upd_same, List.map_append]; rfl
                · rw [upd_same, List.map_append]; rfl
              · have hq : o ∈ s'.1 := by
                  cases hd : decide (o ∈ s'.1) with
                  | true => exact of_decide_eq_true hd
                  | false => exact (hq (by rw [hd]; rfl)).elim
                have e1 : hIn ls s' o = s' := by
                  unfold hIn
                  rw [if_neg fun z => z.2 hq]
                rw [e1] at sn
                exact ⟨s4, h4, ⟨_, sn.symm, hf4, he4⟩, _, rfl⟩
            · have hp : o ∉ ls := fun z => hp (decide_eq_true z)
              have e1 : hIn ls s' o = s' := by
                unfold hIn
                rw [if_neg fun z => hp z.1]
              rw [e1] at sn
              exact iteF ⟨s4, h4, ⟨_, sn.symm, hf4, he4⟩, _, rfl⟩
          · rintro σ H3 ⟨s4, h4, ⟨s', es, hf4, he4⟩, y6, rfl⟩
            rw [List.length_map, List.take_length] at es
            refine ⟨s'.1, s'.2, _, _, ?_, s4, hf4, he4, rfl⟩
            have : hStep ts ls (f, e) = s' := by
              unfold hStep
              rw [elD, es]
            rw [← hrun1, this]
end
end Sto

/-! part KD7 -/
set_option Elab.async false
set_option linter.all false
set_option maxRecDepth 100000
set_option maxHeartbeats 4000000
namespace Sto
open PySem PySem.Spec PyProof.Rows L2 StX
def LotT (H : Hp) (b : Addr) (l : List Nat) : Prop := H b = some (.tup (l.map vn))
theorem lots_tups {H H' : Hp} {bs : List Addr} {ps : List (List Nat)} (h : Paired (LotT H) bs ps) (s : Tups H H') : Paired (LotT H') bs ps := Paired.mapP h fun _ _ z => s _ _ z
/-- a comprehension without an if -/
theorem tYes_of {σ : L2.St} {H : Hp} {A B : Hp → Prop} (h : A H) : tYes σ H (fun b H3 => if b = true then A H3 else B H3) := by
  show (if true = true then A H else B H)
  rw [if_pos rfl]
  exact h
section
variable {P : Program} {w : World} {K : PySem.W.Frag} {mg : Str → Option Value} {base : Heap}
/-! ### parts_of -/
def spParts : Sp := fun vs H Q _ => ∃ (a e : Addr) (n : Nat) (ts : List Tie) (m : Nat) (ls : List Nat) (ps : List (List Nat)), vs = [.ref a, .ref e] ∧ WebT H a n ts ∧ ts.length ≤ 6 ∧ H e = some (.tup (ls.map vn)) ∧ ls.length ≤ 50 ∧ m ≤ 50 ∧ pRun ts m ls = some ps ∧
  ∀ H' q bs, Same H H' → H q = none → H' q = some (.tup (bs.map V.ref)) → Paired (LotT H') bs ps → Q (.ref q) H'
theorem scParts : FnScope ["web", "lot", "found", "left", "part", "one"] ["web", "lot"] (defScope (topS 18)) := ⟨rfl, rfl, rfl, by decide +kernel, rfl, by decide +kernel, by decide +kernel⟩
theorem cal_parts_of (D : DefAt K mg "parts_of" (topS 18) ["web", "lot"]) (B : Blt mg) (c1 : Cal P w K mg base 2 "hanging" spHang) : Cal P w K mg base 3 "parts_of" spParts := by
  refine cal_mk D scParts (fun vs H Q E h => ?_) (fun f cdv A outer s H vs Q E hr h => ?_)
  · obtain ⟨a, e, n, ts, m, ls, ps, rfl, _⟩ := h
    rfl
  · obtain ⟨a, e, n, ts, m0, ls, ps, rfl, hw, h6, he, h50, hm50, hrun, q⟩ := h
    have nd := scParts.nd
    refine ⟨_, pss_cons (ps_par (i := 2) (j := 3) rfl nd rfl rfl (by decide) rfl rfl (pa_cons (pe_lst pa_nil) (pa_cons (pe_callTy call_list_of (by rfl) B.list boot_list (pa_cons (pv 1) pa_nil)) pa_nil)) (by rfl))
      (pss_cons (ps_while PassesOwn.never (pt_cmpR (op_neD (hu64 hr)) (pv 3) (pe_lst pa_nil) (nomark _))
        (pss_cons (ps_set (i := 4) nd rfl (.inr rfl) (pe_c c1 hr (by decide) (by rfl) (pa_cons (pv 0) (pa_cons (pe_ix ix_list (pv 3) pe_int (fun _ _ => rfl)) (pa_cons (pv 3) pa_nil)))))
        (pss_cons (ps_expr (pe_bm PySem.F.plainAttrs_list PySem.F.slot_list_append PySem.F.type_list_append mt_append (pv 2) (pa_cons (pv 4) pa_nil)))
        (pss_one (ps_setLc (i := 3) (own := [("one", 5)]) (g := gName 5) rfl nd rfl rfl (sw_true rfl rfl rfl (by decide +kernel)) (pi_list (pv 3))
          (blkOk_by (own := [("one", 5)]) (N := ["web", "lot", "found", "left", "part", "one"]) (sc := defScope (topS 18)) (by decide +kernel)) (fun _ _ _ _ _ => pg_name (i := 5) nd rfl (Or.inl rfl))
          (fun _ _ _ _ _ => pts_one (pt_cmpR (op_notInK K rfl) (pv 5) (pv 4) (by rfl))) (fun _ _ _ _ _ => pv 5))))))
      (pss_one (ps_ret (pe_tupleOf (by rfl) B.tuple (pv 2))))), ?_⟩
    refine ⟨Nat.zero_le _, fun lf nf => ⟨_, rfl, e, _, rfl, .inr (SqT.of (same_new nf _ _ he)), fun l0 n0 => ⟨_, _, rfl, ?_⟩⟩⟩
    have nf0 : lf ≠ l0 := ne_of_none upd_same n0
    have s0 : Same H (upd (upd H lf (.lst [])) l0 (.lst (ls.map vn))) := (same_new nf).trans (same_new n0)
    refine ⟨fun m σ H' => ∃ left rest done bs ll y4 y5, m ≤ 50 ∧ pRun ts m left = some rest ∧ ps = done ++ rest ∧ left.length ≤ 50 ∧ Same H H' ∧ H' lf = some (.lst (bs.map V.ref)) ∧ Paired (LotT H') bs done ∧ H' ll = some (.lst (left.map vn)) ∧ H ll = none ∧ σ = [some (.ref a), some (.ref e), some (.ref lf), some (.ref ll), y4, y5],
      ⟨m0, ls, ps, [], [], l0, none, none, hm50, hrun, rfl, h50, s0, by rw [upd_ne nf0]; exact upd_same, .nil, upd_same, (same_new nf).free n0, rfl⟩, ?_⟩
    rintro m σ H1 ⟨left, rest, done, bs, ll, y4, y5, hm, hrun1, eps, hl50, s1, hf, hbp, hl, nl, rfl⟩
    have hps := pRun_len ts m0 ls ps hrun
    have hdl : done.length ≤ 50 := by
      rw [eps, List.length_append] at hps
      omega
    cases m with
    | zero =>
      unfold pRun at hrun1
      cases hrun1
    | succ m =>
      refine ⟨_, rfl, Nat.zero_le _, fun u nu => ?_⟩
      have su := same_new (o := .lst []) nu
      refine ne_vns (SqL.of (su _ _ hl)) (SqL.of upd_same) ⟨_, rfl, ?_⟩
      cases left with
      | nil =>
        unfold pRun at hrun1
        cases hrun1
        rw [List.append_nil] at eps
        subst eps
        refine iteF ⟨_, rfl, .inl ⟨lf, _, rfl, SqL.of (su _ _ hf), fun v nv => ?_⟩⟩
        exact q _ v bs ((s1.trans su).trans (same_new nv)) ((s1.trans su).free nv) upd_same (lots_tups hbp ((Tups.new nu).trans (.new nv)))
      | cons x r =>
        unfold pRun at hrun1
        obtain ⟨part, hpart, hrun1⟩ := Option.bind_eq_some_iff.mp hrun1
        obtain ⟨rest', hrest, rfl⟩ := Option.map_eq_some_iff.mp hrun1
        refine iteT ⟨fun σ' H' => ∃ left rest done bs ll y4 y5, m ≤ 50 ∧ pRun ts m left = some rest ∧ ps = done ++ rest ∧ left.length ≤ 50 ∧ Same H H' ∧ H' lf = some (.lst (bs.map V.ref)) ∧ Paired (LotT H') bs done ∧ H' ll = some (.lst (left.map vn)) ∧ H ll = none ∧ σ' = [some (.ref a), some (.ref e), some (.ref lf), some (.ref ll), y4, y5],
          fun σ' H' z => ⟨m, Nat.lt_succ_self m, z⟩, ?_⟩
        have s1u := s1.trans su
        refine ⟨_, rfl, _, rfl, ll, _, 0, _, rfl, rfl, SqL.of (su _ _ hl), atI_nat (j := 0) rfl, _, rfl, a, ll, n, ts, x, x :: r, part, rfl, hw.same s1u, h6, su _ _ hl, hpart, fun H2 pt s2 npt hpt => ?_⟩
        have s12 := s1u.trans s2
        have hf2 := s2 _ _ (su _ _ hf)
        have hl2 := s2 _ _ (su _ _ hl)
        refine ⟨_, rfl, .inl ⟨rfl, _, SqL.of hf2⟩, _, rfl, lf, _, _, rfl, rfl, hf2, ?_, ?_⟩
        · rw [List.length_map, Paired.length hbp]
          exact smallL hdl
        have nlf : lf ≠ ll := fun z => by
          rw [z, hl2] at hf2
          cases bs with
          | nil => exact nomatch hf2
          | cons _ _ => exact nomatch hf2
        have s3 := s12.upd_new (o := .lst (bs.map V.ref ++ [V.ref pt])) nf
        have hl3 : upd H2 lf (.lst (bs.map V.ref ++ [V.ref pt])) ll = some (.lst ((x :: r).map vn)) := by rw [upd_ne nlf.symm]; exact hl2
        have tp3 : Tups H2 (upd H2 lf (.lst (bs.map V.ref ++ [V.ref pt]))) := .put hf2
        refine ⟨_, rfl, ll, rfl, ⟨_, SqL.of hl3⟩, fun D nD => ?_⟩
        have nDH : H D = none := s3.free nD
        have nfD : lf ≠ D := ne_of_none upd_same nD
        have nlD : ll ≠ D := ne_of_none hl3 nD
        have bp3 : Paired (LotT (upd H2 lf (.lst (bs.map V.ref ++ [V.ref pt])))) (bs ++ [pt]) (done ++ [part]) := lots_tups (paired_snoc (lots_tups hbp (.of (su.trans s2))) hpt) tp3
        refine lc_it (walk_list (K := K) (a := ll) (xs := (x :: r).map vn)) (fun j H' => Same H H' ∧ H' lf = some (.lst ((bs ++ [pt]).map V.ref)) ∧ Paired (LotT H') (bs ++ [pt]) (done ++ [part]) ∧ LotT H' pt part ∧ H' ll = some (.lst ((x :: r).map vn)) ∧ H' D = some (.lst ((((x :: r).take j).filter fun y => decide (y ∉ part)).map vn)))
          ⟨s3.trans (same_new nD), ?_, lots_tups bp3 (.new nD), tp3.trans (.new nD) _ _ hpt, by rw [upd_ne nlD]; exact hl3, upd_same⟩ (fun j H' _ z => SqL.of z.2.2.2.2.1) ?_ ?_
        · rw [upd_ne nfD, upd_same, List.map_append]
          rfl
        · rintro j y H5 H6 hj ⟨s5, f5, p5, t5, l5, d5⟩ ⟨rfl, ex⟩
          obtain ⟨o, ho, rfl⟩ := vn_at ex
          have fs := filter_snoc ho fun y => decide (y ∉ part)
          refine ⟨rfl, ?_⟩
          refine ⟨_, rfl, _, rfl, pt, _, rfl, .inr (SqT.of t5), rfl, flat_vn _, _, rfl, ?_⟩
          rw [inV_vn]
          refine ite2 (fun hp => ?_) (fun hp => ?_)
          · have hp : o ∉ part := fun z => by
              have : (!decide (o ∈ part)) = true := hp
              rw [decide_eq_true z] at this
              cases this
            rw [if_pos (decide_eq_true hp)] at fs
            refine ⟨_, rfl, _, d5, ?_, ?_⟩
            · rw [List.length_map]
              have h1 := List.length_filter_le (fun y => decide (y ∉ part)) ((x :: r).take j)
              have h2 : ((x :: r).take j).length ≤ (x :: r).length := by rw [List.length_take]; omega
              exact smallL (m := 50) (by omega)
            · have tp : Tups H6 (upd H6 D (.lst (List.map vn (List.filter (fun y => decide (y ∉ part)) (List.take j (x :: r))) ++ [vn o]))) := .put d5
              refine ⟨s5.upd_new nDH, by rw [upd_ne nfD]; exact f5, lots_tups p5 tp, tp _ _ t5, by rw [upd_ne nlD]; exact l5, ?_⟩
              rw [upd_same, fs, List.map_append]
              rfl
          · have hp : o ∈ part := by
              cases hd : decide (o ∈ part) with
              | true => exact of_decide_eq_true hd
              | false => exact (hp (by rw [hd]; rfl)).elim
            rw [if_neg (by simp [hp]), List.append_nil] at fs
            exact ⟨s5, f5, p5, t5, l5, by rw [fs]; exact d5⟩
        · rintro H5 ⟨s5, f5, p5, t5, l5, d5⟩
          rw [List.length_map, List.take_length] at d5
          refine ⟨_, _, _, _, D, _, _, by omega, hrest, ?_, ?_, s5, f5, p5, d5, nDH, rfl⟩
          · rw [eps, List.append_assoc]
            rfl
          · exact Nat.le_trans (List.length_filter_le _ _) hl50
/-! ### lows_of -/
def spLows : Sp := fun vs H Q _ => ∃ (a b : Addr) (n : Nat) (ts : List Tie) (hs : List Int), vs = [.ref a, .ref b] ∧ WebT H a n ts ∧ HtT H b hs ∧ Ok n ts ∧ Hs n hs ∧ ∀ H' q, Same H H' → H q = none → HtT H' q (lowsM n ts hs) → Q (.ref q) H'
theorem scLows : FnScope ["web", "heights", "found", "part", "one", "low"] ["web", "heights"] (defScope (topS 20)) := ⟨rfl, rfl, rfl, by decide +kernel, rfl, by decide +kernel, by decide +kernel⟩
theorem lowsF_snoc (hs f : List Int) {ps : List (List Nat)} {i : Nat} {part : List Nat} (h : ps[i]? = some part) : lowsF hs f (ps.take (i + 1)) = setAll (lowsF hs f (ps.take i)) part (lowP hs part) := by
  unfold lowsF
  rw [foldl_snoc _ _ h]
theorem setAll_snoc (f : List Int) (v : Int) {part : List Nat} {i p : Nat} (h : part[i]? = some p) : setAll f (part.take (i + 1)) v = (setAll f (part.take i) v).set p v := by
  unfold setAll
  rw [foldl_snoc _ _ h]
theorem rep_zero (n : Nat) : (List.replicate n [V.int 0]).flatten = (List.replicate n (0 : Int)).map V.int := by
  induction n with
  | zero => rfl
  | succ n ih =>
    rw [List.replicate_succ, List.flatten_cons, ih, List.replicate_succ, List.map_cons]
    rfl
theorem cal_lows_of (D : DefAt K mg "lows_of" (topS 20) ["web", "heights"]) (B : Blt mg) (c1 : Cal P w K mg base 3 "parts_of" spParts) (c2 : Cal P w K mg base 1 "everybody" spEvery) : Cal P w K mg base 4 "lows_of" spLows := by
  refine cal_mk D scLows (fun vs H Q E h => ?_) (fun f cdv A outer s H vs Q E hr h => ?_)
  · obtain ⟨a, b, n, ts, hs, rfl, _⟩ := h
    rfl
  · obtain ⟨a, b, n, ts, hs, rfl, hw, hb, ok, hh, q⟩ := h
    obtain ⟨wt, wbs, hw1, hw2, hw3⟩ := id hw
    have nd := scLows.nd
    have PA := ok.parts
    have h4 := ok.n4
    refine ⟨_, pss_cons (ps_set (i := 2) nd rfl (.inl rfl) (pe_op op_rep (pe_lst (pa_cons pe_int pa_nil)) (pe_ix ix_tup (pv 0) pe_int (fun _ _ => rfl))))
      (pss_cons (ps_for PassesOwn.never rfl (pi_tup (pe_c c1 hr (by decide) (by rfl) (pa_cons (pv 0) (pa_cons (pe_c c2 hr (by decide) (by rfl) (pa_cons (pv 0) pa_nil)) pa_nil)))) (pg_name (i := 3) nd rfl (.inl rfl))
        (pss_cons (ps_set (i := 5) nd rfl (.inl rfl) (pe_callB (cr_min rfl) (by rfl) B.min boot_min (pa_cons
          (pe_lc (own := [("one", 4)]) (g := gName 4) (tt := tYes) (by rfl) nd (pi_tup (pv 3)) (blkOk_by (own := [("one", 4)]) (N := ["web", "heights", "found", "part", "one", "low"]) (sc := defScope (topS 20)) (by decide +kernel))
            (fun _ _ _ _ _ => pg_name (i := 4) nd rfl (Or.inl rfl)) (fun _ _ _ _ _ => pts_nil) (fun _ _ _ _ _ => pe_ix (ix_tupK K rfl) (pv 1) (pv 4) (fun _ _ => rfl))) pa_nil)))
        (pss_one (ps_for PassesOwn.never rfl (pi_tup (pv 3)) (pg_name (i := 4) nd rfl (.inl rfl))
          (pss_one (ps_asg (pv 5) (pg_sub (pv 2) (pv 4) set_list)))))))
      (pss_one (ps_ret (pe_tupleOf (by rfl) B.tuple (pv 2))))), ?_⟩
    refine ⟨small (m := 1) (Nat.le_refl _), fun u nu => ?_⟩
    have su := same_new (o := .lst [V.int 0]) nu
    refine ⟨_, rfl, a, _, 0, _, rfl, rfl, SqT.of (su _ _ hw1), atI_nat (j := 0) rfl, u, _, _, rfl, rfl, upd_same, by omega, by omega, ?_, fun l nl => ?_⟩
    · rw [Int.toNat_natCast]
      exact small (m := 4) (by show 1 * n ≤ 4; omega)
    rw [Int.toNat_natCast, rep_zero]
    have sl := su.trans (same_new (o := .lst ((List.replicate n (0 : Int)).map V.int)) nl)
    have nlH : H l = none := su.free nl
    refine ⟨_, rfl, _, rfl, a, n, ts, rfl, hw.same sl, h4, fun H2 e s2 ne he => ?_⟩
    have s02 := sl.trans s2
    refine ⟨a, e, n, ts, 10, List.range n, partsM n ts, rfl, hw.same s02, ok.few, he, by rw [List.length_range]; omega, by decide, PA.run, fun H3 pq bs s3 npq hpq hbp => ⟨pq, rfl, ⟨_, SqT.of hpq⟩, ?_⟩⟩
    have s03 := s02.trans s3
    have hl3 : H3 l = some (.lst ((List.replicate n (0 : Int)).map V.int)) := s3 _ _ (s2 _ _ upd_same)
    refine for_it (walk_tup (K := K) (a := pq) (xs := bs.map V.ref)) (fun i σ H' => Same H H' ∧ H' pq = some (.tup (bs.map V.ref)) ∧ Paired (LotT H') bs (partsM n ts) ∧ H' l = some (.lst ((lowsF hs (List.replicate n 0) ((partsM n ts).take i)).map V.int)) ∧ ∃ y3 y4 y5, σ = [some (.ref a), some (.ref b), some (.ref l), y3, y4, y5])
      ⟨s03, hpq, hbp, hl3, _, _, _, rfl⟩ (fun i σ H' _ z => SqT.of z.2.1) ?_ ?_
    · rintro i x σ H4 H5 hi ⟨s4, p4, b4, l4, y3, y4, y5, rfl⟩ ⟨rfl, ex⟩
      obtain ⟨pb, hpb, rfl⟩ := ref_at ex
      obtain ⟨part, hpart, tpart⟩ := paired_at' b4 hpb
      have hpm : part ∈ partsM n ts := List.mem_of_getElem? hpart
      have sm := PA.some_ part hpm
      refine ⟨_, rfl, pb, rfl, ⟨_, SqT.of tpart⟩, fun D nD => ?_⟩
      have nDH : H D = none := s4.free nD
      have nlD : l ≠ D := ne_of_none l4 nD
      refine lc_it (walk_tup (K := K) (a := pb) (xs := part.map vn)) (fun j H' => Same H H' ∧ H' pq = some (.tup (bs.map V.ref)) ∧ Paired (LotT H') bs (partsM n ts) ∧ LotT H' pb part ∧ H' l = some (.lst ((lowsF hs (List.replicate n 0) ((partsM n ts).take i)).map V.int)) ∧ H' D = some (.lst (((part.take j).map (ht hs)).map V.int)))
        ⟨s4.trans (same_new nD), (same_new nD) _ _ p4, lots_tups b4 (.new nD), (same_new nD) _ _ tpart, by rw [upd_ne nlD]; exact l4, upd_same⟩ (fun j H' _ z => SqT.of z.2.2.2.1) ?_ ?_
      · rintro j y H6 H7 hj ⟨s6, p6, b6, t6, l6, d6⟩ ⟨rfl, ey⟩
        obtain ⟨o, ho, rfl⟩ := vn_at ey
        have hon : o < n := sm.2.2 o (List.mem_of_getElem? ho)
        refine ⟨rfl, tYes_of ?_⟩
        refine ⟨_, rfl, _, rfl, b, _, _, _, rfl, rfl, SqT.of (hb.same s6), ht_at (by rw [hh.len]; exact hon), _, d6, ?_, ?_⟩
        · rw [List.length_map, List.length_map, List.length_take]
          have := sm.2.1
          exact smallL (m := 4) (by omega)
        · have tp : Tups H7 (upd H7 D (.lst (List.map V.int (List.map (ht hs) (List.take j part)) ++ [V.int (ht hs o)]))) := .put d6
          refine ⟨s6.upd_new nDH, tp _ _ p6, lots_tups b6 tp, tp _ _ t6, by rw [upd_ne nlD]; exact l6, ?_⟩
          rw [upd_same, List.take_add_one, ho, List.map_append, List.map_append]
          rfl
      · rintro H6 ⟨s6, p6, b6, t6, l6, d6⟩
        rw [List.length_map, List.take_length] at d6
        refine ⟨D, _, rfl, SqL.of d6, ?_, fun m hm hle => ?_⟩
        · rw [List.length_map]
          exact List.length_pos_iff.mpr sm.1
        have em : m = lowP hs part := lowL_eq hm hle
        subst em
        refine ⟨_, rfl, pb, rfl, ⟨_, SqT.of t6⟩, for_it (walk_tup (K := K) (a := pb) (xs := part.map vn)) (fun j σ H' => Same H H' ∧ H' pq = some (.tup (bs.map V.ref)) ∧ Paired (LotT H') bs (partsM n ts) ∧ LotT H' pb part ∧ H' l = some (.lst ((setAll (lowsF hs (List.replicate n 0) ((partsM n ts).take i)) (part.take j) (lowP hs part)).map V.int)) ∧ ∃ y4, σ = [some (.ref a), some (.ref b), some (.ref l), some (.ref pb), y4, some (.int (lowP hs part))])
          ⟨s6, p6, b6, t6, l6, _, rfl⟩ (fun j σ H' _ z => SqT.of z.2.2.2.1) ?_ ?_⟩
        · rintro j y σ H7 H8 hj ⟨s7, p7, b7, t7, l7, y4, rfl⟩ ⟨rfl, ey⟩
          obtain ⟨o, ho, rfl⟩ := vn_at ey
          have hon : o < n := sm.2.2 o (List.mem_of_getElem? ho)
          refine ⟨_, rfl, _, rfl, _, rfl, l, _, _, o, rfl, rfl, l7, ?_, ?_⟩
          · refine ixN_nat ?_
            rw [List.length_map, setAll_len, lowsF_len, List.length_replicate]
            exact hon
          · have tp : Tups H8 (upd H8 l (.lst ((List.map V.int (setAll (lowsF hs (List.replicate n 0) ((partsM n ts).take i)) (part.take j) (lowP hs part))).set o (V.int (lowP hs part))))) := .put l7
            refine ⟨s7.upd_new nlH, tp _ _ p7, lots_tups b7 tp, tp _ _ t7, ?_, _, rfl⟩
            rw [upd_same, setAll_snoc _ _ ho, List.map_set]
        · rintro σ H7 ⟨s7, p7, b7, t7, l7, y4, rfl⟩
          rw [List.length_map, List.take_length, ← lowsF_snoc hs _ hpart] at l7
          exact ⟨s7, p7, b7, l7, _, _, _, rfl⟩
    · rintro σ H4 ⟨s4, p4, b4, l4, y3, y4, y5, rfl⟩
      rw [List.length_map, Paired.length b4, List.take_length] at l4
      refine ⟨_, rfl, .inl ⟨l, _, rfl, SqL.of l4, fun v nv => ?_⟩⟩
      exact q _ v (s4.trans (same_new nv)) (s4.free nv) upd_same
end
end Sto

/-! part KD8 -/
set_option Elab.async false
set_option linter.all false
set_option maxRecDepth 100000
set_option maxHeartbeats 4000000
namespace Sto
open PySem PySem.Spec PyProof.Rows L2 StX
/-! ### the walk through all outcomes -/
structure Dfs (n : Nat) (ts : List Tie) (h0 : List Int) (ks es : List (List Int)) (ex : List Int → Prop) : Prop where
  nd : ks.Nodup
  rch : ∀ g ∈ ks, Reach n ts h0 g
  root : h0 ∈ ks
  sub : ∀ g ∈ es, g ∈ ks
  clo : ∀ g ∈ ks, g ∉ es → ¬ ex g → ∀ g' ∈ nexts n ts g, g' ∈ ks
section
variable {n : Nat} {ts : List Tie} {h0 : List Int} {ks es : List (List Int)} {ex : List Int → Prop}
theorem Dfs.start : Dfs n ts h0 [h0] [h0] fun _ => False :=
  ⟨by simp, fun g hg => by rw [List.mem_singleton.mp hg]; exact reach_self, List.mem_singleton.mpr rfl, fun g hg => hg, fun g hg h => (h hg).elim⟩
theorem Dfs.add (d : Dfs n ts h0 ks es ex) {g : List Int} (hr : Reach n ts h0 g) (hn : g ∉ ks) : Dfs n ts h0 (ks ++ [g]) (es ++ [g]) ex := by
  refine ⟨nodup_snoc d.nd hn, fun x hx => ?_, List.mem_append_left _ d.root, fun x hx => ?_, fun x hx hne hex g' hg' => ?_⟩
  · rcases List.mem_append.mp hx with h | h
    · exact d.rch x h
    · rw [List.mem_singleton.mp h]; exact hr
  · rcases List.mem_append.mp hx with h | h
    · exact List.mem_append_left _ (d.sub x h)
    · exact List.mem_append_right _ h
  · rcases List.mem_append.mp hx with h | h
    · exact List.mem_append_left _ (d.clo x h (fun z => hne (List.mem_append_left _ z)) hex g' hg')
    · exact (hne (List.mem_append_right _ h)).elim
theorem Dfs.pop {now : List Int} (d : Dfs n ts h0 ks (es ++ [now]) fun _ => False) : Dfs n ts h0 ks es fun g => g = now := by
  refine ⟨d.nd, d.rch, d.root, fun x hx => d.sub x (List.mem_append_left _ hx), fun x hx hne hex g' hg' => d.clo x hx (fun z => ?_) (fun z => z) g' hg'⟩
  rcases List.mem_append.mp z with h | h
  · exact hne h
  · exact hex (List.mem_singleton.mp h)
theorem Dfs.done {now : List Int} (d : Dfs n ts h0 ks es fun g => g = now) (h : ∀ g' ∈ nexts n ts now, g' ∈ ks) : Dfs n ts h0 ks es fun _ => False := by
  refine ⟨d.nd, d.rch, d.root, d.sub, fun x hx hne _ g' hg' => ?_⟩
  by_cases e : x = now
  · rw [e] at hg'
    exact h g' hg'
  · exact d.clo x hx hne e g' hg'
theorem Dfs.all (d : Dfs n ts h0 ks [] fun _ => False) (g : List Int) : g ∈ ks ↔ Reach n ts h0 g :=
  ⟨d.rch g, fun h => reach_least (P := fun g => g ∈ ks) d.root (fun x y hx hy => d.clo x hx (fun z => nomatch z) (fun z => z) y hy) h⟩
theorem Dfs.few (w : Ok n ts) (q : Hs n h0) (d : Dfs n ts h0 ks es ex) : ks.length ≤ 1296 := few_hs w.n4 d.nd fun g hg => reach_hs w q (d.rch g hg)
end
/-! ### keys -/
def key (g : List Int) : List Key := g.map Sum.inl
theorem key_inj : ∀ (a b : List Int), key a = key b → a = b
  | [], [], _ => rfl
  | [], _ :: _, h => nomatch h
  | _ :: _, [], h => nomatch h
  | x :: a, y :: b, h => by
    obtain ⟨h1, h2⟩ := List.cons.inj h
    rw [Sum.inl.inj h1, key_inj a b h2]
theorem key_tup {H : Hp} {b : Addr} {g : List Int} (h : HtT H b g) : H b = some (.tup ((key g).map kV)) := by
  rw [show (key g).map kV = g.map V.int from kv_ints g]
  exact h
def kk (ks : List (List Int)) : List (List Key × V) := ks.map fun g => (key g, V.bl true)
theorem valV_kk (ks : List (List Int)) (g : List Int) : (valV (kk ks) (key g)).isSome = decide (g ∈ ks) := by
  induction ks with
  | nil => rfl
  | cons a r ih =>
    show (valV ((key a, V.bl true) :: kk r) (key g)).isSome = _
    by_cases e : a = g
    · subst e
      rw [valV_pos rfl]
      simp
    · rw [valV_neg (fun z => e (key_inj _ _ z)), ih]
      have : ¬ g = a := fun z => e z.symm
      simp [this]
theorem putK_kk {ks : List (List Int)} {g : List Int} (h : g ∉ ks) : putK (kk ks) (key g) (V.bl true) = kk (ks ++ [g]) := by
  have e := valV_kk ks g
  rw [decide_eq_false h] at e
  rw [putK_new]
  · unfold kk
    rw [List.map_append]
    rfl
  · cases q : valV (kk ks) (key g) with
    | none => rfl
    | some v => rw [q] at e; cases e
theorem hts_tups {H H' : Hp} {bs : List Addr} {gs : List (List Int)} (h : Paired (HtT H) bs gs) (s : Tups H H') : Paired (HtT H') bs gs := Paired.mapP h fun _ _ z => s _ _ z
section
variable {K : PySem.W.Frag} {H : Hp} {a u : Addr} {Q : VK}
def dht (g : List Int) : PyData := .tuple (g.map .int)
theorem dpAll_hts : ∀ {bs : List Addr} {gs : List (List Int)}, Paired (HtT H) bs gs → DpAll K H (bs.map V.ref) (gs.map dht)
  | _, _, .nil => .nil
  | _, _, .cons r t => .cons (.tup (SqT.of r) (dpAll_ints _)) (dpAll_hts t)
theorem shaped_hts (gs : List (List Int)) : SeqAt.shaped (.list (gs.map dht)) = true := by
  have h1 : PyData.canLayAll0 (gs.map dht) = true := by
    induction gs with
    | nil => simp [PyData.canLayAll0]
    | cons t r ih => simp [PyData.canLayAll0, PyData.canLay0, dht, ih, PySem.W.canLayAll0_ints]
  have h2 : PyData.depthAll (gs.map dht) ≤ 4 := by
    clear h1
    induction gs with
    | nil => simp [PyData.depthAll]
    | cons t r ih =>
      have := PySem.W.depthAll_ints t
      simp only [List.map_cons, PyData.depthAll, dht, PyData.depth] at ih ⊢
      omega
  have h3 : PyData.depth (.list (gs.map dht)) ≤ 64 := by simp only [PyData.depth]; omega
  show (PyData.canLay0 (.list (gs.map dht)) && decide (PyData.depth (.list (gs.map dht)) ≤ 64)) = true
  rw [Bool.and_eq_true]
  exact ⟨by simp only [PyData.canLay0]; exact h1, decide_eq_true h3⟩
theorem ne_hts {bs : List Addr} {gs : List (List Int)} (h : SqL K H a (bs.map V.ref)) (p : Paired (HtT H) bs gs) (h2 : SqL K H u []) (q : Q (.bl (!gs.isEmpty)) H) : rNeD K (.ref a) (.ref u) H Q := by
  refine ⟨_, _, .lst h (dpAll_hts p), .lst h2 .nil, shaped_hts gs, shaped_nil, ?_⟩
  rw [eqv_nil]
  cases gs with
  | nil => exact q
  | cons _ _ => exact q
end
theorem snoc_of {α : Type} {l : List α} (h : l ≠ []) : ∃ i x, l = i ++ [x] := ⟨l.dropLast, l.getLast h, (List.dropLast_concat_getLast h).symm⟩
theorem paired_unsnoc {α β : Type} {F : α → β → Prop} {b : β} : ∀ {as : List α} {bs : List β}, Paired F as (bs ++ [b]) → ∃ as' a, as = as' ++ [a] ∧ Paired F as' bs ∧ F a b
  | _, [], .cons r .nil => ⟨[], _, rfl, .nil, r⟩
  | _, _ :: _, .cons r t => by
    obtain ⟨as', a, rfl, h1, h2⟩ := paired_unsnoc t
    exact ⟨_ :: as', a, rfl, .cons r h1, h2⟩
theorem map_dropLast_snoc (bs : List Addr) (b : Addr) : (((bs ++ [b]).map V.ref)).dropLast = bs.map V.ref := by
  rw [List.map_append]
  show (bs.map V.ref ++ [V.ref b]).dropLast = _
  exact List.dropLast_concat
section
variable {P : Program} {w : World} {K : PySem.W.Frag} {mg : Str → Option Value} {base : Heap}
/-! ### all_of -/
def spAll : Sp := fun vs H Q _ => ∃ (a b : Addr) (n : Nat) (ts : List Tie) (h0 : List Int), vs = [.ref a, .ref b] ∧ WebT H a n ts ∧ HtT H b h0 ∧ Ok n ts ∧ Hs n h0 ∧
  ∀ H' p (zs : List (Addr × List Int)), Same H H' → H p = none → H' p = some (.lst (zs.map fun z => V.ref z.1)) → (∀ z ∈ zs, HtT H' z.1 z.2) → (zs.map (·.2)).Pairwise (· < ·) → (∀ g, g ∈ zs.map (·.2) ↔ Reach n ts h0 g) → Q (.ref p) H'
theorem scAll : FnScope ["web", "heights", "known", "edge", "now", "person", "other", "told"] ["web", "heights"] (defScope (topS 26)) := ⟨rfl, rfl, rfl, by decide +kernel, rfl, by decide +kernel, by decide +kernel⟩
theorem cal_all_of (D : DefAt K mg "all_of" (topS 26) ["web", "heights"]) (B : Blt mg) (c1 : Cal P w K mg base 2 "next_of" spNext) (c2 : Cal P w K mg base 1 "after" spAfter) : Cal P w K mg base 3 "all_of" spAll := by
  refine cal_mk D scAll (fun vs H Q E h => ?_) (fun f cdv A outer s H vs Q E hr h => ?_)
  · obtain ⟨a, b, n, ts, h0, rfl, _⟩ := h
    rfl
  · obtain ⟨a, b, n, ts, h0, rfl, hw, hb, ok, hh, q⟩ := h
    have nd := scAll.nd
    have hu := hu_of hr
    obtain ⟨tm, em⟩ := B.mo
    refine ⟨_, pss_cons (ps_par (i := 2) (j := 3) rfl nd rfl rfl (by decide) rfl rfl (pa_cons (pe_dispT (hu0 hr) (pv 1) pe_bl) (pa_cons (pe_lst (pa_cons (pv 1) pa_nil)) pa_nil)) (by rfl))
      (pss_cons (ps_while PassesOwn.never (pt_cmpR (op_neD (hu64 hr)) (pv 3) (pe_lst pa_nil) (nomark _))
        (pss_cons (ps_set (i := 4) nd rfl (.inl rfl) (pe_bm0 PySem.F.plainAttrs_list PySem.F.slot_list_pop PySem.F.type_list_pop mt_pop (pv 3)))
        (pss_cons (ps_for PassesOwn.never rfl (pi_tup (pe_c c1 hr (by decide) (by rfl) (pa_cons (pv 0) (pa_cons (pv 4) pa_nil)))) (pg_tup rfl (pgs_cons (pg_name (i := 5) nd rfl (.inl rfl)) (pgs_cons (pg_name (i := 6) nd rfl (.inl rfl)) pgs_nil)))
          (pss_cons (ps_set (i := 7) nd rfl (.inl rfl) (pe_c c2 hr (by decide) (by rfl) (pa_cons (pv 4) (pa_cons (pv 5) (pa_cons (pv 6) pa_nil)))))
          (pss_one (ps_if (pt_cmp (pc_dnotin hu (pv 7) (pv 2)))
            (pss_cons (ps_dput hu (pv 2) (pv 7) pe_bl rfl)
            (pss_one (ps_expr (pe_bm PySem.F.plainAttrs_list PySem.F.slot_list_append PySem.F.type_list_append mt_append (pv 3) (pa_cons (pv 7) pa_nil))))) pss_nil))))
        (pss_one (ps_if (pt_cmpR op_gt (pe_callB call_len_dT (by rfl) B.len boot_len (pa_cons (pv 2) pa_nil)) (pe_glob (v := .int 5000) rfl em ⟨_, rfl⟩) (nomark _)) (pss_one ps_never) pss_nil)))))
      (pss_one (ps_ret (pe_callB (cr_sortDT rfl (hu64 hr)) (by rfl) B.sorted boot_sorted (pa_cons (pv 2) pa_nil))))), ?_⟩
    intro lk nk
    have sk := same_new (o := .dT []) nk
    refine ⟨_, rfl, upd_same, _, b, key h0, rfl, key_tup (hb.same sk), ?_⟩
    rw [upd_upd]
    have sk := same_new (o := .dT [(key h0, V.bl true)]) nk
    refine ⟨_, rfl, small (m := 1) (Nat.le_refl _), fun le ne => ⟨_, _, rfl, ?_⟩⟩
    have ne0 : H le = none := sk.free ne
    have nke : lk ≠ le := ne_of_none upd_same ne
    have s0 := sk.trans (same_new (o := .lst [V.ref b]) ne)
    refine ⟨fun m σ H' => ∃ ks es ebs y4 y5 y6 y7, m ≤ 1296 ∧ m = (1296 - ks.length) + es.length ∧ Dfs n ts h0 ks es (fun _ => False) ∧ Same H H' ∧ H' lk = some (.dT (kk ks)) ∧ H' le = some (.lst (ebs.map V.ref)) ∧ Paired (HtT H') ebs es ∧ σ = [some (.ref a), some (.ref b), some (.ref lk), some (.ref le), y4, y5, y6, y7],
      ⟨_, [h0], [h0], [b], none, none, none, none, Nat.le_refl 1296, rfl, Dfs.start, s0, by rw [upd_ne nke]; exact upd_same, upd_same, .cons (hb.same s0) .nil, rfl⟩, ?_⟩
    rintro m σ H1 ⟨ks, es, ebs, y4, y5, y6, y7, hm96, em1, dfs, s1, hk, he, hep, rfl⟩
    refine ⟨_, rfl, Nat.zero_le _, fun u nu => ?_⟩
    have su := same_new (o := .lst []) nu
    refine ne_hts (SqL.of (su _ _ he)) (hts_tups hep (.of su)) (SqL.of upd_same) ⟨_, rfl, ?_⟩
    by_cases ee : es = []
    · subst ee
      refine iteF ?_
      have al := dfs.all
      refine ⟨_, rfl, lk, _, ks, rfl, su _ _ hk, ?_, ?_, fun zs p perm srt tups np => ?_⟩
      · unfold kk
        rw [List.map_map]
        rfl
      · intro g hg z
        have hl := (reach_hs ok hh (dfs.rch g hg)).len
        rw [z] at hl
        have := ok.n1
        simp at hl
        omega
      · have ndz : (zs.map (·.2)).Nodup := perm.symm.nodup dfs.nd
        refine q _ p zs ((s1.trans su).trans (same_new np)) ((s1.trans su).free np) upd_same (fun z hz => ?_) ?_ (fun g => ?_)
        · exact same_new np _ _ (tups z hz)
        · refine (List.Pairwise.and srt ndz).imp fun ⟨h1, h2⟩ => ?_
          rcases List.le_iff_lt_or_eq.mp h1 with h | h
          · exact h
          · exact (h2 h).elim
        · rw [perm.mem_iff]
          exact al g
    · have en : es.isEmpty = false := by
        cases es with
        | nil => exact (ee rfl).elim
        | cons _ _ => rfl
      rw [en]
      obtain ⟨ei, now, rfl⟩ := snoc_of ee
      obtain ⟨ebs', nb', rfl, hep', hnow⟩ := paired_unsnoc hep
      have dfp := dfs.pop
      have hnk : now ∈ ks := dfs.sub now (List.mem_append_right _ (List.mem_singleton.mpr rfl))
      have hrn := dfs.rch now hnk
      have hhn := reach_hs ok hh hrn
      refine iteT ⟨fun σ' H' => ∃ ks es ebs y4 y5 y6 y7, m = (1296 - ks.length) + es.length + 1 ∧ Dfs n ts h0 ks es (fun _ => False) ∧ Same H H' ∧ H' lk = some (.dT (kk ks)) ∧ H' le = some (.lst (ebs.map V.ref)) ∧ Paired (HtT H') ebs es ∧ σ' = [some (.ref a), some (.ref b), some (.ref lk), some (.ref le), y4, y5, y6, y7],
        fun σ' H' ⟨ks, es, ebs, y4, y5, y6, y7, em2, z⟩ => ⟨(1296 - ks.length) + es.length, by omega, ks, es, ebs, y4, y5, y6, y7, by omega, rfl, z⟩, ?_⟩
      -- now = edge.pop()
      have heu := su _ _ he
      refine ⟨_, rfl, .inl ⟨rfl, _, SqL.of heu⟩, le, _, V.ref nb', rfl, rfl, heu, ?_, ?_⟩
      · rw [List.map_append, List.length_append]
        show (ebs'.map V.ref ++ [V.ref nb'])[(ebs'.map V.ref).length + 1 - 1]? = _
        rw [Nat.add_sub_cancel, List.getElem?_append_right (Nat.le_refl _), Nat.sub_self]
        rfl
      rw [map_dropLast_snoc]
      have s2 := (s1.trans su).upd_new (o := .lst (ebs'.map V.ref)) ne0
      have tp2 : Tups H1 (upd (upd H1 u (.lst [])) le (.lst (ebs'.map V.ref))) := (Tups.new nu).trans (.put heu)
      have hk2 : upd (upd H1 u (.lst [])) le (.lst (ebs'.map V.ref)) lk = some (.dT (kk ks)) := by rw [upd_ne nke]; exact su _ _ hk
      refine ⟨_, rfl, _, rfl, a, nb', n, ts, now, rfl, hw.same s2, tp2 _ _ hnow, ok, hhn.len, fun H3 pt pbs s3 npt hpt hpp => ?_⟩
      have s13 := s2.trans s3
      refine ⟨pt, rfl, ⟨_, SqT.of hpt⟩, for_it (walk_tup (K := K) (a := pt) (xs := pbs.map V.ref)) (fun j σ' H' => Same H H' ∧ H' pt = some (.tup (pbs.map V.ref)) ∧ Paired (PairT H') pbs (stp n ts now) ∧ HtT H' nb' now ∧ (∃ ks es ebs, m = (1296 - ks.length) + es.length + 1 ∧ Dfs n ts h0 ks es (fun g => g = now) ∧ H' lk = some (.dT (kk ks)) ∧ H' le = some (.lst (ebs.map V.ref)) ∧ Paired (HtT H') ebs es ∧
          ∀ t ∈ (stp n ts now).take j, aft now t ∈ ks) ∧ ∃ y5 y6 y7, σ' = [some (.ref a), some (.ref b), some (.ref lk), some (.ref le), some (.ref nb'), y5, y6, y7])
        ⟨s13, hpt, hpp, s3 _ _ (tp2 _ _ hnow), ⟨ks, ei, ebs', ?_, dfp, s3 _ _ hk2, s3 _ _ upd_same, hts_tups hep' (tp2.trans (.of s3)), fun t z => nomatch z⟩, _, _, _, rfl⟩ (fun j σ' H' _ z => SqT.of z.2.1) ?_ ?_⟩
      · rw [List.length_append] at em1
        exact em1
      · rintro j x σ' H4 H5 hj ⟨s4, pt4, pp4, hn4, ⟨ks4, es4, ebs4, em4, df4, hk4, he4, hep4, all4⟩, y5, y6, y7, rfl⟩ ⟨rfl, ex⟩
        obtain ⟨tb, htb, rfl⟩ := ref_at ex
        obtain ⟨t, ht, htt⟩ := paired_at' pp4 htb
        have htm : t ∈ stp n ts now := List.mem_of_getElem? ht
        obtain ⟨m1, m2, m3⟩ := mem_stp.mp htm
        have mo := (ok.nb_lt m2).1
        refine ⟨tb, _, rfl, SqT.of htt, rfl, _, _, rfl, _, _, rfl, rfl, ?_⟩
        refine ⟨_, rfl, _, rfl, _, rfl, nb', now, t.1, t.2, rfl, hn4, by rw [hhn.len]; exact m1, by rw [hhn.len]; exact mo, by rw [hhn.len]; exact ok.n4, fun H6 v s6 nv hv => ?_⟩
        have s46 := s4.trans s6
        have hk6 := s6 _ _ hk4
        have he6 := s6 _ _ he4
        have tp6 : Tups H5 H6 := .of s6
        refine ⟨_, rfl, _, rfl, lk, _, rfl, DGet.t hk6 (key_tup hv), _, rfl, ?_⟩
        rw [valV_kk]
        have hrv : Reach n ts h0 (aft now t) := reach_step hrn (List.mem_map.mpr ⟨t, htm, rfl⟩)
        have tk : (stp n ts now).take (j + 1) = (stp n ts now).take j ++ [t] := by rw [List.take_add_one, ht]; rfl
        by_cases hin : aft now t ∈ ks4
        · rw [decide_eq_true hin]
          refine iteF ⟨s46, tp6 _ _ pt4, pairs_tups pp4 tp6, tp6 _ _ hn4, ⟨ks4, es4, ebs4, em4, df4, hk6, he6, hts_tups hep4 tp6, fun t' ht' => ?_⟩, _, _, _, rfl⟩
          rw [tk] at ht'
          rcases List.mem_append.mp ht' with h | h
          · exact all4 t' h
          · rw [List.mem_singleton.mp h]; exact hin
        · rw [decide_eq_false hin]
          have dfa := df4.add hrv hin
          have l1 := df4.few ok hh
          have l2 := dfa.few ok hh
          rw [List.length_append] at l2
          refine iteT ⟨_, rfl, _, rfl, lk, _, rfl, DPut.t hk6 (key_tup hv) ?_, ?_⟩
          · unfold kk
            rw [List.length_map]
            exact smallL l1
          rw [putK_kk hin]
          have he7 : upd H6 lk (.dT (kk (ks4 ++ [aft now t]))) le = some (.lst (ebs4.map V.ref)) := by rw [upd_ne nke.symm]; exact he6
          have tp7 : Tups H6 (upd H6 lk (.dT (kk (ks4 ++ [aft now t])))) := .put hk6
          refine ⟨_, rfl, .inl ⟨rfl, _, SqL.of he7⟩, _, rfl, le, _, _, rfl, rfl, he7, ?_, ?_⟩
          · rw [List.length_map, Paired.length hep4]
            have : es4.length ≤ 5000 := by
              omega
            exact smallL this
          have tp8 : Tups H5 (upd (upd H6 lk (.dT (kk (ks4 ++ [aft now t])))) le (.lst (ebs4.map V.ref ++ [V.ref v]))) := (tp6.trans tp7).trans (.put he7)
          refine ⟨(s46.upd_new nk).upd_new ne0, tp8 _ _ pt4, pairs_tups pp4 tp8, tp8 _ _ hn4, ⟨ks4 ++ [aft now t], es4 ++ [aft now t], ebs4 ++ [v], ?_, dfa, ?_, ?_, ?_, fun t' ht' => ?_⟩, _, _, _, rfl⟩
          · rw [List.length_append, List.length_append]
            show m = 1296 - (ks4.length + 1) + (es4.length + 1) + 1
            have : ks4.length + 1 ≤ 1296 := l2
            omega
          · rw [upd_ne nke, upd_same]
          · rw [upd_same, List.map_append]
            rfl
          · exact paired_snoc (hts_tups hep4 tp8) (tp7.trans (.put he7) _ _ hv)
          · rw [tk] at ht'
            rcases List.mem_append.mp ht' with h | h
            · exact List.mem_append_left _ (all4 t' h)
            · rw [List.mem_singleton.mp h]
              exact List.mem_append_right _ (List.mem_singleton.mpr rfl)
      · rintro σ' H4 ⟨s4, pt4, pp4, hn4, ⟨ks4, es4, ebs4, em4, df4, hk4, he4, hep4, all4⟩, y5, y6, y7, rfl⟩
        rw [List.length_map, Paired.length hpp, List.take_length] at all4
        have dfd := df4.done fun g' hg' => by
          obtain ⟨t, ht, rfl⟩ := List.mem_map.mp hg'
          exact all4 t ht
        have l1 := dfd.few ok hh
        refine ⟨_, rfl, lk, _, rfl, hk4, _, _, rfl, rfl, _, rfl, ?_⟩
        rw [decide_eq_false (show ¬ (5000 : Int) < ((kk ks4).length : Nat) from ?_)]
        · exact iteF ⟨ks4, es4, ebs4, _, _, _, _, em4, dfd, s4, hk4, he4, hep4, rfl⟩
        · unfold kk
          rw [List.length_map]
          omega
end
end Sto

/-! part KD9 -/
set_option Elab.async false
set_option linter.all false
set_option maxRecDepth 100000
set_option maxHeartbeats 4000000
namespace Sto
open PySem PySem.Spec PyProof.Rows L2 StX
/-! ### plain -/
theorem IsG.len {kv : List (Nat × Nat)} {f : Nat → Nat} (h : IsG kv f) (hf : ∀ k, f k ≠ 0 → k ≤ 20) : kv.length ≤ 21 := by
  rw [(lens_perm h hf).length_eq]
  unfold lens
  rw [List.length_map]
  exact Nat.le_trans (List.length_filter_le _ _) (by simp)
theorem gA_takeS {cs : List (Nat × Nat)} (nd : (cs.map (·.1)).Nodup) {i m w : Nat} (h : cs[i]? = some (m, w)) (j : Nat) : gA (cs.take (i + 1)) j = if j = m then some w else gA (cs.take i) j := by
  have tk : cs.take (i + 1) = cs.take i ++ [(m, w)] := by rw [List.take_add_one, h]; rfl
  have nd2 : ((cs.take (i + 1)).map (·.1)).Nodup := by
    rw [List.map_take]
    exact nd.sublist (List.take_sublist _ _)
  rw [tk, List.map_append] at nd2
  have nm : m ∉ (cs.take i).map (·.1) := fun z => (List.nodup_append.mp nd2).2.2 m z m (List.mem_singleton.mpr rfl) rfl
  rw [tk, gA_append, gA_cons, gA_nil]
  by_cases e : j = m
  · subst e
    rw [if_pos rfl, if_pos rfl, gA_none.mpr nm]
    rfl
  · rw [if_neg e, if_neg fun z => e z.symm]
    cases gA (cs.take i) j <;> rfl
theorem IsG.addStep {kv cs : List (Nat × Nat)} {f c : Nat → Nat} {i m w : Nat} (h : IsG kv (addS f fun j => (gA (cs.take i) j).getD 0)) (hc : IsG cs c) (e : cs[i]? = some (m, w)) :
    IsG (pA kv (m + 1) ((gA kv (m + 1)).getD 0 + w)) (addS f fun j => (gA (cs.take (i + 1)) j).getD 0) := by
  have hw := (hc.val (List.mem_of_getElem? e))
  have hw0 : w ≠ 0 := by
    have h1 : w = c m := hw.1
    have h2 : c m ≠ 0 := hw.2
    omega
  rw [h.getD]
  refine (h.add (m + 1) hw0).congr fun k => ?_
  have g := gA_takeS hc.nd e
  cases k with
  | zero => rw [if_neg (by omega)]; rfl
  | succ k =>
    show (if k + 1 = m + 1 then f (k + 1) + (gA (cs.take i) k).getD 0 + w else f (k + 1) + (gA (cs.take i) k).getD 0) = f (k + 1) + (gA (cs.take (i + 1)) k).getD 0
    rw [g k]
    by_cases z : k = m
    · subst z
      rw [if_pos rfl, if_pos rfl]
      have n0 : gA (cs.take i) k = none := by
        have tk : cs.take (i + 1) = cs.take i ++ [(k, w)] := by rw [List.take_add_one, e]; rfl
        have nd2 : ((cs.take (i + 1)).map (·.1)).Nodup := by
          rw [List.map_take]
          exact hc.nd.sublist (List.take_sublist _ _)
        rw [tk, List.map_append] at nd2
        exact gA_none.mpr fun z => (List.nodup_append.mp nd2).2.2 k z k (List.mem_singleton.mpr rfl) rfl
      rw [n0]
      rfl
    · rw [if_neg (by omega), if_neg z]
section
variable {n : Nat} {ts : List Tie} {h0 : List Int}
theorem sumN_pos {α : Type} {l : List α} {f : α → Nat} (h : sumN l f ≠ 0) : ∃ a ∈ l, f a ≠ 0 :=
  Classical.byContradiction fun z => h (sumN_zero fun a ha => Classical.byContradiction fun y => z ⟨a, ha, y⟩)
theorem part_pos {S : List (List Int)} {g : List Int} {k : Nat} (h : part n ts h0 S g k ≠ 0) : g ∈ lay n ts h0 k := by
  cases k with
  | zero =>
    have e : h0 = g := Classical.byContradiction fun z => h (if_neg z)
    rw [← e]
    exact List.mem_singleton.mpr rfl
  | succ k =>
    obtain ⟨s, hs, z⟩ := sumN_pos (show sumN S _ ≠ 0 from h)
    have z1 : W n ts h0 k s ≠ 0 := fun y => z (by rw [y, Nat.zero_mul])
    have z2 : (nexts n ts s).count g ≠ 0 := fun y => z (by rw [y, Nat.mul_zero])
    exact List.mem_flatMap.mpr ⟨s, W_pos.mp z1, List.count_pos_iff.mp (by omega)⟩
theorem mid_pos {S : List (List Int)} {now g : List Int} {j k : Nat} (h : mid n ts h0 S now j g k ≠ 0) : g ∈ lay n ts h0 k := by
  by_cases c : part n ts h0 S g k = 0
  · unfold mid addS at h
    rw [c, Nat.zero_add] at h
    cases k with
    | zero => exact (h rfl).elim
    | succ k =>
      have h : W n ts h0 k now * (((stp n ts now).take j).map (aft now)).count g ≠ 0 := h
      have z1 : W n ts h0 k now ≠ 0 := fun y => h (by rw [y, Nat.zero_mul])
      have z2 : (((stp n ts now).take j).map (aft now)).count g ≠ 0 := fun y => h (by rw [y, Nat.mul_zero])
      have z3 : g ∈ ((stp n ts now).take j).map (aft now) := List.count_pos_iff.mp (by omega)
      obtain ⟨t, ht, e⟩ := List.mem_map.mp z3
      exact List.mem_flatMap.mpr ⟨now, W_pos.mp z1, List.mem_map.mpr ⟨t, List.mem_of_mem_take ht, e⟩⟩
  · exact part_pos c
end
/-! ### tables in memory -/
def ek (kv : List (Nat × Nat)) : List (Key × V) := kv.map fun e => ((Sum.inl (e.1 : Int) : Key), vn e.2)
def et (fs : List (List Int × Addr)) : List (List Key × V) := fs.map fun e => (key e.1, V.ref e.2)
def kn (k : Nat) : Key := Sum.inl (k : Int)
theorem kn_inj (a b : Nat) (h : kn a = kn b) : a = b := Int.ofNat.inj (Sum.inl.inj h)
theorem valV_ek (kv : List (Nat × Nat)) (k : Nat) : valV (ek kv) (kn k) = (gA kv k).map vn := find_enc (kf := kn) kn_inj vn kv k
theorem putK_ek (kv : List (Nat × Nat)) (k v : Nat) : putK (ek kv) (kn k) (vn v) = ek (pA kv k v) := by
  unfold putK pA
  rw [show ((ek kv).any fun e => decide (e.1 = kn k)) = kv.any fun e => decide (e.1 = k) from any_enc (kf := kn) kn_inj vn kv k]
  by_cases c : (kv.any fun e => decide (e.1 = k)) = true
  · rw [if_pos c, if_pos c]
    exact map_enc (kf := kn) kn_inj vn kv k v
  · rw [if_neg c, if_neg c]
    unfold ek
    rw [List.map_append]
    rfl
theorem valV_et (fs : List (List Int × Addr)) (g : List Int) : valV (et fs) (key g) = (gA fs g).map V.ref := find_enc (kf := key) key_inj V.ref fs g
theorem putK_et (fs : List (List Int × Addr)) (g : List Int) (d : Addr) : putK (et fs) (key g) (V.ref d) = et (pA fs g d) := by
  unfold putK pA
  rw [show ((et fs).any fun e => decide (e.1 = key g)) = fs.any fun e => decide (e.1 = g) from any_enc (kf := key) key_inj V.ref fs g]
  by_cases c : (fs.any fun e => decide (e.1 = g)) = true
  · rw [if_pos c, if_pos c]
    exact map_enc (kf := key) key_inj V.ref fs g d
  · rw [if_neg c, if_neg c]
    unfold et
    rw [List.map_append]
    rfl
def InnT (H : Hp) (d : Addr) (f : Nat → Nat) : Prop := ∃ kv, H d = some (.dK (ek kv)) ∧ IsG kv f
structure Tab (H : Hp) (lf : Addr) (fs : List (List Int × Addr)) (F : List Int → Nat → Nat) : Prop where
  at_ : H lf = some (.dT (et fs))
  nd : (fs.map (·.1)).Nodup
  mem : ∀ g, g ∈ fs.map (·.1) ↔ ∃ k, F g k ≠ 0
  inn : ∀ g d, gA fs g = some d → InnT H d (F g)
section
variable {H H' : Hp} {lf d : Addr} {fs : List (List Int × Addr)} {F : List Int → Nat → Nat} {f : Nat → Nat}
theorem InnT.same (h : InnT H d f) (s : Same H H') : InnT H' d f := by
  obtain ⟨kv, h1, h2⟩ := h
  exact ⟨kv, s _ _ h1, h2⟩
theorem Tab.same (t : Tab H lf fs F) (s : Same H H') : Tab H' lf fs F := ⟨s _ _ t.at_, t.nd, t.mem, fun g d h => (t.inn g d h).same s⟩
theorem Tab.congr (t : Tab H lf fs F) {G : List Int → Nat → Nat} (h : ∀ g k, F g k = G g k) : Tab H lf fs G := by
  have e : F = G := funext fun g => funext fun k => h g k
  rw [← e]
  exact t
theorem Tab.none (t : Tab H lf fs F) {g : List Int} (h : gA fs g = none) (k : Nat) : F g k = 0 :=
  Classical.byContradiction fun z => gA_none.mp h ((t.mem g).mpr ⟨k, z⟩)
theorem Tab.put (t : Tab H lf fs F) {g : List Int} (h : InnT H d f) (nz : ∃ k, f k ≠ 0) : Tab (upd H lf (.dT (et (pA fs g d)))) lf (pA fs g d) fun x => if x = g then f else F x := by
  have keep : ∀ e f', InnT H e f' → InnT (upd H lf (.dT (et (pA fs g d)))) e f' := fun e f' ⟨kv, h1, h2⟩ => ⟨kv, by rw [upd_ne (ne_of h1 t.at_ fun z => nomatch z)]; exact h1, h2⟩
  refine ⟨upd_same, pA_nd t.nd g d, fun x => ?_, fun x e hx => ?_⟩
  · rw [pA_mem_keys, t.mem x]
    by_cases c : x = g
    · rw [if_pos c]
      exact ⟨fun _ => nz, fun _ => .inl c⟩
    · rw [if_neg c]
      exact ⟨fun z => z.resolve_left c, .inr⟩
  · rw [gA_pA] at hx
    by_cases c : x = g
    · rw [if_pos c] at hx
      cases hx
      rw [if_pos c]
      exact keep _ _ h
    · rw [if_neg c] at hx
      rw [if_neg c]
      exact keep _ _ (t.inn x e hx)
end
section
variable {n : Nat} {ts : List Tie} {h0 : List Int}
theorem part_root : IsG [(0, 1)] (part n ts h0 [] h0) := by
  refine ⟨by simp, fun k => ?_⟩
  rw [gA_cons, gA_nil]
  cases k with
  | zero =>
    have e : part n ts h0 [] h0 0 = 1 := if_pos rfl
    rw [e]
    rfl
  | succ k =>
    have e : part n ts h0 [] h0 (k + 1) = 0 := rfl
    rw [e, if_neg (by simp), if_pos rfl]
theorem Tab.root {H : Hp} {lf d : Addr} (h1 : H lf = some (.dT (et [(h0, d)]))) (h2 : H d = some (.dK (ek [(0, 1)]))) : Tab H lf [(h0, d)] fun g => part n ts h0 [] g := by
  refine ⟨h1, by simp, fun g => ?_, fun g e he => ?_⟩
  · constructor
    · intro hg
      have e : g = h0 := List.mem_singleton.mp hg
      refine ⟨0, ?_⟩
      rw [e]
      show (if h0 = h0 then 1 else 0) ≠ 0
      rw [if_pos rfl]
      decide
    · rintro ⟨k, hk⟩
      cases k with
      | zero =>
        have e : h0 = g := Classical.byContradiction fun z => hk (if_neg z)
        rw [← e]
        exact List.mem_singleton.mpr rfl
      | succ k => exact (hk rfl).elim
  · rw [gA_cons, gA_nil] at he
    by_cases c : h0 = g
    · rw [if_pos c] at he
      cases he
      rw [← c]
      exact ⟨_, h2, part_root⟩
    · rw [if_neg c] at he
      cases he
end
end Sto

/-! part KD10 -/
set_option Elab.async false
set_option linter.all false
set_option maxRecDepth 100000
set_option maxHeartbeats 4000000
namespace Sto
open PySem PySem.Spec PyProof.Rows L2 StX
theorem ek_at {cs : List (Nat × Nat)} {r : Nat} {x1 x2 : V} (e1 : ((ek cs)[r]?.map fun kv => kV kv.1) = some x1) (e2 : (ek cs)[r]?.map Prod.snd = some x2) : ∃ m w, cs[r]? = some (m, w) ∧ x1 = vn m ∧ x2 = vn w := by
  unfold ek at e1 e2
  rw [List.getElem?_map] at e1 e2
  cases h : cs[r]? with
  | none => rw [h] at e1; cases e1
  | some p =>
    rw [h] at e1 e2
    exact ⟨p.1, p.2, rfl, (Option.some.inj e1).symm, (Option.some.inj e2).symm⟩
theorem ek_len (cs : List (Nat × Nat)) : (ek cs).length = cs.length := List.length_map ..
theorem et_len (fs : List (List Int × Addr)) : (et fs).length = fs.length := List.length_map ..
theorem getD_vn (o : Option Nat) : (o.map vn).getD (.int 0) = vn (o.getD 0) := by
  cases o <;> rfl
theorem split_of {α : Type} : ∀ {l : List α} {i : Nat} {x : α}, l[i]? = some x → l = l.take i ++ x :: l.drop (i + 1)
  | [], _, _, h => by simp at h
  | _ :: _, 0, _, h => by
    have e := Option.some.inj h
    subst e
    rfl
  | a :: l, i + 1, _, h => by
    have e := split_of (l := l) (i := i) h
    show a :: l = a :: (l.take i ++ _ :: l.drop (i + 1))
    rw [← e]
theorem step_le {f c : Nat → Nat} {cs : List (Nat × Nat)} {r : Nat} (hc : IsG cs c) (h1 : ∀ k, f k ≠ 0 → k ≤ 20) (h2 : ∀ k, c k ≠ 0 → k + 1 ≤ 20) (k : Nat) (h : addS f (fun j => (gA (cs.take r) j).getD 0) k ≠ 0) : k ≤ 20 := by
  by_cases e : f k = 0
  · unfold addS at h
    rw [e, Nat.zero_add] at h
    cases k with
    | zero => exact Nat.zero_le _
    | succ k =>
      have h : (gA (cs.take r) k).getD 0 ≠ 0 := h
      rw [hc.take] at h
      by_cases m : k ∈ (cs.take r).map (·.1)
      · rw [if_pos m] at h
        exact h2 k h
      · rw [if_neg m] at h
        exact (h rfl).elim
  · exact h1 k e
section
variable {P : Program} {w : World} {K : PySem.W.Frag} {mg : Str → Option Value} {base : Heap}
/-! ### need_start -/
def spNeedStart : Sp := fun vs H Q _ => ∃ (a b : Addr) (n : Nat) (ts : List Tie) (hs : List Int), vs = [.ref a, .ref b] ∧ WebT H a n ts ∧ HtT H b hs ∧ Ok n ts ∧ Hs n hs ∧ ∀ H', Same H H' → Q .non H'
theorem scNeedStart : FnScope ["web", "heights"] ["web", "heights"] (defScope (topS 27)) := ⟨rfl, rfl, rfl, by decide +kernel, rfl, by decide +kernel, by decide +kernel⟩
theorem cal_need_start (D : DefAt K mg "need_start" (topS 27) ["web", "heights"]) (c1 : Cal P w K mg base 4 "need_web" spNeedWeb) (c2 : Cal P w K mg base 4 "need_heights" spNeedHeights) : Cal P w K mg base 5 "need_start" spNeedStart := by
  refine cal_mk D scNeedStart (fun vs H Q E h => ?_) (fun f cdv A outer s H vs Q E hr h => ?_)
  · obtain ⟨a, b, n, ts, hs, rfl, _⟩ := h
    rfl
  · obtain ⟨a, b, n, ts, hs, rfl, hw, hb, ok, hh, q⟩ := h
    refine ⟨_, pss_cons (ps_expr (pe_c c1 hr (by decide) (by rfl) (pa_cons (pv 0) pa_nil)))
      (pss_one (ps_expr (pe_c c2 hr (by decide) (by rfl) (pa_cons (pv 0) (pa_cons (pv 1) pa_nil))))), ?_⟩
    exact ⟨_, rfl, a, n, ts, rfl, hw, ok, fun H1 s1 => ⟨_, rfl, _, rfl, a, b, n, ts, hs, rfl, hw.same s1, hb.same s1, hh, fun H2 s2 => q H2 (s1.trans s2)⟩⟩
/-! ### lengths_of -/
def spLens : Sp := fun vs H Q _ => ∃ (a b : Addr) (n : Nat) (ts : List Tie) (h0 : List Int), vs = [.ref a, .ref b] ∧ WebT H a n ts ∧ HtT H b h0 ∧ Ok n ts ∧ Hs n h0 ∧
  ∀ H' lf fs, Same H H' → H lf = none → Tab H' lf fs (fun g k => W n ts h0 k g) → Q (.ref lf) H'
theorem scLens : FnScope ["web", "heights", "found", "now", "counts", "person", "other", "told", "known", "many", "ways"] ["web", "heights"] (defScope (topS 30)) := ⟨rfl, rfl, rfl, by decide +kernel, rfl, by decide +kernel, by decide +kernel⟩
theorem cal_lengths_of (D : DefAt K mg "lengths_of" (topS 30) ["web", "heights"]) (B : Blt mg) (c1 : Cal P w K mg base 3 "all_of" spAll) (c2 : Cal P w K mg base 2 "next_of" spNext) (c3 : Cal P w K mg base 1 "after" spAfter) : Cal P w K mg base 4 "lengths_of" spLens := by
  refine cal_mk D scLens (fun vs H Q E h => ?_) (fun f cdv A outer s H vs Q E hr h => ?_)
  · obtain ⟨a, b, n, ts, h0, rfl, _⟩ := h
    rfl
  · obtain ⟨a, b, n, ts, h0, rfl, hw, hb, ok, hh, q⟩ := h
    have nd := scLens.nd
    have hu := hu_of hr
    refine ⟨_, pss_cons (ps_set (i := 2) nd rfl (.inl rfl) (pe_dispT (hu0 hr) (pv 1) (pe_disp (pps_cons pe_int pe_int pps_nil) (by rfl) (by rfl) (by intro z; cases z) (by decide))))
      (pss_cons (ps_for PassesOwn.never rfl (pi_list (pe_revL (pe_c c1 hr (by decide) (by rfl) (pa_cons (pv 0) (pa_cons (pv 1) pa_nil))))) (pg_name (i := 3) nd rfl (.inl rfl))
        (pss_cons (ps_set (i := 4) nd rfl (.inl rfl) (pe_dget2 hu (pv 2) (pv 3) pe_dnewK ⟨rfl, rfl, rfl, rfl⟩))
        (pss_one (ps_for PassesOwn.never rfl (pi_tup (pe_c c2 hr (by decide) (by rfl) (pa_cons (pv 0) (pa_cons (pv 3) pa_nil)))) (pg_tup rfl (pgs_cons (pg_name (i := 5) nd rfl (.inl rfl)) (pgs_cons (pg_name (i := 6) nd rfl (.inl rfl)) pgs_nil)))
          (pss_cons (ps_set (i := 7) nd rfl (.inl rfl) (pe_c c3 hr (by decide) (by rfl) (pa_cons (pv 3) (pa_cons (pv 5) (pa_cons (pv 6) pa_nil)))))
          (pss_cons (ps_set (i := 8) nd rfl (.inl rfl) (pe_callTy call_dictD (by rfl) B.dict boot_dict (pa_cons (pe_dget2 hu (pv 2) (pv 7) pe_dnewK ⟨rfl, rfl, rfl, rfl⟩) pa_nil)))
          (pss_cons (ps_lock (ps_for PassesOwn.never rfl (pi_items (pv 4)) (pg_tup rfl (pgs_cons (pg_name (i := 9) nd rfl (.inl rfl)) (pgs_cons (pg_name (i := 10) nd rfl (.inl rfl)) pgs_nil)))
            (pss_one (ps_dput hu (pv 8) (pe_op op_add (pv 9) pe_int) (pe_op op_add (pe_dget2 hu (pv 8) (pe_op op_add (pv 9) pe_int) pe_int ⟨rfl, rfl, rfl, rfl⟩) (pv 10)) rfl))))
          (pss_one (ps_dput hu (pv 2) (pv 7) (pv 8) rfl)))))))))
      (pss_one (ps_ret (pv 2)))), ?_⟩
    intro lf nf
    refine ⟨_, rfl, fun dr ndr => ⟨upd_same, [(kn 0, vn 1)], rfl, by decide, ?_⟩⟩
    have nfd : lf ≠ dr := ne_of_none upd_same ndr
    rw [upd_upd]
    refine ⟨by rw [upd_ne nfd]; exact upd_same, _, b, key h0, rfl, key_tup (((same_new nf).trans (same_new ndr)) _ _ hb), ?_⟩
    have s0 := ((same_new nf).trans (same_new (o := .dK (mergeK [] [(kn 0, vn 1)])) ndr)).upd_new (o := .dT [(key h0, .ref dr)]) nf
    have T0 : Tab (upd (upd (upd H lf (.dT [])) dr (.dK (mergeK [] [(kn 0, vn 1)]))) lf (.dT [(key h0, .ref dr)])) lf [(h0, dr)] (fun g => part n ts h0 [] g) := .root upd_same (by rw [upd_ne nfd.symm]; exact upd_same)
    refine ⟨_, rfl, _, rfl, a, b, n, ts, h0, rfl, hw.same s0, hb.same s0, ok, hh, fun H2 p zs s2 np hp hzs srt mem => ⟨p, _, rfl, SqL.of hp, fun l nl => ⟨l, rfl, ⟨_, SqL.of upd_same⟩, ?_⟩⟩⟩
    have s02 := s0.trans s2
    have os_nd : (zs.reverse.map (·.2)).Nodup := by
      rw [List.map_reverse]
      refine (List.reverse_perm _).symm.nodup ?_
      exact srt.imp fun h e => by rw [e] at h; exact List.lt_irrefl _ h
    have os_mem : ∀ x, x ∈ zs.reverse.map (·.2) ↔ Reach n ts h0 x := fun x => by
      rw [List.map_reverse, List.mem_reverse]
      exact mem x
    have os_srt : (zs.reverse.map (·.2)).Pairwise fun x y => y < x := by
      rw [List.map_reverse, List.pairwise_reverse]
      exact srt
    rw [show (zs.map fun z => V.ref z.1).reverse = zs.reverse.map fun z => V.ref z.1 from (List.map_reverse ..).symm]
    generalize ezr : zs.reverse = zr at os_nd os_mem os_srt ⊢
    have zr_mem : ∀ z ∈ zr, z ∈ zs := fun z hz => by rw [← ezr] at hz; exact List.mem_reverse.mp hz
    refine for_it (walk_list (K := K) (a := l) (xs := zr.map fun z => V.ref z.1)) (fun i σ H' => Same H H' ∧ H' l = some (.lst (zr.map fun z => V.ref z.1)) ∧ (∀ z ∈ zr, HtT H' z.1 z.2) ∧ (∃ fs, Tab H' lf fs fun g => part n ts h0 ((zr.map (·.2)).take i) g) ∧ ∃ y3 y4 y5 y6 y7 y8 y9 y10, σ = [some (.ref a), some (.ref b), some (.ref lf), y3, y4, y5, y6, y7, y8, y9, y10])
      ⟨s02.trans (same_new nl), upd_same, fun z hz => (hzs z (zr_mem z hz)).same (same_new nl), ⟨_, by rw [List.take_zero]; exact T0.same (s2.trans (same_new nl))⟩, _, _, _, _, _, _, _, _, rfl⟩ (fun i σ H' _ z => SqL.of z.2.1) ?_ ?_
    · rintro i x σ H3 H4 hi ⟨s3, l3, t3, ⟨fs, T3⟩, y3, y4, y5, y6, y7, y8, y9, y10, rfl⟩ ⟨rfl, ex⟩
      rw [List.getElem?_map] at ex
      obtain ⟨z, hz, rfl⟩ := Option.map_eq_some_iff.mp ex
      have hzo : (zr.map (·.2))[i]? = some z.2 := by rw [List.getElem?_map, hz]; rfl
      have sp := split_of hzo
      have tk : (zr.map (·.2)).take (i + 1) = (zr.map (·.2)).take i ++ [z.2] := by rw [List.take_add_one, hzo]; rfl
      generalize eos : zr.map (·.2) = os at os_nd os_mem os_srt hzo sp tk T3 ⊢
      have hzm : z ∈ zr := List.mem_of_getElem? hz
      have hrn : Reach n ts h0 z.2 := (os_mem _).mp (List.mem_of_getElem? hzo)
      have hhn := reach_hs ok hh hrn
      have hnow := t3 z hzm
      have pn : ∀ k, part n ts h0 (os.take i) z.2 k = W n ts h0 k z.2 := by
        rw [sp] at os_nd os_srt
        refine part_now ok (R := os.drop (i + 1)) os_nd (fun x hx => by rw [← sp]; exact (os_mem x).mpr hx) (fun x hx => reach_hs ok hh ((os_mem x).mp (by rw [sp]; exact List.mem_append_right _ hx))) ?_
        exact fun x hx => (List.pairwise_cons.mp (List.pairwise_append.mp os_srt).2.1).1 x hx
      obtain ⟨kw, hkw⟩ := reach_W.mp hrn
      -- counts = found.get(now, {})
      refine ⟨_, rfl, lf, rfl, .inr ⟨_, .of T3.at_⟩, _, rfl, fun e ne => ⟨_, DGet.t ((same_new ne) _ _ T3.at_) (key_tup (hnow.same (same_new ne))), ?_⟩⟩
      obtain ⟨cd, hcd⟩ := gA_some ((T3.mem z.2).mpr ⟨kw, by rw [pn]; exact hkw⟩)
      rw [valV_et, hcd]
      obtain ⟨cs, hcs, gcs⟩ := T3.inn _ _ hcd
      have gcs : IsG cs fun k => W n ts h0 k z.2 := gcs.congr pn
      have se : Same H4 (upd H4 e (.dK [])) := same_new ne
      refine ⟨_, rfl, _, rfl, a, z.1, n, ts, z.2, rfl, hw.same (s3.trans se), hnow.same se, ok, hhn.len, fun H5 pt pbs s5 npt hpt hpp => ?_⟩
      have s35 := se.trans s5
      refine ⟨pt, rfl, ⟨_, SqT.of hpt⟩, for_it (walk_tup (K := K) (a := pt) (xs := pbs.map V.ref)) (fun j σ' H' => Same H H' ∧ H' l = some (.lst (zr.map fun z => V.ref z.1)) ∧ (∀ z ∈ zr, HtT H' z.1 z.2) ∧ H' pt = some (.tup (pbs.map V.ref)) ∧ Paired (PairT H') pbs (stp n ts z.2) ∧ H' cd = some (.dK (ek cs)) ∧
          (∃ fs, Tab H' lf fs fun g => mid n ts h0 (os.take i) z.2 j g) ∧ ∃ y5 y6 y7 y8 y9 y10, σ' = [some (.ref a), some (.ref b), some (.ref lf), some (.ref z.1), some (.ref cd), y5, y6, y7, y8, y9, y10])
        ⟨s3.trans s35, s35 _ _ l3, fun z hz => (t3 z hz).same s35, hpt, hpp, s35 _ _ hcs, ⟨fs, (T3.same s35).congr fun g k => by rw [mid_zero]⟩, _, _, _, _, _, _, rfl⟩ (fun j σ' H' _ z => SqT.of z.2.2.2.1) ?_ ?_⟩
      · rintro j x σ' H6 H7 hj ⟨s6, l6, t6, pt6, pp6, c6, ⟨fs6, T6⟩, y5, y6, y7, y8, y9, y10, rfl⟩ ⟨rfl, ex⟩
        obtain ⟨tb, htb, rfl⟩ := ref_at ex
        obtain ⟨t, ht, htt⟩ := paired_at' pp6 htb
        have htm : t ∈ stp n ts z.2 := List.mem_of_getElem? ht
        obtain ⟨m1, m2, m3⟩ := mem_stp.mp htm
        have mo := (ok.nb_lt m2).1
        have hnx : aft z.2 t ∈ nexts n ts z.2 := List.mem_map.mpr ⟨t, htm, rfl⟩
        have hlay : ∀ k, W n ts h0 k z.2 ≠ 0 → k + 1 ≤ 20 := fun k hk => lay_k ok hh (List.mem_flatMap.mpr ⟨z.2, W_pos.mp hk, hnx⟩ : aft z.2 t ∈ lay n ts h0 (k + 1))
        refine ⟨tb, _, rfl, SqT.of htt, rfl, _, _, rfl, _, _, rfl, rfl, ?_⟩
        refine ⟨_, rfl, _, rfl, _, rfl, z.1, z.2, t.1, t.2, rfl, t6 z hzm, by rw [hhn.len]; exact m1, by rw [hhn.len]; exact mo, by rw [hhn.len]; exact ok.n4, fun H8 v s8 nv hv => ?_⟩
        have T8 := T6.same s8
        -- known = dict(found.get(told, {}))
        refine ⟨_, rfl, lf, rfl, .inr ⟨_, .of T8.at_⟩, _, rfl, fun e2 ne2 => ⟨_, DGet.t ((same_new ne2) _ _ T8.at_) (key_tup (hv.same (same_new ne2))), ?_⟩⟩
        have T9 : Tab (upd H8 e2 (.dK [])) lf fs6 _ := T8.same (same_new ne2)
        rw [valV_et]
        obtain ⟨dd, kv, ev, hdd, hkv⟩ : ∃ dd kv, ((gA fs6 (aft z.2 t)).map V.ref).getD (V.ref e2) = V.ref dd ∧ upd H8 e2 (.dK []) dd = some (.dK (ek kv)) ∧ IsG kv (mid n ts h0 (os.take i) z.2 j (aft z.2 t)) := by
          cases hg : gA fs6 (aft z.2 t) with
          | none => exact ⟨e2, [], rfl, upd_same, IsG.nil.congr fun k => (T9.none hg k).symm⟩
          | some d =>
            obtain ⟨kv, h1, h2⟩ := T9.inn _ _ hg
            exact ⟨d, kv, rfl, h1, h2⟩
        rw [ev]
        refine ⟨dd, ek kv, rfl, .of hdd, fun kd nkd => ?_⟩
        have s69 : Same H7 (upd H8 e2 (.dK [])) := s8.trans (same_new ne2)
        have c9 := s69 _ _ c6
        have ncd : cd ≠ kd := ne_of_none c9 nkd
        have c10 : upd (upd H8 e2 (.dK [])) kd (.dK (ek kv)) cd = some (.dK (ek cs)) := (same_new nkd) _ _ c9
        refine ⟨cd, .dK (ek cs), c10, True.intro, fun od => ?_⟩
        refine ⟨_, rfl, cd, od, ek cs, rfl, upd_same, for_it walk_items (fun r σ' H' => H' cd = some (.frz od (.dK (ek cs))) ∧ (∀ b x, b ≠ cd → b ≠ kd → upd H8 e2 (.dK []) b = some x → H' b = some x) ∧
            (∃ kv', H' kd = some (.dK (ek kv')) ∧ IsG kv' (addS (mid n ts h0 (os.take i) z.2 j (aft z.2 t)) fun k => (gA (cs.take r) k).getD 0)) ∧
            ∃ y9 y10, σ' = [some (.ref a), some (.ref b), some (.ref lf), some (.ref z.1), some (.ref cd), some (vn t.1), some (vn t.2), some (.ref v), some (.ref kd), y9, y10])
          ⟨upd_same, fun b x h1 h2 h => by rw [upd_ne h1, upd_ne h2]; exact h, ⟨kv, by rw [upd_ne ncd.symm]; exact upd_same, hkv.congr fun k => ?_⟩, _, _, rfl⟩ (fun r σ' H' _ z => z.1) ?_ ?_⟩
        · rw [List.take_zero]
          cases k <;> rfl
        · rintro r x σ' H9 H10 hr' ⟨hc9, k9, ⟨kv', hk9, hg9⟩, y9, y10, rfl⟩ ⟨T, x1, x2, rfl, nT, rfl, e1, e2⟩
          obtain ⟨m, w', hmw, rfl, rfl⟩ := ek_at e1 e2
          have sT : Same H9 (upd H9 T (.tup [vn m, vn w'])) := same_new nT
          have hk10 := sT _ _ hk9
          have hl21 := hg9.len (step_le gcs (fun k hk => lay_k ok hh (mid_pos hk)) hlay)
          refine ⟨T, _, rfl, SqT.of upd_same, rfl, _, _, rfl, _, _, rfl, rfl, ?_⟩
          refine ⟨_, rfl, kd, rfl, .inl ⟨_, .of hk10⟩, _, rfl, _, _, rfl, rfl, _, DGet.k (k := kn (m + 1)) hk10, ?_⟩
          rw [valV_ek, getD_vn]
          have hput : DPut (upd H9 T (.tup [vn m, vn w'])) kd (V.int ((m : Int) + 1)) (V.int ((((gA kv' (m + 1)).getD 0 : Nat) : Int) + (w' : Int))) (upd (upd H9 T (.tup [vn m, vn w'])) kd (.dK (ek (pA kv' (m + 1) ((gA kv' (m + 1)).getD 0 + w'))))) := by
            have h := DPut.k (k := kn (m + 1)) (v := vn ((gA kv' (m + 1)).getD 0 + w')) hk10 (by rw [ek_len]; exact smallL hl21)
            rw [putK_ek] at h
            exact h
          refine ⟨_, rfl, _, _, rfl, rfl, _, rfl, _, rfl, _, _, rfl, rfl, kd, _, rfl, hput, ?_, ?_, ?_, _, _, rfl⟩
          · rw [upd_ne ncd]
            exact sT _ _ hc9
          · intro b x h1 h2 h
            rw [upd_ne h2]
            exact sT _ _ (k9 b x h1 h2 h)
          · exact ⟨_, upd_same, hg9.addStep gcs hmw⟩
        · rintro σ' H9 ⟨hc9, k9, ⟨kv', hk9, hg9⟩, y9, y10, rfl⟩
          rw [ek_len, List.take_length] at hg9
          have s11 : Same (upd H8 e2 (.dK [])) (upd H9 cd (.dK (ek cs))) := fun b x h => by
            by_cases hb : b = cd
            · rw [hb] at h ⊢
              rw [upd_same, ← h]
              exact c9.symm
            · rw [upd_ne hb]
              exact k9 b x hb (ne_of_none h nkd) h
          have T11 := T9.same s11
          have hg11 : IsG kv' (addS (mid n ts h0 (os.take i) z.2 j (aft z.2 t)) fun k => W n ts h0 k z.2) := hg9.congr fun k => by
            unfold addS
            cases k with
            | zero => rfl
            | succ k => exact congrArg _ (gcs.getD k)
          have kd11 : upd H9 cd (.dK (ek cs)) kd = some (.dK (ek kv')) := by rw [upd_ne ncd.symm]; exact hk9
          have hfew : fs6.length ≤ 1296 := by
            have h := few_hs (n := n) ok.n4 T11.nd fun g hg => by
              obtain ⟨k, hk⟩ := (T11.mem g).mp hg
              exact (lay_hs ok hh k g (mid_pos hk)).1
            rw [List.length_map] at h
            exact h
          have T12 := T11.put (g := aft z.2 t) ⟨kv', kd11, hg11⟩ ⟨kw + 1, fun z' => by
            unfold addS at z'
            have z' : mid n ts h0 (os.take i) z.2 j (aft z.2 t) (kw + 1) + W n ts h0 kw z.2 = 0 := z'
            omega⟩
          have hs11 : Same H7 (upd H9 cd (.dK (ek cs))) := s69.trans s11
          refine ⟨hc9, _, rfl, _, rfl, _, rfl, lf, _, rfl, DPut.t T11.at_ (key_tup (hv.same ((same_new ne2).trans s11))) (by rw [et_len]; exact smallL hfew), ?_⟩
          rw [putK_et]
          have tp : Tups H7 (upd (upd H9 cd (.dK (ek cs))) lf (.dT (et (pA fs6 (aft z.2 t) kd)))) := (Tups.of hs11).trans (.put T11.at_)
          refine ⟨(s6.trans hs11).upd_new nf, ?_, fun z hz => (t6 z hz).tups tp, tp _ _ pt6, pairs_tups pp6 tp, ?_, ⟨_, T12.congr fun g k => ?_⟩, _, _, _, _, _, _, rfl⟩
          · rw [upd_ne (ne_of (hs11 _ _ l6) T11.at_ fun z => nomatch z)]
            exact hs11 _ _ l6
          · rw [upd_ne (ne_of (hs11 _ _ c6) T11.at_ fun z => nomatch z)]
            exact hs11 _ _ c6
          · rw [mid_step _ _ _ ht]
            by_cases c : g = aft z.2 t
            · subst c
              rw [if_pos rfl]
            · rw [if_neg c, if_neg fun z => c z.symm]
      · rintro σ' H6 ⟨s6, l6, t6, pt6, pp6, c6, ⟨fs6, T6⟩, y5, y6, y7, y8, y9, y10, rfl⟩
        refine ⟨s6, l6, t6, ⟨fs6, T6.congr fun g k => ?_⟩, _, _, _, _, _, _, _, _, rfl⟩
        rw [List.length_map, Paired.length hpp, mid_end, ← tk]
    · rintro σ H3 ⟨s3, l3, t3, ⟨fs, T3⟩, y3, y4, y5, y6, y7, y8, y9, y10, rfl⟩
      refine ⟨_, rfl, q _ lf fs s3 nf (T3.congr fun g k => ?_)⟩
      rw [List.length_map, show zr.length = (zr.map (·.2)).length from (List.length_map ..).symm, List.take_length]
      exact part_all os_nd (fun x hx => (os_mem x).mpr hx) g k
end
end Sto

/-! part KD11 -/
set_option Elab.async false
set_option linter.all false
set_option maxRecDepth 100000
set_option maxHeartbeats 4000000
namespace Sto
open PySem PySem.Spec PyProof.Rows L2 StX
/-! ### what a table of numbers tells -/
def ii (e : Nat × Nat) : Int × Int := ((e.1 : Int), (e.2 : Int))
theorem ek_entI (kv : List (Nat × Nat)) : ek kv = (kv.map ii).map entI := by
  rw [List.map_map]
  rfl
theorem paired_dual {α β : Type} {F : α → β → Prop} {γ : Type} (f : γ → α) (g : γ → β) : ∀ l : List γ, (∀ z ∈ l, F (f z) (g z)) → Paired F (l.map f) (l.map g)
  | [], _ => .nil
  | z :: l, h => .cons (h z (List.mem_cons_self ..)) (paired_dual f g l fun y hy => h y (List.mem_cons_of_mem _ hy))
theorem sorted_lens {H : Hp} {ps : List (Addr × Int × Int)} {kv : List (Nat × Nat)} {f : Nat → Nat} (perm : (ps.map (·.2)).Perm (kv.map ii)) (srt : (ps.map (·.2)).Pairwise fun a b => a.1 < b.1 ∨ (a.1 = b.1 ∧ a.2 ≤ b.2)) (hg : IsG kv f) (hf : ∀ k, f k ≠ 0 → k ≤ 20)
    (h : ∀ z ∈ ps, H z.1 = some (.tup [.int z.2.1, .int z.2.2])) : Paired (PairT H) (ps.map (·.1)) (lens f) := by
  have back : ∀ l : List (Nat × Nat), (l.map ii).map (fun e => (e.1.toNat, e.2.toNat)) = l := fun l => by
    rw [List.map_map]
    exact (List.map_congr_left fun e _ => rfl).trans (List.map_id l)
  have p2 := perm.map fun e : Int × Int => (e.1.toNat, e.2.toNat)
  rw [back, List.map_map] at p2
  have e := lens_eq (p2.trans (lens_perm hg hf)) (by
    rw [List.pairwise_map]
    rw [List.pairwise_map] at srt
    refine srt.imp fun {x y} z => ?_
    show x.2.1.toNat ≤ y.2.1.toNat
    omega)
  rw [← e]
  refine paired_dual _ _ ps fun z hz => ?_
  have hm : z.2 ∈ kv.map ii := perm.mem_iff.mp (List.mem_map.mpr ⟨z, hz, rfl⟩)
  obtain ⟨e, _, he⟩ := List.mem_map.mp hm
  have hh := h z hz
  rw [← he] at hh
  show H z.1 = some (.tup [vn z.2.1.toNat, vn z.2.2.toNat])
  rw [← he]
  exact hh
def total (f : Nat → Nat) : Nat := sumN (List.range 21) f
theorem sumN_filter (f : Nat → Nat) : ∀ L : List Nat, sumN ((L.filter fun k => decide (f k ≠ 0)).map fun k => (k, f k)) (·.2) = sumN L f
  | [] => rfl
  | a :: L => by
    rw [sumN_cons, ← sumN_filter f L]
    by_cases c : f a = 0
    · rw [List.filter_cons_of_neg (by simp [c]), c, Nat.zero_add]
    · rw [List.filter_cons_of_pos (by simp [c]), List.map_cons, sumN_cons]
theorem IsG.total {kv : List (Nat × Nat)} {f : Nat → Nat} (hg : IsG kv f) (hf : ∀ k, f k ≠ 0 → k ≤ 20) : sumN kv (·.2) = Sto.total f := by
  rw [sumN_perm (lens_perm hg hf)]
  exact sumN_filter f _
theorem sum_cast {α : Type} (f : α → Nat) : ∀ l : List α, (l.map fun e => (f e : Int)).sum = ((sumN l f : Nat) : Int)
  | [] => rfl
  | a :: l => by
    rw [List.map_cons, List.sum_cons, sum_cast f l, sumN_cons]
    omega
theorem most_is {kv : List (Nat × Nat)} {f : Nat → Nat} (hg : IsG kv f) {m : Int} (h : m ∈ kv.map fun e => (e.1 : Int)) (q : ∀ j ∈ kv.map fun e => (e.1 : Int), j ≤ m) : ∃ k : Nat, m = (k : Int) ∧ IsMost f k := by
  obtain ⟨e, he, rfl⟩ := List.mem_map.mp h
  refine ⟨e.1, rfl, (hg.val he).2, fun k hk => ?_⟩
  obtain ⟨e', h1, rfl⟩ := List.mem_map.mp (hg.mem.mpr hk)
  have := q _ (List.mem_map.mpr ⟨e', h1, rfl⟩)
  omega
theorem few_is {kv : List (Nat × Nat)} {f : Nat → Nat} (hg : IsG kv f) {m : Int} (h : m ∈ kv.map fun e => (e.1 : Int)) (q : ∀ j ∈ kv.map fun e => (e.1 : Int), m ≤ j) : ∃ k : Nat, m = (k : Int) ∧ IsFew f k := by
  obtain ⟨e, he, rfl⟩ := List.mem_map.mp h
  refine ⟨e.1, rfl, (hg.val he).2, fun k hk => ?_⟩
  obtain ⟨e', h1, rfl⟩ := List.mem_map.mp (hg.mem.mpr hk)
  have := q _ (List.mem_map.mpr ⟨e', h1, rfl⟩)
  omega
theorem ek_keys (kv : List (Nat × Nat)) : (ek kv).map (·.1) = (kv.map fun e => (e.1 : Int)).map Sum.inl := by
  unfold ek
  rw [List.map_map, List.map_map]
  rfl
theorem ek_vals (kv : List (Nat × Nat)) : (ek kv).map (·.2) = (kv.map fun e => (e.2 : Int)).map V.int := by
  unfold ek
  rw [List.map_map, List.map_map]
  rfl
theorem IsG.ne {kv : List (Nat × Nat)} {f : Nat → Nat} (hg : IsG kv f) {k : Nat} (h : f k ≠ 0) : (kv.map fun e => (e.1 : Int)) ≠ [] := by
  intro z
  have := hg.mem.mpr h
  rw [List.map_eq_nil_iff.mp z] at this
  cases this
section
variable {H H' : Hp} {lf e : Addr} {fs : List (List Int × Addr)} {F : List Int → Nat → Nat}
theorem Tab.get2 (T : Tab H lf fs F) (ne : H e = Option.none) (g : List Int) : ∃ dd kv, ((gA fs g).map V.ref).getD (V.ref e) = V.ref dd ∧ upd H e (.dK []) dd = some (.dK (ek kv)) ∧ IsG kv (F g) := by
  have T9 : Tab (upd H e (.dK [])) lf fs F := T.same (same_new ne)
  cases hg : gA fs g with
  | none => exact ⟨e, [], rfl, upd_same, IsG.nil.congr fun k => (T9.none hg k).symm⟩
  | some d =>
    obtain ⟨kv, h1, h2⟩ := T9.inn _ _ hg
    exact ⟨d, kv, rfl, h1, h2⟩
end
section
variable {P : Program} {w : World} {K : PySem.W.Frag} {mg : Str → Option Value} {base : Heap}
/-! ### count_rows -/
def spCount : Sp := fun vs H Q _ => ∃ (a b c : Addr) (n : Nat) (ts : List Tie) (h0 g : List Int) (s : Nat), vs = [.ref a, .ref b, .ref c, vn s] ∧ WebT H a n ts ∧ HtT H b h0 ∧ HtT H c g ∧ Ok n ts ∧ Hs n h0 ∧ Hs n g ∧ s ≤ 60 ∧
  ∀ H', Same H H' → Q (vn (W n ts h0 s g)) H'
theorem scCount : FnScope ["web", "heights", "goal", "steps"] ["web", "heights", "goal", "steps"] (defScope (topS 31)) := ⟨rfl, rfl, rfl, by decide +kernel, rfl, by decide +kernel, by decide +kernel⟩
theorem cal_count_rows (D : DefAt K mg "count_rows" (topS 31) ["web", "heights", "goal", "steps"]) (B : Blt mg) (c1 : Cal P w K mg base 5 "need_start" spNeedStart) (c2 : Cal P w K mg base 4 "need_heights" spNeedHeights) (c3 : Cal P w K mg base 3 "need_from" spNeedFrom) (c4 : Cal P w K mg base 4 "lengths_of" spLens) : Cal P w K mg base 6 "count_rows" spCount := by
  refine cal_mk D scCount (fun vs H Q E h => ?_) (fun f cdv A outer s H vs Q E hr h => ?_)
  · obtain ⟨a, b, c, n, ts, h0, g, s, rfl, _⟩ := h
    rfl
  · obtain ⟨a, b, c, n, ts, h0, g, s, rfl, hw, hb, hc, ok, hh, hg, h60, q⟩ := h
    have hu := hu_of hr
    obtain ⟨tm, em⟩ := B.ms
    refine ⟨_, pss_cons (ps_expr (pe_c c1 hr (by decide) (by rfl) (pa_cons (pv 0) (pa_cons (pv 1) pa_nil))))
      (pss_cons (ps_expr (pe_c c2 hr (by decide) (by rfl) (pa_cons (pv 0) (pa_cons (pv 2) pa_nil))))
      (pss_cons (ps_expr (pe_c c3 hr (by decide) (by rfl) (pa_cons (pv 3) (pa_cons pe_int (pa_cons (pe_glob (v := .int 60) rfl em ⟨_, rfl⟩) pa_nil)))))
      (pss_one (ps_ret (pe_dget2 hu (pe_dget2 hu (pe_c c4 hr (by decide) (by rfl) (pa_cons (pv 0) (pa_cons (pv 1) pa_nil))) (pv 2) pe_dnewK ⟨rfl, rfl, rfl, rfl⟩) (pv 3) pe_int ⟨rfl, rfl, rfl, rfl⟩))))), ?_⟩
    refine ⟨_, rfl, _, rfl, a, b, n, ts, h0, rfl, hw, hb, ok, hh, fun H1 s1 => ⟨_, rfl, _, rfl, a, c, n, ts, g, rfl, hw.same s1, hc.same s1, hg, fun H2 s2 => ⟨_, rfl, s, 0, 60, rfl, by omega, by omega, ?_⟩⟩⟩
    have s12 := s1.trans s2
    refine ⟨_, rfl, _, rfl, a, b, n, ts, h0, rfl, hw.same s12, hb.same s12, ok, hh, fun H3 lf fs s3 nf T => ⟨lf, rfl, .inr ⟨_, .of T.at_⟩, _, rfl, fun e ne => ⟨_, DGet.t ((same_new ne) _ _ T.at_) (key_tup ((hc.same (s12.trans s3)).same (same_new ne))), ?_⟩⟩⟩
    obtain ⟨dd, kv, ev, hdd, hkv⟩ := T.get2 ne g
    rw [valV_et, ev]
    refine ⟨dd, rfl, .inl ⟨_, .of hdd⟩, _, rfl, _, DGet.k (k := kn s) hdd, ?_⟩
    rw [valV_ek, getD_vn, hkv.getD]
    exact q _ ((s12.trans s3).trans (same_new ne))
/-! ### row_lengths -/
def spRowL : Sp := fun vs H Q _ => ∃ (a b c : Addr) (n : Nat) (ts : List Tie) (h0 g : List Int), vs = [.ref a, .ref b, .ref c] ∧ WebT H a n ts ∧ HtT H b h0 ∧ HtT H c g ∧ Ok n ts ∧ Hs n h0 ∧ Hs n g ∧
  ∀ H' p bs, Same H H' → H p = none → H' p = some (.tup (bs.map V.ref)) → Paired (PairT H') bs (lens fun k => W n ts h0 k g) → Q (.ref p) H'
theorem scRowL : FnScope ["web", "heights", "goal"] ["web", "heights", "goal"] (defScope (topS 32)) := ⟨rfl, rfl, rfl, by decide +kernel, rfl, by decide +kernel, by decide +kernel⟩
theorem cal_row_lengths (D : DefAt K mg "row_lengths" (topS 32) ["web", "heights", "goal"]) (B : Blt mg) (c1 : Cal P w K mg base 5 "need_start" spNeedStart) (c2 : Cal P w K mg base 4 "need_heights" spNeedHeights) (c4 : Cal P w K mg base 4 "lengths_of" spLens) : Cal P w K mg base 6 "row_lengths" spRowL := by
  refine cal_mk D scRowL (fun vs H Q E h => ?_) (fun f cdv A outer s H vs Q E hr h => ?_)
  · obtain ⟨a, b, c, n, ts, h0, g, rfl, _⟩ := h
    rfl
  · obtain ⟨a, b, c, n, ts, h0, g, rfl, hw, hb, hc, ok, hh, hg, q⟩ := h
    have hu := hu_of hr
    refine ⟨_, pss_cons (ps_expr (pe_c c1 hr (by decide) (by rfl) (pa_cons (pv 0) (pa_cons (pv 1) pa_nil))))
      (pss_cons (ps_expr (pe_c c2 hr (by decide) (by rfl) (pa_cons (pv 0) (pa_cons (pv 2) pa_nil))))
      (pss_one (ps_ret (pe_tupleOf (by rfl) B.tuple (pe_callB (cr_sortItK rfl (hu64 hr)) (by rfl) B.sorted boot_sorted (pa_cons
        (pe_bm0 PySem.F.plainAttrs_dict PySem.F.slot_dict_items PySem.F.type_dict_items mt_itemsK (pe_dget2 hu (pe_c c4 hr (by decide) (by rfl) (pa_cons (pv 0) (pa_cons (pv 1) pa_nil))) (pv 2) pe_dnewK ⟨rfl, rfl, rfl, rfl⟩)) pa_nil)))))), ?_⟩
    refine ⟨_, rfl, _, rfl, a, b, n, ts, h0, rfl, hw, hb, ok, hh, fun H1 s1 => ⟨_, rfl, _, rfl, a, c, n, ts, g, rfl, hw.same s1, hc.same s1, hg, fun H2 s2 => ?_⟩⟩
    have s12 := s1.trans s2
    refine ⟨_, rfl, _, rfl, a, b, n, ts, h0, rfl, hw.same s12, hb.same s12, ok, hh, fun H3 lf fs s3 nf T => ⟨lf, rfl, .inr ⟨_, .of T.at_⟩, _, rfl, fun e ne => ⟨_, DGet.t ((same_new ne) _ _ T.at_) (key_tup ((hc.same (s12.trans s3)).same (same_new ne))), ?_⟩⟩⟩
    obtain ⟨dd, kv, ev, hdd, hkv⟩ := T.get2 ne g
    rw [valV_et, ev]
    have se : Same H (upd H3 e (.dK [])) := (s12.trans s3).trans (same_new ne)
    refine ⟨.inr (.inr (.inl ⟨rfl, .inl ⟨_, hdd⟩⟩)), dd, _, rfl, rfl, hdd, fun v nv => ?_⟩
    have sv := se.trans (same_new (o := DX.itemsO v dd) nv)
    refine ⟨v, dd, kv.map ii, rfl, upd_same, by rw [upd_ne (ne_of_none hdd nv), ← ek_entI]; exact hdd, fun H4 l ps s4 perm srt nl hl hps => ?_⟩
    have s04 := sv.trans s4
    refine .inl ⟨l, _, rfl, SqL.of hl, fun u nu => ?_⟩
    refine q _ u (ps.map (·.1)) (s04.trans (same_new nu)) (s04.free nu) (by rw [upd_same, List.map_map]; rfl) ?_
    exact pairs_same (sorted_lens perm srt hkv (fun k hk => W_big ok hh hk) hps) (same_new nu)
end
end Sto

/-! part KD12 -/
set_option Elab.async false
set_option linter.all false
set_option maxRecDepth 100000
set_option maxHeartbeats 4000000
namespace Sto
open PySem PySem.Spec PyProof.Rows L2 StX
section
variable {H H' : Hp} {lf b : Addr} {fs : List (List Int × Addr)} {n : Nat} {ts : List Tie} {h0 : List Int}
theorem Tab.last (T : Tab H lf fs fun g k => W n ts h0 k g) (ok : Ok n ts) (hh : Hs n h0) (s : Same H H') (hb : HtT H' b (lowsM n ts h0)) :
    ∃ d kv, DGet H' lf (.ref b) (some (.ref d)) ∧ H' d = some (.dK (ek kv)) ∧ IsG kv fun k => W n ts h0 k (lowsM n ts h0) := by
  obtain ⟨d, hd⟩ := gA_some ((T.mem _).mpr (reach_W.mp (lows_end ok hh).1))
  obtain ⟨kv, h1, h2⟩ := T.inn _ _ hd
  refine ⟨d, kv, ?_, s _ _ h1, h2⟩
  have h := DGet.t (s _ _ T.at_) (key_tup hb)
  rw [valV_et, hd] at h
  exact h
end
theorem Tab.fsum {H : Hp} {lf : Addr} {fs : List (List Int × Addr)} {n : Nat} {ts : List Tie} {h0 : List Int} (T : Tab H lf fs fun g k => W n ts h0 k g) (s : Nat) : sumN fs (fun e => W n ts h0 s e.1) = (lay n ts h0 s).length := by
  have h := sumN_count T.nd (lay n ts h0 s) fun x hx => (T.mem x).mpr ⟨s, W_pos.mpr hx⟩
  rw [← h]
  unfold sumN
  rw [List.map_map]
  rfl
section
variable {P : Program} {w : World} {K : PySem.W.Frag} {mg : Str → Option Value} {base : Heap}
/-! ### most_stoops -/
def spMost : Sp := fun vs H Q _ => ∃ (a b c : Addr) (n : Nat) (ts : List Tie) (h0 g : List Int), vs = [.ref a, .ref b, .ref c] ∧ WebT H a n ts ∧ HtT H b h0 ∧ HtT H c g ∧ Ok n ts ∧ Hs n h0 ∧ Hs n g ∧
  ∀ H' r, Same H H' → ((∃ m, r = vn m ∧ IsMost (fun k => W n ts h0 k g) m) ∨ (r = .non ∧ ∀ k, W n ts h0 k g = 0)) → Q r H'
theorem scMost : FnScope ["web", "heights", "goal", "told"] ["web", "heights", "goal"] (defScope (topS 33)) := ⟨rfl, rfl, rfl, by decide +kernel, rfl, by decide +kernel, by decide +kernel⟩
theorem cal_most_stoops (D : DefAt K mg "most_stoops" (topS 33) ["web", "heights", "goal"]) (B : Blt mg) (c1 : Cal P w K mg base 5 "need_start" spNeedStart) (c2 : Cal P w K mg base 4 "need_heights" spNeedHeights) (c4 : Cal P w K mg base 4 "lengths_of" spLens) : Cal P w K mg base 6 "most_stoops" spMost := by
  refine cal_mk D scMost (fun vs H Q E h => ?_) (fun f cdv A outer s H vs Q E hr h => ?_)
  · obtain ⟨a, b, c, n, ts, h0, g, rfl, _⟩ := h
    rfl
  · obtain ⟨a, b, c, n, ts, h0, g, rfl, hw, hb, hc, ok, hh, hg, q⟩ := h
    have hu := hu_of hr
    have nd := scMost.nd
    refine ⟨_, pss_cons (ps_expr (pe_c c1 hr (by decide) (by rfl) (pa_cons (pv 0) (pa_cons (pv 1) pa_nil))))
      (pss_cons (ps_expr (pe_c c2 hr (by decide) (by rfl) (pa_cons (pv 0) (pa_cons (pv 2) pa_nil))))
      (pss_cons (ps_set (i := 3) nd rfl (.inl rfl) (pe_dget1 hu (pe_c c4 hr (by decide) (by rfl) (pa_cons (pv 0) (pa_cons (pv 1) pa_nil))) (pv 2) ⟨rfl, rfl, rfl, rfl⟩))
      (pss_one (ps_ret (pe_ifExp (pt_cmp (pc_notN (pv 3))) (pe_callB (cr_maxK rfl) (by rfl) B.max boot_max (pa_cons (pv 3) pa_nil)) pe_non))))), ?_⟩
    refine ⟨_, rfl, _, rfl, a, b, n, ts, h0, rfl, hw, hb, ok, hh, fun H1 s1 => ⟨_, rfl, _, rfl, a, c, n, ts, g, rfl, hw.same s1, hc.same s1, hg, fun H2 s2 => ?_⟩⟩
    have s12 := s1.trans s2
    refine ⟨_, rfl, _, rfl, a, b, n, ts, h0, rfl, hw.same s12, hb.same s12, ok, hh, fun H3 lf fs s3 nf T => ⟨lf, rfl, .inr ⟨_, .of T.at_⟩, _, rfl, _, DGet.t T.at_ (key_tup (hc.same (s12.trans s3))), ?_⟩⟩
    rw [valV_et]
    cases hd : gA fs g with
    | none =>
      refine ⟨_, rfl, _, rfl, ?_⟩
      show if (!decide (V.non = V.non)) = true then _ else _
      rw [if_neg (by simp)]
      exact q _ _ (s12.trans s3) (.inr ⟨rfl, fun k => T.none hd k⟩)
    | some d =>
      obtain ⟨kv, hdd, hkv⟩ := T.inn _ _ hd
      obtain ⟨k, hk⟩ := (T.mem g).mp (gA_mem_keys hd)
      refine ⟨_, rfl, _, rfl, ?_⟩
      show if (!decide (V.ref d = V.non)) = true then _ else _
      rw [if_pos (by simp)]
      refine ⟨_, rfl, d, _, _, rfl, hdd, ek_keys kv, hkv.ne hk, fun m hm hle => ?_⟩
      obtain ⟨j, rfl, hj⟩ := most_is hkv hm hle
      exact q _ _ (s12.trans s3) (.inl ⟨j, rfl, hj⟩)
/-! ### all_lengths -/
def spAllL : Sp := fun vs H Q _ => ∃ (a b : Addr) (n : Nat) (ts : List Tie) (h0 : List Int), vs = [.ref a, .ref b] ∧ WebT H a n ts ∧ HtT H b h0 ∧ Ok n ts ∧ Hs n h0 ∧
  ∀ H' p bs, Same H H' → H p = none → H' p = some (.tup (bs.map V.ref)) → Paired (PairT H') bs (lens fun k => W n ts h0 k (lowsM n ts h0)) → Q (.ref p) H'
theorem scAllL : FnScope ["web", "heights"] ["web", "heights"] (defScope (topS 34)) := ⟨rfl, rfl, rfl, by decide +kernel, rfl, by decide +kernel, by decide +kernel⟩
theorem cal_all_lengths (D : DefAt K mg "all_lengths" (topS 34) ["web", "heights"]) (B : Blt mg) (c1 : Cal P w K mg base 5 "need_start" spNeedStart) (c4 : Cal P w K mg base 4 "lengths_of" spLens) (c5 : Cal P w K mg base 4 "lows_of" spLows) : Cal P w K mg base 6 "all_lengths" spAllL := by
  refine cal_mk D scAllL (fun vs H Q E h => ?_) (fun f cdv A outer s H vs Q E hr h => ?_)
  · obtain ⟨a, b, n, ts, h0, rfl, _⟩ := h
    rfl
  · obtain ⟨a, b, n, ts, h0, rfl, hw, hb, ok, hh, q⟩ := h
    have hu := hu_of hr
    refine ⟨_, pss_cons (ps_expr (pe_c c1 hr (by decide) (by rfl) (pa_cons (pv 0) (pa_cons (pv 1) pa_nil))))
      (pss_one (ps_ret (pe_tupleOf (by rfl) B.tuple (pe_callB (cr_sortItK rfl (hu64 hr)) (by rfl) B.sorted boot_sorted (pa_cons
        (pe_bm0 PySem.F.plainAttrs_dict PySem.F.slot_dict_items PySem.F.type_dict_items mt_itemsK (pe_dget hu (pe_c c4 hr (by decide) (by rfl) (pa_cons (pv 0) (pa_cons (pv 1) pa_nil))) (pe_c c5 hr (by decide) (by rfl) (pa_cons (pv 0) (pa_cons (pv 1) pa_nil))) (fun _ _ => rfl))) pa_nil))))), ?_⟩
    refine ⟨_, rfl, _, rfl, a, b, n, ts, h0, rfl, hw, hb, ok, hh, fun H2 s2 => ?_⟩
    refine ⟨_, rfl, _, rfl, a, b, n, ts, h0, rfl, hw.same s2, hb.same s2, ok, hh, fun H3 lf fs s3 nf T => ?_⟩
    have s23 := s2.trans s3
    refine ⟨_, rfl, _, rfl, a, b, n, ts, h0, rfl, hw.same s23, hb.same s23, ok, hh, fun H4 g s4 ng hg => ?_⟩
    have se := s23.trans s4
    obtain ⟨dd, kv, dg, hdd, hkv⟩ := T.last ok hh s4 hg
    refine ⟨lf, _, rfl, dg, .inr (.inr (.inl ⟨rfl, .inl ⟨_, hdd⟩⟩)), dd, _, rfl, rfl, hdd, fun v nv => ?_⟩
    have sv := se.trans (same_new (o := DX.itemsO v dd) nv)
    refine ⟨v, dd, kv.map ii, rfl, upd_same, by rw [upd_ne (ne_of_none hdd nv), ← ek_entI]; exact hdd, fun H5 l ps s5 perm srt nl hl hps => ?_⟩
    have s05 := sv.trans s5
    refine .inl ⟨l, _, rfl, SqL.of hl, fun u nu => ?_⟩
    refine q _ u (ps.map (·.1)) (s05.trans (same_new nu)) (s05.free nu) (by rw [upd_same, List.map_map]; rfl) ?_
    exact pairs_same (sorted_lens perm srt hkv (fun k hk => W_big ok hh hk) hps) (same_new nu)
/-! ### longest, shortest -/
def spLongest : Sp := fun vs H Q _ => ∃ (a b : Addr) (n : Nat) (ts : List Tie) (h0 : List Int), vs = [.ref a, .ref b] ∧ WebT H a n ts ∧ HtT H b h0 ∧ Ok n ts ∧ Hs n h0 ∧
  ∀ H' m, Same H H' → IsMost (fun k => W n ts h0 k (lowsM n ts h0)) m → Q (vn m) H'
def spShortest : Sp := fun vs H Q _ => ∃ (a b : Addr) (n : Nat) (ts : List Tie) (h0 : List Int), vs = [.ref a, .ref b] ∧ WebT H a n ts ∧ HtT H b h0 ∧ Ok n ts ∧ Hs n h0 ∧
  ∀ H' m, Same H H' → IsFew (fun k => W n ts h0 k (lowsM n ts h0)) m → Q (vn m) H'
theorem scLongest : FnScope ["web", "heights"] ["web", "heights"] (defScope (topS 35)) := ⟨rfl, rfl, rfl, by decide +kernel, rfl, by decide +kernel, by decide +kernel⟩
theorem scShortest : FnScope ["web", "heights"] ["web", "heights"] (defScope (topS 36)) := ⟨rfl, rfl, rfl, by decide +kernel, rfl, by decide +kernel, by decide +kernel⟩
theorem cal_longest (D : DefAt K mg "longest" (topS 35) ["web", "heights"]) (B : Blt mg) (c1 : Cal P w K mg base 5 "need_start" spNeedStart) (c4 : Cal P w K mg base 4 "lengths_of" spLens) (c5 : Cal P w K mg base 4 "lows_of" spLows) : Cal P w K mg base 6 "longest" spLongest := by
  refine cal_mk D scLongest (fun vs H Q E h => ?_) (fun f cdv A outer s H vs Q E hr h => ?_)
  · obtain ⟨a, b, n, ts, h0, rfl, _⟩ := h
    rfl
  · obtain ⟨a, b, n, ts, h0, rfl, hw, hb, ok, hh, q⟩ := h
    have hu := hu_of hr
    refine ⟨_, pss_cons (ps_expr (pe_c c1 hr (by decide) (by rfl) (pa_cons (pv 0) (pa_cons (pv 1) pa_nil))))
      (pss_one (ps_ret (pe_callB (cr_maxK rfl) (by rfl) B.max boot_max (pa_cons
        (pe_dget hu (pe_c c4 hr (by decide) (by rfl) (pa_cons (pv 0) (pa_cons (pv 1) pa_nil))) (pe_c c5 hr (by decide) (by rfl) (pa_cons (pv 0) (pa_cons (pv 1) pa_nil))) (fun _ _ => rfl)) pa_nil)))), ?_⟩
    refine ⟨_, rfl, _, rfl, a, b, n, ts, h0, rfl, hw, hb, ok, hh, fun H2 s2 => ?_⟩
    refine ⟨_, rfl, _, rfl, a, b, n, ts, h0, rfl, hw.same s2, hb.same s2, ok, hh, fun H3 lf fs s3 nf T => ?_⟩
    have s23 := s2.trans s3
    refine ⟨_, rfl, _, rfl, a, b, n, ts, h0, rfl, hw.same s23, hb.same s23, ok, hh, fun H4 g s4 ng hg => ?_⟩
    have se := s23.trans s4
    obtain ⟨dd, kv, dg, hdd, hkv⟩ := T.last ok hh s4 hg
    obtain ⟨k, hk⟩ := reach_W.mp (lows_end ok hh).1
    refine ⟨lf, _, rfl, dg, dd, _, _, rfl, hdd, ek_keys kv, hkv.ne hk, fun m hm hle => ?_⟩
    obtain ⟨j, rfl, hj⟩ := most_is hkv hm hle
    exact q _ _ se hj
theorem cal_shortest (D : DefAt K mg "shortest" (topS 36) ["web", "heights"]) (B : Blt mg) (c1 : Cal P w K mg base 5 "need_start" spNeedStart) (c4 : Cal P w K mg base 4 "lengths_of" spLens) (c5 : Cal P w K mg base 4 "lows_of" spLows) : Cal P w K mg base 6 "shortest" spShortest := by
  refine cal_mk D scShortest (fun vs H Q E h => ?_) (fun f cdv A outer s H vs Q E hr h => ?_)
  · obtain ⟨a, b, n, ts, h0, rfl, _⟩ := h
    rfl
  · obtain ⟨a, b, n, ts, h0, rfl, hw, hb, ok, hh, q⟩ := h
    have hu := hu_of hr
    refine ⟨_, pss_cons (ps_expr (pe_c c1 hr (by decide) (by rfl) (pa_cons (pv 0) (pa_cons (pv 1) pa_nil))))
      (pss_one (ps_ret (pe_callB (cr_minK rfl) (by rfl) B.min boot_min (pa_cons
        (pe_dget hu (pe_c c4 hr (by decide) (by rfl) (pa_cons (pv 0) (pa_cons (pv 1) pa_nil))) (pe_c c5 hr (by decide) (by rfl) (pa_cons (pv 0) (pa_cons (pv 1) pa_nil))) (fun _ _ => rfl)) pa_nil)))), ?_⟩
    refine ⟨_, rfl, _, rfl, a, b, n, ts, h0, rfl, hw, hb, ok, hh, fun H2 s2 => ?_⟩
    refine ⟨_, rfl, _, rfl, a, b, n, ts, h0, rfl, hw.same s2, hb.same s2, ok, hh, fun H3 lf fs s3 nf T => ?_⟩
    have s23 := s2.trans s3
    refine ⟨_, rfl, _, rfl, a, b, n, ts, h0, rfl, hw.same s23, hb.same s23, ok, hh, fun H4 g s4 ng hg => ?_⟩
    have se := s23.trans s4
    obtain ⟨dd, kv, dg, hdd, hkv⟩ := T.last ok hh s4 hg
    obtain ⟨k, hk⟩ := reach_W.mp (lows_end ok hh).1
    refine ⟨lf, _, rfl, dg, dd, _, _, rfl, hdd, ek_keys kv, hkv.ne hk, fun m hm hle => ?_⟩
    obtain ⟨j, rfl, hj⟩ := few_is hkv hm hle
    exact q _ _ se hj
/-! ### count_chains -/
def spChains : Sp := fun vs H Q _ => ∃ (a b c : Addr) (n : Nat) (ts : List Tie) (h0 g : List Int), vs = [.ref a, .ref b, .ref c] ∧ WebT H a n ts ∧ HtT H b h0 ∧ HtT H c g ∧ Ok n ts ∧ Hs n h0 ∧ Hs n g ∧
  ∀ H', Same H H' → Q (vn (total fun k => W n ts h0 k g)) H'
theorem scChains : FnScope ["web", "heights", "goal"] ["web", "heights", "goal"] (defScope (topS 37)) := ⟨rfl, rfl, rfl, by decide +kernel, rfl, by decide +kernel, by decide +kernel⟩
theorem cal_count_chains (D : DefAt K mg "count_chains" (topS 37) ["web", "heights", "goal"]) (B : Blt mg) (c1 : Cal P w K mg base 5 "need_start" spNeedStart) (c2 : Cal P w K mg base 4 "need_heights" spNeedHeights) (c4 : Cal P w K mg base 4 "lengths_of" spLens) : Cal P w K mg base 6 "count_chains" spChains := by
  refine cal_mk D scChains (fun vs H Q E h => ?_) (fun f cdv A outer s H vs Q E hr h => ?_)
  · obtain ⟨a, b, c, n, ts, h0, g, rfl, _⟩ := h
    rfl
  · obtain ⟨a, b, c, n, ts, h0, g, rfl, hw, hb, hc, ok, hh, hg, q⟩ := h
    have hu := hu_of hr
    refine ⟨_, pss_cons (ps_expr (pe_c c1 hr (by decide) (by rfl) (pa_cons (pv 0) (pa_cons (pv 1) pa_nil))))
      (pss_cons (ps_expr (pe_c c2 hr (by decide) (by rfl) (pa_cons (pv 0) (pa_cons (pv 2) pa_nil))))
      (pss_one (ps_ret (pe_callB (cr_sumV rfl) (by rfl) B.sum boot_sum (pa_cons
        (pe_bm0 PySem.F.plainAttrs_dict PySem.F.slot_dict_values PySem.F.type_dict_values mt_valuesK (pe_dget2 hu (pe_c c4 hr (by decide) (by rfl) (pa_cons (pv 0) (pa_cons (pv 1) pa_nil))) (pv 2) pe_dnewK ⟨rfl, rfl, rfl, rfl⟩)) pa_nil))))), ?_⟩
    refine ⟨_, rfl, _, rfl, a, b, n, ts, h0, rfl, hw, hb, ok, hh, fun H1 s1 => ⟨_, rfl, _, rfl, a, c, n, ts, g, rfl, hw.same s1, hc.same s1, hg, fun H2 s2 => ?_⟩⟩
    have s12 := s1.trans s2
    refine ⟨_, rfl, _, rfl, a, b, n, ts, h0, rfl, hw.same s12, hb.same s12, ok, hh, fun H3 lf fs s3 nf T => ⟨lf, rfl, .inr ⟨_, .of T.at_⟩, _, rfl, fun e ne => ⟨_, DGet.t ((same_new ne) _ _ T.at_) (key_tup ((hc.same (s12.trans s3)).same (same_new ne))), ?_⟩⟩⟩
    obtain ⟨dd, kv, ev, hdd, hkv⟩ := T.get2 ne g
    rw [valV_et, ev]
    have se : Same H (upd H3 e (.dK [])) := (s12.trans s3).trans (same_new ne)
    refine ⟨.inr (.inr (.inl ⟨rfl, .inl ⟨_, hdd⟩⟩)), dd, _, rfl, rfl, hdd, fun v nv => ?_⟩
    refine ⟨v, dd, _, _, rfl, upd_same, by rw [upd_ne (ne_of_none hdd nv)]; exact hdd, ek_vals kv, ?_⟩
    rw [sum_cast (fun e : Nat × Nat => e.2) kv, hkv.total fun k hk => W_big ok hh hk]
    exact q _ (se.trans (same_new nv))
/-! ### rows_of_length -/
def spRowsOf : Sp := fun vs H Q _ => ∃ (a b : Addr) (n : Nat) (ts : List Tie) (h0 : List Int) (s : Nat), vs = [.ref a, .ref b, vn s] ∧ WebT H a n ts ∧ HtT H b h0 ∧ Ok n ts ∧ Hs n h0 ∧ s ≤ 60 ∧
  ∀ H', Same H H' → Q (vn (lay n ts h0 s).length) H'
theorem scRowsOf : FnScope ["web", "heights", "steps", "told"] ["web", "heights", "steps"] (defScope (topS 38)) := ⟨rfl, rfl, rfl, by decide +kernel, rfl, by decide +kernel, by decide +kernel⟩
theorem cal_rows_of_length (D : DefAt K mg "rows_of_length" (topS 38) ["web", "heights", "steps"]) (B : Blt mg) (c1 : Cal P w K mg base 5 "need_start" spNeedStart) (c3 : Cal P w K mg base 3 "need_from" spNeedFrom) (c4 : Cal P w K mg base 4 "lengths_of" spLens) : Cal P w K mg base 6 "rows_of_length" spRowsOf := by
  refine cal_mk D scRowsOf (fun vs H Q E h => ?_) (fun f cdv A outer s H vs Q E hr h => ?_)
  · obtain ⟨a, b, n, ts, h0, s, rfl, _⟩ := h
    rfl
  · obtain ⟨a, b, n, ts, h0, s, rfl, hw, hb, ok, hh, h60, q⟩ := h
    have hu := hu_of hr
    have nd := scRowsOf.nd
    obtain ⟨tm, em⟩ := B.ms
    refine ⟨_, pss_cons (ps_expr (pe_c c1 hr (by decide) (by rfl) (pa_cons (pv 0) (pa_cons (pv 1) pa_nil))))
      (pss_cons (ps_expr (pe_c c3 hr (by decide) (by rfl) (pa_cons (pv 2) (pa_cons pe_int (pa_cons (pe_glob (v := .int 60) rfl em ⟨_, rfl⟩) pa_nil)))))
      (pss_one (ps_ret (pe_callB (cr_sum rfl) (by rfl) B.sum boot_sum (pa_cons
        (pe_lc (own := [("told", 3)]) (g := gName 3) (tt := tYes) (by rfl) nd (pi_valuesT (pe_c c4 hr (by decide) (by rfl) (pa_cons (pv 0) (pa_cons (pv 1) pa_nil)))) (blkOk_by (own := [("told", 3)]) (N := ["web", "heights", "steps", "told"]) (sc := defScope (topS 38)) (by decide +kernel))
          (fun _ _ _ _ _ => pg_name (i := 3) nd rfl (Or.inl rfl)) (fun _ _ _ _ _ => pts_nil) (fun _ _ _ _ _ => pe_dget2 hu (pv 3) (pv 2) pe_int ⟨rfl, rfl, rfl, rfl⟩)) pa_nil))))), ?_⟩
    refine ⟨_, rfl, _, rfl, a, b, n, ts, h0, rfl, hw, hb, ok, hh, fun H2 s2 => ⟨_, rfl, s, 0, 60, rfl, by omega, by omega, ?_⟩⟩
    refine ⟨_, rfl, _, rfl, a, b, n, ts, h0, rfl, hw.same s2, hb.same s2, ok, hh, fun H3 lf fs s3 nf T => ⟨lf, et fs, rfl, T.at_, fun o => fun D nD => ?_⟩⟩
    have s23 := s2.trans s3
    have sF : Same H (upd H3 lf (.frz o (.dT (et fs)))) := s23.upd_new (s2.free nf)
    have nfD : lf ≠ D := ne_of_none upd_same nD
    have nDH : H D = none := sF.free nD
    have inn : ∀ e ∈ fs, InnT (upd H3 lf (.frz o (.dT (et fs)))) e.2 fun k => W n ts h0 k e.1 := fun e he => by
      obtain ⟨kv, h1, h2⟩ := T.inn e.1 e.2 (gA_of_mem T.nd he)
      exact ⟨kv, by rw [upd_ne (ne_of h1 T.at_ fun z => nomatch z)]; exact h1, h2⟩
    refine lc_it (walk_valuesT (d := lf) (o := o) (kvs := et fs)) (fun j H' => Same H H' ∧ H' lf = some (.frz o (.dT (et fs))) ∧ (∀ e ∈ fs, InnT H' e.2 fun k => W n ts h0 k e.1) ∧ H' D = some (.lst (((fs.take j).map fun e => (W n ts h0 s e.1 : Int)).map V.int)))
      ⟨sF.trans (same_new nD), by rw [upd_ne nfD]; exact upd_same, fun e he => (inn e he).same (same_new nD), upd_same⟩ (fun j H' _ z => z.2.1) ?_ ?_
    · rintro j x H6 H7 hj ⟨s6, f6, i6, d6⟩ ⟨rfl, kk', ex⟩
      unfold et at ex
      rw [List.getElem?_map] at ex
      obtain ⟨e, he, ex⟩ := Option.map_eq_some_iff.mp ex
      cases ex
      obtain ⟨kv, h1, h2⟩ := i6 e (List.mem_of_getElem? he)
      refine ⟨rfl, tYes_of ?_⟩
      refine ⟨_, rfl, e.2, rfl, .inl ⟨_, .of h1⟩, _, rfl, _, DGet.k (k := kn s) h1, ?_⟩
      rw [valV_ek, getD_vn, h2.getD]
      refine ⟨_, d6, ?_, ?_⟩
      · rw [List.length_map, List.length_map, List.length_take]
        have h := few_hs (n := n) ok.n4 T.nd fun g hg => by
          obtain ⟨k, hk⟩ := (T.mem g).mp hg
          exact (lay_hs ok hh k g (W_pos.mp hk)).1
        rw [List.length_map] at h
        exact smallL (m := 1296) (by omega)
      · refine ⟨s6.upd_new nDH, by rw [upd_ne nfD]; exact f6, fun e' he' => ?_, ?_⟩
        · obtain ⟨kv', g1, g2⟩ := i6 e' he'
          exact ⟨kv', by rw [upd_ne (ne_of g1 d6 fun z => nomatch z)]; exact g1, g2⟩
        · rw [upd_same, List.take_add_one, he, List.map_append, List.map_append]
          rfl
    · rintro H6 ⟨s6, f6, i6, d6⟩
      rw [et_len, List.take_length] at d6
      refine ⟨D, _, rfl, SqL.of d6, ?_⟩
      rw [sum_cast (fun e : List Int × Addr => W n ts h0 s e.1) fs, T.fsum]
      exact q _ s6
end
end Sto

/-! part KD13 -/
set_option Elab.async false
set_option linter.all false
set_option maxRecDepth 100000
set_option maxHeartbeats 4000000
namespace Sto
open PySem PySem.Spec PyProof.Rows L2 StX
/-! ### the law's own table -/
def cut (t : Nat) (f : Nat → Nat) : Nat → Nat := fun j => if j < t then f j else 0
theorem cut_pos {t : Nat} {f : Nat → Nat} {k : Nat} (h : cut t f k ≠ 0) : f k ≠ 0 := fun z => h (by unfold cut; rw [z]; exact ite_self 0)
def eu (es : List (List Int × Nat)) : List (List Key × V) := es.map fun e => (key e.1, vn e.2)
theorem eu_len (es : List (List Int × Nat)) : (eu es).length = es.length := List.length_map ..
theorem valV_eu (es : List (List Int × Nat)) (g : List Int) : valV (eu es) (key g) = (gA es g).map vn := find_enc (kf := key) key_inj vn es g
theorem putK_eu (es : List (List Int × Nat)) (g : List Int) (v : Nat) : putK (eu es) (key g) (vn v) = eu (pA es g v) := by
  unfold putK pA
  rw [show ((eu es).any fun e => decide (e.1 = key g)) = es.any fun e => decide (e.1 = g) from any_enc (kf := key) key_inj vn es g]
  by_cases c : (es.any fun e => decide (e.1 = g)) = true
  · rw [if_pos c, if_pos c]
    exact map_enc (kf := key) key_inj vn es g v
  · rw [if_neg c, if_neg c]
    unfold eu
    rw [List.map_append]
    rfl
theorem paired_pre {α β γ : Type} {F : α → β → Prop} {f : γ → α} : ∀ {l : List γ} {bs : List β}, Paired F (l.map f) bs → Paired (fun x b => F (f x) b) l bs
  | [], _, .nil => .nil
  | _ :: _, _, .cons r t => .cons r (paired_pre t)
theorem paired_imp {α β : Type} {F G : α → β → Prop} (h : ∀ a b, F a b → G a b) : ∀ {l : List α} {bs : List β}, Paired F l bs → Paired G l bs
  | _, _, .nil => .nil
  | _, _, .cons r t => .cons (h _ _ r) (paired_imp h t)
def grow (n : Nat) (ts : List Tie) (es : List (List Int × Nat)) (g : List Int) : Nat := sumN es fun e => e.2 * (nexts n ts e.1).count g
def growM (n : Nat) (ts : List Tie) (es : List (List Int × Nat)) (now : List Int) (c j : Nat) (g : List Int) : Nat := grow n ts es g + c * (((stp n ts now).take j).map (aft now)).count g
section
variable {n : Nat} {ts : List Tie} {h0 : List Int}
theorem growM_zero (es : List (List Int × Nat)) (now : List Int) (c : Nat) (g : List Int) : growM n ts es now c 0 g = grow n ts es g := by
  unfold growM
  rw [List.take_zero]
  simp
theorem growM_end (es : List (List Int × Nat)) (now : List Int) (c : Nat) (g : List Int) : growM n ts es now c (stp n ts now).length g = grow n ts (es ++ [(now, c)]) g := by
  unfold growM grow
  rw [List.take_length, sumN_append, sumN_cons, sumN_nil, Nat.add_zero]
  rfl
theorem growM_step (es : List (List Int × Nat)) (now : List Int) (c : Nat) (g : List Int) {j : Nat} {s : Nat × Nat} (hj : (stp n ts now)[j]? = some s) :
    growM n ts es now c (j + 1) g = if g = aft now s then growM n ts es now c j g + c else growM n ts es now c j g := by
  have e : (((stp n ts now).take (j + 1)).map (aft now)).count g = (((stp n ts now).take j).map (aft now)).count g + if g = aft now s then 1 else 0 := by
    rw [List.take_add_one, hj, List.map_append, List.count_append]
    congr 1
    show List.count g [aft now s] = _
    rw [List.count_singleton]
    by_cases z : g = aft now s
    · rw [if_pos z, if_pos (by simp [z])]
    · rw [if_neg z, if_neg (by simp; exact fun y => z y.symm)]
  unfold growM
  rw [e]
  by_cases z : g = aft now s
  · rw [if_pos z, if_pos z, Nat.mul_add, Nat.mul_one, Nat.add_assoc]
  · rw [if_neg z, if_neg z, Nat.add_zero]
theorem growM_pos {t : Nat} {es fs : List (List Int × Nat)} (he : IsG es fun g => W n ts h0 t g) (hs : ∀ e ∈ fs, e ∈ es) {now : List Int} {c j : Nat} (hn : now ∈ lay n ts h0 t) {g : List Int} (h : growM n ts fs now c j g ≠ 0) : g ∈ lay n ts h0 (t + 1) := by
  by_cases z : grow n ts fs g = 0
  · unfold growM at h
    rw [z, Nat.zero_add] at h
    have z2 : (((stp n ts now).take j).map (aft now)).count g ≠ 0 := fun y => h (by rw [y, Nat.mul_zero])
    have z3 : g ∈ ((stp n ts now).take j).map (aft now) := List.count_pos_iff.mp (by omega)
    obtain ⟨s, hs, e⟩ := List.mem_map.mp z3
    exact List.mem_flatMap.mpr ⟨now, hn, List.mem_map.mpr ⟨s, List.mem_of_mem_take hs, e⟩⟩
  · obtain ⟨e, h1, h2⟩ := sumN_pos z
    have z2 : (nexts n ts e.1).count g ≠ 0 := fun y => h2 (by rw [y, Nat.mul_zero])
    exact List.mem_flatMap.mpr ⟨e.1, W_pos.mp (he.val (hs e h1)).2, List.count_pos_iff.mp (by omega)⟩
theorem grow_W {t : Nat} {es : List (List Int × Nat)} (he : IsG es fun g => W n ts h0 t g) (g : List Int) : grow n ts es g = W n ts h0 (t + 1) g := by
  rw [W_succ he.nd (fun x hx => he.mem.mpr (W_pos.mpr hx)) g]
  unfold grow
  have e : sumN es (fun e => e.2 * (nexts n ts e.1).count g) = sumN es fun e => W n ts h0 t e.1 * (nexts n ts e.1).count g := sumN_congr fun e h => by rw [(he.val h).1]
  rw [e]
  unfold sumN
  rw [List.map_map]
  rfl
theorem root_W : IsG [(h0, 1)] fun g => W n ts h0 0 g := by
  refine ⟨by simp, fun g => ?_⟩
  rw [gA_cons, gA_nil, W_zero]
  by_cases c : h0 = g
  · rw [if_pos c, if_pos c]
    rfl
  · rw [if_neg c, if_neg c]
    rfl
theorem IsG.few {t : Nat} {es : List (List Int × Nat)} {G : List Int → Nat} (ok : Ok n ts) (hh : Hs n h0) (he : IsG es G) (h : ∀ g, G g ≠ 0 → g ∈ lay n ts h0 t) : es.length ≤ 1296 := by
  have h := few_hs (n := n) ok.n4 he.nd fun g hg => (lay_hs ok hh t g (h g (he.mem.mp hg))).1
  rw [List.length_map] at h
  exact h
/-- so far: of the keys told already one more -/
def sofar (n : Nat) (ts : List Tie) (h0 : List Int) (t : Nat) (ks : List (List Int)) (g : List Int) : Nat → Nat := if g ∈ ks then cut (t + 1) (fun j => W n ts h0 j g) else cut t fun j => W n ts h0 j g
theorem sofar_pos {t : Nat} {ks : List (List Int)} {g : List Int} {k : Nat} (h : sofar n ts h0 t ks g k ≠ 0) : W n ts h0 k g ≠ 0 := by
  unfold sofar at h
  by_cases c : g ∈ ks
  · rw [if_pos c] at h
    exact cut_pos (f := fun j => W n ts h0 j g) h
  · rw [if_neg c] at h
    exact cut_pos (f := fun j => W n ts h0 j g) h
theorem sofar_nil (t : Nat) (g : List Int) : sofar n ts h0 t [] g = cut t fun j => W n ts h0 j g := if_neg (fun z => nomatch z)
theorem sofar_snoc {t : Nat} {ks : List (List Int)} {now : List Int} (hn : now ∉ ks) (g : List Int) (k : Nat) :
    (if g = now then (fun j => if j = t then sofar n ts h0 t ks now j + W n ts h0 t now else sofar n ts h0 t ks now j) else sofar n ts h0 t ks g) k = sofar n ts h0 t (ks ++ [now]) g k := by
  by_cases c : g = now
  · subst c
    rw [if_pos rfl]
    unfold sofar cut
    rw [if_neg hn, if_pos (List.mem_append_right _ (List.mem_singleton.mpr rfl))]
    show (if k = t then (if k < t then W n ts h0 k g else 0) + W n ts h0 t g else (if k < t then W n ts h0 k g else 0)) = if k < t + 1 then W n ts h0 k g else 0
    by_cases e : k = t
    · subst e
      rw [if_pos rfl, if_neg (Nat.lt_irrefl _), if_pos (Nat.lt_succ_self _), Nat.zero_add]
    · rw [if_neg e]
      by_cases l : k < t
      · rw [if_pos l, if_pos (by omega)]
      · rw [if_neg l, if_neg (by omega)]
  · rw [if_neg c]
    unfold sofar
    have e : g ∈ ks ++ [now] ↔ g ∈ ks := by
      rw [List.mem_append, List.mem_singleton]
      exact ⟨fun z => z.resolve_right c, .inl⟩
    by_cases m : g ∈ ks
    · rw [if_pos m, if_pos (e.mpr m)]
    · rw [if_neg m, if_neg fun z => m (e.mp z)]
theorem sofar_end {t : Nat} {es : List (List Int × Nat)} (he : IsG es fun g => W n ts h0 t g) (g : List Int) (k : Nat) : sofar n ts h0 t (es.map (·.1)) g k = cut (t + 1) (fun j => W n ts h0 j g) k := by
  unfold sofar
  by_cases m : g ∈ es.map (·.1)
  · rw [if_pos m]
  · rw [if_neg m]
    have z : W n ts h0 t g = 0 := Classical.byContradiction fun z => m (he.mem.mpr z)
    unfold cut
    by_cases l : k < t
    · rw [if_pos l, if_pos (by omega)]
    · rw [if_neg l]
      by_cases e : k = t
      · rw [e, if_pos (Nat.lt_succ_self _)]
        exact z.symm
      · rw [if_neg (by omega)]
theorem cut_all (t : Nat) (h : lay n ts h0 t = []) (g : List Int) (k : Nat) : cut t (fun j => W n ts h0 j g) k = W n ts h0 k g := by
  unfold cut
  by_cases l : k < t
  · rw [if_pos l]
  · rw [if_neg l]
    unfold W
    rw [lay_gone h k (by omega)]
    rfl
end
theorem Tab.start {H : Hp} {lf : Addr} {n : Nat} {ts : List Tie} {h0 : List Int} (h : H lf = some (.dT [])) : Tab H lf [] fun g => cut 0 fun j => W n ts h0 j g := by
  refine ⟨h, .nil, fun g => ⟨fun z => (nomatch z), fun ⟨k, z⟩ => (z (if_neg (Nat.not_lt_zero _))).elim⟩, fun g d z => (nomatch z)⟩
section
variable {P : Program} {w : World} {K : PySem.W.Frag} {mg : Str → Option Value} {base : Heap}
theorem scLLen : FnScope ["_law_web_here", "_law_heights_here", "_law_found", "_law_edge", "_law_steps", "_law_later", "_law_now", "_law_told", "_law_pair", "_law_new"] ["_law_web_here", "_law_heights_here"] (defScope (topS 50)) := ⟨rfl, rfl, rfl, by decide +kernel, rfl, by decide +kernel, by decide +kernel⟩
theorem cal_law_lengths (D : DefAt K mg "_law_lengths" (topS 50) ["_law_web_here", "_law_heights_here"]) (B : Blt mg) (c1 : Cal P w K mg base 2 "_law_stoops" spStoops) (c2 : Cal P w K mg base 1 "_law_after" spLAfter) : Cal P w K mg base 3 "_law_lengths" spLens := by
  refine cal_mk D scLLen (fun vs H Q E h => ?_) (fun f cdv A outer s H vs Q E hr h => ?_)
  · obtain ⟨a, b, n, ts, h0, rfl, _⟩ := h
    rfl
  · obtain ⟨a, b, n, ts, h0, rfl, hw, hb, ok, hh, q⟩ := h
    have nd := scLLen.nd
    have hu := hu_of hr
    refine ⟨_, pss_cons (ps_par3 (i := 2) (j := 3) (l := 4) rfl nd rfl rfl rfl (by decide) (by decide) (by decide) rfl rfl rfl (pa_cons pe_dnewT (pa_cons (pe_dispT (hu0 hr) (pv 1) pe_int) (pa_cons pe_int pa_nil))) (by rfl))
      (pss_cons (ps_while PassesOwn.never (pt_cmpR (op_neT0 (hu0 hr)) (pv 3) pe_dnewT (nomark _))
        (pss_cons (ps_set (i := 5) nd rfl (.inl rfl) pe_dnewT)
        (pss_cons (ps_for PassesOwn.never rfl (pi_list (pe_callTy (call_list_dT rfl) (by rfl) B.list boot_list (pa_cons (pv 3) pa_nil))) (pg_name (i := 6) nd rfl (.inl rfl))
          (pss_cons (ps_set (i := 7) nd rfl (.inl rfl) (pe_callTy call_dictD (by rfl) B.dict boot_dict (pa_cons (pe_dget2 hu (pv 2) (pv 6) pe_dnewK ⟨rfl, rfl, rfl, rfl⟩) pa_nil)))
          (pss_cons (ps_dput hu (pv 7) (pv 4) (pe_dget hu (pv 3) (pv 6) (fun _ _ => rfl)) rfl)
          (pss_cons (ps_dput hu (pv 2) (pv 6) (pv 7) rfl)
          (pss_one (ps_for PassesOwn.never rfl (pi_list (pe_c c1 hr (by decide) (by rfl) (pa_cons (pv 0) (pa_cons (pv 6) pa_nil)))) (pg_name (i := 8) nd rfl (.inl rfl))
            (pss_cons (ps_set (i := 9) nd rfl (.inl rfl) (pe_c c2 hr (by decide) (by rfl) (pa_cons (pv 6) (pa_cons (pv 8) pa_nil))))
            (pss_one (ps_dput hu (pv 5) (pv 9) (pe_op op_add (pe_dget2 hu (pv 5) (pv 9) pe_int ⟨rfl, rfl, rfl, rfl⟩) (pe_dget hu (pv 3) (pv 6) (fun _ _ => rfl))) rfl)))))))))
        (pss_one (ps_par (i := 3) (j := 4) rfl nd rfl rfl (by decide) rfl rfl (pa_cons (pv 5) (pa_cons (pe_op op_add (pv 4) pe_int) pa_nil)) (by rfl))))))
      (pss_one (ps_ret (pv 2)))), ?_⟩
    intro lf nf le ne
    have sf := same_new (o := .dT []) nf
    refine ⟨_, rfl, upd_same, _, b, key h0, rfl, key_tup (hb.same (sf.trans (same_new ne))), ?_⟩
    rw [upd_upd]
    have nfe : lf ≠ le := ne_of_none upd_same ne
    have ne0 : H le = none := sf.free ne
    have s0 : Same H (upd (upd H lf (.dT [])) le (.dT [(key h0, vn 1)])) := sf.trans (same_new ne)
    refine ⟨_, _, _, rfl, ?_⟩
    refine ⟨fun m σ H' => ∃ t le es fs y5 y6 y7 y8 y9, m = 21 - t ∧ t ≤ 21 ∧ Same H H' ∧ lf ≠ le ∧ H le = none ∧ H' le = some (.dT (eu es)) ∧ IsG es (fun g => W n ts h0 t g) ∧ Tab H' lf fs (fun g => cut t fun j => W n ts h0 j g) ∧
        σ = [some (.ref a), some (.ref b), some (.ref lf), some (.ref le), some (vn t), y5, y6, y7, y8, y9],
      ⟨21, 0, le, [(h0, 1)], [], none, none, none, none, none, rfl, by decide, s0, nfe, ne0, upd_same, root_W, .start (by rw [upd_ne nfe]; exact upd_same), rfl⟩, ?_⟩
    clear s0 nfe ne0 ne
    rintro m σ H1 ⟨t, le, es, fs, y5, y6, y7, y8, y9, rfl, t21, s1, nfe, ne0, he, ge, T1, rfl⟩
    refine ⟨_, rfl, fun u nu => ?_⟩
    have su := same_new (o := .dT []) nu
    refine ⟨le, u, _, rfl, rfl, su _ _ he, upd_same, _, rfl, ?_⟩
    rw [eu_len]
    by_cases ee : es = []
    · subst ee
      refine iteF ⟨_, rfl, q _ lf fs (s1.trans su) nf ((T1.same su).congr fun g k => cut_all t ?_ g k)⟩
      refine Classical.byContradiction fun z => ?_
      obtain ⟨g, hg⟩ := List.exists_mem_of_ne_nil _ z
      exact nomatch ge.mem.mpr (W_pos.mpr hg)
    · have el : (!(es.length == 0)) = true := by
        cases es with
        | nil => exact (ee rfl).elim
        | cons _ _ => rfl
      rw [el]
      have t20 : t ≤ 20 := by
        obtain ⟨e, h⟩ := List.exists_mem_of_ne_nil _ ee
        exact W_big ok hh (ge.val h).2
      have few : es.length ≤ 1296 := ge.few ok hh (t := t) fun g hg => W_pos.mp hg
      refine iteT ⟨fun σ' H' => ∃ le es fs y5 y6 y7 y8 y9, Same H H' ∧ lf ≠ le ∧ H le = none ∧ H' le = some (.dT (eu es)) ∧ IsG es (fun g => W n ts h0 (t + 1) g) ∧ Tab H' lf fs (fun g => cut (t + 1) fun j => W n ts h0 j g) ∧
          σ' = [some (.ref a), some (.ref b), some (.ref lf), some (.ref le), some (vn (t + 1)), y5, y6, y7, y8, y9],
        fun σ' H' ⟨le, es, fs, y5, y6, y7, y8, y9, z⟩ => ⟨21 - (t + 1), by omega, t + 1, le, es, fs, y5, y6, y7, y8, y9, rfl, by omega, z⟩, ?_⟩
      -- later = {}
      intro ll nll
      have sl := same_new (o := .dT []) nll
      have s1l := (s1.trans su).trans sl
      have nl0 : H ll = none := (s1.trans su).free nll
      have nel : le ≠ ll := ne_of_none (su _ _ he) nll
      have nfl : lf ≠ ll := ne_of_none (su _ _ T1.at_) nll
      refine ⟨_, rfl, le, eu es, rfl, .of (sl _ _ (su _ _ he)), fun p bs np hks => ⟨p, rfl, ⟨_, SqL.of upd_same⟩, ?_⟩⟩
      have sp := same_new (o := .lst (bs.map V.ref)) np
      have hks : Paired (fun (e : List Int × Nat) b => HtT (upd (upd (upd H1 u (.dT [])) ll (.dT [])) p (.lst (bs.map V.ref))) b e.1) es bs := paired_imp (fun e b h => by
        have h : upd (upd H1 u (.dT [])) ll (.dT []) b = some (.tup ((key e.1).map kV)) := h
        rw [show (key e.1).map kV = e.1.map V.int from kv_ints e.1] at h
        exact sp _ _ h) (paired_pre hks)
      refine for_it (walk_list (K := K) (a := p) (xs := bs.map V.ref)) (fun i σ H' => Same H H' ∧ H' p = some (.lst (bs.map V.ref)) ∧ Paired (fun (e : List Int × Nat) b => HtT H' b e.1) es bs ∧ H' le = some (.dT (eu es)) ∧
          (∃ ls, H' ll = some (.dT (eu ls)) ∧ IsG ls (grow n ts (es.take i))) ∧ (∃ fs, Tab H' lf fs (sofar n ts h0 t ((es.take i).map (·.1)))) ∧
          ∃ y6 y7 y8 y9, σ = [some (.ref a), some (.ref b), some (.ref lf), some (.ref le), some (vn t), some (.ref ll), y6, y7, y8, y9])
        ⟨s1l.trans sp, upd_same, hks, sp _ _ (sl _ _ (su _ _ he)), ⟨[], sp _ _ upd_same, IsG.nil⟩, ⟨fs, ((T1.same su).same sl).same sp⟩, _, _, _, _, rfl⟩ (fun i σ H' _ z => SqL.of z.2.1) ?_ ?_
      · rintro i x σ H2 H3 hi ⟨s2, p2, b2, e2, ⟨ls, l2, g2⟩, ⟨fs2, T2⟩, y6, y7, y8, y9, rfl⟩ ⟨rfl, ex⟩
        obtain ⟨nb', hnb, rfl⟩ := ref_at ex
        obtain ⟨⟨now, c⟩, hei, hnow⟩ := paired_at b2 hnb
        have hnow : HtT H3 nb' now := hnow
        have hem : (now, c) ∈ es := List.mem_of_getElem? hei
        obtain ⟨hc, hc0⟩ := ge.val hem
        have hc : c = W n ts h0 t now := hc
        have hc0 : W n ts h0 t now ≠ 0 := hc0
        have hlay : now ∈ lay n ts h0 t := W_pos.mp hc0
        have hhn := (lay_hs ok hh t now hlay).1
        have tk : es.take (i + 1) = es.take i ++ [(now, c)] := by rw [List.take_add_one, hei]; rfl
        have hnk : now ∉ (es.take i).map (·.1) := by
          have nd2 : ((es.take (i + 1)).map (·.1)).Nodup := by
            rw [List.map_take]
            exact ge.nd.sublist (List.take_sublist _ _)
          rw [tk, List.map_append] at nd2
          exact fun z => (List.nodup_append.mp nd2).2.2 now z now (List.mem_singleton.mpr rfl) rfl
        -- told = dict(found.get(now, {}))
        refine ⟨_, rfl, lf, rfl, .inr ⟨_, .of T2.at_⟩, _, rfl, fun e ne => ⟨_, DGet.t ((same_new ne) _ _ T2.at_) (key_tup (hnow.same (same_new ne))), ?_⟩⟩
        obtain ⟨dd, kv, ev, hdd, hkv⟩ := T2.get2 ne now
        rw [valV_et, ev]
        refine ⟨dd, ek kv, rfl, .of hdd, fun kd nkd => ?_⟩
        have sk : Same H3 (upd (upd H3 e (.dK [])) kd (.dK (ek kv))) := (same_new ne).trans (same_new nkd)
        have nk3 : H3 kd = none := (same_new ne).free nkd
        have h21 := hkv.len fun k hk => W_big ok hh (sofar_pos hk)
        have dg : DGet (upd (upd H3 e (.dK [])) kd (.dK (ek kv))) le (.ref nb') (some (vn c)) := by
          have h := DGet.t (sk _ _ e2) (key_tup (hnow.same sk))
          rw [valV_eu, gA_of_mem ge.nd (k := now) (v := c) hem] at h
          exact h
        refine ⟨_, rfl, _, rfl, le, _, rfl, dg, _, rfl, _, rfl, kd, _, rfl, DPut.k (k := kn t) upd_same (by rw [ek_len]; exact smallL h21), ?_⟩
        rw [putK_ek, upd_upd]
        have skd : Same H3 (upd (upd H3 e (.dK [])) kd (.dK (ek (pA kv t c)))) := (same_new ne).trans (same_new nkd)
        have T4 := T2.same skd
        have z0 : sofar n ts h0 t ((es.take i).map (·.1)) now t = 0 := by
          unfold sofar cut
          rw [if_neg hnk]
          exact if_neg (Nat.lt_irrefl _)
        have gk : IsG (pA kv t c) fun j => if j = t then sofar n ts h0 t ((es.take i).map (·.1)) now j + W n ts h0 t now else sofar n ts h0 t ((es.take i).map (·.1)) now j := by
          have h := hkv.add t hc0
          rw [z0, Nat.zero_add, ← hc] at h
          rw [← hc]
          exact h
        have hfew : fs2.length ≤ 1296 := by
          have h := few_hs (n := n) ok.n4 T4.nd fun g hg => by
            obtain ⟨k, hk⟩ := (T4.mem g).mp hg
            exact (lay_hs ok hh k g (W_pos.mp (sofar_pos hk))).1
          rw [List.length_map] at h
          exact h
        have T5 := T4.put (g := now) ⟨_, upd_same, gk⟩ ⟨t, by
          show (if t = t then _ else _) ≠ 0
          rw [if_pos rfl]
          omega⟩
        refine ⟨_, rfl, _, rfl, _, rfl, lf, _, rfl, DPut.t T4.at_ (key_tup (hnow.same skd)) (by rw [et_len]; exact smallL hfew), ?_⟩
        rw [putK_et]
        have tp : Tups H3 (upd (upd (upd H3 e (.dK [])) kd (.dK (ek (pA kv t c)))) lf (.dT (et (pA fs2 now kd)))) := (Tups.of skd).trans (.put T4.at_)
        have s5 : Same H (upd (upd (upd H3 e (.dK [])) kd (.dK (ek (pA kv t c)))) lf (.dT (et (pA fs2 now kd)))) := (s2.trans skd).upd_new nf
        have keep : ∀ x o, x ≠ lf → H3 x = some o → upd (upd (upd H3 e (.dK [])) kd (.dK (ek (pA kv t c)))) lf (.dT (et (pA fs2 now kd))) x = some o := fun x o hx h => by
          rw [upd_ne hx]
          exact skd _ _ h
        have T5 := T5.congr fun g k => sofar_snoc hnk g k
        rw [show (es.take i).map (·.1) ++ [now] = (es.take (i + 1)).map (·.1) by rw [tk, List.map_append]; rfl] at T5
        generalize upd (upd (upd H3 e (.dK [])) kd (.dK (ek (pA kv t c)))) lf (.dT (et (pA fs2 now kd))) = H5 at tp s5 keep T5 ⊢
        have p5 := keep p _ (ne_of p2 T2.at_ fun z => nomatch z) p2
        have e5 := keep le _ nfe.symm e2
        have l5 := keep ll _ nfl.symm l2
        -- the stoops
        refine ⟨_, rfl, _, rfl, a, nb', n, ts, now, rfl, hw.same s5, hnow.tups tp, ok, hhn.len, fun H6 pq pbs s6 npq hpq hpp => ?_⟩
        have tp6 : Tups H3 H6 := tp.trans (.of s6)
        refine ⟨pq, rfl, ⟨_, SqL.of hpq⟩, for_it (walk_list (K := K) (a := pq) (xs := pbs.map V.ref)) (fun j σ' H' => Same H H' ∧ H' p = some (.lst (bs.map V.ref)) ∧ Tups H3 H' ∧ H' le = some (.dT (eu es)) ∧
            (∃ ls, H' ll = some (.dT (eu ls)) ∧ IsG ls (growM n ts (es.take i) now c j)) ∧ (∃ fs, Tab H' lf fs (sofar n ts h0 t ((es.take (i + 1)).map (·.1)))) ∧ H' pq = some (.lst (pbs.map V.ref)) ∧ Paired (PairT H') pbs (stp n ts now) ∧
            ∃ y8 y9, σ' = [some (.ref a), some (.ref b), some (.ref lf), some (.ref le), some (vn t), some (.ref ll), some (.ref nb'), some (.ref kd), y8, y9])
          ⟨s5.trans s6, s6 _ _ p5, tp6, s6 _ _ e5, ⟨ls, s6 _ _ l5, g2.congr fun g => (growM_zero _ _ _ _).symm⟩, ⟨_, T5.same s6⟩, hpq, hpp, _, _, rfl⟩ (fun j σ' H' _ z => SqL.of z.2.2.2.2.2.2.1) ?_ ?_⟩
        · rintro j x σ' H7 H8 hj ⟨s7, p7, tp7, e7, ⟨ls7, l7, g7⟩, ⟨fs7, T7⟩, q7, pp7, y8, y9, rfl⟩ ⟨rfl, ex⟩
          obtain ⟨tb, htb, rfl⟩ := ref_at ex
          obtain ⟨st, hst, htt⟩ := paired_at' pp7 htb
          have hsm : st ∈ stp n ts now := List.mem_of_getElem? hst
          obtain ⟨m1, m2, m3⟩ := mem_stp.mp hsm
          have mo := (ok.nb_lt m2).1
          refine ⟨_, rfl, _, rfl, nb', tb, now, st, rfl, hnow.tups tp7, htt, by rw [hhn.len]; exact m1, by rw [hhn.len]; exact mo, by rw [hhn.len]; exact ok.n4, fun H9 v s9 nv hv => ?_⟩
          have l9 := s9 _ _ l7
          have e9 := s9 _ _ e7
          have dg9 : DGet H9 le (.ref nb') (some (vn c)) := by
            have h := DGet.t e9 (key_tup ((hnow.tups tp7).same s9))
            rw [valV_eu, gA_of_mem ge.nd (k := now) (v := c) hem] at h
            exact h
          refine ⟨_, rfl, ll, rfl, .inr ⟨_, .of l9⟩, _, rfl, _, DGet.t l9 (key_tup hv), ?_⟩
          rw [valV_eu, getD_vn, g7.getD]
          have l96 : ls7.length ≤ 1296 := g7.few ok hh (t := t + 1) fun g hg => growM_pos ge (fun e he => List.mem_of_mem_take he) hlay hg
          have hput : DPut H9 ll (.ref v) (V.int (((growM n ts (es.take i) now c j (aft now st) : Nat) : Int) + (c : Int))) (upd H9 ll (.dT (eu (pA ls7 (aft now st) (growM n ts (es.take i) now c j (aft now st) + c))))) := by
            have h := DPut.t (v := vn (growM n ts (es.take i) now c j (aft now st) + c)) l9 (key_tup hv) (by rw [eu_len]; exact smallL l96)
            rw [putK_eu] at h
            exact h
          refine ⟨_, rfl, _, rfl, le, _, rfl, dg9, _, _, rfl, rfl, _, rfl, _, rfl, ll, _, rfl, hput, ?_⟩
          have tp9 : Tups H8 (upd H9 ll (.dT (eu (pA ls7 (aft now st) (growM n ts (es.take i) now c j (aft now st) + c))))) := (Tups.of s9).trans (.put l9)
          refine ⟨(s7.trans s9).upd_new nl0, ?_, tp7.trans tp9, ?_, ⟨_, upd_same, (g7.add (aft now st) (u := c) (by omega)).congr fun g => (growM_step _ _ _ _ hst).symm⟩, ⟨fs7, ?_⟩, ?_, pairs_tups pp7 tp9, _, _, rfl⟩
          · rw [upd_ne (ne_of (s9 _ _ p7) l9 fun z => nomatch z)]
            exact s9 _ _ p7
          · rw [upd_ne nel]
            exact e9
          · have T9 := T7.same s9
            refine ⟨by rw [upd_ne nfl]; exact T9.at_, T9.nd, T9.mem, fun g d hd => ?_⟩
            obtain ⟨kv', h1, h2⟩ := T9.inn g d hd
            exact ⟨kv', by rw [upd_ne (ne_of h1 l9 fun z => nomatch z)]; exact h1, h2⟩
          · rw [upd_ne (ne_of (s9 _ _ q7) l9 fun z => nomatch z)]
            exact s9 _ _ q7
        · rintro σ' H7 ⟨s7, p7, tp7, e7, ⟨ls7, l7, g7⟩, ⟨fs7, T7⟩, q7, pp7, y8, y9, rfl⟩
          refine ⟨s7, p7, paired_imp (fun e b h => tp7 _ _ h) b2, e7, ⟨ls7, l7, g7.congr fun g => ?_⟩, ⟨fs7, T7⟩, _, _, _, _, rfl⟩
          rw [List.length_map, Paired.length hpp, growM_end, ← tk]
      · rintro σ H2 ⟨s2, p2, b2, e2, ⟨ls, l2, g2⟩, ⟨fs2, T2⟩, y6, y7, y8, y9, rfl⟩
        have hbl : (bs.map V.ref).length = es.length := by rw [List.length_map]; exact (Paired.length hks).symm
        rw [hbl, List.take_length] at g2
        rw [hbl, List.take_length] at T2
        refine ⟨_, rfl, _, rfl, _, _, rfl, rfl, _, _, rfl, ?_⟩
        exact ⟨ll, ls, fs2, _, _, _, _, _, s2, nfl, nl0, l2, g2.congr fun g => grow_W ge g, T2.congr fun g k => sofar_end ge g k, rfl⟩
end
end Sto

/-! part KD14 -/
set_option Elab.async false
set_option linter.all false
set_option maxRecDepth 100000
set_option maxHeartbeats 4000000
namespace Sto
open PySem PySem.Spec PyProof.Rows L2 StX
/-! ### the row of the draws -/
/-- all stays but what stands at r -/
def Kp (r : Addr) (H H' : Hp) : Prop := ∀ b x, b ≠ r → H b = some x → H' b = some x
/-- the script: locked, or in the written part -/
def Scr (K : PySem.W.Frag) (H : Hp) (sc : Addr) (ns : List Int) : Prop := (∃ o, H sc = some (.frz o (.lst (ns.map V.int)))) ∨
  ∃ (o : Obj) (its : Array Value) (n : Nat), K.lookup sc = some o ∧ o.cls = .type "list" ∧ o.dict = none ∧ o.data = .seq its n ∧ its.size ≤ sizeLine ∧ Vals (ns.map V.int) its.toList
def RowT (K : PySem.W.Frag) (H : Hp) (r : Addr) : Prop := ∃ (sc : Addr) (ns : List Int) (i : Nat) (m c : Int), H r = some (.lst [.ref sc, .int (i : Int), .int m, .int c]) ∧ 0 ≤ m ∧ m < 2147483648 ∧ Scr K H sc ns
section
variable {K : PySem.W.Frag} {H H' H2 : Hp} {r : Addr}
theorem Scr.sql {sc : Addr} {ns : List Int} (h : Scr K H sc ns) : SqL K H sc (ns.map V.int) := by
  rcases h with ⟨o, h⟩ | h
  · exact .inl (.inr ⟨o, h⟩)
  · exact .inr h
theorem Scr.same {sc : Addr} {ns : List Int} (h : Scr K H sc ns) (s : Same H H') : Scr K H' sc ns := by
  rcases h with ⟨o, h⟩ | h
  · exact .inl ⟨o, s _ _ h⟩
  · exact .inr h
theorem Scr.put {sc D : Addr} {ns : List Int} {u x : HO} (h : Scr K H sc ns) (hD : H D = some u) (no : ∀ o v, u ≠ .frz o v := by intro _ _ z; cases z) : Scr K (upd H D x) sc ns := by
  rcases h with ⟨o, h⟩ | h
  · exact .inl ⟨o, by rw [upd_ne (ne_of h hD fun z => no _ _ z.symm)]; exact h⟩
  · exact .inr h
theorem RowT.same (h : RowT K H r) (s : Same H H') : RowT K H' r := by
  obtain ⟨sc, ns, i, m, c, h1, h2, h3, h4⟩ := h
  exact ⟨sc, ns, i, m, c, s _ _ h1, h2, h3, h4.same s⟩
theorem RowT.put {D : Addr} {u x : HO} (h : RowT K H r) (hD : H D = some u) (hr : D ≠ r) (no : ∀ o v, u ≠ .frz o v := by intro _ _ z; cases z) : RowT K (upd H D x) r := by
  obtain ⟨sc, ns, i, m, c, h1, h2, h3, h4⟩ := h
  exact ⟨sc, ns, i, m, c, by rw [upd_ne hr.symm]; exact h1, h2, h3, h4.put hD no⟩
theorem Kp.of (s : Same H H') : Kp r H H' := fun b x _ e => s b x e
theorem Kp.trans (s : Kp r H H') (t : Kp r H' H2) : Kp r H H2 := fun b x n e => t b x n (s b x n e)
theorem Kp.upd_new {p : Addr} {o : HO} (s : Kp r H H') (h : H p = none) : Kp r H (upd H' p o) := fun b x n e => by
  rw [upd_ne (ne_of_none e h)]
  exact s b x n e
theorem RowT.lst (h : RowT K H r) : ∃ xs, H r = some (.lst xs) := by
  obtain ⟨sc, ns, i, m, c, h1, _⟩ := h
  exact ⟨_, h1⟩
theorem RowT.ne {p : Addr} (h : RowT K H r) (hp : H p = none) : p ≠ r := by
  obtain ⟨xs, h1⟩ := h.lst
  exact (ne_of_none h1 hp).symm
theorem RowT.tups (h : RowT K H r) (s : Kp r H H') : Tups H H' := fun b xs e => by
  obtain ⟨ys, hy⟩ := h.lst
  exact s b _ (ne_of e hy fun z => nomatch z) e
/-- the row written anew -/
theorem row_put {sc : Addr} {ns : List Int} {ys : List V} (h0 : H r = some (.lst ys)) (h5 : Scr K H sc ns) (i : Nat) (m c : Int) (h2 : 0 ≤ m) (h3 : m < 2147483648) : RowT K (upd H r (.lst [.ref sc, .int (i : Int), .int m, .int c])) r :=
  ⟨sc, ns, i, m, c, upd_same, h2, h3, h5.put h0⟩
theorem kp_put {o : HO} : Kp r H (upd H r o) := fun b x n e => by
  rw [upd_ne n]
  exact e
end
theorem ix4 {xs : List V} {j : Nat} (e : xs.length = 4) (h : j < 4 := by decide) : ixN xs.length (j : Int) = some j := ixN_nat (by omega)
theorem pos31 : (0 : Int) < 2147483647 := by decide
section
variable {P : Program} {w : World} {K : PySem.W.Frag} {mg : Str → Option Value} {base : Heap}
/-! ### _law_taken -/
def spTaken (K : PySem.W.Frag) : Sp := fun vs H Q _ => ∃ (r : Addr) (many : Int), vs = [.ref r, .int many] ∧ RowT K H r ∧ 0 < many ∧ many < 1073741824 ∧ ∀ H' (v : Int), RowT K H' r → Kp r H H' → 0 ≤ v → v < many → Q (.int v) H'
theorem scTaken : FnScope ["_law_row", "_law_many", "_law_found", "_law_cell"] ["_law_row", "_law_many"] (defScope (topS 40)) := ⟨rfl, rfl, rfl, by decide +kernel, rfl, by decide +kernel, by decide +kernel⟩
theorem cal_law_taken (D : DefAt K mg "_law_taken" (topS 40) ["_law_row", "_law_many"]) (B : Blt mg) : Cal P w K mg base 1 "_law_taken" (spTaken K) := by
  refine cal_mk D scTaken (fun vs H Q E h => ?_) (fun f cdv A outer s H vs Q E hr h => ?_)
  · obtain ⟨r, many, rfl, _⟩ := h
    rfl
  · obtain ⟨r, many, rfl, hrow, h1, h30, q⟩ := h
    obtain ⟨sc, ns, i, m, c, hr0, m0, m31, hsc⟩ := hrow
    have nd := scTaken.nd
    refine ⟨_, pss_cons (ps_if (pt_cmpR op_gt (pe_ix ix_list (pv 0) pe_int (fun _ _ => rfl)) pe_int (nomark _))
        (pss_cons (ps_set (i := 2) nd rfl (.inl rfl) (pe_op op_mod (pe_callTy call_int1 (by rfl) B.int boot_int (pa_cons (pe_ix ix_list (pv 0) pe_int (fun _ _ => rfl)) pa_nil)) (pv 1)))
        (pss_cons (ps_asg (pe_op op_fdiv (pe_ix ix_list (pv 0) pe_int (fun _ _ => rfl)) (pv 1)) (pg_sub (pv 0) pe_int set_list))
        (pss_one (ps_ret (pv 2))))) pss_nil)
      (pss_cons (ps_asg (pe_op op_add (pe_ix ix_list (pv 0) pe_int (fun _ _ => rfl)) pe_int) (pg_sub (pv 0) pe_int set_list))
      (pss_cons (ps_if (pt_cmpR op_gt (pe_ix ix_list (pv 0) pe_int (fun _ _ => rfl)) (pe_callB call_len_seq (by rfl) B.len boot_len (pa_cons (pe_ix ix_list (pv 0) pe_int (fun _ _ => rfl)) pa_nil)) (nomark _))
        (pss_cons (ps_asg (pe_op op_mod (pe_callTy call_int1 (by rfl) B.int boot_int (pa_cons (pe_op op_add (pe_op op_mul (pe_ix ix_list (pv 0) pe_int (fun _ _ => rfl)) pe_int) pe_int) pa_nil)) pe_int) (pg_sub (pv 0) pe_int set_list))
        (pss_one (ps_ret (pe_op op_mod (pe_callTy call_int1 (by rfl) B.int boot_int (pa_cons (pe_op op_fdiv (pe_ix ix_list (pv 0) pe_int (fun _ _ => rfl)) pe_int) pa_nil)) (pv 1))))) pss_nil)
      (pss_cons (ps_set (i := 3) nd rfl (.inl rfl) (pe_ix ix_list (pe_ix ix_list (pv 0) pe_int (fun _ _ => rfl)) (pe_op op_sub (pe_ix ix_list (pv 0) pe_int (fun _ _ => rfl)) pe_int) (fun _ _ => rfl)))
      (pss_cons (ps_asg (pe_op op_mod (pe_callTy call_int1 (by rfl) B.int boot_int (pa_cons (pe_op op_add (pe_op op_add (pe_op op_mul (pe_ix ix_list (pv 0) pe_int (fun _ _ => rfl)) pe_int) (pv 3)) pe_int) pa_nil)) pe_int) (pg_sub (pv 0) pe_int set_list))
      (pss_cons (ps_if (pt_cmpR op_ge (pv 3) (pe_op op_pow pe_int pe_int) (nomark _)) (pss_one (ps_asg (pe_op op_fdiv (pv 3) (pv 1)) (pg_sub (pv 0) pe_int set_list))) pss_nil)
      (pss_one (ps_ret (pe_op op_mod (pe_callTy call_int1 (by rfl) B.int boot_int (pa_cons (pv 3) pa_nil)) (pv 1))))))))), ?_⟩
    refine ⟨_, rfl, r, _, 3, _, rfl, rfl, SqL.of hr0, atI_nat (j := 3) rfl, _, _, rfl, rfl, _, rfl, ite2 (fun hp => ?_) (fun hp => ?_)⟩
    · refine ⟨_, rfl, r, _, 3, _, rfl, rfl, SqL.of hr0, atI_nat (j := 3) rfl, .inl ⟨_, rfl, _, rfl, _, _, rfl, rfl, h1, ?_⟩⟩
      refine ⟨_, rfl, r, _, 3, _, rfl, rfl, SqL.of hr0, atI_nat (j := 3) rfl, _, rfl, _, _, rfl, rfl, ⟨h1, h30⟩, _, rfl, r, _, 3, 3, rfl, rfl, hr0, ix4 rfl, ?_⟩
      refine ⟨_, rfl, q _ _ (row_put hr0 hsc i m (c / many) m0 m31) kp_put (Int.emod_nonneg _ (by omega)) (Int.emod_lt_of_pos _ h1)⟩
    · refine ⟨_, rfl, r, _, 1, _, rfl, rfl, SqL.of hr0, atI_nat (j := 1) rfl, _, _, rfl, rfl, _, rfl, r, _, 1, 1, rfl, rfl, hr0, ix4 rfl, ?_⟩
      have hr1 : upd H r (.lst [.ref sc, .int ((i : Int) + 1), .int m, .int c]) r = some (.lst [.ref sc, .int ((i : Int) + 1), .int m, .int c]) := upd_same
      have hs1 : SqL K (upd H r (.lst [.ref sc, .int ((i : Int) + 1), .int m, .int c])) sc (ns.map V.int) := (hsc.put hr0).sql
      refine ⟨_, rfl, r, _, 1, _, rfl, rfl, SqL.of hr1, atI_nat (j := 1) rfl, _, rfl, r, _, 0, _, rfl, rfl, SqL.of hr1, atI_nat (j := 0) rfl, sc, _, rfl, .inl hs1, _, _, rfl, rfl, _, rfl, ite2 (fun hp2 => ?_) (fun hp2 => ?_)⟩
      · refine ⟨_, rfl, r, _, 2, _, rfl, rfl, SqL.of hr1, atI_nat (j := 2) rfl, _, _, rfl, rfl, .inl ⟨by omega, by omega⟩, _, _, rfl, rfl, .inl ⟨_, rfl, _, _, rfl, rfl, pos31, _, rfl, r, _, 2, 2, rfl, rfl, hr1, ix4 rfl, ?_⟩⟩
        rw [upd_upd]
        refine ⟨_, rfl, r, _, 2, _, rfl, rfl, SqL.of upd_same, atI_nat (j := 2) rfl, _, _, rfl, rfl, by constructor <;> decide, .inl ⟨_, rfl, _, rfl, _, _, rfl, rfl, h1, ?_⟩⟩
        exact q _ _ (row_put hr0 hsc (i + 1) _ c (Int.emod_nonneg _ (by decide)) (Int.lt_trans (Int.emod_lt_of_pos _ (by decide)) (by decide))) kp_put (Int.emod_nonneg _ (by omega)) (Int.emod_lt_of_pos _ h1)
      · rw [List.length_map] at hp2
        have hp2 : ¬ ((ns.length : Int) < (i : Int) + 1) := fun z => hp2 (decide_eq_true z)
        have hil : i < ns.length := by omega
        refine ⟨_, rfl, r, _, 0, _, rfl, rfl, SqL.of hr1, atI_nat (j := 0) rfl, _, rfl, r, _, 1, _, rfl, rfl, SqL.of hr1, atI_nat (j := 1) rfl, _, _, rfl, rfl, sc, _, _, V.int ns[i], rfl, rfl, hs1, ?_, ?_⟩
        · rw [show (i : Int) + 1 - 1 = (i : Int) by omega]
          refine atI_nat ?_
          rw [List.getElem?_map, List.getElem?_eq_getElem hil]
          rfl
        generalize ns[i] = cell
        refine ⟨_, rfl, r, _, 2, _, rfl, rfl, SqL.of hr1, atI_nat (j := 2) rfl, _, _, rfl, rfl, .inl ⟨by omega, by omega⟩, _, rfl, _, _, rfl, rfl, _, _, rfl, rfl, .inl ⟨_, rfl, _, _, rfl, rfl, pos31, _, rfl, r, _, 2, 2, rfl, rfl, hr1, ix4 rfl, ?_⟩⟩
        rw [upd_upd]
        have hq : ∀ c, RowT K (upd H r (.lst [.ref sc, .int (((i + 1 : Nat) : Int)), .int ((m * 48271 + cell + 11) % 2147483647), .int c])) r := fun c => row_put hr0 hsc (i + 1) _ c (Int.emod_nonneg _ (by decide)) (Int.lt_trans (Int.emod_lt_of_pos _ (by decide)) (by decide))
        refine ⟨_, rfl, _, _, rfl, rfl, ⟨by decide, by decide, by decide⟩, _, _, rfl, rfl, _, rfl, ite2 (fun hp3 => ?_) (fun hp3 => ?_)⟩
        · refine ⟨_, rfl, _, rfl, _, _, rfl, rfl, ⟨h1, h30⟩, _, rfl, r, _, 3, 3, rfl, rfl, upd_same, ix4 rfl, ?_⟩
          rw [upd_upd]
          exact ⟨_, rfl, .inl ⟨_, rfl, _, rfl, _, _, rfl, rfl, h1, q _ _ (hq _) kp_put (Int.emod_nonneg _ (by omega)) (Int.emod_lt_of_pos _ h1)⟩⟩
        · exact ⟨_, rfl, .inl ⟨_, rfl, _, rfl, _, _, rfl, rfl, h1, q _ _ (hq _) kp_put (Int.emod_nonneg _ (by omega)) (Int.emod_lt_of_pos _ h1)⟩⟩
/-! ### _law_pick -/
def spPick (K : PySem.W.Frag) : Sp := fun vs H Q _ => ∃ (r t : Addr) (xs : List V), vs = [.ref r, .ref t] ∧ RowT K H r ∧ ((t ≠ r ∧ H t = some (.lst xs)) ∨ H t = some (.tup xs)) ∧ xs ≠ [] ∧ xs.length < 1073741824 ∧
  ∀ H' (j : Nat) (v : V), RowT K H' r → Kp r H H' → xs[j]? = some v → Q v H'
theorem scPick : FnScope ["_law_row", "_law_things"] ["_law_row", "_law_things"] (defScope (topS 41)) := ⟨rfl, rfl, rfl, by decide +kernel, rfl, by decide +kernel, by decide +kernel⟩
theorem cal_law_pick (D : DefAt K mg "_law_pick" (topS 41) ["_law_row", "_law_things"]) (B : Blt mg) (c1 : Cal P w K mg base 1 "_law_taken" (spTaken K)) : Cal P w K mg base 2 "_law_pick" (spPick K) := by
  refine cal_mk D scPick (fun vs H Q E h => ?_) (fun f cdv A outer s H vs Q E hr h => ?_)
  · obtain ⟨r, t, xs, rfl, _⟩ := h
    rfl
  · obtain ⟨r, t, xs, rfl, hrow, ht, hne, hlen, q⟩ := h
    have hl0 : 0 < xs.length := List.length_pos_iff.mpr hne
    refine ⟨_, pss_one (ps_ret (pe_ix ix_seq (pv 1) (pe_c c1 hr (by decide) (by rfl) (pa_cons (pv 0) (pa_cons (pe_callB call_len_seq (by rfl) B.len boot_len (pa_cons (pv 1) pa_nil)) pa_nil))) (fun _ _ => rfl))), ?_⟩
    refine ⟨_, rfl, _, rfl, _, rfl, t, xs, rfl, ?_, r, _, rfl, hrow, by omega, by omega, fun H' v hrow' kp v0 vl => ?_⟩
    · rcases ht with ht | ht
      · exact .inl (SqL.of ht.2)
      · exact .inr (SqT.of ht)
    obtain ⟨j, rfl⟩ := Int.eq_ofNat_of_zero_le v0
    have hj : j < xs.length := by omega
    have hx : xs[j]? = some xs[j] := List.getElem?_eq_getElem hj
    rcases ht with ht | ht
    · exact .inl ⟨t, xs, _, xs[j], rfl, rfl, SqL.of (kp _ _ ht.1 ht.2), atI_nat hx, q H' j _ hrow' kp hx⟩
    · exact .inr (.inl ⟨t, xs, _, xs[j], rfl, rfl, SqT.of (hrow.tups kp _ _ ht), atI_nat hx, q H' j _ hrow' kp hx⟩)
end
end Sto

/-! part KD15 -/
set_option Elab.async false
set_option linter.all false
set_option maxRecDepth 100000
set_option maxHeartbeats 4000000
namespace Sto
open PySem PySem.Spec PyProof.Rows L2 StX
section
variable {P : Program} {w : World} {K : PySem.W.Frag} {mg : Str → Option Value} {base : Heap}
/-! ### _law_heights -/
def spLHeights (K : PySem.W.Frag) : Sp := fun vs H Q _ => ∃ (r : Addr) (n : Nat), vs = [.ref r, vn n, .int 6] ∧ RowT K H r ∧ n ≤ 4 ∧ ∀ H' p hs, RowT K H' r → Kp r H H' → HtT H' p hs → Hs n hs → Q (.ref p) H'
theorem scLHeights : FnScope ["_law_row", "_law_many", "_law_high", "_law_one"] ["_law_row", "_law_many", "_law_high"] (defScope (topS 44)) := ⟨rfl, rfl, rfl, by decide +kernel, rfl, by decide +kernel, by decide +kernel⟩
theorem cal_law_heights (D : DefAt K mg "_law_heights" (topS 44) ["_law_row", "_law_many", "_law_high"]) (B : Blt mg) (c1 : Cal P w K mg base 1 "_law_taken" (spTaken K)) : Cal P w K mg base 2 "_law_heights" (spLHeights K) := by
  refine cal_mk D scLHeights (fun vs H Q E h => ?_) (fun f cdv A outer s H vs Q E hr h => ?_)
  · obtain ⟨r, n, rfl, _⟩ := h
    rfl
  · obtain ⟨r, n, rfl, hrow, h4, q⟩ := h
    have nd := scLHeights.nd
    refine ⟨_, pss_one (ps_ret (pe_tupleOf (by rfl) B.tuple (pe_lc (own := [("_law_one", 3)]) (g := gName 3) (tt := tYes) (by rfl) nd (pi_range1 (by rfl) B.range (pa_cons (pv 1) pa_nil))
      (blkOk_by (own := [("_law_one", 3)]) (N := ["_law_row", "_law_many", "_law_high", "_law_one"]) (sc := defScope (topS 44)) (by decide +kernel)) (fun _ _ _ _ _ => pg_name (i := 3) nd rfl (Or.inl rfl)) (fun _ _ _ _ _ => pts_nil)
      (fun _ _ _ _ _ => pe_op op_sub (pe_c c1 hr (by decide) (by rfl) (pa_cons (pv 0) (pa_cons (pv 2) pa_nil))) (pe_op op_fdiv (pv 2) pe_int))))), ?_⟩
    refine ⟨_, rfl, _, rfl, by omega, by omega, fun D nD => ?_⟩
    have nDr : D ≠ r := hrow.ne nD
    refine lc_it walk_range (fun j H' => RowT K H' r ∧ Kp r H H' ∧ ∃ hs : List Int, H' D = some (.lst (hs.map V.int)) ∧ hs.length = j ∧ ∀ x ∈ hs, -2 ≤ x ∧ x ≤ 3)
      ⟨hrow.same (same_new nD), .of (same_new nD), [], upd_same, rfl, fun x z => (nomatch z)⟩ (fun _ _ _ _ => trivial) ?_ ?_
    · rintro j x H1 H2 hj ⟨row1, k1, hs, d1, l1, b1⟩ ⟨rfl, ex⟩
      rw [Int.toNat_natCast] at hj
      refine ⟨rfl, tYes_of ?_⟩
      refine ⟨_, rfl, _, rfl, r, 6, rfl, row1, by decide, by decide, fun H3 v row3 k3 v0 v6 => ⟨_, rfl, _, _, rfl, rfl, ⟨by decide, by decide⟩, _, _, rfl, rfl, ?_⟩⟩
      have d3 := k3 _ _ nDr d1
      refine ⟨_, d3, ?_, ?_⟩
      · rw [List.length_map, l1]
        exact smallL (m := 4) (by omega)
      · refine ⟨?_, ?_, hs ++ [v - 6 / 3], ?_, ?_, ?_⟩
        · exact row3.put d3 nDr
        · exact (k1.trans k3).upd_new nD
        · rw [upd_same, List.map_append]
          rfl
        · rw [List.length_append, l1]
          rfl
        · intro x hx
          rcases List.mem_append.mp hx with h | h
          · exact b1 x h
          · rw [List.mem_singleton.mp h]
            omega
    · rintro H1 ⟨row1, k1, hs, d1, l1, b1⟩
      rw [Int.toNat_natCast] at l1
      refine .inl ⟨D, _, rfl, SqL.of d1, fun u nu => ?_⟩
      exact q _ u hs (row1.same (same_new nu)) (k1.trans (.of (same_new nu))) upd_same ⟨l1, b1⟩
end
end Sto

/-! part KD16 -/
set_option Elab.async false
set_option linter.all false
set_option maxRecDepth 100000
set_option maxHeartbeats 4000000
namespace Sto
open PySem PySem.Spec PyProof.Rows L2 StX
section
variable {P : Program} {w : World} {K : PySem.W.Frag} {mg : Str → Option Value} {base : Heap}
/-! ### _law_drawn -/
def spDrawn (K : PySem.W.Frag) : Sp := fun vs H Q _ => ∃ (r a b : Addr) (most : Int) (n : Nat) (ts : List Tie) (h0 : List Int), vs = [.ref r, .ref a, .ref b, .int most] ∧ RowT K H r ∧ WebT H a n ts ∧ HtT H b h0 ∧ Ok n ts ∧ Hs n h0 ∧ 0 ≤ most ∧ most ≤ 60 ∧
  ∀ H' p f d g, RowT K H' r → Kp r H H' → H' p = some (.tup [.ref f, .ref d]) → HtT H' d g → Hs n g → Q (.ref p) H'
theorem scDrawn : FnScope ["_law_row", "_law_web_here", "_law_heights_here", "_law_most", "_law_now", "_law_found", "_law_turn", "_law_some", "_law_pair"] ["_law_row", "_law_web_here", "_law_heights_here", "_law_most"] (defScope (topS 48)) := ⟨rfl, rfl, rfl, by decide +kernel, rfl, by decide +kernel, by decide +kernel⟩
theorem cal_law_drawn (D : DefAt K mg "_law_drawn" (topS 48) ["_law_row", "_law_web_here", "_law_heights_here", "_law_most"]) (B : Blt mg) (c1 : Cal P w K mg base 2 "_law_stoops" spStoops) (c2 : Cal P w K mg base 2 "_law_pick" (spPick K)) (c3 : Cal P w K mg base 1 "_law_after" spLAfter) : Cal P w K mg base 3 "_law_drawn" (spDrawn K) := by
  refine cal_mk D scDrawn (fun vs H Q E h => ?_) (fun f cdv A outer s H vs Q E hr h => ?_)
  · obtain ⟨r, a, b, most, n, ts, h0, rfl, _⟩ := h
    rfl
  · obtain ⟨r, a, b, most, n, ts, h0, rfl, hrow, hw, hb, ok, hh, m0, m60, q⟩ := h
    have nd := scDrawn.nd
    refine ⟨_, pss_cons (ps_par (i := 4) (j := 5) rfl nd rfl rfl (by decide) rfl rfl (pa_cons (pv 2) (pa_cons (pe_tup pa_nil) pa_nil)) (by rfl))
      (pss_cons (ps_for PassesOwn.never rfl (pi_range1 (by rfl) B.range (pa_cons (pv 3) pa_nil)) (pg_name (i := 6) nd rfl (.inl rfl))
        (pss_cons (ps_set (i := 7) nd rfl (.inl rfl) (pe_c c1 hr (by decide) (by rfl) (pa_cons (pv 1) (pa_cons (pv 4) pa_nil))))
        (pss_one (ps_if (pt_cmpR (op_neD (hu64 hr)) (pv 7) (pe_lst pa_nil) (nomark _))
          (pss_cons (ps_set (i := 8) nd rfl (.inl rfl) (pe_c c2 hr (by decide) (by rfl) (pa_cons (pv 0) (pa_cons (pv 7) pa_nil))))
          (pss_one (ps_par (i := 4) (j := 5) rfl nd rfl rfl (by decide) rfl rfl (pa_cons (pe_c c3 hr (by decide) (by rfl) (pa_cons (pv 4) (pa_cons (pv 8) pa_nil))) (pa_cons (pe_op op_catA (pv 5) (pe_tup (pa_cons (pv 8) pa_nil))) pa_nil)) (by rfl)))) pss_nil))))
      (pss_one (ps_ret (pe_tup (pa_cons (pv 5) (pa_cons (pv 4) pa_nil)))))), ?_⟩
    refine ⟨_, rfl, Nat.zero_le _, fun f0 nf => ⟨_, _, rfl, ?_⟩⟩
    have s0 := same_new (o := .tup []) nf
    refine ⟨_, rfl, _, rfl, by omega, by omega, for_it walk_range (fun i σ H' => RowT K H' r ∧ Kp r H H' ∧ ∃ now f g xs y6 y7 y8, HtT H' now g ∧ Hs n g ∧ H' f = some (.tup xs) ∧ xs.length ≤ i ∧ σ = [some (.ref r), some (.ref a), some (.ref b), some (.int most), some (.ref now), some (.ref f), y6, y7, y8])
      ⟨hrow.same s0, .of s0, b, f0, h0, [], none, none, none, hb.same s0, hh, upd_same, Nat.le_refl 0, rfl⟩ (fun _ _ _ _ _ => trivial) ?_ ?_⟩
    · rintro i x σ H1 H2 hi ⟨row1, k1, now, f1, g, xs, y6, y7, y8, hnow, hg, hf, hl, rfl⟩ ⟨rfl, ex⟩
      have tp1 := hrow.tups k1
      refine ⟨_, rfl, _, rfl, a, now, n, ts, g, rfl, hw.tups tp1, hnow, ok, hg.len, fun H3 p bs s3 np hp hpp => ?_⟩
      have row3 := row1.same s3
      have k3 : Kp r H H3 := k1.trans (.of s3)
      refine ⟨_, rfl, Nat.zero_le _, fun u nu => ?_⟩
      have su := same_new (o := .lst []) nu
      refine ne_pairs (SqL.of (su _ _ hp)) (pairs_same hpp su) (SqL.of upd_same) ⟨_, rfl, ?_⟩
      have row4 := row3.same su
      have k4 : Kp r H _ := k3.trans (.of su)
      by_cases ee : stp n ts g = []
      · rw [ee]
        exact iteF ⟨row4, k4, now, f1, g, xs, _, _, _, (hnow.same s3).same su, hg, su _ _ (s3 _ _ hf), by omega, rfl⟩
      · have en : (!(stp n ts g).isEmpty) = true := by
          cases h : stp n ts g with
          | nil => exact (ee h).elim
          | cons _ _ => rfl
        rw [en]
        have hbl := Paired.length hpp
        have hne : bs.map V.ref ≠ [] := fun z => by
          have z2 := List.map_eq_nil_iff.mp z
          rw [z2] at hbl
          exact ee (List.length_eq_zero_iff.mp hbl.symm)
        have hbl2 : (bs.map V.ref).length ≤ 24 := by
          rw [List.length_map, hbl]
          have h1 := stp_len_le n ts g
          have h2 : n * ts.length ≤ 4 * 6 := Nat.mul_le_mul ok.n4 ok.few
          omega
        refine iteT ⟨_, rfl, _, rfl, r, p, _, rfl, row4, .inl ⟨row1.ne np, su _ _ hp⟩, hne, by omega, fun H5 j v row5 k5 hv => ?_⟩
        have tp5 := row4.tups k5
        obtain ⟨tb, htb, rfl⟩ := ref_at hv
        obtain ⟨st, hst, htt⟩ := paired_at' (pairs_tups (pairs_same hpp su) tp5) htb
        have hsm : st ∈ stp n ts g := List.mem_of_getElem? hst
        obtain ⟨m1, m2, m3⟩ := mem_stp.mp hsm
        have mo := (ok.nb_lt m2).1
        have hnow5 : HtT H5 now g := ((hnow.same s3).same su).tups tp5
        refine ⟨_, rfl, _, rfl, now, tb, g, st, rfl, hnow5, htt, by rw [hg.len]; exact m1, by rw [hg.len]; exact mo, by rw [hg.len]; exact ok.n4, fun H6 q6 s6 nq hq => ?_⟩
        refine ⟨_, rfl, _, rfl, small (m := 1) (Nat.le_refl _), fun o no => ?_⟩
        have so := same_new (o := .tup [V.ref tb]) no
        have s56 := s6.trans so
        have hf6 := s56 _ _ (tp5 _ _ (su _ _ (s3 _ _ hf)))
        have row6 := row5.same s56
        have k6 : Kp r H _ := (k4.trans k5).trans (.of s56)
        have hq6 : HtT _ q6 (aft g st) := hq.same so
        have hg6 : Hs n (aft g st) := hg.aft ok hsm
        refine ⟨f1, o, xs, [V.ref tb], rfl, rfl, SqT.of hf6, SqT.of upd_same, small (m := 61) (by show xs.length + 1 ≤ 61; omega), fun z => ?_, fun _ z => (nomatch z), fun _ _ fp nfp => ?_⟩
        · exact ⟨_, _, rfl, row6, k6, q6, o, aft g st, [V.ref tb], _, _, _, hq6, hg6, upd_same, by show 1 ≤ i + 1; omega, rfl⟩
        · have sf := same_new (o := .tup (xs ++ [V.ref tb])) nfp
          exact ⟨_, _, rfl, row6.same sf, k6.trans (.of sf), q6, fp, aft g st, _, _, _, _, hq6.same sf, hg6, upd_same, by rw [List.length_append]; show xs.length + 1 ≤ i + 1; omega, rfl⟩
    · rintro σ H1 ⟨row1, k1, now, f1, g, xs, y6, y7, y8, hnow, hg, hf, hl, rfl⟩
      refine ⟨_, rfl, _, rfl, small (m := 2) (Nat.le_refl _), fun p np => ?_⟩
      have sp := same_new (o := .tup [V.ref f1, V.ref now]) np
      exact q _ p f1 now g (row1.same sp) (k1.trans (.of sp)) upd_same (hnow.same sp) hg
/-! ### _law_goal -/
def spGoal (K : PySem.W.Frag) : Sp := fun vs H Q _ => ∃ (r a b : Addr) (n : Nat) (ts : List Tie) (h0 : List Int), vs = [.ref r, .ref a, .ref b] ∧ RowT K H r ∧ WebT H a n ts ∧ HtT H b h0 ∧ Ok n ts ∧ Hs n h0 ∧
  ∀ H' d g, RowT K H' r → Kp r H H' → HtT H' d g → Hs n g → Q (.ref d) H'
theorem scGoal : FnScope ["_law_row", "_law_web_here", "_law_heights_here", "_law_one"] ["_law_row", "_law_web_here", "_law_heights_here"] (defScope (topS 49)) := ⟨rfl, rfl, rfl, by decide +kernel, rfl, by decide +kernel, by decide +kernel⟩
theorem cal_law_goal (D : DefAt K mg "_law_goal" (topS 49) ["_law_row", "_law_web_here", "_law_heights_here"]) (B : Blt mg) (c1 : Cal P w K mg base 1 "_law_taken" (spTaken K)) (c2 : Cal P w K mg base 3 "_law_drawn" (spDrawn K)) (c3 : Cal P w K mg base 2 "_law_pick" (spPick K)) : Cal P w K mg base 4 "_law_goal" (spGoal K) := by
  refine cal_mk D scGoal (fun vs H Q E h => ?_) (fun f cdv A outer s H vs Q E hr h => ?_)
  · obtain ⟨r, a, b, n, ts, h0, rfl, _⟩ := h
    rfl
  · obtain ⟨r, a, b, n, ts, h0, rfl, hrow, hw, hb, ok, hh, q⟩ := h
    have nd := scGoal.nd
    refine ⟨_, pss_cons (ps_if (pt_cmpR op_gt (pe_c c1 hr (by decide) (by rfl) (pa_cons (pv 0) (pa_cons pe_int pa_nil))) pe_int (nomark _))
        (pss_one (ps_ret (pe_ix ix_tup (pe_c c2 hr (by decide) (by rfl) (pa_cons (pv 0) (pa_cons (pv 1) (pa_cons (pv 2) (pa_cons (pe_c c1 hr (by decide) (by rfl) (pa_cons (pv 0) (pa_cons pe_int pa_nil))) pa_nil))))) pe_int (fun _ _ => rfl)))) pss_nil)
      (pss_one (ps_ret (pe_tupleOf (by rfl) B.tuple (pe_lc (own := [("_law_one", 3)]) (g := gName 3) (tt := tYes) (by rfl) nd (pi_tup (pv 2))
        (blkOk_by (own := [("_law_one", 3)]) (N := ["_law_row", "_law_web_here", "_law_heights_here", "_law_one"]) (sc := defScope (topS 49)) (by decide +kernel)) (fun _ _ _ _ _ => pg_name (i := 3) nd rfl (Or.inl rfl)) (fun _ _ _ _ _ => pts_nil)
        (fun _ _ _ _ _ => pe_c c3 hr (by decide) (by rfl) (pa_cons (pv 0) (pa_cons (pv 2) pa_nil))))))), ?_⟩
    refine ⟨_, rfl, r, 3, rfl, hrow, by decide, by decide, fun H1 v row1 k1 v0 v3 => ⟨_, _, rfl, rfl, _, rfl, ite2 (fun hp => ?_) (fun hp => ?_)⟩⟩
    · refine ⟨_, rfl, _, rfl, _, rfl, _, rfl, r, 9, rfl, row1, by decide, by decide, fun H2 v2 row2 k2 v20 v29 => ?_⟩
      have tp2 := hrow.tups (k1.trans k2)
      refine ⟨r, a, b, v2, n, ts, h0, rfl, row2, hw.tups tp2, hb.tups tp2, ok, hh, v20, by omega, fun H3 p f1 d g row3 k3 hp hd hg => ?_⟩
      exact ⟨p, _, 1, _, rfl, rfl, SqT.of hp, atI_nat (j := 1) rfl, q _ d g row3 ((k1.trans k2).trans k3) hd hg⟩
    · have tp1 := hrow.tups k1
      refine ⟨_, rfl, b, rfl, ⟨_, SqT.of (hb.tups tp1)⟩, fun D nD => ?_⟩
      have nDr := row1.ne nD
      refine lc_it (walk_tup (K := K) (a := b) (xs := h0.map V.int)) (fun j H' => RowT K H' r ∧ Kp r H1 H' ∧ ∃ hs : List Int, H' D = some (.lst (hs.map V.int)) ∧ hs.length = j ∧ ∀ x ∈ hs, -2 ≤ x ∧ x ≤ 3)
        ⟨row1.same (same_new nD), .of (same_new nD), [], upd_same, rfl, fun x z => (nomatch z)⟩ (fun j H' _ z => SqT.of ((hb.tups tp1).tups (row1.tups z.2.1))) ?_ ?_
      · rintro j x H2 H3 hj ⟨row2, k2, hs, d2, l2, b2⟩ ⟨rfl, ex⟩
        rw [List.length_map, hh.len] at hj
        refine ⟨rfl, tYes_of ?_⟩
        have hb2 := (hb.tups tp1).tups (row1.tups k2)
        have hl : (h0.map V.int).length = n := by rw [List.length_map, hh.len]
        have n1 := ok.n1
        have n4 := ok.n4
        refine ⟨_, rfl, _, rfl, r, b, h0.map V.int, rfl, row2, .inr hb2, fun z => ?_, by omega, fun H4 j' v' row4 k4 hv => ?_⟩
        · rw [z] at hl
          simp at hl
          omega
        obtain ⟨x, hx, rfl⟩ := int_at hv
        have d4 := k4 _ _ nDr d2
        refine ⟨_, d4, ?_, row4.put d4 nDr, (k2.trans k4).upd_new nD, hs ++ [x], ?_, ?_, ?_⟩
        · rw [List.length_map, l2]
          exact smallL (m := 4) (by omega)
        · rw [upd_same, List.map_append]
          rfl
        · rw [List.length_append, l2]
          rfl
        · intro y hy
          rcases List.mem_append.mp hy with h | h
          · exact b2 y h
          · rw [List.mem_singleton.mp h]
            exact hh.rng x (List.mem_of_getElem? hx)
      · rintro H2 ⟨row2, k2, hs, d2, l2, b2⟩
        rw [List.length_map, hh.len] at l2
        refine .inl ⟨D, _, rfl, SqL.of d2, fun u nu => ?_⟩
        exact q _ u hs (row2.same (same_new nu)) ((k1.trans k2).trans (.of (same_new nu))) upd_same ⟨l2, b2⟩
end
end Sto

/-! part KD17 -/
set_option Elab.async false
set_option linter.all false
set_option maxRecDepth 100000
set_option maxHeartbeats 4000000
namespace Sto
open PySem PySem.Spec PyProof.Rows L2 StX
/-! ### ties as keys -/
def pi2 (t : Tie) : List Int := [(t.1 : Int), (t.2 : Int)]
theorem pi2_inj {a b : Tie} (h : pi2 a = pi2 b) : a = b := by
  obtain ⟨h1, h2⟩ := List.cons.inj h
  obtain ⟨h2, _⟩ := List.cons.inj h2
  exact Prod.ext (Int.ofNat.inj h1) (Int.ofNat.inj h2)
theorem pi2_lt {a b : Tie} (h : b.1 < a.1 ∨ (b.1 = a.1 ∧ b.2 < a.2)) : pi2 b < pi2 a := by
  unfold pi2
  rw [List.cons_lt_cons_iff]
  rcases h with h | ⟨h1, h2⟩
  · exact .inl (by omega)
  · refine .inr ⟨by omega, ?_⟩
    rw [List.cons_lt_cons_iff]
    exact .inl (by omega)
theorem pi2_le {a b : Tie} (h : pi2 a ≤ pi2 b) (n : a ≠ b) : a.1 < b.1 ∨ (a.1 = b.1 ∧ a.2 < b.2) := by
  refine Classical.byContradiction fun z => (List.not_lt.mpr h) (pi2_lt ?_)
  rcases Nat.lt_trichotomy a.1 b.1 with l | e | g
  · exact (z (.inl l)).elim
  · rcases Nat.lt_trichotomy a.2 b.2 with l2 | e2 | g2
    · exact (z (.inr ⟨e, l2⟩)).elim
    · exact (n (Prod.ext e e2)).elim
    · exact .inr ⟨e.symm, g2⟩
  · exact .inl g
theorem putK_kk_in {ks : List (List Int)} {g : List Int} (h : g ∈ ks) : putK (kk ks) (key g) (V.bl true) = kk ks := by
  unfold putK
  rw [if_pos]
  · unfold kk
    rw [List.map_map]
    refine List.map_congr_left fun x _ => ?_
    show (if key x = key g then (key x, V.bl true) else (key x, V.bl true)) = _
    exact ite_self _
  · rw [valV_any, valV_kk]
    exact decide_eq_true h
def TiesAt (H : Hp) (d : Addr) (n : Nat) : Prop := ∃ ps : List Tie, H d = some (.dT (kk (ps.map pi2))) ∧ ps.Nodup ∧ ∀ t ∈ ps, t.1 < t.2 ∧ t.2 < n
theorem ties_few {n : Nat} (h4 : n ≤ 4) {ps : List Tie} (nd : ps.Nodup) (h : ∀ t ∈ ps, t.1 < t.2 ∧ t.2 < n) : ps.length ≤ 6 := by
  refine nd.length_le_of_subset (l₂ := [(0, 1), (0, 2), (0, 3), (1, 2), (1, 3), (2, 3)]) fun t ht => ?_
  obtain ⟨a, b⟩ := t
  have h := h _ ht
  simp only at h
  have hb : b = 1 ∨ b = 2 ∨ b = 3 := by omega
  have ha : a = 0 ∨ a = 1 ∨ a = 2 := by omega
  rcases hb with rfl | rfl | rfl <;> rcases ha with rfl | rfl | rfl <;> first | (exfalso; omega) | simp
theorem ties_put {H : Hp} {d b : Addr} {n x y : Nat} (h4 : n ≤ 4) (h : TiesAt H d n) (hb : H b = some (.tup [vn x, vn y])) (hx : x < y) (hy : y < n) : ∃ H', DPut H d (.ref b) (.bl true) H' ∧ TiesAt H' d n ∧ ∃ o, H' = upd H d o := by
  obtain ⟨ps, h1, h2, h3⟩ := h
  have dp := DPut.t (k := key (pi2 (x, y))) (v := .bl true) h1 hb (by
    unfold kk
    rw [List.length_map, List.length_map]
    exact smallL (ties_few h4 h2 h3))
  refine ⟨_, dp, ?_, _, rfl⟩
  by_cases m : (x, y) ∈ ps
  · rw [putK_kk_in (List.mem_map.mpr ⟨_, m, rfl⟩)]
    exact ⟨ps, upd_same, h2, h3⟩
  · rw [putK_kk fun z => by
      obtain ⟨t, ht, e⟩ := List.mem_map.mp z
      rw [pi2_inj e] at ht
      exact m ht]
    refine ⟨ps ++ [(x, y)], by rw [upd_same, List.map_append]; rfl, nodup_snoc h2 m, fun t ht => ?_⟩
    rcases List.mem_append.mp ht with h | h
    · exact h3 t h
    · rw [List.mem_singleton.mp h]
      exact ⟨hx, hy⟩
theorem keys_pair {H : Hp} : ∀ {gs : List (List Int)} {bs : List Addr}, IsKeys H (kk gs) bs → ∃ ks : List (Addr × List Int), ks.map (·.1) = bs ∧ ks.map (·.2) = gs ∧ ∀ z ∈ ks, H z.1 = some (.tup (z.2.map V.int))
  | [], _, .nil => ⟨[], rfl, rfl, fun z h => (nomatch h)⟩
  | g :: gs, _, .cons (b := b) r t => by
    obtain ⟨ks, h1, h2, h3⟩ := keys_pair t
    refine ⟨(b, g) :: ks, by rw [List.map_cons, h1], by rw [List.map_cons, h2], fun z hz => ?_⟩
    rcases List.mem_cons.mp hz with rfl | hz
    · have r : H b = some (.tup ((key g).map kV)) := r
      rw [show (key g).map kV = g.map V.int from kv_ints g] at r
      exact r
    · exact h3 z hz
def un2 (g : List Int) : Tie := ((g.getD 0 0).toNat, (g.getD 1 0).toNat)
theorem un2_pi2 (t : Tie) : un2 (pi2 t) = t := rfl
section
variable {P : Program} {w : World} {K : PySem.W.Frag} {mg : Str → Option Value} {base : Heap}
/-! ### _law_web -/
def spLWeb (K : PySem.W.Frag) : Sp := fun vs H Q _ => ∃ r : Addr, vs = [.ref r, .int 4, .int 3] ∧ RowT K H r ∧ ∀ H' p n ts, RowT K H' r → Kp r H H' → WebT H' p n ts → Ok n ts → Q (.ref p) H'
theorem scLWeb : FnScope ["_law_row", "_law_most", "_law_more", "_law_many", "_law_ties_here", "_law_person", "_law_turn", "_law_one"] ["_law_row", "_law_most", "_law_more"] (defScope (topS 43)) := ⟨rfl, rfl, rfl, by decide +kernel, rfl, by decide +kernel, by decide +kernel⟩
theorem cal_law_web (D : DefAt K mg "_law_web" (topS 43) ["_law_row", "_law_most", "_law_more"]) (B : Blt mg) (c1 : Cal P w K mg base 1 "_law_taken" (spTaken K)) : Cal P w K mg base 2 "_law_web" (spLWeb K) := by
  refine cal_mk D scLWeb (fun vs H Q E h => ?_) (fun f cdv A outer s H vs Q E hr h => ?_)
  · obtain ⟨r, rfl, _⟩ := h
    rfl
  · obtain ⟨r, rfl, hrow, q⟩ := h
    have nd := scLWeb.nd
    have hu := hu_of hr
    refine ⟨_, pss_cons (ps_set (i := 3) nd rfl (.inl rfl) (pe_op op_add pe_int (pe_c c1 hr (by decide) (by rfl) (pa_cons (pv 0) (pa_cons (pv 1) pa_nil)))))
      (pss_cons (ps_set (i := 4) nd rfl (.inl rfl) pe_dnewT)
      (pss_cons (ps_for PassesOwn.never rfl (pi_range2 (by rfl) B.range (pa_cons pe_int (pa_cons (pv 3) pa_nil))) (pg_name (i := 5) nd rfl (.inl rfl))
        (pss_one (ps_if (pt_cmpR op_gt (pe_c c1 hr (by decide) (by rfl) (pa_cons (pv 0) (pa_cons pe_int pa_nil))) pe_int (nomark _))
          (pss_one (ps_dput hu (pv 4) (pe_tup (pa_cons (pe_c c1 hr (by decide) (by rfl) (pa_cons (pv 0) (pa_cons (pv 5) pa_nil))) (pa_cons (pv 5) pa_nil))) pe_bl rfl)) pss_nil)))
      (pss_cons (ps_for PassesOwn.never rfl (pi_range1 (by rfl) B.range (pa_cons (pe_ifExp (pt_cmpR op_gt (pv 3) pe_int (nomark _)) (pe_c c1 hr (by decide) (by rfl) (pa_cons (pv 0) (pa_cons (pe_op op_add (pv 2) pe_int) pa_nil))) pe_int) pa_nil)) (pg_name (i := 6) nd rfl (.inl rfl))
        (pss_cons (ps_set (i := 7) nd rfl (.inl rfl) (pe_c c1 hr (by decide) (by rfl) (pa_cons (pv 0) (pa_cons (pe_op op_sub (pv 3) pe_int) pa_nil))))
        (pss_one (ps_dput hu (pv 4) (pe_tup (pa_cons (pv 7) (pa_cons (pe_op op_add (pe_op op_add (pv 7) pe_int) (pe_c c1 hr (by decide) (by rfl) (pa_cons (pv 0) (pa_cons (pe_op op_sub (pe_op op_sub (pv 3) pe_int) (pv 7)) pa_nil)))) pa_nil))) pe_bl rfl))))
      (pss_one (ps_ret (pe_tup (pa_cons (pv 3) (pa_cons (pe_tupleOf (by rfl) B.tuple (pe_callB (cr_sortTL (hu64 hr)) (by rfl) B.sorted boot_sorted (pa_cons (pe_callTy (call_list_dT rfl) (by rfl) B.list boot_list (pa_cons (pv 4) pa_nil)) pa_nil))) pa_nil)))))))), ?_⟩
    refine ⟨_, rfl, _, rfl, r, 4, rfl, hrow, by decide, by decide, fun H1 v row1 k1 v0 v4 => ⟨_, _, rfl, rfl, ?_⟩⟩
    obtain ⟨k, rfl⟩ := Int.eq_ofNat_of_zero_le v0
    show gName 3 (V.int ((1 : Int) + ((k : Nat) : Int))) _ _ _
    rw [show (1 : Int) + ((k : Nat) : Int) = ((k + 1 : Nat) : Int) by omega]
    have n1 : 1 ≤ k + 1 := by omega
    have n4 : k + 1 ≤ 4 := by omega
    generalize k + 1 = n at n1 n4 ⊢
    intro d nd1
    have sd := same_new (o := .dT []) nd1
    have ndr := row1.ne nd1
    have row2 := row1.same sd
    have k2 : Kp r H (upd H1 d (.dT [])) := k1.trans (.of sd)
    have T2 : TiesAt (upd H1 d (.dT [])) d n := ⟨[], upd_same, .nil, fun t z => (nomatch z)⟩
    have k2' : Kp r H1 (upd H1 d (.dT [])) := .of sd
    refine ⟨_, rfl, _, _, rfl, ⟨by decide, by decide, by omega, by omega⟩, for_it walk_range (fun i σ H' => RowT K H' r ∧ Kp r H1 H' ∧ TiesAt H' d n ∧ ∃ y5 y6 y7, σ = [some (.ref r), some (.int 4), some (.int 3), some (vn n), some (.ref d), y5, y6, y7])
      ⟨row2, k2', T2, _, _, _, rfl⟩ (fun _ _ _ _ _ => trivial) ?_ ?_⟩
    · rintro i x σ H3 H4 hi ⟨row3, k3, T3, y5, y6, y7, rfl⟩ ⟨rfl, ex⟩
      have hi : i + 1 < n := by omega
      have ex : x = vn (i + 1) := by
        rw [ex]
        show V.int (1 + (i : Int)) = V.int ((i + 1 : Nat) : Int)
        rw [show (1 : Int) + (i : Int) = ((i + 1 : Nat) : Int) by omega]
      subst ex
      refine ⟨_, rfl, r, 7, rfl, row3, by decide, by decide, fun H5 v row5 k5 v0 v7 => ⟨_, _, rfl, rfl, _, rfl, ite2 (fun hp => ?_) (fun hp => ?_)⟩⟩
      · refine ⟨_, rfl, _, rfl, _, rfl, r, _, rfl, row5, by omega, by omega, fun H6 u row6 k6 u0 u1 => ⟨_, rfl, small (m := 2) (Nat.le_refl _), fun b nb => ?_⟩⟩
        obtain ⟨j, rfl⟩ := Int.eq_ofNat_of_zero_le u0
        have sb := same_new (o := .tup [vn j, vn (i + 1)]) nb
        have T6 : TiesAt (upd H6 b (.tup [vn j, vn (i + 1)])) d n := by
          obtain ⟨ps, g1, g2, g3⟩ := T3
          exact ⟨ps, sb _ _ (k6 _ _ ndr (k5 _ _ ndr g1)), g2, g3⟩
        obtain ⟨H7, dp, T7, o, rfl⟩ := ties_put n4 T6 upd_same (by omega) hi
        obtain ⟨ps, g1, _⟩ := T6
        exact ⟨d, _, rfl, dp, (row6.same sb).put g1 ndr, (((k3.trans k5).trans k6).trans (.of sb)).upd_new nd1, T7, _, _, _, rfl⟩
      · refine ⟨row5, k3.trans k5, ?_, _, _, _, rfl⟩
        obtain ⟨ps, g1, g2, g3⟩ := T3
        exact ⟨ps, k5 _ _ ndr g1, g2, g3⟩
    · rintro σ H3 ⟨row3, k3, T3, y5, y6, y7, rfl⟩
      refine ⟨_, rfl, _, _, rfl, rfl, _, rfl, ite2 (fun hp => ⟨_, rfl, _, rfl, _, _, rfl, rfl, r, _, rfl, row3, by decide, by decide, fun H4 v row4 k4 v0 v4 => ?_⟩) (fun hp => ?_)⟩
      rotate_left
      have row4 := row3
      have k4 : Kp r H3 H3 := .of (Same.refl _)
      have v0 : (0 : Int) ≤ 0 := Int.le_refl _
      have v4 : (0 : Int) < 3 + 1 := by decide
      have T4 := T3
      rotate_left
      have hp : (1 : Int) < (n : Int) := of_decide_eq_true hp
      have T4 : TiesAt H4 d n := by
        obtain ⟨ps, g1, g2, g3⟩ := T3
        exact ⟨ps, k4 _ _ ndr g1, g2, g3⟩
      all_goals
        refine ⟨_, rfl, by omega, by omega, for_it walk_range (fun i σ H' => RowT K H' r ∧ Kp r H1 H' ∧ TiesAt H' d n ∧ ∃ y5 y6 y7, σ = [some (.ref r), some (.int 4), some (.int 3), some (vn n), some (.ref d), y5, y6, y7])
          ⟨row4, k3.trans k4, T4, _, _, _, rfl⟩ (fun _ _ _ _ _ => trivial) ?_ ?_⟩
        · rintro i x σ H5 H6 hi ⟨row5, k5, T5, y5, y6, y7, rfl⟩ ⟨rfl, ex⟩
          first
          | exact absurd hi (Nat.not_lt_zero _)
          | (refine ⟨_, rfl, _, rfl, _, _, rfl, rfl, r, _, rfl, row5, by omega, by omega, fun H7 u row7 k7 u0 u1 => ?_⟩
             obtain ⟨j, rfl⟩ := Int.eq_ofNat_of_zero_le u0
             refine ⟨_, rfl, _, rfl, _, rfl, _, _, rfl, rfl, _, rfl, _, rfl, _, _, rfl, rfl, _, rfl, _, _, rfl, rfl, r, _, rfl, row7, by omega, by omega, fun H8 u2 row8 k8 u20 u21 => ⟨_, _, rfl, rfl, small (m := 2) (Nat.le_refl _), fun b nb => ?_⟩⟩
             obtain ⟨j2, rfl⟩ := Int.eq_ofNat_of_zero_le u20
             have ej : V.int (((j : Nat) : Int) + 1 + ((j2 : Nat) : Int)) = vn (j + 1 + j2) := congrArg V.int (by omega)
             have sb := same_new (o := .tup [vn j, V.int (((j : Nat) : Int) + 1 + ((j2 : Nat) : Int))]) nb
             have T8 : TiesAt (upd H8 b (.tup [vn j, V.int (((j : Nat) : Int) + 1 + ((j2 : Nat) : Int))])) d n := by
               obtain ⟨ps, g1, g2, g3⟩ := T5
               exact ⟨ps, sb _ _ (k8 _ _ ndr (k7 _ _ ndr g1)), g2, g3⟩
             obtain ⟨H9, dp, T9, o, rfl⟩ := ties_put (x := j) (y := j + 1 + j2) n4 T8 (by rw [upd_same, ej]) (by omega) (by omega)
             obtain ⟨ps, g1, _⟩ := T8
             exact ⟨d, _, rfl, dp, (row8.same sb).put g1 ndr, (((k5.trans k7).trans k8).trans (.of sb)).upd_new nd1, T9, _, _, _, rfl⟩)
        · rintro σ H5 ⟨row5, k5, ⟨ps, g1, g2, g3⟩, y5, y6, y7, rfl⟩
          refine ⟨_, rfl, _, rfl, d, _, rfl, .of g1, fun p bs np hks => ?_⟩
          obtain ⟨ks, e1, e2, e3⟩ := keys_pair hks
          have sp := same_new (o := .lst (bs.map V.ref)) np
          refine ⟨p, ks, rfl, SqL.of (by rw [upd_same, ← e1, List.map_map]; rfl), fun z hz => ⟨sp _ _ (e3 z hz), fun zz => ?_⟩, fun qs l perm srt nl => ?_⟩
          · have hm : z.2 ∈ ps.map pi2 := by rw [← e2]; exact List.mem_map.mpr ⟨z, hz, rfl⟩
            obtain ⟨t, _, et⟩ := List.mem_map.mp hm
            rw [zz] at et
            cases et
          have sl := same_new (o := .lst (qs.map fun z => V.ref z.1)) nl
          refine .inl ⟨l, _, rfl, SqL.of upd_same, fun t nt => ?_⟩
          have st := same_new (o := .tup (qs.map fun z => V.ref z.1)) nt
          refine ⟨small (m := 2) (Nat.le_refl _), fun c nc => ?_⟩
          have sc := same_new (o := .tup [vn n, V.ref t]) nc
          have sall := ((sp.trans sl).trans st).trans sc
          have gp : (qs.map (·.2)).Perm (ps.map pi2) := by
            rw [← e2]
            exact perm.map _
          have mem2 : ∀ z ∈ qs, ∃ tt ∈ ps, pi2 tt = z.2 := fun z hz => List.mem_map.mp (gp.mem_iff.mp (List.mem_map.mpr ⟨z, hz, rfl⟩))
          have tp : ((qs.map (·.2)).map un2).Perm ps := by
            have h := gp.map un2
            rw [List.map_map (g := un2) (f := pi2), show (un2 ∘ pi2) = id from funext un2_pi2, List.map_id] at h
            exact h
          have tnd := tp.symm.nodup g2
          refine q _ c n ((qs.map (·.2)).map un2) (row5.same sall) ((k1.trans k5).trans (.of sall)) ⟨t, qs.map (·.1), upd_same, ?_, ?_⟩ ⟨n1, n4, ?_, fun tt ht => g3 tt (tp.mem_iff.mp ht), ?_⟩
          · rw [List.map_map]
            exact sc _ _ upd_same
          · rw [List.map_map]
            refine paired_dual _ _ qs fun z hz => ?_
            obtain ⟨tt, htt, e⟩ := mem2 z hz
            have h := sall _ _ (e3 z (perm.mem_iff.mp hz))
            show _ = some (HO.tup [vn (un2 z.2).1, vn (un2 z.2).2])
            rw [← e] at h ⊢
            exact h
          · rw [tp.length_eq]
            exact ties_few n4 g2 g3
          · have ndq : (qs.map (·.2)).Nodup := by
              refine gp.symm.nodup ?_
              exact List.Pairwise.map _ (fun a b hab e => hab (pi2_inj e)) g2
            have srt2 := List.Pairwise.and srt ndq
            rw [List.map_map]
            rw [List.pairwise_map] at srt2 ⊢
            refine srt2.imp_of_mem fun {z1 z2} h1 h2 hh => ?_
            obtain ⟨t1, m1, q1⟩ := mem2 z1 h1
            obtain ⟨t2, m2, q2⟩ := mem2 z2 h2
            show (un2 z1.2).1 < (un2 z2.2).1 ∨ ((un2 z1.2).1 = (un2 z2.2).1 ∧ (un2 z1.2).2 < (un2 z2.2).2)
            rw [← q1, ← q2] at hh ⊢
            exact pi2_le hh.1 fun e => hh.2 (congrArg pi2 e)
end
end Sto

/-! part KD18 -/
set_option Elab.async false
set_option linter.all false
set_option maxRecDepth 100000
set_option maxHeartbeats 4000000
namespace Sto
open PySem PySem.Spec PyProof.Rows L2 StX
/-! ### the same data -/
def leaf (x y : V) : Prop := (∃ i, x = .int i ∧ y = .int i) ∨ (x = .non ∧ y = .non)
def Sq (H : Hp) (l : Bool) (a : Addr) (xs : List V) : Prop := H a = some (if l = true then .lst xs else .tup xs)
def alk : Nat → Hp → V → V → Prop
  | 0, _, x, y => leaf x y
  | d + 1, H, x, y => leaf x y ∨ ∃ (l : Bool) (a b : Addr) (xs ys : List V), x = .ref a ∧ y = .ref b ∧ Sq H l a xs ∧ Sq H l b ys ∧ ys.length ≤ 100 ∧ Paired (alk d H) xs ys
theorem alk_leaf {d : Nat} {H : Hp} {x y : V} (h : leaf x y) : alk d H x y := by
  cases d with
  | zero => exact h
  | succ d => exact .inl h
theorem alk_int {d : Nat} {H : Hp} (i : Int) : alk d H (.int i) (.int i) := alk_leaf (.inl ⟨i, rfl, rfl⟩)
theorem alk_same : ∀ {d : Nat} {H H' : Hp} {x y : V}, alk d H x y → Same H H' → alk d H' x y
  | 0, _, _, _, _, h, _ => h
  | d + 1, _, _, _, _, .inl h, _ => .inl h
  | d + 1, _, _, _, _, .inr ⟨l, a, b, xs, ys, e1, e2, h1, h2, h3, h4⟩, s => .inr ⟨l, a, b, xs, ys, e1, e2, s _ _ h1, s _ _ h2, h3, paired_imp (fun _ _ z => alk_same z s) h4⟩
def spAlk : Nat → Sp
  | 0 => fun _ _ _ _ => False
  | d + 1 => fun vs H Q _ => ∃ x y, vs = [x, y] ∧ alk d H x y ∧ ∀ H', Same H H' → Q (.bl true) H'
section
variable {K : PySem.W.Frag} {H : Hp}
theorem Sq.ty {l : Bool} {a : Addr} {xs : List V} (h : Sq H l a xs) : TyX K H (.ref a) (.type (if l = true then "list" else "tuple")) := by
  cases l with
  | true => exact .base (.lst h)
  | false => exact .base (.tup h)
theorem kitTL (l : Bool) : PySem.W.kitAny K (.type (if l = true then "list" else "tuple")) [.type "tuple", .type "list"] = some true := by
  cases l with
  | true => exact kitAny_cons (b := false) (kit_ty (by decide +kernel)) (fun _ => kitAny_cons (b := true) (kit_ty (by decide +kernel)) (fun z => nomatch z) fun _ => rfl) (fun z => nomatch z)
  | false => exact kitAny_cons (b := true) (kit_ty (by decide +kernel)) (fun z => nomatch z) fun _ => rfl
theorem kitL (l : Bool) : PySem.W.kitOne K (.type (if l = true then "list" else "tuple")) (.type "list") = some l := by
  cases l with
  | true => exact kit_ty (by decide +kernel)
  | false => exact kit_ty (by decide +kernel)
theorem kitI : PySem.W.kitAny K (.type "int") [.type "tuple", .type "list"] = some false :=
  kitAny_cons (b := false) (kit_ty (by decide +kernel)) (fun _ => kitAny_cons (b := false) (kit_ty (by decide +kernel)) (fun _ => kitAny_nil) (fun z => nomatch z)) (fun z => nomatch z)
theorem kitN : PySem.W.kitAny K (.type "NoneType") [.type "tuple", .type "list"] = some false :=
  kitAny_cons (b := false) (kit_ty (by decide +kernel)) (fun _ => kitAny_cons (b := false) (kit_ty (by decide +kernel)) (fun _ => kitAny_nil) (fun z => nomatch z)) (fun z => nomatch z)
theorem Sq.ix {l : Bool} {a : Addr} {xs : List V} {i : Nat} {v : V} {Q : VK} (h : Sq H l a xs) (e : xs[i]? = some v) (q : Q v H) : rIx K (.ref a) (.int (i : Int)) H Q := by
  cases l with
  | true => exact .inl ⟨a, xs, _, v, rfl, rfl, SqL.of h, atI_nat e, q⟩
  | false => exact .inr (.inl ⟨a, xs, _, v, rfl, rfl, SqT.of h, atI_nat e, q⟩)
theorem Sq.len {l : Bool} {a : Addr} {xs : List V} (h : Sq H l a xs) : SqL K H a xs ∨ SqT K H a xs := by
  cases l with
  | true => exact .inl (SqL.of h)
  | false => exact .inr (SqT.of h)
theorem ix_seqK {X : Cx} (K : PySem.W.Frag) (e : X.K = K) : IxR X (rIx K) := by
  subst e
  exact ix_seq
end
section
variable {P : Program} {w : World} {K : PySem.W.Frag} {mg : Str → Option Value} {base : Heap}
theorem cal_alk0 {x : Str} {st : Stmt} {ps : List Str} (D : DefAt K mg x st ps) : Cal P w K mg base 0 x (spAlk 0) := by
  obtain ⟨f, fd, F, m, b⟩ := D.ex
  exact ⟨f, fd, ps, ⟨fun _ _ _ _ h => h.elim, fun _ _ _ _ _ _ _ _ _ _ _ _ _ h => h.elim⟩, m, F.kp, b⟩
theorem scAlike : FnScope ["_law_found", "_law_due", "_law_k"] ["_law_found", "_law_due"] (defScope (topS 42)) := ⟨rfl, rfl, rfl, by decide +kernel, rfl, by decide +kernel, by decide +kernel⟩
theorem cal_law_alike (D : DefAt K mg "_law_alike" (topS 42) ["_law_found", "_law_due"]) (B : Blt mg) {k d : Nat} (c0 : Cal P w K mg base k "_law_alike" (spAlk d)) : Cal P w K mg base (k + 1) "_law_alike" (spAlk (d + 1)) := by
  refine cal_mk D scAlike (fun vs H Q E h => ?_) (fun f cdv A outer s H vs Q E hr h => ?_)
  · obtain ⟨x, y, rfl, _⟩ := h
    rfl
  · obtain ⟨x, y, rfl, ha, q⟩ := h
    have nd := scAlike.nd
    refine ⟨_, pss_cons (ps_if (pt_val (pe_callB call_isiT (by rfl) B.isi boot_isinstance (pa_cons (pv 1) (pa_cons (pe_tup (pa_cons (pe_bltn (v := .ty "tuple") (by rfl) B.tuple boot_tuple rfl) (pa_cons (pe_bltn (v := .ty "list") (by rfl) B.list boot_list rfl) pa_nil))) pa_nil))))
        (pss_cons (ps_if (PW.pt (pw_or (pt_not (pt_val (pe_callB call_isiT (by rfl) B.isi boot_isinstance (pa_cons (pv 0) (pa_cons (pe_tup (pa_cons (pe_bltn (v := .ty "tuple") (by rfl) B.tuple boot_tuple rfl) (pa_cons (pe_bltn (v := .ty "list") (by rfl) B.list boot_list rfl) pa_nil))) pa_nil)))))
            (pw_or1 (pt_cmpR op_ne (pe_callB call_isi (by rfl) B.isi boot_isinstance (pa_cons (pv 0) (pa_cons (pe_bltn (v := .ty "list") (by rfl) B.list boot_list rfl) pa_nil))) (pe_callB call_isi (by rfl) B.isi boot_isinstance (pa_cons (pv 1) (pa_cons (pe_bltn (v := .ty "list") (by rfl) B.list boot_list rfl) pa_nil))) (nomark _))))) (pss_one ps_never) pss_nil)
        (pss_cons (ps_if (pt_cmpR op_ne (pe_callB call_len_seq (by rfl) B.len boot_len (pa_cons (pv 0) pa_nil)) (pe_callB call_len_seq (by rfl) B.len boot_len (pa_cons (pv 1) pa_nil)) (nomark _)) (pss_one ps_never) pss_nil)
        (pss_one (ps_ret (pe_cmpR (op_eqD (hu64 hr)) (pe_lc (own := [("_law_k", 2)]) (g := gName 2) (by rfl) nd (pi_range1 (by rfl) B.range (pa_cons (pe_callB call_len_seq (by rfl) B.len boot_len (pa_cons (pv 1) pa_nil)) pa_nil))
          (blkOk_by (own := [("_law_k", 2)]) (N := ["_law_found", "_law_due", "_law_k"]) (sc := defScope (topS 42)) (by decide +kernel)) (fun _ _ _ _ _ => pg_name (i := 2) nd rfl (Or.inl rfl))
          (fun _ _ _ _ _ => pts_one (pt_not (pt_val (pe_c c0 hr (Nat.le_refl _) (by rfl) (pa_cons (pe_ix (ix_seqK K rfl) (pv 0) (pv 2) (fun _ _ => rfl)) (pa_cons (pe_ix (ix_seqK K rfl) (pv 1) (pv 2) (fun _ _ => rfl)) pa_nil))))))
          (fun _ _ _ _ _ => pv 2)) (pe_lst pa_nil) (nomark _)))))) pss_nil)
      (pss_cons (ps_if (PW.pt (pw_or (pt_cmp (pc_isN (pv 1))) (pw_or1 (pt_val (pe_callB call_isi (by rfl) B.isi boot_isinstance (pa_cons (pv 1) (pa_cons (pe_bltn (v := .ty "str") (by rfl) B.str boot_str rfl) pa_nil)))))))
        (pss_one (ps_ret (pe_and (pe_cmpR op_eq (pv 0) (pv 1) (nomark _)) (pe_one (pe_cmpR op_eq (pe_callB call_isi (by rfl) B.isi boot_isinstance (pa_cons (pv 0) (pa_cons (pe_bltn (v := .ty "str") (by rfl) B.str boot_str rfl) pa_nil))) (pe_callB call_isi (by rfl) B.isi boot_isinstance (pa_cons (pv 1) (pa_cons (pe_bltn (v := .ty "str") (by rfl) B.str boot_str rfl) pa_nil))) (nomark _)))))) pss_nil)
      (pss_one (ps_ret (pe_and (pe_callB call_isi (by rfl) B.isi boot_isinstance (pa_cons (pv 0) (pa_cons (pe_bltn (v := .ty "int") (by rfl) B.int boot_int rfl) pa_nil)))
        (pe_and (pe_cmpR op_eq (pe_callB call_isi (by rfl) B.isi boot_isinstance (pa_cons (pv 0) (pa_cons (pe_bltn (v := .ty "bool") (by rfl) B.bool boot_bool rfl) pa_nil))) (pe_callB call_isi (by rfl) B.isi boot_isinstance (pa_cons (pv 1) (pa_cons (pe_bltn (v := .ty "bool") (by rfl) B.bool boot_bool rfl) pa_nil))) (nomark _))
          (pe_one (pe_cmpR op_eq (pv 0) (pv 1) (nomark _)))))))), ?_⟩
    have cases : leaf x y ∨ ∃ (e : Nat) (l : Bool) (a b : Addr) (xs ys : List V), d = e + 1 ∧ x = .ref a ∧ y = .ref b ∧ Sq H l a xs ∧ Sq H l b ys ∧ ys.length ≤ 100 ∧ Paired (alk e H) xs ys := by
      cases d with
      | zero => exact .inl ha
      | succ e =>
        rcases ha with h | ⟨l, a, b, xs, ys, h⟩
        · exact .inl h
        · exact .inr ⟨e, l, a, b, xs, ys, rfl, h⟩
    rcases cases with (⟨i, rfl, rfl⟩ | ⟨rfl, rfl⟩) | ⟨e, l, a, b, xs, ys, rfl, rfl, rfl, h1, h2, h3, h4⟩
    · refine ⟨_, rfl, small (m := 2) (Nat.le_refl _), fun tp ntp => ⟨_, tp, _, _, _, false, rfl, upd_same, .cons (.ty _) (.cons (.ty _) .nil), .base (.int i), kitI, false, rfl, iteF ?_⟩⟩
      refine ⟨_, rfl, _, rfl, ?_⟩
      rw [show decide (V.int i = V.non) = false from decide_eq_false fun z => nomatch z]
      refine iteF ⟨_, rfl, _, _, _, _, false, rfl, .ty _, .base (.int i), kit_ty (by decide +kernel), false, rfl, iteF ?_⟩
      refine ⟨_, rfl, _, _, _, _, true, rfl, .ty _, .base (.int i), kit_ty (by decide +kernel), true, rfl, iteT ?_⟩
      refine ⟨_, rfl, _, _, _, _, false, rfl, .ty _, .base (.int i), kit_ty (by decide +kernel), _, rfl, _, _, _, _, false, rfl, .ty _, .base (.int i), kit_ty (by decide +kernel), rfl, ?_⟩
      rw [decide_eq_true (rfl : V.bl false = V.bl false)]
      refine ⟨true, rfl, iteT ⟨_, rfl, _, rfl, rfl, ?_⟩⟩
      rw [decide_eq_true (rfl : V.int i = V.int i)]
      exact q _ (same_new ntp)
    · refine ⟨_, rfl, small (m := 2) (Nat.le_refl _), fun tp ntp => ⟨_, tp, _, _, _, false, rfl, upd_same, .cons (.ty _) (.cons (.ty _) .nil), .base .non, kitN, false, rfl, iteF ?_⟩⟩
      refine ⟨_, rfl, _, rfl, ?_⟩
      rw [decide_eq_true (rfl : V.non = V.non)]
      refine iteT (iteT ?_)
      refine ⟨_, rfl, _, rfl, rfl, ?_⟩
      rw [decide_eq_true (rfl : V.non = V.non)]
      refine ⟨true, rfl, iteT ?_⟩
      refine ⟨_, rfl, _, _, _, _, false, rfl, .ty _, .base .non, kit_ty (by decide +kernel), _, rfl, _, _, _, _, false, rfl, .ty _, .base .non, kit_ty (by decide +kernel), rfl, ?_⟩
      rw [decide_eq_true (rfl : V.bl false = V.bl false)]
      exact q _ (same_new ntp)
    · have hl : xs.length = ys.length := Paired.length h4
      refine ⟨_, rfl, small (m := 2) (Nat.le_refl _), fun tp ntp => ⟨_, tp, _, _, _, true, rfl, upd_same, .cons (.ty _) (.cons (.ty _) .nil), Sq.ty (l := l) ((same_new ntp) _ _ h2), kitTL l, true, rfl, iteT ?_⟩⟩
      have s1 := same_new (o := .tup [V.ty "tuple", V.ty "list"]) ntp
      refine ⟨_, rfl, small (m := 2) (Nat.le_refl _), fun tq ntq => ⟨_, tq, _, _, _, true, rfl, upd_same, .cons (.ty _) (.cons (.ty _) .nil), Sq.ty (l := l) ((same_new ntq) _ _ (s1 _ _ h1)), kitTL l, true, rfl, iteF ?_⟩⟩
      have s2 := s1.trans (same_new (o := .tup [V.ty "tuple", V.ty "list"]) ntq)
      refine ⟨_, rfl, _, _, _, _, l, rfl, .ty _, Sq.ty (l := l) (s2 _ _ h1), kitL l, _, rfl, _, _, _, _, l, rfl, .ty _, Sq.ty (l := l) (s2 _ _ h2), kitL l, rfl, ?_⟩
      rw [decide_eq_true (rfl : V.bl l = V.bl l)]
      refine ⟨false, rfl, iteF ?_⟩
      refine ⟨_, rfl, a, xs, rfl, Sq.len (l := l) (s2 _ _ h1), _, rfl, b, ys, rfl, Sq.len (l := l) (s2 _ _ h2), rfl, ?_⟩
      rw [hl, decide_eq_true (rfl : V.int (ys.length : Int) = V.int (ys.length : Int))]
      refine ⟨false, rfl, iteF ?_⟩
      refine ⟨_, rfl, b, ys, rfl, Sq.len (l := l) (s2 _ _ h2), _, rfl, by omega, by omega, fun D nD => ?_⟩
      have nDH : H D = none := s2.free nD
      refine lc_it walk_range (fun j H' => Same H H' ∧ H' D = some (.lst [])) ⟨s2.trans (same_new nD), upd_same⟩ (fun _ _ _ _ => trivial) ?_ ?_
      · rintro j x H3 H4 hj ⟨s3, d3⟩ ⟨rfl, ex⟩
        rw [Int.toNat_natCast] at hj
        have ex : x = vn j := by
          rw [ex]
          show V.int (0 + (j : Int)) = _
          rw [Int.zero_add]
        subst ex
        have hx : xs[j]? = some xs[j] := List.getElem?_eq_getElem (by omega)
        have hy : ys[j]? = some ys[j] := List.getElem?_eq_getElem hj
        have hxy : alk e H xs[j] ys[j] := by
          obtain ⟨y', g1, g2⟩ := paired_at' h4 hx
          rw [hy] at g1
          cases g1
          exact g2
        refine ⟨rfl, ?_⟩
        refine ⟨_, rfl, _, rfl, Sq.ix (l := l) (s3 _ _ h1) hx ⟨_, rfl, _, rfl, Sq.ix (l := l) (s3 _ _ h2) hy ⟨_, _, rfl, alk_same hxy s3, fun H5 s5 => ⟨true, rfl, iteF ⟨s3.trans s5, s5 _ _ d3⟩⟩⟩⟩⟩
      · rintro H3 ⟨s3, d3⟩
        refine ⟨Nat.zero_le _, fun u nu => ?_⟩
        have su := same_new (o := .lst []) nu
        exact eq_pairs (bs := []) (ts := []) (SqL.of (su _ _ d3)) .nil (SqL.of upd_same) (q _ (s3.trans su))
end
end Sto

/-! part KD19 -/
set_option Elab.async false
set_option linter.all false
set_option maxRecDepth 100000
set_option maxHeartbeats 4000000
namespace Sto
open PySem PySem.Spec PyProof.Rows L2 StX
/-! ### what the law's own body needs -/
theorem if_go {b : Bool} {ta : TE} {y : V} {σ : L2.St} {H : Hp} {Q : VK} (G : V → Hp → Prop) (fin : ∀ x H', G x H' → Q x H') (h1 : b = true → ∀ Q' : VK, (∀ x H', G x H' → Q' x H') → ta σ H Q') (h2 : b = false → G y H) :
    if b = true then ta σ H Q else tC y σ H Q := by
  cases b with
  | true => exact h1 rfl Q fin
  | false => exact fin _ _ (h2 rfl)
theorem lens_len (f : Nat → Nat) : (lens f).length ≤ 21 := by
  unfold lens
  rw [List.length_map]
  exact Nat.le_trans (List.length_filter_le _ _) (by simp)
theorem alk_pairs {H : Hp} {p q : Addr} {bs cs : List Addr} {ts : List Tie} (h1 : H p = some (.tup (bs.map V.ref))) (h2 : Paired (PairT H) bs ts) (h3 : H q = some (.tup (cs.map V.ref))) (h4 : Paired (PairT H) cs ts) (hl : ts.length ≤ 100) : alk 2 H (.ref p) (.ref q) := by
  refine .inr ⟨false, p, q, _, _, rfl, rfl, h1, h3, by rw [List.length_map, Paired.length h4]; exact hl, ?_⟩
  clear h1 h3 hl
  induction h2 generalizing cs with
  | nil =>
    cases h4
    exact .nil
  | cons r t ih =>
    cases h4 with
    | cons r2 t2 => exact .cons (.inr ⟨false, _, _, _, _, rfl, rfl, r, r2, by show 2 ≤ 100; decide, .cons (alk_int _) (.cons (alk_int _) .nil)⟩) (ih t2)
theorem alk_two {H : Hp} {p q : Addr} {x1 x2 y1 y2 : V} (h1 : H p = some (.lst [x1, x2])) (h3 : H q = some (.lst [y1, y2])) (e1 : leaf x1 y1) (e2 : leaf x2 y2) : alk 2 H (.ref p) (.ref q) :=
  .inr ⟨true, p, q, _, _, rfl, rfl, h1, h3, by show 2 ≤ 100; decide, .cons (alk_leaf e1) (.cons (alk_leaf e2) .nil)⟩
theorem leaf_int {i j : Int} (e : i = j) : leaf (.int i) (.int j) := .inl ⟨i, rfl, by rw [e]⟩
def TopT (f : Nat → Nat) (y : V) : Prop := (∃ m, y = vn m ∧ IsMost f m) ∨ (y = .non ∧ ∀ k, f k = 0)
theorem TopT.leaf {f : Nat → Nat} {x y : V} (h : TopT f x) (q : TopT f y) : leaf x y := by
  rcases h with ⟨m, rfl, h⟩ | ⟨rfl, h⟩ <;> rcases q with ⟨m', rfl, q⟩ | ⟨rfl, q⟩
  · exact leaf_int (by rw [h.eq q])
  · exact (h.1 (q m)).elim
  · exact (q.1 (h m')).elim
  · exact .inr ⟨rfl, rfl⟩
theorem ek_kV (kv : List (Nat × Nat)) : (ek kv).map (fun e => kV e.1) = (kv.map fun e => (e.1 : Int)).map V.int := by
  unfold ek
  rw [List.map_map, List.map_map]
  rfl
theorem keys_lens {kv : List (Nat × Nat)} {f : Nat → Nat} (hg : IsG kv f) (hf : ∀ k, f k ≠ 0 → k ≤ 20) {zs : List Int} (pz : zs.Perm (kv.map fun e => (e.1 : Int))) (sz : zs.Pairwise (· ≤ ·)) : zs = (lens f).map fun e => (e.1 : Int) := by
  have p1 : zs.Perm ((kv.map (·.1)).map fun k : Nat => (k : Int)) := by
    rw [List.map_map]
    exact pz
  have e := sortN_int p1 sz
  rw [e, lens_keys_eq ((sortN_perm _).trans ((lens_perm hg hf).map _)) (sortN_sorted _), List.map_map]
  rfl
theorem keysF {H : Hp} : ∀ {kvs : List (List Key × V)} {gs : List (List Int)} {bs : List Addr}, kvs.map (·.1) = gs.map key → IsKeys H kvs bs → ∃ ks : List (Addr × List Int), ks.map (·.1) = bs ∧ ks.map (·.2) = gs ∧ ∀ z ∈ ks, HtT H z.1 z.2
  | [], [], _, _, .nil => ⟨[], rfl, rfl, fun z h => (nomatch h)⟩
  | [], _ :: _, _, e, _ => nomatch e
  | _ :: _, [], _, e, _ => nomatch e
  | p :: kvs, g :: gs, _, e, .cons (b := b) r t => by
    obtain ⟨e1, e2⟩ := List.cons.inj e
    have e1 : p.1 = key g := e1
    obtain ⟨ks, h1, h2, h3⟩ := keysF e2 t
    refine ⟨(b, g) :: ks, by rw [List.map_cons, h1], by rw [List.map_cons, h2], fun z hz => ?_⟩
    rcases List.mem_cons.mp hz with rfl | hz
    · have r : H b = some (.tup (p.1.map kV)) := r
      rw [e1, show (key g).map kV = g.map V.int from kv_ints g] at r
      exact r
    · exact h3 z hz
theorem et_keys (fs : List (List Int × Addr)) : (et fs).map (·.1) = (fs.map (·.1)).map key := by
  unfold et
  rw [List.map_map, List.map_map]
  rfl
theorem filter_one {α β : Type} [DecidableEq β] {g : α → β} {v : β} {p : α → Bool} : ∀ {l : List α}, (l.map g).Nodup → v ∈ l.map g → (∀ z ∈ l, p z = true ↔ g z = v) → ∃ z, l.filter p = [z] ∧ g z = v ∧ z ∈ l
  | [], _, h, _ => nomatch h
  | a :: l, nd, h, hp => by
    rw [List.map_cons, List.nodup_cons] at nd
    by_cases c : g a = v
    · refine ⟨a, ?_, c, List.mem_cons_self ..⟩
      rw [List.filter_cons_of_pos ((hp a (List.mem_cons_self ..)).mpr c)]
      have e : l.filter p = [] := List.filter_eq_nil_iff.mpr fun z hz hpz => nd.1 (by
        rw [c, ← (hp z (List.mem_cons_of_mem _ hz)).mp hpz]
        exact List.mem_map.mpr ⟨z, hz, rfl⟩)
      rw [e]
    · have hv : v ∈ l.map g := by
        rcases List.mem_cons.mp h with e | h
        · exact (c e.symm).elim
        · exact h
      obtain ⟨z, h1, h2, h3⟩ := filter_one nd.2 hv fun z hz => hp z (List.mem_cons_of_mem _ hz)
      refine ⟨z, ?_, h2, List.mem_cons_of_mem _ h3⟩
      rw [List.filter_cons_of_neg (fun z => c ((hp a (List.mem_cons_self ..)).mp z))]
      exact h1
theorem sumN_map {α β : Type} (l : List α) (g : α → β) (f : β → Nat) : sumN (l.map g) f = sumN l fun z => f (g z) := by
  unfold sumN
  rw [List.map_map]
  rfl
section
variable {K : PySem.W.Frag} {H H' : Hp} {r lf : Addr}
theorem RowT.kpK (h : RowT K H r) (k : Kp r H H') {d : Addr} {f : Nat → Nat} (i : InnT H d f) : InnT H' d f := by
  obtain ⟨xs, h1⟩ := h.lst
  obtain ⟨kv, g1, g2⟩ := i
  exact ⟨kv, k _ _ (ne_of g1 h1 fun z => nomatch z) g1, g2⟩
theorem RowT.kpT (h : RowT K H r) (k : Kp r H H') {fs : List (List Int × Addr)} {F : List Int → Nat → Nat} (t : Tab H lf fs F) : Tab H' lf fs F := by
  obtain ⟨xs, h1⟩ := h.lst
  exact ⟨k _ _ (ne_of t.at_ h1 fun z => nomatch z) t.at_, t.nd, t.mem, fun g d e => h.kpK k (t.inn g d e)⟩
end
theorem op_eqDK {X : Cx} (K : PySem.W.Frag) (e : X.K = K) (hu : X.A.units + 64 < cLine) : OpR X (compareOp .Eq) (rEqD K) := by
  subst e
  exact op_eqD hu
def spLaw (K : PySem.W.Frag) : Sp := fun vs H Q _ => ∃ (a : Addr) (ns : List Int), vs = [.ref a] ∧ Scr K H a ns ∧ ∀ H', Q (.bl true) H'
theorem scLaw : FnScope ["_law_script", "_law_row", "_law_web_here", "_law_heights_here", "_law_goal_here", "_law_known", "_law_told", "_law_steps", "_law_many", "_law_top", "_law_both", "_law_now", "_law_ends", "_law_last"] ["_law_script"] (defScope (topS 51)) := ⟨rfl, rfl, rfl, by decide +kernel, rfl, by decide +kernel, by decide +kernel⟩
end Sto

/-! part KD20 -/
set_option Elab.async false
set_option linter.all false
set_option maxRecDepth 100000
set_option maxHeartbeats 8000000
namespace Sto
open PySem PySem.Spec PyProof.Rows L2 StX
section
variable {P : Program} {w : World} {K : PySem.W.Frag} {mg : Str → Option Value} {base : Heap}
theorem ok_law {f : Addr} {fd : FuncData} (F : Fun K "law" "law" (topS 51) f fd) (B : Blt mg) (cWeb : Cal P w K mg base 2 "_law_web" (spLWeb K)) (cHts : Cal P w K mg base 2 "_law_heights" (spLHeights K)) (cGoal : Cal P w K mg base 4 "_law_goal" (spGoal K)) (cLen : Cal P w K mg base 3 "_law_lengths" spLens)
    (cTak : Cal P w K mg base 1 "_law_taken" (spTaken K)) (cA : Cal P w K mg base 3 "_law_alike" (spAlk 3)) (cSt : Cal P w K mg base 2 "_law_stoops" spStoops) (cRowL : Cal P w K mg base 6 "row_lengths" spRowL) (cCount : Cal P w K mg base 6 "count_rows" spCount) (cMost : Cal P w K mg base 6 "most_stoops" spMost)
    (cChains : Cal P w K mg base 6 "count_chains" spChains) (cAllL : Cal P w K mg base 6 "all_lengths" spAllL) (cLong : Cal P w K mg base 6 "longest" spLongest) (cShort : Cal P w K mg base 6 "shortest" spShortest) (cRows : Cal P w K mg base 6 "rows_of_length" spRowsOf) : FnOk P w K mg base CX0 7 f fd ["_law_script"] (spLaw K) := by
  refine F.ok scLaw (fun vs H Q E h => ?_) (fun cdv A outer s H vs Q E hr h => ?_)
  · obtain ⟨a, ns, rfl, _⟩ := h
    rfl
  · obtain ⟨a, ns, rfl, hsc, q⟩ := h
    have nd := scLaw.nd
    have hu := hu_of hr
    refine ⟨_, pss_cons (ps_set (i := 1) nd rfl (.inl rfl) (pe_lst (pa_cons (pv 0) (pa_cons pe_int (pa_cons pe_int (pa_cons pe_int pa_nil))))))
      (pss_cons (ps_set (i := 2) nd rfl (.inr rfl) (pe_c cWeb hr (by decide) (by rfl) (pa_cons (pv 1) (pa_cons pe_int (pa_cons pe_int pa_nil)))))
      (pss_cons (ps_set (i := 3) nd rfl (.inl rfl) (pe_c cHts hr (by decide) (by rfl) (pa_cons (pv 1) (pa_cons (pe_ix ix_tup (pv 2) pe_int (fun _ _ => rfl)) (pa_cons pe_int pa_nil)))))
      (pss_cons (ps_asg (pe_tup (pa_cons (pe_c cGoal hr (by decide) (by rfl) (pa_cons (pv 1) (pa_cons (pv 2) (pa_cons (pv 3) pa_nil)))) (pa_cons (pe_c cLen hr (by decide) (by rfl) (pa_cons (pv 2) (pa_cons (pv 3) pa_nil))) pa_nil))) (pg_tup rfl (pgs_cons (pg_name (i := 4) nd rfl (.inl rfl)) (pgs_cons (pg_name (i := 5) nd rfl (.inr rfl)) pgs_nil))))
      (pss_cons (ps_asg (pe_tup (pa_cons (pe_dget2 hu (pv 5) (pv 4) pe_dnewK ⟨rfl, rfl, rfl, rfl⟩) (pa_cons (pe_c cTak hr (by decide) (by rfl) (pa_cons (pv 1) (pa_cons pe_int pa_nil))) pa_nil))) (pg_tup rfl (pgs_cons (pg_name (i := 6) nd rfl (.inr rfl)) (pgs_cons (pg_name (i := 7) nd rfl (.inr rfl)) pgs_nil))))
      (pss_cons (ps_if (pt_not (pt_val (pe_c cA hr (by decide) (by rfl) (pa_cons (pe_c cRowL hr (by decide) (by rfl) (pa_cons (pv 2) (pa_cons (pv 3) (pa_cons (pv 4) pa_nil)))) (pa_cons (pe_tupleOf (by rfl) B.tuple (pe_lc (own := [("_law_many", 8)]) (g := gName 8) (tt := tYes) (by rfl) nd (pi_list (pe_callB cr_sortedI (by rfl) B.sorted boot_sorted (pa_cons (pe_callTy (call_listD rfl) (by rfl) B.list boot_list (pa_cons (pv 6) pa_nil)) pa_nil)))
          (blkOk_by (own := [("_law_many", 8)]) (N := ["_law_script", "_law_row", "_law_web_here", "_law_heights_here", "_law_goal_here", "_law_known", "_law_told", "_law_steps", "_law_many", "_law_top", "_law_both", "_law_now", "_law_ends", "_law_last"]) (sc := defScope (topS 51)) (by decide +kernel)) (fun _ _ _ _ _ => pg_name (i := 8) nd rfl (Or.inl rfl)) (fun _ _ _ _ _ => pts_nil) (fun _ _ _ _ _ => pe_tup (pa_cons (pv 8) (pa_cons (pe_dget hu (pv 6) (pv 8) (fun _ _ => rfl)) pa_nil))))) pa_nil))))) (pss_one ps_never) pss_nil)
      (pss_cons (ps_set (i := 9) nd rfl (.inl rfl) (pe_ifExp (pt_cmpR (op_neK0 (hu0 hr)) (pv 6) pe_dnewK (nomark _)) (pe_callB (cr_max rfl) (by rfl) B.max boot_max (pa_cons (pe_callTy (call_listD rfl) (by rfl) B.list boot_list (pa_cons (pv 6) pa_nil)) pa_nil)) pe_non))
      (pss_cons (ps_set (i := 10) nd rfl (.inl rfl) (pe_lst (pa_cons (pe_c cCount hr (by decide) (by rfl) (pa_cons (pv 2) (pa_cons (pv 3) (pa_cons (pv 4) (pa_cons (pv 7) pa_nil))))) (pa_cons (pe_c cMost hr (by decide) (by rfl) (pa_cons (pv 2) (pa_cons (pv 3) (pa_cons (pv 4) pa_nil)))) pa_nil))))
      (pss_cons (ps_if (pt_not (pt_val (pe_c cA hr (by decide) (by rfl) (pa_cons (pv 10) (pa_cons (pe_lst (pa_cons (pe_dget2 hu (pv 6) (pv 7) pe_int ⟨rfl, rfl, rfl, rfl⟩) (pa_cons (pv 9) pa_nil))) pa_nil))))) (pss_one ps_never) pss_nil)
      (pss_cons (ps_if (pt_not (pt_val (pe_c cA hr (by decide) (by rfl) (pa_cons (pe_c cChains hr (by decide) (by rfl) (pa_cons (pv 2) (pa_cons (pv 3) (pa_cons (pv 4) pa_nil)))) (pa_cons (pe_callB (cr_sum rfl) (by rfl) B.sum boot_sum (pa_cons (pe_lc (own := [("_law_many", 8)]) (g := gName 8) (tt := tYes) (by rfl) nd (pi_list (pe_callTy (call_listD rfl) (by rfl) B.list boot_list (pa_cons (pv 6) pa_nil)))
          (blkOk_by (own := [("_law_many", 8)]) (N := ["_law_script", "_law_row", "_law_web_here", "_law_heights_here", "_law_goal_here", "_law_known", "_law_told", "_law_steps", "_law_many", "_law_top", "_law_both", "_law_now", "_law_ends", "_law_last"]) (sc := defScope (topS 51)) (by decide +kernel)) (fun _ _ _ _ _ => pg_name (i := 8) nd rfl (Or.inl rfl)) (fun _ _ _ _ _ => pts_nil) (fun _ _ _ _ _ => pe_dget hu (pv 6) (pv 8) (fun _ _ => rfl))) pa_nil)) pa_nil))))) (pss_one ps_never) pss_nil)
      (pss_cons (ps_setLc (i := 12) (own := [("_law_now", 11)]) (g := gName 11) rfl nd rfl rfl (sw_true rfl rfl rfl (by decide +kernel)) (pi_list (pe_callTy (call_list_dT rfl) (by rfl) B.list boot_list (pa_cons (pv 5) pa_nil)))
          (blkOk_by (own := [("_law_now", 11)]) (N := ["_law_script", "_law_row", "_law_web_here", "_law_heights_here", "_law_goal_here", "_law_known", "_law_told", "_law_steps", "_law_many", "_law_top", "_law_both", "_law_now", "_law_ends", "_law_last"]) (sc := defScope (topS 51)) (by decide +kernel)) (fun _ _ _ _ _ => pg_name (i := 11) nd rfl (Or.inl rfl))
          (fun _ _ _ _ _ => pts_one (pt_cmpR (op_eqDK K rfl (hu64 hr)) (pe_c cSt hr (by decide) (by rfl) (pa_cons (pv 2) (pa_cons (pv 11) pa_nil))) (pe_lst pa_nil) (nomark _))) (fun _ _ _ _ _ => pv 11))
      (pss_cons (ps_if (pt_cmpR op_ne (pe_callB call_len_seq (by rfl) B.len boot_len (pa_cons (pv 12) pa_nil)) pe_int (nomark _)) (pss_one ps_never) pss_nil)
      (pss_cons (ps_set (i := 13) nd rfl (.inr rfl) (pe_dget hu (pv 5) (pe_ix ix_list (pv 12) pe_int (fun _ _ => rfl)) (fun _ _ => rfl)))
      (pss_cons (ps_if (pt_not (pt_val (pe_c cA hr (by decide) (by rfl) (pa_cons (pe_c cAllL hr (by decide) (by rfl) (pa_cons (pv 2) (pa_cons (pv 3) pa_nil))) (pa_cons (pe_tupleOf (by rfl) B.tuple (pe_lc (own := [("_law_many", 8)]) (g := gName 8) (tt := tYes) (by rfl) nd (pi_list (pe_callB cr_sortedI (by rfl) B.sorted boot_sorted (pa_cons (pe_callTy (call_listD rfl) (by rfl) B.list boot_list (pa_cons (pv 13) pa_nil)) pa_nil)))
          (blkOk_by (own := [("_law_many", 8)]) (N := ["_law_script", "_law_row", "_law_web_here", "_law_heights_here", "_law_goal_here", "_law_known", "_law_told", "_law_steps", "_law_many", "_law_top", "_law_both", "_law_now", "_law_ends", "_law_last"]) (sc := defScope (topS 51)) (by decide +kernel)) (fun _ _ _ _ _ => pg_name (i := 8) nd rfl (Or.inl rfl)) (fun _ _ _ _ _ => pts_nil) (fun _ _ _ _ _ => pe_tup (pa_cons (pv 8) (pa_cons (pe_dget hu (pv 13) (pv 8) (fun _ _ => rfl)) pa_nil))))) pa_nil))))) (pss_one ps_never) pss_nil)
      (pss_cons (ps_if (pt_not (pt_val (pe_c cA hr (by decide) (by rfl) (pa_cons (pe_lst (pa_cons (pe_c cLong hr (by decide) (by rfl) (pa_cons (pv 2) (pa_cons (pv 3) pa_nil))) (pa_cons (pe_c cShort hr (by decide) (by rfl) (pa_cons (pv 2) (pa_cons (pv 3) pa_nil))) pa_nil))) (pa_cons (pe_lst (pa_cons (pe_callB (cr_max rfl) (by rfl) B.max boot_max (pa_cons (pe_callTy (call_listD rfl) (by rfl) B.list boot_list (pa_cons (pv 13) pa_nil)) pa_nil)) (pa_cons (pe_callB (cr_min rfl) (by rfl) B.min boot_min (pa_cons (pe_callTy (call_listD rfl) (by rfl) B.list boot_list (pa_cons (pv 13) pa_nil)) pa_nil)) pa_nil))) pa_nil))))) (pss_one ps_never) pss_nil)
      (pss_one (ps_ret (pe_c cA hr (by decide) (by rfl) (pa_cons (pe_c cRows hr (by decide) (by rfl) (pa_cons (pv 2) (pa_cons (pv 3) (pa_cons (pv 7) pa_nil)))) (pa_cons (pe_callB (cr_sum rfl) (by rfl) B.sum boot_sum (pa_cons (pe_lc (own := [("_law_now", 11)]) (g := gName 11) (tt := tYes) (by rfl) nd (pi_list (pe_callTy (call_list_dT rfl) (by rfl) B.list boot_list (pa_cons (pv 5) pa_nil)))
          (blkOk_by (own := [("_law_now", 11)]) (N := ["_law_script", "_law_row", "_law_web_here", "_law_heights_here", "_law_goal_here", "_law_known", "_law_told", "_law_steps", "_law_many", "_law_top", "_law_both", "_law_now", "_law_ends", "_law_last"]) (sc := defScope (topS 51)) (by decide +kernel)) (fun _ _ _ _ _ => pg_name (i := 11) nd rfl (Or.inl rfl)) (fun _ _ _ _ _ => pts_nil) (fun _ _ _ _ _ => pe_dget2 hu (pe_dget hu (pv 5) (pv 11) (fun _ _ => rfl)) (pv 7) pe_int ⟨rfl, rfl, rfl, rfl⟩)) pa_nil)) pa_nil))))))))))))))))))), ?_⟩
    -- the draws
    refine ⟨_, rfl, small (m := 4) (Nat.le_refl _), fun r nr => ?_⟩
    have s1 := same_new (o := .lst [V.ref a, V.int 0, V.int 4912, V.int 0]) nr
    have row1 : RowT K (upd H r (.lst [V.ref a, V.int 0, V.int 4912, V.int 0])) r := ⟨a, ns, 0, 4912, 0, upd_same, by decide, by decide, hsc.same s1⟩
    generalize upd H r (.lst [V.ref a, V.int 0, V.int 4912, V.int 0]) = H1 at row1 ⊢
    refine ⟨_, rfl, r, rfl, row1, fun H2 wp n ts row2 k2 hw2 ok => ?_⟩
    obtain ⟨wt, wbs, hwt, _⟩ := id hw2
    refine ⟨_, rfl, _, rfl, wp, _, 0, _, rfl, rfl, SqT.of hwt, atI_nat (j := 0) rfl, r, n, rfl, row2, ok.n4, fun H3 hp h0 row3 k3 hh3 hh => ?_⟩
    have hw3 := hw2.tups (row2.tups k3)
    refine ⟨_, rfl, _, rfl, _, rfl, r, wp, hp, n, ts, h0, rfl, row3, hw3, hh3, ok, hh, fun H4 gp g row4 k4 hg4 hg => ?_⟩
    have hw4 := hw3.tups (row3.tups k4)
    have hh4 := hh3.tups (row3.tups k4)
    refine ⟨_, rfl, _, rfl, wp, hp, n, ts, h0, rfl, hw4, hh4, ok, hh, fun H5 lf fs s5 nf T5 => ?_⟩
    refine ⟨small (m := 2) (Nat.le_refl _), fun tp ntp => ?_⟩
    have s56 := same_new (o := .tup [V.ref gp, V.ref lf]) ntp
    refine ⟨tp, _, rfl, SqT.of upd_same, rfl, _, _, rfl, _, _, rfl, rfl, ?_⟩
    have s46 := s5.trans s56
    have hw6 := hw4.same s46
    have hh6 := hh4.same s46
    have hg6 := hg4.same s46
    have row6 := row4.same s46
    have T6 := T5.same s56
    generalize upd H5 tp (.tup [V.ref gp, V.ref lf]) = H6 at hw6 hh6 hg6 row6 T6 ⊢
    refine ⟨_, rfl, lf, rfl, .inr ⟨_, .of T6.at_⟩, _, rfl, fun e ne => ⟨_, DGet.t ((same_new ne) _ _ T6.at_) (key_tup (hg6.same (same_new ne))), ?_⟩⟩
    obtain ⟨dd, kv, ev, hdd, hkv⟩ := T6.get2 ne g
    rw [valV_et, ev]
    have se := same_new (o := .dK []) ne
    have hi7 : InnT (upd H6 e (.dK [])) dd fun k => W n ts h0 k g := ⟨kv, hdd, hkv⟩
    have row7 := row6.same se
    refine ⟨_, rfl, r, 8, rfl, row7, by decide, by decide, fun H8 v row8 k8 v0 v8 => ?_⟩
    obtain ⟨st, rfl⟩ := Int.eq_ofNat_of_zero_le v0
    have hst : st ≤ 60 := by omega
    have tp8 := row7.tups k8
    refine ⟨small (m := 2) (Nat.le_refl _), fun tq ntq => ?_⟩
    have s9 := same_new (o := .tup [V.ref dd, V.int ((st : Nat) : Int)]) ntq
    refine ⟨tq, _, rfl, SqT.of upd_same, rfl, _, _, rfl, _, _, rfl, rfl, ?_⟩
    have hwM := ((hw6.same se).tups tp8).same s9
    have hhM := ((hh6.same se).tups tp8).same s9
    have hgM := ((hg6.same se).tups tp8).same s9
    have TM := (row7.kpT k8 (T6.same se)).same s9
    have hdM : upd H8 tq (.tup [V.ref dd, V.int ((st : Nat) : Int)]) dd = some (.dK (ek kv)) := by
      obtain ⟨xs, h1⟩ := row7.lst
      exact s9 _ _ (k8 _ _ (ne_of hdd h1 fun z => nomatch z) hdd)
    generalize upd H8 tq (.tup [V.ref dd, V.int ((st : Nat) : Int)]) = M at hwM hhM hgM TM hdM ⊢
    clear hw2 hw3 hw4 hh3 hh4 hg4 T5 hw6 hh6 hg6 T6 hdd hi7 row1 row2 row3 row4 row6 row7 row8 k2 k3 k4 k8 tp8 s5 s56 s46 s9 se hwt ntq ntp nf ne v0 v8 ev s1 nr hsc
    have bf : ∀ k, W n ts h0 k g ≠ 0 → k ≤ 20 := fun k hk => W_big ok hh hk
    -- row_lengths
    refine ⟨_, rfl, _, rfl, _, rfl, wp, hp, gp, n, ts, h0, g, rfl, hwM, hhM, hgM, ok, hh, hg, fun Ha pr bs sa npr hpr hbs => ?_⟩
    refine ⟨_, rfl, dd, ek kv, rfl, .of (sa _ _ hdM), fun p1 np1 => ⟨p1, _, rfl, SqL.of (by rw [upd_same, ek_kV]), fun zs p2 pz sz np2 => ⟨p2, rfl, ⟨_, SqL.of upd_same⟩, fun D nD => ?_⟩⟩⟩
    have ez := keys_lens hkv bf pz sz
    have s12 : Same M _ := (sa.trans (same_new (o := .lst ((ek kv).map fun e => kV e.1)) np1)).trans (same_new (o := .lst (zs.map V.int)) np2)
    have np2D := ne_of_none upd_same nD
    have nDM := s12.free nD
    refine lc_it (walk_list (K := K) (a := p2) (xs := zs.map V.int)) (fun j H' => Same M H' ∧ Same Ha H' ∧ H' p2 = some (.lst (zs.map V.int)) ∧ ∃ cs, H' D = some (.lst (cs.map V.ref)) ∧ Paired (PairT H') cs ((lens (fun k => W n ts h0 k g)).take j))
      ⟨s12.trans (same_new nD), ((same_new (o := .lst ((ek kv).map fun e => kV e.1)) np1).trans (same_new (o := .lst (zs.map V.int)) np2)).trans (same_new nD), by rw [upd_ne np2D]; exact upd_same, [], upd_same, .nil⟩ (fun j H' _ z => SqL.of z.2.2.1) ?_ ?_
    · rintro j x X1 X2 hj ⟨sx, sy, px, cs, dx, cx⟩ ⟨rfl, ex⟩
      obtain ⟨zi, hz, rfl⟩ := int_at ex
      rw [ez, List.getElem?_map] at hz
      obtain ⟨⟨m, u⟩, hm, rfl⟩ := Option.map_eq_some_iff.mp hz
      have hml := (lens_mem bf).mp (List.mem_of_getElem? hm)
      have hu0 : u = W n ts h0 m g := hml.1
      have hu1 : W n ts h0 m g ≠ 0 := hml.2
      have dg : DGet X2 dd (vn m) (some (vn u)) := by
        have h := DGet.k (k := kn m) (sx _ _ hdM)
        rw [valV_ek, hkv.at_, if_neg hu1, ← hu0] at h
        exact h
      refine ⟨rfl, tYes_of ?_⟩
      refine ⟨_, rfl, _, rfl, _, rfl, dd, _, rfl, dg, small (m := 2) (Nat.le_refl _), fun T nT => ?_⟩
      have sT := same_new (o := .tup [vn m, vn u]) nT
      refine ⟨_, sT _ _ dx, ?_, ?_⟩
      · rw [List.length_map, Paired.length cx, List.length_take]
        have := lens_len (fun k => W n ts h0 k g)
        exact smallL (m := 21) (by omega)
      · have tp : Tups X2 (upd (upd X2 T (.tup [vn m, vn u])) D (.lst (cs.map V.ref ++ [V.ref T]))) := (Tups.of sT).trans (.put (sT _ _ dx))
        have nTD : T ≠ D := (ne_of_none dx nT).symm
        refine ⟨(sx.trans sT).upd_new nDM, (sy.trans sT).upd_new (((same_new (o := .lst ((ek kv).map fun e => kV e.1)) np1).trans (same_new (o := .lst (zs.map V.int)) np2)).free nD), by rw [upd_ne np2D]; exact sT _ _ px, cs ++ [T], by rw [upd_same, List.map_append]; rfl, ?_⟩
        rw [List.take_add_one, hm]
        exact paired_snoc (pairs_tups cx tp) (by show upd _ _ _ T = _; rw [upd_ne nTD, upd_same])
    · rintro X1 ⟨sx, sy, px, cs, dx, cx⟩
      have hzl : (zs.map V.int).length = (lens (fun k => W n ts h0 k g)).length := by rw [List.length_map, ez, List.length_map]
      rw [hzl, List.take_length] at cx
      refine .inl ⟨D, _, rfl, SqL.of dx, fun p3 np3 => ?_⟩
      have s3 := same_new (o := .tup (cs.map V.ref)) np3
      refine ⟨_, _, rfl, alk_pairs ((sy.trans s3) _ _ hpr) (pairs_same hbs (sy.trans s3)) upd_same (pairs_same cx s3) (Nat.le_trans (lens_len _) (by decide)), fun Hb sb => ⟨true, rfl, iteF ?_⟩⟩
      have sMb : Same M Hb := (sx.trans s3).trans sb
      clear sb s3 np3 cx dx px sy sx nDM np2D s12 ez hbs hpr npr sa nD np2 np1 hzl
      -- the most
      refine ⟨_, rfl, fun u nu => ⟨dd, u, _, rfl, rfl, (same_new nu) _ _ (sMb _ _ hdM), upd_same, _, rfl, ?_⟩⟩
      have sMu := sMb.trans (same_new (o := .dK []) nu)
      refine if_go (fun x H' => TopT (fun k => W n ts h0 k g) x ∧ Same M H') (fun top Hc z => ?_) (fun hb Q' hQ => ?_) (fun hb => ?_)
      rotate_left
      · refine ⟨_, rfl, dd, ek kv, rfl, .of (sMu _ _ hdM), fun p1 np1 => ⟨p1, _, rfl, SqL.of (by rw [upd_same, ek_kV]), ?_, fun m hm hle => ?_⟩⟩
        · rw [ek_len] at hb
          rw [List.length_map]
          cases kv with
          | nil => cases hb
          | cons _ _ => exact Nat.succ_pos _
        · obtain ⟨k, rfl, hk⟩ := most_is hkv hm hle
          exact hQ _ _ ⟨.inl ⟨k, rfl, hk⟩, sMu.trans (same_new np1)⟩
      · rw [ek_len] at hb
        have e : kv = [] := by
          cases kv with
          | nil => rfl
          | cons _ _ => cases hb
        refine ⟨.inr ⟨rfl, fun k => ?_⟩, sMu⟩
        have h := hkv.getD k
        rw [e] at h
        exact h.symm
      obtain ⟨hTop, sMc⟩ := z
      -- count_rows, most_stoops
      refine ⟨_, rfl, _, rfl, _, rfl, _, rfl, wp, hp, gp, n, ts, h0, g, st, rfl, hwM.same sMc, hhM.same sMc, hgM.same sMc, ok, hh, hg, hst, fun Hd sd => ?_⟩
      have sMd := sMc.trans sd
      refine ⟨_, rfl, _, rfl, _, rfl, wp, hp, gp, n, ts, h0, g, rfl, hwM.same sMd, hhM.same sMd, hgM.same sMd, ok, hh, hg, fun He top2 sde hTop2 => ?_⟩
      have sMe := sMd.trans sde
      refine ⟨small (m := 2) (Nat.le_refl _), fun lb nlb => ?_⟩
      have slb := same_new (o := .lst [vn (W n ts h0 st g), top2]) nlb
      have sMl := sMe.trans slb
      refine ⟨_, rfl, _, rfl, dd, rfl, .inl ⟨_, .of (sMl _ _ hdM)⟩, _, rfl, _, DGet.k (k := kn st) (sMl _ _ hdM), ?_⟩
      rw [valV_ek, getD_vn, hkv.getD]
      refine ⟨_, rfl, small (m := 2) (Nat.le_refl _), fun lc nlc => ⟨_, _, rfl, alk_two ((same_new nlc) _ _ upd_same) upd_same (leaf_int rfl) (TopT.leaf hTop2 hTop), fun Hf sf => ⟨true, rfl, iteF ?_⟩⟩⟩
      have sMf := (sMl.trans (same_new nlc)).trans sf
      clear sf sMl slb sMe sde sMd sd sMc sMu sMb nlc nlb nu
      -- count_chains
      refine ⟨_, rfl, _, rfl, _, rfl, wp, hp, gp, n, ts, h0, g, rfl, hwM.same sMf, hhM.same sMf, hgM.same sMf, ok, hh, hg, fun Hg sg => ?_⟩
      have sMg := sMf.trans sg
      refine ⟨_, rfl, dd, ek kv, rfl, .of (sMg _ _ hdM), fun p1 np1 => ⟨p1, rfl, ⟨_, SqL.of upd_same⟩, fun D nD => ?_⟩⟩
      have s12 := sMg.trans (same_new (o := .lst ((ek kv).map fun e => kV e.1)) np1)
      have np1D := ne_of_none upd_same nD
      have nDM := s12.free nD
      refine lc_it (walk_list (K := K) (a := p1) (xs := (ek kv).map fun e => kV e.1)) (fun j H' => Same M H' ∧ H' p1 = some (.lst ((ek kv).map fun e => kV e.1)) ∧ H' D = some (.lst (((kv.take j).map fun e => (e.2 : Int)).map V.int)))
        ⟨s12.trans (same_new nD), by rw [upd_ne np1D]; exact upd_same, upd_same⟩ (fun j H' _ z => SqL.of z.2.1) ?_ ?_
      · rintro j x X1 X2 hj ⟨sx, px, dx⟩ ⟨rfl, ex⟩
        unfold ek at ex
        rw [List.map_map, List.getElem?_map] at ex
        obtain ⟨⟨m, u⟩, hm, rfl⟩ := Option.map_eq_some_iff.mp ex
        have dg : DGet X2 dd (vn m) (some (vn u)) := by
          have h := DGet.k (k := kn m) (sx _ _ hdM)
          rw [valV_ek, gA_of_mem hkv.nd (k := m) (v := u) (List.mem_of_getElem? hm)] at h
          exact h
        refine ⟨rfl, tYes_of ?_⟩
        refine ⟨_, rfl, _, rfl, dd, _, rfl, dg, _, dx, ?_, ?_⟩
        · rw [List.length_map, List.length_map, List.length_take]
          have := hkv.len bf
          exact smallL (m := 21) (by omega)
        · refine ⟨sx.upd_new nDM, by rw [upd_ne np1D]; exact px, ?_⟩
          rw [upd_same, List.take_add_one, hm, List.map_append, List.map_append]
          rfl
      rintro X1 ⟨sx, px, dx⟩
      rw [List.length_map, ek_len, List.take_length] at dx
      refine ⟨D, _, rfl, SqL.of dx, ?_⟩
      rw [sum_cast (fun e : Nat × Nat => e.2) kv, hkv.total bf]
      refine ⟨_, _, rfl, alk_int _, fun Hb sb => ⟨true, rfl, iteF ?_⟩⟩
      have sMh := sx.trans sb
      clear sb dx px sx nDM np1D s12 nD np1 sMg sg sMf
      -- the ends
      refine ⟨_, rfl, lf, et fs, rfl, .of (sMh _ _ TM.at_), fun p1 bs np1 hks => ⟨p1, rfl, ⟨_, SqL.of upd_same⟩, fun D nD => ?_⟩⟩
      obtain ⟨ks, ek1, ek2, hksH⟩ := keysF (et_keys fs) hks
      have s12 := sMh.trans (same_new (o := .lst (bs.map V.ref)) np1)
      have sh1 := same_new (o := .lst (bs.map V.ref)) np1
      have ebs : bs.map V.ref = ks.map fun z => V.ref z.1 := by rw [← ek1, List.map_map]; rfl
      rw [ebs] at nD s12 sh1 ⊢
      have np1D := ne_of_none upd_same nD
      have nDM := s12.free nD
      have hlk : ks.length ≤ 1296 := by
        have h := few_hs (n := n) ok.n4 TM.nd fun g hg => by
          obtain ⟨k, hk⟩ := (TM.mem g).mp hg
          exact (lay_hs ok hh k g (W_pos.mp hk)).1
        rw [← ek2, List.length_map] at h
        exact h
      have hrz : ∀ z ∈ ks, Reach n ts h0 z.2 := fun z hz => reach_W.mpr ((TM.mem z.2).mp (by rw [← ek2]; exact List.mem_map.mpr ⟨z, hz, rfl⟩))
      refine lc_it (walk_list (K := K) (a := p1) (xs := ks.map fun z => V.ref z.1)) (fun j H' => Same M H' ∧ (∀ z ∈ ks, HtT H' z.1 z.2) ∧ H' p1 = some (.lst (ks.map fun z => V.ref z.1)) ∧ H' D = some (.lst (((ks.take j).filter fun z => decide (stp n ts z.2 = [])).map fun z => V.ref z.1)))
        ⟨s12.trans (same_new nD), fun z hz => ((hksH z hz).same sh1).same (same_new nD), by rw [upd_ne np1D]; exact upd_same, upd_same⟩ (fun j H' _ z => SqL.of z.2.2.1) ?_ ?_
      · rintro j x X1 X2 hj ⟨sx, hx, px, dx⟩ ⟨rfl, ex⟩
        rw [List.getElem?_map] at ex
        obtain ⟨z, hz, rfl⟩ := Option.map_eq_some_iff.mp ex
        have hzm := List.mem_of_getElem? hz
        have fz := filter_snoc hz fun z : Addr × List Int => decide (stp n ts z.2 = [])
        refine ⟨rfl, ?_⟩
        refine ⟨_, rfl, _, rfl, wp, z.1, n, ts, z.2, rfl, hwM.same sx, hx z hzm, ok, (reach_hs ok hh (hrz z hzm)).len, fun X3 qp qbs s3 nq hq hqp => ⟨Nat.zero_le _, fun u nu => ?_⟩⟩
        have su := same_new (o := .lst []) nu
        refine eq_pairs (SqL.of (su _ _ hq)) (pairs_same hqp su) (SqL.of upd_same) ⟨_, rfl, ?_⟩
        have s3u := s3.trans su
        by_cases c : stp n ts z.2 = []
        · rw [if_pos (decide_eq_true c)] at fz
          rw [c]
          refine iteT ⟨_, rfl, _, s3u _ _ dx, ?_, ?_⟩
          · rw [List.length_map]
            have h1 := List.length_filter_le (fun z : Addr × List Int => decide (stp n ts z.2 = [])) (ks.take j)
            have h2 : (ks.take j).length ≤ ks.length := by rw [List.length_take]; omega
            exact smallL (m := 1296) (by omega)
          · have tp := (Tups.of s3u).trans (.put (o := .lst (((ks.take j).filter fun z => decide (stp n ts z.2 = [])).map (fun z => V.ref z.1) ++ [V.ref z.1])) (s3u _ _ dx))
            refine ⟨(sx.trans s3u).upd_new nDM, fun z hz => (hx z hz).tups tp, by rw [upd_ne np1D]; exact s3u _ _ px, ?_⟩
            rw [upd_same, fz, List.map_append]
            rfl
        · rw [if_neg (by simp [c]), List.append_nil] at fz
          have ce : (stp n ts z.2).isEmpty = false := by
            cases h : stp n ts z.2 with
            | nil => exact (c h).elim
            | cons _ _ => rfl
          rw [ce]
          exact iteF ⟨sx.trans s3u, fun z hz => (hx z hz).same s3u, s3u _ _ px, by rw [fz]; exact s3u _ _ dx⟩
      rintro N ⟨sx, hx, px, dx⟩
      rw [List.length_map, List.take_length] at dx
      have hlast := lows_end ok hh
      obtain ⟨z0, ef, ez0, hz0⟩ := filter_one (l := ks) (g := fun z => z.2) (v := lowsM n ts h0) (p := fun z => decide (stp n ts z.2 = [])) (by rw [ek2]; exact TM.nd) (by rw [ek2]; exact (TM.mem _).mpr (reach_W.mp hlast.1)) fun z hz =>
        ⟨fun h => end_lows ok hh (hrz z hz) (of_decide_eq_true h), fun h => decide_eq_true (by rw [h]; exact hlast.2)⟩
      rw [ef] at dx
      have hL : HtT N z0.1 (lowsM n ts h0) := by rw [← ez0]; exact hx z0 hz0
      obtain ⟨dl, kvl, dgl, hdl, hkl⟩ := TM.last ok hh sx hL
      refine ⟨_, rfl, D, _, rfl, .inl (SqL.of dx), rfl, ?_⟩
      refine ⟨false, rfl, iteF ?_⟩
      refine ⟨_, rfl, _, rfl, D, _, 0, _, rfl, rfl, SqL.of dx, atI_nat (j := 0) rfl, lf, _, rfl, dgl, ?_⟩
      have bl : ∀ k, W n ts h0 k (lowsM n ts h0) ≠ 0 → k ≤ 20 := fun k hk => W_big ok hh hk
      obtain ⟨kl, hkl0⟩ := reach_W.mp hlast.1
      have hne := hkl.ne hkl0
      have hwX := hwM.same sx
      have hhX := hhM.same sx
      have TX := TM.same sx
      clear hwM hhM hgM TM hdM sMh dx hL dgl hx px nDM np1D nD ebs sh1 s12 hksH np1 sx
      -- all_lengths
      refine ⟨_, rfl, _, rfl, wp, hp, n, ts, h0, rfl, hwX, hhX, ok, hh, fun Ha pr bs2 sa npr hpr hbs => ?_⟩
      refine ⟨_, rfl, dl, ek kvl, rfl, .of (sa _ _ hdl), fun p1 np1 => ⟨p1, _, rfl, SqL.of (by rw [upd_same, ek_kV]), fun zs p2 pz sz np2 => ⟨p2, rfl, ⟨_, SqL.of upd_same⟩, fun D nD => ?_⟩⟩⟩
      have ez := keys_lens hkl bl pz sz
      have s12 : Same N _ := (sa.trans (same_new (o := .lst ((ek kvl).map fun e => kV e.1)) np1)).trans (same_new (o := .lst (zs.map V.int)) np2)
      have np2D := ne_of_none upd_same nD
      have nDM := s12.free nD
      refine lc_it (walk_list (K := K) (a := p2) (xs := zs.map V.int)) (fun j H' => Same N H' ∧ Same Ha H' ∧ H' p2 = some (.lst (zs.map V.int)) ∧ ∃ cs, H' D = some (.lst (cs.map V.ref)) ∧ Paired (PairT H') cs ((lens (fun k => W n ts h0 k (lowsM n ts h0))).take j))
        ⟨s12.trans (same_new nD), ((same_new (o := .lst ((ek kvl).map fun e => kV e.1)) np1).trans (same_new (o := .lst (zs.map V.int)) np2)).trans (same_new nD), by rw [upd_ne np2D]; exact upd_same, [], upd_same, .nil⟩ (fun j H' _ z => SqL.of z.2.2.1) ?_ ?_
      · rintro j x X1 X2 hj ⟨sx, sy, px, cs, dx, cx⟩ ⟨rfl, ex⟩
        obtain ⟨zi, hz, rfl⟩ := int_at ex
        rw [ez, List.getElem?_map] at hz
        obtain ⟨⟨m, u⟩, hm, rfl⟩ := Option.map_eq_some_iff.mp hz
        have hml := (lens_mem bl).mp (List.mem_of_getElem? hm)
        have hu0 : u = W n ts h0 m (lowsM n ts h0) := hml.1
        have hu1 : W n ts h0 m (lowsM n ts h0) ≠ 0 := hml.2
        have dg : DGet X2 dl (vn m) (some (vn u)) := by
          have h := DGet.k (k := kn m) (sx _ _ hdl)
          rw [valV_ek, hkl.at_, if_neg hu1, ← hu0] at h
          exact h
        refine ⟨rfl, tYes_of ?_⟩
        refine ⟨_, rfl, _, rfl, _, rfl, dl, _, rfl, dg, small (m := 2) (Nat.le_refl _), fun T nT => ?_⟩
        have sT := same_new (o := .tup [vn m, vn u]) nT
        refine ⟨_, sT _ _ dx, ?_, ?_⟩
        · rw [List.length_map, Paired.length cx, List.length_take]
          have := lens_len (fun k => W n ts h0 k (lowsM n ts h0))
          exact smallL (m := 21) (by omega)
        · have tp : Tups X2 (upd (upd X2 T (.tup [vn m, vn u])) D (.lst (cs.map V.ref ++ [V.ref T]))) := (Tups.of sT).trans (.put (sT _ _ dx))
          have nTD : T ≠ D := (ne_of_none dx nT).symm
          refine ⟨(sx.trans sT).upd_new nDM, (sy.trans sT).upd_new (((same_new (o := .lst ((ek kvl).map fun e => kV e.1)) np1).trans (same_new (o := .lst (zs.map V.int)) np2)).free nD), by rw [upd_ne np2D]; exact sT _ _ px, cs ++ [T], by rw [upd_same, List.map_append]; rfl, ?_⟩
          rw [List.take_add_one, hm]
          exact paired_snoc (pairs_tups cx tp) (by show upd _ _ _ T = _; rw [upd_ne nTD, upd_same])
      rintro X1 ⟨sx, sy, px, cs, dx, cx⟩
      have hzl : (zs.map V.int).length = (lens (fun k => W n ts h0 k (lowsM n ts h0))).length := by rw [List.length_map, ez, List.length_map]
      rw [hzl, List.take_length] at cx
      refine .inl ⟨D, _, rfl, SqL.of dx, fun p3 np3 => ?_⟩
      have s3 := same_new (o := .tup (cs.map V.ref)) np3
      refine ⟨_, _, rfl, alk_pairs ((sy.trans s3) _ _ hpr) (pairs_same hbs (sy.trans s3)) upd_same (pairs_same cx s3) (Nat.le_trans (lens_len _) (by decide)), fun Hb sb => ⟨true, rfl, iteF ?_⟩⟩
      have sNb : Same N Hb := (sx.trans s3).trans sb
      clear sb s3 np3 cx dx px sy sx nDM np2D s12 ez hbs hpr npr sa nD np2 np1 hzl
      -- longest, shortest
      refine ⟨_, rfl, _, rfl, wp, hp, n, ts, h0, rfl, hwX.same sNb, hhX.same sNb, ok, hh, fun Hc m1 sc hm1 => ?_⟩
      have sNc := sNb.trans sc
      refine ⟨_, rfl, _, rfl, wp, hp, n, ts, h0, rfl, hwX.same sNc, hhX.same sNc, ok, hh, fun Hd m2 sd hm2 => ?_⟩
      have sNd := sNc.trans sd
      refine ⟨small (m := 2) (Nat.le_refl _), fun lb nlb => ?_⟩
      have slb := same_new (o := .lst [vn m1, vn m2]) nlb
      have sNe := sNd.trans slb
      refine ⟨_, rfl, dl, ek kvl, rfl, .of (sNe _ _ hdl), fun p1 np1 => ⟨p1, _, rfl, SqL.of (by rw [upd_same, ek_kV]), List.length_pos_iff.mpr hne, fun x1 hx1 hx1' => ?_⟩⟩
      obtain ⟨k1, rfl, hk1⟩ := most_is hkl hx1 hx1'
      have sp1 := same_new (o := .lst ((ek kvl).map fun e => kV e.1)) np1
      have sNf := sNe.trans sp1
      refine ⟨_, rfl, dl, ek kvl, rfl, .of (sNf _ _ hdl), fun p2 np2 => ⟨p2, _, rfl, SqL.of (by rw [upd_same, ek_kV]), List.length_pos_iff.mpr hne, fun x2 hx2 hx2' => ?_⟩⟩
      obtain ⟨k2, rfl, hk2⟩ := few_is hkl hx2 hx2'
      have sp2 := same_new (o := .lst ((ek kvl).map fun e => kV e.1)) np2
      have sNg := sNf.trans sp2
      refine ⟨small (m := 2) (Nat.le_refl _), fun lc nlc => ?_⟩
      have slc := same_new (o := .lst [vn k1, vn k2]) nlc
      refine ⟨_, _, rfl, alk_two (((sp1.trans sp2).trans slc) _ _ upd_same) upd_same (leaf_int (by rw [hm1.eq hk1])) (leaf_int (by rw [hm2.eq hk2])), fun Hf sf => ⟨true, rfl, iteF ?_⟩⟩
      have sNh := (sNg.trans slc).trans sf
      clear sf slc nlc sNg sp2 np2 sNf sp1 np1 sNe slb nlb sNd sd sNc sc sNb
      -- rows_of_length
      refine ⟨_, rfl, _, rfl, _, rfl, wp, hp, n, ts, h0, st, rfl, hwX.same sNh, hhX.same sNh, ok, hh, hst, fun Hi si => ?_⟩
      have sNi := sNh.trans si
      refine ⟨_, rfl, lf, et fs, rfl, .of (sNi _ _ TX.at_), fun p1 bs np1 hks => ⟨p1, rfl, ⟨_, SqL.of upd_same⟩, fun D nD => ?_⟩⟩
      obtain ⟨ks, ek1, ek2, hksH⟩ := keysF (et_keys fs) hks
      have s12 := sNi.trans (same_new (o := .lst (bs.map V.ref)) np1)
      have sh1 := same_new (o := .lst (bs.map V.ref)) np1
      have ebs : bs.map V.ref = ks.map fun z => V.ref z.1 := by rw [← ek1, List.map_map]; rfl
      rw [ebs] at nD s12 sh1 ⊢
      have np1D := ne_of_none upd_same nD
      have nDM := s12.free nD
      have hlk : ks.length ≤ 1296 := by
        have h := few_hs (n := n) ok.n4 TX.nd fun g hg => by
          obtain ⟨k, hk⟩ := (TX.mem g).mp hg
          exact (lay_hs ok hh k g (W_pos.mp hk)).1
        rw [← ek2, List.length_map] at h
        exact h
      refine lc_it (walk_list (K := K) (a := p1) (xs := ks.map fun z => V.ref z.1)) (fun j H' => Same N H' ∧ (∀ z ∈ ks, HtT H' z.1 z.2) ∧ H' p1 = some (.lst (ks.map fun z => V.ref z.1)) ∧ H' D = some (.lst (((ks.take j).map fun z => (W n ts h0 st z.2 : Int)).map V.int)))
        ⟨s12.trans (same_new nD), fun z hz => ((hksH z hz).same sh1).same (same_new nD), by rw [upd_ne np1D]; exact upd_same, upd_same⟩ (fun j H' _ z => SqL.of z.2.2.1) ?_ ?_
      · rintro j x X1 X2 hj ⟨sx, hx, px, dx⟩ ⟨rfl, ex⟩
        rw [List.getElem?_map] at ex
        obtain ⟨z, hz, rfl⟩ := Option.map_eq_some_iff.mp ex
        have hzm := List.mem_of_getElem? hz
        obtain ⟨d, hd⟩ := gA_some (l := fs) (k := z.2) (by rw [← ek2]; exact List.mem_map.mpr ⟨z, hzm, rfl⟩)
        have TY := TX.same sx
        obtain ⟨kz, g1, g2⟩ := TY.inn _ _ hd
        have dg : DGet X2 lf (.ref z.1) (some (.ref d)) := by
          have h := DGet.t TY.at_ (key_tup (hx z hzm))
          rw [valV_et, hd] at h
          exact h
        refine ⟨rfl, tYes_of ?_⟩
        refine ⟨_, rfl, _, rfl, lf, _, rfl, dg, d, rfl, .inl ⟨_, .of g1⟩, _, rfl, _, DGet.k (k := kn st) g1, ?_⟩
        rw [valV_ek, getD_vn, g2.getD]
        refine ⟨_, dx, ?_, ?_⟩
        · rw [List.length_map, List.length_map, List.length_take]
          exact smallL (m := 1296) (by omega)
        · have tp : Tups X2 (upd X2 D (.lst (((ks.take j).map fun z => (W n ts h0 st z.2 : Int)).map V.int ++ [vn (W n ts h0 st z.2)]))) := .put dx
          refine ⟨sx.upd_new nDM, fun z hz => (hx z hz).tups tp, by rw [upd_ne np1D]; exact px, ?_⟩
          rw [upd_same, List.take_add_one, hz, List.map_append, List.map_append]
          rfl
      rintro X1 ⟨sx, hx, px, dx⟩
      rw [List.length_map, List.take_length] at dx
      refine ⟨D, _, rfl, SqL.of dx, ?_⟩
      have es : sumN ks (fun z => W n ts h0 st z.2) = (lay n ts h0 st).length := by
        rw [← sumN_map ks (fun z => z.2) (fun g => W n ts h0 st g), ek2, sumN_map]
        exact TX.fsum st
      rw [sum_cast (fun z : Addr × List Int => W n ts h0 st z.2) ks, es]
      exact ⟨_, _, rfl, alk_int _, fun Hz sz => q _⟩

end
end Sto

/-! part KE1 -/
set_option Elab.async false
set_option linter.all false
set_option maxRecDepth 100000
set_option maxHeartbeats 4000000
/-! All defs together; the head. -/
namespace Sto
open PySem PySem.Spec PyProof.Rows L2 StX
structure Defs (K : PySem.W.Frag) (mg : Str → Option Value) : Prop where
  d9 : DefAt K mg "is_int" (topS 9) ["value"]
  d10 : DefAt K mg "is_from" (topS 10) ["value", "least", "most"]
  d11 : DefAt K mg "need_from" (topS 11) ["value", "least", "most"]
  d12 : DefAt K mg "is_height" (topS 12) ["value"]
  d13 : DefAt K mg "is_tie" (topS 13) ["value", "many"]
  d14 : DefAt K mg "need_web" (topS 14) ["value"]
  d15 : DefAt K mg "need_heights" (topS 15) ["web", "value"]
  d16 : DefAt K mg "tied_to" (topS 16) ["web", "person"]
  d17 : DefAt K mg "hanging" (topS 17) ["web", "person", "lot"]
  d18 : DefAt K mg "parts_of" (topS 18) ["web", "lot"]
  d19 : DefAt K mg "everybody" (topS 19) ["web"]
  d20 : DefAt K mg "lows_of" (topS 20) ["web", "heights"]
  d22 : DefAt K mg "next_of" (topS 22) ["web", "heights"]
  d23 : DefAt K mg "after" (topS 23) ["heights", "person", "other"]
  d26 : DefAt K mg "all_of" (topS 26) ["web", "heights"]
  d27 : DefAt K mg "need_start" (topS 27) ["web", "heights"]
  d30 : DefAt K mg "lengths_of" (topS 30) ["web", "heights"]
  d31 : DefAt K mg "count_rows" (topS 31) ["web", "heights", "goal", "steps"]
  d32 : DefAt K mg "row_lengths" (topS 32) ["web", "heights", "goal"]
  d33 : DefAt K mg "most_stoops" (topS 33) ["web", "heights", "goal"]
  d34 : DefAt K mg "all_lengths" (topS 34) ["web", "heights"]
  d35 : DefAt K mg "longest" (topS 35) ["web", "heights"]
  d36 : DefAt K mg "shortest" (topS 36) ["web", "heights"]
  d37 : DefAt K mg "count_chains" (topS 37) ["web", "heights", "goal"]
  d38 : DefAt K mg "rows_of_length" (topS 38) ["web", "heights", "steps"]
  d40 : DefAt K mg "_law_taken" (topS 40) ["_law_row", "_law_many"]
  d41 : DefAt K mg "_law_pick" (topS 41) ["_law_row", "_law_things"]
  d42 : DefAt K mg "_law_alike" (topS 42) ["_law_found", "_law_due"]
  d43 : DefAt K mg "_law_web" (topS 43) ["_law_row", "_law_most", "_law_more"]
  d44 : DefAt K mg "_law_heights" (topS 44) ["_law_row", "_law_many", "_law_high"]
  d45 : DefAt K mg "_law_ties" (topS 45) ["_law_web_here", "_law_person"]
  d46 : DefAt K mg "_law_stoops" (topS 46) ["_law_web_here", "_law_heights_here"]
  d47 : DefAt K mg "_law_after" (topS 47) ["_law_heights_here", "_law_pair"]
  d48 : DefAt K mg "_law_drawn" (topS 48) ["_law_row", "_law_web_here", "_law_heights_here", "_law_most"]
  d49 : DefAt K mg "_law_goal" (topS 49) ["_law_row", "_law_web_here", "_law_heights_here"]
  d50 : DefAt K mg "_law_lengths" (topS 50) ["_law_web_here", "_law_heights_here"]
section
variable {P : Program} {w : World} {K : PySem.W.Frag} {mg : Str → Option Value} {base : Heap}
theorem law_ok {f : Addr} {fd : FuncData} (D : Defs K mg) (B : Blt mg) (F : Fun K "law" "law" (topS 51) f fd) : FnOk P w K mg base CX0 7 f fd ["_law_script"] (spLaw K) := by
  have h9 := cal_is_int (P := P) (w := w) (base := base) D.d9 B
  have h10 := cal_is_from (P := P) (w := w) (base := base) D.d10 B h9
  have h11 := cal_need_from (P := P) (w := w) (base := base) D.d11 B h10
  have h12 := cal_is_height (P := P) (w := w) (base := base) D.d12 B h10
  have h13 := cal_is_tie (P := P) (w := w) (base := base) D.d13 B h10
  have h14 := cal_need_web (P := P) (w := w) (base := base) D.d14 B h10 h13
  have h15 := cal_need_heights (P := P) (w := w) (base := base) D.d15 B h12
  have h16 := cal_tied_to (P := P) (w := w) (base := base) D.d16 B
  have h17 := cal_hanging (P := P) (w := w) (base := base) D.d17 B h16
  have h18 := cal_parts_of (P := P) (w := w) (base := base) D.d18 B h17
  have h19 := cal_everybody (P := P) (w := w) (base := base) D.d19 B
  have h20 := cal_lows_of (P := P) (w := w) (base := base) D.d20 B h18 h19
  have h22 := cal_next_of (P := P) (w := w) (base := base) D.d22 B h19 h16
  have h23 := cal_after (P := P) (w := w) (base := base) D.d23 B
  have h26 := cal_all_of (P := P) (w := w) (base := base) D.d26 B h22 h23
  have h27 := cal_need_start (P := P) (w := w) (base := base) D.d27 h14 h15
  have h30 := cal_lengths_of (P := P) (w := w) (base := base) D.d30 B h26 h22 h23
  have h31 := cal_count_rows (P := P) (w := w) (base := base) D.d31 B h27 h15 h11 h30
  have h32 := cal_row_lengths (P := P) (w := w) (base := base) D.d32 B h27 h15 h30
  have h33 := cal_most_stoops (P := P) (w := w) (base := base) D.d33 B h27 h15 h30
  have h34 := cal_all_lengths (P := P) (w := w) (base := base) D.d34 B h27 h30 h20
  have h35 := cal_longest (P := P) (w := w) (base := base) D.d35 B h27 h30 h20
  have h36 := cal_shortest (P := P) (w := w) (base := base) D.d36 B h27 h30 h20
  have h37 := cal_count_chains (P := P) (w := w) (base := base) D.d37 B h27 h15 h30
  have h38 := cal_rows_of_length (P := P) (w := w) (base := base) D.d38 B h27 h11 h30
  have h40 := cal_law_taken (P := P) (w := w) (base := base) D.d40 B
  have h41 := cal_law_pick (P := P) (w := w) (base := base) D.d41 B h40
  have z0 : Cal P w K mg base 0 "_law_alike" (spAlk 0) := cal_alk0 D.d42
  have z1 := cal_law_alike D.d42 B z0
  have z2 := cal_law_alike D.d42 B z1
  have h42 := cal_law_alike D.d42 B z2
  have h43 := cal_law_web (P := P) (w := w) (base := base) D.d43 B h40
  have h44 := cal_law_heights (P := P) (w := w) (base := base) D.d44 B h40
  have h45 := cal_law_ties (P := P) (w := w) (base := base) D.d45 B
  have h46 := cal_law_stoops (P := P) (w := w) (base := base) D.d46 B h45
  have h47 := cal_law_after (P := P) (w := w) (base := base) D.d47 B
  have h48 := cal_law_drawn (P := P) (w := w) (base := base) D.d48 B h46 h41 h47
  have h49 := cal_law_goal (P := P) (w := w) (base := base) D.d49 B h40 h48 h41
  have h50 := cal_law_lengths (P := P) (w := w) (base := base) D.d50 B h46 h47
  exact ok_law F B h43 h44 h49 h50 h40 h42 h46 h32 h31 h33 h37 h34 h35 h36 h38
end
theorem def_mk {K : PySem.W.Frag} {h : Heap} {mg : Str → Option Value} (X : K.In h) (G : h.Ns mainGlobals mg) {x : Str} {st : Stmt} {ps : List Str} {f : Addr} {od an : Option Addr} {sl : Array (Option Value)} {oc kV dc pm cd ct : Value}
    (hb : ∀ (kV doc pm : Value) (an : Option Addr) (cdv ct : Value) (us : List Value), us.length = ps.length → bindArgs (PySem.W.fnOf x x (defArgs st) (defBody st) (defScope st) .none kV doc pm an cdv ct) ⟨us, []⟩ = pure (ps.zip us))
    (a : PySem.W.nsIn K mainGlobals x = some (some (.ref f))) (l : K.lookup f = some ⟨oc, od, .func (PySem.W.fnOf x x (defArgs st) (defBody st) (defScope st) .none kV dc pm an cd ct), sl⟩) (c : PySem.W.codeIn K cd x = true) (k : PySem.W.keepIn K (.ref f) = true) : DefAt K mg x st ps :=
  ⟨f, _, fun_mk l c k, PySem.W.mg_of X G a, (fun_mk l c k).binds hb⟩
theorem all_mk {l : PySem.W.OpenLaw} {w : World} {K : PySem.W.Frag} {h : Heap} {mg : Str → Option Value} {fa : Addr} (X : K.In h) (G : h.Ns mainGlobals mg) (hfa : mg "law" = some (.ref fa))
    {f9 f10 f11 f12 f13 f14 f15 f16 f17 f18 f19 f20 f22 f23 f26 f27 f30 f31 f32 f33 f34 f35 f36 f37 f38 f40 f41 f42 f43 f44 f45 f46 f47 f48 f49 f50 f51 : Addr} {od9 an9 od10 an10 od11 an11 od12 an12 od13 an13 od14 an14 od15 an15 od16 an16 od17 an17 od18 an18 od19 an19 od20 an20 od22 an22 od23 an23 od26 an26 od27 an27 od30 an30 od31 an31 od32 an32 od33 an33 od34 an34 od35 an35 od36 an36 od37 an37 od38 an38 od40 an40 od41 an41 od42 an42 od43 an43 od44 an44 od45 an45 od46 an46 od47 an47 od48 an48 od49 an49 od50 an50 od51 an51 : Option Addr} {sl9 sl10 sl11 sl12 sl13 sl14 sl15 sl16 sl17 sl18 sl19 sl20 sl22 sl23 sl26 sl27 sl30 sl31 sl32 sl33 sl34 sl35 sl36 sl37 sl38 sl40 sl41 sl42 sl43 sl44 sl45 sl46 sl47 sl48 sl49 sl50 sl51 : Array (Option Value)}
    {oc9 kV9 dc9 pm9 cd9 ct9 oc10 kV10 dc10 pm10 cd10 ct10 oc11 kV11 dc11 pm11 cd11 ct11 oc12 kV12 dc12 pm12 cd12 ct12 oc13 kV13 dc13 pm13 cd13 ct13 oc14 kV14 dc14 pm14 cd14 ct14 oc15 kV15 dc15 pm15 cd15 ct15 oc16 kV16 dc16 pm16 cd16 ct16 oc17 kV17 dc17 pm17 cd17 ct17 oc18 kV18 dc18 pm18 cd18 ct18 oc19 kV19 dc19 pm19 cd19 ct19 oc20 kV20 dc20 pm20 cd20 ct20 oc22 kV22 dc22 pm22 cd22 ct22 oc23 kV23 dc23 pm23 cd23 ct23 oc26 kV26 dc26 pm26 cd26 ct26 oc27 kV27 dc27 pm27 cd27 ct27 oc30 kV30 dc30 pm30 cd30 ct30 oc31 kV31 dc31 pm31 cd31 ct31 oc32 kV32 dc32 pm32 cd32 ct32 oc33 kV33 dc33 pm33 cd33 ct33 oc34 kV34 dc34 pm34 cd34 ct34 oc35 kV35 dc35 pm35 cd35 ct35 oc36 kV36 dc36 pm36 cd36 ct36 oc37 kV37 dc37 pm37 cd37 ct37 oc38 kV38 dc38 pm38 cd38 ct38 oc40 kV40 dc40 pm40 cd40 ct40 oc41 kV41 dc41 pm41 cd41 ct41 oc42 kV42 dc42 pm42 cd42 ct42 oc43 kV43 dc43 pm43 cd43 ct43 oc44 kV44 dc44 pm44 cd44 ct44 oc45 kV45 dc45 pm45 cd45 ct45 oc46 kV46 dc46 pm46 cd46 ct46 oc47 kV47 dc47 pm47 cd47 ct47 oc48 kV48 dc48 pm48 cd48 ct48 oc49 kV49 dc49 pm49 cd49 ct49 oc50 kV50 dc50 pm50 cd50 ct50 oc51 kV51 dc51 pm51 cd51 ct51 : Value} {tm1 tm2 tm3 tm4 : Tok}
    (a9 : PySem.W.nsIn K mainGlobals "is_int" = some (some (.ref f9))) (l9 : K.lookup f9 = some ⟨oc9, od9, .func (PySem.W.fnOf "is_int" "is_int" (defArgs (topS 9)) (defBody (topS 9)) (defScope (topS 9)) .none kV9 dc9 pm9 an9 cd9 ct9), sl9⟩) (c9 : PySem.W.codeIn K cd9 "is_int" = true) (k9 : PySem.W.keepIn K (.ref f9) = true)
    (a10 : PySem.W.nsIn K mainGlobals "is_from" = some (some (.ref f10))) (l10 : K.lookup f10 = some ⟨oc10, od10, .func (PySem.W.fnOf "is_from" "is_from" (defArgs (topS 10)) (defBody (topS 10)) (defScope (topS 10)) .none kV10 dc10 pm10 an10 cd10 ct10), sl10⟩) (c10 : PySem.W.codeIn K cd10 "is_from" = true) (k10 : PySem.W.keepIn K (.ref f10) = true)
    (a11 : PySem.W.nsIn K mainGlobals "need_from" = some (some (.ref f11))) (l11 : K.lookup f11 = some ⟨oc11, od11, .func (PySem.W.fnOf "need_from" "need_from" (defArgs (topS 11)) (defBody (topS 11)) (defScope (topS 11)) .none kV11 dc11 pm11 an11 cd11 ct11), sl11⟩) (c11 : PySem.W.codeIn K cd11 "need_from" = true) (k11 : PySem.W.keepIn K (.ref f11) = true)
    (a12 : PySem.W.nsIn K mainGlobals "is_height" = some (some (.ref f12))) (l12 : K.lookup f12 = some ⟨oc12, od12, .func (PySem.W.fnOf "is_height" "is_height" (defArgs (topS 12)) (defBody (topS 12)) (defScope (topS 12)) .none kV12 dc12 pm12 an12 cd12 ct12), sl12⟩) (c12 : PySem.W.codeIn K cd12 "is_height" = true) (k12 : PySem.W.keepIn K (.ref f12) = true)
    (a13 : PySem.W.nsIn K mainGlobals "is_tie" = some (some (.ref f13))) (l13 : K.lookup f13 = some ⟨oc13, od13, .func (PySem.W.fnOf "is_tie" "is_tie" (defArgs (topS 13)) (defBody (topS 13)) (defScope (topS 13)) .none kV13 dc13 pm13 an13 cd13 ct13), sl13⟩) (c13 : PySem.W.codeIn K cd13 "is_tie" = true) (k13 : PySem.W.keepIn K (.ref f13) = true)
    (a14 : PySem.W.nsIn K mainGlobals "need_web" = some (some (.ref f14))) (l14 : K.lookup f14 = some ⟨oc14, od14, .func (PySem.W.fnOf "need_web" "need_web" (defArgs (topS 14)) (defBody (topS 14)) (defScope (topS 14)) .none kV14 dc14 pm14 an14 cd14 ct14), sl14⟩) (c14 : PySem.W.codeIn K cd14 "need_web" = true) (k14 : PySem.W.keepIn K (.ref f14) = true)
    (a15 : PySem.W.nsIn K mainGlobals "need_heights" = some (some (.ref f15))) (l15 : K.lookup f15 = some ⟨oc15, od15, .func (PySem.W.fnOf "need_heights" "need_heights" (defArgs (topS 15)) (defBody (topS 15)) (defScope (topS 15)) .none kV15 dc15 pm15 an15 cd15 ct15), sl15⟩) (c15 : PySem.W.codeIn K cd15 "need_heights" = true) (k15 : PySem.W.keepIn K (.ref f15) = true)
    (a16 : PySem.W.nsIn K mainGlobals "tied_to" = some (some (.ref f16))) (l16 : K.lookup f16 = some ⟨oc16, od16, .func (PySem.W.fnOf "tied_to" "tied_to" (defArgs (topS 16)) (defBody (topS 16)) (defScope (topS 16)) .none kV16 dc16 pm16 an16 cd16 ct16), sl16⟩) (c16 : PySem.W.codeIn K cd16 "tied_to" = true) (k16 : PySem.W.keepIn K (.ref f16) = true)
    (a17 : PySem.W.nsIn K mainGlobals "hanging" = some (some (.ref f17))) (l17 : K.lookup f17 = some ⟨oc17, od17, .func (PySem.W.fnOf "hanging" "hanging" (defArgs (topS 17)) (defBody (topS 17)) (defScope (topS 17)) .none kV17 dc17 pm17 an17 cd17 ct17), sl17⟩) (c17 : PySem.W.codeIn K cd17 "hanging" = true) (k17 : PySem.W.keepIn K (.ref f17) = true)
    (a18 : PySem.W.nsIn K mainGlobals "parts_of" = some (some (.ref f18))) (l18 : K.lookup f18 = some ⟨oc18, od18, .func (PySem.W.fnOf "parts_of" "parts_of" (defArgs (topS 18)) (defBody (topS 18)) (defScope (topS 18)) .none kV18 dc18 pm18 an18 cd18 ct18), sl18⟩) (c18 : PySem.W.codeIn K cd18 "parts_of" = true) (k18 : PySem.W.keepIn K (.ref f18) = true)
    (a19 : PySem.W.nsIn K mainGlobals "everybody" = some (some (.ref f19))) (l19 : K.lookup f19 = some ⟨oc19, od19, .func (PySem.W.fnOf "everybody" "everybody" (defArgs (topS 19)) (defBody (topS 19)) (defScope (topS 19)) .none kV19 dc19 pm19 an19 cd19 ct19), sl19⟩) (c19 : PySem.W.codeIn K cd19 "everybody" = true) (k19 : PySem.W.keepIn K (.ref f19) = true)
    (a20 : PySem.W.nsIn K mainGlobals "lows_of" = some (some (.ref f20))) (l20 : K.lookup f20 = some ⟨oc20, od20, .func (PySem.W.fnOf "lows_of" "lows_of" (defArgs (topS 20)) (defBody (topS 20)) (defScope (topS 20)) .none kV20 dc20 pm20 an20 cd20 ct20), sl20⟩) (c20 : PySem.W.codeIn K cd20 "lows_of" = true) (k20 : PySem.W.keepIn K (.ref f20) = true)
    (a22 : PySem.W.nsIn K mainGlobals "next_of" = some (some (.ref f22))) (l22 : K.lookup f22 = some ⟨oc22, od22, .func (PySem.W.fnOf "next_of" "next_of" (defArgs (topS 22)) (defBody (topS 22)) (defScope (topS 22)) .none kV22 dc22 pm22 an22 cd22 ct22), sl22⟩) (c22 : PySem.W.codeIn K cd22 "next_of" = true) (k22 : PySem.W.keepIn K (.ref f22) = true)
    (a23 : PySem.W.nsIn K mainGlobals "after" = some (some (.ref f23))) (l23 : K.lookup f23 = some ⟨oc23, od23, .func (PySem.W.fnOf "after" "after" (defArgs (topS 23)) (defBody (topS 23)) (defScope (topS 23)) .none kV23 dc23 pm23 an23 cd23 ct23), sl23⟩) (c23 : PySem.W.codeIn K cd23 "after" = true) (k23 : PySem.W.keepIn K (.ref f23) = true)
    (a26 : PySem.W.nsIn K mainGlobals "all_of" = some (some (.ref f26))) (l26 : K.lookup f26 = some ⟨oc26, od26, .func (PySem.W.fnOf "all_of" "all_of" (defArgs (topS 26)) (defBody (topS 26)) (defScope (topS 26)) .none kV26 dc26 pm26 an26 cd26 ct26), sl26⟩) (c26 : PySem.W.codeIn K cd26 "all_of" = true) (k26 : PySem.W.keepIn K (.ref f26) = true)
    (a27 : PySem.W.nsIn K mainGlobals "need_start" = some (some (.ref f27))) (l27 : K.lookup f27 = some ⟨oc27, od27, .func (PySem.W.fnOf "need_start" "need_start" (defArgs (topS 27)) (defBody (topS 27)) (defScope (topS 27)) .none kV27 dc27 pm27 an27 cd27 ct27), sl27⟩) (c27 : PySem.W.codeIn K cd27 "need_start" = true) (k27 : PySem.W.keepIn K (.ref f27) = true)
    (a30 : PySem.W.nsIn K mainGlobals "lengths_of" = some (some (.ref f30))) (l30 : K.lookup f30 = some ⟨oc30, od30, .func (PySem.W.fnOf "lengths_of" "lengths_of" (defArgs (topS 30)) (defBody (topS 30)) (defScope (topS 30)) .none kV30 dc30 pm30 an30 cd30 ct30), sl30⟩) (c30 : PySem.W.codeIn K cd30 "lengths_of" = true) (k30 : PySem.W.keepIn K (.ref f30) = true)
    (a31 : PySem.W.nsIn K mainGlobals "count_rows" = some (some (.ref f31))) (l31 : K.lookup f31 = some ⟨oc31, od31, .func (PySem.W.fnOf "count_rows" "count_rows" (defArgs (topS 31)) (defBody (topS 31)) (defScope (topS 31)) .none kV31 dc31 pm31 an31 cd31 ct31), sl31⟩) (c31 : PySem.W.codeIn K cd31 "count_rows" = true) (k31 : PySem.W.keepIn K (.ref f31) = true)
    (a32 : PySem.W.nsIn K mainGlobals "row_lengths" = some (some (.ref f32))) (l32 : K.lookup f32 = some ⟨oc32, od32, .func (PySem.W.fnOf "row_lengths" "row_lengths" (defArgs (topS 32)) (defBody (topS 32)) (defScope (topS 32)) .none kV32 dc32 pm32 an32 cd32 ct32), sl32⟩) (c32 : PySem.W.codeIn K cd32 "row_lengths" = true) (k32 : PySem.W.keepIn K (.ref f32) = true)
    (a33 : PySem.W.nsIn K mainGlobals "most_stoops" = some (some (.ref f33))) (l33 : K.lookup f33 = some ⟨oc33, od33, .func (PySem.W.fnOf "most_stoops" "most_stoops" (defArgs (topS 33)) (defBody (topS 33)) (defScope (topS 33)) .none kV33 dc33 pm33 an33 cd33 ct33), sl33⟩) (c33 : PySem.W.codeIn K cd33 "most_stoops" = true) (k33 : PySem.W.keepIn K (.ref f33) = true)
    (a34 : PySem.W.nsIn K mainGlobals "all_lengths" = some (some (.ref f34))) (l34 : K.lookup f34 = some ⟨oc34, od34, .func (PySem.W.fnOf "all_lengths" "all_lengths" (defArgs (topS 34)) (defBody (topS 34)) (defScope (topS 34)) .none kV34 dc34 pm34 an34 cd34 ct34), sl34⟩) (c34 : PySem.W.codeIn K cd34 "all_lengths" = true) (k34 : PySem.W.keepIn K (.ref f34) = true)
    (a35 : PySem.W.nsIn K mainGlobals "longest" = some (some (.ref f35))) (l35 : K.lookup f35 = some ⟨oc35, od35, .func (PySem.W.fnOf "longest" "longest" (defArgs (topS 35)) (defBody (topS 35)) (defScope (topS 35)) .none kV35 dc35 pm35 an35 cd35 ct35), sl35⟩) (c35 : PySem.W.codeIn K cd35 "longest" = true) (k35 : PySem.W.keepIn K (.ref f35) = true)
    (a36 : PySem.W.nsIn K mainGlobals "shortest" = some (some (.ref f36))) (l36 : K.lookup f36 = some ⟨oc36, od36, .func (PySem.W.fnOf "shortest" "shortest" (defArgs (topS 36)) (defBody (topS 36)) (defScope (topS 36)) .none kV36 dc36 pm36 an36 cd36 ct36), sl36⟩) (c36 : PySem.W.codeIn K cd36 "shortest" = true) (k36 : PySem.W.keepIn K (.ref f36) = true)
    (a37 : PySem.W.nsIn K mainGlobals "count_chains" = some (some (.ref f37))) (l37 : K.lookup f37 = some ⟨oc37, od37, .func (PySem.W.fnOf "count_chains" "count_chains" (defArgs (topS 37)) (defBody (topS 37)) (defScope (topS 37)) .none kV37 dc37 pm37 an37 cd37 ct37), sl37⟩) (c37 : PySem.W.codeIn K cd37 "count_chains" = true) (k37 : PySem.W.keepIn K (.ref f37) = true)
    (a38 : PySem.W.nsIn K mainGlobals "rows_of_length" = some (some (.ref f38))) (l38 : K.lookup f38 = some ⟨oc38, od38, .func (PySem.W.fnOf "rows_of_length" "rows_of_length" (defArgs (topS 38)) (defBody (topS 38)) (defScope (topS 38)) .none kV38 dc38 pm38 an38 cd38 ct38), sl38⟩) (c38 : PySem.W.codeIn K cd38 "rows_of_length" = true) (k38 : PySem.W.keepIn K (.ref f38) = true)
    (a40 : PySem.W.nsIn K mainGlobals "_law_taken" = some (some (.ref f40))) (l40 : K.lookup f40 = some ⟨oc40, od40, .func (PySem.W.fnOf "_law_taken" "_law_taken" (defArgs (topS 40)) (defBody (topS 40)) (defScope (topS 40)) .none kV40 dc40 pm40 an40 cd40 ct40), sl40⟩) (c40 : PySem.W.codeIn K cd40 "_law_taken" = true) (k40 : PySem.W.keepIn K (.ref f40) = true)
    (a41 : PySem.W.nsIn K mainGlobals "_law_pick" = some (some (.ref f41))) (l41 : K.lookup f41 = some ⟨oc41, od41, .func (PySem.W.fnOf "_law_pick" "_law_pick" (defArgs (topS 41)) (defBody (topS 41)) (defScope (topS 41)) .none kV41 dc41 pm41 an41 cd41 ct41), sl41⟩) (c41 : PySem.W.codeIn K cd41 "_law_pick" = true) (k41 : PySem.W.keepIn K (.ref f41) = true)
    (a42 : PySem.W.nsIn K mainGlobals "_law_alike" = some (some (.ref f42))) (l42 : K.lookup f42 = some ⟨oc42, od42, .func (PySem.W.fnOf "_law_alike" "_law_alike" (defArgs (topS 42)) (defBody (topS 42)) (defScope (topS 42)) .none kV42 dc42 pm42 an42 cd42 ct42), sl42⟩) (c42 : PySem.W.codeIn K cd42 "_law_alike" = true) (k42 : PySem.W.keepIn K (.ref f42) = true)
    (a43 : PySem.W.nsIn K mainGlobals "_law_web" = some (some (.ref f43))) (l43 : K.lookup f43 = some ⟨oc43, od43, .func (PySem.W.fnOf "_law_web" "_law_web" (defArgs (topS 43)) (defBody (topS 43)) (defScope (topS 43)) .none kV43 dc43 pm43 an43 cd43 ct43), sl43⟩) (c43 : PySem.W.codeIn K cd43 "_law_web" = true) (k43 : PySem.W.keepIn K (.ref f43) = true)
    (a44 : PySem.W.nsIn K mainGlobals "_law_heights" = some (some (.ref f44))) (l44 : K.lookup f44 = some ⟨oc44, od44, .func (PySem.W.fnOf "_law_heights" "_law_heights" (defArgs (topS 44)) (defBody (topS 44)) (defScope (topS 44)) .none kV44 dc44 pm44 an44 cd44 ct44), sl44⟩) (c44 : PySem.W.codeIn K cd44 "_law_heights" = true) (k44 : PySem.W.keepIn K (.ref f44) = true)
    (a45 : PySem.W.nsIn K mainGlobals "_law_ties" = some (some (.ref f45))) (l45 : K.lookup f45 = some ⟨oc45, od45, .func (PySem.W.fnOf "_law_ties" "_law_ties" (defArgs (topS 45)) (defBody (topS 45)) (defScope (topS 45)) .none kV45 dc45 pm45 an45 cd45 ct45), sl45⟩) (c45 : PySem.W.codeIn K cd45 "_law_ties" = true) (k45 : PySem.W.keepIn K (.ref f45) = true)
    (a46 : PySem.W.nsIn K mainGlobals "_law_stoops" = some (some (.ref f46))) (l46 : K.lookup f46 = some ⟨oc46, od46, .func (PySem.W.fnOf "_law_stoops" "_law_stoops" (defArgs (topS 46)) (defBody (topS 46)) (defScope (topS 46)) .none kV46 dc46 pm46 an46 cd46 ct46), sl46⟩) (c46 : PySem.W.codeIn K cd46 "_law_stoops" = true) (k46 : PySem.W.keepIn K (.ref f46) = true)
    (a47 : PySem.W.nsIn K mainGlobals "_law_after" = some (some (.ref f47))) (l47 : K.lookup f47 = some ⟨oc47, od47, .func (PySem.W.fnOf "_law_after" "_law_after" (defArgs (topS 47)) (defBody (topS 47)) (defScope (topS 47)) .none kV47 dc47 pm47 an47 cd47 ct47), sl47⟩) (c47 : PySem.W.codeIn K cd47 "_law_after" = true) (k47 : PySem.W.keepIn K (.ref f47) = true)
    (a48 : PySem.W.nsIn K mainGlobals "_law_drawn" = some (some (.ref f48))) (l48 : K.lookup f48 = some ⟨oc48, od48, .func (PySem.W.fnOf "_law_drawn" "_law_drawn" (defArgs (topS 48)) (defBody (topS 48)) (defScope (topS 48)) .none kV48 dc48 pm48 an48 cd48 ct48), sl48⟩) (c48 : PySem.W.codeIn K cd48 "_law_drawn" = true) (k48 : PySem.W.keepIn K (.ref f48) = true)
    (a49 : PySem.W.nsIn K mainGlobals "_law_goal" = some (some (.ref f49))) (l49 : K.lookup f49 = some ⟨oc49, od49, .func (PySem.W.fnOf "_law_goal" "_law_goal" (defArgs (topS 49)) (defBody (topS 49)) (defScope (topS 49)) .none kV49 dc49 pm49 an49 cd49 ct49), sl49⟩) (c49 : PySem.W.codeIn K cd49 "_law_goal" = true) (k49 : PySem.W.keepIn K (.ref f49) = true)
    (a50 : PySem.W.nsIn K mainGlobals "_law_lengths" = some (some (.ref f50))) (l50 : K.lookup f50 = some ⟨oc50, od50, .func (PySem.W.fnOf "_law_lengths" "_law_lengths" (defArgs (topS 50)) (defBody (topS 50)) (defScope (topS 50)) .none kV50 dc50 pm50 an50 cd50 ct50), sl50⟩) (c50 : PySem.W.codeIn K cd50 "_law_lengths" = true) (k50 : PySem.W.keepIn K (.ref f50) = true)
    (a51 : PySem.W.nsIn K mainGlobals "law" = some (some (.ref f51))) (l51 : K.lookup f51 = some ⟨oc51, od51, .func (PySem.W.fnOf "law" "law" (defArgs (topS 51)) (defBody (topS 51)) (defScope (topS 51)) .none kV51 dc51 pm51 an51 cd51 ct51), sl51⟩) (c51 : PySem.W.codeIn K cd51 "law" = true) (k51 : PySem.W.keepIn K (.ref f51) = true)
    (z0 : PySem.W.nsIn K mainGlobals "isinstance" = some none)
    (z1 : PySem.W.nsIn K mainGlobals "int" = some none)
    (z2 : PySem.W.nsIn K mainGlobals "bool" = some none)
    (z3 : PySem.W.nsIn K mainGlobals "tuple" = some none)
    (z4 : PySem.W.nsIn K mainGlobals "list" = some none)
    (z5 : PySem.W.nsIn K mainGlobals "str" = some none)
    (z6 : PySem.W.nsIn K mainGlobals "dict" = some none)
    (z7 : PySem.W.nsIn K mainGlobals "len" = some none)
    (z8 : PySem.W.nsIn K mainGlobals "enumerate" = some none)
    (z9 : PySem.W.nsIn K mainGlobals "sorted" = some none)
    (z10 : PySem.W.nsIn K mainGlobals "range" = some none)
    (z11 : PySem.W.nsIn K mainGlobals "min" = some none)
    (z12 : PySem.W.nsIn K mainGlobals "max" = some none)
    (z13 : PySem.W.nsIn K mainGlobals "sum" = some none)
    (m1 : PySem.W.nsIn K mainGlobals "MOST_PERSONS" = some (some (.int 8 tm1)))
    (m2 : PySem.W.nsIn K mainGlobals "MOST_HEIGHT" = some (some (.int 1000 tm2)))
    (m3 : PySem.W.nsIn K mainGlobals "MOST_OUTCOMES" = some (some (.int 5000 tm3)))
    (m4 : PySem.W.nsIn K mainGlobals "MOST_STEPS" = some (some (.int 60 tm4))) :
    ∃ fd : FuncData, (∀ (s : Shared) (v : Value), BindsTo s fd ⟨[v], []⟩ [("_law_script", v)]) ∧ ∀ base : Heap, K.In base → base.Ns mainGlobals mg → FnOk l.prog w K mg base CX0 7 fa fd ["_law_script"] (spLaw K) := by
  have e := hfa.symm.trans (PySem.W.mg_of X G a51)
  cases e
  have F := fun_mk (st := topS 51) l51 c51 k51
  have B : Blt mg := ⟨PySem.W.mg_none_of X G z0, PySem.W.mg_none_of X G z1, PySem.W.mg_none_of X G z2, PySem.W.mg_none_of X G z3, PySem.W.mg_none_of X G z4, PySem.W.mg_none_of X G z5, PySem.W.mg_none_of X G z6, PySem.W.mg_none_of X G z7, PySem.W.mg_none_of X G z8, PySem.W.mg_none_of X G z9, PySem.W.mg_none_of X G z10, PySem.W.mg_none_of X G z11, PySem.W.mg_none_of X G z12, PySem.W.mg_none_of X G z13, ⟨_, PySem.W.mg_of X G m1⟩, ⟨_, PySem.W.mg_of X G m2⟩, ⟨_, PySem.W.mg_of X G m3⟩, ⟨_, PySem.W.mg_of X G m4⟩⟩
  have D : Defs K mg := by
    refine ⟨?_, ?_, ?_, ?_, ?_, ?_, ?_, ?_, ?_, ?_, ?_, ?_, ?_, ?_, ?_, ?_, ?_, ?_, ?_, ?_, ?_, ?_, ?_, ?_, ?_, ?_, ?_, ?_, ?_, ?_, ?_, ?_, ?_, ?_, ?_, ?_⟩
    · exact def_mk X G (fun _ _ _ _ _ _ us hl => match us, hl with | [_], _ => rfl) a9 l9 c9 k9
    · exact def_mk X G (fun _ _ _ _ _ _ us hl => match us, hl with | [_, _, _], _ => rfl) a10 l10 c10 k10
    · exact def_mk X G (fun _ _ _ _ _ _ us hl => match us, hl with | [_, _, _], _ => rfl) a11 l11 c11 k11
    · exact def_mk X G (fun _ _ _ _ _ _ us hl => match us, hl with | [_], _ => rfl) a12 l12 c12 k12
    · exact def_mk X G (fun _ _ _ _ _ _ us hl => match us, hl with | [_, _], _ => rfl) a13 l13 c13 k13
    · exact def_mk X G (fun _ _ _ _ _ _ us hl => match us, hl with | [_], _ => rfl) a14 l14 c14 k14
    · exact def_mk X G (fun _ _ _ _ _ _ us hl => match us, hl with | [_, _], _ => rfl) a15 l15 c15 k15
    · exact def_mk X G (fun _ _ _ _ _ _ us hl => match us, hl with | [_, _], _ => rfl) a16 l16 c16 k16
    · exact def_mk X G (fun _ _ _ _ _ _ us hl => match us, hl with | [_, _, _], _ => rfl) a17 l17 c17 k17
    · exact def_mk X G (fun _ _ _ _ _ _ us hl => match us, hl with | [_, _], _ => rfl) a18 l18 c18 k18
    · exact def_mk X G (fun _ _ _ _ _ _ us hl => match us, hl with | [_], _ => rfl) a19 l19 c19 k19
    · exact def_mk X G (fun _ _ _ _ _ _ us hl => match us, hl with | [_, _], _ => rfl) a20 l20 c20 k20
    · exact def_mk X G (fun _ _ _ _ _ _ us hl => match us, hl with | [_, _], _ => rfl) a22 l22 c22 k22
    · exact def_mk X G (fun _ _ _ _ _ _ us hl => match us, hl with | [_, _, _], _ => rfl) a23 l23 c23 k23
    · exact def_mk X G (fun _ _ _ _ _ _ us hl => match us, hl with | [_, _], _ => rfl) a26 l26 c26 k26
    · exact def_mk X G (fun _ _ _ _ _ _ us hl => match us, hl with | [_, _], _ => rfl) a27 l27 c27 k27
    · exact def_mk X G (fun _ _ _ _ _ _ us hl => match us, hl with | [_, _], _ => rfl) a30 l30 c30 k30
    · exact def_mk X G (fun _ _ _ _ _ _ us hl => match us, hl with | [_, _, _, _], _ => rfl) a31 l31 c31 k31
    · exact def_mk X G (fun _ _ _ _ _ _ us hl => match us, hl with | [_, _, _], _ => rfl) a32 l32 c32 k32
    · exact def_mk X G (fun _ _ _ _ _ _ us hl => match us, hl with | [_, _, _], _ => rfl) a33 l33 c33 k33
    · exact def_mk X G (fun _ _ _ _ _ _ us hl => match us, hl with | [_, _], _ => rfl) a34 l34 c34 k34
    · exact def_mk X G (fun _ _ _ _ _ _ us hl => match us, hl with | [_, _], _ => rfl) a35 l35 c35 k35
    · exact def_mk X G (fun _ _ _ _ _ _ us hl => match us, hl with | [_, _], _ => rfl) a36 l36 c36 k36
    · exact def_mk X G (fun _ _ _ _ _ _ us hl => match us, hl with | [_, _, _], _ => rfl) a37 l37 c37 k37
    · exact def_mk X G (fun _ _ _ _ _ _ us hl => match us, hl with | [_, _, _], _ => rfl) a38 l38 c38 k38
    · exact def_mk X G (fun _ _ _ _ _ _ us hl => match us, hl with | [_, _], _ => rfl) a40 l40 c40 k40
    · exact def_mk X G (fun _ _ _ _ _ _ us hl => match us, hl with | [_, _], _ => rfl) a41 l41 c41 k41
    · exact def_mk X G (fun _ _ _ _ _ _ us hl => match us, hl with | [_, _], _ => rfl) a42 l42 c42 k42
    · exact def_mk X G (fun _ _ _ _ _ _ us hl => match us, hl with | [_, _, _], _ => rfl) a43 l43 c43 k43
    · exact def_mk X G (fun _ _ _ _ _ _ us hl => match us, hl with | [_, _, _], _ => rfl) a44 l44 c44 k44
    · exact def_mk X G (fun _ _ _ _ _ _ us hl => match us, hl with | [_, _], _ => rfl) a45 l45 c45 k45
    · exact def_mk X G (fun _ _ _ _ _ _ us hl => match us, hl with | [_, _], _ => rfl) a46 l46 c46 k46
    · exact def_mk X G (fun _ _ _ _ _ _ us hl => match us, hl with | [_, _], _ => rfl) a47 l47 c47 k47
    · exact def_mk X G (fun _ _ _ _ _ _ us hl => match us, hl with | [_, _, _, _], _ => rfl) a48 l48 c48 k48
    · exact def_mk X G (fun _ _ _ _ _ _ us hl => match us, hl with | [_, _, _], _ => rfl) a49 l49 c49 k49
    · exact def_mk X G (fun _ _ _ _ _ _ us hl => match us, hl with | [_, _], _ => rfl) a50 l50 c50 k50
  exact ⟨_, fun s v => .of_eq rfl, fun base _ _ => law_ok D B F⟩
theorem scr_of {K : PySem.W.Frag} {H : Hp} {a : Addr} {ns : List Int} (hO : Only H) (hS : SqL K H a (ns.map V.int)) : Scr K H a ns := by
  rcases hS with (h | ⟨o, h⟩) | h
  · rcases hO a with e | ⟨o, xs, e⟩
    · rw [e] at h; cases h
    · rw [e] at h; cases h
  · exact .inl ⟨o, h⟩
  · exact .inr h
end Sto

/-! part KF -/
set_option Elab.async false
set_option linter.all false
set_option maxRecDepth 100000
open PySem PySem.W PyProof.Rows
set_option maxRecDepth 100000 in
set_option maxHeartbeats 0 in
theorem PySem.Challenge.cw_stoopers_k12_whole_rows_counted_holds : PySem.Challenge.rw_stoopers_k12_whole_rows_counted.Holds := by
  w_on; o_law; k_head; (case hw => w_witness2)
  k_fill
  refine L2.walk_of (l := PySem.Challenge.rw_stoopers_k12_whole_rows_counted) (n := 63) (k := 7) (x := "_law_script") (CX := fun _ => L2.CX0) (sp := fun w => Sto.spLaw _) rfl (by decide) rfl ⟨rfl, by decide, by decide⟩ (fun w h Y => PySem.W.kIn_of Y) ?F (fun _ _ a ns hl hO hS => ⟨a, ns, rfl, Sto.scr_of hO hS, fun _ => rfl⟩) (fun _ _ _ _ _ h => h)
  case F =>
    intro w mg fa h KX G hmg
    refine' Sto.all_mk KX G hmg ?a9 ?l9 ?c9 ?k9 ?a10 ?l10 ?c10 ?k10 ?a11 ?l11 ?c11 ?k11 ?a12 ?l12 ?c12 ?k12 ?a13 ?l13 ?c13 ?k13 ?a14 ?l14 ?c14 ?k14 ?a15 ?l15 ?c15 ?k15 ?a16 ?l16 ?c16 ?k16 ?a17 ?l17 ?c17 ?k17 ?a18 ?l18 ?c18 ?k18 ?a19 ?l19 ?c19 ?k19 ?a20 ?l20 ?c20 ?k20 ?a22 ?l22 ?c22 ?k22 ?a23 ?l23 ?c23 ?k23 ?a26 ?l26 ?c26 ?k26 ?a27 ?l27 ?c27 ?k27 ?a30 ?l30 ?c30 ?k30 ?a31 ?l31 ?c31 ?k31 ?a32 ?l32 ?c32 ?k32 ?a33 ?l33 ?c33 ?k33 ?a34 ?l34 ?c34 ?k34 ?a35 ?l35 ?c35 ?k35 ?a36 ?l36 ?c36 ?k36 ?a37 ?l37 ?c37 ?k37 ?a38 ?l38 ?c38 ?k38 ?a40 ?l40 ?c40 ?k40 ?a41 ?l41 ?c41 ?k41 ?a42 ?l42 ?c42 ?k42 ?a43 ?l43 ?c43 ?k43 ?a44 ?l44 ?c44 ?k44 ?a45 ?l45 ?c45 ?k45 ?a46 ?l46 ?c46 ?k46 ?a47 ?l47 ?c47 ?k47 ?a48 ?l48 ?c48 ?k48 ?a49 ?l49 ?c49 ?k49 ?a50 ?l50 ?c50 ?k50 ?a51 ?l51 ?c51 ?k51 ?z0 ?z1 ?z2 ?z3 ?z4 ?z5 ?z6 ?z7 ?z8 ?z9 ?z10 ?z11 ?z12 ?z13 ?m1 ?m2 ?m3 ?m4
    (case a9 => k_is); (case l9 => k_is); (case c9 => k_is); (case k9 => k_is); (case a10 => k_is); (case l10 => k_is); (case c10 => k_is); (case k10 => k_is)
    (case a11 => k_is); (case l11 => k_is); (case c11 => k_is); (case k11 => k_is); (case a12 => k_is); (case l12 => k_is); (case c12 => k_is); (case k12 => k_is)
    (case a13 => k_is); (case l13 => k_is); (case c13 => k_is); (case k13 => k_is); (case a14 => k_is); (case l14 => k_is); (case c14 => k_is); (case k14 => k_is)
    (case a15 => k_is); (case l15 => k_is); (case c15 => k_is); (case k15 => k_is); (case a16 => k_is); (case l16 => k_is); (case c16 => k_is); (case k16 => k_is)
    (case a17 => k_is); (case l17 => k_is); (case c17 => k_is); (case k17 => k_is); (case a18 => k_is); (case l18 => k_is); (case c18 => k_is); (case k18 => k_is)
    (case a19 => k_is); (case l19 => k_is); (case c19 => k_is); (case k19 => k_is); (case a20 => k_is); (case l20 => k_is); (case c20 => k_is); (case k20 => k_is)
    (case a22 => k_is); (case l22 => k_is); (case c22 => k_is); (case k22 => k_is); (case a23 => k_is); (case l23 => k_is); (case c23 => k_is); (case k23 => k_is)
    (case a26 => k_is); (case l26 => k_is); (case c26 => k_is); (case k26 => k_is); (case a27 => k_is); (case l27 => k_is); (case c27 => k_is); (case k27 => k_is)
    (case a30 => k_is); (case l30 => k_is); (case c30 => k_is); (case k30 => k_is); (case a31 => k_is); (case l31 => k_is); (case c31 => k_is); (case k31 => k_is)
    (case a32 => k_is); (case l32 => k_is); (case c32 => k_is); (case k32 => k_is); (case a33 => k_is); (case l33 => k_is); (case c33 => k_is); (case k33 => k_is)
    (case a34 => k_is); (case l34 => k_is); (case c34 => k_is); (case k34 => k_is); (case a35 => k_is); (case l35 => k_is); (case c35 => k_is); (case k35 => k_is)
    (case a36 => k_is); (case l36 => k_is); (case c36 => k_is); (case k36 => k_is); (case a37 => k_is); (case l37 => k_is); (case c37 => k_is); (case k37 => k_is)
    (case a38 => k_is); (case l38 => k_is); (case c38 => k_is); (case k38 => k_is); (case a40 => k_is); (case l40 => k_is); (case c40 => k_is); (case k40 => k_is)
    (case a41 => k_is); (case l41 => k_is); (case c41 => k_is); (case k41 => k_is); (case a42 => k_is); (case l42 => k_is); (case c42 => k_is); (case k42 => k_is)
    (case a43 => k_is); (case l43 => k_is); (case c43 => k_is); (case k43 => k_is); (case a44 => k_is); (case l44 => k_is); (case c44 => k_is); (case k44 => k_is)
    (case a45 => k_is); (case l45 => k_is); (case c45 => k_is); (case k45 => k_is); (case a46 => k_is); (case l46 => k_is); (case c46 => k_is); (case k46 => k_is)
    (case a47 => k_is); (case l47 => k_is); (case c47 => k_is); (case k47 => k_is); (case a48 => k_is); (case l48 => k_is); (case c48 => k_is); (case k48 => k_is)
    (case a49 => k_is); (case l49 => k_is); (case c49 => k_is); (case k49 => k_is); (case a50 => k_is); (case l50 => k_is); (case c50 => k_is); (case k50 => k_is)
    (case a51 => k_is); (case l51 => k_is); (case c51 => k_is); (case k51 => k_is); (case z0 => k_is); (case z1 => k_is); (case z2 => k_is); (case z3 => k_is)
    (case z4 => k_is); (case z5 => k_is); (case z6 => k_is); (case z7 => k_is); (case z8 => k_is); (case z9 => k_is); (case z10 => k_is); (case z11 => k_is)
    (case z12 => k_is); (case z13 => k_is); (case m1 => k_is); (case m2 => k_is); (case m3 => k_is); (case m4 => k_is)
