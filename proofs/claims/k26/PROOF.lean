import PyProof.Rows.All
import Wide.All
import OpenK.AllK
import Wide.FinOn
import HandS.ForMost
import HandS.SortInts
import HandS.Star
import HandS.DictComp
import HandS.Deep
import HandS.IsInst
import HandS.TupAny
import HandS.TupLe
import HandS.Wide
import HandS.Conv
import HandS.ExcValue
import HandS.SortKw
import KE.DatumOrd
import PyProof.Rows.SortShellAny
import PyProof.ReprRoads
import KE.KExcSuper
import HandS.ForExc
import HandS.ExcInit
import KE.KExcIs
import HandS.ExcIs
import HandS.ExcField
import KE.KLam
import HandS.Codes
import HandS.Lambda
import PySem.Challenge.RW_keptlamps_k26_whole_wirings_among_neighb
import HandS.Defaults
import KE.KEqSeq
import HandS.Style
import KE.LtData
import HandS.EndTab

section K26Math
/-! K26Math: plain mathematics: sorting, crossings of neighbours, gates as maps of lights. Core Lean alone. -/
set_option linter.all false
set_option maxHeartbeats 4000000
namespace K26

/-! ### sorting -/
def ins (x : Int) : List Int → List Int
  | [] => [x]
  | y :: r => if x ≤ y then x :: y :: r else y :: ins x r
def srt : List Int → List Int
  | [] => []
  | x :: r => ins x (srt r)
theorem ins_perm (x : Int) : ∀ l : List Int, (ins x l).Perm (x :: l)
  | [] => .refl _
  | y :: r => by
    unfold ins
    split
    · exact .refl _
    · exact ((ins_perm x r).cons y).trans (.swap x y r)
theorem srt_perm : ∀ l : List Int, (srt l).Perm l
  | [] => .refl _
  | x :: r => (ins_perm x (srt r)).trans ((srt_perm r).cons x)
theorem ins_sorted (x : Int) : ∀ {l : List Int}, l.Pairwise (· ≤ ·) → (ins x l).Pairwise (· ≤ ·)
  | [], _ => by simp [ins]
  | y :: r, h => by
    obtain ⟨h1, h2⟩ := List.pairwise_cons.mp h
    unfold ins
    split
    · rename_i hxy
      refine List.pairwise_cons.mpr ⟨fun z hz => ?_, h⟩
      rcases List.mem_cons.mp hz with rfl | hz
      · exact hxy
      · exact Int.le_trans hxy (h1 z hz)
    · rename_i hxy
      refine List.pairwise_cons.mpr ⟨fun z hz => ?_, ins_sorted x h2⟩
      rcases List.mem_cons.mp ((ins_perm x r).mem_iff.mp hz) with rfl | hz
      · omega
      · exact h1 z hz
theorem srt_sorted : ∀ l : List Int, (srt l).Pairwise (· ≤ ·)
  | [] => .nil
  | x :: r => ins_sorted x (srt_sorted r)
theorem sorted_unique : ∀ {l m : List Int}, l.Perm m → l.Pairwise (· ≤ ·) → m.Pairwise (· ≤ ·) → l = m
  | [], m, h, _, _ => h.nil_eq
  | x :: r, [], h, _, _ => absurd h.length_eq (by simp)
  | x :: r, y :: t, h, hl, hm => by
    obtain ⟨a1, a2⟩ := List.pairwise_cons.mp hl
    obtain ⟨b1, b2⟩ := List.pairwise_cons.mp hm
    have hx : x ∈ y :: t := h.mem_iff.mp List.mem_cons_self
    have hy : y ∈ x :: r := h.mem_iff.mpr List.mem_cons_self
    have e : x = y := by
      rcases List.mem_cons.mp hx with e | hx
      · exact e
      · rcases List.mem_cons.mp hy with e | hy
        · exact e.symm
        · exact Int.le_antisymm (a1 y hy) (b1 x hx)
    subst e
    rw [sorted_unique (List.perm_cons x |>.mp h) a2 b2]
theorem srt_unique {l m : List Int} (h : m.Perm l) (hs : m.Pairwise (· ≤ ·)) : m = srt l :=
  sorted_unique (h.trans (srt_perm l).symm) hs (srt_sorted l)
theorem srt_of_sorted {l : List Int} (h : l.Pairwise (· ≤ ·)) : srt l = l := (srt_unique (.refl l) h).symm
theorem srt_congr {l m : List Int} (h : l.Perm m) : srt l = srt m := srt_unique ((srt_perm l).trans h) (srt_sorted l)
theorem srt_length (l : List Int) : (srt l).length = l.length := (srt_perm l).length_eq
theorem srt_nodup {l : List Int} (h : l.Nodup) : (srt l).Nodup := (srt_perm l).nodup_iff.mpr h

/-! ### inversions, adjacent swaps -/
def inv : List Int → Nat
  | [] => 0
  | x :: r => r.countP (fun y => decide (y < x)) + inv r
def swapAt : List Int → Nat → List Int
  | x :: y :: r, 0 => y :: x :: r
  | x :: r, p + 1 => x :: swapAt r p
  | l, _ => l
theorem swapAt_perm : ∀ (l : List Int) (p : Nat), (swapAt l p).Perm l
  | [], 0 => .refl _
  | [], _ + 1 => .refl _
  | [_], 0 => .refl _
  | x :: y :: r, 0 => .swap x y r
  | [x], p + 1 => (swapAt_perm [] p).cons x
  | x :: y :: r, p + 1 => (swapAt_perm (y :: r) p).cons x
theorem swapAt_length (l : List Int) (p : Nat) : (swapAt l p).length = l.length := (swapAt_perm l p).length_eq
theorem swapAt_get : ∀ (l : List Int) (p : Nat), p + 1 < l.length → ∀ i, (swapAt l p)[i]? = if i = p then l[p + 1]? else if i = p + 1 then l[p]? else l[i]?
  | [], _, h, _ => by simp at h
  | [_], _, h, _ => by simp at h
  | x :: y :: r, 0, _, i => by
    match i with
    | 0 => simp [swapAt]
    | 1 => simp [swapAt]
    | i + 2 => simp [swapAt]
  | x :: y :: r, p + 1, h, i => by
    have h' : p + 1 < (y :: r).length := by simp only [List.length_cons] at h ⊢; omega
    match i with
    | 0 => simp [swapAt]
    | i + 1 =>
      show (swapAt (y :: r) p)[i]? = _
      rw [swapAt_get (y :: r) p h' i]
      by_cases e1 : i = p
      · subst e1; simp
      · by_cases e2 : i = p + 1
        · subst e2; simp
        · rw [if_neg e1, if_neg e2, if_neg (by omega), if_neg (by omega)]; simp
theorem getD_get {l : List Int} {i : Nat} (h : i < l.length) : l[i]? = some (l.getD i 0) := by
  simp [List.getD, h]
theorem swapAt_set {l : List Int} {p : Nat} (h : p + 1 < l.length) : (l.set p (l.getD (p + 1) 0)).set (p + 1) (l.getD p 0) = swapAt l p := by
  apply List.ext_getElem?
  intro i
  rw [swapAt_get l p h i]
  by_cases e2 : i = p + 1
  · subst e2
    rw [List.getElem?_set_self (by simpa using h), if_neg (by omega), if_pos rfl, getD_get (by omega)]
  · rw [List.getElem?_set_ne (by omega)]
    by_cases e1 : i = p
    · subst e1
      rw [List.getElem?_set_self (by omega), if_pos rfl, getD_get h]
    · rw [List.getElem?_set_ne (by omega), if_neg e1, if_neg e2]
theorem inv_swap : ∀ (l : List Int) (p : Nat), p + 1 < l.length → l.getD (p + 1) 0 < l.getD p 0 → inv (swapAt l p) + 1 = inv l
  | [], _, h, _ => by simp at h
  | [_], _, h, _ => by simp at h
  | x :: y :: r, 0, _, h => by
    have h' : y < x := by simpa using h
    show ((x :: r).countP (fun z => decide (z < y)) + (r.countP (fun z => decide (z < x)) + inv r)) + 1 = (y :: r).countP (fun z => decide (z < x)) + (r.countP (fun z => decide (z < y)) + inv r)
    rw [List.countP_cons_of_neg (by simp; omega), List.countP_cons_of_pos (by simpa using h')]
    omega
  | x :: y :: r, p + 1, h, hlt => by
    have h' : p + 1 < (y :: r).length := by simp only [List.length_cons] at h ⊢; omega
    have ih := inv_swap (y :: r) p h' (by simpa using hlt)
    show (swapAt (y :: r) p).countP _ + inv (swapAt (y :: r) p) + 1 = (y :: r).countP _ + inv (y :: r)
    rw [(swapAt_perm (y :: r) p).countP_eq, ← ih]
    omega
theorem inv_snoc (y : Int) : ∀ l : List Int, inv (l ++ [y]) = inv l + l.countP (fun x => decide (y < x))
  | [] => rfl
  | x :: r => by
    show (r ++ [y]).countP _ + inv (r ++ [y]) = (r.countP _ + inv r) + (x :: r).countP _
    rw [inv_snoc y r, List.countP_append, List.countP_cons, List.countP_cons, List.countP_nil]
    by_cases h : y < x
    · simp only [h, decide_true, if_true]; omega
    · simp only [h, decide_false, Bool.false_eq_true, if_false]; omega
theorem inv_sorted : ∀ {l : List Int}, l.Pairwise (· ≤ ·) → inv l = 0
  | [], _ => rfl
  | x :: r, h => by
    obtain ⟨h1, h2⟩ := List.pairwise_cons.mp h
    show r.countP _ + inv r = 0
    rw [inv_sorted h2, List.countP_eq_zero.mpr fun z hz => by have := h1 z hz; simp; omega]
theorem inv_le : ∀ l : List Int, 2 * inv l ≤ l.length * (l.length - 1)
  | [] => by simp [inv]
  | x :: r => by
    have ih := inv_le r
    have h1 : r.countP (fun y => decide (y < x)) ≤ r.length := List.countP_le_length
    show 2 * (r.countP _ + inv r) ≤ (r.length + 1) * (r.length + 1 - 1)
    rw [Nat.add_sub_cancel]
    cases hr : r.length with
    | zero => rw [hr] at ih h1; simp at ih; omega
    | succ m =>
      rw [hr] at ih h1
      rw [Nat.add_sub_cancel] at ih
      have e : (m + 1 + 1) * (m + 1) = (m + 1) * m + 2 * (m + 1) := by
        rw [Nat.mul_comm (m + 1 + 1), Nat.mul_add, Nat.mul_add]; omega
      rw [e]
      omega

/-! ### the crossings that sort -/
def cross : Nat → List Int → Nat → List Nat
  | 0, _, _ => []
  | k + 1, l, p => if p + 1 < l.length then (if l.getD (p + 1) 0 < l.getD p 0 then p :: cross k (swapAt l p) (p - 1) else cross k l (p + 1)) else []
def mu (l : List Int) (p : Nat) : Nat := 2 * inv l + (l.length - p)
theorem mu_swap {l : List Int} {p : Nat} (h : p + 1 < l.length) (hlt : l.getD (p + 1) 0 < l.getD p 0) : mu (swapAt l p) (p - 1) < mu l p := by
  have := inv_swap l p h hlt
  unfold mu
  rw [swapAt_length]
  omega
theorem mu_next {l : List Int} {p : Nat} (h : p + 1 < l.length) : mu l (p + 1) < mu l p := by
  unfold mu
  omega
theorem cross_stable : ∀ (k k' : Nat) (l : List Int) (p : Nat), mu l p ≤ k → mu l p ≤ k' → cross k l p = cross k' l p
  | 0, 0, _, _, _, _ => rfl
  | 0, k' + 1, l, p, h, _ => by
    have : ¬ p + 1 < l.length := by unfold mu at h; omega
    simp [cross, this]
  | k + 1, 0, l, p, _, h => by
    have : ¬ p + 1 < l.length := by unfold mu at h; omega
    simp [cross, this]
  | k + 1, k' + 1, l, p, h, h' => by
    unfold cross
    by_cases hp : p + 1 < l.length
    · rw [if_pos hp, if_pos hp]
      by_cases hl : l.getD (p + 1) 0 < l.getD p 0
      · have := mu_swap hp hl
        rw [if_pos hl, if_pos hl, cross_stable k k' _ _ (by omega) (by omega)]
      · have := mu_next hp
        rw [if_neg hl, if_neg hl, cross_stable k k' _ _ (by omega) (by omega)]
    · rw [if_neg hp, if_neg hp]
def crossAt (l : List Int) (p : Nat) : List Nat := cross (mu l p) l p
theorem crossAt_done {l : List Int} {p : Nat} (h : ¬ p + 1 < l.length) : crossAt l p = [] := by
  unfold crossAt
  cases mu l p with
  | zero => rfl
  | succ k => simp [cross, h]
theorem crossAt_swap {l : List Int} {p : Nat} (h : p + 1 < l.length) (hlt : l.getD (p + 1) 0 < l.getD p 0) : crossAt l p = p :: crossAt (swapAt l p) (p - 1) := by
  have hm := mu_swap h hlt
  unfold crossAt
  rw [show mu l p = (mu l p - 1) + 1 by omega]
  show (if p + 1 < l.length then _ else _) = _
  rw [if_pos h, if_pos hlt, cross_stable (mu l p - 1) (mu (swapAt l p) (p - 1)) _ _ (by omega) (Nat.le_refl _)]
theorem crossAt_next {l : List Int} {p : Nat} (h : p + 1 < l.length) (hge : ¬ l.getD (p + 1) 0 < l.getD p 0) : crossAt l p = crossAt l (p + 1) := by
  have hm := mu_next h
  unfold crossAt
  rw [show mu l p = (mu l p - 1) + 1 by omega]
  show (if p + 1 < l.length then _ else _) = _
  rw [if_pos h, if_neg hge, cross_stable (mu l p - 1) (mu l (p + 1)) _ _ (by omega) (Nat.le_refl _)]
/-- induction along the run -/
theorem crossAt_ind {P : List Int → Nat → Prop} (hd : ∀ l p, ¬ p + 1 < l.length → P l p)
    (hs : ∀ l p, p + 1 < l.length → l.getD (p + 1) 0 < l.getD p 0 → P (swapAt l p) (p - 1) → P l p)
    (hn : ∀ l p, p + 1 < l.length → ¬ l.getD (p + 1) 0 < l.getD p 0 → P l (p + 1) → P l p) (l : List Int) (p : Nat) : P l p := by
  have key : ∀ (k : Nat) (l : List Int) (p : Nat), mu l p ≤ k → P l p := by
    intro k
    induction k with
    | zero => intro l p h; exact hd l p (by unfold mu at h; omega)
    | succ k ih =>
      intro l p h
      by_cases hp : p + 1 < l.length
      · by_cases hl : l.getD (p + 1) 0 < l.getD p 0
        · exact hs l p hp hl (ih _ _ (by have := mu_swap hp hl; omega))
        · exact hn l p hp hl (ih _ _ (by have := mu_next hp; omega))
      · exact hd l p hp
  exact key _ l p (Nat.le_refl _)
theorem crossAt_pos (l : List Int) (p : Nat) : ∀ q ∈ crossAt l p, q + 1 < l.length := by
  refine crossAt_ind (P := fun l p => ∀ q ∈ crossAt l p, q + 1 < l.length) ?_ ?_ ?_ l p
  · intro l p h q hq
    rw [crossAt_done h] at hq
    cases hq
  · intro l p h hl ih q hq
    rw [crossAt_swap h hl] at hq
    rcases List.mem_cons.mp hq with rfl | hq
    · exact h
    · have := ih q hq
      rwa [swapAt_length] at this
  · intro l p h hl ih q hq
    rw [crossAt_next h hl] at hq
    exact ih q hq
/-- sorted up to p -/
def Upto (l : List Int) (p : Nat) : Prop := ∀ j, j < p → j + 1 < l.length → l.getD j 0 ≤ l.getD (j + 1) 0
theorem adj_pairwise : ∀ {l : List Int}, (∀ j, j + 1 < l.length → l.getD j 0 ≤ l.getD (j + 1) 0) → l.Pairwise (· ≤ ·)
  | [], _ => .nil
  | [x], _ => by simp
  | x :: y :: r, h => by
    have ih : (y :: r).Pairwise (· ≤ ·) := adj_pairwise fun j hj => by
      have := h (j + 1) (by simp only [List.length_cons] at hj ⊢; omega)
      simpa using this
    have hxy : x ≤ y := by simpa using h 0 (by simp)
    refine List.pairwise_cons.mpr ⟨fun z hz => ?_, ih⟩
    rcases List.mem_cons.mp hz with rfl | hz
    · exact hxy
    · exact Int.le_trans hxy ((List.pairwise_cons.mp ih).1 z hz)
theorem upto_done {l : List Int} {p : Nat} (h : ¬ p + 1 < l.length) (u : Upto l p) : l.Pairwise (· ≤ ·) :=
  adj_pairwise fun j hj => u j (by omega) hj
theorem getD_swapAt {l : List Int} {p i : Nat} (h : p + 1 < l.length) (hi : i < p) : (swapAt l p).getD i 0 = l.getD i 0 := by
  simp only [List.getD, swapAt_get l p h i]
  rw [if_neg (by omega), if_neg (by omega)]
theorem upto_swap {l : List Int} {p : Nat} (h : p + 1 < l.length) (u : Upto l p) : Upto (swapAt l p) (p - 1) := by
  intro j hj hl
  rw [getD_swapAt h (by omega), getD_swapAt h (by omega)]
  exact u j (by omega) (by rwa [swapAt_length] at hl)
theorem upto_next {l : List Int} {p : Nat} (hge : ¬ l.getD (p + 1) 0 < l.getD p 0) (u : Upto l p) : Upto l (p + 1) := by
  intro j hj hl
  by_cases e : j = p
  · subst e; omega
  · exact u j (by omega) hl
theorem crossAt_len (l : List Int) (p : Nat) : Upto l p → (crossAt l p).length = inv l := by
  refine crossAt_ind (P := fun l p => Upto l p → (crossAt l p).length = inv l) ?_ ?_ ?_ l p
  · intro l p h u
    rw [crossAt_done h, inv_sorted (upto_done h u)]
    rfl
  · intro l p h hl ih u
    rw [crossAt_swap h hl, List.length_cons, ih (upto_swap h u), inv_swap l p h hl]
  · intro l p h hl ih u
    rw [crossAt_next h hl, ih (upto_next hl u)]

/-! ### gates as maps of lights -/
abbrev G := List Int × Int × Int
abbrev Lit := Int → Bool
def swapF (a b : Int) (f : Lit) : Lit := fun l => if l = a then f b else if l = b then f a else f l
def act (g : G) (f : Lit) : Lit := if g.1.all f = true then swapF g.2.1 g.2.2 f else f
def run (gs : List G) (f : Lit) : Lit := gs.foldl (fun f g => act g f) f
def xg (p : Nat) : G := ([], (p : Int), (p : Int) + 1)
theorem run_append (a b : List G) (f : Lit) : run (a ++ b) f = run b (run a f) := List.foldl_append
theorem run_cons (g : G) (b : List G) (f : Lit) : run (g :: b) f = run b (act g f) := rfl
theorem swapF_swapF (a b : Int) (f : Lit) : swapF a b (swapF a b f) = f := by
  funext l
  unfold swapF
  by_cases h1 : l = a
  · subst h1
    by_cases h2 : b = l
    · subst h2; simp
    · simp [h2]
  · by_cases h2 : l = b
    · subst h2; simp [h1]
    · simp [h1, h2]
theorem act_xg (p : Nat) (f : Lit) : act (xg p) f = swapF (p : Int) ((p : Int) + 1) f := by
  simp [act, xg]
theorem act_xg_act (p : Nat) (f : Lit) : act (xg p) (act (xg p) f) = f := by
  rw [act_xg, act_xg, swapF_swapF]
theorem run_rev : ∀ (ps : List Nat) (f : Lit), run (ps.map xg).reverse (run (ps.map xg) f) = f
  | [], _ => rfl
  | p :: r, f => by
    rw [List.map_cons, List.reverse_cons, run_append, run_cons (xg p) (r.map xg) f, run_rev r]
    show act (xg p) (act (xg p) f) = f
    exact act_xg_act p f
def iota (n : Nat) : List Int := (List.range n).map fun (i : Nat) => (i : Int)
theorem iota_length (n : Nat) : (iota n).length = n := by simp [iota]
theorem iota_get {n i : Nat} (h : i < n) : (iota n)[i]? = some (i : Int) := by simp [iota, h]
theorem mem_iota {n : Nat} {x : Int} : x ∈ iota n ↔ 0 ≤ x ∧ x < n := by
  unfold iota
  rw [List.mem_map]
  constructor
  · rintro ⟨i, hi, rfl⟩
    have := List.mem_range.mp hi
    omega
  · rintro ⟨h0, h1⟩
    exact ⟨x.toNat, List.mem_range.mpr (by omega), Int.toNat_of_nonneg h0⟩
theorem iota_sorted (n : Nat) : (iota n).Pairwise (· ≤ ·) := by
  unfold iota
  rw [List.pairwise_map]
  exact List.pairwise_lt_range.imp fun h => by omega
theorem iota_nodup (n : Nat) : (iota n).Nodup := by
  unfold iota List.Nodup
  rw [List.pairwise_map]
  exact List.pairwise_lt_range.imp fun h => by omega
theorem perm_of_sub : ∀ {l m : List Int}, l.Nodup → (∀ x ∈ l, x ∈ m) → m.length ≤ l.length → l.Perm m
  | [], m, _, _, h => by
    have : m = [] := List.length_eq_zero_iff.mp (Nat.le_zero.mp h)
    subst this
    exact .refl _
  | x :: r, m, hn, hs, hl => by
    obtain ⟨h1, h2⟩ := List.nodup_cons.mp hn
    have hx : x ∈ m := hs x List.mem_cons_self
    have hp : m.Perm (x :: m.erase x) := List.perm_cons_erase hx
    have hlen := hp.length_eq
    simp only [List.length_cons] at hlen hl
    refine ((perm_of_sub (m := m.erase x) h2 (fun y hy => ?_) (by omega)).cons x).trans hp.symm
    have hym : y ∈ m := hs y (List.mem_cons_of_mem _ hy)
    rcases List.mem_cons.mp (hp.mem_iff.mp hym) with e | h
    · exact absurd (e ▸ hy) h1
    · exact h
theorem nodup_iota_perm {n : Nat} {l : List Int} (hl : l.length = n) (hn : l.Nodup) (hm : ∀ x ∈ l, 0 ≤ x ∧ x < (n : Int)) : l.Perm (iota n) :=
  perm_of_sub hn (fun x hx => mem_iota.mpr (hm x hx)) (by rw [iota_length, hl]; exact Nat.le_refl _)
theorem crossAt_run (l : List Int) (p : Nat) : ∀ n, l.Perm (iota n) → Upto l p → ∀ (f : Lit) (i : Nat), i < n → (run ((crossAt l p).map xg) f) (l.getD i 0) = f i := by
  refine crossAt_ind (P := fun l p => ∀ n, l.Perm (iota n) → Upto l p → ∀ (f : Lit) (i : Nat), i < n → (run ((crossAt l p).map xg) f) (l.getD i 0) = f i) ?_ ?_ ?_ l p
  · intro l p h n hp u f i hi
    rw [crossAt_done h, sorted_unique hp (upto_done h u) (iota_sorted n)]
    show f ((iota n).getD i 0) = f i
    rw [List.getD, iota_get hi]
    rfl
  · intro l p h hl ih n hp u f i hi
    have hn : l.length = n := by rw [hp.length_eq, iota_length]
    rw [crossAt_swap h hl, List.map_cons, run_cons, act_xg]
    have ih' := ih n ((swapAt_perm l p).trans hp) (upto_swap h u) (swapF (p : Int) ((p : Int) + 1) f)
    have hg := swapAt_get l p h
    by_cases e1 : i = p
    · subst e1
      have := ih' (i + 1) (by omega)
      rw [List.getD, hg, if_neg (by omega), if_pos rfl, getD_get (by omega)] at this
      simp only [Option.getD_some] at this
      rw [this]
      unfold swapF
      rw [if_neg (by omega), if_pos (by omega)]
    · by_cases e2 : i = p + 1
      · subst e2
        have := ih' p (by omega)
        rw [List.getD, hg, if_pos rfl, getD_get (by omega)] at this
        simp only [Option.getD_some] at this
        rw [this]
        unfold swapF
        rw [if_pos rfl]
        congr 1
      · have := ih' i hi
        rw [List.getD, hg, if_neg e1, if_neg e2, getD_get (by omega)] at this
        simp only [Option.getD_some] at this
        rw [this]
        unfold swapF
        rw [if_neg (by omega), if_neg (by omega)]
  · intro l p h hl ih n hp u f i hi
    rw [crossAt_next h hl]
    exact ih n hp (upto_next hl u) f i hi
theorem run_out {n : Nat} : ∀ (ps : List Nat), (∀ q ∈ ps, q + 1 < n) → ∀ (f : Lit) (x : Int), ¬ (0 ≤ x ∧ x < n) → run (ps.map xg) f x = f x
  | [], _, _, _, _ => rfl
  | p :: r, h, f, x, hx => by
    rw [List.map_cons, run_cons, run_out r (fun q hq => h q (List.mem_cons_of_mem _ hq)) _ x hx, act_xg]
    have := h p List.mem_cons_self
    unfold swapF
    rw [if_neg (by omega), if_neg (by omega)]

/-! ### ranges, places -/
def rng (lo hi : Int) : List Int := (List.range (hi - lo).toNat).map fun (i : Nat) => lo + (i : Int)
theorem rng_length (lo hi : Int) : (rng lo hi).length = (hi - lo).toNat := by simp [rng]
theorem rng_get {lo hi : Int} {i : Nat} (h : i < (hi - lo).toNat) : (rng lo hi)[i]? = some (lo + (i : Int)) := by simp [rng, h]
theorem mem_rng {lo hi x : Int} : x ∈ rng lo hi ↔ lo ≤ x ∧ x < hi := by
  unfold rng
  rw [List.mem_map]
  constructor
  · rintro ⟨i, hi, rfl⟩
    have := List.mem_range.mp hi
    omega
  · rintro ⟨h0, h1⟩
    exact ⟨(x - lo).toNat, List.mem_range.mpr (by omega), by omega⟩
theorem rng_sorted (lo hi : Int) : (rng lo hi).Pairwise (· < ·) := by
  unfold rng
  rw [List.pairwise_map]
  exact List.pairwise_lt_range.imp fun h => by omega
theorem rng_nodup (lo hi : Int) : (rng lo hi).Nodup := (rng_sorted lo hi).imp fun h => by omega
theorem rng_iota (n : Nat) : rng 0 n = iota n := by simp [rng, iota]
/-- the place of x in a list -/
def place (x : Int) : List Int → Nat
  | [] => 0
  | y :: r => if y = x then 0 else place x r + 1
theorem place_lt {x : Int} : ∀ {l : List Int}, x ∈ l → place x l < l.length
  | [], h => by cases h
  | y :: r, h => by
    unfold place
    split
    · simp
    · rename_i hne
      rcases List.mem_cons.mp h with e | h
      · exact absurd e.symm hne
      · have := place_lt h
        simp only [List.length_cons]
        omega
theorem place_get {x : Int} : ∀ {l : List Int}, x ∈ l → l[place x l]? = some x
  | [], h => by cases h
  | y :: r, h => by
    unfold place
    split
    · rename_i e; simp [e]
    · rename_i hne
      rcases List.mem_cons.mp h with e | h
      · exact absurd e.symm hne
      · simpa using place_get h
theorem place_of_get {x : Int} : ∀ {l : List Int} {i : Nat}, l.Nodup → l[i]? = some x → place x l = i
  | [], _, _, h => by simp at h
  | y :: r, 0, _, h => by
    have e : y = x := by simpa using h
    simp [place, e]
  | y :: r, i + 1, hn, h => by
    obtain ⟨h1, h2⟩ := List.nodup_cons.mp hn
    have hr : r[i]? = some x := by simpa using h
    have hne : y ≠ x := fun e => h1 (e ▸ List.mem_of_getElem? hr)
    unfold place
    rw [if_neg hne, place_of_get h2 hr]

/-! ### a gate gathered -/
def touched (g : G) : List Int := g.1 ++ [g.2.1, g.2.2]
def tch (g : G) : List Int := srt (touched g)
def low (g : G) : Int := (tch g).getD 0 0
def high (g : G) : Int := (tch g).getD ((tch g).length - 1) 0
def others (g : G) : List Int := (rng (low g) (high g)).filter fun l => !decide (l ∈ tch g)
def tl (g : G) : List Int := tch g ++ others g
def nameF (g : G) (l : Int) : Int := if l ∈ tl g then low g + (place l (tl g) : Int) else l
def gath (n : Nat) (g : G) : List Int := (iota n).map (nameF g)
def mid (g : G) : G := (srt (g.1.map (nameF g)), min (nameF g g.2.1) (nameF g g.2.2), max (nameF g g.2.1) (nameF g g.2.2))
def ahead (n : Nat) (g : G) : List G := (crossAt (gath n g) 0).map xg
def nearG (n : Nat) (g : G) : List G := ahead n g ++ mid g :: (ahead n g).reverse
structure WF (n : Nat) (g : G) : Prop where
  nd : (touched g).Nodup
  inn : ∀ x ∈ touched g, 0 ≤ x ∧ x < (n : Int)
  asc : g.1.Pairwise (· ≤ ·)
  lt : g.2.1 < g.2.2
theorem touched_length (g : G) : (touched g).length = g.1.length + 2 := by simp [touched]
theorem tch_length (g : G) : (tch g).length = g.1.length + 2 := by rw [tch, srt_length, touched_length]
theorem mem_tch {g : G} {x : Int} : x ∈ tch g ↔ x ∈ touched g := (srt_perm _).mem_iff
theorem pair_le : ∀ {l : List Int} {i j : Nat}, l.Pairwise (· ≤ ·) → i ≤ j → j < l.length → l.getD i 0 ≤ l.getD j 0
  | [], _, _, _, _, h => by simp at h
  | x :: r, 0, 0, _, _, _ => Int.le_refl _
  | x :: r, 0, j + 1, hp, _, hj => by
    have hj' : j < r.length := by simpa using hj
    have := (List.pairwise_cons.mp hp).1 (r.getD j 0) (List.mem_of_getElem? (getD_get hj'))
    simpa using this
  | x :: r, i + 1, j + 1, hp, hij, hj => by
    have := pair_le (i := i) (j := j) (List.pairwise_cons.mp hp).2 (by omega) (by simpa using hj)
    simpa using this
theorem low_le {g : G} {x : Int} (h : x ∈ tch g) : low g ≤ x := by
  obtain ⟨i, hi, e⟩ := List.mem_iff_getElem.mp h
  have := pair_le (l := tch g) (i := 0) (j := i) (srt_sorted _) (Nat.zero_le _) hi
  unfold low
  rw [← e]
  simpa [List.getD, hi] using this
theorem le_high {g : G} {x : Int} (h : x ∈ tch g) : x ≤ high g := by
  obtain ⟨i, hi, e⟩ := List.mem_iff_getElem.mp h
  have := pair_le (l := tch g) (i := i) (j := (tch g).length - 1) (srt_sorted _) (by omega) (by omega)
  unfold high
  rw [← e]
  simpa [List.getD, hi] using this
theorem low_mem (g : G) : low g ∈ tch g := List.mem_of_getElem? (getD_get (by rw [tch_length]; omega))
theorem high_mem (g : G) : high g ∈ tch g := List.mem_of_getElem? (getD_get (by rw [tch_length]; omega))
theorem mem_others {g : G} {x : Int} : x ∈ others g ↔ (low g ≤ x ∧ x < high g) ∧ x ∉ tch g := by
  unfold others
  rw [List.mem_filter, mem_rng]
  simp
theorem mem_tl {g : G} {x : Int} : x ∈ tl g ↔ low g ≤ x ∧ x ≤ high g := by
  unfold tl
  rw [List.mem_append, mem_others]
  constructor
  · rintro (h | ⟨⟨h1, h2⟩, _⟩)
    · exact ⟨low_le h, le_high h⟩
    · omega
  · rintro ⟨h1, h2⟩
    by_cases h : x ∈ tch g
    · exact .inl h
    · refine .inr ⟨⟨h1, ?_⟩, h⟩
      have : x ≠ high g := fun e => h (e ▸ high_mem g)
      omega
theorem tl_nodup {n : Nat} {g : G} (w : WF n g) : (tl g).Nodup := by
  unfold tl
  rw [List.nodup_append]
  refine ⟨srt_nodup w.nd, (rng_nodup _ _).filter _, fun a ha b hb e => ?_⟩
  subst e
  exact (mem_others.mp hb).2 ha
theorem tl_length {n : Nat} {g : G} (w : WF n g) : (tl g).length = (high g + 1 - low g).toNat := by
  have h : (tl g).Perm (rng (low g) (high g + 1)) := by
    refine perm_of_sub (tl_nodup w) (fun x hx => ?_) ?_
    · have := mem_tl.mp hx
      exact mem_rng.mpr ⟨this.1, by omega⟩
    · have h2 : (rng (low g) (high g + 1)).Perm ((rng (low g) (high g + 1)).filter fun x => decide (x ∈ tl g)) := by
        rw [List.filter_eq_self.mpr]
        intro x hx
        have := mem_rng.mp hx
        exact decide_eq_true (mem_tl.mpr ⟨this.1, by omega⟩)
      have key : ∀ (l m : List Int), l.Nodup → (∀ x ∈ l, x ∈ m) → l.length ≤ m.length := by
        intro l
        induction l with
        | nil => intro m _ _; simp
        | cons x r ih =>
          intro m hn hs
          obtain ⟨a1, a2⟩ := List.nodup_cons.mp hn
          have hp : m.Perm (x :: m.erase x) := List.perm_cons_erase (hs x List.mem_cons_self)
          have := ih (m.erase x) a2 fun y hy => by
            rcases List.mem_cons.mp (hp.mem_iff.mp (hs y (List.mem_cons_of_mem _ hy))) with e | h
            · exact absurd (e ▸ hy) a1
            · exact h
          have hl := hp.length_eq
          simp only [List.length_cons] at hl ⊢
          omega
      exact key _ _ (rng_nodup _ _) fun x hx => by
        have := mem_rng.mp hx
        exact mem_tl.mpr ⟨this.1, by omega⟩
  rw [h.length_eq, rng_length]
theorem nameF_in {n : Nat} {g : G} (w : WF n g) {x : Int} (h : x ∈ tl g) : low g ≤ nameF g x ∧ nameF g x ≤ high g := by
  have h1 := place_lt h
  rw [tl_length w] at h1
  unfold nameF
  rw [if_pos h]
  omega
theorem nameF_out {g : G} {x : Int} (h : x ∉ tl g) : nameF g x = x := if_neg h
theorem nameF_inj {n : Nat} {g : G} (w : WF n g) {x y : Int} (e : nameF g x = nameF g y) : x = y := by
  by_cases hx : x ∈ tl g
  · by_cases hy : y ∈ tl g
    · unfold nameF at e
      rw [if_pos hx, if_pos hy] at e
      have e' : place x (tl g) = place y (tl g) := by omega
      have a := place_get hx
      rw [e', place_get hy] at a
      exact (Option.some.inj a).symm
    · have := nameF_in w hx
      rw [e, nameF_out hy] at this
      exact absurd (mem_tl.mpr this) hy
  · by_cases hy : y ∈ tl g
    · have := nameF_in w hy
      rw [← e, nameF_out hx] at this
      exact absurd (mem_tl.mpr this) hx
    · rw [nameF_out hx, nameF_out hy] at e
      exact e
theorem low_nn {n : Nat} {g : G} (w : WF n g) : 0 ≤ low g := (w.inn _ (mem_tch.mp (low_mem g))).1
theorem high_lt {n : Nat} {g : G} (w : WF n g) : high g < n := (w.inn _ (mem_tch.mp (high_mem g))).2
theorem nameF_lt {n : Nat} {g : G} (w : WF n g) {x : Int} (h : 0 ≤ x ∧ x < (n : Int)) : 0 ≤ nameF g x ∧ nameF g x < (n : Int) := by
  by_cases hx : x ∈ tl g
  · have := nameF_in w hx
    have := low_nn w
    have := high_lt w
    omega
  · rw [nameF_out hx]; exact h
theorem nodup_map_inj {f : Int → Int} (hf : ∀ x y, f x = f y → x = y) {l : List Int} (h : l.Nodup) : (l.map f).Nodup := by
  unfold List.Nodup
  rw [List.pairwise_map]
  exact h.imp fun hne e => hne (hf _ _ e)
theorem gath_length (n : Nat) (g : G) : (gath n g).length = n := by simp [gath, iota_length]
theorem gath_perm {n : Nat} {g : G} (w : WF n g) : (gath n g).Perm (iota n) := by
  refine nodup_iota_perm (gath_length n g) (nodup_map_inj (fun x y => nameF_inj w) (iota_nodup n)) fun x hx => ?_
  obtain ⟨y, hy, rfl⟩ := List.mem_map.mp hx
  exact nameF_lt w (mem_iota.mp hy)
theorem gath_get {n : Nat} {g : G} {x : Int} (h : 0 ≤ x ∧ x < (n : Int)) : (gath n g)[x.toNat]? = some (nameF g x) := by
  unfold gath
  rw [List.getElem?_map, iota_get (by omega), Option.map_some, Int.toNat_of_nonneg h.1]
theorem nameF_tch {n : Nat} {g : G} (w : WF n g) {i : Nat} {x : Int} (h : (tch g)[i]? = some x) : nameF g x = low g + i := by
  have hm : x ∈ tl g := List.mem_append_left _ (List.mem_of_getElem? h)
  have hi := (List.getElem?_eq_some_iff.mp h).1
  have : (tl g)[i]? = some x := by
    unfold tl
    rw [List.getElem?_append_left hi, h]
  unfold nameF
  rw [if_pos hm, place_of_get (tl_nodup w) this]
/-- the names of what is touched follow one another -/
theorem names_tch {n : Nat} {g : G} (w : WF n g) : (tch g).map (nameF g) = rng (low g) (low g + ((tch g).length : Int)) := by
  apply List.ext_getElem?
  intro i
  rw [List.getElem?_map]
  by_cases h : i < (tch g).length
  · rw [getD_get h, rng_get (by omega), Option.map_some, nameF_tch w (getD_get h)]
  · rw [List.getElem?_eq_none (by omega), List.getElem?_eq_none (by rw [rng_length]; omega)]
    rfl
/-- a gate whose lamps follow one another -/
def NearP (g : G) : Prop := tch g = rng (low g) (low g + ((tch g).length : Int))
theorem touched_mid (g : G) : (touched (mid g)).Perm ((touched g).map (nameF g)) := by
  unfold touched mid
  rw [List.map_append]
  refine List.Perm.append (srt_perm _) ?_
  show [min (nameF g g.2.1) (nameF g g.2.2), max (nameF g g.2.1) (nameF g g.2.2)].Perm [nameF g g.2.1, nameF g g.2.2]
  by_cases h : nameF g g.2.1 ≤ nameF g g.2.2
  · rw [Int.min_eq_left h, Int.max_eq_right h]
  · rw [Int.min_eq_right (by omega), Int.max_eq_left (by omega)]
    exact .swap _ _ _
theorem rng_le_sorted (lo hi : Int) : (rng lo hi).Pairwise (· ≤ ·) := (rng_sorted lo hi).imp fun h => by omega
theorem tch_mid {n : Nat} {g : G} (w : WF n g) : tch (mid g) = rng (low g) (low g + ((tch g).length : Int)) := by
  rw [← names_tch w]
  unfold tch
  refine (srt_unique ?_ ?_).symm
  · exact ((srt_perm (touched g)).map _).trans (touched_mid g).symm
  · have := names_tch w
    unfold tch at this
    rw [this]
    exact rng_le_sorted _ _
theorem near_mid {n : Nat} {g : G} (w : WF n g) : NearP (mid g) := by
  have h := tch_mid w
  have hl : (tch (mid g)).length = (tch g).length := by
    rw [h, rng_length]; omega
  have h0 : low (mid g) = low g := by
    unfold low
    rw [h, List.getD, rng_get (by rw [tch_length]; omega)]
    simp [low]
  unfold NearP
  rw [hl, h0]
  exact h
theorem wf_mid {n : Nat} {g : G} (w : WF n g) : WF n (mid g) := by
  refine ⟨?_, fun x hx => ?_, srt_sorted _, ?_⟩
  · exact (touched_mid g).nodup_iff.mpr (nodup_map_inj (fun x y => nameF_inj w) w.nd)
  · obtain ⟨y, hy, rfl⟩ := List.mem_map.mp ((touched_mid g).mem_iff.mp hx)
    exact nameF_lt w (w.inn y hy)
  · show min _ _ < max _ _
    have hne : nameF g g.2.1 ≠ nameF g g.2.2 := fun e => by
      have := nameF_inj w e
      have := w.lt
      omega
    omega
theorem wf_xg {n p : Nat} (h : p + 1 < n) : WF n (xg p) := by
  refine ⟨?_, fun x hx => ?_, .nil, ?_⟩
  · show [(p : Int), (p : Int) + 1].Nodup
    simp
    omega
  · have : x = (p : Int) ∨ x = (p : Int) + 1 := by simpa [touched, xg] using hx
    omega
  · show (p : Int) < (p : Int) + 1
    omega
theorem tch_xg (p : Nat) : tch (xg p) = [(p : Int), (p : Int) + 1] := by
  unfold tch
  exact srt_of_sorted (by simp [touched, xg]; omega)
theorem near_xg (p : Nat) : NearP (xg p) := by
  unfold NearP low
  rw [tch_xg]
  show [(p : Int), (p : Int) + 1] = rng (p : Int) ((p : Int) + ((2 : Nat) : Int))
  unfold rng
  rw [show ((p : Int) + ((2 : Nat) : Int) - (p : Int)).toNat = 2 by omega]
  simp [List.range, List.range.loop]
theorem ahead_xg {n : Nat} {g x : G} (h : x ∈ ahead n g) : ∃ p, x = xg p ∧ p + 1 < n := by
  obtain ⟨p, hp, rfl⟩ := List.mem_map.mp h
  have := crossAt_pos _ _ p hp
  rw [gath_length] at this
  exact ⟨p, rfl, this⟩
theorem mem_nearG {n : Nat} {g x : G} (h : x ∈ nearG n g) : x = mid g ∨ ∃ p, x = xg p ∧ p + 1 < n := by
  unfold nearG at h
  rcases List.mem_append.mp h with h | h
  · exact .inr (ahead_xg h)
  · rcases List.mem_cons.mp h with h | h
    · exact .inl h
    · exact .inr (ahead_xg (List.mem_reverse.mp h))
theorem wf_nearG {n : Nat} {g x : G} (w : WF n g) (h : x ∈ nearG n g) : WF n x := by
  rcases mem_nearG h with rfl | ⟨p, rfl, hp⟩
  · exact wf_mid w
  · exact wf_xg hp
theorem near_nearG {n : Nat} {g x : G} (w : WF n g) (h : x ∈ nearG n g) : NearP x := by
  rcases mem_nearG h with rfl | ⟨p, rfl, hp⟩
  · exact near_mid w
  · exact near_xg p
/-- as many hands, in order -/
def handL (gs : List G) : List Nat := (gs.filter fun g => !decide (g.1 = [])).map fun g => g.1.length
theorem handL_append (a b : List G) : handL (a ++ b) = handL a ++ handL b := by simp [handL]
theorem handL_xg (ps : List Nat) : handL (ps.map xg) = [] := by
  unfold handL
  rw [List.filter_eq_nil_iff.mpr]
  · rfl
  · intro x hx
    obtain ⟨p, _, rfl⟩ := List.mem_map.mp hx
    simp [xg]
theorem handL_nearG (n : Nat) (g : G) : handL (nearG n g) = handL [g] := by
  unfold nearG
  rw [handL_append, show mid g :: (ahead n g).reverse = [mid g] ++ (ahead n g).reverse from rfl, handL_append]
  unfold ahead
  rw [← List.map_reverse, handL_xg, handL_xg, List.nil_append, List.append_nil]
  unfold handL
  by_cases h : g.1 = []
  · have h2 : (mid g).1 = [] := by simp [mid, h, srt]
    simp [h, h2]
  · have h3 : (mid g).1.length = g.1.length := by simp [mid, srt_length]
    have h2 : (mid g).1 ≠ [] := fun e => h (List.length_eq_zero_iff.mp (by rw [← h3, e]; rfl))
    simp [h, h2, h3]
theorem nearG_length {n : Nat} (g : G) : (nearG n g).length = 2 * inv (gath n g) + 1 := by
  unfold nearG
  rw [List.length_append, List.length_cons, List.length_reverse]
  unfold ahead
  rw [List.length_map, crossAt_len _ _ (fun j hj => by omega)]
  omega
theorem nearG_le {n : Nat} (h : n ≤ 8) (g : G) : (nearG n g).length ≤ 57 := by
  rw [nearG_length]
  have := inv_le (gath n g)
  rw [gath_length] at this
  have h2 : n * (n - 1) ≤ 8 * 7 := Nat.mul_le_mul h (by omega)
  omega
/-- the effect -/
theorem run_nearG {n : Nat} {g : G} (w : WF n g) (f : Lit) : run (nearG n g) f = act g f := by
  have hp := gath_perm w
  have hu : Upto (gath n g) 0 := fun j hj => by omega
  have hlen := gath_length n g
  have hF : ∀ (f : Lit) (x : Int), 0 ≤ x ∧ x < (n : Int) → run (ahead n g) f (nameF g x) = f x := fun f x hx => by
    have h := crossAt_run (gath n g) 0 n hp hu (fun y => f y) x.toNat (by omega)
    rw [List.getD, gath_get hx] at h
    simp only [Option.getD_some] at h
    rw [show ((x.toNat : Nat) : Int) = x from Int.toNat_of_nonneg hx.1] at h
    exact h
  have hO : ∀ (f : Lit) (x : Int), ¬ (0 ≤ x ∧ x < (n : Int)) → run (ahead n g) f x = f x := fun f x hx => by
    refine run_out (n := n) _ (fun q hq => ?_) f x hx
    have := crossAt_pos _ _ q hq
    rwa [hlen] at this
  have key : act (mid g) (run (ahead n g) f) = run (ahead n g) (act g f) := by
    have hall : (mid g).1.all (run (ahead n g) f) = g.1.all f := by
      show (srt (g.1.map (nameF g))).all _ = _
      rw [(srt_perm _).all_eq, List.all_map]
      have hin : ∀ x ∈ g.1, 0 ≤ x ∧ x < (n : Int) := fun x hx => w.inn x (List.mem_append_left _ hx)
      have : ∀ l : List Int, (∀ x ∈ l, 0 ≤ x ∧ x < (n : Int)) → l.all (run (ahead n g) f ∘ nameF g) = l.all f := by
        intro l
        induction l with
        | nil => intro _; rfl
        | cons y r ih =>
          intro hy
          rw [List.all_cons, List.all_cons, ih fun x hx => hy x (List.mem_cons_of_mem _ hx), Function.comp_apply, hF f y (hy y List.mem_cons_self)]
      exact this g.1 hin
    have ha := w.inn g.2.1 (by simp [touched])
    have hb := w.inn g.2.2 (by simp [touched])
    have hsw : ∀ h : Lit, swapF (mid g).2.1 (mid g).2.2 h = swapF (nameF g g.2.1) (nameF g g.2.2) h := fun h => by
      show swapF (min _ _) (max _ _) h = _
      by_cases hle : nameF g g.2.1 ≤ nameF g g.2.2
      · rw [Int.min_eq_left hle, Int.max_eq_right hle]
      · rw [Int.min_eq_right (by omega), Int.max_eq_left (by omega)]
        funext l
        unfold swapF
        by_cases h1 : l = nameF g g.2.1
        · by_cases h2 : l = nameF g g.2.2
          · rw [if_pos h2, if_pos h1, ← h1, ← h2]
          · rw [if_neg h2, if_pos h1, if_pos h1]
        · by_cases h2 : l = nameF g g.2.2
          · rw [if_pos h2, if_neg h1, if_pos h2]
          · rw [if_neg h2, if_neg h1, if_neg h1, if_neg h2]
    unfold act
    rw [hall]
    by_cases hf : g.1.all f = true
    · rw [if_pos hf, if_pos hf, hsw]
      funext l
      by_cases hl : 0 ≤ l ∧ l < (n : Int)
      · obtain ⟨y, hy, rfl⟩ : ∃ y, (0 ≤ y ∧ y < (n : Int)) ∧ nameF g y = l := by
          have : l ∈ gath n g := hp.mem_iff.mpr (mem_iota.mpr hl)
          obtain ⟨y, hy, e⟩ := List.mem_map.mp this
          exact ⟨y, mem_iota.mp hy, e⟩
        rw [hF _ y hy]
        unfold swapF
        by_cases h1 : y = g.2.1
        · rw [if_pos h1, if_pos (by rw [h1]), hF f _ hb]
        · rw [if_neg h1, if_neg fun e => h1 (nameF_inj w e)]
          by_cases h2 : y = g.2.2
          · rw [if_pos h2, if_pos (by rw [h2]), hF f _ ha]
          · rw [if_neg h2, if_neg fun e => h2 (nameF_inj w e), hF f y hy]
      · have e1 : l ≠ nameF g g.2.1 := fun e => hl (e ▸ nameF_lt w ha)
        have e2 : l ≠ nameF g g.2.2 := fun e => hl (e ▸ nameF_lt w hb)
        have e3 : l ≠ g.2.1 := fun e => hl (e ▸ ha)
        have e4 : l ≠ g.2.2 := fun e => hl (e ▸ hb)
        rw [hO _ l hl]
        unfold swapF
        rw [if_neg e1, if_neg e2, if_neg e3, if_neg e4, hO f l hl]
    · rw [if_neg hf, if_neg hf]
  unfold nearG
  rw [run_append, run_cons, key]
  exact run_rev _ _
theorem run_flat {n : Nat} : ∀ (gs : List G) (f : Lit), (∀ g ∈ gs, WF n g) → run (gs.flatMap (nearG n)) f = run gs f
  | [], _, _ => rfl
  | g :: r, f, h => by
    rw [List.flatMap_cons, run_append, run_nearG (h g List.mem_cons_self), run_flat r _ fun x hx => h x (List.mem_cons_of_mem _ hx)]
    rfl
theorem handL_flat (n : Nat) : ∀ gs : List G, handL (gs.flatMap (nearG n)) = handL gs
  | [] => rfl
  | g :: r => by
    rw [List.flatMap_cons, handL_append, handL_nearG, handL_flat n r, ← handL_append]
    rfl
end K26
end K26Math

section K26RulesA
set_option Elab.async false
set_option linter.all false
set_option maxRecDepth 100000
set_option maxHeartbeats 2000000
/-! K26RulesA: further rules: sorted, max, min of a list or a tuple of ints, max with default, None in a tuple, repr of data. -/
namespace K26
open PySem PySem.Spec PyProof.Rows L2
open PySem.W (Holds HoldAll maxOf minOf max_list_datum max_tuple_datum min_list_datum min_tuple_datum max_list_datum_default)

/-- a list or a tuple -/
def SqA (K : PySem.W.Frag) (H : Hp) (a : Addr) (xs : List V) : Prop := SqL K H a xs ∨ SqT K H a xs
theorem sqt_same {K : PySem.W.Frag} {H H' : Hp} {a : Addr} {xs : List V} (e : Same H H') (h : SqT K H a xs) : SqT K H' a xs := by
  rcases h with (h | ⟨o, h⟩) | h
  · exact .inl (.inl (e _ _ h))
  · exact .inl (.inr ⟨o, e _ _ h⟩)
  · exact .inr h
theorem sqa_same {K : PySem.W.Frag} {H H' : Hp} {a : Addr} {xs : List V} (e : Same H H') (h : SqA K H a xs) : SqA K H' a xs :=
  h.elim (fun h => .inl (e.seq h)) fun h => .inr (sqt_same e h)
section
variable {X : Cx} {pins : List (Addr × Obj)} {σ : L2.St} {H : Hp} {s : Shared}
/-- what stands there, of either kind -/
theorem sqa_obj {a : Addr} {xs : List V} (I : Inv X pins σ H s) (h : SqA X.K H a xs) :
    ∃ (T : String) (o : Obj) (its : List Value) (n : Nat), (T = "list" ∨ T = "tuple") ∧ Vals xs its ∧ s.heap.get? a = some o ∧ o.cls = .type T ∧ o.data = .seq its.toArray n ∧ its.length ≤ sizeLine := by
  rcases h with h | h
  · obtain ⟨its, r, pl, hz⟩ := I.list h
    obtain ⟨o, ho, hc, n, hd⟩ := pl.isList
    exact ⟨"list", o, its, n, .inl rfl, r, ho, hc, hd, by rw [← r.length]; exact hz⟩
  · obtain ⟨its, r, ⟨o, ho, hc, n, hd⟩, hz⟩ := I.tuple h
    exact ⟨"tuple", o, its, n, .inr rfl, r, ho, hc, hd, by rw [← r.length]; exact hz⟩
end

/-! ### sorted -/
theorem sorted_any {prog : Program} {w : World} {A : Around} {E : Value → Shared → Prop} {s : Shared} {a : Addr} {T : String} {o : Obj} {vs : List Value} {ns : List Int} {n : Nat} {Q : Value → Shared → Prop}
    (hT : T = "list" ∨ T = "tuple") (ho : s.heap.get? a = some o) (hc : o.cls = .type T) (hd : o.data = .seq vs.toArray n) (hI : IntsAre vs ns) (hL : vs.length ≤ sizeLine)
    (h : ∀ (h' : Heap) (p : Addr) (out : List Value) (ns' : List Int) (e : Nat), (∀ b u, s.heap.get? b = some u → h'.get? b = some u) → s.heap.get? p = none → h'.get? p = some (seqObj "list" out.toArray e) →
      IntsAre out ns' → ns'.Perm ns → ns'.Pairwise (· ≤ ·) → Q (.ref p) { s with heap := h' }) :
    wpAny (model prog w) A (call (.builtin "sorted") [.ref a]) Q E s := by
  refine Calls.call_function_entry kind_sorted plain_sorted entry_sorted (args_sorted1 _) ?_
  unfold Builtin.«sorted»
  refine wpAny_bind (m := checkCount "sorted" 1 1 _) (wpAny_pure ?_)
  refine wpAny_bind (wpAny_collect_seq a hT ho hc hd (fun h1 hk => ?_) (by simpa using hL))
  rw [show vs.toArray.toList = vs by simp]
  refine wpAny_bind (wpAny_newList ?_)
  have hoL : (h1.push (seqObj "list" vs.toArray 0)).get? h1.objs.size = some (seqObj "list" vs.toArray 0) := Heap.get?_push_size _ rfl
  refine wpAny_bind (wpAny_holding (wpAny_call_entry slot_list_sort ⟨_, hoL, rfl⟩ entry_list_sort (list_sort_treeAny (s := { s with heap := h1.push (seqObj "list" vs.toArray 0) }) hoL hI hL fun out ns' a1 a2 a3 => ⟨_, rfl, ?_⟩) (args_list_sort _)))
  refine wpAny_pure ⟨_, rfl, ?_⟩
  obtain ⟨e, he⟩ := sortedHeap_at (vs := vs) (out := out) hoL
  refine h _ h1.objs.size out.toList ns' e (fun b u hb => ?_) ?_ (by simpa using he) a1 a2 a3
  · have hb1 := hk b u hb
    have hlt := Heap.lt_size hb1
    rw [sortedHeap_old (Nat.ne_of_lt hlt) (by rw [size_push']; exact Nat.lt_succ_of_lt hlt)]
    exact Heap.get?_push_of_some _ hb1
  · cases q : s.heap.get? h1.objs.size with
    | none => rfl
    | some u => exact absurd (Heap.lt_size (hk _ _ q)) (Nat.lt_irrefl _)
def rSortedA (K : PySem.W.Frag) : List V → Hp → VK → Prop := fun vs H Q => ∃ (a : Addr) (ns : List Int), vs = [V.ref a] ∧ SqA K H a (ns.map V.int) ∧
  ∀ (ns' : List Int) (p : Addr), ns'.Perm ns → ns'.Pairwise (· ≤ ·) → H p = none → Q (.ref p) (upd H p (.lst (ns'.map V.int)))
theorem ints_vals : ∀ {ns : List Int} {us : List Value}, Vals (ns.map V.int) us → IntsAre us ns
  | [], _, .nil => .nil
  | n :: r, _, .cons h t => by
    obtain ⟨tk, rfl⟩ := h
    exact .cons n tk (ints_vals t)
section
variable {X : Cx}
theorem cr_sortedA : CallR X (.builtin "sorted") (rSortedA X.K) := by
  intro pins s σ H vs us Q I r h
  obtain ⟨a, ns, rfl, hs, q⟩ := h
  obtain ⟨T, o, its, n, hT, rv, ho, hc, hd, hz⟩ := sqa_obj I hs
  cases r with
  | cons ra rn =>
    cases rn
    cases ra
    refine sorted_any hT ho hc hd (ints_vals rv) hz fun h' p out ns' e k hp hp' a1 a2 a3 => ?_
    have hn : H p = none := I.hok.gone hp
    have rv' : Vals (ns'.map V.int) out := vals_ints a1
    have hl : (ns'.map V.int).length ≤ sizeLine := by
      rw [List.length_map, a2.length_eq]
      have := rv.length
      rw [List.length_map] at this
      omega
    exact ⟨.ref p, upd H p (.lst (ns'.map V.int)), I.laidN (t' := s.toks) k hp hn ⟨hl, out, e, rv', hp'⟩, rfl, q ns' p a2 a3 hn⟩

/-! ### max, min of ints -/
theorem dpAll_ints {K : PySem.W.Frag} {H : Hp} : ∀ ns : List Int, DpAll K H (ns.map V.int) (ns.map PyData.int)
  | [] => .nil
  | n :: r => .cons (.int n) (dpAll_ints r)
theorem holdAll_ints {pins : List (Addr × Obj)} {s : Shared} {σ : L2.St} {H : Hp} {ns : List Int} {its : List Value} (I : Inv X pins σ H s) (rv : Vals (ns.map V.int) its) : HoldAll s.heap its ns := by
  obtain ⟨as, h⟩ := Dp.readsAll I (ns.map PyData.int) (ns.map V.int) its (dpAll_ints ns) rv
  exact ⟨as, h⟩
theorem holds_int {h : Heap} {v : Value} {x : Int} (H : Holds h v x) : RelV (.int x) v := by
  obtain ⟨as, r⟩ := H
  cases r with
  | int i t => exact ⟨t, rfl⟩
def mxI (x : Int) (xs : List Int) : Int := xs.foldl (fun a y => if a < y then y else a) x
def mnI (x : Int) (xs : List Int) : Int := xs.foldl (fun a y => if y < a then y else a) x
theorem maxOf_int (x : Int) (xs : List Int) : maxOf x xs = mxI x xs := by
  unfold maxOf mxI
  congr 1
  funext a y
  show (if decide (a < y) = true then y else a) = _
  by_cases h : a < y
  · rw [if_pos (decide_eq_true h), if_pos h]
  · rw [if_neg (by simpa using h), if_neg h]
theorem minOf_int (x : Int) (xs : List Int) : minOf x xs = mnI x xs := by
  unfold minOf mnI
  congr 1
  funext a y
  show (if decide (y < a) = true then y else a) = _
  by_cases h : y < a
  · rw [if_pos (decide_eq_true h), if_pos h]
  · rw [if_neg (by simpa using h), if_neg h]
def rMaxA (K : PySem.W.Frag) : List V → Hp → VK → Prop := fun vs H Q => ∃ (a : Addr) (x : Int) (xs : List Int), vs = [V.ref a] ∧ SqA K H a ((x :: xs).map V.int) ∧ Q (.int (mxI x xs)) H
def rMinA (K : PySem.W.Frag) : List V → Hp → VK → Prop := fun vs H Q => ∃ (a : Addr) (x : Int) (xs : List Int), vs = [V.ref a] ∧ SqA K H a ((x :: xs).map V.int) ∧ Q (.int (mnI x xs)) H
theorem cr_maxA (hc : X.calm = true) (hu : X.A.units + 1 < cLine) : CallR X (.builtin "max") (rMaxA X.K) := by
  intro pins s σ H vs us Q I r h
  obtain ⟨a, x, xs, rfl, hs, q⟩ := h
  cases r with
  | cons ra rn =>
    cases rn
    cases ra
    have hh := I.ok.hd hc
    have fin : ∀ (v : Value) (h' : Heap) (tk : Nat), Holds h' v (maxOf x xs) → (∀ b o, s.heap.get? b = some o → h'.get? b = some o) → EP X pins σ Q v { s with heap := h', toks := tk } := fun v h' tk hv k =>
      ⟨.int (mxI x xs), H, I.kept k, by rw [maxOf_int] at hv; exact holds_int hv, q⟩
    rcases hs with hs | hs
    · obtain ⟨its, rv, pl, hz⟩ := I.list hs
      exact max_list_datum (α := Int) (vs := its.toArray) hh pl.isList (x := x) (xs := xs) (by simpa using holdAll_ints I rv) (by show X.A.units + 1 + 0 < cLine; omega) fun i v h' tk _ hv k => fin v h' tk hv k
    · obtain ⟨its, rv, pl, hz⟩ := I.tuple hs
      exact max_tuple_datum (α := Int) (vs := its.toArray) hh pl (x := x) (xs := xs) (by simpa using holdAll_ints I rv) (by show X.A.units + 1 + 0 < cLine; omega) fun i v h' tk _ hv k => fin v h' tk hv k
theorem cr_minA (hc : X.calm = true) (hu : X.A.units + 1 < cLine) : CallR X (.builtin "min") (rMinA X.K) := by
  intro pins s σ H vs us Q I r h
  obtain ⟨a, x, xs, rfl, hs, q⟩ := h
  cases r with
  | cons ra rn =>
    cases rn
    cases ra
    have hh := I.ok.hd hc
    have fin : ∀ (v : Value) (h' : Heap) (tk : Nat), Holds h' v (minOf x xs) → (∀ b o, s.heap.get? b = some o → h'.get? b = some o) → EP X pins σ Q v { s with heap := h', toks := tk } := fun v h' tk hv k =>
      ⟨.int (mnI x xs), H, I.kept k, by rw [minOf_int] at hv; exact holds_int hv, q⟩
    rcases hs with hs | hs
    · obtain ⟨its, rv, pl, hz⟩ := I.list hs
      exact min_list_datum (α := Int) (vs := its.toArray) hh pl.isList (x := x) (xs := xs) (by simpa using holdAll_ints I rv) (by show X.A.units + 1 + 0 < cLine; omega) fun i v h' tk _ hv k => fin v h' tk hv k
    · obtain ⟨its, rv, pl, hz⟩ := I.tuple hs
      exact min_tuple_datum (α := Int) (vs := its.toArray) hh pl (x := x) (xs := xs) (by simpa using holdAll_ints I rv) (by show X.A.units + 1 + 0 < cLine; omega) fun i v h' tk _ hv k => fin v h' tk hv k

/-! ### in a tuple of data; repr of data -/
def rInT (K : PySem.W.Frag) : R2 := fun x y H Q => ∃ d ds, Dp K H x d ∧ Dp K H y (.tuple ds) ∧ SeqAt.shaped d = true ∧ SeqAt.shaped (.tuple ds) = true ∧ Q (.bl (ds.any fun z => PyData.eqv z d)) H
theorem op_inT (hu : X.A.units + 65 < cLine) : OpR X (compareOp .In) (rInT X.K) := by
  intro pins s σ H x y v u Q I rx ry h
  obtain ⟨d, ds, hd, he, sd, se, q⟩ := h
  obtain ⟨as, r1⟩ := Dp.reads I d x v hd rx
  obtain ⟨bs, r2⟩ := Dp.reads I (.tuple ds) y u he ry
  exact SeqAt.in_tuple_reads r2 r1 (SeqAt.canLay_of_shaped se) (SeqAt.canLay_of_shaped sd) (room_in_shaped sd hu) ⟨.bl _, H, I, rfl, q⟩
def rRepr (K : PySem.W.Frag) : List V → Hp → VK → Prop := fun vs H Q => ∃ (a : Addr) (d : PyData), vs = [V.ref a] ∧ Dp K H (.ref a) d ∧ d.showable = true ∧ d.hasDict = false ∧ d.depth ≤ 60 ∧ d.shown.length ≤ sizeLine ∧ Q (.str d.shown) H
theorem call_repr (hg : X.A.guards = some []) (hu : X.A.units + 64 < cLine) : CallR X (.builtin "repr") (rRepr X.K) := by
  intro pins s σ H vs us Q I r h
  obtain ⟨a, d, rfl, hd, h1, h2, h3, h4, q⟩ := h
  cases r with
  | cons ra rn =>
    cases rn
    cases ra
    obtain ⟨as, rd⟩ := Dp.reads I d (.ref a) (.ref a) hd rfl
    exact repr_of_reads' rd h1 (fun z => by rw [h2] at z; cases z) hg (by omega) (fun _ _ z => z) (fun h' u tk k => ⟨.str d.shown, H, I.kept k, ⟨_, rfl⟩, q⟩) h4
/-! ### max(l, default=0) -/
def rMaxDef (K : PySem.W.Frag) : List V → List V → Hp → VK → Prop := fun vs zs H Q => ∃ (a : Addr) (ns : List Int) (d : Int), vs = [V.ref a] ∧ zs = [.int d] ∧ SqL K H a (ns.map V.int) ∧ ∀ m : Int, Q (.int m) H
theorem crk_maxDef (hc : X.calm = true) (hu : X.A.units + 1 < cLine) : CallRK X (.builtin "max") ["default"] (rMaxDef X.K) := by
  intro pins s σ H vs zs us ws Q I r rz h
  obtain ⟨a, ns, d, rfl, rfl, hs, q⟩ := h
  cases r with
  | cons ra rn =>
    cases rn
    cases ra
    cases rz with
    | cons rd rn =>
      cases rn
      have hh := I.ok.hd hc
      obtain ⟨its, rv, pl, hz⟩ := I.list hs
      refine max_list_datum_default (α := Int) (xs := ns) (vs := its.toArray) hh pl.isList (by simpa using holdAll_ints I rv) (by show X.A.units + 1 + 0 < cLine; omega) (fun _ h' tk k => ⟨.int d, H, I.kept k, rd, q d⟩) fun y ys i v h' tk _ _ hv k => ?_
      exact ⟨.int (maxOf y ys), H, I.kept k, holds_int hv, q _⟩
end
end K26
end K26RulesA

section K26RulesB
set_option Elab.async false
set_option linter.all false
set_option maxRecDepth 100000
set_option maxHeartbeats 2000000
/-! K26RulesB: own errors whose __init__ says super().__init__(text) and stores its parameters; their class stands two below ValueError. -/
namespace K26E
open PySem PySem.W PySem.Calls PyProof.Rows PySem.HandSPX

/-- what is written of such a class C, its __init__ at fI, the code object cda, the cell cc of __class__ -/
structure ErrTxt (P : Program) (K : Frag) (C fI cda cc : Addr) (qual : Str) (params : Arguments) (body : List Stmt) (scope : Scope) : Prop where
  cls : ∃ nm q N bs bm sn sub ab col dd k0 k1 k2 k3 k5, K.lookup C = some (excClassObj nm q C N bs bm true sn sub ab col dd k0 k1 k2 k3 k5 "ValueError.__new__") ∧ refsVE bm = true
  sa : findIn K (.ref C) "__setattr__" = some (some (.builtin "object.__setattr__"))
  iC : findIn K (.ref C) "__init__" = some (some (.ref fI))
  tC : typeIn K (.ref fI) = some (.type "function")
  kC : keepIn K (.ref C) = true
  exC : subIn K (.ref C) (.type "BaseException") = some true
  tyC : typeIn K (.ref C) = some (.type "type")
  hdC : hasDictIn K C = true
  fn : ∃ (oc : Value) (od : Option Addr) (doc pm : Value) (an : Option Addr) (ct : Value) (osl : Array (Option Value)),
    K.lookup fI = some ⟨oc, od, .func (ksFn "__init__" qual params body scope .none .none doc pm an (.ref cda) ct cc), osl⟩
  cd : codeIn K (.ref cda) qual = true
  code : ∃ (ccl : Value) (cdd : Option Addr) (vs : Array Value) (ccs : Array (Option Value)) (file : Str) (tf : Tok), K.lookup cda = some ⟨ccl, cdd, .fields vs, ccs⟩ ∧ vs[2]? = some (.str file tf) ∧ ((P.main.file : Str) == file) = true
  cell : ∃ (cl : Value) (cld : Option Addr) (csl : Array (Option Value)), K.lookup cc = some ⟨cl, cld, .cell (some (.ref C)), csl⟩
  sup : ks_superIn K C C "__init__" = some (some (.builtin "ValueError.__init__"))
  opq : nsIn K cStatics "thirdparty.any" = some none
  mro : mroIn K C (.ref C) = some true
  sVE : subIn K (.ref C) (.type "ValueError") = some true
  top : (P.main.scope.names.lookup ("super" : Str)).isSome = false

/-- the method-wrapper of ValueError.__init__ at u is called: the args are laid anew, the rest stays -/
theorem mw_call {prog : Program} {w : World} {A : Around} {E : Value → Shared → Prop} {s : Shared} {u e C t0 : Addr} {rest : List Value} {Q : Value → Shared → Prop}
    {nm q : Str} {N : Addr} {bs bm : List Value} {hdct : Bool} {sn : List Str} {sub : List Value} {ab : Bool} {col : Option Bool} {dd : Option Addr} {k0 k1 k2 k3 k5 : Option Value}
    (hC : s.heap.get? C = some (excClassObj nm q C N bs bm hdct sn sub ab col dd k0 k1 k2 k3 k5 "ValueError.__new__")) (he : s.heap.get? e = some (excO C t0)) (hu : s.heap.get? u = some (kxs_mw "ValueError.__init__" e)) (hz : rest.length ≤ sizeLine)
    (hq : ∀ h' t1, (∀ b o, b ≠ e → s.heap.get? b = some o → h'.get? b = some o) → h'.get? e = some (excO C t1) → Q .none { s with heap := h' }) :
    wpAny (model prog w) A (call (.ref u) rest) Q E s := by
  obtain ⟨hh, g, d, tk, os⟩ := s
  refine wpAny_call (codeAny_of_tree ?_)
  show wpAny _ A.in1 (callAny (.ref u) ⟨rest, []⟩) _ _ _
  simp only [callAny]
  refine wpAny_bind (wpAny_load hu ?_)
  have hm : (Value.type "method-wrapper" == Value.type "method" || Value.type "method-wrapper" == Value.type "builtin_function_or_method" || Value.type "method-wrapper" == Value.type "method-wrapper") = true := by decide
  simp only [kxs_mw, hm, if_true]
  refine KFB.if_so (by decide) ?_
  refine wpAny_bind (check_bound_init F.excBase_ValueError.toExcCallFacts hC he rfl ?_)
  refine wpAny_bind (wpAny_pure (wpAny_pure ?_))
  refine ⟨plainId_quiet F.excBase_ValueError.init.plain _, codeAny_builtin F.excBase_ValueError.initEntry ?_⟩
  exact exc_init_tree (cls := .ref C) (t0 := t0) (dv := none) (c2 := .none) (c3 := .none) (b4 := .bool false) he hz fun h' k e' _ => hq h' _ k e'

section
variable {P : Program} {w : World} {A : Around} {R : Result → Shared → Prop} {s : Shared} {K : Frag} {mg mb : Str → Option Value} {C fI cda cc : Addr} {qual : Str} {params : Arguments} {body : List Stmt} {scope : Scope}
/-- the scope of such an __init__ -/
structure ErrSc (params : Arguments) (scope : Scope) : Prop where
  sup : scope.names.lookup ("super" : Str) = some .globalImplicit
  cls : scope.names.lookup ("__class__" : Str) = some .free
  slf : scope.names.lookup ("self" : Str) = some .local
  arg : ∃ ar, (params.posonlyargs ++ params.args).head? = some ar ∧ ar.arg = "self"
  nocell : ∀ x ∈ scope.names, x.2 ≠ .cell
  co : scope.isCoroutine = false
  gen : scope.isGenerator = false
  kind : scope.kind = .function
/-- the first statement; then the others run in a state in which the object stands with no dict -/
theorem err_super (T : ErrTxt P K C fI cda cc qual params body scope) (S : ErrSc params scope) {x t0 : Addr} {vals : List Value} {binds : List (Str × Value)} {txt : Str} {j : Nat} {p0 p1 p2 p3 p4 p5 : Pos} {rest : List Stmt}
    (hb : body = .Expr (.Call (.Attribute (.Call (.Name "super" p0) [] [] p1) "__init__" p2) [.Constant (.str txt) j p3] [] p4) p5 :: rest)
    (X : K.In s.heap) (hlim : s.heap.NoLimit) (hns : s.heap.Ns mainGlobals mg) (hmg : mg "super" = none) (hnb : s.heap.Ns builtinsNs mb) (hmb : mb "super" = some (.type "super"))
    (hx : s.heap.get? x = some (excO C t0)) (hroom : A.depth < recursionLimit)
    (hbind : ∀ (doc pm : Value) (an : Option Addr) (ct : Value), bindArgs (ksFn "__init__" qual params body scope .none .none doc pm an (.ref cda) ct cc) ⟨.ref x :: vals, []⟩ = pure binds) (hloc : ∀ y ∈ binds, scope.names.lookup y.1 = some .local)
    (hself : binds.reverse.lookup ("self" : Str) = some (Value.ref x))
    (hev : ∀ L : Addr, ∃ pl : Sem Bool, eval (.Call (.Attribute (.Call (.Name "super" p0) [] [] p1) "__init__" p2) [.Constant (.str txt) j p3] [] p4) (ksEnv qual scope L fI (.ref cda) cc) = (do
      let ov ← attributeBase (.Call (.Name "super" p0) [] [] p1) "__init__" (ksEnv qual scope L fI (.ref cda) cc) (eval (.Call (.Name "super" p0) [] [] p1) (ksEnv qual scope L fI (.ref cda) cc))
      standAt p2.atName
      let (f, first) ← holding [ov] (getMethod ov "__init__" pl)
      callWith p4 f first (backTo p4 (starEach [.Constant (.str txt) j p3] (ksEnv qual scope L fI (.ref cda) cc))) []))
    (hsw : ∀ L : Addr, swapsWith (.Call (.Attribute (.Call (.Name "super" p0) [] [] p1) "__init__" p2) [.Constant (.str txt) j p3] [] p4) none p5.line (ksEnv qual scope L fI (.ref cda) cc) = pure false)
    (hq : ∀ (h' : Heap) (tk : Nat) (t1 : Addr), h'.Ns s.heap.objs.size (fun y => binds.reverse.lookup y) → (∀ b o, b ≠ x → s.heap.get? b = some o → h'.get? b = some o) → h'.get? x = some (excO C t1) →
      wpAny (model P w) (A.deeper (ksEnv qual scope s.heap.objs.size fI (.ref cda) cc)) (execs rest (ksEnv qual scope s.heap.objs.size fI (.ref cda) cc)) (fun fl s' => R (.ok (.ret (match fl with | .ret v => v | _ => .none))) s')
        (fun e s' => wpAny (model P w) (A.deeper (ksEnv qual scope s.heap.objs.size fI (.ref cda) cc)) (leaving (ksEnv qual scope s.heap.objs.size fI (.ref cda) cc) e) (fun _ s'' => R (.error e) s'') (fun e' s'' => R (.error e') s'') s')
        { s with heap := h', toks := tk }) :
    codeAny (model P w) A (.call (.ref fI) ⟨.ref x :: vals, []⟩) R s := by
  obtain ⟨oc, od, doc, pm, an, ct, osl, ho⟩ := T.fn
  obtain ⟨nm, q, N, bs, bm, sn, sub, ab, col, dd, k0, k1, k2, k3, k5, hC, hbm⟩ := T.cls
  obtain ⟨ccl, cdd, vs, ccs, file, tf, hcode, hvs, hfile⟩ := T.code
  obtain ⟨cl, cld, csl, hcell⟩ := T.cell
  obtain ⟨ar, har, hself'⟩ := S.arg
  have hcl : clsIn K C = some { name := nm, bases := bs, mro := .ref C :: bm, ns := N, qualname := q, hasDict := true, slotNames := sn, subclasses := sub, abstract := ab, collection := col, hasDel := false } := by unfold clsIn; rw [hC] <;> rfl
  refine ks_codeAny_call_defAt (fd := ksFn "__init__" qual params body scope .none .none doc pm an (.ref cda) ct cc) (body := body) (binds := binds) hroom (X _ _ ho) rfl hlim (codeRec_of X T.cd) rfl (BindsTo.of_eq (hbind doc pm an ct)) S.nocell hloc (fun h₁ n1 kp => ?_) S.co S.gen S.kind
  show PySem.wpAt (model P w) (A.deeper (ksEnv qual scope s.heap.objs.size fI (.ref cda) cc)) (.func body (ksEnv qual scope s.heap.objs.size fI (.ref cda) cc)) (execs body (ksEnv qual scope s.heap.objs.size fI (.ref cda) cc)) _ _ _
  have X1 : K.In h₁ := X.keeps kp
  have hx1 := kp _ _ hx
  have hC1 := X1 _ _ hC
  have fin : ∀ {c : Code} (s1 : Shared), (∃ (h' : Heap) (tk : Nat) (t1 : Addr), s1 = { s with heap := h', toks := tk } ∧ h'.Ns s.heap.objs.size (fun y => binds.reverse.lookup y) ∧ (∀ b o, b ≠ x → s.heap.get? b = some o → h'.get? b = some o) ∧ h'.get? x = some (excO C t1)) →
      PySem.wpAt (model P w) (A.deeper (ksEnv qual scope s.heap.objs.size fI (.ref cda) cc)) c (execs rest (ksEnv qual scope s.heap.objs.size fI (.ref cda) cc)) (fun fl s' => R (.ok (.ret (match fl with | .ret v => v | _ => .none))) s')
        (fun e s' => wpAny (model P w) (A.deeper (ksEnv qual scope s.heap.objs.size fI (.ref cda) cc)) (leaving (ksEnv qual scope s.heap.objs.size fI (.ref cda) cc) e) (fun _ s'' => R (.error e) s'') (fun e' s'' => R (.error e') s'') s') s1 := fun s1 ⟨h', tk, t1, e, n', k', x'⟩ => by
    subst e
    exact wpAt_of_wpAny (hq h' tk t1 n' k' x')
  have hxL : x ≠ s.heap.objs.size := Nat.ne_of_lt (Heap.lt_size hx)
  subst hb
  obtain ⟨pl, hpl⟩ := hev s.heap.objs.size
  refine ks_wpAt_execs_cons (ks_wpAt_Expr_any (ks_wpAt_MethodCall (pl := pl) ?_ hpl) (by simp [interactive, S.kind]) (hsw _))
  refine ks_wpAt_super_base (env := ksEnv qual scope s.heap.objs.size fI (.ref cda) cc) S.sup S.cls (by decide) rfl (X1 _ _ ho) rfl har rfl (X1 _ _ hcode) rfl hvs hfile T.top ?_
  refine ks_loadName_global S.kind S.sup (loadGlobal_builtin (env := ksEnv qual scope s.heap.objs.size fI (.ref cda) cc) (hns.keeps kp) hmg (hnb.keeps kp) hmb ⟨rfl, ?_⟩)
  refine wpAny_loadName_free S.kind S.cls rfl ⟨_, X1 _ _ hcell, rfl⟩ ?_
  rw [hself']
  refine wpAny_loadName_local S.kind S.slf n1 hself ?_
  refine ks_wpAny_isType_cls hC1 rfl ⟨rfl, ?_⟩
  refine ks_wpAny_call_super hC1 rfl hx1 rfl (fun c e => by cases e) (looks_mroIn X1 T.mro) (fun h2 hso k2 => ?_)
  have X2 : K.In h2 := X1.keeps k2
  have hx2 := k2 _ _ hx1
  have hsup := T.sup
  unfold ks_superIn at hsup
  rw [hcl] at hsup
  have hI : Looks (model P w) h2 (isInstance (.ref x) (.type "ValueError")) true := (InstAt.type (od := none) ⟨hx2, rfl, rfl, trivial⟩).andThen (looks_subIn X2 T.sVE)
  have hxC : x ≠ C := fun z => by
    have e := X _ _ hC
    rw [← z, hx] at e
    cases e
  refine kxs_getMethod (K := K) (l₀ := .ref C :: bm) kxs_ValueError hso (looks_opaque X2 T.opq) (fun A Q E s k q => wpAny_bind ((looks_clsIn X2 hcl) A _ E s k (wpAny_pure q))) rfl X2 hsup hI hxC (by decide) ?_
  have hu3 : (h2.push (kxs_mw "ValueError.__init__" x)).get? h2.objs.size = some (kxs_mw "ValueError.__init__" x) := Heap.get?_push_size _ rfl
  have k3 : ∀ b o, h2.get? b = some o → (h2.push (kxs_mw "ValueError.__init__" x)).get? b = some o := fun b o e => Heap.get?_push_of_some _ e
  refine kxs_callWith (i := "ValueError.__init__") (x := x) rfl (evalArgs_plain ?_)
  refine Calls.spliced_cons ?_
  show wpAny _ _ (eval (.Constant (.str txt) j p3) _) _ _ _
  refine Calls.Constant_str (Calls.spliced_nil ⟨hu3, ?_⟩)
  refine mw_call (X2.keeps k3 _ _ hC) (k3 _ _ hx2) hu3 (by show 1 ≤ sizeLine; rw [sizeLine_eq]; decide) fun h4 t4 k4 hx4 => ?_
  refine fin _ ⟨h4, _, t4, rfl, ?_, fun b o hb e => k4 b o hb (k3 b o (k2 b o (kp b o e))), hx4⟩
  obtain ⟨oL, es, ep, hoL, hr⟩ := n1
  exact ⟨oL, es, ep, k4 _ _ (Ne.symm hxL) (k3 _ _ (k2 _ _ hoL)), hr⟩
end

/-- what such an __init__ leaves of the fresh object at x: its own dict dx with the names' values mA -/
structure InitE (h h' : Heap) (x C dx t1 : Addr) (mA : Str → Option Value) : Prop where
  keep : ∀ b o, b ≠ x → h.get? b = some o → h'.get? b = some o
  obj : h'.get? x = some { cls := .ref C, dict := some dx, data := .fields #[.ref t1, .none, .none, .none, .bool false, .none] }
  big : h.objs.size ≤ dx
  ne : dx ≠ x
  ns : h'.Ns1 dx mA
/-- a made error -/
structure MadeE (h h' : Heap) (e C d : Addr) (mA : Str → Option Value) : Prop where
  keep : ∀ b o, h.get? b = some o → h'.get? b = some o
  new : h.objs.size ≤ e
  obj : ∃ t1, h'.get? e = some { cls := .ref C, dict := some d, data := .fields #[.ref t1, .none, .none, .none, .bool false, .none] }
  big : h.objs.size ≤ d
  ne : d ≠ e
  ns : h'.Ns1 d mA
section
variable {P : Program} {w : World} {A : Around} {E : Value → Shared → Prop} {R : Result → Shared → Prop} {s : Shared} {K : Frag} {mg mb : Str → Option Value} {C fI cda cc : Addr} {qual : Str} {params : Arguments} {body : List Stmt} {scope : Scope}
theorem ld_at {env : Env} {m : Str → Option Value} {x : Str} {pos : Pos} {v : Value} {Q : Value → Shared → Prop} {M : Model} (hn : s.heap.Ns env.locals m) (hv : m x = some v) (h : Q v s) (hk : env.scope.kind = .function) (hl : env.kindOf x = some .local)
    (hd : (x == ("__debug__" : Str)) = false := by decide) : wpAny M A (eval (.Name x pos) env) Q E s := wpAny_Name (wpAny_loadName_local hk hl hn hv h) hd
/-- self.f = v, the first field -/
theorem fld_first (T : ErrTxt P K C fI cda cc qual params body scope) {x t1 : Addr} {f : Str} {v : Value} {Q : Unit → Shared → Prop} (X : K.In s.heap) (hx : s.heap.get? x = some (excO C t1)) (hno : findIn K (.ref C) f = some none)
    (hq : ∀ h' tk dx, InitE s.heap h' x C dx t1 (fun y => if y = f then some v else none) → Q () { s with heap := h', toks := tk }) : wpAny (model P w) A (setAttr (.ref x) f v) Q E s := by
  obtain ⟨nm, q, N, bs, bm, sn, sub, ab, col, dd, k0, k1, k2, k3, k5, hC, hbm⟩ := T.cls
  have hcl : clsIn K C = some { name := nm, bases := bs, mro := .ref C :: bm, ns := N, qualname := q, hasDict := true, slotNames := sn, subclasses := sub, abstract := ab, collection := col, hasDel := false } := by unfold clsIn; rw [hC] <;> rfl
  refine set_plain X (ox := excO C t1) (od := none) ⟨hx, rfl, rfl, trivial⟩ T.sa ?_
  exact exc_osa X hx hcl (show refsVE (.ref C :: bm) = true from hbm) rfl hno fun h' tk dx k big ne ho hn => hq h' tk dx ⟨k, ho, big, ne, hn⟩
/-- a further one -/
theorem fld_more (T : ErrTxt P K C fI cda cc qual params body scope) {h0 : Heap} {x t1 dx : Addr} {mA : Str → Option Value} {nl : List Str} {f : Str} {v : Value} {Q : Unit → Shared → Prop} (X : K.In s.heap) (J : InitE h0 s.heap x C dx t1 mA) (hw : Within mA nl) (hz : nl.length ≤ 1000) (hno : findIn K (.ref C) f = some none)
    (hq : ∀ h' tk, InitE h0 h' x C dx t1 (fun y => if y = f then some v else mA y) → Q () { s with heap := h', toks := tk }) : wpAny (model P w) A (setAttr (.ref x) f v) Q E s := by
  obtain ⟨nm, q, N, bs, bm, sn, sub, ab, col, dd, k0, k1, k2, k3, k5, hC, hbm⟩ := T.cls
  have hcl : clsIn K C = some { name := nm, bases := bs, mro := .ref C :: bm, ns := N, qualname := q, hasDict := true, slotNames := sn, subclasses := sub, abstract := ab, collection := col, hasDel := false } := by unfold clsIn; rw [hC] <;> rfl
  obtain ⟨oD, _, _, hoD, _, _⟩ := J.ns.count hw
  refine set_plain X (ox := { cls := .ref C, dict := some dx, data := .fields #[.ref t1, .none, .none, .none, .bool false, .none] }) (od := some oD) ⟨J.obj, rfl, rfl, hoD⟩ T.sa ?_
  refine PySem.OEX.osa_old X J.obj J.ns hw hz hcl (show refsVE (.ref C :: bm) = true from hbm) rfl hno fun h' tk k hn => hq h' tk ⟨fun b o hb e => ?_, k _ _ (Ne.symm J.ne) J.obj, J.big, J.ne, hn⟩
  have hbd : b ≠ dx := Nat.ne_of_lt (Nat.lt_of_lt_of_le (Heap.lt_size e) J.big)
  exact k b o hbd (J.keep b o hb e)
theorem made_of (T : ErrTxt P K C fI cda cc qual params body scope) {vals : List Value} {mA : Str → Option Value} (X : K.In s.heap) (hz : vals.length ≤ sizeLine)
    (hi : ∀ (s1 : Shared) (x t0 : Addr) (A1 : Around) (R1 : Result → Shared → Prop), A1.depth = A.depth + 1 → A1.handled = A.handled → K.In s1.heap → (∀ b o, s.heap.get? b = some o → s1.heap.get? b = some o) → K.lookup x = none → s1.heap.get? x = some (excO C t0) →
      (∀ h' tk dx t1, InitE s1.heap h' x C dx t1 mA → R1 (.ok (.ret .none)) { s1 with heap := h', toks := tk }) → codeAny (model P w) A1 (.call (.ref fI) ⟨.ref x :: vals, []⟩) R1 s1)
    (hq : ∀ h' tk e d, MadeE s.heap h' e C d mA → R (.ok (.ret (.ref e))) { s with heap := h', toks := tk }) :
    codeAny (model P w) A (.call (.ref C) ⟨vals, []⟩) R s := by
  obtain ⟨nm, q, N, bs, bm, sn, sub, ab, col, dd, k0, k1, k2, k3, k5, hC, hbm⟩ := T.cls
  obtain ⟨hp, g, dr, tk, os⟩ := s
  have k : ∀ b o, hp.get? b = some o → ((hp.push (kdv_tup vals)).push (excO C hp.objs.size)).get? b = some o := fun b o e => Heap.get?_push_of_some _ (Heap.get?_push_of_some _ e)
  have hget : ((hp.push (kdv_tup vals)).push (excO C hp.objs.size)).get? (hp.objs.size + 1) = some (excO C hp.objs.size) := by heap_get
  refine call_own F.excBase_ValueError (fun X => refsVE_contains X bm hbm) (X _ _ hC) (looks_findIn X T.iC) (fun self => bind_fn X self T.tC) hz ?_
  have hnx : K.lookup (hp.objs.size + 1) = none := by
    cases e : K.lookup (hp.objs.size + 1) with
    | none => rfl
    | some o =>
      have z : hp.get? (hp.objs.size + 1) = some o := X _ _ e
      exact absurd (Nat.lt_of_succ_lt (Heap.lt_size z)) (Nat.lt_irrefl _)
  refine hi ⟨(hp.push (kdv_tup vals)).push (excO C hp.objs.size), g, dr, tk, os⟩ (hp.objs.size + 1) hp.objs.size _ _ L2.make_depth rfl (X.keeps k) k hnx hget fun h' tk' dx t1 J => ?_
  have old : ∀ b o, hp.get? b = some o → h'.get? b = some o := fun b o e => J.keep b o (Nat.ne_of_lt (Nat.lt_succ_of_lt (Heap.lt_size e))) (k b o e)
  have z : hp.objs.size + 1 + 1 ≤ dx := by
    have q := J.big
    rw [Heap.size_push, Heap.size_push] at q
    exact q
  exact ⟨rfl, hq h' tk' (hp.objs.size + 1) dx ⟨old, Nat.le_succ _, ⟨_, J.obj⟩, Nat.le_trans (Nat.le_trans (Nat.le_succ _) (Nat.le_succ _)) z, J.ne, J.ns⟩⟩
end
end K26E

namespace K26
open PySem PySem.Spec PyProof.Rows L2 K26E
/-- C(e, ..): the error of the class at C, its fields fs told of the arguments -/
def tMkE (C : Addr) (fs : List V → List (Str × V)) (n : Nat) (ta : TA) : L2.St → Hp → XK → Prop := fun σ H Q => ta σ H fun vs H1 => vs.length = n ∧ ∀ d, H1 d = none → Q (.ref C) (some d) (upd H1 d (.xd (fs vs)))
section
variable {X : Cx}
/-- the machine makes it so -/
def MakesE (X : Cx) (C : Addr) (n : Nat) (fs : List V → List (Str × V)) : Prop :=
  ∀ (s : Shared) (vs : List V) (us : List Value) (R : Result → Shared → Prop), X.K.In s.heap → s.heap.NoLimit → s.heap.Ns mainGlobals X.mg → (∃ mb, s.heap.Ns builtinsNs mb ∧ ∀ x : Str, x ≠ "__name__" → mb x = bootBuiltins x) → Vals vs us → vs.length = n →
    (∀ h' tk e d mA, MadeE s.heap h' e C d mA → (∀ f, RelO ((fs vs).lookup f) (mA f)) → R (.ok (.ret (.ref e))) { s with heap := h', toks := tk }) → codeAny (model X.prog X.w) X.A (.call (.ref C) ⟨us, []⟩) R s
theorem pmk_err {C : Addr} {n : Nat} {fs : List V → List (Str × V)} {x : Str} {a : Expr} {es : List Expr} {ta : TA} {p pos : Pos} (M : MakesE X C n fs) (hR : Raises X (.ref C)) (kC : PySem.W.keepIn X.K (.ref C) = true) (gC : X.mg x = some (.ref C)) (ha : PA X (a :: es) ta) (hg : Gl X x := by rfl)
    (hdb : (x == ("__debug__" : Str)) = false := by decide) (he : starEach (a :: es) X.env = (false, eval a X.env) :: starEach es X.env := by rfl) (hpl : (backTo pos (starEach es X.env)).any (·.1) = false := by rfl) :
    PMk X (.Call (.Name x p) (a :: es) [] pos) (tMkE C fs n ta) := by
  intro pins s σ H Q I h
  refine wpAny_Call_Name_kw (ld_glob I hg gC ?_ hdb)
  refine PySem.W.callWith_K (h₀ := X.base) I.ok.mod.kin kC (thn (ha.run pos pins s σ H _ I h) fun us s1 hh => ?_) he hpl
  obtain ⟨vs, H1, I1, r1, hn, q1⟩ := hh
  refine ⟨I1.kIn, ?_⟩
  show wpAny _ _ (call (.ref C) us) _ _ _
  have hlim := I1.nolimit
  have hns := I1.mod.glob.keeps I1.bk
  obtain ⟨mb, hb1, hb2⟩ := I1.mod.blt
  have hK := I1.kIn
  have hbk := hb1.keeps I1.bk
  obtain ⟨hp, g, dr, tk, os⟩ := s1
  refine wpAny_call (M _ vs us _ hK hlim hns ⟨mb, hbk, hb2⟩ r1 hn fun h' tk' e d mA MD hrel => ?_)
  show MkP X pins σ Q (.ref e) ⟨h', g, dr, tk', os⟩
  obtain ⟨t1, hoe⟩ := MD.obj
  have hns1 := MD.ns
  obtain ⟨G', g1, g2⟩ := restrict h' fun b => decide (b ≠ e)
  have gk : ∀ b, b ≠ e → G'.get? b = h'.get? b := fun b hb => g1 b (decide_eq_true hb)
  have ge : G'.get? e = none := g2 e (by simp)
  have old : ∀ b o, hp.get? b = some o → G'.get? b = some o := fun b o q => (gk b (Nat.ne_of_lt (Nat.lt_of_lt_of_le (Heap.lt_size q) MD.new))).trans (MD.keep b o q)
  have ob : ObjOk X.prog X.w (upd H1 d (.xd (fs vs))) G' d (.xd (fs vs)) := ⟨_, hns1.at (fun o q => (gk d MD.ne).trans q), hrel⟩
  have J : Inv X pins σ (upd H1 d (.xd (fs vs))) ⟨G', g, dr, tk', os⟩ := I1.laid (t' := tk') old MD.big ob
  refine ⟨e, _, _, ⟨G', g, dr, tk', os⟩, _, .ref C, some d, rfl, J, fun b o q => ?_, ge, hoe, ⟨rfl, rfl⟩, rfl, rfl, ?_, rfl, I1.bare, hR, q1 d (I1.hok.fresh MD.big)⟩
  · by_cases hb : b = e
    · have q' : G'.get? b = some o := q
      rw [hb, ge] at q'
      cases q'
    · exact (gk b hb).symm.trans q
  · rw [upd_ne (Ne.symm MD.ne)]
    exact I1.hok.fresh MD.new
theorem in_but {K : PySem.W.Frag} {h h' : Heap} {x : Addr} (X : K.In h) (hx : K.lookup x = none) (k : ∀ b o, b ≠ x → h.get? b = some o → h'.get? b = some o) : K.In h' := fun a o e =>
  k a o (fun z => by rw [z, hx] at e; cases e) (X a o e)
section
variable {C fI cda cc : Addr} {qual : Str} {params : Arguments} {body : List Stmt} {scope : Scope} {txt : Str} {j : Nat} {p0 p1 p2 p3 p4 p5 q1 q2 q3 q4 q5 q6 q7 q8 q9 : Pos}
/-- the call super().__init__(text), its tree -/
abbrev supE (txt : Str) (j : Nat) (p0 p1 p2 p3 p4 : Pos) : Expr := .Call (.Attribute (.Call (.Name "super" p0) [] [] p1) "__init__" p2) [.Constant (.str txt) j p3] [] p4
structure SupTree (txt : Str) (j : Nat) (p0 p1 p2 p3 p4 p5 : Pos) (mkEnv : Addr → Env) : Prop where
  ev : ∀ L : Addr, ∃ pl : Sem Bool, eval (supE txt j p0 p1 p2 p3 p4) (mkEnv L) = (do
      let ov ← attributeBase (.Call (.Name "super" p0) [] [] p1) "__init__" (mkEnv L) (eval (.Call (.Name "super" p0) [] [] p1) (mkEnv L))
      standAt p2.atName
      let (f, first) ← holding [ov] (getMethod ov "__init__" pl)
      callWith p4 f first (backTo p4 (starEach [.Constant (.str txt) j p3] (mkEnv L))) [])
  sw : ∀ L : Addr, swapsWith (supE txt j p0 p1 p2 p3 p4) none p5.line (mkEnv L) = pure false
/-- one parameter, one field -/
theorem makes1 {f a : Str} (T : ErrTxt X.prog X.K C fI cda cc qual params body scope) (S : ErrSc params scope)
    (hb : body = [.Expr (supE txt j p0 p1 p2 p3 p4) p5, .Assign [.Attribute (.Name "self" q1) f q2] (.Name a q3) q4]) (hno : PySem.W.findIn X.K (.ref C) f = some none) (ha : scope.names.lookup a = some .local) (hne : a ≠ "self")
    (hbind : ∀ (doc pm : Value) (an : Option Addr) (ct v u : Value), bindArgs (PySem.W.ksFn "__init__" qual params body scope .none .none doc pm an (.ref cda) ct cc) ⟨[u, v], []⟩ = pure ([(("self" : Str), u), (a, v)] : List (Str × Value)))
    (tr : SupTree txt j p0 p1 p2 p3 p4 p5 fun L => PySem.W.ksEnv qual scope L fI (.ref cda) cc)
    (hsw : ∀ L : Addr, swapsWith (.Name a q3) (some (.Attribute (.Name "self" q1) f q2)) q4.line (PySem.W.ksEnv qual scope L fI (.ref cda) cc) = pure false)
    (hdb : (a == ("__debug__" : Str)) = false) (hmg : X.mg "super" = none) (hd : X.A.depth + 1 < recursionLimit) : MakesE X C 1 (fun vs => [(f, vs.headD .non)]) := by
  intro s vs us R XK lim hns hblt r hn hq
  obtain ⟨mb, hb1, hb2⟩ := hblt
  match vs, us, r, hn with
  | [v], [u], r, _ =>
    obtain ⟨_, _, rv⟩ : ∃ (_ : True) (_ : True), RelV v u := by cases r with | cons h _ => exact ⟨trivial, trivial, h⟩
    refine made_of T XK (by show 1 ≤ sizeLine; rw [sizeLine_eq]; decide) (mA := fun y => if y = f then some u else none) (fun s1 x t0 A1 R1 hd1 _ X1 k1 hnx hx hfin => ?_) fun h' tk e d MD => hq h' tk e d _ MD fun g => ?_
    · have hself : List.lookup ("self" : Str) ([(("self" : Str), Value.ref x), (a, u)] : List (Str × Value)).reverse = some (Value.ref x) := by
        have : (("self" : Str) == a) = false := by simpa using Ne.symm hne
        simp [List.lookup, this]
      have harg : List.lookup a ([(("self" : Str), Value.ref x), (a, u)] : List (Str × Value)).reverse = some u := by simp [List.lookup]
      refine err_super (mg := X.mg) (mb := mb) T S (vals := [u]) (binds := [("self", .ref x), (a, u)]) hb X1 (lim.keeps k1) (hns.keeps k1) hmg (hb1.keeps k1) ((hb2 _ (by decide)).trans (by decide +kernel)) hx (by rw [hd1]; exact hd) (fun doc pm an ct => hbind doc pm an ct u (.ref x)) (fun y hy => ?_) hself tr.ev tr.sw fun h' tk t1 n1 kp hx1 => ?_
      · rcases List.mem_cons.mp hy with rfl | hy
        · exact S.slf
        · rcases List.mem_cons.mp hy with rfl | hy
          · exact ha
          · cases hy
      · refine wpAny_execs_cons (plainObj_wpAny_Assign_Attribute ?_ (hsw _))
        refine ld_at (env := PySem.W.ksEnv qual scope s1.heap.objs.size fI (.ref cda) cc) n1 harg ?_ S.kind ha hdb
        refine ld_at (env := PySem.W.ksEnv qual scope s1.heap.objs.size fI (.ref cda) cc) n1 hself ?_ S.kind S.slf (by decide)
        refine fld_first (s := { s1 with heap := h', toks := tk }) T (in_but X1 hnx kp) hx1 hno fun h2 tk2 dx J => ?_
        show wpAny _ _ (execs _ _) _ _ _
        refine wpAny_execs_nil (hfin h2 tk2 dx t1 ⟨fun b o hb e => J.keep b o hb (kp b o hb e), J.obj, ?_, J.ne, J.ns⟩)
        obtain ⟨oL, _, _, hoL, _⟩ := n1
        exact Nat.le_of_lt (Nat.lt_of_lt_of_le (Heap.lt_size hoL) J.big)
    · show RelO (List.lookup g [(f, v)]) (if g = f then some u else none)
      by_cases hg : g = f
      · subst hg
        rw [if_pos rfl]
        have : List.lookup g [(g, v)] = some v := by simp [List.lookup]
        rw [this]
        exact rv
      · rw [if_neg hg]
        have e : (g == f) = false := by simpa using hg
        have : List.lookup g [(f, v)] = none := by simp [List.lookup, e]
        rw [this]
        trivial
/-- two parameters, two fields stored at once -/
theorem makes2 {f1 f2 a1 a2 : Str} {kt : Nat} {k2 : Nat} (T : ErrTxt X.prog X.K C fI cda cc qual params body scope) (S : ErrSc params scope)
    (hb : body = [.Expr (supE txt j p0 p1 p2 p3 p4) p5, .Assign [.Tuple [.Attribute (.Name "self" q1) f1 q2, .Attribute (.Name "self" q3) f2 q4] kt q5] (.Tuple [.Name a1 q6, .Name a2 q7] k2 q8) q9])
    (hno1 : PySem.W.findIn X.K (.ref C) f1 = some none) (hno2 : PySem.W.findIn X.K (.ref C) f2 = some none) (ha1 : scope.names.lookup a1 = some .local) (ha2 : scope.names.lookup a2 = some .local) (hne1 : a1 ≠ "self") (hne2 : a2 ≠ "self") (hne : a1 ≠ a2) (hnf : f1 ≠ f2)
    (hbind : ∀ (doc pm : Value) (an : Option Addr) (ct v v2 u : Value), bindArgs (PySem.W.ksFn "__init__" qual params body scope .none .none doc pm an (.ref cda) ct cc) ⟨[u, v, v2], []⟩ = pure ([(("self" : Str), u), (a1, v), (a2, v2)] : List (Str × Value)))
    (tr : SupTree txt j p0 p1 p2 p3 p4 p5 fun L => PySem.W.ksEnv qual scope L fI (.ref cda) cc)
    (hsw : ∀ L : Addr, swapsWithSole [.Tuple [.Attribute (.Name "self" q1) f1 q2, .Attribute (.Name "self" q3) f2 q4] kt q5] (.Tuple [.Name a1 q6, .Name a2 q7] k2 q8) q9.line (PySem.W.ksEnv qual scope L fI (.ref cda) cc) = pure false)
    (hst : ∀ L : Addr, swappedStores [.Tuple [.Attribute (.Name "self" q1) f1 q2, .Attribute (.Name "self" q3) f2 q4] kt q5] (.Tuple [.Name a1 q6, .Name a2 q7] k2 q8) (PySem.W.ksEnv qual scope L fI (.ref cda) cc) = pure none)
    (hdb1 : (a1 == ("__debug__" : Str)) = false) (hdb2 : (a2 == ("__debug__" : Str)) = false) (hmg : X.mg "super" = none) (hd : X.A.depth + 1 < recursionLimit) (hh : X.A.handled = none) : MakesE X C 2 (fun vs => [(f2, vs.getD 1 .non), (f1, vs.headD .non)]) := by
  intro s vs us R XK lim hns hblt r hn hq
  obtain ⟨mb, hb1, hb2⟩ := hblt
  match vs, us, r, hn with
  | [v, v2], [u, u2], r, _ =>
    obtain ⟨rv, rv2⟩ : RelV v u ∧ RelV v2 u2 := by
      cases r with
      | cons h h2 => cases h2 with | cons h2 _ => exact ⟨h, h2⟩
    refine made_of (A := X.A) T XK (by show 2 ≤ sizeLine; rw [sizeLine_eq]; decide) (mA := fun y => if y = f2 then some u2 else if y = f1 then some u else none) (fun s1 x t0 A1 R1 hd1 hh1 X1 k1 hnx hx hfin => ?_) fun h' tk e d MD => hq h' tk e d _ MD fun g => ?_
    · have lk : ∀ y : Str, List.lookup y ([(("self" : Str), Value.ref x), (a1, u), (a2, u2)] : List (Str × Value)).reverse = if y = a2 then some u2 else if y = a1 then some u else if y = "self" then some (Value.ref x) else none := fun y => by
        show List.lookup y [(a2, u2), (a1, u), (("self" : Str), Value.ref x)] = _
        by_cases e2 : y = a2
        · simp [List.lookup, e2]
        · have z2 : (y == a2) = false := by simpa using e2
          by_cases e1 : y = a1
          · rw [if_neg e2, if_pos e1]
            subst e1
            simp [List.lookup, z2]
          · have z1 : (y == a1) = false := by simpa using e1
            by_cases e0 : y = "self"
            · rw [if_neg e2, if_neg e1, if_pos e0]
              subst e0
              simp [List.lookup, z2, z1]
            · have z0 : (y == ("self" : Str)) = false := by simpa using e0
              rw [if_neg e2, if_neg e1, if_neg e0]
              simp [List.lookup, z2, z1, z0]
      have hself := lk "self"
      rw [if_neg (Ne.symm hne2), if_neg (Ne.symm hne1), if_pos rfl] at hself
      have harg1 := lk a1
      rw [if_neg hne, if_pos rfl] at harg1
      have harg2 := lk a2
      rw [if_pos rfl] at harg2
      refine err_super (mg := X.mg) (mb := mb) T S (vals := [u, u2]) (binds := [("self", .ref x), (a1, u), (a2, u2)]) hb X1 (lim.keeps k1) (hns.keeps k1) hmg (hb1.keeps k1) ((hb2 _ (by decide)).trans (by decide +kernel)) hx (by rw [hd1]; exact hd) (fun doc pm an ct => hbind doc pm an ct u u2 (.ref x)) (fun y hy => ?_) hself tr.ev tr.sw fun h' tk t1 n1 kp hx1 => ?_
      · rcases List.mem_cons.mp hy with rfl | hy
        · exact S.slf
        · rcases List.mem_cons.mp hy with rfl | hy
          · exact ha1
          · rcases List.mem_cons.mp hy with rfl | hy
            · exact ha2
            · cases hy
      · refine wpAny_execs_cons (wpAny_Assign_stores ?_ (hsw _) (hst _))
        refine wpAny_Tuple_spliced ?_
        refine Calls.spliced_cons ?_
        show wpAny _ _ (eval (.Name a1 q6) _) _ _ _
        refine ld_at (env := PySem.W.ksEnv qual scope s1.heap.objs.size fI (.ref cda) cc) n1 harg1 ?_ S.kind ha1 hdb1
        refine Calls.spliced_cons ?_
        show wpAny _ _ (eval (.Name a2 q7) _) _ _ _
        refine ld_at (env := PySem.W.ksEnv qual scope s1.heap.objs.size fI (.ref cda) cc) n1 harg2 ?_ S.kind ha2 hdb2
        refine Calls.spliced_nil ⟨by show 2 ≤ sizeLine; rw [sizeLine_eq]; decide, ?_⟩
        have keepT : ∀ b o, h'.get? b = some o → (h'.push { cls := .type "tuple", data := .seq [u, u2].toArray }).get? b = some o := fun b o e => Heap.get?_push_of_some _ e
        have hT : (h'.push { cls := .type "tuple", data := .seq [u, u2].toArray }).get? h'.objs.size = some { cls := .type "tuple", data := .seq [u, u2].toArray } := Heap.get?_push_size _ rfl
        show wpAny _ _ (assign (.Tuple [.Attribute (.Name "self" q1) f1 q2, .Attribute (.Name "self" q3) f2 q4] kt q5) (PySem.W.ksEnv qual scope s1.heap.objs.size fI (.ref cda) cc) (.ref h'.objs.size)) _ _ _
        refine assign_Tuple_tuple (items := [u, u2].toArray) (by show A1.handled = none; rw [hh1]; exact hh) ⟨_, hT, rfl, _, rfl⟩ rfl rfl fun h2 hx2 => ?_
        have k2 : ∀ b o, h'.get? b = some o → h2.get? b = some o := fun b o e => hx2 b o (Nat.ne_of_lt (Nat.lt_of_lt_of_le (Heap.lt_size e) (by rw [Heap.size_push]; exact Nat.le_succ _))) (keepT b o e)
        have hxs := k2 _ _ hx1
        have n2 : h2.Ns s1.heap.objs.size (fun y => List.lookup y ([(("self" : Str), Value.ref x), (a1, u), (a2, u2)] : List (Str × Value)).reverse) := n1.keeps k2
        have X2 : X.K.In h2 := (in_but X1 hnx kp).keeps k2
        refine assignInOrder_cons ?_
        show wpAny _ _ (assign (.Attribute (.Name "self" q1) f1 q2) (PySem.W.ksEnv qual scope s1.heap.objs.size fI (.ref cda) cc) u) _ _ _
        rw [arm_assign_Attribute]
        refine wpAny_bind (wpAny_holding (ld_at (env := PySem.W.ksEnv qual scope s1.heap.objs.size fI (.ref cda) cc) n2 hself ?_ S.kind S.slf (by decide)))
        refine wpAny_bind (wpAny_standAt (wpAny_bind (wpAny_holding (fld_first (s := { s1 with heap := h2, toks := tk }) T X2 hxs hno1 fun h3 tk3 dx J => ?_))))
        refine wpAny_release ?_
        have hL : s1.heap.objs.size ≠ x := fun z => by
          have := Heap.lt_size hx
          rw [← z] at this
          exact Nat.lt_irrefl _ this
        have n3 : h3.Ns s1.heap.objs.size (fun y => List.lookup y ([(("self" : Str), Value.ref x), (a1, u), (a2, u2)] : List (Str × Value)).reverse) := by
          obtain ⟨oL, es, ep, hoL, hr⟩ := n2
          exact ⟨oL, es, ep, J.keep _ _ hL hoL, hr⟩
        refine assignInOrder_cons ?_
        show wpAny _ _ (assign (.Attribute (.Name "self" q3) f2 q4) (PySem.W.ksEnv qual scope s1.heap.objs.size fI (.ref cda) cc) u2) _ _ _
        rw [arm_assign_Attribute]
        refine wpAny_bind (wpAny_holding (ld_at (env := PySem.W.ksEnv qual scope s1.heap.objs.size fI (.ref cda) cc) n3 hself ?_ S.kind S.slf (by decide)))
        refine wpAny_bind (wpAny_standAt (wpAny_bind (wpAny_holding (fld_more (s := { s1 with heap := h3, toks := tk3 }) (h0 := h2) (nl := [f1]) T (in_but X2 hnx J.keep) J (fun y hy => ?_) (by show 1 ≤ 1000; decide) hno2 fun h4 tk4 J4 => ?_))))
        · by_cases e : y = f1
          · rw [e]; exact List.mem_cons_self
          · simp [e] at hy
        refine wpAny_release (assignInOrder_nil ?_)
        show wpAny _ _ (execs _ _) _ _ _
        refine wpAny_execs_nil (hfin h4 tk4 dx t1 ⟨fun b o hb e => J4.keep b o hb (k2 _ _ (kp b o hb e)), J4.obj, ?_, J4.ne, J4.ns⟩)
        obtain ⟨oL, _, _, hoL, _⟩ := n2
        exact Nat.le_of_lt (Nat.lt_of_lt_of_le (Heap.lt_size hoL) J.big)
    · show RelO (List.lookup g [(f2, v2), (f1, v)]) (if g = f2 then some u2 else if g = f1 then some u else none)
      by_cases hg2 : g = f2
      · subst hg2
        rw [if_pos rfl]
        have : List.lookup g [(g, v2), (f1, v)] = some v2 := by simp [List.lookup]
        rw [this]
        exact rv2
      · rw [if_neg hg2]
        have e2 : (g == f2) = false := by simpa using hg2
        by_cases hg : g = f1
        · subst hg
          rw [if_pos rfl]
          have : List.lookup g [(f2, v2), (g, v)] = some v := by simp [List.lookup, e2]
          rw [this]
          exact rv
        · rw [if_neg hg]
          have e : (g == f1) = false := by simpa using hg
          have : List.lookup g [(f2, v2), (f1, v)] = none := by simp [List.lookup, e, e2]
          rw [this]
          trivial
end
end
end K26
end K26RulesB

section K26RulesC
set_option Elab.async false
set_option linter.all false
set_option maxRecDepth 100000
set_option maxHeartbeats 2000000
/-! K26RulesC: a caught error that is kept by another name behind its suite: tracked from then on; isinstance of it, its fields. -/
namespace K26
open PySem PySem.Spec PyProof.Rows L2
/-- an error that was caught, at a -/
def ErrO (cls : Value) (d : Option Addr) (a : Addr) : HO := .ext fun h => ∃ (oe : Obj) (vs : Array Value), h.get? a = some oe ∧ Zc cls d oe ∧ oe.data = .fields vs
theorem errO_ok {P : Program} {w : World} {H : Hp} {h : Heap} {a : Addr} {cls : Value} {d : Option Addr} {oe : Obj} {vs : Array Value} (e : h.get? a = some oe) (z : Zc cls d oe) (hd : oe.data = .fields vs) : ObjOk P w H h a (ErrO cls d a) :=
  ⟨⟨oe, vs, e, z, hd⟩, ⟨oe, e⟩, fun _ _ ⟨o, v, q, r⟩ k => ⟨o, v, k o q, r⟩⟩
theorem errO_at {P : Program} {w : World} {H : Hp} {h : Heap} {a : Addr} {cls : Value} {d : Option Addr} (hok : HOk P w H h) (e : H a = some (ErrO cls d a)) : ∃ (oe : Obj) (vs : Array Value), h.get? a = some oe ∧ Zc cls d oe ∧ oe.data = .fields vs := by
  have x : ObjOk P w H h a (.ext fun h => ∃ (oe : Obj) (vs : Array Value), h.get? a = some oe ∧ Zc cls d oe ∧ oe.data = .fields vs) := hok a _ e
  exact x.1
section
variable {X : Cx} {pins : List (Addr × Obj)} {σ : L2.St} {H : Hp} {s : Shared}
/-- an object that came after the entry is tracked from now on -/
theorem inv_track {a : Addr} {u : HO} (I : Inv X pins σ H s) (h0 : X.s_0.heap.get? a = none) (hn : H a = none) (new : ObjOk X.prog X.w (upd H a u) s.heap a u) (nL : a ≠ X.env.locals) (nC : ∀ x c, X.env.cells.lookup x = some c → c ≠ a)
    (nP : ∀ p ∈ X.pn ++ pins, p.1 ≠ a) : Inv X pins σ (upd H a u) s := by
  have ne0 : ∀ {b : Addr} {o : Obj}, X.s_0.heap.get? b = some o → b ≠ a := fun {b o} e z => by rw [z, h0] at e; cases e
  have neS : ∀ {b : Addr} {o : HO}, H b = some o → b ≠ a := fun {b o} e => ne_of_none e hn
  refine ⟨I.ok, I.os, I.bare, ⟨fun b o e n hf hx => I.base.keep b o e n hf hx, fun b o e n hf hx => I.base.slot b o e n hf hx, fun b o e n hx => ?_, fun b o e hx => I.base.there b o e hx, fun b xs e => ?_, fun b o v e => ?_, fun b ps e => ?_⟩,
    I.loc, I.cell, ?_, fun x c e => ?_, fun p hp => ?_, fun b o e => ?_, I.len⟩
  · rw [upd_ne (ne0 e)]
    exact I.base.free b o e n hx
  · have q := I.base.tups b xs e
    rw [upd_ne (neS q)]
    exact q
  · have q := I.base.frzs b o v e
    rw [upd_ne (neS q)]
    exact q
  · obtain ⟨m, q⟩ := I.base.tbls b ps e
    exact ⟨m, by rw [upd_ne (neS q)]; exact q⟩
  · rw [upd_ne (Ne.symm nL)]
    exact I.free
  · rw [upd_ne (nC x c e)]
    exact I.freeC x c e
  · obtain ⟨q1, q2, q3, q4, q5⟩ := I.pin p hp
    exact ⟨q1, by rw [upd_ne (nP p hp)]; exact q2, q3, q4, q5⟩
  · by_cases hb : b = a
    · subst hb
      rw [upd_same] at e
      cases e
      exact new
    · rw [upd_ne hb] at e
      exact (I.hok b o e).stay (fun _ _ _ q => q) (fun c q => by rw [upd_ne (neS q)]; exact q) fun c xs q => by rw [upd_ne (neS q)]; exact q
/-- what the clause «except x as n: y = n» wishes: slot i is n's, j is y's -/
def wKeep (K : PySem.W.Frag) (c : Value) (i j : Nat) (D : Ends) : WX := fun cls d σ H => PySem.W.exmOne K cls c = some true ∧ ∀ a, H a = none → D.nx (((σ.set i (some (.ref a))).set j (some (.ref a))).set i none) (upd H a (ErrO cls d a))
theorem ps_try_keep {x n y : Str} {c : Value} {i j : Nat} {body : List Stmt} {np pos pos' p1 p2 p3 : Pos} {tb : WX → TS} (hs : X.stack = X.env :: X.outer) (hf : X.env.frame = some X.env.locals) (hex : X.ex = []) (hN : X.N.Nodup) (hi : X.N[i]? = some n) (hj : X.N[j]? = some y) (hij : i ≠ j) (hln : X.env.kindOf n = some .local) (hly : X.env.kindOf y = some .local)
    (hdn : (n == ("__debug__" : Str)) = false) (hcn : (n == ("__classdict__" : Str)) = false) (hc : Names X x c)
    (hsw : swapsWith (.Name n p2) (some (.Name y p1)) p3.line X.env = pure false)
    (hb : ∀ (W : WX) (pn : List (Addr × Obj)) (xe : Value → Shared → Prop), Takes (X.tr pn xe) W → PassesOwn (model X.prog X.w) X.A X.env xe → PSs (X.tr pn xe) body (tb W)) :
    PS X (.Try body [.ExceptHandler (some (.Name x np)) (some n) [.Assign [.Name y p1] (.Name n p2) p3] pos'] [] [] pos) (fun D σ H => tb (wKeep X.K c i j D) D σ H) := by
  refine ⟨fun pins s σ H D I h => ?_⟩
  have ok := I.ok
  have frames : X.A.frames = some (X.env :: X.outer) := ok.frames.trans (by rw [hs])
  refine wpAny_Try_except ?_
  have run := (hb (wKeep X.K c i j D) (X.pn ++ pins) (fun e s₁ => wpAny (model X.prog X.w) X.A (noteFrame e X.env) (fun _ s₂ => wpAny (model X.prog X.w) X.A (setFlight e none) (fun _ s₃ =>
    wpAny (model X.prog X.w) X.A (handleBy e X.env [.ExceptHandler (some (.Name x np)) (some n) [.Assign [.Name y p1] (.Name n p2) p3] pos']) (SP X pins D) X.xe s₃) X.xe s₂) X.xe s₁) (fun u s' xx => ?_) PassesOwn.looking).run [] s σ H D (I.toTry _) h
  · refine wpAny_mono run (fun f s1 hsp => ?_) fun _ _ z => z
    cases f with
    | next => obtain ⟨σ', H', J, q⟩ := hsp; exact wpAny_execs_nil ⟨σ', H', J.ofTry ok, q⟩
    | brk => obtain ⟨σ', H', J, q⟩ := hsp; exact ⟨σ', H', J.ofTry ok, q⟩
    | cont => obtain ⟨σ', H', J, q⟩ := hsp; exact ⟨σ', H', J.ofTry ok, q⟩
    | ret u => obtain ⟨v, σ', H', J, r, q⟩ := hsp; exact ⟨v, σ', H', J.ofTry ok, r, q⟩
  obtain ⟨a, B, sI, pins', σ', H', cls, d, rfl, JT, nb, up, sky, na, os, ag, hyes, hnx⟩ := xx
  have J : Inv X pins σ' H' sI := JT.ofTry ok
  rw [hs] at sky
  refine Sky.land Zc.steady frames hf sky fun h3 fl3 up3 => ?_
  have up13 := up.trans up3
  have J3 : Inv X pins σ' H' { s' with heap := h3 } := J.landed nb fl3.1 up13 os ag
  obtain ⟨oe3, vs3, he3, hz3, hd3⟩ := fl3.there
  have noframe : a ∉ frs (X.env :: X.outer) := fun hm => by
    obtain ⟨_, o', e', hnf⟩ := fl3.2.2.1.mem hm
    rw [he3] at e'
    cases e'
    exact hnf _ hd3
  have nL : a ≠ X.env.locals := fun z => noframe (List.mem_filterMap.mpr ⟨X.env, List.mem_cons_self, by rw [hf, z]⟩)
  have nF : a ∉ X.fs := fun hm => by
    obtain ⟨e, he, q⟩ := List.mem_filterMap.mp hm
    exact noframe (List.mem_filterMap.mpr ⟨e, List.mem_cons_of_mem _ he, q⟩)
  have noI : sI.heap.get? a = none := by
    cases e : sI.heap.get? a with
    | none => rfl
    | some o =>
      have z := nb a o e (by rw [hs]; exact noframe)
      rw [fl3.2.1] at z
      cases z
  have no0 : X.s_0.heap.get? a = none := by
    cases e : X.s_0.heap.get? a with
    | none => rfl
    | some o =>
      obtain ⟨o', z⟩ := J.base.there a o e (by rw [hex]; exact fun z => nomatch z)
      rw [noI] at z
      cases z
  have noP : ∀ p ∈ X.pn ++ pins, p.1 ≠ a := fun p hp z => by
    have q := (J.pin p hp).1
    rw [z, noI] at q
    cases q
  have S3 := J3.suite he3 hd3 na nL nF
  refine wpAny_handleBy_cons (codeAny_handlers_test ?_) (by intro q; cases q)
  have LT : PySem.W.Looks (model X.prog X.w) h3 (typeOf (.ref a)) cls := fun A Q E s k q => wpAny_typeOf_ref (k _ _ he3) (by rw [hz3.1]; exact q)
  have LM := PySem.W.exm_one (M := model X.prog X.w) (J3.kIn) LT hyes
  have test : ∀ {Q : Value → Shared → Prop} {E : Value → Shared → Prop}, Q c { s' with heap := h3 } → wpAny (model X.prog X.w) (X.A.mark (some (.ref a))) (eval (.Name x np) X.env) Q E { s' with heap := h3 } := fun {Q E} q => by
    obtain ⟨hg, hdbg, hm | ⟨hm, hv, hnn⟩⟩ := hc
    · exact ld_glob (X := X.suite a ((a, oe3) :: (X.pn ++ pins))) S3 hg hm q hdbg
    · exact ld_blt (X := X.suite a ((a, oe3) :: (X.pn ++ pins))) S3 hg hm hv q hnn hdbg
  refine test (LM.here ?_)
  refine codeAny_handlers_suite_as ?_
  refine HandSPX.lands_againZ fl3 fun h4 fl4 up4 => ?_
  obtain ⟨oe4, vs4, he4, hz4, hd4⟩ := fl4.there
  have S4 := (J.landed (s' := { s' with heap := h4 }) nb fl4.1 (up13.trans up4) os ag).suite he4 hd4 na nL nF
  have hil : i < σ'.length := by rw [J.len]; exact (List.getElem?_eq_some_iff.mp hi).1
  refine store_ok (X := X.suite a ((a, oe4) :: (X.pn ++ pins))) (v := .ref a) S4 hN hi (.inl hln) rfl (fun s5 S5 => ?_) (.inr hln)
  have suite : PSs (X.suite a ((a, oe4) :: (X.pn ++ pins))) [.Assign [.Name y p1] (.Name n p2) p3] _ := pss_one (ps_set (X := X.suite a ((a, oe4) :: (X.pn ++ pins))) hN hj (.inl hly) (pe_var (X := X.suite a ((a, oe4) :: (X.pn ++ pins))) hi (.inl hln) hdn hcn) hsw (.inr hly))
  refine wpAny_mono (suite.run [] s5 _ H' { nx := fun σ6 H6 => σ6 = (σ'.set i (some (.ref a))).set j (some (.ref a)) ∧ H6 = H', rt := fun _ _ => False } S5 ⟨.ref a, by rw [List.getElem?_set_self hil], rfl, rfl⟩) (fun f s6 hsp => ?_) (fun _ _ z => z.elim)
  cases f with
  | next =>
    obtain ⟨σ6, H6, S6, e6, eH⟩ := hsp
    subst e6
    subst eH
    have hpin := (S6.pin (a, oe4) (List.mem_append_left _ List.mem_cons_self)).1
    have J6 := S6.unsuite ok
    have nC : ∀ x c, X.env.cells.lookup x = some c → c ≠ a := fun x c e z => by
      obtain ⟨v, o, ho, hdc⟩ := J6.cell x c e
      rw [z, hpin] at ho
      cases ho
      rw [hd4] at hdc
      cases hdc
    have J7 := inv_track J6 no0 na (errO_ok (d := d) (cls := cls) hpin hz4 hd4) nL nC noP
    exact gone_ok J7 hN hi hln fun s8 J8 => ⟨_, _, J8, hnx a na⟩
  | brk => obtain ⟨_, _, _, q⟩ := hsp; exact q.elim
  | cont => obtain ⟨_, _, _, q⟩ := hsp; exact q.elim
  | ret u => obtain ⟨_, _, _, _, _, q⟩ := hsp; exact q.elim
/-- what the written part says of a class of errors: how isinstance and fields are asked -/
structure ErrIs (K : PySem.W.Frag) (C : Addr) : Prop where
  ga : PySem.W.findIn K (.ref C) "__getattribute__" = some (some (.builtin "BaseException.__getattribute__"))
  gg : PySem.W.findIn K (.ref C) "__getattr__" = some none
  exC : PySem.W.subIn K (.ref C) (.type "BaseException") = some true
  hdC : PySem.W.hasDictIn K C = true
  ha : PySem.W.findIn K (.ref C) "__class__" = some (some (.builtin "object.__class__"))
  hn : PySem.W.specialIn K (.builtin "object.__class__") "__get__" = some (some (.builtin "getset_descriptor.__get__"))
  ht : PySem.W.takesIn K (.builtin "object.__class__") = some true
  hm : PySem.W.mroIn K C (.type "object") = some true
/-- isinstance(e, c), e a kept error whose own dict stands -/
def rIsV (K : PySem.W.Frag) : List V → Hp → VK → Prop := fun xs H Q => ∃ (a C dd : Addr) (fs : List (Str × V)) (c : V) (u : Value) (b : Bool), xs = [.ref a, c] ∧ H a = some (ErrO (.ref C) (some dd) a) ∧ H dd = some (.xd fs) ∧ ErrIs K C ∧ ClsV c u ∧ PySem.W.kitOne K (.ref C) u = some b ∧ Q (.bl b) H
theorem err_inst {a C dd : Addr} {fs : List (Str × V)} (I : Inv X pins σ H s) (he : H a = some (ErrO (.ref C) (some dd) a)) (hd : H dd = some (.xd fs)) : ∃ (oe od : Obj) (mA : Str → Option Value), PySem.W.InstAt s.heap a oe C (some od) ∧ (∀ f, PySem.W.lookIn f od = some (mA f)) ∧ ∀ f, RelO (fs.lookup f) (mA f) := by
  obtain ⟨oe, vs, hoe, hz, hdat⟩ := errO_at I.hok he
  have hx : ObjOk X.prog X.w H s.heap dd (.xd fs) := I.hok dd _ hd
  obtain ⟨mA, hns, hr⟩ := hx
  obtain ⟨od, ho, hl⟩ := lookIn_ns hns
  exact ⟨oe, od, mA, ⟨hoe, hz.1, by unfold PySem.W.notCls; rw [hdat] <;> rfl, by rw [hz.2]; exact ho⟩, hl, hr⟩
theorem call_isV : CallR X (.builtin "isinstance") (rIsV X.K) := by
  intro pins s σ H xs us Q I r h
  obtain ⟨a, C, dd, fs, c, u, b, rfl, he, hd, T, k, e, q⟩ := h
  obtain ⟨u1, u2, rfl, r1, r2⟩ := vals2 r
  have e2 := k.eq r2
  subst e2
  cases (show u1 = Value.ref a from r1)
  obtain ⟨oe, od, mA, J, _, _⟩ := err_inst I he hd
  obtain ⟨cd, hcd, _⟩ := PySem.W.any_some T.hdC
  exact PySem.W.kia_one (PySem.W.kitx_exc (od := some od) (by rw [hcd]; rfl) T.ga T.gg T.exC T.ha T.hn T.ht T.hm) I.kIn J e (fun z => nomatch z) fun tk => ⟨.bl b, H, I.tok tk, rfl, q⟩
/-- e.f, e a kept error -/
def tFldE (K : PySem.W.Frag) (f : Str) (te : TE) : TE := fun σ H Q => te σ H fun x H1 => ∃ (a C dd : Addr) (fs : List (Str × V)) (v : V), x = .ref a ∧ H1 a = some (ErrO (.ref C) (some dd) a) ∧ H1 dd = some (.xd fs) ∧ ErrIs K C ∧ PySem.W.findIn K (.ref C) f = some none ∧ fs.lookup f = some v ∧ Q v H1
theorem pe_fldE {e : Expr} {te : TE} {f : Str} {pos : Pos} (he : PE X e te) (hb : attributeBase e f X.env (eval e X.env) = eval e X.env := by rfl) : PE X (.Attribute e f pos) (tFldE X.K f te) := by
  refine ⟨fun pins s σ H Q I h => ?_⟩
  refine attr_of hb (thn (he.run pins s σ H _ I h) fun u s1 hh => ?_)
  obtain ⟨x, H1, I1, rx, a, C, dd, fs, v, ex, ha, hd, T, hno, hl, q⟩ := hh
  subst ex
  obtain rfl : u = Value.ref a := rx
  obtain ⟨oe, od, mA, J, hlk, hr⟩ := err_inst I1 ha hd
  obtain ⟨w', hw, rw'⟩ := RelO.some_of (v := v) (o := mA f) (by rw [← hl]; exact hr f)
  exact HandSPX.exc_get I1.kIn J T.ga T.gg T.exC (PySem.W.findObj_own T.hdC hno rfl (by rw [hlk, hw])) (handed_of rw') ⟨v, H1, I1.tok _, rw', q⟩
end
/-! ### keywords alone -/
section
variable {X : Cx} {CX : CXT} {k : Nat} {f : Addr} {fd : FuncData} {ps ks : List Str} {sp : Sp} {E : XK} {x : Str} {p pos : Pos} {kws : List Keyword} {tk : TA} {g : List Value → List Value → List Value} {gV : List V → List V → List V}
theorem pe_callK0 (F : FnOk X.prog X.w X.K X.mg X.base CX k f fd ps sp) (hr : Room k X.A) (hg : Gl X x) (hm : X.mg x = some (.ref f)) (hk : PySem.W.keepIn X.K (.ref f) = true) (hb : KBinds X.K fd ps ks g gV) (hx : Passes CX X E)
    (hkw : PK X kws tk) (hall : (backToKw pos (keywordEach kws X.env)).all (·.1.isSome) = true := by rfl) (hks : (backToKw pos (keywordEach kws X.env)).filterMap (·.1) = ks := by rfl)
    (hdb : (x == ("__debug__" : Str)) = false := by decide) (hpl : ((backTo pos (starEach [] X.env)).any (·.1) || (backToKw pos (keywordEach kws X.env)).any (·.1.isNone)) = false := by rfl) :
    PE X (.Call (.Name x p) [] kws pos) (tCallK sp gV E tNil tk) := by
  refine ⟨fun pins s σ H Q I h => ?_⟩
  refine wpAny_Call_Name_kw (ld_glob I hg hm ?_ hdb)
  refine PySem.W.callWith_KW0 (h₀ := X.base) I.ok.mod.kin hk hall (thn (hkw.run pos pins s σ H _ I h) fun ws s2 ⟨zs, H2, I2, rz, q2⟩ => ⟨I2.kIn, ?_⟩) hpl
  rw [hks]
  exact run_fnk F hr hb hx I2 .nil rz q2
end
end K26
end K26RulesC

section K26RulesD
set_option Elab.async false
set_option linter.all false
set_option maxRecDepth 100000
set_option maxHeartbeats 2000000
/-! K26RulesD: a lambda with a default (a written int) or none, handed to a def that calls it. -/
namespace K26L
open PySem PySem.Spec PyProof.Rows L2 LamX

abbrev lamFn (qual : Str) (params : Arguments) (body : Expr) (scope : Scope) (cl : List (Str × Addr)) (dV pm cdv ct : Value) : FuncData :=
  { PySem.W.kla_fn "<lambda>" qual params body scope cl pm cdv ct with defaults := dV }
abbrev lamObj (qual : Str) (params : Arguments) (body : Expr) (scope : Scope) (cl : List (Str × Addr)) (dV pm : Value) (c' : Addr) (ctv : Value) : Obj :=
  { cls := .type "function", data := .func (lamFn qual params body scope cl dV pm (.ref c') ctv) }
/-- the end of its making, whether its code object is found or new -/
theorem make_rest {M : Model} {A : Around} {E : Value → Shared → Prop} {s : Shared} {qual : Str} {params : Arguments} {body : Expr} {scope : Scope} {env : Env} {c P : Addr} {ps : Array Value} {pos : Pos} {mg : Str → Option Value} {clos : List (Str × Addr)} {dV : Value} {Q : Value → Shared → Prop}
    (hcl : closureFor scope env = pure clos) (hge : env.globals = mainGlobals) (hg : s.heap.Ns mainGlobals mg) (hcode : env.code = .ref c) (C : PySem.W.CodeHd s.heap c P) (hP : s.heap.get? P = some { cls := .none, data := .fields ps }) (ht : TriplesOk ps.toList) (hgP : mainGlobals ≠ P) (hb : s.heap.BuiltinsAt mg P)
    (found : ∀ (cv ctv : Value) (h' : Heap) (tk : Nat), codeAmong pos ps.toList = some cv → (∀ b o, s.heap.get? b = some o → h'.get? b = some o) → s.heap.objs.size ≤ h'.objs.size →
      Q (.ref h'.objs.size) { s with heap := h'.push { cls := .type "function", data := .func (lamFn qual params body scope clos dV ((mg "__name__").getD .none) cv ctv) }, toks := tk })
    (made : ∀ (c' : Addr) (ctv : Value) (h' : Heap) (tk : Nat), codeAmong pos ps.toList = none → Heap.ExtBut P s.heap h' → s.heap.objs.size ≤ c' → c' < h'.objs.size → h'.CodeRec (.ref c') qual → h'.get? P = some { cls := .none, data := .fields (ps ++ #[rawInt pos.line, rawInt pos.col, .ref c']) } →
      Q (.ref h'.objs.size) { s with heap := h'.push (lamObj qual params body scope clos dV ((mg "__name__").getD .none) c' ctv), toks := tk }) :
    wpAny M A (makeTail "<lambda>" qual params (.expr body) scope env dV .none none pos pos.line) Q E s := by
  obtain ⟨bm, ob, hbm, hne0, _, hneP, hbo, hcls, hdict, hdata⟩ := hb
  have rest : ∀ (ctv : Value) (h1 : Heap), (∀ b o, s.heap.get? b = some o → h1.get? b = some o) → s.heap.objs.size ≤ h1.objs.size →
      wpAny M A (do
        let code ← functionCode env pos pos.line "<lambda>" qual params scope (.expr body)
        let bl ← builtinsFor mainGlobals env.builtins
        let pm ← nsGet mainGlobals "__name__"
        newObj (.type "function") (.func { lamFn qual params body scope clos dV (pm.getD .none) code ctv with builtins := bl })) Q E { s with heap := h1 } := by
    intro ctv h1 k1 z1
    have C1 := C.keeps k1
    have P1 := k1 _ _ hP
    cases hc : codeAmong pos ps.toList with
    | some cv =>
      refine wpAny_bind (wpAny_functionCode_hit hcode (C1.code P1 ht) hc ?_)
      refine wpAny_bind (wpAny_builtinsFor (hg.keeps k1) hbm hne0 (k1 _ _ hbo) hcls hdict hdata ?_)
      refine wpAny_bind (wpAny_nsGet (hg.keeps k1) ?_)
      exact wpAny_newObj_type (found cv ctv h1 s.toks hc k1 z1) (by size_fits)
    | none =>
      refine wpAny_bind (wpAny_functionCodeX hcode (C1.code P1 ht) (C1.tab P1) hc fun c' h2 tk hx hge' hlt _ hrec htb _ => ?_)
      have hg2 := (hg.keeps k1).extBut hx hgP
      refine wpAny_bind (wpAny_builtinsFor hg2 hbm hne0 (hx _ _ hneP (k1 _ _ hbo)) hcls hdict hdata ?_)
      refine wpAny_bind (wpAny_nsGet hg2 ?_)
      exact wpAny_newObj_type (made c' ctv h2 tk hc (fun b o hb' e => hx b o hb' (k1 b o e)) (Nat.le_trans z1 hge') hlt hrec htb.2) (by size_fits)
  unfold makeTail
  rw [hcl, hge]
  refine wpAny_bind (wpAny_pure ?_)
  cases clos with
  | nil =>
    simp only [List.isEmpty_nil, if_true]
    exact wpAny_bind (wpAny_pure (by simpa using rest .none s.heap (fun _ _ e => e) (Nat.le_refl _)))
  | cons q r =>
    simp only [List.isEmpty_cons, Bool.false_eq_true, if_false]
    exact wpAny_bind (wpAny_newTextTuple (by simpa using rest _ (s.heap.push _) (fun b o e => Heap.get?_push_of_some _ e) (by rw [Heap.size_push]; exact Nat.le_succ _)))

/-- what the default is kept as: none, or a tuple of one value at D -/
def DefAt (X : Cx) (H : Hp) (h : Heap) (dV : Value) (one : Bool) : Prop := (one = false ∧ dV = .none) ∨ (one = true ∧ ∃ (D : Addr) (u : Value), dV = .ref D ∧ h.get? D = some { cls := .type "tuple", data := .seq [u].toArray } ∧ H D = none ∧ D ∉ frs X.stack)
section
variable {X : Cx} {pins : List (Addr × Obj)} {σ : L2.St} {H : Hp} {s : Shared}
theorem out_frames (I : Inv X pins σ H s) {f : Addr} (hf : s.heap.objs.size ≤ f) : f ∉ frs X.stack := fun z => by
  rcases List.mem_cons.mp (I.stkSub _ z) with e | e
  · rw [e] at hf
    exact Nat.lt_irrefl _ (Nat.lt_of_lt_of_le I.lt hf)
  · exact I.nofs hf e
/-- the function object is laid: dV stands already -/
theorem lam_tail {T : List (Addr × Str)} {c P : Addr} {params : Arguments} {body : Expr} {scope : Scope} {pos : Pos} {dV : Value} {one : Bool} {E : Value → Shared → Prop} {Q : Value → Shared → Prop} (I : Inv X pins σ H s) (TB : TabB X.base X.mg c P) (hcode : X.env.code = .ref c)
    (hm : (P, X.env.qual ++ "<lambda>") ∈ T) (hu : ∀ p ∈ T, p.1 = P → p.2 = X.env.qual ++ "<lambda>") (hT : Tabs T H) (hfree : ∀ y ∈ scope.names, y.2 = .free → ∃ c, X.env.cells.lookup y.1 = some c) (hD : DefAt X H s.heap dV one)
    (h : ∀ (f c' : Addr) (pm ctv : Value) (H1 : Hp) (s' : Shared), Inv X pins σ H1 s' → ExtN H H1 → Tabs T H1 → s'.heap.get? f = some (lamObj (X.env.qual ++ "<lambda>") params body scope (cloFrom X.env.cells scope.names []) dV pm c' ctv) →
      H1 f = none → f ∉ frs X.stack → H1 c' = some (CodeO c' (X.env.qual ++ "<lambda>")) → DefAt X H1 s'.heap dV one → Q (.ref f) s') :
    wpAny (model X.prog X.w) X.A (makeTail "<lambda>" (X.env.qual ++ "<lambda>") params (.expr body) scope X.env dV .none none pos pos.line) Q E s := by
  obtain ⟨ps, hP, ht, ha⟩ := hT _ hm
  have hP' : s.heap.get? P = some { cls := .none, data := .fields ps } := I.hok P _ hP
  have dne : ∀ {D : Addr} {u : Value}, s.heap.get? D = some { cls := .type "tuple", data := .seq [u].toArray } → D ≠ P := fun {D u} e z => by
    rw [z, hP'] at e
    cases e
  refine make_rest (mg := X.mg) (c := c) (P := P) (ps := ps) (closure_ok hfree) I.ok.glob (I.mod.glob.keeps I.bk) hcode (TB.code.keeps I.bk) hP' ht TB.gP (TB.bm.keeps I.bk) (fun cv ctv h' tk hc k z => ?_) fun c' ctv h' tk hc hx hge hlt hrec htb => ?_
  · obtain ⟨c', e, hco⟩ := ha pos cv hc
    subst e
    have k2 : ∀ b o, s.heap.get? b = some o → (h'.push (lamObj (X.env.qual ++ "<lambda>") params body scope (cloFrom X.env.cells scope.names []) dV ((X.mg "__name__").getD .none) c' ctv)).get? b = some o := fun b o e => Heap.get?_push_of_some _ (k b o e)
    refine h h'.objs.size c' ((X.mg "__name__").getD .none) ctv H _ (I.kept k2) (ExtN.refl H) hT (Heap.get?_push_size _ rfl) (I.hok.fresh z) (out_frames I z) hco ?_
    rcases hD with hD | ⟨e1, D, u, e2, e3, e4, e5⟩
    · exact .inl hD
    · exact .inr ⟨e1, D, u, e2, k2 _ _ e3, e4, e5⟩
  · obtain ⟨c2, oc, vs, t, e2, hoc, hd, hv⟩ := hrec
    cases e2
    have hsz : s.heap.objs.size ≤ h'.objs.size := Nat.le_trans hge (Nat.le_of_lt hlt)
    have nC : H c' = none := I.hok.fresh hge
    have I1 := inv_table (t' := tk) (more := #[rawInt pos.line, rawInt pos.col, .ref c']) (q := X.env.qual ++ "<lambda>") (h' := h'.push (lamObj (X.env.qual ++ "<lambda>") params body scope (cloFrom X.env.cells scope.names []) dV ((X.mg "__name__").getD .none) c' ctv)) I hP
      (fun b o hb e => Heap.get?_push_of_some _ (hx b o hb e)) (Heap.get?_push_of_some _ htb) hge ⟨oc, vs, t, Heap.get?_push_of_some _ hoc, hd, hv⟩
    have hE : ExtN H (upd (upd H P (.tbl (ps ++ #[rawInt pos.line, rawInt pos.col, .ref c']))) c' (CodeO c' (X.env.qual ++ "<lambda>"))) := fun b o e n => by
      rw [upd_ne (ne_of_none e nC), upd_ne fun z => n ps (by rw [z, hP] at e; exact (Option.some.inj e).symm)]
      exact e
    have fresh : ∀ {b : Addr}, H b = none → b ≠ P → b ≠ c' → upd (upd H P (.tbl (ps ++ #[rawInt pos.line, rawInt pos.col, .ref c']))) c' (CodeO c' (X.env.qual ++ "<lambda>")) b = none := fun {b} n h1 h2 => by rw [upd_ne h2, upd_ne h1]; exact n
    have eL : (ps ++ #[rawInt pos.line, rawInt pos.col, .ref c']).toList = ps.toList ++ [rawInt pos.line, rawInt pos.col, .ref c'] := by simp
    refine h h'.objs.size c' ((X.mg "__name__").getD .none) ctv _ _ I1 hE (fun p hp => ?_) (Heap.get?_push_size _ rfl) (fresh (I.hok.fresh hsz) (Nat.ne_of_gt (Nat.lt_of_lt_of_le (Heap.lt_size hP') hsz)) (Nat.ne_of_gt hlt)) (out_frames I hsz) upd_same ?_
    · by_cases hb : p.1 = P
      · rw [hu p hp hb, hb]
        refine ⟨_, by rw [upd_ne (ne_of_none hP nC), upd_same], by rw [eL]; exact PySem.TriplesOk_snoc _ _ _ _ ht, fun p' cv hcv => ?_⟩
        rw [eL] at hcv
        rcases among_app _ ht hcv with z | z
        · obtain ⟨c0, e1, e2⟩ := ha p' cv z
          exact ⟨c0, e1, hE _ _ e2 codeO_ne⟩
        · exact ⟨c', z, upd_same⟩
      · obtain ⟨ps', a1, a2, a3⟩ := hT p hp
        refine ⟨ps', by rw [upd_ne (ne_of_none a1 nC), upd_ne hb]; exact a1, a2, fun p' cv hcv => ?_⟩
        obtain ⟨c0, e1, e2⟩ := a3 p' cv hcv
        exact ⟨c0, e1, hE _ _ e2 codeO_ne⟩
    · rcases hD with hD | ⟨e1, D, u, e2, e3, e4, e5⟩
      · exact .inl hD
      · have hDc : D ≠ c' := Nat.ne_of_lt (Nat.lt_of_lt_of_le (Heap.lt_size e3) hge)
        exact .inr ⟨e1, D, u, e2, Heap.get?_push_of_some _ (hx _ _ (dne e3) e3), fresh e4 (dne e3) hDc, e5⟩
/-- the lambda expression -/
theorem lam_eval {T : List (Addr × Str)} {c P : Addr} {params : Arguments} {body : Expr} {scope : Scope} {pos : Pos} {one : Bool} {E : Value → Shared → Prop} {Q : Value → Shared → Prop} (I : Inv X pins σ H s) (TB : TabB X.base X.mg c P) (hcode : X.env.code = .ref c)
    (hm : (P, X.env.qual ++ "<lambda>") ∈ T) (hu : ∀ p ∈ T, p.1 = P → p.2 = X.env.qual ++ "<lambda>") (hT : Tabs T H) (hkw : params.kwonlyargs = []) (hdef : (one = false ∧ defaultsOf params X.env = ([], [])) ∨ (one = true ∧ ∃ z j p, defaultsOf params X.env = ([eval (.Constant (.int z) j p) X.env], [])))
    (hfree : ∀ y ∈ scope.names, y.2 = .free → ∃ c, X.env.cells.lookup y.1 = some c)
    (h : ∀ (f c' : Addr) (dV pm ctv : Value) (H1 : Hp) (s' : Shared), Inv X pins σ H1 s' → ExtN H H1 → Tabs T H1 → s'.heap.get? f = some (lamObj (X.env.qual ++ "<lambda>") params body scope (cloFrom X.env.cells scope.names []) dV pm c' ctv) →
      H1 f = none → f ∉ frs X.stack → H1 c' = some (CodeO c' (X.env.qual ++ "<lambda>")) → DefAt X H1 s'.heap dV one → Q (.ref f) s') :
    wpAny (model X.prog X.w) X.A (eval (.Lambda params body scope pos) X.env) Q E s := by
  rcases hdef with ⟨e1, hdef⟩ | ⟨e1, z, j, p, hdef⟩
  · rw [arm_eval_Lambda, hdef]
    show wpAny _ _ (do let dv ← evalAll []; let kdv ← holding dv (evalAllOpt []); makeFunction "<lambda>" (X.env.qual ++ "<lambda>") params (.expr body) scope X.env dv kdv [] pos pos.line) Q E s
    refine wpAny_bind (wpAny_pure (wpAny_bind (wpAny_holding (wpAny_pure ?_))))
    rw [makeFunction_eq]
    simp only [List.zip_nil_right, List.filterMap_nil, List.isEmpty_nil, if_true, pure_bind]
    exact lam_tail I TB hcode hm hu hT hfree (.inl ⟨e1, rfl⟩) fun f c' pm ctv H1 s' => h f c' .none pm ctv H1 s'
  · rw [arm_eval_Lambda, hdef]
    show wpAny _ _ (do let dv ← evalAll [eval (.Constant (.int z) j p) X.env]; let kdv ← holding dv (evalAllOpt []); makeFunction "<lambda>" (X.env.qual ++ "<lambda>") params (.expr body) scope X.env dv kdv [] pos pos.line) Q E s
    refine wpAny_bind (wpAny_evalAll_cons (wpAny_Constant_int (wpAny_evalAll_nil ?_)))
    refine wpAny_bind (wpAny_holding (wpAny_pure ?_))
    rw [makeFunction_eq]
    simp only [List.zip_nil_right, List.filterMap_nil, List.isEmpty_nil, List.isEmpty_cons, Bool.false_eq_true, if_false, if_true, pure_bind]
    refine wpAny_bind (wpAny_newTextTuple ?_)
    have I0 := I.tok (s.toks + 1)
    have I1 := I0.kept (t' := s.toks + 1) (h' := s.heap.push { cls := .type "tuple", data := .seq [Value.int z s.toks].toArray }) fun b o e => Heap.get?_push_of_some _ e
    exact lam_tail I1 TB hcode hm hu hT hfree (.inr ⟨e1, s.heap.objs.size, _, rfl, Heap.get?_push_size _ rfl, I.hok.fresh (Nat.le_refl _), out_frames I (Nat.le_refl _)⟩) fun f c' pm ctv H1 s' => h f c' _ pm ctv H1 s'
end
/-! ### its names: parameters (with defaults), captured ones, globals -/
structure LamD (N : List Str) (sc scope : Scope) (ps : List Str) : Prop where
  kind : scope.kind = .function
  co : scope.isCoroutine = false
  gen : scope.isGenerator = false
  nocell : ∀ y ∈ scope.names, y.2 ≠ .cell
  free : ∀ y ∈ scope.names, y.2 = .free → sc.names.lookup y.1 = some .cell ∨ sc.names.lookup y.1 = some .free
  par : ∀ x ∈ ps, scope.names.lookup x = some .local
  noN : ∀ x ∈ N, scope.names.lookup x ≠ some .local
def lamDB (N : List Str) (sc scope : Scope) (ps : List Str) : Bool :=
  decide (scope.kind = .function) && !scope.isCoroutine && !scope.isGenerator && scope.names.all (fun y => !decide (y.2 = .cell) && (!decide (y.2 = .free) || decide (sc.names.lookup y.1 = some .cell) || decide (sc.names.lookup y.1 = some .free))) &&
    ps.all (fun x => decide (scope.names.lookup x = some .local)) && N.all fun x => !decide (scope.names.lookup x = some .local)
theorem lamD_by {N : List Str} {sc scope : Scope} {ps : List Str} (h : lamDB N sc scope ps = true) : LamD N sc scope ps := by
  unfold lamDB at h
  simp only [Bool.and_eq_true, Bool.or_eq_true, Bool.not_eq_true', decide_eq_true_eq, decide_eq_false_iff_not, List.all_eq_true] at h
  obtain ⟨⟨⟨⟨⟨h1, h2⟩, h3⟩, h4⟩, h5⟩, h6⟩ := h
  refine ⟨h1, h2, h3, fun y hy => (h4 y hy).1, fun y hy e => ?_, h5, h6⟩
  rcases (h4 y hy).2 with (z | z) | z
  · exact absurd e z
  · exact .inl z
  · exact .inr z
section
variable {X : Cx} {pins : List (Addr × Obj)} {σ : L2.St} {H HZ : Hp} {s s1 : Shared} {ps : List Str}
theorem LamD.has {scope : Scope} (L : LamD X.N X.env.scope scope ps) (ok : X.Ok) : ∀ y ∈ scope.names, y.2 = .free → ∃ c, X.env.cells.lookup y.1 = some c := fun y hy e => by
  rcases L.free y hy e with k | k
  · exact ok.has _ (.inl k)
  · exact ok.has _ (.inr k)
/-- the state at the entry of the lambda's body: the maker's slots are read through the captured cells -/
theorem lamD_start {A : Around} {outer : List Env} {E : XK} {scope : Scope} {f c' : Addr} {h₁ : Heap} {tk : Nat} {m : Str → Option Value} (I : Inv X pins σ H s) (L : LamD X.N X.env.scope scope ps) (e0 : Env0 X.prog X.w X.K X.mg X.base A outer s1 HZ) (hd : A.handled = none)
    (un : Un (frs X.stack) [] H HZ s.heap s1.heap) (hns : h₁.Ns s1.heap.objs.size m) (kp : ∀ b o, s1.heap.get? b = some o → h₁.get? b = some o) : Inv (lamCx X A outer s1 HZ E scope f c') [] σ HZ { s1 with heap := h₁, toks := tk } := by
  have hfree := L.has I.ok
  have back : ∀ {y c}, (cloFrom X.env.cells scope.names []).lookup y = some c → X.env.cells.lookup y = some c := fun {y c} e => by
    rcases cloFrom_mem (PySem.mem_of_lookup e) with hm | ⟨h1, h2⟩
    · cases hm
    · obtain ⟨c1, hc⟩ := hfree _ h1 rfl
      dsimp only at hc h2
      rw [hc] at h2
      rw [hc, h2]
      rfl
  have there : ∀ {y}, scope.names.lookup y = some .free → ∃ c, (cloFrom X.env.cells scope.names []).lookup y = some c := fun {y} hl =>
    mem_lookup (cloFrom_has (cells := X.env.cells) (acc := []) (show (y, NameKind.free) ∈ scope.names from PySem.mem_of_lookup hl))
  have cellK : ∀ {c : Addr} {v : Option Value}, H c = none → s.heap.IsCell c v → h₁.IsCell c v := fun {c v} n ⟨o, ho, hdt⟩ => by
    obtain ⟨sl, q⟩ := un.any ho n (by simp)
    exact ⟨_, kp _ _ q, hdt⟩
  have noA : ∀ b : Addr, b ∉ (lamCx X A outer s1 HZ E scope f c').ex := fun b z => absurd (show b ∈ ([] : List Addr) from z) (by simp)
  have ok' : (lamCx X A outer s1 HZ E scope f c').Ok := by
    refine ⟨e0.mod, L.kind, rfl, rfl, Nat.le_refl _, fun y z c e1 e2 => I.ok.inj y z c (back e1) (back e2), fun y hy => ?_, fun y c z _ => ?_, fun _ => hd, Around.frames_deeper e0.frames, .inr ⟨rfl, rfl⟩, fun b z => absurd z (noA b), e0.bs, e0.bsz, fun b _ _ => noA b, fun b z => absurd z (noA b), e0.funs, e0.frf⟩
    · rcases hy with hy | hy
      · exact absurd rfl (L.nocell (y, .cell) (PySem.mem_of_lookup hy))
      · exact there hy
    · exact absurd (show false = true from z) (by decide)
  refine ⟨ok', rfl, e0.bare, Un.kept kp, ⟨_, hns, fun i y v e1 e2 e3 => ?_⟩, fun y c e => ?_, e0.hok.fresh (Nat.le_refl _), fun y c e => ?_, fun q hq => absurd (show q ∈ ([] : List (Addr × Obj)) ++ [] from hq) (by simp), e0.hok.kept kp, I.len⟩
  · have e3 : Vis scope y := e3
    rcases e3 with k | k | k
    · exact absurd k (L.noN y (List.mem_of_getElem? e1))
    · exact absurd rfl (L.nocell (y, .cell) (PySem.mem_of_lookup k))
    · obtain ⟨m0, _, hl⟩ := I.loc
      have hfr := L.free (y, .free) (PySem.mem_of_lookup k) rfl
      obtain ⟨w', r, q⟩ := hl i y v e1 e2 (hfr.elim (fun k => .inr (.inl k)) fun k => .inr (.inr k))
      obtain ⟨c2, h2⟩ := there k
      have c1 := back h2
      refine ⟨w', r, .inr ⟨.inr k, c2, h2, ?_⟩⟩
      rcases q with ⟨k', _⟩ | ⟨_, c3, e', z⟩
      · have k' : X.env.scope.names.lookup y = some .local := k'
        rcases hfr with k2 | k2 <;> (dsimp only at k2; rw [k2] at k'; cases k')
      · rw [c1] at e'
        cases e'
        exact cellK (I.freeC y _ c1) z
  · obtain ⟨w', z⟩ := I.cell y c (back e)
    exact ⟨w', cellK (I.freeC y c (back e)) z⟩
  · obtain ⟨v, o, ho, _⟩ := I.cell y c (back e)
    exact un.free c o ho (I.freeC y c (back e)) (by simp)
/-- how the lambda's parameters are bound by a call without arguments -/
def BindD (params : Arguments) (body : Expr) (scope : Scope) (ps : List Str) (one : Bool) : Prop :=
  ∀ (s : Shared) (q : Str) (cl : List (Str × Addr)) (dV pm cv ctv : Value), ((one = false ∧ dV = .none) ∨ (one = true ∧ ∃ (D : Addr) (u : Value), dV = .ref D ∧ s.heap.get? D = some { cls := .type "tuple", data := .seq [u].toArray })) →
    ∃ us : List Value, us.length = ps.length ∧ BindsTo s (lamFn q params body scope cl dV pm cv ctv) ⟨[], []⟩ (ps.zip us)
/-- a() in the def that got the lambda -/
theorem pe_actD {CXg : CXT} {Eg : XK} {Ng : List Str} {qg : Str} {sg : Scope} {g f c' : Addr} {cdg dV pm ctv : Value} {params : Arguments} {body : Expr} {scope : Scope} {one : Bool} {k i : Nat} {a : Str} {pn : List (Addr × Obj)} {xe : Value → Shared → Prop} {W : WX} {E : XK} {tb : TE} {p1 p2 : Pos}
    (I : Inv X pins σ H s) (L : LamD X.N X.env.scope scope ps) (hf : s.heap.get? f = some (lamObj (X.env.qual ++ "<lambda>") params body scope (cloFrom X.env.cells scope.names []) dV pm c' ctv)) (hfn : H f = none) (hfr : f ∉ frs X.stack) (hD : DefAt X H s.heap dV one)
    (hbind : BindD params body scope ps one) (tk : Takes ((cxOf CXg X.prog X.w X.K X.mg X.base Ng qg sg g cdg X.A X.stack s H Eg).tr pn xe) W) (hW : ∀ cls d σ' H', E cls d H' → W cls d σ' H') (hr : Room (k + 1) (X.A.deeper (envOfC qg sg s.heap.objs.size g cdg)))
    (hbody : ∀ (A : Around) (outer : List Env) (s : Shared) (H : Hp), Room k (A.deeper (lamEnv X scope s.heap.objs.size f c')) → PE (lamCx X A outer s H E scope f c') body tb)
    (hN : Ng[i]? = some a) (hv : Vis sg a) (hd : (a == ("__debug__" : Str)) = false := by decide) (hcd : (a == ("__classdict__" : Str)) = false := by decide) :
    PE ((cxOf CXg X.prog X.w X.K X.mg X.base Ng qg sg g cdg X.A X.stack s H Eg).tr pn xe) (.Call (.Name a p1) [] [] p2) (fun σZ HZ Q => σZ[i]? = some (some (.ref f)) ∧ HZ c' = some (CodeO c' (X.env.qual ++ "<lambda>")) ∧ tb σ HZ Q) := by
  refine ⟨fun pinsZ sZ σZ HZ Q IZ h => ?_⟩
  obtain ⟨hs, hc, ht⟩ := h
  refine wpAny_Call_Name_kw (thn ((pe_var (pos := p1) (i := i) hN hv hd hcd).run pinsZ sZ σZ HZ (fun v H1 => v = .ref f ∧ H1 = HZ) IZ ⟨.ref f, hs, rfl, rfl⟩) fun u s1 ⟨v, H1, I1, r1, ev, eH⟩ => ?_)
  subst ev
  rw [eH] at I1
  obtain rfl : u = Value.ref f := r1
  have stays : ∀ {b : Addr} {o : Obj}, s.heap.get? b = some o → H b = none → b ∉ frs X.stack → s1.heap.get? b = some o := fun {b o} e n nf => I1.base.keep b o e n nf (fun z => nomatch (show b ∈ ([] : List Addr) from z))
  have of1 := stays hf hfn hfr
  refine PySem.W.callWith_F0 ⟨_, _, _, _, of1⟩ ?_
  obtain ⟨⟨oc, vs, t, hoc, hdc, hvc⟩, _, _⟩ := I1.hok c' _ hc
  obtain ⟨us, hlen, hbt⟩ := hbind s1 (X.env.qual ++ "<lambda>") (cloFrom X.env.cells scope.names []) dV pm (.ref c') ctv (by
    rcases hD with hD | ⟨e1, D, u, e2, e3, e4, e5⟩
    · exact .inl hD
    · exact .inr ⟨e1, D, u, e2, stays e3 e4 e5⟩)
  have rc : codeAny (model X.prog X.w) (X.A.deeper (envOfC qg sg s.heap.objs.size g cdg)) (.call (.ref f) ⟨[], []⟩) (CR (L2.CX X.prog X.w) (envOfC qg sg s.heap.objs.size g cdg :: X.stack) X.prog X.w HZ s1 Q E) s1 := by
    refine PySem.W.kla_callFunE hr.depth of1 rfl L.co L.gen rfl ⟨c', oc, vs, t, rfl, hoc, hdc, hvc⟩ ?_
    refine hbt _ _ _ _ ?_
    refine wpAny_newFunctionEnv (fun y hy => L.nocell y hy) (fun y hy => L.par y.1 (List.of_mem_zip hy).1) (fun h₁ hns hsb => ⟨I1.nolimit.fresh _ hsb, ?_⟩) L.kind
    show codeAny _ _ (.expr body (lamEnv X scope s1.heap.objs.size f c')) _ _
    have kp : ∀ b o, s1.heap.get? b = some o → h₁.get? b = some o := fun b o e => hsb.extBut b o (Nat.ne_of_lt (Heap.lt_size e)) (Heap.get?_push_of_some _ e)
    have J : Inv (lamCx X (X.A.deeper (envOfC qg sg s.heap.objs.size g cdg)) (envOfC qg sg s.heap.objs.size g cdg :: X.stack) s1 HZ E scope f c') [] σ HZ { s1 with heap := h₁, toks := s1.toks + (ps.zip us).length } := lamD_start I L I1.env0 hr.hd I1.base hns kp
    refine PySem.W.kla_codeExpr (wpAny_mono ((hbody _ _ s1 HZ (hr.deeper _)).run [] _ _ HZ Q J ht) (fun v s' ⟨w', H', J', rv, q⟩ => ?_) fun e s' hq => hq)
    exact ⟨w', H', J'.os, J'.bare, J'.base, J'.hok, rv, q⟩
  have hx : Passes (L2.CX X.prog X.w) ((cxOf CXg X.prog X.w X.K X.mg X.base Ng qg sg g cdg X.A X.stack s H Eg).tr pn xe) E := passes_call tk hW
  refine wpAny_call (codeAny_mono rc fun r s' hq => ?_)
  match r, hq with
  | .error e, hq => exact hx pinsZ σZ HZ s1 e s' I1 hq
  | .ok (.ret u), hq => exact I1.after hq
  | .ok .next, hq => exact False.elim hq
  | .ok .brk, hq => exact False.elim hq
  | .ok .cont, hq => exact False.elim hq
end
section
variable {X : Cx}
/-- x(lambda ..: body), x a def of the module that calls what it gets -/
theorem pe_lamcallD {T : List (Addr × Str)} {TT : (XK → Hp → VK → Prop) → Hp → VK → Prop} {x a : Str} {g c P : Addr} {k : Nat} {pg : Arguments} {bg : List Stmt} {sg : Scope} {dVg kV doc pm cdv ct oc : Value} {an od : Option Addr} {osl : Array (Option Value)} {Ng : List Str}
    {params : Arguments} {body : Expr} {scope : Scope} {one : Bool} {ps : List Str} {t : XK → TE} {p lpos pos : Pos} (hg : Gl X x) (hm : X.mg x = some (.ref g)) (hk : PySem.W.keepIn X.K (.ref g) = true)
    (lk : X.K.lookup g = some ⟨oc, od, .func (PySem.W.fnOf x x pg bg sg dVg kV doc pm an cdv ct), osl⟩) (hcg : PySem.W.codeIn X.K cdv x = true) (hb : L2.Binds X.K (PySem.W.fnOf x x pg bg sg dVg kV doc pm an cdv ct) [a] []) (Sg : FnScope Ng [a] sg) (hNg : Ng[0]? = some a) (hva : Vis sg a)
    (hG : GivesTo X Ng x sg g cdv bg a (X.env.qual ++ "<lambda>") TT) (TB : TabB X.base X.mg c P) (hcode : X.env.code = .ref c) (hmT : (P, X.env.qual ++ "<lambda>") ∈ T) (hu : ∀ p ∈ T, p.1 = P → p.2 = X.env.qual ++ "<lambda>") (hr : Room (k + 2) X.A)
    (L : LamD X.N X.env.scope scope ps) (hkw : params.kwonlyargs = []) (hdef : (one = false ∧ defaultsOf params X.env = ([], [])) ∨ (one = true ∧ ∃ z j p, defaultsOf params X.env = ([eval (.Constant (.int z) j p) X.env], []))) (hbind : BindD params body scope ps one)
    (hbody : ∀ (A : Around) (outer : List Env) (s : Shared) (H : Hp) (E : XK) (f c' : Addr), Room k (A.deeper (lamEnv X scope s.heap.objs.size f c')) → PE (lamCx X A outer s H E scope f c') body (t E))
    (hdb : (x == ("__debug__" : Str)) = false := by decide) (hd : (a == ("__debug__" : Str)) = false := by decide) (hcd : (a == ("__classdict__" : Str)) = false := by decide) :
    PE X (.Call (.Name x p) [.Lambda params body scope lpos] [] pos) (tLam T TT t) := by
  refine ⟨fun pins s σ H Q I h => ?_⟩
  obtain ⟨hT, h⟩ := h
  refine wpAny_Call_Name_kw (ld_glob I hg hm ?_ hdb)
  refine PySem.W.callWith_K (h₀ := X.base) I.ok.mod.kin hk ?_ (by rfl) (by rfl)
  refine Calls.spliced_cons ?_
  show wpAny _ _ (eval (.Lambda params body scope lpos) X.env) _ _ s
  refine lam_eval I TB hcode hmT hu hT hkw hdef (L.has I.ok) fun f c' dV pm' ctv H1 s' I1 eN T1 hf hfn hfr hco hD => ?_
  refine Calls.spliced_nil ⟨I1.kIn, ?_⟩
  have rc : codeAny (model X.prog X.w) X.A (.call (.ref g) ⟨[.ref f], []⟩) (CR C8.CX0 X.stack X.prog X.w H1 s' Q C8.E0) s' := by
    refine run_ofS (N := Ng) (ps := [a]) (us := [.ref f]) (vs := [.ref f]) lk hcg Sg hr I1.env0 (hb s' [.ref f] I1.kIn rfl) (.cons rfl .nil) rfl fun hr' => ?_
    obtain ⟨t', ht', hq'⟩ := hG f c' s' H1 Q (fun E H' Q' => t E σ H' Q') (fun W pn xe E p1 p2 tk hW => pe_actD (i := 0) I1 L hf hfn hfr hD hbind tk hW hr' (fun A outer s H hr2 => hbody A outer s H E f c' hr2) hNg hva hd hcd) hco (h H1 eN T1)
    exact ⟨t', ht'.nox, hq'⟩
  refine wpAny_call (codeAny_mono rc fun r s2 hq => ?_)
  match r, hq with
  | .error e, hq => exact (show False from hq).elim
  | .ok (.ret u), hq => exact I1.after hq
  | .ok .next, hq => exact False.elim hq
  | .ok .brk, hq => exact False.elim hq
  | .ok .cont, hq => exact False.elim hq
end
end K26L
end K26RulesD

section K26RulesE
set_option Elab.async false
set_option linter.all false
set_option maxRecDepth 100000
set_option maxHeartbeats 2000000
/-! K26RulesE: a, b, c = e where e is a list or a tuple. -/
namespace K26
open PySem PySem.Spec PyProof.Rows L2
section
variable {prog : Program} {w : World} {A : Around} {E : Value → Shared → Prop} {s : Shared}
theorem draw_list {it t : Addr} {items : Array Value} (hne : t ≠ it) : ∀ (n i : Nat) (s : Shared) (Q : List Value → Shared → Prop), s.heap.IsListIter it t i → s.heap.IsList t items → i + n ≤ items.size →
    (∀ h', h'.IsListIter it t (i + n) → Heap.SameBut it s.heap h' → Q ((items.toList.drop i).take n) { s with heap := h' }) → wpAny (model prog w) A (draw (.ref it) n) Q E s
  | 0, i, s, Q, hit, _, _, hQ => by
    show wpAny _ _ (pure []) Q E s
    exact wpAny_pure (by simpa using hQ s.heap hit (Heap.SameBut.refl ..))
  | n + 1, i, s, Q, hit, ht, hle, hQ => by
    have hlt : i < items.size := by omega
    show wpAny _ _ (pyNext (.ref it) >>= _) Q E s
    refine wpAny_bind (wpAny_pyNext_list_item hit ht (x := items[i]) (by simp [hlt]) fun h₁ hit₁ hs₁ => ?_)
    have ht1 : h₁.IsList t items := by
      obtain ⟨o, ho, r⟩ := ht
      exact ⟨o, hs₁.extBut _ _ hne ho, r⟩
    refine wpAny_bind (wpAny_holding (draw_list hne n (i + 1) _ _ hit₁ ht1 (by omega) fun h₂ hit₂ hs₂ => wpAny_pure ?_))
    have hd : items.toList.drop i = items[i] :: items.toList.drop (i + 1) := by simp [List.drop_eq_getElem_cons, hlt]
    have := hQ h₂ (by rw [show i + (n + 1) = i + 1 + n by omega]; exact hit₂) (hs₁.trans hs₂)
    rw [hd, List.take_succ_cons] at this
    exact this
theorem unpackItems_list {t : Addr} {items : Array Value} {Q : List Value → Shared → Prop} (hh : A.handled = none) (ht : s.heap.IsList t items)
    (hQ : ∀ h', Heap.ExtBut s.heap.objs.size s.heap h' → Q items.toList { s with heap := h' }) : wpAny (model prog w) A (unpackItems (.ref t) items.size none) Q E s := by
  have hlt : t ≠ s.heap.objs.size := by obtain ⟨o, ho, _⟩ := ht; exact Nat.ne_of_lt (Heap.lt_size ho)
  have stay : ∀ h : Heap, (∀ b o, b ≠ s.heap.objs.size → s.heap.get? b = some o → h.get? b = some o) → h.IsList t items := fun h k => by
    obtain ⟨o, ho, r⟩ := ht
    exact ⟨o, k _ _ hlt ho, r⟩
  unfold unpackItems
  refine wpAny_bind ?_
  · unfold notIterableAtAll
    refine wpAny_bind (wpAny_specialOf ht.typeIs slot_list_iter.lookup ?_)
    refine wpAny_pure ?_
    simp only [Bool.false_eq_true, if_false]
    refine wpAny_bind (wpAny_holding (wpAny_pyIter_list ht ?_))
    refine wpAny_bind (wpAny_holding (draw_list hlt items.size 0 _ _ ⟨_, Heap.get?_push_size _ rfl, rfl, rfl⟩ (stay _ fun b o _ e => Heap.get?_push_of_some _ e) (by omega) fun h₁ hit₁ hs₁ => ?_))
    have hall : List.take items.size (List.drop 0 items.toList) = items.toList := by
      rw [List.drop_zero]; exact List.take_of_length_le (by simp)
    rw [hall]
    rw [if_neg (by simp)]
    have ht₁ : h₁.IsList t items := stay _ fun b o hb e => hs₁.extBut b o hb (Heap.get?_push_of_some _ e)
    refine wpAny_bind (wpAny_holding (wpAny_pyNext_list_end hh hit₁ ht₁ (by simp) fun h₂ he₂ => ?_))
    simp only [Option.isSome_none, Bool.false_eq_true, if_false]
    refine wpAny_pure (hQ h₂ fun b o hb e => he₂ b o hb (hs₁.extBut b o hb (Heap.get?_push_of_some _ e)))
theorem unpack_list {t : Addr} {items : Array Value} {targets : List (Bool × (Value → Sem Unit))} {Q : Unit → Shared → Prop} (hh : A.handled = none) (ht : s.heap.IsList t items)
    (hn : targets.length = items.size) (hstar : targets.findIdx? (·.1) = none)
    (h : ∀ h', Heap.ExtBut s.heap.objs.size s.heap h' → wpAny (model prog w) A (assignInOrder (targets.map (·.2)) items.toList) Q E { s with heap := h' }) :
    wpAny (model prog w) A (unpack (.ref t) targets) Q E s := by
  unfold unpack
  rw [hn, hstar]
  exact wpAny_bind (wpAny_holding (unpackItems_list hh ht h))
theorem assign_Tuple_list {env : Env} {elts : List Expr} {x1} {pos : Pos} {t : Addr} {items : Array Value} {Q : Unit → Shared → Prop} (hh : A.handled = none) (ht : s.heap.IsList t items)
    (hn : (assignEach elts env).length = items.size) (hstar : (assignEach elts env).findIdx? (·.1) = none)
    (h : ∀ h', Heap.ExtBut s.heap.objs.size s.heap h' → wpAny (model prog w) A (assignInOrder ((assignEach elts env).map (·.2)) items.toList) Q E { s with heap := h' }) :
    wpAny (model prog w) A (assign (.Tuple elts x1 pos) env (.ref t)) Q E s := by
  rw [PyProof.Rows.assign_Tuple]
  exact wpAny_bind (wpAny_standAt (unpack_list hh ht hn hstar h))
end
section
variable {X : Cx}
def gAny (K : PySem.W.Frag) (n : Nat) (t : TGs) : TG := fun v σ H Q => ∃ a xs, v = .ref a ∧ SqA K H a xs ∧ xs.length = n ∧ t xs σ H Q
theorem pg_any {es : List Expr} {k : Nat} {t : TGs} {n : Nat} {pos : Pos} (hc : X.calm = true) (h : PGs X es t)
    (hn : (assignEach es X.env).length = n := by rfl) (hst : (assignEach es X.env).findIdx? (·.1) = none := by rfl) : PG X (.Tuple es k pos) (gAny X.K n t) := by
  refine ⟨fun pins s σ H v u Q I r hw => ?_⟩
  obtain ⟨a, xs, e1, hq, hl, hw⟩ := hw
  rcases hq with hq | hq
  · subst e1
    cases r
    obtain ⟨its, rv, pl, hz⟩ := I.list hq
    refine assign_Tuple_list (I.ok.hd hc) pl.isList (by simp [hn, ← hl, rv.length]) hst fun h' hx => ?_
    have I1 : Inv X pins σ H { s with heap := h' } := I.kept (t' := s.toks) fun b o e => hx b o (Nat.ne_of_lt (Heap.lt_size e)) e
    exact h.run pins _ σ H xs _ Q I1 (by simpa using rv) hw
  · exact (pg_tup hc h hn hst).run pins s σ H v u Q I r ⟨a, xs, e1, hq, hl, hw⟩
end
end K26
end K26RulesE

section K26RulesF
set_option Elab.async false
set_option linter.all false
set_option maxRecDepth 100000
set_option maxHeartbeats 2000000
/-! K26RulesF: a lambda handed to a def: what it may raise is wished at the slots as they stand. -/
namespace K26L
open PySem PySem.Spec PyProof.Rows L2 LamX
/-- the def that calls what it got: a calls it; TT: what it makes of the lambda's reading -/
def GivesToS (X : Cx) (Ng : List Str) (x : Str) (sg : Scope) (g : Addr) (cdg : Value) (bg : List Stmt) (a : Str) (q : Str) (TT : (XK → Hp → VK → Prop) → Hp → VK → Prop) : Prop :=
  ∀ (f c' : Addr) (s : Shared) (H : Hp) (Q : VK) (tl : XK → Hp → VK → Prop),
    (∀ (W : WX) (pn : List (Addr × Obj)) (xe : Value → Shared → Prop) (p1 p2 : Pos), Takes ((cxOf C8.CX0 X.prog X.w X.K X.mg X.base Ng x sg g cdg X.A X.stack s H C8.E0).tr pn xe) W →
      PE ((cxOf C8.CX0 X.prog X.w X.K X.mg X.base Ng x sg g cdg X.A X.stack s H C8.E0).tr pn xe) (.Call (.Name a p1) [] [] p2) (fun σZ HZ Q => σZ[0]? = some (some (.ref f)) ∧ HZ c' = some (CodeO c' q) ∧ tl (WE W σZ) HZ Q)) →
    H c' = some (CodeO c' q) → TT tl H Q →
    ∃ t, PSs (cxOf C8.CX0 X.prog X.w X.K X.mg X.base Ng x sg g cdg X.A X.stack s H C8.E0).nox bg t ∧ t { nx := fun _ H' => Q .non H', rt := Q } (L2.start Ng [.ref f]) H
section
variable {X : Cx} {pins : List (Addr × Obj)} {σ : L2.St} {H HZ : Hp} {s s1 : Shared} {ps : List Str}
/-- a() in the def that got the lambda -/
theorem pe_actS {CXg : CXT} {Eg : XK} {Ng : List Str} {qg : Str} {sg : Scope} {g f c' : Addr} {cdg dV pm ctv : Value} {params : Arguments} {body : Expr} {scope : Scope} {one : Bool} {k i : Nat} {a : Str} {pn : List (Addr × Obj)} {xe : Value → Shared → Prop} {W : WX} {tb : XK → TE} {p1 p2 : Pos}
    (I : Inv X pins σ H s) (L : LamD X.N X.env.scope scope ps) (hf : s.heap.get? f = some (lamObj (X.env.qual ++ "<lambda>") params body scope (cloFrom X.env.cells scope.names []) dV pm c' ctv)) (hfn : H f = none) (hfr : f ∉ frs X.stack) (hD : DefAt X H s.heap dV one)
    (hbind : BindD params body scope ps one) (tk : Takes ((cxOf CXg X.prog X.w X.K X.mg X.base Ng qg sg g cdg X.A X.stack s H Eg).tr pn xe) W) (hr : Room (k + 1) (X.A.deeper (envOfC qg sg s.heap.objs.size g cdg)))
    (hbody : ∀ (A : Around) (outer : List Env) (s : Shared) (H : Hp) (E : XK), Room k (A.deeper (lamEnv X scope s.heap.objs.size f c')) → PE (lamCx X A outer s H E scope f c') body (tb E))
    (hN : Ng[i]? = some a) (hv : Vis sg a) (hd : (a == ("__debug__" : Str)) = false := by decide) (hcd : (a == ("__classdict__" : Str)) = false := by decide) :
    PE ((cxOf CXg X.prog X.w X.K X.mg X.base Ng qg sg g cdg X.A X.stack s H Eg).tr pn xe) (.Call (.Name a p1) [] [] p2) (fun σZ HZ Q => σZ[i]? = some (some (.ref f)) ∧ HZ c' = some (CodeO c' (X.env.qual ++ "<lambda>")) ∧ tb (WE W σZ) σ HZ Q) := by
  refine ⟨fun pinsZ sZ σZ HZ Q IZ h => ?_⟩
  obtain ⟨hs, hc, ht⟩ := h
  refine wpAny_Call_Name_kw (thn ((pe_var (pos := p1) (i := i) hN hv hd hcd).run pinsZ sZ σZ HZ (fun v H1 => v = .ref f ∧ H1 = HZ) IZ ⟨.ref f, hs, rfl, rfl⟩) fun u s1 ⟨v, H1, I1, r1, ev, eH⟩ => ?_)
  subst ev
  rw [eH] at I1
  obtain rfl : u = Value.ref f := r1
  have stays : ∀ {b : Addr} {o : Obj}, s.heap.get? b = some o → H b = none → b ∉ frs X.stack → s1.heap.get? b = some o := fun {b o} e n nf => I1.base.keep b o e n nf (fun z => nomatch (show b ∈ ([] : List Addr) from z))
  have of1 := stays hf hfn hfr
  refine PySem.W.callWith_F0 ⟨_, _, _, _, of1⟩ ?_
  obtain ⟨⟨oc, vs, t, hoc, hdc, hvc⟩, _, _⟩ := I1.hok c' _ hc
  obtain ⟨us, hlen, hbt⟩ := hbind s1 (X.env.qual ++ "<lambda>") (cloFrom X.env.cells scope.names []) dV pm (.ref c') ctv (by
    rcases hD with hD | ⟨e1, D, u, e2, e3, e4, e5⟩
    · exact .inl hD
    · exact .inr ⟨e1, D, u, e2, stays e3 e4 e5⟩)
  have rc : codeAny (model X.prog X.w) (X.A.deeper (envOfC qg sg s.heap.objs.size g cdg)) (.call (.ref f) ⟨[], []⟩) (CR (L2.CX X.prog X.w) (envOfC qg sg s.heap.objs.size g cdg :: X.stack) X.prog X.w HZ s1 Q (WE W σZ)) s1 := by
    refine PySem.W.kla_callFunE hr.depth of1 rfl L.co L.gen rfl ⟨c', oc, vs, t, rfl, hoc, hdc, hvc⟩ ?_
    refine hbt _ _ _ _ ?_
    refine wpAny_newFunctionEnv (fun y hy => L.nocell y hy) (fun y hy => L.par y.1 (List.of_mem_zip hy).1) (fun h₁ hns hsb => ⟨I1.nolimit.fresh _ hsb, ?_⟩) L.kind
    show codeAny _ _ (.expr body (lamEnv X scope s1.heap.objs.size f c')) _ _
    have kp : ∀ b o, s1.heap.get? b = some o → h₁.get? b = some o := fun b o e => hsb.extBut b o (Nat.ne_of_lt (Heap.lt_size e)) (Heap.get?_push_of_some _ e)
    have J : Inv (lamCx X (X.A.deeper (envOfC qg sg s.heap.objs.size g cdg)) (envOfC qg sg s.heap.objs.size g cdg :: X.stack) s1 HZ (WE W σZ) scope f c') [] σ HZ { s1 with heap := h₁, toks := s1.toks + (ps.zip us).length } := lamD_start I L I1.env0 hr.hd I1.base hns kp
    refine PySem.W.kla_codeExpr (wpAny_mono ((hbody _ _ s1 HZ _ (hr.deeper _)).run [] _ _ HZ Q J ht) (fun v s' ⟨w', H', J', rv, q⟩ => ?_) fun e s' hq => hq)
    exact ⟨w', H', J'.os, J'.bare, J'.base, J'.hok, rv, q⟩
  have hx : PassesAt (L2.CX X.prog X.w) ((cxOf CXg X.prog X.w X.K X.mg X.base Ng qg sg g cdg X.A X.stack s H Eg).tr pn xe) σZ (WE W σZ) := passAt tk σZ
  refine wpAny_call (codeAny_mono rc fun r s' hq => ?_)
  match r, hq with
  | .error e, hq => exact hx pinsZ HZ s1 e s' I1 hq
  | .ok (.ret u), hq => exact I1.after hq
  | .ok .next, hq => exact False.elim hq
  | .ok .brk, hq => exact False.elim hq
  | .ok .cont, hq => exact False.elim hq
end
section
variable {X : Cx}
/-- x(lambda ..: body), x a def of the module that calls what it gets -/
theorem pe_lamcallS {T : List (Addr × Str)} {TT : (XK → Hp → VK → Prop) → Hp → VK → Prop} {x a : Str} {g c P : Addr} {k : Nat} {pg : Arguments} {bg : List Stmt} {sg : Scope} {dVg kV doc pm cdv ct oc : Value} {an od : Option Addr} {osl : Array (Option Value)} {Ng : List Str}
    {params : Arguments} {body : Expr} {scope : Scope} {one : Bool} {ps : List Str} {t : XK → TE} {p lpos pos : Pos} (hg : Gl X x) (hm : X.mg x = some (.ref g)) (hk : PySem.W.keepIn X.K (.ref g) = true)
    (lk : X.K.lookup g = some ⟨oc, od, .func (PySem.W.fnOf x x pg bg sg dVg kV doc pm an cdv ct), osl⟩) (hcg : PySem.W.codeIn X.K cdv x = true) (hb : L2.Binds X.K (PySem.W.fnOf x x pg bg sg dVg kV doc pm an cdv ct) [a] []) (Sg : FnScope Ng [a] sg) (hNg : Ng[0]? = some a) (hva : Vis sg a)
    (hG : GivesToS X Ng x sg g cdv bg a (X.env.qual ++ "<lambda>") TT) (TB : TabB X.base X.mg c P) (hcode : X.env.code = .ref c) (hmT : (P, X.env.qual ++ "<lambda>") ∈ T) (hu : ∀ p ∈ T, p.1 = P → p.2 = X.env.qual ++ "<lambda>") (hr : Room (k + 2) X.A)
    (L : LamD X.N X.env.scope scope ps) (hkw : params.kwonlyargs = []) (hdef : (one = false ∧ defaultsOf params X.env = ([], [])) ∨ (one = true ∧ ∃ z j p, defaultsOf params X.env = ([eval (.Constant (.int z) j p) X.env], []))) (hbind : BindD params body scope ps one)
    (hbody : ∀ (A : Around) (outer : List Env) (s : Shared) (H : Hp) (E : XK) (f c' : Addr), Room k (A.deeper (lamEnv X scope s.heap.objs.size f c')) → PE (lamCx X A outer s H E scope f c') body (t E))
    (hdb : (x == ("__debug__" : Str)) = false := by decide) (hd : (a == ("__debug__" : Str)) = false := by decide) (hcd : (a == ("__classdict__" : Str)) = false := by decide) :
    PE X (.Call (.Name x p) [.Lambda params body scope lpos] [] pos) (tLam T TT t) := by
  refine ⟨fun pins s σ H Q I h => ?_⟩
  obtain ⟨hT, h⟩ := h
  refine wpAny_Call_Name_kw (ld_glob I hg hm ?_ hdb)
  refine PySem.W.callWith_K (h₀ := X.base) I.ok.mod.kin hk ?_ (by rfl) (by rfl)
  refine Calls.spliced_cons ?_
  show wpAny _ _ (eval (.Lambda params body scope lpos) X.env) _ _ s
  refine lam_eval I TB hcode hmT hu hT hkw hdef (L.has I.ok) fun f c' dV pm' ctv H1 s' I1 eN T1 hf hfn hfr hco hD => ?_
  refine Calls.spliced_nil ⟨I1.kIn, ?_⟩
  have rc : codeAny (model X.prog X.w) X.A (.call (.ref g) ⟨[.ref f], []⟩) (CR C8.CX0 X.stack X.prog X.w H1 s' Q C8.E0) s' := by
    refine run_ofS (N := Ng) (ps := [a]) (us := [.ref f]) (vs := [.ref f]) lk hcg Sg hr I1.env0 (hb s' [.ref f] I1.kIn rfl) (.cons rfl .nil) rfl fun hr' => ?_
    obtain ⟨t', ht', hq'⟩ := hG f c' s' H1 Q (fun E H' Q' => t E σ H' Q') (fun W pn xe p1 p2 tk => pe_actS (i := 0) (tb := t) I1 L hf hfn hfr hD hbind tk hr' (fun A outer s H E hr2 => hbody A outer s H E f c' hr2) hNg hva hd hcd) hco (h H1 eN T1)
    exact ⟨t', ht'.nox, hq'⟩
  refine wpAny_call (codeAny_mono rc fun r s2 hq => ?_)
  match r, hq with
  | .error e, hq => exact (show False from hq).elim
  | .ok (.ret u), hq => exact I1.after hq
  | .ok .next, hq => exact False.elim hq
  | .ok .brk, hq => exact False.elim hq
  | .ok .cont, hq => exact False.elim hq
end
end K26L
end K26RulesF

section K26W0
set_option Elab.async false
set_option linter.all false
set_option maxRecDepth 100000
set_option maxHeartbeats 2000000
/-! K26W0: general helps for the walks: loops over a list or a tuple, comprehensions that only add to the heap, defs by their names. -/
namespace K26
open PySem PySem.Spec PyProof.Rows L2
/-! ### heaps -/
theorem same_new {H : Hp} {p : Addr} {o : HO} (h : H p = none) : Same H (upd H p o) := fun b x e => by
  rw [upd_ne (ne_of_none e h)]
  exact e
/-- tuples stay -/
def TupS (K : PySem.W.Frag) (H H' : Hp) : Prop := ∀ a xs, SqT K H a xs → SqT K H' a xs
theorem TupS.refl (K : PySem.W.Frag) (H : Hp) : TupS K H H := fun _ _ h => h
theorem TupS.trans {K : PySem.W.Frag} {H H1 H2 : Hp} (a : TupS K H H1) (b : TupS K H1 H2) : TupS K H H2 := fun c x h => b c x (a c x h)
theorem Same.tups {K : PySem.W.Frag} {H H' : Hp} (e : Same H H') : TupS K H H' := fun _ _ h => sqt_same e h
/-- what is no tuple is written -/
theorem tups_put {K : PySem.W.Frag} {H : Hp} {p : Addr} {o o' : HO} (h : H p = some o) (h1 : ∀ xs, o ≠ .tup xs) (h2 : ∀ ob xs, o ≠ .frz ob (.tup xs)) : TupS K H (upd H p o') := fun a xs e => by
  have ne : ∀ {q}, H a = some q → q ≠ o → a ≠ p := fun {q} e n z => by rw [z, h] at e; exact n (Option.some.inj e).symm
  rcases e with (e | ⟨ob, e⟩) | e
  · exact .inl (.inl ((upd_ne (ne e fun z => h1 _ z.symm)).trans e))
  · exact .inl (.inr ⟨ob, (upd_ne (ne e fun z => h2 _ _ z.symm)).trans e⟩)
  · exact .inr e
theorem tups_lst {K : PySem.W.Frag} {H : Hp} {p : Addr} {xs : List V} {o' : HO} (h : H p = some (.lst xs)) : TupS K H (upd H p o') :=
  tups_put h (fun _ z => by cases z) (fun _ _ z => by cases z)
/-- all but what stands at f -/
def SameX (f : Addr) (H H' : Hp) : Prop := ∀ b o, b ≠ f → H b = some o → H' b = some o
theorem SameX.refl (f : Addr) (H : Hp) : SameX f H H := fun _ _ _ h => h
theorem SameX.trans {f : Addr} {H H1 H2 : Hp} (a : SameX f H H1) (b : SameX f H1 H2) : SameX f H H2 := fun c o n h => b c o n (a c o n h)
theorem Same.x {f : Addr} {H H' : Hp} (e : Same H H') : SameX f H H' := fun b o _ h => e b o h
theorem samex_put {f : Addr} {H : Hp} {o : HO} : SameX f H (upd H f o) := fun b x n h => by rw [upd_ne n]; exact h
theorem SameX.tups {K : PySem.W.Frag} {f : Addr} {H H' : Hp} {xs : List V} (e : SameX f H H') (h : H f = some (.lst xs)) : TupS K H H' := fun a ys q => by
  rcases q with (q | ⟨ob, q⟩) | q
  · exact .inl (.inl (e _ _ (ne_of q h (by intro z; cases z)) q))
  · exact .inl (.inr ⟨ob, e _ _ (ne_of q h (by intro z; cases z)) q⟩)
  · exact .inr q
theorem SameX.seq {K : PySem.W.Frag} {f a : Addr} {H H' : Hp} {xs : List V} (e : SameX f H H') (h : SqL K H a xs) (n : a ≠ f) : SqL K H' a xs := by
  rcases h with (h | ⟨o, h⟩) | h
  · exact .inl (.inl (e _ _ n h))
  · exact .inl (.inr ⟨o, e _ _ n h⟩)
  · exact .inr h

/-! ### what a loop walks -/
structure Walk (J : It) (xs : List V) (Ok : Hp → Prop) : Prop where
  go : ∀ i H, Ok H → i < xs.length → J.go i H
  stop : ∀ i H, Ok H → xs.length ≤ i → J.stop i H
  yld : ∀ i H v H', Ok H → i < xs.length → J.yld i H v H' → H' = H ∧ xs[i]? = some v
theorem walk_list (K : PySem.W.Frag) (a : Addr) (xs : List V) : Walk (Itl K a) xs (fun H => SqL K H a xs) :=
  ⟨fun i H q h => ⟨xs, xs[i], q, by simp [h]⟩, fun i H q h => ⟨xs, q, h⟩, fun i H v H' q _ ⟨e, y⟩ => by subst e; exact ⟨rfl, y xs q⟩⟩
theorem walk_tup (K : PySem.W.Frag) (a : Addr) (xs : List V) : Walk (Itt K a) xs (fun H => SqT K H a xs) :=
  ⟨fun i H q h => ⟨xs, xs[i], q, by simp [h]⟩, fun i H q h => ⟨xs, q, h⟩, fun i H v H' q _ ⟨e, y⟩ => by subst e; exact ⟨rfl, y xs q⟩⟩
def rngV (lo : Int) (n : Nat) : List V := (List.range n).map fun (i : Nat) => .int (lo + i)
theorem rngV_length (lo : Int) (n : Nat) : (rngV lo n).length = n := by simp [rngV]
theorem rngV_get {lo : Int} {n i : Nat} {v : V} (h : (rngV lo n)[i]? = some v) : i < n ∧ v = .int (lo + i) := by
  have hi : i < n := by
    have := (List.getElem?_eq_some_iff.mp h).1
    rwa [rngV_length] at this
  refine ⟨hi, ?_⟩
  simp [rngV, hi] at h
  exact h.symm
theorem walk_range (lo : Int) (n : Nat) : Walk (Itr lo n) (rngV lo n) (fun _ => True) :=
  ⟨fun i H _ h => by rw [rngV_length] at h; exact h, fun i H _ h => by rw [rngV_length] at h; exact h, fun i H v H' _ hi ⟨e, y⟩ => by
    subst e y
    rw [rngV_length] at hi
    exact ⟨rfl, by simp [rngV, hi]⟩⟩
/-- a list or a tuple, walked -/
def iAny (K : PySem.W.Frag) (tl : TE) : TI := fun σ H R => tl σ H fun x H1 => ∃ a xs, x = .ref a ∧ SqA K H1 a xs ∧
  ∀ (J : It) (Ok : Hp → Prop), Walk J xs Ok → (∀ H', (SqL K H1 a xs → SqL K H' a xs) → (SqT K H1 a xs → SqT K H' a xs) → Ok H') → R J H1
section
variable {X : Cx} {tg : Expr}
theorem pi_any {l : Expr} {tl : TE} (hl : PE X l tl) : PI X tg l (iAny X.K tl) := by
  refine ⟨fun pins s σ H R I h => ?_⟩
  refine thn (hl.run pins s σ H _ I h) fun v s1 ⟨x, H1, I1, r1, q1⟩ => ?_
  obtain ⟨a, xs, e, hq, q⟩ := q1
  subst e
  cases r1
  rcases hq with hq | hq
  · obtain ⟨its, rv, p, hz⟩ := I1.list hq
    refine wpAny_pyIter_list p.isList ?_
    refine ⟨s1.heap.objs.size, [s1.heap.objs.size], _, _, H1, rfl, I1.kept (t' := s1.toks) fun b o e => Heap.get?_push_of_some _ e, turn_list a _, ⟨_, Heap.get?_push_size _ rfl, rfl, rfl⟩, fun b hb => ?_, q _ _ (walk_list X.K a xs) fun H' h1 _ => h1 hq⟩
    have e : b = s1.heap.objs.size := by simpa using hb
    subst e
    exact I1.fpOk (Nat.le_refl _) (I1.hok.fresh (Nat.le_refl _))
  · obtain ⟨its, rv, p, hz⟩ := I1.tuple hq
    refine wpAny_pyIter_tuple (show s1.heap.IsTuple a its.toArray from p) ?_
    refine ⟨s1.heap.objs.size, [s1.heap.objs.size], _, _, H1, rfl, I1.kept (t' := s1.toks) fun b o e => Heap.get?_push_of_some _ e, turn_tuple a _, ⟨_, Heap.get?_push_size _ rfl, rfl, rfl⟩, fun b hb => ?_, q _ _ (walk_tup X.K a xs) fun H' _ h2 => h2 hq⟩
    have e : b = s1.heap.objs.size := by simpa using hb
    subst e
    exact I1.fpOk (Nat.le_refl _) (I1.hok.fresh (Nat.le_refl _))
end
section
variable {J : It} {xs : List V} {Ok : Hp → Prop} {g : TG} {tt : TT} {te tk tv : TE} {vs : List Nat} {σ : L2.St} {H1 : Hp} {D : Addr} {Qd : Hp → Prop}
/-- a list comprehension over what is walked -/
theorem lcW (w : Walk J xs Ok) (Pv : Nat → Hp → Prop) (h0 : Pv 0 (upd H1 D (.lst []))) (hl : ∀ i H, i ≤ xs.length → Pv i H → Ok H)
    (hs : ∀ i x H, xs[i]? = some x → Pv i H → g x (wipe σ vs) H fun σ2 H2 => wipe σ2 vs = wipe σ vs ∧ tt σ2 H2 fun b H3 =>
      if b = true then te σ2 H3 fun y H4 => ∃ acc, H4 D = some (.lst acc) ∧ acc.length < sizeLine ∧ Pv (i + 1) (upd H4 D (.lst (acc ++ [y]))) else Pv (i + 1) H3) (hd : ∀ H, Pv xs.length H → Qd H) :
    ∃ W : Nat → Nat → Hp → Prop, (∃ m, W 0 m (upd H1 D (.lst []))) ∧ ∀ i m H, W i m H →
      (J.stop i H ∧ Qd H) ∨ (J.go i H ∧ ∃ Nx : Hp → Prop, (∀ H', Nx H' → ∃ m', m' < m ∧ W (i + 1) m' H') ∧ ∀ x H', J.yld i H x H' → g x (wipe σ vs) H' fun σ2 H2 => wipe σ2 vs = wipe σ vs ∧ tt σ2 H2 fun b H3 =>
        if b = true then te σ2 H3 fun y H4 => ∃ acc, H4 D = some (.lst acc) ∧ acc.length < sizeLine ∧ Nx (upd H4 D (.lst (acc ++ [y]))) else Nx H3) := by
  refine ⟨fun i m H => m = xs.length - i ∧ i ≤ xs.length ∧ Pv i H, ⟨xs.length, by simp, Nat.zero_le _, h0⟩, ?_⟩
  rintro i m H ⟨rfl, hi, p⟩
  have q := hl i H hi p
  by_cases hlt : i < xs.length
  · refine .inr ⟨w.go i H q hlt, Pv (i + 1), fun H' p' => ⟨xs.length - (i + 1), by omega, rfl, hlt, p'⟩, fun x H' y => ?_⟩
    obtain ⟨e, hx⟩ := w.yld i H x H' q hlt y
    subst e
    exact hs i x _ hx p
  · have e : i = xs.length := by omega
    subst e
    exact .inl ⟨w.stop _ H q (Nat.le_refl _), hd H p⟩
end
/-- .. that only adds to the heap: what stands behind i turns -/
def JPv (H1 : Hp) (D : Addr) (J1 : Nat → Hp → List V → Prop) (i : Nat) (H : Hp) : Prop := Same H1 H ∧ ∃ acc, H D = some (.lst acc) ∧ acc.length ≤ i ∧ J1 i H acc
section
variable {K : PySem.W.Frag} {H1 H H4 : Hp} {D : Addr} {J1 : Nat → Hp → List V → Prop} {i : Nat} {acc : List V} {y : V}
theorem JPv.start (hn : H1 D = none) (hmono : ∀ i H H' acc, J1 i H acc → TupS K H H' → J1 i H' acc) (h0 : J1 0 H1 []) : JPv H1 D J1 0 (upd H1 D (.lst [])) :=
  ⟨same_new hn, [], upd_same, Nat.le_refl _, hmono _ _ _ _ h0 (Same.tups (same_new hn))⟩
theorem JPv.put (hn : H1 D = none) (hmono : ∀ i H H' acc, J1 i H acc → TupS K H H' → J1 i H' acc) (S1 : Same H1 H) (e : H D = some (.lst acc)) (hl : acc.length ≤ i) (hz : i < sizeLine) (S : Same H H4) (j : J1 (i + 1) H4 (acc ++ [y])) :
    ∃ acc', H4 D = some (.lst acc') ∧ acc'.length < sizeLine ∧ JPv H1 D J1 (i + 1) (upd H4 D (.lst (acc' ++ [y]))) := by
  have e4 := S _ _ e
  refine ⟨acc, e4, Nat.lt_of_le_of_lt hl hz, fun b o hb => ?_, _, upd_same, by rw [List.length_append]; exact Nat.succ_le_succ hl, hmono _ _ _ _ j (tups_lst e4)⟩
  rw [upd_ne (ne_of_none hb hn)]
  exact S _ _ (S1 _ _ hb)
theorem JPv.skip (S1 : Same H1 H) (e : H D = some (.lst acc)) (hl : acc.length ≤ i) (S : Same H H4) (j : J1 (i + 1) H4 acc) : JPv H1 D J1 (i + 1) H4 :=
  ⟨S1.trans S, acc, S _ _ e, Nat.le_succ_of_le hl, j⟩
end
section
variable {J : It} {xs : List V} {Ok : Hp → Prop} {g : TG} {tt : TT} {te : TE} {vs : List Nat} {σ : L2.St} {H1 : Hp} {D : Addr} {Qd : Hp → Prop}
theorem lcJ {K : PySem.W.Frag} (w : Walk J xs Ok) (hok : ∀ H', (∀ a ys, SqL K H1 a ys → SqL K H' a ys) → (∀ a ys, SqT K H1 a ys → SqT K H' a ys) → Ok H') (J1 : Nat → Hp → List V → Prop) (hn : H1 D = none) (hz : xs.length ≤ sizeLine) (hmono : ∀ i H H' acc, J1 i H acc → TupS K H H' → J1 i H' acc) (h0 : J1 0 H1 [])
    (hs : ∀ i x H acc, xs[i]? = some x → i < sizeLine → Same H1 H → H D = some (.lst acc) → acc.length ≤ i → J1 i H acc → g x (wipe σ vs) H fun σ2 H2 => wipe σ2 vs = wipe σ vs ∧ tt σ2 H2 fun b H3 =>
      if b = true then te σ2 H3 fun y H4 => ∃ acc', H4 D = some (.lst acc') ∧ acc'.length < sizeLine ∧ JPv H1 D J1 (i + 1) (upd H4 D (.lst (acc' ++ [y]))) else JPv H1 D J1 (i + 1) H3)
    (hd : ∀ H acc, Same H1 H → H D = some (.lst acc) → J1 xs.length H acc → Qd H) :
    ∃ W : Nat → Nat → Hp → Prop, (∃ m, W 0 m (upd H1 D (.lst []))) ∧ ∀ i m H, W i m H →
      (J.stop i H ∧ Qd H) ∨ (J.go i H ∧ ∃ Nx : Hp → Prop, (∀ H', Nx H' → ∃ m', m' < m ∧ W (i + 1) m' H') ∧ ∀ x H', J.yld i H x H' → g x (wipe σ vs) H' fun σ2 H2 => wipe σ2 vs = wipe σ vs ∧ tt σ2 H2 fun b H3 =>
        if b = true then te σ2 H3 fun y H4 => ∃ acc, H4 D = some (.lst acc) ∧ acc.length < sizeLine ∧ Nx (upd H4 D (.lst (acc ++ [y]))) else Nx H3) :=
  lcW w (JPv H1 D J1) (.start hn hmono h0) (fun i H _ p => hok H (fun a ys q => p.1.seq q) (fun a ys q => sqt_same p.1 q)) (fun i x H hx p => by
    obtain ⟨S, acc, e, hl, j⟩ := p
    exact hs i x H acc hx (Nat.lt_of_lt_of_le (List.getElem?_eq_some_iff.mp hx).1 hz) S e hl j) fun H p => by
    obtain ⟨S, acc, e, hl, j⟩ := p
    exact hd H acc S e j
/-- a for loop over what is walked -/
theorem forW {tb : TS} {De : Ends} {H : Hp} (w : Walk J xs Ok) (Pv : Nat → L2.St → Hp → Prop) (h0 : Pv 0 σ H) (hl : ∀ i σ H, i ≤ xs.length → Pv i σ H → Ok H)
    (hs : ∀ i x σ H, xs[i]? = some x → Pv i σ H → g x σ H fun σ2 H2 => tb { De with nx := Pv (i + 1), ct := Pv (i + 1), bk := De.nx } σ2 H2) (hd : ∀ σ H, Pv xs.length σ H → De.nx σ H) :
    ∃ W : Nat → Nat → L2.St → Hp → Prop, (∃ m, W 0 m σ H) ∧ ∀ i m σ H, W i m σ H →
      (J.stop i H ∧ De.nx σ H) ∨ (J.go i H ∧ ∃ N : L2.St → Hp → Prop, (∀ σ' H', N σ' H' → ∃ m', m' < m ∧ W (i + 1) m' σ' H') ∧ ∀ x H', J.yld i H x H' → g x σ H' fun σ2 H2 => tb { De with nx := N, ct := N, bk := De.nx } σ2 H2) := by
  refine ⟨fun i m σ H => m = xs.length - i ∧ i ≤ xs.length ∧ Pv i σ H, ⟨xs.length, by simp, Nat.zero_le _, h0⟩, ?_⟩
  rintro i m σ H ⟨rfl, hi, p⟩
  have q := hl i σ H hi p
  by_cases hlt : i < xs.length
  · refine .inr ⟨w.go i H q hlt, Pv (i + 1), fun σ' H' p' => ⟨xs.length - (i + 1), by omega, rfl, hlt, p'⟩, fun x H' y => ?_⟩
    obtain ⟨e, hx⟩ := w.yld i H x H' q hlt y
    subst e
    exact hs i x σ _ hx p
  · have e : i = xs.length := by omega
    subst e
    exact .inl ⟨w.stop _ H q (Nat.le_refl _), hd σ H p⟩
/-- a dict comprehension over what is walked -/
theorem dcW {tk tv : TE} (w : Walk J xs Ok) (Pv : Nat → Hp → Prop) (h0 : Pv 0 (upd H1 D (.dK []))) (hl : ∀ i H, i ≤ xs.length → Pv i H → Ok H)
    (hs : ∀ i x H, xs[i]? = some x → Pv i H → g x (wipe σ vs) H fun σ2 H2 => wipe σ2 vs = wipe σ vs ∧ tt σ2 H2 fun b H3 =>
      if b = true then tk σ2 H3 fun y H4 => tv σ2 H4 fun z H5 => ∃ kvs k, y = kV k ∧ H5 D = some (.dK kvs) ∧ kvs.length < sizeLine ∧ Pv (i + 1) (upd H5 D (.dK (putK kvs k z))) else Pv (i + 1) H3) (hd : ∀ H, Pv xs.length H → Qd H) :
    ∃ W : Nat → Nat → Hp → Prop, (∃ m, W 0 m (upd H1 D (.dK []))) ∧ ∀ i m H, W i m H →
      (J.stop i H ∧ Qd H) ∨ (J.go i H ∧ ∃ Nx : Hp → Prop, (∀ H', Nx H' → ∃ m', m' < m ∧ W (i + 1) m' H') ∧ ∀ x H', J.yld i H x H' → g x (wipe σ vs) H' fun σ2 H2 => wipe σ2 vs = wipe σ vs ∧ tt σ2 H2 fun b H3 =>
        if b = true then tk σ2 H3 fun y H4 => tv σ2 H4 fun z H5 => ∃ kvs k, y = kV k ∧ H5 D = some (.dK kvs) ∧ kvs.length < sizeLine ∧ Nx (upd H5 D (.dK (putK kvs k z))) else Nx H3) := by
  refine ⟨fun i m H => m = xs.length - i ∧ i ≤ xs.length ∧ Pv i H, ⟨xs.length, by simp, Nat.zero_le _, h0⟩, ?_⟩
  rintro i m H ⟨rfl, hi, p⟩
  have q := hl i H hi p
  by_cases hlt : i < xs.length
  · refine .inr ⟨w.go i H q hlt, Pv (i + 1), fun H' p' => ⟨xs.length - (i + 1), by omega, rfl, hlt, p'⟩, fun x H' y => ?_⟩
    obtain ⟨e, hx⟩ := w.yld i H x H' q hlt y
    subst e
    exact hs i x _ hx p
  · have e : i = xs.length := by omega
    subst e
    exact .inl ⟨w.stop _ H q (Nat.le_refl _), hd H p⟩
/-- a dict comprehension over enumerate of a list -/
theorem dcE {K : PySem.W.Frag} {a : Addr} {tk tv : TE} (Pv : Nat → Hp → Prop) (h0 : Pv 0 (upd H1 D (.dK []))) (hl : ∀ i H, i ≤ xs.length → Pv i H → SqL K H a xs)
    (hs : ∀ i x H T, xs[i]? = some x → Pv i H → H T = none → g (.ref T) (wipe σ vs) (upd H T (.tup [.int (i : Nat), x])) fun σ2 H2 => wipe σ2 vs = wipe σ vs ∧ tt σ2 H2 fun b H3 =>
      if b = true then tk σ2 H3 fun y H4 => tv σ2 H4 fun z H5 => ∃ kvs k, y = kV k ∧ H5 D = some (.dK kvs) ∧ kvs.length < sizeLine ∧ Pv (i + 1) (upd H5 D (.dK (putK kvs k z))) else Pv (i + 1) H3) (hd : ∀ H, Pv xs.length H → Qd H) :
    ∃ W : Nat → Nat → Hp → Prop, (∃ m, W 0 m (upd H1 D (.dK []))) ∧ ∀ i m H, W i m H →
      ((Ite K a).stop i H ∧ Qd H) ∨ ((Ite K a).go i H ∧ ∃ Nx : Hp → Prop, (∀ H', Nx H' → ∃ m', m' < m ∧ W (i + 1) m' H') ∧ ∀ x H', (Ite K a).yld i H x H' → g x (wipe σ vs) H' fun σ2 H2 => wipe σ2 vs = wipe σ vs ∧ tt σ2 H2 fun b H3 =>
        if b = true then tk σ2 H3 fun y H4 => tv σ2 H4 fun z H5 => ∃ kvs k, y = kV k ∧ H5 D = some (.dK kvs) ∧ kvs.length < sizeLine ∧ Nx (upd H5 D (.dK (putK kvs k z))) else Nx H3) := by
  refine ⟨fun i m H => m = xs.length - i ∧ i ≤ xs.length ∧ Pv i H, ⟨xs.length, by simp, Nat.zero_le _, h0⟩, ?_⟩
  rintro i m H ⟨rfl, hi, p⟩
  have q := hl i H hi p
  by_cases hlt : i < xs.length
  · refine .inr ⟨⟨xs, xs[i], q, by simp [hlt]⟩, Pv (i + 1), fun H' p' => ⟨xs.length - (i + 1), by omega, rfl, hlt, p'⟩, fun x H' y => ?_⟩
    obtain ⟨T, y', rfl, hT, rfl, hy⟩ := y
    exact hs i y' _ T (hy xs q) p hT
  · have e : i = xs.length := by omega
    subst e
    exact .inl ⟨⟨xs, q, Nat.le_refl _⟩, hd H p⟩
end
/-! ### defs by their names -/
structure Has (P : Program) (w : World) (K : PySem.W.Frag) (mg : Str → Option Value) (base : Heap) (CX : CXT) (k : Nat) (x : Str) (ps : List Str) (dvs : List V) (sp : Sp) : Prop where
  ex : ∃ (f : Addr) (fd : FuncData) (ds : List Value), FnOk P w K mg base CX k f fd ps sp ∧ mg x = some (.ref f) ∧ PySem.W.keepIn K (.ref f) = true ∧ Binds K fd ps ds ∧ Vals dvs ds
/-- .. called by keywords -/
structure HasK (P : Program) (w : World) (K : PySem.W.Frag) (mg : Str → Option Value) (base : Heap) (CX : CXT) (k : Nat) (x : Str) (ps ks : List Str) (gV : List V → List V → List V) (sp : Sp) : Prop where
  ex : ∃ (f : Addr) (fd : FuncData) (g : List Value → List Value → List Value), FnOk P w K mg base CX k f fd ps sp ∧ mg x = some (.ref f) ∧ PySem.W.keepIn K (.ref f) = true ∧ KBinds K fd ps ks g gV
section
variable {X : Cx} {CX : CXT} {k j : Nat} {x : Str} {ps ks : List Str} {dvs : List V} {sp : Sp} {E : XK} {p pos : Pos} {e : Expr} {es : List Expr} {t tk : TA} {kws : List Keyword} {gV : List V → List V → List V}
theorem pe_h (F : Has X.prog X.w X.K X.mg X.base CX j x ps dvs sp) (hr : Room k X.A) (hj : j ≤ k) (hx : Passes CX X E) (ha : PA X (e :: es) t) (hg : Gl X x := by rfl) (hdb : (x == ("__debug__" : Str)) = false := by decide)
    (he : starEach (e :: es) X.env = (false, eval e X.env) :: starEach es X.env := by rfl) (hpl : (backTo pos (starEach es X.env)).any (·.1) = false := by rfl) : PE X (.Call (.Name x p) (e :: es) [] pos) (tCall sp dvs E t) := by
  obtain ⟨f, fd, ds, F, hm, hk, hb, hd⟩ := F.ex
  exact pe_call F (hr.mono hj) hg hm hk hb hd hx ha hdb he hpl
theorem pe_hk (F : HasK X.prog X.w X.K X.mg X.base CX j x ps ks gV sp) (hr : Room k X.A) (hj : j ≤ k) (hx : Passes CX X E) (hkw : PK X kws tk) (hg : Gl X x := by rfl) (hall : (backToKw pos (keywordEach kws X.env)).all (·.1.isSome) = true := by rfl) (hks : (backToKw pos (keywordEach kws X.env)).filterMap (·.1) = ks := by rfl)
    (hdb : (x == ("__debug__" : Str)) = false := by decide) (hpl : ((backTo pos (starEach [] X.env)).any (·.1) || (backToKw pos (keywordEach kws X.env)).any (·.1.isNone)) = false := by rfl) :
    PE X (.Call (.Name x p) [] kws pos) (tCallK sp gV E tNil tk) := by
  obtain ⟨f, fd, g, F, hm, hk, hb⟩ := F.ex
  exact pe_callK0 F (hr.mono hj) hg hm hk hb hx hkw hall hks hdb hpl
end
end K26
end K26W0

section K26W1
set_option Elab.async false
set_option linter.all false
set_option maxRecDepth 100000
set_option maxHeartbeats 2000000
/-! K26W1: the text's places, what its top has left; the checks (is_integer .. are_unlike), need_number. -/
namespace K26
open PySem PySem.Spec PyProof.Rows L2
def topS (i : Nat) : Stmt := PySem.Challenge.pw_keptlamps_k26_whole_wirings_among_neighb.main.body.getD i (.Pass ⟨0, 0, 0, 0⟩)
/-! ### what kind a value is -/
structure Kn (K : PySem.W.Frag) (H : Hp) (v : V) (i l : Bool) : Prop where
  ex : ∃ (T : String) (a b c d : Bool), TyX K H v (.type T) ∧ kitB T "int" = some a ∧ kitB T "bool" = some b ∧ kitB T "list" = some c ∧ kitB T "tuple" = some d ∧ i = (a && !b) ∧ l = (c || d)
theorem kn_int {K : PySem.W.Frag} {H : Hp} (n : Int) : Kn K H (.int n) true false := ⟨"int", true, false, false, false, .base (.int n), by decide +kernel, by decide +kernel, by decide +kernel, by decide +kernel, rfl, rfl⟩
theorem kn_non {K : PySem.W.Frag} {H : Hp} : Kn K H .non false false := ⟨"NoneType", false, false, false, false, .base .non, by decide +kernel, by decide +kernel, by decide +kernel, by decide +kernel, rfl, rfl⟩
theorem kn_bl {K : PySem.W.Frag} {H : Hp} (b : Bool) : Kn K H (.bl b) false false := ⟨"bool", true, true, false, false, .base (.bl b), by decide +kernel, by decide +kernel, by decide +kernel, by decide +kernel, rfl, rfl⟩
theorem kn_str {K : PySem.W.Frag} {H : Hp} (x : Str) : Kn K H (.str x) false false := ⟨"str", false, false, false, false, .base (.str x), by decide +kernel, by decide +kernel, by decide +kernel, by decide +kernel, rfl, rfl⟩
theorem kn_dK {K : PySem.W.Frag} {H : Hp} {a : Addr} {kvs : List (Key × V)} (e : H a = some (.dK kvs)) : Kn K H (.ref a) false false := ⟨"dict", false, false, false, false, .base (.dK e), by decide +kernel, by decide +kernel, by decide +kernel, by decide +kernel, rfl, rfl⟩
theorem kn_list {K : PySem.W.Frag} {H : Hp} {a : Addr} {xs : List V} (h : SqL K H a xs) : Kn K H (.ref a) false true := by
  refine ⟨"list", false, false, true, false, ?_, by decide +kernel, by decide +kernel, by decide +kernel, by decide +kernel, rfl, rfl⟩
  rcases h with (h | ⟨o, h⟩) | ⟨o, its, n, h, hc, _⟩
  · exact .base (.lst h)
  · exact .base (.frz h)
  · exact .kList h hc
theorem kn_tup {K : PySem.W.Frag} {H : Hp} {a : Addr} {xs : List V} (h : SqT K H a xs) : Kn K H (.ref a) false true := by
  refine ⟨"tuple", false, false, false, true, ?_, by decide +kernel, by decide +kernel, by decide +kernel, by decide +kernel, rfl, rfl⟩
  rcases h with (h | ⟨o, h⟩) | ⟨o, its, n, h, hc, _⟩
  · exact .base (.tup h)
  · exact .fTuple h
  · exact .kTuple h hc
theorem kn_any {K : PySem.W.Frag} {H : Hp} {a : Addr} {xs : List V} (h : SqA K H a xs) : Kn K H (.ref a) false true := h.elim kn_list kn_tup
theorem tyof_same {K : PySem.W.Frag} {H H' : Hp} (e : Same H H') {v : V} {t : Value} (h : TyOf K H v t) : TyOf K H' v t := by
  cases h with
  | non => exact .non
  | bl x => exact .bl x
  | int i => exact .int i
  | str x => exact .str x
  | flt x => exact .flt x
  | lst a => exact .lst (e _ _ a)
  | frz a => exact .frz (e _ _ a)
  | tup a => exact .tup (e _ _ a)
  | dK a => exact .dK (e _ _ a)
  | dT a => exact .dT (e _ _ a)
  | ins a cl ha hn htk hm => exact .ins (e _ _ a) cl ha hn htk hm
theorem tyx_same {K : PySem.W.Frag} {H H' : Hp} (e : Same H H') {v : V} {t : Value} (h : TyX K H v t) : TyX K H' v t := by
  cases h with
  | base h => exact .base (tyof_same e h)
  | byt b => exact .byt b
  | set a => exact .set (e _ _ a)
  | kList a c => exact .kList a c
  | kTuple a c => exact .kTuple a c
  | kDict a c => exact .kDict a c
  | fTuple a => exact .fTuple (e _ _ a)
  | fDict a => exact .fDict (e _ _ a)
theorem Kn.same {K : PySem.W.Frag} {H H' : Hp} {v : V} {i l : Bool} (e : Same H H') (h : Kn K H v i l) : Kn K H' v i l := by
  obtain ⟨T, a, b, c, d, ty, r⟩ := h
  exact ⟨T, a, b, c, d, tyx_same e ty, r⟩
/-! ### what the top has left -/
structure Txt (K : PySem.W.Frag) (mg : Str → Option Value) : Prop where
  zisi : mg "isinstance" = none
  zint : mg "int" = none
  zbool : mg "bool" = none
  zlist : mg "list" = none
  ztuple : mg "tuple" = none
  zlen : mg "len" = none
  zall : mg "all" = none
  zsorted : mg "sorted" = none
  zmin : mg "min" = none
  zmax : mg "max" = none
  zrange : mg "range" = none
  zenum : mg "enumerate" = none
  zabs : mg "abs" = none
  zsum : mg "sum" = none
  zrepr : mg "repr" = none
  cLamps : ∃ t, mg "MOST_LAMPS" = some (.int 8 t)
  cGates : ∃ t, mg "MOST_GATES" = some (.int 20000 t)
/-- one of the package's errors -/
structure Er (P : Program) (w : World) (K : PySem.W.Frag) (mg : Str → Option Value) (x : Str) (C : Addr) (n : Nat) (fs : List V → List (Str × V)) : Prop where
  gC : mg x = some (.ref C)
  kC : PySem.W.keepIn K (.ref C) = true
  is : ErrIs K C
  tyC : PySem.W.typeIn K (.ref C) = some (.type "type")
  mkE : ∀ X : Cx, X.prog = P → X.w = w → X.K = K → X.mg = mg → Room 1 X.A → MakesE X C n fs
def f1 : List V → List (Str × V) := fun vs => [(("part" : Str), vs.headD .non)]
section
variable {P : Program} {w : World} {K : PySem.W.Frag} {mg : Str → Option Value} {base : Heap}
/-! ### is_integer -/
abbrev sIsInteger : Stmt := topS 12
theorem scIsInteger : FnScope ["value"] ["value"] (defScope sIsInteger) := ⟨rfl, rfl, rfl, by decide +kernel, rfl, by decide +kernel, by decide +kernel⟩
def spIsInteger (K : PySem.W.Frag) : Sp := fun vs H Q _ => ∃ v i l, vs = [v] ∧ Kn K H v i l ∧ Q (.bl i) H
theorem ok_is_integer {f : Addr} {fd : FuncData} (F : Fun K "is_integer" "is_integer" sIsInteger f fd) (T : Txt K mg) : FnOk P w K mg base CX0 1 f fd ["value"] (spIsInteger K) := by
  refine F.ok scIsInteger (fun vs H Q E h => ?_) (fun cdv A outer s H vs Q E hr h => ?_)
  · obtain ⟨v, i, l, rfl, _⟩ := h
    rfl
  · obtain ⟨v, i, l, rfl, ⟨Ty, a, b, c, d, ty, h1, h2, _, _, rfl, _⟩, q⟩ := h
    refine ⟨_, pss_one (ps_ret (pe_and (pe_callB call_isi (by rfl) T.zisi (by decide +kernel) (pa_cons (pv 0) (pa_cons (pe_bltn (v := .ty "int") (by rfl) T.zint (by decide +kernel) rfl) pa_nil)))
      (pe_one (pe_not (pe_callB call_isi (by rfl) T.zisi (by decide +kernel) (pa_cons (pv 0) (pa_cons (pe_bltn (v := .ty "bool") (by rfl) T.zbool (by decide +kernel) rfl) pa_nil))))))), ?_⟩
    refine ⟨v, rfl, v, _, _, _, a, rfl, .ty "int", ty, kit_ty h1, a, rfl, ?_⟩
    cases a with
    | true => exact ⟨v, rfl, v, _, _, _, b, rfl, .ty "bool", ty, kit_ty h2, b, rfl, q⟩
    | false => exact q
/-! ### is_within -/
abbrev sIsWithin : Stmt := topS 13
theorem scIsWithin : FnScope ["value", "least", "most"] ["value", "least", "most"] (defScope sIsWithin) := ⟨rfl, rfl, rfl, by decide +kernel, rfl, by decide +kernel, by decide +kernel⟩
def inV (lo hi : Int) : V → Bool
  | .int n => decide (lo ≤ n) && decide (n ≤ hi)
  | _ => false
def spIsWithin (K : PySem.W.Frag) : Sp := fun vs H Q _ => ∃ v i l lo hi, vs = [v, .int lo, .int hi] ∧ Kn K H v i l ∧ (i = true → ∃ n, v = .int n) ∧ (∀ n, v = .int n → i = true) ∧ Q (.bl (inV lo hi v)) H
theorem ok_is_within {f : Addr} {fd : FuncData} (F : Fun K "is_within" "is_within" sIsWithin f fd) (T : Txt K mg) (HI : Has P w K mg base CX0 1 "is_integer" ["value"] [] (spIsInteger K)) : FnOk P w K mg base CX0 2 f fd ["value", "least", "most"] (spIsWithin K) := by
  refine F.ok scIsWithin (fun vs H Q E h => ?_) (fun cdv A outer s H vs Q E hr h => ?_)
  · obtain ⟨v, i, l, lo, hi, rfl, _⟩ := h
    rfl
  · obtain ⟨v, i, l, lo, hi, rfl, kn, hi1, hi2, q⟩ := h
    refine ⟨_, pss_cons (ps_if (pt_not (pt_val (pe_h HI hr (by decide) pass0 (pa_cons (pv 0) pa_nil)))) (pss_one (ps_ret pe_bl)) pss_nil)
      (pss_one (ps_ret (pe_and (pe_or (pe_cmpR op_isN (pv 1) pe_non (nomark _)) (pe_one (pe_cmpR op_le (pv 1) (pv 0) (nomark _))))
        (pe_one (pe_or (pe_cmpR op_isN (pv 2) pe_non (nomark _)) (pe_one (pe_cmpR op_le (pv 0) (pv 2) (nomark _)))))))), ?_⟩
    refine ⟨v, rfl, v, i, l, rfl, kn, i, rfl, ?_⟩
    cases i with
    | false =>
      refine iteT ?_
      have : inV lo hi v = false := by
        cases v with
        | int n => exact absurd (hi2 n rfl) (by decide)
        | _ => rfl
      rw [this] at q
      exact q
    | true =>
      refine iteF ?_
      obtain ⟨n, rfl⟩ := hi1 rfl
      refine ⟨_, rfl, rfl, _, rfl, iteF ?_⟩
      refine ⟨_, rfl, _, rfl, _, _, rfl, rfl, _, rfl, ?_⟩
      by_cases h1 : lo ≤ n
      · rw [decide_eq_true h1]
        refine iteT ⟨_, rfl, rfl, _, rfl, iteF ⟨_, rfl, _, rfl, _, _, rfl, rfl, ?_⟩⟩
        have : inV lo hi (.int n) = decide (n ≤ hi) := by simp [inV, h1]
        rw [this] at q
        exact q
      · rw [decide_eq_false h1]
        refine iteF ?_
        have : inV lo hi (.int n) = false := by simp [inV, h1]
        rw [this] at q
        exact q
/-! ### is_list -/
abbrev sIsList : Stmt := topS 14
theorem scIsList : FnScope ["value"] ["value"] (defScope sIsList) := ⟨rfl, rfl, rfl, by decide +kernel, rfl, by decide +kernel, by decide +kernel⟩
def spIsList (K : PySem.W.Frag) : Sp := fun vs H Q _ => ∃ v i l, vs = [v] ∧ Kn K H v i l ∧ ∀ H', Same H H' → Q (.bl l) H'
theorem ok_is_list {f : Addr} {fd : FuncData} (F : Fun K "is_list" "is_list" sIsList f fd) (T : Txt K mg) : FnOk P w K mg base CX0 1 f fd ["value"] (spIsList K) := by
  refine F.ok scIsList (fun vs H Q E h => ?_) (fun cdv A outer s H vs Q E hr h => ?_)
  · obtain ⟨v, i, l, rfl, _⟩ := h
    rfl
  · obtain ⟨v, i, l, rfl, ⟨Ty, a, b, c, d, ty, _, _, h1, h2, _, rfl⟩, q⟩ := h
    refine ⟨_, pss_one (ps_ret (pe_callB call_isiT (by rfl) T.zisi (by decide +kernel) (pa_cons (pv 0) (pa_cons (pe_tup (pa_cons (pe_bltn (v := .ty "list") (by rfl) T.zlist (by decide +kernel) rfl) (pa_cons (pe_bltn (v := .ty "tuple") (by rfl) T.ztuple (by decide +kernel) rfl) pa_nil))) pa_nil)))), ?_⟩
    refine ⟨v, rfl, by show 2 ≤ sizeLine; decide, fun p hp => ?_⟩
    refine ⟨v, p, [.ty "list", .ty "tuple"], .type Ty, [.type "list", .type "tuple"], c || d, rfl, upd_same, .cons (.ty _) (.cons (.ty _) .nil), ?_, ?_, q _ (same_new hp)⟩
    · exact tyx_same (same_new hp) ty
    · refine kitAny_cons (kit_ty h1) (fun e => ?_) (fun e => by rw [e]; rfl)
      rw [e]
      exact kitAny_cons (kit_ty h2) (fun e => by rw [e]; rfl) (fun e => by rw [e]; rfl)
/-! ### are_unlike -/
abbrev sAreUnlike : Stmt := topS 15
theorem scAreUnlike : FnScope ["values", "value"] ["values"] (defScope sAreUnlike) := ⟨rfl, rfl, rfl, by decide +kernel, rfl, by decide +kernel, by decide +kernel⟩
def spAreUnlike (K : PySem.W.Frag) : Sp := fun vs H Q _ => ∃ (a : Addr) (ns : List Int), vs = [.ref a] ∧ SqA K H a (ns.map V.int) ∧ ns.length < sizeLine ∧ ∀ H', Same H H' → Q (.bl (decide ns.Nodup)) H'
theorem nodup_snoc {ns : List Int} {x : Int} : (ns ++ [x]).Nodup ↔ ns.Nodup ∧ x ∉ ns := by
  rw [List.nodup_append]
  constructor
  · rintro ⟨h1, _, h3⟩
    exact ⟨h1, fun h => h3 x h x (by simp) rfl⟩
  · rintro ⟨h1, h2⟩
    exact ⟨h1, by simp, fun a ha b hb e => h2 (by simp at hb; rw [← hb, ← e]; exact ha)⟩
theorem take_snoc {α : Type} {xs : List α} {i : Nat} {x : α} (h : xs[i]? = some x) : xs.take (i + 1) = xs.take i ++ [x] := by
  rw [List.take_add_one, h]
  rfl
theorem ok_are_unlike {f : Addr} {fd : FuncData} (F : Fun K "are_unlike" "are_unlike" sAreUnlike f fd) (T : Txt K mg) : FnOk P w K mg base CX0 1 f fd ["values"] (spAreUnlike K) := by
  refine F.ok scAreUnlike (fun vs H Q E h => ?_) (fun cdv A outer s H vs Q E hr h => ?_)
  · obtain ⟨a, ns, rfl, _⟩ := h
    rfl
  · obtain ⟨a, ns, rfl, hS, hlen, q⟩ := h
    refine ⟨_, pss_one (ps_ret (pe_cmpR op_eq (pe_callB call_lenD (by rfl) T.zlen PySem.boot_len (pa_cons (pe_dc (own := [("value", 1)]) (g := gName 1) (tt := tYes) rfl scAreUnlike.nd (pi_any (pv 0)) (blkOk_by (own := [("value", 1)]) (N := ["values", "value"]) (sc := defScope sAreUnlike) (by decide +kernel))
        (fun _ _ _ _ _ => pg_name (i := 1) scAreUnlike.nd rfl (Or.inl rfl)) (fun _ _ _ _ _ => pts_nil) (fun _ _ _ _ _ => pv 1) (fun _ _ _ _ _ => pe_bl)) pa_nil))
      (pe_callB call_len_seq (by rfl) T.zlen PySem.boot_len (pa_cons (pv 0) pa_nil)) (nomark _))), ?_⟩
    refine ⟨.ref a, rfl, a, _, rfl, hS, fun J Ok w hok D hD => ?_⟩
    refine dcW w (fun i H1 => Same H H1 ∧ ∃ kvs, H1 D = some (.dK kvs) ∧ (∀ n : Int, (valV kvs (.inl n)).isSome = decide (n ∈ ns.take i)) ∧ kvs.length ≤ i ∧ (kvs.length = i ↔ (ns.take i).Nodup)) ⟨same_new hD, [], upd_same, fun n => by simp [valV], Nat.le_refl _, by simp⟩
      (fun i H1 _ h => hok H1 (fun q => h.1.seq q) fun q => sqt_same h.1 q) ?_ ?_
    · rintro i y H1 hi ⟨S, kvs, e, hv, hl, hnd⟩
      obtain ⟨x, hx, rfl⟩ : ∃ x, ns[i]? = some x ∧ V.int x = y := by
        rw [List.getElem?_map] at hi
        cases h : ns[i]? with
        | none => rw [h] at hi; cases hi
        | some x => rw [h] at hi; exact ⟨x, rfl, Option.some.inj hi⟩
      have hin : i < ns.length := (List.getElem?_eq_some_iff.mp hx).1
      refine ⟨rfl, ⟨_, rfl, kvs, .inl x, rfl, e, by omega, fun b o hb => ?_, _, upd_same, fun n => ?_, ?_, ?_⟩⟩
      · rw [upd_ne (ne_of_none hb hD)]
        exact S _ _ hb
      · rw [valV_put, take_snoc hx]
        by_cases h : n = x
        · subst h; simp
        · have : ¬ (Sum.inl n : Key) = .inl x := fun z => h (Sum.inl.inj z)
          rw [if_neg this, hv]
          simp [h]
      · have := length_putK kvs (.inl x) (.bl true)
        omega
      · rw [take_snoc hx, nodup_snoc]
        have hx2 := hv x
        by_cases h : x ∈ ns.take i
        · rw [decide_eq_true h] at hx2
          have : (putK kvs (.inl x) (.bl true)).length = kvs.length := by
            unfold putK
            rw [valV_any, hx2, if_pos rfl, List.length_map]
          rw [this]
          exact ⟨fun z => absurd hl (by omega), fun z => absurd h z.2⟩
        · rw [decide_eq_false h] at hx2
          have : valV kvs (.inl x) = none := by
            cases e : valV kvs (.inl x) with
            | none => rfl
            | some _ => rw [e] at hx2; cases hx2
          rw [putK_new _ this, List.length_append]
          constructor
          · intro z
            exact ⟨hnd.mp (by simpa using z), h⟩
          · rintro ⟨z, _⟩
            have := hnd.mpr z
            simp [this]
    · rintro H1 ⟨S, kvs, e, _, _, hnd⟩
      rw [List.length_map, List.take_length] at hnd
      refine ⟨D, kvs, rfl, e, .ref a, rfl, a, _, rfl, sqa_same S hS, rfl, ?_⟩
      have : decide (V.int (kvs.length : Int) = V.int ((ns.map V.int).length : Int)) = decide ns.Nodup := by
        rw [List.length_map]
        refine decide_eq_decide.mpr ⟨fun z => hnd.mp ?_, fun z => ?_⟩
        · have := V.int.inj z; omega
        · rw [hnd.mpr z]
      rw [this]
      exact q _ S
end
end K26
end K26W1

section K26W2
set_option Elab.async false
set_option linter.all false
set_option maxRecDepth 100000
set_option maxHeartbeats 2000000
/-! K26W2: need_number, touched_by, kept_gate, need_wiring, need_gate, need_order. -/
namespace K26
open PySem PySem.Spec PyProof.Rows L2
/-! ### small helps -/
def rIxA (K : PySem.W.Frag) : R2 := fun x y H Q => ∃ p xs i v, x = .ref p ∧ y = .int i ∧ SqA K H p xs ∧ atI xs i = some v ∧ Q v H
theorem ix_any {X : Cx} : IxR X (rIxA X.K) := by
  intro value slice pins s σ H x y v u Q I rx ry h hs
  obtain ⟨p, xs, i, z, e1, e2, hq | hq, he, q⟩ := h
  · exact ix_list value slice pins s σ H x y v u Q I rx ry ⟨p, xs, i, z, e1, e2, hq, he, q⟩ hs
  · exact ix_tup value slice pins s σ H x y v u Q I rx ry ⟨p, xs, i, z, e1, e2, hq, he, q⟩ hs
/-- what a comprehension without a test has made -/
def mapJ (xs : List V) (f : V → V) : Nat → Hp → List V → Prop := fun i _ acc => acc = (xs.take i).map f
theorem mapJ_mono {K : PySem.W.Frag} {xs : List V} {f : V → V} : ∀ i H H' acc, mapJ xs f i H acc → TupS K H H' → mapJ xs f i H' acc := fun _ _ _ _ h _ => h
theorem mapJ_0 {xs : List V} {f : V → V} {H : Hp} : mapJ xs f 0 H [] := rfl
theorem mapJ_put {xs acc : List V} {f : V → V} {i : Nat} {x : V} {H H' : Hp} (hx : xs[i]? = some x) (h : mapJ xs f i H acc) : mapJ xs f (i + 1) H' (acc ++ [f x]) := by
  unfold mapJ at h ⊢
  rw [h, take_snoc hx, List.map_append]
  rfl
theorem mapJ_end {xs acc : List V} {f : V → V} {H : Hp} (h : mapJ xs f xs.length H acc) : acc = xs.map f := by
  unfold mapJ at h
  rw [h, List.take_length]
/-- .. with a test -/
def fmJ (xs : List V) (f : V → Option V) : Nat → Hp → List V → Prop := fun i _ acc => acc = (xs.take i).filterMap f
theorem fmJ_mono {K : PySem.W.Frag} {xs : List V} {f : V → Option V} : ∀ i H H' acc, fmJ xs f i H acc → TupS K H H' → fmJ xs f i H' acc := fun _ _ _ _ h _ => h
theorem fmJ_0 {xs : List V} {f : V → Option V} {H : Hp} : fmJ xs f 0 H [] := rfl
theorem fmJ_put {xs acc : List V} {f : V → Option V} {i : Nat} {x y : V} {H H' : Hp} (hx : xs[i]? = some x) (hf : f x = some y) (h : fmJ xs f i H acc) : fmJ xs f (i + 1) H' (acc ++ [y]) := by
  unfold fmJ at h ⊢
  rw [h, take_snoc hx, List.filterMap_append]
  simp [hf]
theorem fmJ_skip {xs acc : List V} {f : V → Option V} {i : Nat} {x : V} {H H' : Hp} (hx : xs[i]? = some x) (hf : f x = none) (h : fmJ xs f i H acc) : fmJ xs f (i + 1) H' acc := by
  unfold fmJ at h ⊢
  rw [h, take_snoc hx, List.filterMap_append]
  simp [hf]
theorem fmJ_end {xs acc : List V} {f : V → Option V} {H : Hp} (h : fmJ xs f xs.length H acc) : acc = xs.filterMap f := by
  unfold fmJ at h
  rw [h, List.take_length]
theorem ints_get {ns : List Int} {i : Nat} {y : V} (h : (ns.map V.int)[i]? = some y) : ∃ x, ns[i]? = some x ∧ y = V.int x := by
  rw [List.getElem?_map] at h
  cases e : ns[i]? with
  | none => rw [e] at h; cases h
  | some x => rw [e] at h; exact ⟨x, rfl, (Option.some.inj h).symm⟩
theorem small_size {n : Nat} (h : n ≤ 10000) : n < sizeLine := Nat.lt_of_le_of_lt h (by decide)
/-! ### gates in the heap -/
/-- a gate as it is kept: a tuple of a tuple of hands, and two lamps -/
def GA (K : PySem.W.Frag) (H : Hp) (a : Addr) (g : G) : Prop := ∃ h, SqT K H a [.ref h, .int g.2.1, .int g.2.2] ∧ SqT K H h (g.1.map V.int)
theorem GA.tups {K : PySem.W.Frag} {H H' : Hp} {a : Addr} {g : G} (e : TupS K H H') (h : GA K H a g) : GA K H' a g := let ⟨x, h1, h2⟩ := h; ⟨x, e _ _ h1, e _ _ h2⟩
/-- what a gate is kept as -/
def kgO (n : Int) (hs : List Int) (x y : Int) : Option G :=
  if ((hs ++ [x, y]).all fun z => decide (0 ≤ z) && decide (z ≤ n - 1)) = true ∧ (hs ++ [x, y]).Nodup then some (srt hs, min x y, max x y) else none
def KgArg (K : PySem.W.Frag) (H : Hp) (n : Int) (v : V) (r : Option G) : Prop :=
  (∃ i, Kn K H v i false ∧ r = none) ∨ (∃ a xs, v = .ref a ∧ SqA K H a xs ∧ xs.length ≠ 3 ∧ r = none) ∨
    ∃ a h hs x y, v = .ref a ∧ SqA K H a [.ref h, .int x, .int y] ∧ SqA K H h (hs.map V.int) ∧ hs.length ≤ 1000 ∧ r = kgO n hs x y
theorem KgArg.same {K : PySem.W.Frag} {H H' : Hp} {n : Int} {v : V} {r : Option G} (e : Same H H') (h : KgArg K H n v r) : KgArg K H' n v r := by
  rcases h with ⟨i, h, q⟩ | ⟨a, xs, h1, h2, q⟩ | ⟨a, h, hs, x, y, h1, h2, h3, q⟩
  · exact .inl ⟨i, h.same e, q⟩
  · exact .inr (.inl ⟨a, xs, h1, sqa_same e h2, q⟩)
  · exact .inr (.inr ⟨a, h, hs, x, y, h1, sqa_same e h2, sqa_same e h3, q⟩)
section
variable {P : Program} {w : World} {K : PySem.W.Frag} {mg : Str → Option Value} {base : Heap}
/-! ### need_number -/
abbrev sNeedNumber : Stmt := topS 16
theorem scNeedNumber : FnScope ["value", "part", "least", "most"] ["value", "part", "least", "most"] (defScope sNeedNumber) := ⟨rfl, rfl, rfl, by decide +kernel, rfl, by decide +kernel, by decide +kernel⟩
/-- raised: an error of the class at C with these fields -/
def Rz (E : XK) (H : Hp) (C : Addr) (fs : List (Str × V)) : Prop := ∀ d H', Same H H' → H' d = some (.xd fs) → E (.ref C) (some d) H'
theorem Rz.go {E : XK} {H H1 : Hp} {C : Addr} {fs : List (Str × V)} (h : Rz E H C fs) (e : Same H H1) : ∀ d, H1 d = none → E (.ref C) (some d) (upd H1 d (.xd fs)) := fun d hd => h d _ (e.trans (same_new hd)) upd_same
theorem Rz.same {E : XK} {H H1 : Hp} {C : Addr} {fs : List (Str × V)} (h : Rz E H C fs) (e : Same H H1) : Rz E H1 C fs := fun d H' s => h d H' (e.trans s)
/-- an integer, or another thing whose kind is known -/
def KnI (K : PySem.W.Frag) (H : Hp) (v : V) : Prop := ∃ i l, Kn K H v i l ∧ (i = true → ∃ n, v = .int n) ∧ (∀ n, v = .int n → i = true)
theorem KnI.same {H H' : Hp} {v : V} (e : Same H H') (h : KnI K H v) : KnI K H' v := let ⟨i, l, k, r⟩ := h; ⟨i, l, k.same e, r⟩
theorem knI_int {H : Hp} (n : Int) : KnI K H (.int n) := ⟨true, false, kn_int n, fun _ => ⟨n, rfl⟩, fun _ _ => rfl⟩
def spNeedNumber (K : PySem.W.Frag) (C : Addr) : Sp := fun vs H Q E => ∃ v part lo hi, vs = [v, .str part, .int lo, .int hi] ∧ KnI K H v ∧ (inV lo hi v = true → Q .non H) ∧ (inV lo hi v = false → Rz E H C (f1 [.str part]))
theorem ok_need_number {f C : Addr} {fd : FuncData} (F : Fun K "need_number" "need_number" sNeedNumber f fd) (T : Txt K mg) (HW : Has P w K mg base CX0 2 "is_within" ["value", "least", "most"] [] (spIsWithin K)) (R : Er P w K mg "BadNumber" C 1 f1) :
    FnOk P w K mg base (L2.CX P w) 3 f fd ["value", "part", "least", "most"] (spNeedNumber K C) := by
  refine F.okX scNeedNumber (fun vs H Q E h => ?_) (fun cdv A outer s H vs Q E hr h => ?_)
  · obtain ⟨v, part, lo, hi, rfl, _⟩ := h
    rfl
  · obtain ⟨v, part, lo, hi, rfl, ⟨i, l, kn, k1, k2⟩, q1, q2⟩ := h
    refine ⟨_, pss_one (ps_if (pt_not (pt_val (pe_h HW hr (by decide) pass0 (pa_cons (pv 0) (pa_cons (pv 2) (pa_cons (pv 3) pa_nil))))))
      (pss_one (ps_raise rfl (takes_of rfl rfl rfl rfl) (pmk_err (R.mkE _ rfl rfl rfl rfl (hr.mono (by decide))) (raises_own R.is.exC R.tyC) R.kC R.gC (pa_cons (pv 1) pa_nil)))) pss_nil), ?_⟩
    refine ⟨v, rfl, _, rfl, _, rfl, v, i, l, lo, hi, rfl, kn, k1, k2, _, rfl, ?_⟩
    cases e : inV lo hi v with
    | true => exact q1 e
    | false => exact ⟨_, rfl, rfl, (q2 e).go (Same.refl _)⟩
/-! ### touched_by -/
abbrev sTouchedBy : Stmt := topS 29
theorem scTouchedBy : FnScope ["gate"] ["gate"] (defScope sTouchedBy) := ⟨rfl, rfl, rfl, by decide +kernel, rfl, by decide +kernel, by decide +kernel⟩
def spTouchedBy (K : PySem.W.Frag) : Sp := fun vs H Q _ => ∃ a g, vs = [.ref a] ∧ GA K H a g ∧ g.1.length ≤ 1000 ∧ ∀ H' p, Same H H' → H' p = some (.tup ((touched g).map V.int)) → Q (.ref p) H'
theorem ok_touched_by {f : Addr} {fd : FuncData} (F : Fun K "touched_by" "touched_by" sTouchedBy f fd) : FnOk P w K mg base CX0 1 f fd ["gate"] (spTouchedBy K) := by
  refine F.ok scTouchedBy (fun vs H Q E h => ?_) (fun cdv A outer s H vs Q E hr h => ?_)
  · obtain ⟨a, g, rfl, _⟩ := h
    rfl
  · obtain ⟨a, g, rfl, ⟨h, h1, h2⟩, hl, q⟩ := h
    refine ⟨_, pss_one (ps_ret (pe_tup (StX.pa_star (pe_ix ix_tup (pv 0) pe_int (fun _ _ => rfl)) (pa_cons (pe_ix ix_tup (pv 0) pe_int (fun _ _ => rfl)) (pa_cons (pe_ix ix_tup (pv 0) pe_int (fun _ _ => rfl)) pa_nil))))), ?_⟩
    refine ⟨.ref a, rfl, a, _, 0, .ref h, rfl, rfl, h1, atI_nat (j := 0) rfl, h, _, rfl, .inl h2, .ref a, rfl, a, _, 1, .int g.2.1, rfl, rfl, h1, atI_nat (j := 1) rfl, .ref a, rfl, a, _, 2, .int g.2.2, rfl, rfl, h1, atI_nat (j := 2) rfl, ?_, fun p hp => ?_⟩
    · rw [List.length_append, List.length_map]
      exact Nat.le_of_lt (small_size (by show g.1.length + 2 ≤ _; omega))
    · have e : List.map V.int g.1 ++ [V.int g.2.1, V.int g.2.2] = (touched g).map V.int := by simp [touched]
      refine q _ p (same_new hp) ?_
      rw [upd_same, ← e]
/-! ### kept_gate -/
abbrev sKeptGate : Stmt := topS 26
theorem scKeptGate : FnScope ["lamps", "value", "touched", "hands", "one", "other", "each"] ["lamps", "value"] (defScope sKeptGate) := ⟨rfl, rfl, rfl, by decide +kernel, rfl, by decide +kernel, by decide +kernel⟩
def spKeptGate (K : PySem.W.Frag) : Sp := fun vs H Q _ => ∃ n v r, vs = [.int n, v] ∧ KgArg K H n v r ∧ (r = none → ∀ H', Same H H' → Q .non H') ∧ (∀ g, r = some g → ∀ H' p, Same H H' → GA K H' p g → Q (.ref p) H')
theorem min_if (i j : Int) : (if j < i then j else i) = min i j := by
  by_cases h : i ≤ j
  · rw [Int.min_eq_left h, if_neg (by omega)]
  · rw [Int.min_eq_right (by omega), if_pos (by omega)]
theorem max_if (i j : Int) : (if j > i then j else i) = max i j := by
  by_cases h : i ≤ j
  · rw [Int.max_eq_right h]
    by_cases e : j > i
    · rw [if_pos e]
    · rw [if_neg e]; omega
  · rw [Int.max_eq_left (by omega), if_neg (by omega)]
theorem ok_kept_gate {f : Addr} {fd : FuncData} (F : Fun K "kept_gate" "kept_gate" sKeptGate f fd) (T : Txt K mg) (HL : Has P w K mg base CX0 1 "is_list" ["value"] [] (spIsList K)) (HW : Has P w K mg base CX0 2 "is_within" ["value", "least", "most"] [] (spIsWithin K))
    (HU : Has P w K mg base CX0 1 "are_unlike" ["values"] [] (spAreUnlike K)) : FnOk P w K mg base CX0 3 f fd ["lamps", "value"] (spKeptGate K) := by
  refine F.ok scKeptGate (fun vs H Q E h => ?_) (fun cdv A outer s H vs Q E hr h => ?_)
  · obtain ⟨n, v, r, rfl, _⟩ := h
    rfl
  · obtain ⟨n, v, r, rfl, hv, q0, q1⟩ := h
    refine ⟨_, pss_cons (ps_if (PW.pt (pw_or (pt_not (pt_val (pe_h HL hr (by decide) pass0 (pa_cons (pv 1) pa_nil))))
        (pw_or (pt_cmpR op_ne (pe_callB call_len_seq (by rfl) T.zlen PySem.boot_len (pa_cons (pv 1) pa_nil)) pe_int (nomark _))
        (pw_or1 (pt_not (pt_val (pe_h HL hr (by decide) pass0 (pa_cons (pe_ix ix_any (pv 1) pe_int (fun _ _ => rfl)) pa_nil)))))))) (pss_one (ps_ret pe_non)) pss_nil)
      (pss_cons (ps_asg (pv 1) (pg_any rfl (pgs_cons (pg_name (i := 3) scKeptGate.nd rfl (.inl rfl)) (pgs_cons (pg_name (i := 4) scKeptGate.nd rfl (.inl rfl)) (pgs_cons (pg_name (i := 5) scKeptGate.nd rfl (.inl rfl)) pgs_nil)))))
      (pss_cons (ps_set (i := 2) scKeptGate.nd rfl (.inl rfl) (pe_lst (StX.pa_star (pv 3) (pa_cons (pv 4) (pa_cons (pv 5) pa_nil)))))
      (pss_cons (ps_if (PW.pt (pw_or (pt_not (pt_val (pe_callB (cr_all rfl) (by rfl) T.zall (by decide +kernel) (pa_cons (pe_lc (own := [("each", 6)]) (g := gName 6) (tt := tYes) rfl scKeptGate.nd (pi_list (pv 2))
            (blkOk_by (own := [("each", 6)]) (N := ["lamps", "value", "touched", "hands", "one", "other", "each"]) (sc := defScope sKeptGate) (by decide +kernel))
            (fun _ _ _ _ _ => pg_name (i := 6) scKeptGate.nd rfl (Or.inl rfl)) (fun _ _ _ _ _ => pts_nil) (fun _ _ _ _ _ => pe_h HW hr (by decide) pass0 (pa_cons (pv 6) (pa_cons pe_int (pa_cons (pe_op op_sub (pv 0) pe_int) pa_nil))))) pa_nil))))
          (pw_or1 (pt_not (pt_val (pe_h HU hr (by decide) pass0 (pa_cons (pv 2) pa_nil))))))) (pss_one (ps_ret pe_non)) pss_nil)
      (pss_one (ps_ret (pe_tup (pa_cons (pe_callTy call_tuple_of (by rfl) T.ztuple (by decide +kernel) (pa_cons (pe_callB cr_sortedA (by rfl) T.zsorted (by decide +kernel) (pa_cons (pv 3) pa_nil)) pa_nil))
        (pa_cons (pe_callB (call_min2 rfl) (by rfl) T.zmin (by decide +kernel) (pa_cons (pv 4) (pa_cons (pv 5) pa_nil))) (pa_cons (pe_callB (call_max2 rfl) (by rfl) T.zmax (by decide +kernel) (pa_cons (pv 4) (pa_cons (pv 5) pa_nil))) pa_nil))))))))), ?_⟩
    rcases hv with ⟨i, kn, rfl⟩ | ⟨a, xs, rfl, hS, hl, rfl⟩ | ⟨a, h, hs, x, y, rfl, hS, hH, hl, er⟩
    · exact ⟨v, rfl, v, i, false, rfl, kn, fun H' S => ⟨_, rfl, iteT (q0 rfl H' S)⟩⟩
    · refine ⟨_, rfl, _, false, true, rfl, kn_any hS, fun H1 S1 => ⟨_, rfl, iteF ?_⟩⟩
      refine ⟨_, rfl, a, xs, rfl, sqa_same S1 hS, rfl, _, rfl, ?_⟩
      have : (!decide (V.int (xs.length : Int) = V.int 3)) = true := by
        simp only [Bool.not_eq_true', decide_eq_false_iff_not]
        intro z
        have := V.int.inj z
        omega
      rw [this]
      exact iteT (q0 rfl _ S1)
    · refine ⟨_, rfl, _, false, true, rfl, kn_any hS, fun H1 S1 => ⟨_, rfl, iteF ?_⟩⟩
      have hS1 := sqa_same S1 hS
      refine ⟨_, rfl, a, _, rfl, hS1, rfl, _, rfl, iteF ?_⟩
      refine ⟨_, rfl, a, _, 0, .ref h, rfl, rfl, hS1, atI_nat (j := 0) rfl, _, false, true, rfl, kn_any (sqa_same S1 hH), fun H2 S2 => ⟨_, rfl, iteF ?_⟩⟩
      have S12 := S1.trans S2
      refine ⟨_, rfl, a, _, rfl, sqa_same S12 hS, rfl, _, _, rfl, _, _, rfl, _, _, rfl, rfl, ?_⟩
      refine ⟨.ref h, rfl, h, _, rfl, (sqa_same S12 hH).symm, _, rfl, _, rfl, ?_, fun l hl0 => ?_⟩
      · rw [List.length_append, List.length_map]
        exact Nat.le_of_lt (small_size (by show hs.length + 2 ≤ _; omega))
      have e : List.map V.int hs ++ [V.int x, V.int y] = (hs ++ [x, y]).map V.int := by simp
      rw [e]
      have hts : (hs ++ [x, y]).length = hs.length + 2 := by simp
      generalize hH3 : upd H2 l (HO.lst ((hs ++ [x, y]).map V.int)) = H3
      have S3 : Same H2 H3 := by rw [← hH3]; exact same_new hl0
      have eL : H3 l = some (.lst ((hs ++ [x, y]).map V.int)) := by rw [← hH3, upd_same]
      have S13 := S12.trans S3
      refine ⟨.ref l, rfl, l, rfl, ⟨_, .of eL⟩, fun D hD => ?_⟩
      refine lcJ (K := K) (walk_list K l _) (fun H' k _ => k _ _ (.of eL)) (mapJ ((hs ++ [x, y]).map V.int) fun z => .bl (inV 0 (n - 1) z)) hD (by rw [List.length_map, hts]; exact Nat.le_of_lt (small_size (by omega))) mapJ_mono mapJ_0 ?_ ?_
      · intro i z H4 acc hz hi S4 eD hacc hJ
        obtain ⟨k, hk, rfl⟩ := ints_get hz
        exact ⟨rfl, _, rfl, _, rfl, n, 1, rfl, rfl, _, true, false, 0, n - 1, rfl, kn_int k, fun _ => ⟨k, rfl⟩, fun _ _ => rfl, JPv.put (K := K) hD mapJ_mono S4 eD hacc hi (Same.refl _) (mapJ_put hz hJ)⟩
      · intro H4 acc S4 eD hJ
        have eacc := mapJ_end hJ
        rw [List.map_map] at eacc
        refine ⟨D, (hs ++ [x, y]).map fun z => inV 0 (n - 1) (.int z), rfl, ?_, _, rfl, ?_⟩
        · rw [List.map_map]
          exact .of (by rw [eD, eacc]; rfl)
        have ea : ((hs ++ [x, y]).map fun z => inV 0 (n - 1) (.int z)).all id = (hs ++ [x, y]).all fun z => decide (0 ≤ z) && decide (z ≤ n - 1) := by
          rw [List.all_map]; rfl
        rw [ea]
        cases hall : (hs ++ [x, y]).all fun z => decide (0 ≤ z) && decide (z ≤ n - 1) with
        | false =>
          have : r = none := by rw [er, kgO, if_neg (fun z => by rw [hall] at z; exact absurd z.1 (by decide))]
          exact iteT (q0 this _ (S13.trans S4))
        | true =>
          refine iteF ⟨.ref l, rfl, l, hs ++ [x, y], rfl, .inl (.of (S4 _ _ eL)), by rw [hts]; exact small_size (by omega), fun H5 S5 => ⟨_, rfl, ?_⟩⟩
          have S15 := (S13.trans S4).trans S5
          by_cases hnd : (hs ++ [x, y]).Nodup
          · rw [decide_eq_true hnd]
            have hr0 : r = some (srt hs, min x y, max x y) := by rw [er, kgO, if_pos ⟨hall, hnd⟩]
            refine iteF ⟨.ref h, rfl, h, hs, rfl, sqa_same S15 hH, fun ns' p perm asc hp => ?_⟩
            have hns : ns' = srt hs := srt_unique perm asc
            subst hns
            refine ⟨p, _, rfl, .inl ⟨.of upd_same, fun t ht => ?_⟩⟩
            refine ⟨_, rfl, _, rfl, x, y, rfl, _, rfl, _, rfl, x, y, rfl, by show 3 ≤ sizeLine; decide, fun u hu => ?_⟩
            rw [min_if, max_if]
            have htu : t ≠ u := fun z => by rw [z, upd_same] at hu; cases hu
            refine q1 _ hr0 _ u (((S15.trans (same_new hp)).trans (same_new ht)).trans (same_new hu)) ⟨t, .inl (.inl upd_same), .inl (.inl ?_)⟩
            rw [upd_ne htu, upd_same]
          · rw [decide_eq_false hnd]
            have : r = none := by rw [er, kgO, if_neg (fun z => hnd z.2)]
            exact iteT (q0 this _ S15)
end
end K26
end K26W2

section K26W3
set_option Elab.async false
set_option linter.all false
set_option maxRecDepth 100000
set_option maxHeartbeats 2000000
/-! K26W3: gates as data; need_wiring, need_gate, need_order, Wiring.__init__. -/
namespace K26
open PySem PySem.Spec PyProof.Rows L2
/-! ### data -/
def gD (g : G) : PyData := .tuple [.tuple (g.1.map PyData.int), .int g.2.1, .int g.2.2]
theorem eqvAll_ints : ∀ a b : List Int, PyData.eqvAll (a.map PyData.int) (b.map PyData.int) = decide (a = b)
  | [], [] => by simp [PyData.eqvAll]
  | [], y :: b => by simp [PyData.eqvAll]
  | x :: a, [] => by simp [PyData.eqvAll]
  | x :: a, y :: b => by
    simp only [List.map_cons, PyData.eqvAll, PyData.eqv, eqvAll_ints a b, List.cons.injEq]
    by_cases h : x = y <;> by_cases h2 : a = b <;> simp [h, h2]
theorem eqv_gD (g g' : G) : PyData.eqv (gD g) (gD g') = decide (g = g') := by
  obtain ⟨a, x, y⟩ := g
  obtain ⟨a', x', y'⟩ := g'
  simp only [gD, PyData.eqv, PyData.eqvAll, eqvAll_ints, Prod.mk.injEq]
  by_cases h1 : a = a' <;> by_cases h2 : x = x' <;> by_cases h3 : y = y' <;> simp [h1, h2, h3]
theorem eqvAll_gD : ∀ a b : List G, PyData.eqvAll (a.map gD) (b.map gD) = decide (a = b)
  | [], [] => by simp [PyData.eqvAll]
  | [], y :: b => by simp [PyData.eqvAll]
  | x :: a, [] => by simp [PyData.eqvAll]
  | x :: a, y :: b => by
    simp only [List.map_cons, PyData.eqvAll, eqv_gD, eqvAll_gD a b, List.cons.injEq]
    by_cases h : x = y <;> by_cases h2 : a = b <;> simp [h, h2]
theorem lay_ints : ∀ a : List Int, PyData.canLayAll0 (a.map PyData.int) = true ∧ PyData.depthAll (a.map PyData.int) ≤ 0
  | [] => ⟨rfl, Nat.le_refl _⟩
  | x :: a => by
    obtain ⟨h1, h2⟩ := lay_ints a
    exact ⟨by simp only [List.map_cons, PyData.canLayAll0, PyData.canLay0, h1, Bool.and_self], by simp only [List.map_cons, PyData.depthAll, PyData.depth]; omega⟩
theorem lay_gD (g : G) : PyData.canLay0 (gD g) = true ∧ PyData.depth (gD g) ≤ 2 := by
  obtain ⟨h1, h2⟩ := lay_ints g.1
  exact ⟨by simp [gD, PyData.canLay0, PyData.canLayAll0, h1], by simp only [gD, PyData.depth, PyData.depthAll]; omega⟩
theorem lay_gDs : ∀ gs : List G, PyData.canLayAll0 (gs.map gD) = true ∧ PyData.depthAll (gs.map gD) ≤ 2
  | [] => ⟨rfl, by simp [PyData.depthAll]⟩
  | g :: gs => by
    obtain ⟨h1, h2⟩ := lay_gDs gs
    obtain ⟨h3, h4⟩ := lay_gD g
    exact ⟨by simp only [List.map_cons, PyData.canLayAll0, h1, h3, Bool.and_self], by simp only [List.map_cons, PyData.depthAll]; omega⟩
theorem shaped_of {d : PyData} (h : PyData.canLay0 d = true ∧ PyData.depth d ≤ 64) : SeqAt.shaped d = true := by
  unfold SeqAt.shaped
  rw [h.1, Bool.true_and]
  exact decide_eq_true h.2
theorem sh_ints (a : List Int) : SeqAt.shaped (.list (a.map PyData.int)) = true := shaped_of (by
  obtain ⟨h1, h2⟩ := lay_ints a
  exact ⟨by simp only [PyData.canLay0, h1], by simp only [PyData.depth]; omega⟩)
theorem sh_intsT (a : List Int) : SeqAt.shaped (.tuple (a.map PyData.int)) = true := shaped_of (by
  obtain ⟨h1, h2⟩ := lay_ints a
  exact ⟨by simp only [PyData.canLay0, h1], by simp only [PyData.depth]; omega⟩)
theorem sh_gDs (a : List G) : SeqAt.shaped (.list (a.map gD)) = true := shaped_of (by
  obtain ⟨h1, h2⟩ := lay_gDs a
  exact ⟨by simp only [PyData.canLay0, h1], by simp only [PyData.depth]; omega⟩)
theorem sh_gDsT (a : List G) : SeqAt.shaped (.tuple (a.map gD)) = true := shaped_of (by
  obtain ⟨h1, h2⟩ := lay_gDs a
  exact ⟨by simp only [PyData.canLay0, h1], by simp only [PyData.depth]; omega⟩)
theorem dp_ints {K : PySem.W.Frag} {H : Hp} : ∀ a : List Int, DpAll K H (a.map V.int) (a.map PyData.int) := dpAll_ints
theorem GA.dp {K : PySem.W.Frag} {H : Hp} {a : Addr} {g : G} (h : GA K H a g) : Dp K H (.ref a) (gD g) := by
  obtain ⟨x, h1, h2⟩ := h
  exact .tup h1 (.cons (.tup h2 (dp_ints _)) (.cons (.int _) (.cons (.int _) .nil)))
/-! ### rows of gates -/
abbrev PG' := List (Addr × G)
def refs (ps : PG') : List V := ps.map fun p => V.ref p.1
def gts (ps : PG') : List G := ps.map (·.2)
def GAs (K : PySem.W.Frag) (H : Hp) (ps : PG') : Prop := ∀ p ∈ ps, GA K H p.1 p.2
theorem GAs.tups {K : PySem.W.Frag} {H H' : Hp} {ps : PG'} (e : TupS K H H') (h : GAs K H ps) : GAs K H' ps := fun p hp => (h p hp).tups e
theorem GAs.dp {K : PySem.W.Frag} {H : Hp} : ∀ {ps : PG'}, GAs K H ps → DpAll K H (refs ps) ((gts ps).map gD)
  | [], _ => .nil
  | p :: r, h => .cons (h p List.mem_cons_self).dp (GAs.dp fun q hq => h q (List.mem_cons_of_mem _ hq))
theorem refs_get {ps : PG'} {i : Nat} {y : V} (h : (refs ps)[i]? = some y) : ∃ p, ps[i]? = some p ∧ y = .ref p.1 := by
  unfold refs at h
  rw [List.getElem?_map] at h
  cases e : ps[i]? with
  | none => rw [e] at h; cases h
  | some p => rw [e] at h; exact ⟨p, rfl, (Option.some.inj h).symm⟩
theorem refs_length (ps : PG') : (refs ps).length = ps.length := by simp [refs]
theorem gts_length (ps : PG') : (gts ps).length = ps.length := by simp [gts]
theorem gts_get {ps : PG'} {i : Nat} {p : Addr × G} (h : ps[i]? = some p) : (gts ps)[i]? = some p.2 := by
  unfold gts
  rw [List.getElem?_map, h]
  rfl
theorem gts_app (a b : PG') : gts (a ++ b) = gts a ++ gts b := by simp [gts]
theorem refs_app (a b : PG') : refs (a ++ b) = refs a ++ refs b := by simp [refs]
theorem gas_app {K : PySem.W.Frag} {H : Hp} {a b : PG'} (h1 : GAs K H a) (h2 : GAs K H b) : GAs K H (a ++ b) := fun p hp => by
  rcases List.mem_append.mp hp with h | h
  · exact h1 p h
  · exact h2 p h
theorem gas_one {K : PySem.W.Frag} {H : Hp} {a : Addr} {g : G} (h : GA K H a g) : GAs K H [(a, g)] := fun p hp => by
  rw [List.mem_singleton.mp hp]; exact h
/-- gates as they are kept, made in a comprehension -/
def gJ (K : PySem.W.Frag) (gs : List G) : Nat → Hp → List V → Prop := fun i H acc => ∃ ps : PG', acc = refs ps ∧ gts ps = gs.take i ∧ GAs K H ps
theorem gJ_mono {K : PySem.W.Frag} {gs : List G} : ∀ i H H' acc, gJ K gs i H acc → TupS K H H' → gJ K gs i H' acc := fun _ _ _ _ ⟨ps, h1, h2, h3⟩ e => ⟨ps, h1, h2, h3.tups e⟩
theorem gJ_0 {K : PySem.W.Frag} {gs : List G} {H : Hp} : gJ K gs 0 H [] := ⟨[], rfl, rfl, fun _ h => by cases h⟩
theorem gJ_put {K : PySem.W.Frag} {gs : List G} {i : Nat} {H H' : Hp} {acc : List V} {a : Addr} {g : G} (hg : gs[i]? = some g) (h : gJ K gs i H acc) (e : TupS K H H') (ha : GA K H' a g) : gJ K gs (i + 1) H' (acc ++ [.ref a]) := by
  obtain ⟨ps, rfl, h2, h3⟩ := h
  refine ⟨ps ++ [(a, g)], by rw [refs_app]; rfl, by rw [gts_app, h2, take_snoc hg]; rfl, gas_app (h3.tups e) (gas_one ha)⟩
theorem gJ_end {K : PySem.W.Frag} {gs : List G} {H : Hp} {acc : List V} {n : Nat} (hn : n = gs.length) (h : gJ K gs n H acc) : ∃ ps : PG', acc = refs ps ∧ gts ps = gs ∧ GAs K H ps := by
  obtain ⟨ps, h1, h2, h3⟩ := h
  rw [hn, List.take_length] at h2
  exact ⟨ps, h1, h2, h3⟩
/-! ### what a gate is kept as: as it is -/
theorem kgO_wf {n : Nat} {g : G} (h : WF n g) : kgO (n : Int) g.1 g.2.1 g.2.2 = some g := by
  unfold kgO
  have h1 : ((g.1 ++ [g.2.1, g.2.2]).all fun z => decide (0 ≤ z) && decide (z ≤ (n : Int) - 1)) = true := by
    rw [List.all_eq_true]
    intro z hz
    have := h.inn z hz
    simp only [Bool.and_eq_true, decide_eq_true_eq]
    omega
  rw [if_pos ⟨h1, h.nd⟩, srt_of_sorted h.asc]
  have := h.lt
  rw [Int.min_eq_left (by omega), Int.max_eq_right (by omega)]
theorem WF.len {n : Nat} {g : G} (h : WF n g) : g.1.length ≤ n := by
  have : ∀ (l m : List Int), l.Nodup → (∀ x ∈ l, x ∈ m) → l.length ≤ m.length := by
    intro l
    induction l with
    | nil => intro m _ _; simp
    | cons x r ih =>
      intro m hn hs
      obtain ⟨a1, a2⟩ := List.nodup_cons.mp hn
      have hp : m.Perm (x :: m.erase x) := List.perm_cons_erase (hs x List.mem_cons_self)
      have := ih (m.erase x) a2 fun y hy => by
        rcases List.mem_cons.mp (hp.mem_iff.mp (hs y (List.mem_cons_of_mem _ hy))) with e | h
        · exact absurd (e ▸ hy) a1
        · exact h
      have hl := hp.length_eq
      simp only [List.length_cons] at hl ⊢
      omega
  have := this (touched g) (iota n) h.nd fun x hx => mem_iota.mpr (h.inn x hx)
  rw [iota_length, touched_length] at this
  omega

/-! ### the class Wiring -/
def kinds : List String := ["NoneType", "bool", "int", "str", "list", "tuple", "dict"]
structure WTxt (K : PySem.W.Frag) (mg : Str → Option Value) (C : Addr) : Prop where
  gC : mg "Wiring" = some (.ref C)
  cl : Cls K C
  nL : NoAttr K C "lamps"
  nG : NoAttr K C "gates"
  nH : NoAttr K C "hands"
  ha : PySem.W.findIn K (.ref C) "__class__" = some (some (.builtin "object.__class__"))
  hn : PySem.W.specialIn K (.builtin "object.__class__") "__get__" = some (some (.builtin "getset_descriptor.__get__"))
  ht : PySem.W.takesIn K (.builtin "object.__class__") = some true
  hm : PySem.W.mroIn K C (.type "object") = some true
  self : PySem.W.kitOne K (.ref C) (.ref C) = some true
  no : ∀ T ∈ kinds, PySem.W.kitOne K (.type T) (.ref C) = some false
/-- what is no wiring -/
def NoW (K : PySem.W.Frag) (H : Hp) (v : V) : Prop := ∃ T ∈ kinds, TyX K H v (.type T)
theorem NoW.same {K : PySem.W.Frag} {H H' : Hp} {v : V} (e : Same H H') (h : NoW K H v) : NoW K H' v := let ⟨T, h1, h2⟩ := h; ⟨T, h1, tyx_same e h2⟩
def wF (n : Int) (t : Addr) (m : Int) : List (Str × V) := [("lamps", .int n), ("gates", .ref t), ("hands", .int m)]
/-- a wiring: its gates at ps -/
def WirA (K : PySem.W.Frag) (C : Addr) (H : Hp) (a : Addr) (n : Int) (ps : PG') : Prop := ∃ dx t m, H a = some (.ins C dx (wF n t m)) ∧ SqT K H t (refs ps) ∧ GAs K H ps
theorem WirA.same {K : PySem.W.Frag} {C : Addr} {H H' : Hp} {a : Addr} {n : Int} {ps : PG'} (e : Same H H') (h : WirA K C H a n ps) : WirA K C H' a n ps := let ⟨dx, t, m, h1, h2, h3⟩ := h; ⟨dx, t, m, e _ _ h1, sqt_same e h2, h3.tups (Same.tups e)⟩
def f2 : List V → List (Str × V) := fun vs => [(("most" : Str), vs.getD 1 .non), (("what" : Str), vs.headD .non)]
section
variable {P : Program} {w : World} {K : PySem.W.Frag} {mg : Str → Option Value} {base : Heap}
/-! ### need_wiring -/
abbrev sNeedWiring : Stmt := topS 31
theorem scNeedWiring : FnScope ["value", "part"] ["value", "part"] (defScope sNeedWiring) := ⟨rfl, rfl, rfl, by decide +kernel, rfl, by decide +kernel, by decide +kernel⟩
def spNeedWiring (K : PySem.W.Frag) (C CW : Addr) : Sp := fun vs H Q E => ∃ v part, vs = [v, .str part] ∧ ((∃ a dx fs, v = .ref a ∧ H a = some (.ins C dx fs) ∧ Q .non H) ∨ (NoW K H v ∧ Rz E H CW (f1 [.str part])))
theorem ok_need_wiring {f C CW : Addr} {fd : FuncData} (F : FunD K "need_wiring" "need_wiring" (defArgs sNeedWiring) (defBody sNeedWiring) (defScope sNeedWiring) [.str "wiring"] [] f fd) (T : Txt K mg) (W : WTxt K mg C) (R : Er P w K mg "BadWiring" CW 1 f1) :
    FnOk P w K mg base (L2.CX P w) 2 f fd ["value", "part"] (spNeedWiring K C CW) := by
  refine F.ok scNeedWiring (fun vs H Q E h => ?_) (fun cdv A outer s H vs Q E hr h => ?_)
  · obtain ⟨v, part, rfl, _⟩ := h
    rfl
  · obtain ⟨v, part, rfl, h⟩ := h
    refine ⟨_, pss_one (ps_if (pt_not (pt_val (pe_callB call_isi (by rfl) T.zisi (by decide +kernel) (pa_cons (pv 0) (pa_cons (pe_glob (v := .ref C) (by rfl) W.gC rfl) pa_nil)))))
      (pss_one (ps_raise rfl (takes_of rfl rfl rfl rfl) (pmk_err (R.mkE _ rfl rfl rfl rfl (hr.mono (by decide))) (raises_own R.is.exC R.tyC) R.kC R.gC (pa_cons (pv 1) pa_nil)))) pss_nil), ?_⟩
    rcases h with ⟨a, dx, fs, rfl, ha, q⟩ | ⟨⟨Ty, hT, ty⟩, q⟩
    · exact ⟨_, rfl, .ref a, .ref C, .ref C, .ref C, true, rfl, .own C, .base (.ins ha W.cl W.ha W.hn W.ht W.hm), W.self, _, rfl, iteF q⟩
    · exact ⟨_, rfl, v, .ref C, .type Ty, .ref C, false, rfl, .own C, ty, W.no Ty hT, _, rfl, iteT ⟨_, rfl, rfl, q.go (Same.refl _)⟩⟩
/-! ### need_gate -/
abbrev sNeedGate : Stmt := topS 32
theorem scNeedGate : FnScope ["lamps", "value", "part", "gate"] ["lamps", "value", "part"] (defScope sNeedGate) := ⟨rfl, rfl, rfl, by decide +kernel, rfl, by decide +kernel, by decide +kernel⟩
def spNeedGate (K : PySem.W.Frag) (CW : Addr) : Sp := fun vs H Q E => ∃ n v part r, vs = [.int n, v, .str part] ∧ KgArg K H n v r ∧ (r = none → Rz E H CW (f1 [.str part])) ∧ (∀ g, r = some g → ∀ H' p, Same H H' → GA K H' p g → Q (.ref p) H')
theorem ok_need_gate {f CW : Addr} {fd : FuncData} (F : Fun K "need_gate" "need_gate" sNeedGate f fd) (T : Txt K mg) (HK : Has P w K mg base CX0 3 "kept_gate" ["lamps", "value"] [] (spKeptGate K)) (R : Er P w K mg "BadWiring" CW 1 f1) :
    FnOk P w K mg base (L2.CX P w) 4 f fd ["lamps", "value", "part"] (spNeedGate K CW) := by
  refine F.okX scNeedGate (fun vs H Q E h => ?_) (fun cdv A outer s H vs Q E hr h => ?_)
  · obtain ⟨n, v, part, r, rfl, _⟩ := h
    rfl
  · obtain ⟨n, v, part, r, rfl, hv, q0, q1⟩ := h
    refine ⟨_, pss_cons (ps_set (i := 3) scNeedGate.nd rfl (.inl rfl) (pe_h HK hr (by decide) pass0 (pa_cons (pv 0) (pa_cons (pv 1) pa_nil))))
      (pss_cons (ps_if (pt_cmpR op_isN (pv 3) pe_non (nomark _)) (pss_one (ps_raise rfl (takes_of rfl rfl rfl rfl) (pmk_err (R.mkE _ rfl rfl rfl rfl (hr.mono (by decide))) (raises_own R.is.exC R.tyC) R.kC R.gC (pa_cons (pv 2) pa_nil)))) pss_nil)
      (pss_one (ps_ret (pv 3)))), ?_⟩
    refine ⟨_, rfl, _, rfl, n, v, r, rfl, hv, fun e H' S => ?_, fun g e H' p S hg => ?_⟩
    · exact ⟨_, rfl, rfl, _, rfl, iteT ⟨_, rfl, rfl, (q0 e).go S⟩⟩
    · exact ⟨_, rfl, rfl, _, rfl, iteF ⟨_, rfl, q1 g e H' p S hg⟩⟩
/-! ### need_order -/
abbrev sNeedOrder : Stmt := topS 33
theorem scNeedOrder : FnScope ["lamps", "value", "each"] ["lamps", "value"] (defScope sNeedOrder) := ⟨rfl, rfl, rfl, by decide +kernel, rfl, by decide +kernel, by decide +kernel⟩
/-- an order of n lamps -/
def Ord (n : Int) (ns : List Int) : Prop := (ns.length : Int) = n ∧ (∀ z ∈ ns, 0 ≤ z ∧ z ≤ n - 1) ∧ ns.Nodup
def spNeedOrder (K : PySem.W.Frag) (CO : Addr) : Sp := fun vs H Q E => ∃ n v, vs = [.int n, v] ∧ ((∃ i, Kn K H v i false ∧ Rz E H CO (f1 [.str "order"])) ∨ ∃ a xs, v = .ref a ∧ SqA K H a xs ∧ xs.length ≤ 1000 ∧ (∀ x ∈ xs, KnI K H x) ∧
  ((¬ ∃ ns : List Int, xs = ns.map V.int ∧ Ord n ns) → Rz E H CO (f1 [.str "order"])) ∧ (∀ ns : List Int, xs = ns.map V.int → Ord n ns → ∀ H' p, Same H H' → SqT K H' p (ns.map V.int) → Q (.ref p) H'))
theorem all_ints {lo hi : Int} : ∀ {xs : List V}, xs.all (inV lo hi) = true → ∃ ns : List Int, xs = ns.map V.int ∧ ∀ z ∈ ns, lo ≤ z ∧ z ≤ hi
  | [], _ => ⟨[], rfl, fun _ h => by cases h⟩
  | x :: r, h => by
    rw [List.all_cons, Bool.and_eq_true] at h
    obtain ⟨ns, e, hn⟩ := all_ints h.2
    cases x with
    | int z =>
      have h1 := h.1
      simp only [inV, Bool.and_eq_true, decide_eq_true_eq] at h1
      refine ⟨z :: ns, by rw [e]; rfl, fun y hy => ?_⟩
      rcases List.mem_cons.mp hy with rfl | hy
      · exact h1
      · exact hn y hy
    | non => exact absurd h.1 (by simp [inV])
    | bl _ => exact absurd h.1 (by simp [inV])
    | str _ => exact absurd h.1 (by simp [inV])
    | byt _ => exact absurd h.1 (by simp [inV])
    | flt _ => exact absurd h.1 (by simp [inV])
    | ref _ => exact absurd h.1 (by simp [inV])
    | ty _ => exact absurd h.1 (by simp [inV])
theorem ok_need_order {f CO : Addr} {fd : FuncData} (F : Fun K "need_order" "need_order" sNeedOrder f fd) (T : Txt K mg) (HL : Has P w K mg base CX0 1 "is_list" ["value"] [] (spIsList K)) (HW : Has P w K mg base CX0 2 "is_within" ["value", "least", "most"] [] (spIsWithin K))
    (HU : Has P w K mg base CX0 1 "are_unlike" ["values"] [] (spAreUnlike K)) (R : Er P w K mg "BadOrder" CO 1 f1) :
    FnOk P w K mg base (L2.CX P w) 3 f fd ["lamps", "value"] (spNeedOrder K CO) := by
  refine F.okX scNeedOrder (fun vs H Q E h => ?_) (fun cdv A outer s H vs Q E hr h => ?_)
  · obtain ⟨n, v, rfl, _⟩ := h
    rfl
  · obtain ⟨n, v, rfl, h⟩ := h
    refine ⟨_, pss_cons (ps_if (PW.pt (pw_or (pt_not (pt_val (pe_h HL hr (by decide) pass0 (pa_cons (pv 1) pa_nil))))
        (pw_or (pt_cmpR op_ne (pe_callB call_len_seq (by rfl) T.zlen PySem.boot_len (pa_cons (pv 1) pa_nil)) (pv 0) (nomark _))
        (pw_or1 (pt_not (pt_val (pe_callB (cr_all rfl) (by rfl) T.zall (by decide +kernel) (pa_cons (pe_lc (own := [("each", 2)]) (g := gName 2) (tt := tYes) rfl scNeedOrder.nd (pi_any (pv 1))
            (blkOk_by (own := [("each", 2)]) (N := ["lamps", "value", "each"]) (sc := defScope sNeedOrder) (by decide +kernel))
            (fun _ _ _ _ _ => pg_name (i := 2) scNeedOrder.nd rfl (Or.inl rfl)) (fun _ _ _ _ _ => pts_nil) (fun _ _ _ _ _ => pe_h HW hr (by decide) pass0 (pa_cons (pv 2) (pa_cons pe_int (pa_cons (pe_op op_sub (pv 0) pe_int) pa_nil))))) pa_nil))))))))
          (pss_one (ps_raise rfl (takes_of rfl rfl rfl rfl) (pmk_err (R.mkE _ rfl rfl rfl rfl (hr.mono (by decide))) (raises_own R.is.exC R.tyC) R.kC R.gC (pa_cons pe_str pa_nil)))) pss_nil)
      (pss_cons (ps_if (pt_not (pt_val (pe_h HU hr (by decide) pass0 (pa_cons (pv 1) pa_nil)))) (pss_one (ps_raise rfl (takes_of rfl rfl rfl rfl) (pmk_err (R.mkE _ rfl rfl rfl rfl (hr.mono (by decide))) (raises_own R.is.exC R.tyC) R.kC R.gC (pa_cons pe_str pa_nil)))) pss_nil)
      (pss_one (ps_ret (pe_callTy call_tuple_of (by rfl) T.ztuple (by decide +kernel) (pa_cons (pv 1) pa_nil))))), ?_⟩
    rcases h with ⟨i, kn, q⟩ | ⟨a, xs, rfl, hS, hl, hk, qb, qg⟩
    · exact ⟨_, rfl, _, _, _, rfl, kn, fun H' S => ⟨_, rfl, iteT ⟨rfl, q.go S⟩⟩⟩
    · refine ⟨_, rfl, _, false, true, rfl, kn_any hS, fun H1 S1 => ⟨_, rfl, iteF ?_⟩⟩
      refine ⟨_, rfl, a, xs, rfl, sqa_same S1 hS, _, rfl, rfl, _, rfl, ?_⟩
      by_cases hn : (xs.length : Int) = n
      · have : (!decide (V.int (xs.length : Int) = V.int n)) = false := by rw [hn]; simp
        rw [this]
        refine iteF ⟨_, rfl, a, xs, rfl, sqa_same S1 hS, fun J Ok wk hok D hD => ?_⟩
        refine lcJ (K := K) wk (fun H' k1 k2 => hok H' (k1 _ _) (k2 _ _)) (mapJ xs fun z => .bl (inV 0 (n - 1) z)) hD (Nat.le_of_lt (small_size (by omega))) mapJ_mono mapJ_0 ?_ ?_
        · intro i z H4 acc hz hi S4 eD hacc hJ
          obtain ⟨i', l', kn, k1, k2⟩ := (hk z (List.mem_of_getElem? hz)).same (S1.trans S4)
          exact ⟨rfl, _, rfl, _, rfl, n, 1, rfl, rfl, z, i', l', 0, n - 1, rfl, kn, k1, k2, JPv.put (K := K) hD mapJ_mono S4 eD hacc hi (Same.refl _) (mapJ_put hz hJ)⟩
        · intro H4 acc S4 eD hJ
          have eacc := mapJ_end hJ
          refine ⟨D, xs.map (inV 0 (n - 1)), rfl, ?_, _, rfl, ?_⟩
          · rw [List.map_map]
            exact .of (by rw [eD, eacc]; rfl)
          have ea : (xs.map (inV 0 (n - 1))).all id = xs.all (inV 0 (n - 1)) := by
            rw [List.all_map]; rfl
          rw [ea]
          cases hall : xs.all (inV 0 (n - 1)) with
          | false =>
            refine iteT ⟨rfl, (qb ?_).go (S1.trans S4)⟩
            rintro ⟨ns, rfl, h1, h2, h3⟩
            rw [List.all_map] at hall
            have : (ns.all (inV 0 (n - 1) ∘ V.int)) = true := by
              rw [List.all_eq_true]
              intro z hz
              have := h2 z hz
              simp only [Function.comp_apply, inV, Bool.and_eq_true, decide_eq_true_eq]
              exact this
            rw [this] at hall
            cases hall
          | true =>
            obtain ⟨ns, rfl, hin⟩ := all_ints hall
            rw [List.length_map] at hn hl
            have hS4 := sqa_same (S1.trans S4) hS
            refine iteF ⟨_, rfl, a, ns, rfl, hS4, small_size (by omega), fun H5 S5 => ⟨_, rfl, ?_⟩⟩
            have S15 := (S1.trans S4).trans S5
            by_cases hnd : ns.Nodup
            · rw [decide_eq_true hnd]
              refine iteF ⟨_, rfl, a, ns.map V.int, rfl, ?_⟩
              rcases sqa_same S15 hS with h | h
              · exact .inl ⟨h, fun l hl0 => qg ns rfl ⟨hn, hin, hnd⟩ _ l (S15.trans (same_new hl0)) (.inl (.inl upd_same))⟩
              · exact .inr ⟨h, qg ns rfl ⟨hn, hin, hnd⟩ _ a S15 h⟩
            · rw [decide_eq_false hnd]
              refine iteT ⟨rfl, (qb ?_).go S15⟩
              rintro ⟨ms, e, h1, h2, h3⟩
              have : ns = ms := by
                have := congrArg (List.filterMap fun v => match v with | V.int z => some z | _ => none) e
                simpa [List.filterMap_map, Function.comp_def] using this
              exact hnd (this ▸ h3)
      · have : (!decide (V.int (xs.length : Int) = V.int n)) = true := by
          simp only [Bool.not_eq_true', decide_eq_false_iff_not]
          exact fun z => hn (V.int.inj z)
        rw [this]
        refine iteT ⟨rfl, (qb ?_).go S1⟩
        rintro ⟨ns, rfl, h1, _⟩
        rw [List.length_map] at hn
        exact hn h1
end
end K26
end K26W3

section K26W4
set_option Elab.async false
set_option linter.all false
set_option maxRecDepth 100000
set_option maxHeartbeats 4000000
/-! K26W4: Wiring.__init__ and its making. -/
namespace K26
open PySem PySem.Spec PyProof.Rows L2
section
variable {P : Program} {w : World} {K : PySem.W.Frag} {mg : Str → Option Value} {base : Heap}
/-- len, its reading by name -/
def rLenS (K : PySem.W.Frag) : List V → Hp → VK → Prop := fun xs H Q => ∃ p ys, xs = [.ref p] ∧ (SqL K H p ys ∨ SqT K H p ys) ∧ Q (.int ys.length) H
theorem call_lenS {X : Cx} : CallR X (.builtin "len") (rLenS X.K) := call_len_seq
abbrev sWiringInit : Stmt := inClass (topS 30) 0
theorem scWiringInit : FnScope ["self", "lamps", "gates", "kept", "gate", "hands", "_"] ["self", "lamps", "gates"] (defScope sWiringInit) := ⟨rfl, rfl, rfl, by decide +kernel, rfl, by decide +kernel, by decide +kernel⟩
def WFs (n : Nat) (gs : List G) : Prop := ∀ g ∈ gs, WF n g
def spWiringInit (K : PySem.W.Frag) (C CT : Addr) : Sp := fun vs H Q E => ∃ (x dx : Addr) (n : Nat) (l : Addr) (ps : PG'), vs = [.ref x, .int n, .ref l] ∧ 1 ≤ n ∧ n ≤ 8 ∧ H x = some (.ins C dx []) ∧ SqL K H l (refs ps) ∧ GAs K H ps ∧ WFs n (gts ps) ∧ ps.length ≤ 2000000 ∧
  (ps.length ≤ 20000 → ∀ H' (ps' : PG'), (∀ b o, b ≠ x → H b = some o → H' b = some o) → gts ps' = gts ps → (∃ t m, H' x = some (.ins C dx (wF n t m)) ∧ SqT K H' t (refs ps') ∧ GAs K H' ps') → Q .non H') ∧ (20000 < ps.length → Rz E H CT (f2 [.str "gates", .int 20000]))
theorem any_eqv_none : ∀ gs : List G, ((gs.map gD).any fun z => PyData.eqv z .none) = false
  | [] => rfl
  | g :: r => by
    rw [List.map_cons, List.any_cons, any_eqv_none r]
    simp [gD, PyData.eqv]
theorem size_2m {n : Nat} (h : n ≤ 2000000) : n ≤ sizeLine := Nat.le_trans h (by decide)
theorem ok_wiring_init {f C CB CW CT : Addr} {fd : FuncData} (F : Fun K "__init__" "Wiring.__init__" sWiringInit f fd) (T : Txt K mg) (W : WTxt K mg C) (HN : Has P w K mg base (L2.CX P w) 3 "need_number" ["value", "part", "least", "most"] [] (spNeedNumber K CB))
    (HL : Has P w K mg base CX0 1 "is_list" ["value"] [] (spIsList K)) (HK : Has P w K mg base CX0 3 "kept_gate" ["lamps", "value"] [] (spKeptGate K)) (RW : Er P w K mg "BadWiring" CW 1 f1) (RT : Er P w K mg "TooMany" CT 2 f2) :
    FnOk P w K mg base (L2.CX P w) 4 f fd ["self", "lamps", "gates"] (spWiringInit K C CT) := by
  refine F.okX scWiringInit (fun vs H Q E h => ?_) (fun cdv A outer s H vs Q E hr h => ?_)
  · obtain ⟨x, dx, n, l, ps, rfl, _⟩ := h
    rfl
  · obtain ⟨x, dx, n, l, ps, rfl, hn1, hn8, hx, hS, hG, hW, hl, qg, qb⟩ := h
    obtain ⟨t8, c8⟩ := T.cLamps
    obtain ⟨tG, cG⟩ := T.cGates
    have hu : (A.deeper (envOfC "Wiring.__init__" (defScope sWiringInit) s.heap.objs.size f cdv)).units + 65 < cLine := by have := hr.un; omega
    have hu1 : (A.deeper (envOfC "Wiring.__init__" (defScope sWiringInit) s.heap.objs.size f cdv)).units + 1 < cLine := by omega
    have hRZ := takes_of (X := cxOf (L2.CX P w) P w K mg base ["self", "lamps", "gates", "kept", "gate", "hands", "_"] "Wiring.__init__" (defScope sWiringInit) f cdv A outer s H E) rfl rfl rfl rfl
    refine ⟨_, pss_cons (ps_expr (pe_h (E := E) HN hr (by decide) (passes_call hRZ fun _ _ _ _ h => h) (pa_cons (pv 1) (pa_cons pe_str (pa_cons pe_int (pa_cons (pe_glob (v := .int 8) (by rfl) c8 ⟨_, rfl⟩) pa_nil))))))
      (pss_cons (ps_if (pt_not (pt_val (pe_h HL hr (by decide) pass0 (pa_cons (pv 2) pa_nil)))) (pss_one (ps_raise rfl hRZ (pmk_err (RW.mkE _ rfl rfl rfl rfl (hr.mono (by decide))) (raises_own RW.is.exC RW.tyC) RW.kC RW.gC (pa_cons pe_str pa_nil)))) pss_nil)
      (pss_cons (ps_set (i := 3) scWiringInit.nd rfl (.inl rfl) (pe_callTy call_tuple_of (by rfl) T.ztuple (by decide +kernel) (pa_cons (pe_lc (own := [("gate", 4)]) (g := gName 4) (tt := tYes) rfl scWiringInit.nd (pi_list (pv 2))
            (blkOk_by (own := [("gate", 4)]) (N := ["self", "lamps", "gates", "kept", "gate", "hands", "_"]) (sc := defScope sWiringInit) (by decide +kernel))
            (fun _ _ _ _ _ => pg_name (i := 4) scWiringInit.nd rfl (Or.inl rfl)) (fun _ _ _ _ _ => pts_nil) (fun _ _ _ _ _ => pe_h HK hr (by decide) pass0 (pa_cons (pv 1) (pa_cons (pv 4) pa_nil)))) pa_nil)))
      (pss_cons (ps_if (pt_cmpR (op_inT hu) pe_non (pv 3) (by rfl)) (pss_one (ps_raise rfl hRZ (pmk_err (RW.mkE _ rfl rfl rfl rfl (hr.mono (by decide))) (raises_own RW.is.exC RW.tyC) RW.kC RW.gC (pa_cons pe_str pa_nil)))) pss_nil)
      (pss_cons (ps_if (pt_cmpR op_gt (pe_callB call_len_seq (by rfl) T.zlen PySem.boot_len (pa_cons (pv 3) pa_nil)) (pe_glob (v := .int 20000) (by rfl) cG ⟨_, rfl⟩) (nomark _))
          (pss_one (ps_raise rfl hRZ (pmk_err (RT.mkE _ rfl rfl rfl rfl (hr.mono (by decide))) (raises_own RT.is.exC RT.tyC) RT.kC RT.gC (pa_cons pe_str (pa_cons (pe_glob (v := .int 20000) (by rfl) cG ⟨_, rfl⟩) pa_nil))))) pss_nil)
      (pss_cons (ps_fld (pv 0) (pv 1) rfl)
      (pss_cons (ps_fld (pv 0) (pv 3) rfl)
      (pss_one (ps_fld (pv 0) (pe_callBK (crk_maxDef rfl hu1) (by rfl) T.zmax (by decide +kernel) (pa_cons (pe_lc (own := [("hands", 5), ("_", 6)]) (g := gTup K 3 (gCons (gName 5) (gCons (gName 6) (gCons (gName 6) gNil)))) (tt := tYes) (te := tCB (rLenS K) (tCons (tVar 5) tNil)) rfl scWiringInit.nd (pi_tup (pv 3))
            (blkOk_by (own := [("hands", 5), ("_", 6)]) (N := ["self", "lamps", "gates", "kept", "gate", "hands", "_"]) (sc := defScope sWiringInit) (by decide +kernel))
            (fun _ _ _ _ _ => pg_tup rfl (pgs_cons (pg_name (i := 5) scWiringInit.nd rfl (Or.inl rfl)) (pgs_cons (pg_name (i := 6) scWiringInit.nd rfl (Or.inl rfl)) (pgs_cons (pg_name (i := 6) scWiringInit.nd rfl (Or.inl rfl)) pgs_nil)))) (fun _ _ _ _ _ => pts_nil)
            (fun _ _ _ _ _ => pe_callB call_lenS (by rfl) T.zlen PySem.boot_len (pa_cons (pv 5) pa_nil))) pa_nil) (pk_cons pe_int pk_nil)) rfl)))))))), ?_⟩
    refine ⟨_, rfl, _, "lamps", 1, 8, rfl, knI_int _, fun _ => ?_, fun e => ?_⟩
    case refine_2 =>
      exfalso
      have : inV 1 8 (.int (n : Int)) = true := by simp only [inV, Bool.and_eq_true, decide_eq_true_eq]; omega
      rw [this] at e
      cases e
    refine ⟨_, rfl, _, false, true, rfl, kn_list hS, fun H1 S1 => ⟨_, rfl, iteF ?_⟩⟩
    refine ⟨_, rfl, l, rfl, ⟨_, S1.seq hS⟩, fun D hD => ?_⟩
    refine lcJ (K := K) (walk_list K l (refs ps)) (fun H' k _ => k _ _ (S1.seq hS)) (gJ K (gts ps)) hD (by rw [refs_length]; exact size_2m hl) gJ_mono gJ_0 ?_ ?_
    · intro i z H2 acc hz hi S2 eD hacc hJ
      obtain ⟨p, hp, rfl⟩ := refs_get hz
      have hg : GA K H2 p.1 p.2 := ((hG p (List.mem_of_getElem? hp)).tups (Same.tups S1)).tups (Same.tups S2)
      have hw := hW p.2 (List.mem_of_getElem? (gts_get hp))
      obtain ⟨h, g1, g2⟩ := hg
      refine ⟨rfl, _, rfl, _, rfl, (n : Int), .ref p.1, some p.2, rfl, .inr (.inr ⟨p.1, h, p.2.1, p.2.2.1, p.2.2.2, rfl, .inr g1, .inr g2, Nat.le_trans hw.len (by omega), (kgO_wf hw).symm⟩), (fun e => by cases e), fun g e H3 q S3 hga => ?_⟩
      cases e
      exact JPv.put (K := K) hD gJ_mono S2 eD hacc hi S3 (gJ_put (gts_get hp) hJ (Same.tups S3) hga)
    · intro H2 acc S2 eD hJ
      obtain ⟨ps', rfl, eg, hG'⟩ := gJ_end (by rw [refs_length, gts_length]) hJ
      refine ⟨D, refs ps', rfl, .inl ⟨.of eD, fun t ht => ?_⟩⟩
      generalize hH3 : upd H2 t (HO.tup (refs ps')) = H3
      have S3 : Same H2 H3 := by rw [← hH3]; exact same_new ht
      have et : H3 t = some (.tup (refs ps')) := by rw [← hH3, upd_same]
      have hT3 : SqT K H3 t (refs ps') := .inl (.inl et)
      have S03 := (S1.trans S2).trans S3
      have hG3 := hG'.tups (Same.tups S3)
      have hlen : ps'.length = ps.length := by rw [← gts_length, eg, gts_length]
      refine ⟨_, rfl, .none, (gts ps').map gD, .non, .tup hT3 hG3.dp, rfl, sh_gDsT _, _, rfl, ?_⟩
      rw [any_eqv_none]
      refine iteF ⟨_, rfl, t, _, rfl, .inr hT3, _, _, rfl, rfl, _, rfl, ?_⟩
      rw [refs_length, hlen]
      by_cases hb : 20000 < ps.length
      · have : decide ((ps.length : Int) > 20000) = true := decide_eq_true (by omega)
        rw [this]
        exact iteT ⟨rfl, (qb hb).go S03⟩
      · have : decide ((ps.length : Int) > 20000) = false := decide_eq_false (by omega)
        rw [this]
        have hx3 := S03 _ _ hx
        have nxt : x ≠ t := ne_of hx3 et (by intro z; cases z)
        refine iteF ⟨_, rfl, _, rfl, x, C, dx, [], rfl, hx3, W.cl, W.nL, (by show 0 < 1000; decide), ?_⟩
        refine ⟨_, rfl, _, rfl, x, C, dx, _, rfl, upd_same, W.cl, W.nG, (by show 1 < 1000; decide), ?_⟩
        generalize hH4 : upd (upd H3 x _) x _ = H4
        have k4 : ∀ b o, b ≠ x → H3 b = some o → H4 b = some o := fun b o hb e => by
          rw [← hH4, upd_ne hb, upd_ne hb]; exact e
        have x4 : H4 x = some (.ins C dx [("lamps", .int n), ("gates", .ref t)]) := by rw [← hH4, upd_same]; rfl
        have tp4 : TupS K H3 H4 := fun a ys h => by
          rcases h with (h | ⟨ob, h⟩) | h
          · exact .inl (.inl (k4 _ _ (ne_of h hx3 (by intro z; cases z)) h))
          · exact .inl (.inr ⟨ob, k4 _ _ (ne_of h hx3 (by intro z; cases z)) h⟩)
          · exact .inr h
        refine ⟨_, rfl, t, rfl, ⟨_, tp4 _ _ hT3⟩, fun D2 hD2 => ?_⟩
        refine lcJ (K := K) (walk_tup K t (refs ps')) (fun H' _ k => k _ _ (tp4 _ _ hT3)) (fun i _ acc => ∃ ns : List Int, acc = ns.map V.int) hD2 (by rw [refs_length, hlen]; exact size_2m hl) (fun _ _ _ _ h _ => h) ⟨[], rfl⟩ ?_ ?_
        · intro i z H5 acc hz hi S5 eD2 hacc hJ
          obtain ⟨p, hp, rfl⟩ := refs_get hz
          obtain ⟨h, g1, g2⟩ := (hG3.tups (tp4.trans (Same.tups S5))) p (List.mem_of_getElem? hp)
          obtain ⟨ns, rfl⟩ := hJ
          refine ⟨p.1, _, rfl, g1, rfl, _, _, rfl, _, _, rfl, _, _, rfl, rfl, rfl, _, rfl, h, _, rfl, .inr g2, ?_⟩
          exact JPv.put (K := K) hD2 (fun _ _ _ _ h _ => h) S5 eD2 hacc hi (Same.refl _) ⟨ns ++ [((p.2.1.map V.int).length : Int)], by simp⟩
        · intro H5 acc S5 eD2 hJ
          obtain ⟨ns, rfl⟩ := hJ
          refine ⟨D2, ns, 0, rfl, rfl, .of eD2, fun m => ?_⟩
          have x5 := S5 _ _ x4
          refine ⟨_, rfl, x, C, dx, _, rfl, x5, W.cl, W.nH, (by show 2 < 1000; decide), ?_⟩
          refine qg (by omega) _ ps' (fun b o hb e => ?_) eg ⟨t, m, by rw [upd_same]; rfl, ?_, ?_⟩
          · rw [upd_ne hb]
            exact S5 _ _ (k4 _ _ hb (S03 _ _ e))
          all_goals
            have tp5 : TupS K H5 (upd H5 x (.ins C dx (wF n t m))) := tups_put x5 (fun _ z => by cases z) (fun _ _ z => by cases z)
          · exact tp5 _ _ ((tp4.trans (Same.tups S5)) _ _ hT3)
          · exact hG3.tups ((tp4.trans (Same.tups S5)).trans tp5)
end
end K26
end K26W4

section K26W5
set_option Elab.async false
set_option linter.all false
set_option maxRecDepth 100000
set_option maxHeartbeats 4000000
/-! K26W5: a wiring made; is_near_gate, crossings_for. -/
namespace K26
open PySem PySem.Spec PyProof.Rows L2
/-! ### Wiring(..) -/
structure HasC (P : Program) (w : World) (K : PySem.W.Frag) (mg : Str → Option Value) (base : Heap) (CX : CXT) (k : Nat) (x : Str) (C : Addr) (ps : List Str) (sp : Sp) : Prop where
  ex : ∃ (f : Addr) (fd : FuncData), FnOk P w K mg base CX k f fd ps sp ∧ Mk K C f ∧ mg x = some (.ref C) ∧ Binds K fd ps []
/-- what a making of a wiring asks -/
def MkW (K : PySem.W.Frag) (C CT : Addr) (E : XK) : List V → Hp → VK → Prop := fun vs H Q => ∃ (n : Nat) (l : Addr) (ps : PG'), vs = [.int n, .ref l] ∧ 1 ≤ n ∧ n ≤ 8 ∧ SqL K H l (refs ps) ∧ GAs K H ps ∧ WFs n (gts ps) ∧ ps.length ≤ 2000000 ∧
  (ps.length ≤ 20000 → ∀ H' a (ps' : PG'), Same H H' → gts ps' = gts ps → WirA K C H' a n ps' → Q (.ref a) H') ∧ (20000 < ps.length → Rz E H CT (f2 [.str "gates", .int 20000]))
section
variable {X : Cx} {k j : Nat} {C CT : Addr} {E : XK} {p pos : Pos} {e : Expr} {es : List Expr} {t : TA}
theorem pe_wir (F : HasC X.prog X.w X.K X.mg X.base (L2.CX X.prog X.w) j "Wiring" C ["self", "lamps", "gates"] (spWiringInit X.K C CT)) (hr : Room k X.A) (hj : j + 1 ≤ k) (hx : Passes (L2.CX X.prog X.w) X E) (ha : PA X (e :: es) t) (hg : Gl X "Wiring" := by rfl)
    (he : starEach (e :: es) X.env = (false, eval e X.env) :: starEach es X.env := by rfl) (hpl : (backTo pos (starEach es X.env)).any (·.1) = false := by rfl) : PE X (.Call (.Name "Wiring" p) (e :: es) [] pos) (fun σ H Q => t σ H fun vs H1 => MkW X.K C CT E vs H1 Q) := by
  obtain ⟨f, fd, F, M, hm, hb⟩ := F.ex
  refine ⟨fun pins s σ H Q I h => ?_⟩
  refine wpAny_Call_Name_kw (ld_glob I hg hm ?_ (by decide))
  refine PySem.W.callWith_K (h₀ := X.base) I.ok.mod.kin M.kp (thn (ha.run pos pins s σ H _ I h) fun us s1 ⟨vs, H1, I1, r, q⟩ => ⟨I1.kIn, ?_⟩) he hpl
  refine run_make M F (hr.mono hj) hb .nil hx I1 r fun x dx nx ndx nex => ?_
  obtain ⟨n, l, ps, rfl, h1, h8, hS, hG, hW, hl, qg, qb⟩ := q
  have S : Same H1 (upd (upd H1 dx (.own x)) x (.ins C dx [])) := fun b o e => by
    rw [upd_ne (ne_of_none e nx), upd_ne (ne_of_none e ndx)]
    exact e
  refine ⟨x, dx, n, l, ps, rfl, h1, h8, upd_same, S.seq hS, hG.tups (Same.tups S), hW, hl, fun hz H' ps' k eg ⟨t, m, a1, a2, a3⟩ => ⟨rfl, qg hz H' x ps' (fun b o hb => ?_) eg ⟨dx, t, m, a1, a2, a3⟩⟩, fun hz => (qb hz).same S⟩
  exact k b o (ne_of_none hb nx) (S b o hb)
end
section
variable {P : Program} {w : World} {K : PySem.W.Frag} {mg : Str → Option Value} {base : Heap}
/-! ### is_near_gate -/
abbrev sIsNearGate : Stmt := topS 35
theorem scIsNearGate : FnScope ["gate", "touched"] ["gate"] (defScope sIsNearGate) := ⟨rfl, rfl, rfl, by decide +kernel, rfl, by decide +kernel, by decide +kernel⟩
def nearL : List Int → Bool
  | [] => true
  | x :: xs => decide (mxI x xs - mnI x xs = ((x :: xs).length : Int) - 1)
def nearB (g : G) : Bool := nearL (touched g)
def spIsNearGate (K : PySem.W.Frag) : Sp := fun vs H Q _ => ∃ a g, vs = [.ref a] ∧ GA K H a g ∧ g.1.length ≤ 1000 ∧ ∀ H', Same H H' → Q (.bl (nearB g)) H'
theorem ok_is_near_gate {f : Addr} {fd : FuncData} (F : Fun K "is_near_gate" "is_near_gate" sIsNearGate f fd) (T : Txt K mg) (HT : Has P w K mg base CX0 1 "touched_by" ["gate"] [] (spTouchedBy K)) : FnOk P w K mg base CX0 2 f fd ["gate"] (spIsNearGate K) := by
  refine F.ok scIsNearGate (fun vs H Q E h => ?_) (fun cdv A outer s H vs Q E hr h => ?_)
  · obtain ⟨a, g, rfl, _⟩ := h
    rfl
  · obtain ⟨a, g, rfl, hg, hl, q⟩ := h
    have hu1 : (A.deeper (envOfC "is_near_gate" (defScope sIsNearGate) s.heap.objs.size f cdv)).units + 1 < cLine := hu_of hr
    refine ⟨_, pss_cons (ps_set (i := 1) scIsNearGate.nd rfl (.inl rfl) (pe_h HT hr (by decide) pass0 (pa_cons (pv 0) pa_nil)))
      (pss_one (ps_ret (pe_cmpR op_eq (pe_op op_sub (pe_callB (cr_maxA rfl hu1) (by rfl) T.zmax (by decide +kernel) (pa_cons (pv 1) pa_nil)) (pe_callB (cr_minA rfl hu1) (by rfl) T.zmin (by decide +kernel) (pa_cons (pv 1) pa_nil)))
        (pe_op op_sub (pe_callB call_lenS (by rfl) T.zlen PySem.boot_len (pa_cons (pv 1) pa_nil)) pe_int) (nomark _)))), ?_⟩
    refine ⟨_, rfl, a, g, rfl, hg, hl, fun H1 p S1 ep => ?_⟩
    obtain ⟨x, xs, e⟩ : ∃ x xs, touched g = x :: xs := by
      cases e : touched g with
      | nil => have := touched_length g; rw [e] at this; simp at this
      | cons x xs => exact ⟨x, xs, rfl⟩
    rw [e] at ep
    have hS : SqT K H1 p ((x :: xs).map V.int) := .inl (.inl ep)
    refine ⟨_, rfl, p, x, xs, rfl, .inr hS, _, rfl, p, x, xs, rfl, .inr hS, _, _, rfl, rfl, _, rfl, p, _, rfl, .inr hS, _, _, rfl, rfl, rfl, ?_⟩
    have : decide (V.int (mxI x xs - mnI x xs) = V.int (((x :: xs).map V.int).length - 1)) = nearB g := by
      unfold nearB
      rw [e, List.length_map]
      exact decide_eq_decide.mpr ⟨fun z => V.int.inj z, fun z => congrArg V.int z⟩
    rw [this]
    exact q _ S1
/-! ### crossings_for -/
abbrev sCrossings : Stmt := topS 36
theorem scCrossings : FnScope ["order", "left", "found", "at"] ["order"] (defScope sCrossings) := ⟨rfl, rfl, rfl, by decide +kernel, rfl, by decide +kernel, by decide +kernel⟩
/-- a new list of gates -/
def GL (K : PySem.W.Frag) (H' : Hp) (p : Addr) (gs : List G) : Prop := ∃ ps : PG', H' p = some (.lst (refs ps)) ∧ gts ps = gs ∧ GAs K H' ps
def spCrossings (K : PySem.W.Frag) : Sp := fun vs H Q _ => ∃ (a : Addr) (ns : List Int), vs = [.ref a] ∧ SqA K H a (ns.map V.int) ∧ ns.length ≤ 100 ∧ ∀ H' p, Same H H' → H p = none → GL K H' p ((crossAt ns 0).map xg) → Q (.ref p) H'
theorem inv_small {l : List Int} (h : l.length ≤ 100) : inv l ≤ 5000 := by
  have h1 := inv_le l
  have h2 : l.length * (l.length - 1) ≤ 100 * 100 := Nat.mul_le_mul h (by omega)
  omega
theorem ixN_nat {n j : Nat} (h : j < n) : ixN n (j : Int) = some j := by
  unfold ixN
  rw [if_pos (by omega), if_pos (by omega)]
  simp
theorem ok_crossings {f : Addr} {fd : FuncData} (F : Fun K "crossings_for" "crossings_for" sCrossings f fd) (T : Txt K mg) : FnOk P w K mg base CX0 1 f fd ["order"] (spCrossings K) := by
  refine F.ok scCrossings (fun vs H Q E h => ?_) (fun cdv A outer s H vs Q E hr h => ?_)
  · obtain ⟨a, ns, rfl, _⟩ := h
    rfl
  · obtain ⟨a, ns, rfl, hS, hl, q⟩ := h
    refine ⟨_, pss_cons (ps_par3 (i := 1) (j := 2) (l := 3) rfl scCrossings.nd rfl rfl rfl (by decide) (by decide) (by decide) rfl rfl rfl (pa_cons (pe_callTy call_list_of (by rfl) T.zlist (by decide +kernel) (pa_cons (pv 0) pa_nil)) (pa_cons (pe_lst pa_nil) (pa_cons pe_int pa_nil))) rfl)
      (pss_cons (ps_while PassesOwn.never (pt_cmpR op_lt (pv 3) (pe_op op_sub (pe_callB call_lenS (by rfl) T.zlen PySem.boot_len (pa_cons (pv 1) pa_nil)) pe_int) (nomark _))
        (pss_one (ps_if (pt_cmpR op_gt (pe_ix ix_list (pv 1) (pv 3) (fun _ _ => rfl)) (pe_ix ix_list (pv 1) (pe_op op_add (pv 3) pe_int) (fun _ _ => rfl)) (nomark _))
          (pss_cons (ps_asg (pe_tup (pa_cons (pe_ix ix_list (pv 1) (pe_op op_add (pv 3) pe_int) (fun _ _ => rfl)) (pa_cons (pe_ix ix_list (pv 1) (pv 3) (fun _ _ => rfl)) pa_nil))) (pg_tup rfl (pgs_cons (pg_sub (pv 1) (pv 3) set_list) (pgs_cons (pg_sub (pv 1) (pe_op op_add (pv 3) pe_int) set_list) pgs_nil))))
          (pss_cons (ps_expr (pe_bm PySem.F.plainAttrs_list PySem.F.slot_list_append PySem.F.type_list_append mt_append (pv 2) (pa_cons (pe_tup (pa_cons (pe_tup pa_nil) (pa_cons (pv 3) (pa_cons (pe_op op_add (pv 3) pe_int) pa_nil)))) pa_nil)))
          (pss_one (ps_set (i := 3) scCrossings.nd rfl (.inl rfl) (pe_callB (call_max2 rfl) (by rfl) T.zmax (by decide +kernel) (pa_cons (pe_op op_sub (pv 3) pe_int) (pa_cons pe_int pa_nil)))))))
          (pss_one (ps_set (i := 3) scCrossings.nd rfl (.inl rfl) (pe_op op_add (pv 3) pe_int))))))
      (pss_one (ps_ret (pv 2)))), ?_⟩
    refine ⟨_, rfl, a, _, rfl, hS, fun L hL => ⟨Nat.zero_le _, fun F hF => ⟨_, _, _, rfl, ?_⟩⟩⟩
    have hFL : F ≠ L := fun z => by rw [z, upd_same] at hF; cases hF
    have hF0 : H F = none := by rw [upd_ne hFL] at hF; exact hF
    refine ⟨fun m σ H1 => ∃ (l : List Int) (p : Nat) (ps : PG'), m = mu l p ∧ σ = [some (.ref a), some (.ref L), some (.ref F), some (.int (p : Int))] ∧ Same H H1 ∧ H1 L = some (.lst (l.map V.int)) ∧ H1 F = some (.lst (refs ps)) ∧ GAs K H1 ps ∧
      gts ps ++ (crossAt l p).map xg = (crossAt ns 0).map xg ∧ l.length = ns.length ∧ ps.length + inv l = inv ns, ⟨_, ns, 0, [], rfl, rfl, (same_new hL).trans (same_new hF), ?_, upd_same, (fun _ h => by cases h), rfl, rfl, by simp⟩, ?_⟩
    · rw [upd_ne hFL.symm, upd_same]
    rintro m σ H1 ⟨l, p, ps, rfl, rfl, S1, eL, eF, hG, ec, el, ei⟩
    have sL : SqL K H1 L (l.map V.int) := .of eL
    refine ⟨_, rfl, _, rfl, L, _, rfl, .inl sL, _, _, rfl, rfl, _, _, rfl, rfl, _, rfl, ?_⟩
    rw [List.length_map]
    by_cases hp : p + 1 < l.length
    · have : decide ((p : Int) < (l.length : Int) - 1) = true := decide_eq_true (by omega)
      rw [this]
      refine iteT ?_
      have gp : (l.map V.int)[p]? = some (.int (l.getD p 0)) := by rw [List.getElem?_map, getD_get (by omega)]; rfl
      have gp1 : (l.map V.int)[p + 1]? = some (.int (l.getD (p + 1) 0)) := by rw [List.getElem?_map, getD_get hp]; rfl
      have ap : atI (l.map V.int) (p : Int) = some (.int (l.getD p 0)) := atI_nat gp
      have ap1 : atI (l.map V.int) ((p : Int) + 1) = some (.int (l.getD (p + 1) 0)) := atI_nat (j := p + 1) gp1
      refine ⟨fun σ H' => ∃ m', m' < mu l p ∧ ∃ (l : List Int) (p : Nat) (ps : PG'), m' = mu l p ∧ σ = [some (.ref a), some (.ref L), some (.ref F), some (.int (p : Int))] ∧ Same H H' ∧ H' L = some (.lst (l.map V.int)) ∧ H' F = some (.lst (refs ps)) ∧ GAs K H' ps ∧
        gts ps ++ (crossAt l p).map xg = (crossAt ns 0).map xg ∧ l.length = ns.length ∧ ps.length + inv l = inv ns, fun _ _ h => h, ?_⟩
      refine ⟨_, rfl, _, rfl, L, _, _, _, rfl, rfl, sL, ap, _, rfl, _, rfl, _, _, rfl, rfl, L, _, _, _, rfl, rfl, sL, ap1, _, _, rfl, rfl, _, rfl, ?_⟩
      by_cases hlt : l.getD (p + 1) 0 < l.getD p 0
      · have : decide (l.getD p 0 > l.getD (p + 1) 0) = true := decide_eq_true hlt
        rw [this]
        refine iteT ?_
        refine ⟨_, rfl, _, rfl, _, _, rfl, rfl, L, _, _, _, rfl, rfl, sL, ap1, _, rfl, _, rfl, L, _, _, _, rfl, rfl, sL, ap, by show 2 ≤ sizeLine; decide, fun t ht => ?_⟩
        generalize hH2 : upd H1 t _ = H2
        have S2 : Same H1 H2 := by rw [← hH2]; exact same_new ht
        have et : H2 t = some (.tup [.int (l.getD (p + 1) 0), .int (l.getD p 0)]) := by rw [← hH2, upd_same]
        refine ⟨t, _, rfl, .inl (.inl et), rfl, _, _, rfl, _, rfl, _, rfl, L, _, _, p, rfl, rfl, S2 _ _ eL, ixN_nat (by rw [List.length_map]; omega), ?_⟩
        refine ⟨_, _, rfl, _, rfl, _, rfl, _, _, rfl, rfl, L, _, _, p + 1, rfl, rfl, upd_same, ixN_nat (by rw [List.length_set, List.length_map]; exact hp), rfl, ?_⟩
        generalize hH3 : upd (upd H2 L _) L _ = H3
        have eL3 : H3 L = some (.lst ((swapAt l p).map V.int)) := by
          rw [← hH3, upd_same, ← swapAt_set hp]
          simp [List.map_set]
        have ne3 : ∀ b, b ≠ L → H3 b = H2 b := fun b hb => by rw [← hH3, upd_ne hb, upd_ne hb]
        have eF3 : H3 F = some (.lst (refs ps)) := by rw [ne3 F hFL]; exact S2 _ _ eF
        have T3 : TupS K H1 H3 := (Same.tups S2).trans (by
          intro b ys h
          have nb : ∀ {o}, H2 b = some o → o ≠ .lst (l.map V.int) → b ≠ L := fun {o} e n z => by rw [z, S2 _ _ eL] at e; exact n (Option.some.inj e).symm
          rcases h with (h | ⟨ob, h⟩) | h
          · exact .inl (.inl (by rw [ne3 b (nb h (by intro z; cases z))]; exact h))
          · exact .inl (.inr ⟨ob, by rw [ne3 b (nb h (by intro z; cases z))]; exact h⟩)
          · exact .inr h)
        have S03 : Same H H3 := fun b o e => by
          rw [ne3 b (ne_of_none e hL)]
          exact S2 _ _ (S1 _ _ e)
        refine ⟨_, rfl, .inl ⟨rfl, _, .of eF3⟩, Nat.zero_le _, fun t0 ht0 => ?_⟩
        refine ⟨_, rfl, _, rfl, _, _, rfl, rfl, by show 3 ≤ sizeLine; decide, fun t1 ht1 => ?_⟩
        have ht1' : t1 ≠ t0 := fun z => by rw [z, upd_same] at ht1; cases ht1
        have S4 : Same H3 (upd (upd H3 t0 (.tup [])) t1 (.tup [.ref t0, .int (p : Int), .int ((p : Int) + 1)])) := (same_new ht0).trans (same_new ht1)
        generalize hH4 : upd (upd H3 t0 (.tup [])) t1 _ = H4 at S4
        have e4 : GA K H4 t1 (xg p) := ⟨t0, .inl (.inl (by rw [← hH4, upd_same]; rfl)), .inl (.inl (by rw [← hH4, upd_ne ht1'.symm, upd_same]; rfl))⟩
        have eF4 := S4 _ _ eF3
        have hin := inv_swap l p hp hlt
        have hsm := inv_small hl
        refine ⟨F, _, _, rfl, rfl, eF4, small_size (by rw [refs_length]; omega), ?_⟩
        have T5 : TupS K H4 (upd H4 F (.lst (refs ps ++ [.ref t1]))) := tups_lst eF4
        refine ⟨_, rfl, _, _, rfl, rfl, _, _, rfl, _, mu_swap hp hlt, swapAt l p, p - 1, ps ++ [(t1, xg p)], rfl, ?_, fun b o e => ?_, ?_, ?_, ?_, ?_, ?_, ?_⟩
        · rw [max_if]
          have : max ((p : Int) - 1) 0 = ((p - 1 : Nat) : Int) := by omega
          rw [this]
          rfl
        · rw [upd_ne (ne_of_none e hF0)]
          exact S4 _ _ (S03 _ _ e)
        · rw [upd_ne hFL.symm]
          exact S4 _ _ eL3
        · rw [upd_same, refs_app]; rfl
        · exact gas_app (hG.tups ((T3.trans (Same.tups S4)).trans T5)) (gas_one (e4.tups T5))
        · rw [gts_app, ← ec, crossAt_swap hp hlt]
          simp [gts]
        · rw [swapAt_length, el]
        · rw [List.length_append, List.length_singleton]; omega
      · have : decide (l.getD p 0 > l.getD (p + 1) 0) = false := decide_eq_false hlt
        rw [this]
        refine iteF ⟨_, rfl, _, _, rfl, rfl, _, mu_next hp, l, p + 1, ps, rfl, rfl, S1, eL, eF, hG, ?_, el, ei⟩
        rw [← ec, crossAt_next hp hlt]
    · have : decide ((p : Int) < (l.length : Int) - 1) = false := decide_eq_false (by omega)
      rw [this]
      refine iteF ⟨_, rfl, q H1 F S1 hF0 ⟨ps, eF, ?_, hG⟩⟩
      rw [← ec, crossAt_done hp]
      simp
end
end K26
end K26W5

section K26W6
set_option Elab.async false
set_option linter.all false
set_option maxRecDepth 100000
set_option maxHeartbeats 4000000
/-! K26W6: gathered, near_gates. -/
namespace K26
open PySem PySem.Spec PyProof.Rows L2
theorem inV_ints (x : Int) : ∀ ns : List Int, L2.inV (.int x) (ns.map V.int) = decide (x ∈ ns)
  | [] => rfl
  | y :: r => by
    show (eqV (.int y) (.int x) || L2.inV (.int x) (r.map V.int)) = _
    rw [inV_ints x r]
    show ((y == x) || decide (x ∈ r)) = _
    by_cases h : x = y
    · subst h; simp
    · have : (y == x) = false := by simpa using Ne.symm h
      rw [this]
      simp [h]
theorem flat_ints (ns : List Int) : (ns.map V.int).all flatV = true := by
  rw [List.all_map, List.all_eq_true]
  intro x _
  rfl
section
variable {P : Program} {w : World} {K : PySem.W.Frag} {mg : Str → Option Value} {base : Heap}
abbrev sGathered : Stmt := topS 37
theorem scGathered : FnScope ["lamps", "gate", "touched", "others", "names", "low", "high", "at", "lamp"] ["lamps", "gate"] (defScope sGathered) := ⟨rfl, rfl, rfl, by decide +kernel, rfl, by decide +kernel, by decide +kernel⟩
def spGathered (K : PySem.W.Frag) : Sp := fun vs H Q _ => ∃ (n : Nat) (a : Addr) (g : G), vs = [.int n, .ref a] ∧ GA K H a g ∧ WF n g ∧ n ≤ 8 ∧ ∀ H' p, Same H H' → H p = none → H' p = some (.lst ((gath n g).map V.int)) → Q (.ref p) H'
theorem ok_gathered {f : Addr} {fd : FuncData} (F : Fun K "gathered" "gathered" sGathered f fd) (T : Txt K mg) (HT : Has P w K mg base CX0 1 "touched_by" ["gate"] [] (spTouchedBy K)) : FnOk P w K mg base CX0 2 f fd ["lamps", "gate"] (spGathered K) := by
  refine F.ok scGathered (fun vs H Q E h => ?_) (fun cdv A outer s H vs Q E hr h => ?_)
  · obtain ⟨n, a, g, rfl, _⟩ := h
    rfl
  · obtain ⟨n, a, g, rfl, hg, wf, hn8, q⟩ := h
    have hu1 : (A.deeper (envOfC "gathered" (defScope sGathered) s.heap.objs.size f cdv)).units + 1 < cLine := hu_of hr
    refine ⟨_, pss_cons (ps_set (i := 2) scGathered.nd rfl (.inr rfl) (pe_callB cr_sortedA (by rfl) T.zsorted (by decide +kernel) (pa_cons (pe_h HT hr (by decide) pass0 (pa_cons (pv 1) pa_nil)) pa_nil)))
      (pss_cons (ps_asg (pe_tup (pa_cons (pe_ix ix_list (pv 2) pe_int (fun _ _ => rfl)) (pa_cons (pe_ix ix_list (pv 2) (pe_un un_neg pe_int) (fun _ _ => rfl)) pa_nil))) (pg_tup rfl (pgs_cons (pg_name (i := 5) scGathered.nd rfl (.inr rfl)) (pgs_cons (pg_name (i := 6) scGathered.nd rfl (.inl rfl)) pgs_nil))))
      (pss_cons (ps_setLc (i := 3) (own := [("lamp", 8)]) (g := gName 8) (tt := tTest (tOp (rIn K true) (tVar 8) (tVar 2))) rfl scGathered.nd rfl rfl (sw_true rfl rfl rfl (by decide +kernel)) (pi_range2 rfl T.zrange (pa_cons (pv 5) (pa_cons (pv 6) pa_nil)))
            (blkOk_by (own := [("lamp", 8)]) (N := ["lamps", "gate", "touched", "others", "names", "low", "high", "at", "lamp"]) (sc := defScope sGathered) (by decide +kernel))
            (fun _ _ _ _ _ => pg_name (i := 8) scGathered.nd rfl (Or.inl rfl)) (fun _ _ _ _ _ => pts_one (pt_cmpR op_notIn_seq (pv 8) (pv 2) (by rfl))) (fun _ _ _ _ _ => pv 8))
      (pss_cons (ps_set (i := 4) scGathered.nd rfl (.inr rfl) (pe_dc (own := [("at", 7), ("lamp", 8)]) (g := gTup K 2 (gCons (gName 7) (gCons (gName 8) gNil))) (tt := tYes) rfl scGathered.nd
            (pi_enum rfl T.zenum (pa_cons (pe_lst (StX.pa_star (pv 2) (StX.pa_star (pv 3) pa_nil))) pa_nil))
            (blkOk_by (own := [("at", 7), ("lamp", 8)]) (N := ["lamps", "gate", "touched", "others", "names", "low", "high", "at", "lamp"]) (sc := defScope sGathered) (by decide +kernel))
            (fun _ _ _ _ _ => pg_tup rfl (pgs_cons (pg_name (i := 7) scGathered.nd rfl (Or.inl rfl)) (pgs_cons (pg_name (i := 8) scGathered.nd rfl (Or.inl rfl)) pgs_nil))) (fun _ _ _ _ _ => pts_nil) (fun _ _ _ _ _ => pv 8) (fun _ _ _ _ _ => pe_op op_add (pv 5) (pv 7))))
      (pss_one (ps_ret (pe_lc (own := [("lamp", 8)]) (g := gName 8) (tt := tYes) rfl scGathered.nd (pi_range1 rfl T.zrange (pa_cons (pv 0) pa_nil))
            (blkOk_by (own := [("lamp", 8)]) (N := ["lamps", "gate", "touched", "others", "names", "low", "high", "at", "lamp"]) (sc := defScope sGathered) (by decide +kernel))
            (fun _ _ _ _ _ => pg_name (i := 8) scGathered.nd rfl (Or.inl rfl)) (fun _ _ _ _ _ => pts_nil) (fun _ _ _ _ _ => pe_dget2 hu1 (pv 4) (pv 8) (pv 8) ⟨rfl, rfl, rfl, rfl⟩))))))), ?_⟩
    have hgl : g.1.length ≤ 8 := Nat.le_trans wf.len hn8
    refine ⟨_, rfl, a, g, rfl, hg, by omega, fun H1 p S1 ep => ?_⟩
    refine ⟨p, touched g, rfl, .inr (.inl (.inl ep)), fun ns' t perm asc ht => ?_⟩
    have ens : ns' = tch g := srt_unique perm asc
    subst ens
    generalize hH2 : upd H1 t _ = H2
    have S2 : Same H1 H2 := by rw [← hH2]; exact same_new ht
    have et : H2 t = some (.lst ((tch g).map V.int)) := by rw [← hH2, upd_same]
    have tl0 : (tch g).length = g.1.length + 2 := tch_length g
    have glow : ((tch g).map V.int)[0]? = some (.int (low g)) := by rw [List.getElem?_map, getD_get (by omega)]; rfl
    have ghigh : atI ((tch g).map V.int) (-1) = some (.int (high g)) := by
      have e : (tch g).map V.int = ((tch g).take ((tch g).length - 1)).map V.int ++ [.int (high g)] := by
        have : tch g = (tch g).take ((tch g).length - 1) ++ [high g] := by
          apply List.ext_getElem?
          intro i
          by_cases h : i < (tch g).length - 1
          · rw [List.getElem?_append_left (by rw [List.length_take]; omega), List.getElem?_take, if_pos h]
          · by_cases h2 : i = (tch g).length - 1
            · rw [List.getElem?_append_right (by rw [List.length_take]; omega), List.length_take]
              subst h2
              rw [getD_get (by omega)]
              simp [high]
            · rw [List.getElem?_eq_none (by omega), List.getElem?_eq_none (by rw [List.length_append, List.length_take, List.length_singleton]; omega)]
        rw [show (tch g).map V.int = ((tch g).take ((tch g).length - 1) ++ [high g]).map V.int from congrArg _ this, List.map_append]
        rfl
      rw [e]
      exact atI_last _ _
    refine ⟨_, rfl, t, _, 0, _, rfl, rfl, .of et, atI_nat (j := 0) glow, _, rfl, _, rfl, t, _, -1, _, rfl, rfl, .of et, ghigh, by show 2 ≤ sizeLine; decide, fun u hu => ?_⟩
    generalize hH3 : upd H2 u _ = H3
    have S3 : Same H2 H3 := by rw [← hH3]; exact same_new hu
    have eu : H3 u = some (.tup [.int (low g), .int (high g)]) := by rw [← hH3, upd_same]
    refine ⟨u, _, rfl, .inl (.inl eu), rfl, _, _, rfl, _, _, rfl, rfl, ?_⟩
    have et3 := S3 _ _ et
    have wl := low_nn wf
    have wh := high_lt wf
    have wlh : low g ≤ high g := low_le (high_mem g)
    refine ⟨_, rfl, _, rfl, low g, high g, rfl, ⟨by omega, by omega, by omega, by omega⟩, fun D hD => ?_⟩
    have hfO : ∀ l : List Int, (l.map V.int).filterMap (fun v => match v with | .int z => if z ∈ tch g then none else some (V.int z) | _ => none) = (l.filter fun z => !decide (z ∈ tch g)).map V.int := by
      intro l
      induction l with
      | nil => rfl
      | cons z r ih =>
        by_cases h : z ∈ tch g
        · simp [List.filterMap_cons, h, ih]
        · simp [List.filterMap_cons, h, ih]
    refine lcJ (K := K) (walk_range (low g) (high g - low g).toNat) (fun _ _ _ => trivial) (fmJ (rngV (low g) (high g - low g).toNat) fun v => match v with | .int z => if z ∈ tch g then none else some (V.int z) | _ => none) hD (by rw [rngV_length]; exact Nat.le_of_lt (small_size (by omega))) fmJ_mono fmJ_0 ?_ ?_
    · intro i z H4 acc hz hi S4 eD hacc hJ
      obtain ⟨hi', rfl⟩ := rngV_get hz
      refine ⟨rfl, _, rfl, _, rfl, t, _, rfl, .inl (.of (S4 _ _ et3)), rfl, flat_ints _, _, rfl, ?_⟩
      rw [inV_ints]
      by_cases h : low g + (i : Int) ∈ tch g
      · have : (if true = true then !decide (low g + (i : Int) ∈ tch g) else decide (low g + (i : Int) ∈ tch g)) = false := by simp [h]
        rw [this]
        exact iteF (JPv.skip S4 eD hacc (Same.refl _) (fmJ_skip hz (by simp [h]) hJ))
      · have : (if true = true then !decide (low g + (i : Int) ∈ tch g) else decide (low g + (i : Int) ∈ tch g)) = true := by simp [h]
        rw [this]
        exact iteT ⟨_, rfl, JPv.put (K := K) hD fmJ_mono S4 eD hacc hi (Same.refl _) (fmJ_put hz (by simp [h]) hJ)⟩
    · intro H4 acc S4 eD hJ
      have eacc := fmJ_end hJ
      have eO : acc = (others g).map V.int := by
        rw [eacc]
        have : rngV (low g) (high g - low g).toNat = (rng (low g) (high g)).map V.int := by simp [rngV, rng]
        rw [this, hfO]
        rfl
      subst eO
      -- names
      have et4 := S4 _ _ et3
      have eTL : (tch g).map V.int ++ ((others g).map V.int ++ []) = (tl g).map V.int := by simp [tl]
      have htl : (tl g).length ≤ 8 := by rw [tl_length wf]; omega
      have hnd := tl_nodup wf
      refine ⟨_, rfl, t, _, rfl, .inr (.of et4), _, rfl, D, _, rfl, .inr (.of eD), ?_⟩
      refine ⟨(by rw [eTL, List.length_map]; exact Nat.le_of_lt (small_size (by omega)) : ((tch g).map V.int ++ ((others g).map V.int ++ [])).length ≤ sizeLine), fun L hL => ?_⟩
      generalize hH5 : upd H4 L _ = H5
      have S5 : Same H4 H5 := by rw [← hH5]; exact same_new hL
      have eL : H5 L = some (.lst ((tl g).map V.int)) := by rw [← hH5, upd_same, eTL]
      refine ⟨L, _, rfl, .of eL, fun M hM => ?_⟩
      refine dcE (K := K) (a := L) (xs := (tl g).map V.int) (fun i H6 => Same H5 H6 ∧ ∃ kvs, H6 M = some (.dK kvs) ∧ kvs.length ≤ i ∧ ∀ x : Int, valV kvs (.inl x) = if x ∈ (tl g).take i then some (.int (low g + (place x (tl g) : Int))) else none)
        ⟨same_new hM, [], upd_same, Nat.le_refl _, fun x => by simp [valV]⟩ (fun i H6 _ h => h.1.seq (.of eL)) ?_ ?_
      · rintro i y H6 t2 hy ⟨S6, kvs, eM, hk, hv⟩ ht2
        obtain ⟨x, hx, rfl⟩ := ints_get hy
        have hin : i < (tl g).length := (List.getElem?_eq_some_iff.mp hx).1
        have S7 : Same H6 (upd H6 t2 (.tup [.int (i : Nat), .int x])) := same_new ht2
        refine ⟨t2, _, rfl, .inl (.inl upd_same), rfl, _, _, rfl, _, _, rfl, rfl, rfl, ?_⟩
        refine ⟨_, rfl, _, rfl, _, rfl, _, _, rfl, rfl, kvs, .inl x, rfl, S7 _ _ eM, Nat.lt_of_le_of_lt hk (small_size (by omega)), fun b o hb => ?_, _, upd_same, ?_, fun x' => ?_⟩
        · rw [upd_ne (ne_of_none hb hM)]
          exact S7 _ _ (S6 _ _ hb)
        · have := length_putK kvs (.inl x) (.int (low g + (i : Int)))
          exact Nat.le_trans this (by omega)
        · rw [valV_put, take_snoc hx]
          by_cases h : x' = x
          · subst h
            rw [if_pos rfl, if_pos (by simp), place_of_get hnd hx]
          · have : ¬ (Sum.inl x' : Key) = .inl x := fun z => h (Sum.inl.inj z)
            rw [if_neg this, hv]
            simp [h]
      · rintro H6 ⟨S6, kvs, eM, hk, hv⟩
        rw [List.length_map, List.take_length] at hv
        refine ⟨_, rfl, (n : Int), rfl, by omega, by omega, fun R hR => ?_⟩
        have S06 := ((((S1.trans S2).trans S3).trans S4).trans S5).trans S6
        refine lcJ (K := K) (walk_range 0 (n : Int).toNat) (fun _ _ _ => trivial) (mapJ (rngV 0 (n : Int).toNat) fun v => match v with | .int z => V.int (nameF g z) | v => v) hR (by rw [rngV_length]; exact Nat.le_of_lt (small_size (by omega))) mapJ_mono mapJ_0 ?_ ?_
        · intro i z H7 acc hz hi S7 eR hacc hJ
          obtain ⟨hi', rfl⟩ := rngV_get hz
          have eM7 := S7 _ _ eM
          refine ⟨rfl, _, rfl, M, rfl, .inl ⟨kvs, .inl eM7⟩, _, rfl, _, rfl, _, DGet.k (k := Sum.inl (0 + (i : Int))) eM7, ?_⟩
          have : ((valV kvs (.inl (0 + (i : Int)))).getD (.int (0 + (i : Int)))) = V.int (nameF g (0 + (i : Int))) := by
            rw [hv]
            unfold nameF
            by_cases h : 0 + (i : Int) ∈ tl g
            · rw [if_pos h, if_pos h]; rfl
            · rw [if_neg h, if_neg h]; rfl
          rw [this]
          exact JPv.put (K := K) hR mapJ_mono S7 eR hacc hi (Same.refl _) (mapJ_put hz hJ)
        · intro H7 acc S7 eR hJ
          have eacc := mapJ_end hJ
          refine q H7 R (S06.trans S7) (S06.free hR) ?_
          rw [eR, eacc]
          simp [rngV, gath, iota, Function.comp_def]
end
end K26
end K26W6

section K26W7
set_option Elab.async false
set_option linter.all false
set_option maxRecDepth 100000
set_option maxHeartbeats 4000000
/-! K26W7: near_gates, is_near, ordered, near_gate, near. -/
namespace K26
open PySem PySem.Spec PyProof.Rows L2
theorem sorted2 {x y : Int} {ns : List Int} (h : ns.Perm [x, y]) (a : ns.Pairwise (· ≤ ·)) : ns = [min x y, max x y] := by
  have h2 : [min x y, max x y].Perm [x, y] := by
    by_cases e : x ≤ y
    · rw [Int.min_eq_left e, Int.max_eq_right e]
    · rw [Int.min_eq_right (by omega), Int.max_eq_left (by omega)]
      exact .swap _ _ _
  exact sorted_unique (h.trans h2.symm) a (by simp; omega)
section
variable {P : Program} {w : World} {K : PySem.W.Frag} {mg : Str → Option Value} {base : Heap}
/-! ### near_gates -/
abbrev sNearGates : Stmt := topS 38
theorem scNearGates : FnScope ["lamps", "gate", "names", "pair", "ahead", "hands", "one", "other", "hand"] ["lamps", "gate"] (defScope sNearGates) := ⟨rfl, rfl, rfl, by decide +kernel, rfl, by decide +kernel, by decide +kernel⟩
def spNearGates (K : PySem.W.Frag) : Sp := fun vs H Q _ => ∃ (n : Nat) (a : Addr) (g : G), vs = [.int n, .ref a] ∧ GA K H a g ∧ WF n g ∧ n ≤ 8 ∧ ∀ H' p, Same H H' → H p = none → GL K H' p (nearG n g) → Q (.ref p) H'
theorem ok_near_gates {f : Addr} {fd : FuncData} (F : Fun K "near_gates" "near_gates" sNearGates f fd) (T : Txt K mg) (HG : Has P w K mg base CX0 2 "gathered" ["lamps", "gate"] [] (spGathered K)) (HC : Has P w K mg base CX0 1 "crossings_for" ["order"] [] (spCrossings K)) :
    FnOk P w K mg base CX0 3 f fd ["lamps", "gate"] (spNearGates K) := by
  refine F.ok scNearGates (fun vs H Q E h => ?_) (fun cdv A outer s H vs Q E hr h => ?_)
  · obtain ⟨n, a, g, rfl, _⟩ := h
    rfl
  · obtain ⟨n, a, g, rfl, hg, wf, hn8, q⟩ := h
    refine ⟨_, pss_cons (ps_set (i := 2) scNearGates.nd rfl (.inr rfl) (pe_h HG hr (by decide) pass0 (pa_cons (pv 0) (pa_cons (pv 1) pa_nil))))
      (pss_cons (ps_asg (pe_tup (pa_cons (pe_h HC hr (by decide) pass0 (pa_cons (pv 2) pa_nil)) (pa_cons (pv 1) pa_nil))) (pg_tup rfl (pgs_cons (pg_name (i := 4) scNearGates.nd rfl (.inl rfl)) (pgs_cons
          (pg_tup rfl (pgs_cons (pg_name (i := 5) scNearGates.nd rfl (.inl rfl)) (pgs_cons (pg_name (i := 6) scNearGates.nd rfl (.inl rfl)) (pgs_cons (pg_name (i := 7) scNearGates.nd rfl (.inl rfl)) pgs_nil)))) pgs_nil))))
      (pss_cons (ps_set (i := 3) scNearGates.nd rfl (.inl rfl) (pe_callB cr_sortedA (by rfl) T.zsorted (by decide +kernel) (pa_cons (pe_lst (pa_cons (pe_ix ix_list (pv 2) (pv 6) (fun _ _ => rfl)) (pa_cons (pe_ix ix_list (pv 2) (pv 7) (fun _ _ => rfl)) pa_nil))) pa_nil)))
      (pss_one (ps_ret (pe_lst (StX.pa_star (pv 4) (pa_cons (pe_tup (pa_cons (pe_callTy call_tuple_of (by rfl) T.ztuple (by decide +kernel) (pa_cons (pe_callB cr_sortedA (by rfl) T.zsorted (by decide +kernel)
            (pa_cons (pe_lc (own := [("hand", 8)]) (g := gName 8) (tt := tYes) (te := tOp (rIxL K) (tVar 2) (tVar 8)) rfl scNearGates.nd (pi_tup (pv 5)) (blkOk_by (own := [("hand", 8)]) (N := ["lamps", "gate", "names", "pair", "ahead", "hands", "one", "other", "hand"]) (sc := defScope sNearGates) (by decide +kernel))
              (fun _ _ _ _ _ => pg_name (i := 8) scNearGates.nd rfl (Or.inl rfl)) (fun _ _ _ _ _ => pts_nil) (fun _ _ _ _ _ => pe_ix ix_list (pv 2) (pv 8) (fun _ _ => rfl))) pa_nil)) pa_nil))
          (pa_cons (pe_ix ix_list (pv 3) pe_int (fun _ _ => rfl)) (pa_cons (pe_ix ix_list (pv 3) pe_int (fun _ _ => rfl)) pa_nil)))) (StX.pa_star (pe_revL (pv 4)) pa_nil)))))))), ?_⟩
    have hgl : g.1.length ≤ 8 := Nat.le_trans wf.len hn8
    refine ⟨_, rfl, _, rfl, n, a, g, rfl, hg, wf, hn8, fun H1 N S1 hN eN => ?_⟩
    have hglen : (gath n g).length ≤ 8 := by rw [gath_length]; exact hn8
    refine ⟨_, rfl, N, gath n g, rfl, .inl (.of eN), by omega, fun H2 p S2 hp ⟨ps, ep, eps, hGp⟩ => ⟨_, rfl, by show 2 ≤ sizeLine; decide, fun t ht => ?_⟩⟩
    generalize hH3 : upd H2 t _ = H3
    have S3 : Same H2 H3 := by rw [← hH3]; exact same_new ht
    have et : H3 t = some (.tup [.ref p, .ref a]) := by rw [← hH3, upd_same]
    have S03 := (S1.trans S2).trans S3
    obtain ⟨h, g1, g2⟩ := hg.tups (Same.tups S03)
    have eN3 := (S2.trans S3) _ _ eN
    have ep3 := S3 _ _ ep
    have ha := wf.inn g.2.1 (by simp [touched])
    have hb := wf.inn g.2.2 (by simp [touched])
    have gix : ∀ x : Int, 0 ≤ x ∧ x < (n : Int) → atI ((gath n g).map V.int) x = some (.int (nameF g x)) := fun x hx => by
      have := atI_nat (xs := (gath n g).map V.int) (j := x.toNat) (v := .int (nameF g x)) (by rw [List.getElem?_map, gath_get hx]; rfl)
      rwa [Int.toNat_of_nonneg hx.1] at this
    refine ⟨t, _, rfl, .inl (.inl et), rfl, _, _, rfl, _, _, rfl, ⟨a, _, rfl, g1, rfl, _, _, rfl, _, _, rfl, _, _, rfl, rfl, rfl, ?_⟩⟩
    refine ⟨_, rfl, _, rfl, N, _, _, _, rfl, rfl, .of eN3, gix _ ha, _, rfl, _, rfl, N, _, _, _, rfl, rfl, .of eN3, gix _ hb, by show 2 ≤ sizeLine; decide, fun u hu => ?_⟩
    refine ⟨u, [nameF g g.2.1, nameF g g.2.2], rfl, .inl (.of upd_same), fun ns' r perm asc hr0 => ?_⟩
    have ens := sorted2 perm asc
    subst ens
    generalize hH4 : upd (upd H3 u _) r _ = H4
    have S4 : Same H3 H4 := by rw [← hH4]; exact (same_new hu).trans (same_new hr0)
    have er : H4 r = some (.lst [.int (min (nameF g g.2.1) (nameF g g.2.2)), .int (max (nameF g g.2.1) (nameF g g.2.2))]) := by rw [← hH4, upd_same]; rfl
    have hln : ps.length ≤ 1000 := by
      rw [← gts_length, eps, List.length_map, crossAt_len _ _ (fun j hj => by omega)]
      have h1 := inv_le (gath n g)
      rw [gath_length] at h1
      have h2 : n * (n - 1) ≤ 8 * 7 := Nat.mul_le_mul hn8 (by omega)
      omega
    refine ⟨_, rfl, p, refs ps, rfl, .inr (.of (S4 _ _ ep3)), _, rfl, h, rfl, ⟨_, (Same.tups S4) _ _ g2⟩, fun D hD => ?_⟩
    have g2' : SqT K H4 h (g.1.map V.int) := (Same.tups S4) _ _ g2
    refine lcJ (K := K) (walk_tup K h (g.1.map V.int)) (fun H' _ k => k _ _ g2') (mapJ (g.1.map V.int) fun v => match v with | .int z => V.int (nameF g z) | v => v) hD (by rw [List.length_map]; exact Nat.le_of_lt (small_size (by omega))) mapJ_mono mapJ_0 ?_ ?_
    · intro i z H5 acc hz hi S5 eD hacc hJ
      obtain ⟨x, hx, rfl⟩ := ints_get hz
      have hxin := wf.inn x (List.mem_append_left _ (List.mem_of_getElem? hx))
      exact ⟨rfl, _, rfl, _, rfl, N, _, _, _, rfl, rfl, .of ((S4.trans S5) _ _ eN3), gix x hxin, JPv.put (K := K) hD mapJ_mono S5 eD hacc hi (Same.refl _) (mapJ_put hz hJ)⟩
    · intro H5 acc S5 eD hJ
      have eacc := mapJ_end hJ
      have ea2 : acc = (g.1.map (nameF g)).map V.int := by rw [eacc]; simp [Function.comp_def]
      refine ⟨D, g.1.map (nameF g), rfl, .inl (.of (by rw [eD, ea2])), fun ns' v perm asc hv => ?_⟩
      have ens : ns' = srt (g.1.map (nameF g)) := srt_unique perm asc
      subst ens
      refine ⟨v, _, rfl, .inl ⟨.of upd_same, fun x hx => ?_⟩⟩
      generalize hH6 : upd (upd H5 v _) x _ = H6
      have S6 : Same H5 H6 := by rw [← hH6]; exact (same_new hv).trans (same_new hx)
      have ex : H6 x = some (.tup ((srt (g.1.map (nameF g))).map V.int)) := by rw [← hH6, upd_same]
      have er6 := (S5.trans S6) _ _ er
      refine ⟨_, rfl, r, _, 0, _, rfl, rfl, .of er6, atI_nat (j := 0) rfl, _, rfl, r, _, 1, _, rfl, rfl, .of er6, atI_nat (j := 1) rfl, by show 3 ≤ sizeLine; decide, fun y hy => ?_⟩
      generalize hH7 : upd H6 y _ = H7
      have S7 : Same H6 H7 := by rw [← hH7]; exact same_new hy
      have ey : H7 y = some (.tup [.ref x, .int (min (nameF g g.2.1) (nameF g g.2.2)), .int (max (nameF g g.2.1) (nameF g g.2.2))]) := by rw [← hH7, upd_same]
      have S47 := (S5.trans S6).trans S7
      refine ⟨_, rfl, p, refs ps, rfl, .of ((S4.trans S47) _ _ ep3), fun z hz => ?_⟩
      have S8 : Same H7 (upd H7 z (.lst (refs ps).reverse)) := same_new hz
      refine ⟨z, _, rfl, .inr (.of upd_same), ?_⟩
      have eall : refs ps ++ V.ref y :: ((refs ps).reverse ++ []) = refs (ps ++ (y, mid g) :: ps.reverse) := by simp [refs]
      refine ⟨(by rw [eall, refs_length, List.length_append, List.length_cons, List.length_reverse]; exact Nat.le_of_lt (small_size (by omega))), fun k hk => ?_⟩
      generalize hH9 : upd (upd H7 z _) k _ = H9
      have S9 : Same H7 H9 := by rw [← hH9]; exact S8.trans (same_new hk)
      have ek : H9 k = some (.lst (refs (ps ++ (y, mid g) :: ps.reverse))) := by rw [← hH9, upd_same, ← eall]
      have S09 := ((S03.trans S4).trans S47).trans S9
      refine q H9 k S09 ?_ ⟨_, ek, ?_, ?_⟩
      · have S08 := ((S03.trans S4).trans S47).trans S8
        exact S08.free hk
      · have : gts ps.reverse = (gts ps).reverse := by simp [gts]
        rw [gts_app]
        show gts ps ++ mid g :: gts ps.reverse = _
        rw [this, eps]
        rfl
      · have hP := hGp.tups (Same.tups (((S3.trans S4).trans S47).trans S9))
        refine gas_app hP fun q hq => ?_
        rcases List.mem_cons.mp hq with rfl | hq
        · exact ⟨x, .inl (.inl (S9 _ _ ey)), .inl (.inl ((S7.trans S9) _ _ ex))⟩
        · exact hP q (List.mem_reverse.mp hq)
/-! ### is_near -/
abbrev sIsNear : Stmt := topS 39
theorem scIsNear : FnScope ["wiring", "gate"] ["wiring"] (defScope sIsNear) := ⟨rfl, rfl, rfl, by decide +kernel, rfl, by decide +kernel, by decide +kernel⟩
def spIsNear (K : PySem.W.Frag) (C CW : Addr) : Sp := fun vs H Q E => ∃ v, vs = [v] ∧ ((NoW K H v ∧ Rz E H CW (f1 [.str "wiring"])) ∨ ∃ (a : Addr) (n : Int) (ps : PG'), v = .ref a ∧ WirA K C H a n ps ∧ (∀ g ∈ gts ps, g.1.length ≤ 1000) ∧ ps.length ≤ 20000 ∧ ∀ H', Same H H' → Q (.bl ((gts ps).all nearB)) H')
theorem ok_is_near {f C CW : Addr} {fd : FuncData} (F : Fun K "is_near" "is_near" sIsNear f fd) (T : Txt K mg) (W : WTxt K mg C) (HN : Has P w K mg base (L2.CX P w) 2 "need_wiring" ["value", "part"] [.str "wiring"] (spNeedWiring K C CW)) (HG : Has P w K mg base CX0 2 "is_near_gate" ["gate"] [] (spIsNearGate K)) :
    FnOk P w K mg base (L2.CX P w) 3 f fd ["wiring"] (spIsNear K C CW) := by
  refine F.okX scIsNear (fun vs H Q E h => ?_) (fun cdv A outer s H vs Q E hr h => ?_)
  · obtain ⟨v, rfl, _⟩ := h
    rfl
  · obtain ⟨v, rfl, h⟩ := h
    have hRZ := takes_of (X := cxOf (L2.CX P w) P w K mg base ["wiring", "gate"] "is_near" (defScope sIsNear) f cdv A outer s H E) rfl rfl rfl rfl
    refine ⟨_, pss_cons (ps_expr (pe_h (E := E) HN hr (by decide) (passes_call hRZ fun _ _ _ _ h => h) (pa_cons (pv 0) pa_nil)))
      (pss_one (ps_ret (pe_callB (cr_all rfl) (by rfl) T.zall (by decide +kernel) (pa_cons (pe_lc (own := [("gate", 1)]) (g := gName 1) (tt := tYes) rfl scIsNear.nd (pi_tup (pe_fld (pv 0) rfl))
            (blkOk_by (own := [("gate", 1)]) (N := ["wiring", "gate"]) (sc := defScope sIsNear) (by decide +kernel))
            (fun _ _ _ _ _ => pg_name (i := 1) scIsNear.nd rfl (Or.inl rfl)) (fun _ _ _ _ _ => pts_nil) (fun _ _ _ _ _ => pe_h HG hr (by decide) pass0 (pa_cons (pv 1) pa_nil))) pa_nil)))), ?_⟩
    rcases h with ⟨hn, qb⟩ | ⟨a, n, ps, rfl, ⟨dx, t, m, h1, h2, h3⟩, hlen, hpl, q⟩
    · exact ⟨_, rfl, v, "wiring", rfl, .inr ⟨hn, qb⟩⟩
    · refine ⟨_, rfl, _, "wiring", rfl, .inl ⟨a, dx, _, rfl, h1, ?_⟩⟩
      refine ⟨_, rfl, a, C, dx, _, _, rfl, h1, W.cl, W.nG, rfl, t, rfl, ⟨_, h2⟩, fun D hD => ?_⟩
      refine lcJ (K := K) (walk_tup K t (refs ps)) (fun H' _ k => k _ _ h2) (fun i _ acc => acc = ((gts ps).take i).map fun g => V.bl (nearB g)) hD (by rw [refs_length]; exact size_2m (by omega)) (fun _ _ _ _ h _ => h) rfl ?_ ?_
      · intro i z H5 acc hz hi S5 eD hacc hJ
        obtain ⟨p, hp, rfl⟩ := refs_get hz
        refine ⟨rfl, _, rfl, p.1, p.2, rfl, (h3 p (List.mem_of_getElem? hp)).tups (Same.tups S5), hlen p.2 (List.mem_of_getElem? (gts_get hp)), fun H6 S6 => ?_⟩
        exact JPv.put (K := K) hD (fun _ _ _ _ h _ => h) S5 eD hacc hi S6 (by rw [hJ, take_snoc (gts_get hp), List.map_append]; rfl)
      · intro H5 acc S5 eD hJ
        rw [refs_length, ← gts_length ps, List.take_length] at hJ
        refine ⟨D, (gts ps).map nearB, rfl, ?_, ?_⟩
        · rw [List.map_map]
          exact .of (by rw [eD, hJ]; rfl)
        · have : ((gts ps).map nearB).all id = (gts ps).all nearB := by rw [List.all_map]; rfl
          rw [this]
          exact q _ S5
/-! ### ordered -/
abbrev sOrdered : Stmt := topS 40
theorem scOrdered : FnScope ["lamps", "order"] ["lamps", "order"] (defScope sOrdered) := ⟨rfl, rfl, rfl, by decide +kernel, rfl, by decide +kernel, by decide +kernel⟩
def BadLamps (K : PySem.W.Frag) (H : Hp) (v : V) : Prop := KnI K H v ∧ K26.inV 1 8 v = false
def spOrdered (K : PySem.W.Frag) (C CB CO : Addr) : Sp := fun vs H Q E => ∃ v o, vs = [v, o] ∧ ((BadLamps K H v ∧ Rz E H CB (f1 [.str "lamps"])) ∨ ∃ n : Nat, v = .int n ∧ 1 ≤ n ∧ n ≤ 8 ∧ ((∃ i, Kn K H o i false ∧ Rz E H CO (f1 [.str "order"])) ∨ ∃ a xs, o = .ref a ∧ SqA K H a xs ∧ xs.length ≤ 1000 ∧ (∀ x ∈ xs, KnI K H x) ∧
  ((¬ ∃ ns : List Int, xs = ns.map V.int ∧ Ord n ns) → Rz E H CO (f1 [.str "order"])) ∧ (∀ ns : List Int, xs = ns.map V.int → Ord n ns → ∀ H' p (ps : PG'), Same H H' → WirA K C H' p n ps → gts ps = (crossAt ns 0).map xg → Q (.ref p) H')))
theorem lamps_in {n : Nat} (h1 : 1 ≤ n) (h8 : n ≤ 8) : K26.inV 1 8 (.int (n : Int)) = true := by
  simp only [K26.inV, Bool.and_eq_true, decide_eq_true_eq]; omega
theorem ok_ordered {f C CB CO CT : Addr} {fd : FuncData} (F : Fun K "ordered" "ordered" sOrdered f fd) (T : Txt K mg) (HN : Has P w K mg base (L2.CX P w) 3 "need_number" ["value", "part", "least", "most"] [] (spNeedNumber K CB)) (HO : Has P w K mg base (L2.CX P w) 3 "need_order" ["lamps", "value"] [] (spNeedOrder K CO))
    (HC : Has P w K mg base CX0 1 "crossings_for" ["order"] [] (spCrossings K)) (HW : HasC P w K mg base (L2.CX P w) 4 "Wiring" C ["self", "lamps", "gates"] (spWiringInit K C CT)) :
    FnOk P w K mg base (L2.CX P w) 6 f fd ["lamps", "order"] (spOrdered K C CB CO) := by
  refine F.okX scOrdered (fun vs H Q E h => ?_) (fun cdv A outer s H vs Q E hr h => ?_)
  · obtain ⟨v, o, rfl, _⟩ := h
    rfl
  · obtain ⟨v, o, rfl, h⟩ := h
    obtain ⟨t8, c8⟩ := T.cLamps
    have hRZ := takes_of (X := cxOf (L2.CX P w) P w K mg base ["lamps", "order"] "ordered" (defScope sOrdered) f cdv A outer s H E) rfl rfl rfl rfl
    have hps := passes_call hRZ fun _ _ _ _ h => h
    refine ⟨_, pss_cons (ps_expr (pe_h (E := E) HN hr (by decide) hps (pa_cons (pv 0) (pa_cons pe_str (pa_cons pe_int (pa_cons (pe_glob (v := .int 8) (by rfl) c8 ⟨_, rfl⟩) pa_nil))))))
      (pss_one (ps_ret (pe_wir (E := E) HW hr (by decide) hps (pa_cons (pv 0) (pa_cons (pe_h HC hr (by decide) pass0 (pa_cons (pe_h (E := E) HO hr (by decide) hps (pa_cons (pv 0) (pa_cons (pv 1) pa_nil))) pa_nil)) pa_nil))))), ?_⟩
    rcases h with ⟨⟨hk, hi⟩, qb⟩ | ⟨n, rfl, h1, h8, h⟩
    · exact ⟨_, rfl, v, "lamps", 1, 8, rfl, hk, (fun e => by rw [hi] at e; cases e), fun _ => qb⟩
    · refine ⟨_, rfl, _, "lamps", 1, 8, rfl, knI_int _, fun _ => ?_, fun e => by rw [lamps_in h1 h8] at e; cases e⟩
      refine ⟨_, rfl, _, rfl, _, rfl, n, o, rfl, ?_⟩
      rcases h with ⟨i, kn, qb⟩ | ⟨a, xs, rfl, hS, hl, hk, qb, qg⟩
      · exact .inl ⟨i, kn, qb⟩
      · refine .inr ⟨a, xs, rfl, hS, hl, hk, qb, fun ns e ho H1 p S1 hT => ?_⟩
        have hnl : ns.length ≤ 8 := by have := ho.1; omega
        refine ⟨p, ns, rfl, .inr hT, by omega, fun H2 q S2 hq0 ⟨ps, ep, eps, hG⟩ => ?_⟩
        have hlen : ps.length ≤ 5000 := by
          rw [← gts_length, eps, List.length_map, crossAt_len _ _ (fun j hj => by omega)]
          exact inv_small (by omega)
        refine ⟨n, q, ps, rfl, h1, h8, .of ep, hG, ?_, by omega, fun _ H3 r ps' S3 eg hw => qg ns e ho H3 r ps' ((S1.trans S2).trans S3) hw (eg.trans eps), fun z => by omega⟩
        intro g hg
        rw [eps] at hg
        obtain ⟨j, hj, rfl⟩ := List.mem_map.mp hg
        have := crossAt_pos _ _ j hj
        exact wf_xg (by have := ho.1; omega)
/-! ### near_gate -/
abbrev sNearGate : Stmt := topS 41
theorem scNearGate : FnScope ["lamps", "gate"] ["lamps", "gate"] (defScope sNearGate) := ⟨rfl, rfl, rfl, by decide +kernel, rfl, by decide +kernel, by decide +kernel⟩
def spNearGate (K : PySem.W.Frag) (C CB CW : Addr) : Sp := fun vs H Q E => ∃ v gv, vs = [v, gv] ∧ ((BadLamps K H v ∧ Rz E H CB (f1 [.str "lamps"])) ∨ ∃ (n : Nat) (r : Option G), v = .int n ∧ 1 ≤ n ∧ n ≤ 8 ∧ KgArg K H n gv r ∧ (r = none → Rz E H CW (f1 [.str "gate"])) ∧
  (∀ g, r = some g → WF n g ∧ ∀ H' p (ps : PG'), Same H H' → WirA K C H' p n ps → gts ps = nearG n g → Q (.ref p) H'))
theorem ok_near_gate {f C CB CW CT : Addr} {fd : FuncData} (F : Fun K "near_gate" "near_gate" sNearGate f fd) (T : Txt K mg) (HN : Has P w K mg base (L2.CX P w) 3 "need_number" ["value", "part", "least", "most"] [] (spNeedNumber K CB)) (HG : Has P w K mg base (L2.CX P w) 4 "need_gate" ["lamps", "value", "part"] [] (spNeedGate K CW))
    (HC : Has P w K mg base CX0 3 "near_gates" ["lamps", "gate"] [] (spNearGates K)) (HW : HasC P w K mg base (L2.CX P w) 4 "Wiring" C ["self", "lamps", "gates"] (spWiringInit K C CT)) :
    FnOk P w K mg base (L2.CX P w) 6 f fd ["lamps", "gate"] (spNearGate K C CB CW) := by
  refine F.okX scNearGate (fun vs H Q E h => ?_) (fun cdv A outer s H vs Q E hr h => ?_)
  · obtain ⟨v, o, rfl, _⟩ := h
    rfl
  · obtain ⟨v, gv, rfl, h⟩ := h
    obtain ⟨t8, c8⟩ := T.cLamps
    have hRZ := takes_of (X := cxOf (L2.CX P w) P w K mg base ["lamps", "gate"] "near_gate" (defScope sNearGate) f cdv A outer s H E) rfl rfl rfl rfl
    have hps := passes_call hRZ fun _ _ _ _ h => h
    refine ⟨_, pss_cons (ps_expr (pe_h (E := E) HN hr (by decide) hps (pa_cons (pv 0) (pa_cons pe_str (pa_cons pe_int (pa_cons (pe_glob (v := .int 8) (by rfl) c8 ⟨_, rfl⟩) pa_nil))))))
      (pss_one (ps_ret (pe_wir (E := E) HW hr (by decide) hps (pa_cons (pv 0) (pa_cons (pe_h HC hr (by decide) pass0 (pa_cons (pv 0) (pa_cons (pe_h (E := E) HG hr (by decide) hps (pa_cons (pv 0) (pa_cons (pv 1) (pa_cons pe_str pa_nil)))) pa_nil))) pa_nil))))), ?_⟩
    rcases h with ⟨⟨hk, hi⟩, qb⟩ | ⟨n, r, rfl, h1, h8, hg, qb, qg⟩
    · exact ⟨_, rfl, v, "lamps", 1, 8, rfl, hk, (fun e => by rw [hi] at e; cases e), fun _ => qb⟩
    · refine ⟨_, rfl, _, "lamps", 1, 8, rfl, knI_int _, fun _ => ?_, fun e => by rw [lamps_in h1 h8] at e; cases e⟩
      refine ⟨_, rfl, _, rfl, _, rfl, _, rfl, n, gv, "gate", r, rfl, hg, qb, fun g e H1 p S1 hga => ?_⟩
      obtain ⟨wf, qg⟩ := qg g e
      refine ⟨n, p, g, rfl, hga, wf, h8, fun H2 q S2 hq0 ⟨ps, ep, eps, hG⟩ => ?_⟩
      have hlen : ps.length ≤ 57 := by rw [← gts_length, eps]; exact nearG_le h8 g
      refine ⟨n, q, ps, rfl, h1, h8, .of ep, hG, ?_, by omega, fun _ H3 r ps' S3 eg hw => qg H3 r ps' ((S1.trans S2).trans S3) hw (eg.trans eps), fun z => by omega⟩
      intro g' hg'
      rw [eps] at hg'
      exact wf_nearG wf hg'
/-! ### near -/
abbrev sNear : Stmt := topS 42
theorem scNear : FnScope ["wiring", "found", "gate"] ["wiring"] (defScope sNear) := ⟨rfl, rfl, rfl, by decide +kernel, rfl, by decide +kernel, by decide +kernel⟩
def spNear (K : PySem.W.Frag) (C CW CT : Addr) : Sp := fun vs H Q E => ∃ v, vs = [v] ∧ ((NoW K H v ∧ Rz E H CW (f1 [.str "wiring"])) ∨ ∃ (a : Addr) (n : Nat) (ps : PG'), v = .ref a ∧ WirA K C H a n ps ∧ WFs n (gts ps) ∧ 1 ≤ n ∧ n ≤ 8 ∧ ps.length ≤ 20000 ∧
  (((gts ps).flatMap (nearG n)).length ≤ 20000 → ∀ H' p (ps' : PG'), Same H H' → WirA K C H' p n ps' → gts ps' = (gts ps).flatMap (nearG n) → Q (.ref p) H') ∧ (20000 < ((gts ps).flatMap (nearG n)).length → Rz E H CT (f2 [.str "gates", .int 20000])))
theorem flat_le {n : Nat} (h : n ≤ 8) : ∀ gs : List G, (gs.flatMap (nearG n)).length ≤ 57 * gs.length
  | [] => by simp
  | g :: r => by
    have h1 := nearG_le h g
    have h2 := flat_le h r
    rw [List.flatMap_cons, List.length_append, List.length_cons]
    omega
theorem ok_near {f C CW CT : Addr} {fd : FuncData} (F : Fun K "near" "near" sNear f fd) (T : Txt K mg) (W : WTxt K mg C) (HN : Has P w K mg base (L2.CX P w) 2 "need_wiring" ["value", "part"] [.str "wiring"] (spNeedWiring K C CW))
    (HC : Has P w K mg base CX0 3 "near_gates" ["lamps", "gate"] [] (spNearGates K)) (HW : HasC P w K mg base (L2.CX P w) 4 "Wiring" C ["self", "lamps", "gates"] (spWiringInit K C CT)) :
    FnOk P w K mg base (L2.CX P w) 6 f fd ["wiring"] (spNear K C CW CT) := by
  refine F.okX scNear (fun vs H Q E h => ?_) (fun cdv A outer s H vs Q E hr h => ?_)
  · obtain ⟨v, rfl, _⟩ := h
    rfl
  · obtain ⟨v, rfl, h⟩ := h
    have hRZ := takes_of (X := cxOf (L2.CX P w) P w K mg base ["wiring", "found", "gate"] "near" (defScope sNear) f cdv A outer s H E) rfl rfl rfl rfl
    have hps := passes_call hRZ fun _ _ _ _ h => h
    refine ⟨_, pss_cons (ps_expr (pe_h (E := E) HN hr (by decide) hps (pa_cons (pv 0) pa_nil)))
      (pss_cons (ps_set (i := 1) scNear.nd rfl (.inl rfl) (pe_lst pa_nil))
      (pss_cons (ps_for (passes_of rfl) rfl (pi_tup (pe_fld (pv 0) rfl)) (pg_name (i := 2) scNear.nd rfl (Or.inl rfl))
        (pss_one (ps_expr (pe_bm PySem.F.plainAttrs_list PySem.F.slot_list_extend PySem.F.type_list_extend mt_extend (pv 1) (pa_cons (pe_h HC hr (by decide) pass0 (pa_cons (pe_fld (pv 0) rfl) (pa_cons (pv 2) pa_nil))) pa_nil)))))
      (pss_one (ps_ret (pe_wir (E := E) HW hr (by decide) hps (pa_cons (pe_fld (pv 0) rfl) (pa_cons (pv 1) pa_nil))))))), ?_⟩
    rcases h with ⟨hn, qb⟩ | ⟨a, n, ps, rfl, ⟨dx, t, m, h1, h2, h3⟩, hwf, hn1, hn8, hpl, qg, qb⟩
    · exact ⟨_, rfl, v, "wiring", rfl, .inr ⟨hn, qb⟩⟩
    · refine ⟨_, rfl, _, "wiring", rfl, .inl ⟨a, dx, _, rfl, h1, ?_⟩⟩
      refine ⟨Nat.zero_le _, fun L hL => ?_⟩
      have S1 : Same H (upd H L (.lst [])) := same_new hL
      refine ⟨_, rfl, a, C, dx, _, _, rfl, S1 _ _ h1, W.cl, W.nG, rfl, t, rfl, ⟨_, sqt_same S1 h2⟩, ?_⟩
      refine forW (walk_tup K t (refs ps)) (fun i σ H1 => ∃ (y : Option V) (qs : PG'), σ = [some (.ref a), some (.ref L), y] ∧ Same H H1 ∧ H1 L = some (.lst (refs qs)) ∧ GAs K H1 qs ∧ gts qs = ((gts ps).take i).flatMap (nearG n))
        ⟨none, [], rfl, S1, upd_same, (fun _ h => by cases h), by simp [gts]⟩ (fun i σ H1 _ ⟨_, _, _, S, _⟩ => sqt_same S h2) ?_ ?_
      · rintro i z σ H1 hz ⟨y, qs, rfl, S, eL, hG, eq⟩
        obtain ⟨p, hp, rfl⟩ := refs_get hz
        have hin : i < ps.length := (List.getElem?_eq_some_iff.mp hp).1
        have hw := hwf p.2 (List.mem_of_getElem? (gts_get hp))
        refine ⟨_, rfl, .inl ⟨rfl, _, .of eL⟩, _, rfl, a, C, dx, _, _, rfl, S _ _ h1, W.cl, W.nL, rfl, _, rfl, n, p.1, p.2, rfl, (h3 p (List.mem_of_getElem? hp)).tups (Same.tups S), hw, hn8, fun H2 q S2 hq0 ⟨rs, eR, eRg, hGr⟩ => ?_⟩
        have eL2 := S2 _ _ eL
        have l1 : qs.length ≤ 57 * ps.length := by
          rw [← gts_length, eq]
          refine Nat.le_trans (flat_le hn8 _) (Nat.mul_le_mul_left _ ?_)
          rw [List.length_take, gts_length]
          exact Nat.min_le_right _ _
        have l2 : rs.length ≤ 57 := by rw [← gts_length, eRg]; exact nearG_le hn8 _
        have T2 : TupS K H2 (upd H2 L (.lst (refs qs ++ refs rs))) := tups_lst eL2
        refine ⟨L, q, refs qs, refs rs, rfl, rfl, eL2, eR, ?_, some (.ref p.1), qs ++ rs, rfl, fun b o e => ?_, ?_, ?_, ?_⟩
        · rw [refs_length, refs_length]
          exact size_2m (by omega)
        · rw [upd_ne (ne_of_none e hL)]
          exact S2 _ _ (S _ _ e)
        · rw [upd_same, refs_app]
        · exact gas_app (hG.tups ((Same.tups S2).trans T2)) (hGr.tups T2)
        · rw [gts_app, eq, eRg, take_snoc (gts_get hp), List.flatMap_append]
          simp
      · rintro σ H1 ⟨y, qs, rfl, S, eL, hG, eq⟩
        rw [refs_length, ← gts_length ps, List.take_length] at eq
        have l1 : qs.length = ((gts ps).flatMap (nearG n)).length := by rw [← gts_length, eq]
        have l2 := flat_le hn8 (gts ps)
        rw [gts_length] at l2
        refine ⟨_, rfl, a, C, dx, _, _, rfl, S _ _ h1, W.cl, W.nL, rfl, _, rfl, n, L, qs, rfl, hn1, hn8, .of eL, hG, ?_, by omega, fun hz H3 r ps' S3 eg hw => qg (by omega) H3 r ps' (S.trans S3) hw (eg.trans eq), fun hz => (qb (by omega)).same S⟩
        intro g hg
        rw [eq] at hg
        obtain ⟨g0, h0, hg⟩ := List.mem_flatMap.mp hg
        exact wf_nearG (hwf g0 h0) hg
end
end K26
end K26W7

section K26W8
set_option Elab.async false
set_option linter.all false
set_option maxRecDepth 100000
set_option maxHeartbeats 4000000
/-! K26W8: the law's ferry: _law_ferry, _law_steer, _law_pick, _law_stirred. -/
namespace K26
open PySem PySem.Spec PyProof.Rows L2
/-! ### the ferry at f, its cells at c, at most t turns done -/
def FerAt (H : Hp) (f c : Addr) (t : Nat) : Prop := ∃ (n : Nat) (l : Int) (ns : List Int), H f = some (.lst [.ref c, .int n, .int l]) ∧ H c = some (.lst (ns.map V.int)) ∧ c ≠ f ∧ n ≤ t
theorem FerAt.le {H : Hp} {f c : Addr} {t t' : Nat} (h : FerAt H f c t) (e : t ≤ t') : FerAt H f c t' := let ⟨n, l, ns, h1, h2, h3, h4⟩ := h; ⟨n, l, ns, h1, h2, h3, Nat.le_trans h4 e⟩
theorem FerAt.same {H H' : Hp} {f c : Addr} {t : Nat} (e : Same H H') (h : FerAt H f c t) : FerAt H' f c t := let ⟨n, l, ns, h1, h2, h3, h4⟩ := h; ⟨n, l, ns, e _ _ h1, e _ _ h2, h3, h4⟩
theorem FerAt.lst {H : Hp} {f c : Addr} {t : Nat} (h : FerAt H f c t) : ∃ xs, H f = some (.lst xs) := let ⟨_, _, _, h1, _⟩ := h; ⟨_, h1⟩
theorem FerAt.tups {K : PySem.W.Frag} {H H' : Hp} {f c : Addr} {t : Nat} (h : FerAt H f c t) (e : SameX f H H') : TupS K H H' := let ⟨_, h1⟩ := h.lst; e.tups h1
theorem FerAt.some {H : Hp} {f c : Addr} {t : Nat} (h : FerAt H f c t) : H f ≠ none := by
  obtain ⟨xs, e⟩ := h.lst
  rw [e]
  exact fun z => nomatch z
theorem FerAt.someC {H : Hp} {f c : Addr} {t : Nat} (h : FerAt H f c t) : H c ≠ none := by
  obtain ⟨n, l, ns, h1, h2, h3, h4⟩ := h
  rw [h2]
  exact fun z => nomatch z
/-- another list is written -/
theorem FerAt.put {H : Hp} {f c p : Addr} {t : Nat} {o : HO} (h : FerAt H f c t) (hf : f ≠ p) (hc : c ≠ p) : FerAt (upd H p o) f c t := by
  obtain ⟨n, l, ns, h1, h2, h3, h4⟩ := h
  exact ⟨n, l, ns, (upd_ne hf).trans h1, (upd_ne hc).trans h2, h3, h4⟩
theorem SameX.free {f : Addr} {H H' : Hp} (e : SameX f H H') {l : Addr} (hl : l ≠ f) (h : H' l = none) : H l = none := by
  cases q : H l with
  | none => rfl
  | some o => rw [e l o hl q] at h; cases h
theorem SameX.seqA {K : PySem.W.Frag} {f a : Addr} {H H' : Hp} {xs : List V} {ys : List V} (e : SameX f H H') (hf : H f = some (.lst ys)) (h : SqA K H a xs) (n : a ≠ f) : SqA K H' a xs :=
  h.elim (fun h => .inl (e.seq h n)) fun h => .inr (e.tups hf _ _ h)
theorem cut_ints (ns : List Int) (lo hi : Option Int) : ∃ ms : List Int, cutV (ns.map V.int) lo hi = ms.map V.int := ⟨(ns.drop (HT.sIx (ns.map V.int).length 0 lo)).take (HT.sIx (ns.map V.int).length (ns.map V.int).length hi - HT.sIx (ns.map V.int).length 0 lo), by
  unfold cutV
  rw [List.map_take, List.map_drop]⟩
section
variable {P : Program} {w : World} {K : PySem.W.Frag} {mg : Str → Option Value} {base : Heap}
abbrev sFerry : Stmt := topS 44
theorem scFerry : FnScope ["_law_script", "_law_cell"] ["_law_script"] (defScope sFerry) := ⟨rfl, rfl, rfl, by decide +kernel, rfl, by decide +kernel, by decide +kernel⟩
def spFerry (K : PySem.W.Frag) : Sp := fun vs H Q _ => ∃ (a : Addr) (ns : List Int), vs = [.ref a] ∧ SqL K H a (ns.map V.int) ∧ ns.length ≤ 1000 ∧ ∀ H' f c, Same H H' → H f = none → H c = none → FerAt H' f c 0 → Q (.ref f) H'
theorem ok_ferry {f : Addr} {fd : FuncData} (F : Fun K "_law_ferry" "_law_ferry" sFerry f fd) (T : Txt K mg) : FnOk P w K mg base CX0 1 f fd ["_law_script"] (spFerry K) := by
  refine F.ok scFerry (fun vs H Q E h => ?_) (fun cdv A outer s H vs Q E hr h => ?_)
  · obtain ⟨a, ns, rfl, _⟩ := h
    rfl
  · obtain ⟨a, ns, rfl, hS, hl, q⟩ := h
    refine ⟨_, pss_one (ps_ret (pe_lst (pa_cons (pe_lc (own := [("_law_cell", 1)]) (g := gName 1) (tt := tYes) rfl scFerry.nd (pi_list (pe_slice sl_list (pv 0) po_none (po_some pe_int)))
            (blkOk_by (own := [("_law_cell", 1)]) (N := ["_law_script", "_law_cell"]) (sc := defScope sFerry) (by decide +kernel))
            (fun _ _ _ _ _ => pg_name (i := 1) scFerry.nd rfl (Or.inl rfl)) (fun _ _ _ _ _ => pts_nil) (fun _ _ _ _ _ => pe_callTy call_int1 (by rfl) T.zint (by decide +kernel) (pa_cons (pv 1) pa_nil))) (pa_cons pe_int (pa_cons pe_int pa_nil))))), ?_⟩
    refine ⟨_, rfl, 60, rfl, a, _, rfl, hS, fun c hc => ?_⟩
    obtain ⟨ms, em⟩ := cut_ints ns none (some 60)
    have hml : ms.length ≤ 1000 := by
      have := cutV_length (ns.map V.int) none (some 60)
      rw [em, List.length_map, List.length_map] at this
      omega
    rw [em]
    refine ⟨c, rfl, ⟨_, .of upd_same⟩, fun D hD => ?_⟩
    refine lcJ (K := K) (walk_list K c (ms.map V.int)) (fun H' k _ => k _ _ (.of upd_same)) (mapJ (ms.map V.int) id) hD (by rw [List.length_map]; exact Nat.le_of_lt (small_size (by omega))) mapJ_mono mapJ_0 ?_ ?_
    · intro i z H5 acc hz hi S5 eD hacc hJ
      obtain ⟨x, hx, rfl⟩ := ints_get hz
      exact ⟨rfl, _, rfl, .inl ⟨x, rfl, JPv.put (K := K) hD mapJ_mono S5 eD hacc hi (Same.refl _) (mapJ_put hz hJ)⟩⟩
    · intro H5 acc S5 eD hJ
      have eacc := mapJ_end hJ
      rw [List.map_id] at eacc
      refine ⟨by show 3 ≤ sizeLine; decide, fun L hL => ?_⟩
      have hLD : D ≠ L := ne_of_none eD hL
      have S05 : Same H H5 := (same_new hc).trans S5
      refine q _ L D (S05.trans (same_new hL)) (S05.free hL) ((same_new hc).free hD) ⟨0, 0, ms, upd_same, ?_, hLD, Nat.le_refl _⟩
      rw [upd_ne hLD, eD, eacc]
/-! ### _law_steer -/
abbrev sSteer : Stmt := topS 45
theorem scSteer : FnScope ["_law_ferry_here", "_law_many", "_law_turn", "_law_cell", "_law_mixed", "_law_left"] ["_law_ferry_here", "_law_many"] (defScope sSteer) := ⟨rfl, rfl, rfl, by decide +kernel, rfl, by decide +kernel, by decide +kernel⟩
def spSteer (K : PySem.W.Frag) : Sp := fun vs H Q _ => ∃ (f c : Addr) (m : Int) (t : Nat), vs = [.ref f, .int m] ∧ 0 < m ∧ m < 1000000 ∧ FerAt H f c t ∧ t ≤ 100000 ∧ ∀ H' r, SameX f H H' → FerAt H' f c (t + 1) → 0 ≤ r → r < m → Q (.int r) H'
theorem ok_steer {f : Addr} {fd : FuncData} (F : Fun K "_law_steer" "_law_steer" sSteer f fd) (T : Txt K mg) : FnOk P w K mg base CX0 1 f fd ["_law_ferry_here", "_law_many"] (spSteer K) := by
  refine F.ok scSteer (fun vs H Q E h => ?_) (fun cdv A outer s H vs Q E hr h => ?_)
  · obtain ⟨a, c, m, t, rfl, _⟩ := h
    rfl
  · obtain ⟨a, c, m, t, rfl, hm, hm2, ⟨n, l, ns, ef, ec, hcf, hn⟩, ht, q⟩ := h
    have hu64 : (A.deeper (envOfC "_law_steer" (defScope sSteer) s.heap.objs.size f cdv)).units + 64 < cLine := by have := hr.un; omega
    have modm : ∀ x : Int, 0 ≤ x % m ∧ x % m < m := fun x => ⟨Int.emod_nonneg _ (by omega), Int.emod_lt_of_pos _ hm⟩
    -- behind a store to the ferry
    have fin : ∀ (H1 : Hp) (n1 : Nat) (l1 : Int) (xs : List V), SameX a H H1 → xs = [.ref c, .int n1, .int l1] → n1 ≤ t + 1 → H1 a = some (.lst xs) → FerAt H1 a c (t + 1) := fun H1 n1 l1 xs S e hn1 eH => ⟨n1, l1, ns, by rw [eH, e], S _ _ hcf ec, hcf, hn1⟩
    obtain ⟨tm, hM, rM⟩ : ∃ tt, PSs (cxOf CX0 P w K mg base ["_law_ferry_here", "_law_many", "_law_turn", "_law_cell", "_law_mixed", "_law_left"] "_law_steer" (defScope sSteer) f cdv A outer s H E).nox ((defBody sSteer).drop 6) tt ∧
        ∀ (H2 : Hp) (cell : Int) (x4 x5 : Option V), SameX a H H2 → H2 a = some (.lst [.ref c, .int ((n + 1 : Nat) : Int), .int l]) → tt { nx := fun _ H' => Q .non H', rt := Q } [some (.ref a), some (.int m), some (.int (n : Int)), some (.int cell), x4, x5] H2 := by
      refine ⟨_, pss_cons (ps_set (i := 4) scSteer.nd rfl (.inl rfl) (pe_op op_mod (pe_callTy call_int1 (by rfl) T.zint (by decide +kernel) (pa_cons (pe_op op_pow (pe_op op_add (pe_op op_add (pe_op op_mod (pe_callTy call_int1 (by rfl) T.zint (by decide +kernel) (pa_cons (pv 3) pa_nil)) pe_int) (pe_op op_mul pe_int (pv 2))) pe_int) pe_int) pa_nil)) pe_int))
      (pss_cons (ps_set (i := 4) scSteer.nd rfl (.inl rfl) (pe_op op_mod (pe_callTy call_int1 (by rfl) T.zint (by decide +kernel) (pa_cons (pe_op op_pow (pe_op op_add (pe_op op_add (pe_op op_mul (pv 4) (pe_op op_add (pe_op op_mul pe_int (pv 2)) pe_int)) (pe_op op_mul (pe_op op_mul pe_int (pv 2)) (pv 2))) pe_int) pe_int) pa_nil)) pe_int))
      (pss_one (ps_ret (pe_op op_mod (pe_callTy call_int1 (by rfl) T.zint (by decide +kernel) (pa_cons (pe_op op_fdiv (pv 4) pe_int) pa_nil)) (pv 1))))), fun H2 cell x4 x5 S2 e2 => ?_⟩
      have h1 := Int.emod_nonneg cell (b := 2147483647) (by decide)
      have h2 := Int.emod_lt_of_pos cell (b := 2147483647) (by decide)
      refine ⟨_, rfl, .inl ⟨cell, rfl, cell, 2147483647, rfl, rfl, (by decide : (0 : Int) < 2147483647), _, rfl, 143051, (n : Int), rfl, rfl, .inl ⟨by decide, by decide⟩, _, _, rfl, rfl, _, _, rfl, rfl, _, _, rfl, rfl, ⟨by decide, by decide, by omega⟩, .inl ⟨_, rfl, _, 2147483549, rfl, rfl, (by decide : (0 : Int) < 2147483549), ?_⟩⟩⟩
      dsimp only
      generalize hx : (cell % 2147483647 + 143051 * (n : Int) + 9567) ^ (5 : Int).toNat % 2147483549 = mx
      have g1 : 0 ≤ mx := by rw [← hx]; exact Int.emod_nonneg _ (by decide)
      have g2 : mx < 2147483549 := by rw [← hx]; exact Int.emod_lt_of_pos _ (by decide)
      have k1 : (0 : Int) ≤ mx * (2 * (n : Int) + 6659) := Int.mul_nonneg g1 (by omega)
      have k2 : mx * (2 * (n : Int) + 6659) ≤ 2147483549 * 206659 := Int.mul_le_mul (by omega) (by omega) (by omega) (by decide)
      have k3 : (0 : Int) ≤ 143583 * (n : Int) * (n : Int) := Int.mul_nonneg (by omega) (by omega)
      have k4 : 143583 * (n : Int) * (n : Int) ≤ 143583 * 100000 * 100000 := Int.mul_le_mul (by omega) (by omega) (by omega) (by decide)
      refine ⟨_, rfl, _, rfl, 2, (n : Int), rfl, rfl, .inl ⟨by decide, by decide⟩, _, _, rfl, rfl, mx, _, rfl, rfl, .inl ⟨by omega, by omega⟩, _, rfl, 143583, (n : Int), rfl, rfl, .inl ⟨by decide, by decide⟩, _, rfl, _, (n : Int), rfl, rfl, .inl ⟨by omega, by omega⟩, _, _, rfl, rfl, _, _, rfl, rfl, _, _, rfl, rfl, ⟨by decide, by decide, by omega⟩, .inl ⟨_, rfl, _, 2147483587, rfl, rfl, (by decide : (0 : Int) < 2147483587), ?_⟩⟩
      dsimp only
      generalize (mx * (2 * (n : Int) + 6659) + 143583 * (n : Int) * (n : Int) + 9567) ^ (3 : Int).toNat % 2147483587 = my
      refine ⟨_, rfl, my, 64, rfl, rfl, ⟨by decide, by decide⟩, .inl ⟨_, rfl, _, rfl, _, m, rfl, rfl, hm, ?_⟩⟩
      exact q _ _ S2 (fin _ (n + 1) l _ S2 rfl (by omega) e2) (modm _).1 (modm _).2
    obtain ⟨tt, hT, rT⟩ : ∃ tt, PSs (cxOf CX0 P w K mg base ["_law_ferry_here", "_law_many", "_law_turn", "_law_cell", "_law_mixed", "_law_left"] "_law_steer" (defScope sSteer) f cdv A outer s H E).nox ((defBody sSteer).drop 5) tt ∧
        ∀ (H2 : Hp) (cell : Int) (x4 x5 : Option V), SameX a H H2 → H2 a = some (.lst [.ref c, .int ((n + 1 : Nat) : Int), .int l]) → tt { nx := fun _ H' => Q .non H', rt := Q } [some (.ref a), some (.int m), some (.int (n : Int)), some (.int cell), x4, x5] H2 := by
      refine ⟨_, pss_cons (ps_if (PW.pt (pw_and (pt_cmpR op_lt (pv 2) (pe_callB call_lenS (by rfl) T.zlen PySem.boot_len (pa_cons (pe_ix ix_list (pv 0) pe_int (fun _ _ => rfl)) pa_nil)) (nomark _)) (pw_and1 (pt_cmpR op_ge (pe_callB call_abs (by rfl) T.zabs (by decide +kernel) (pa_cons (pv 3) pa_nil)) (pe_op op_pow pe_int pe_int) (nomark _)))))
        (pss_cons (ps_set (i := 5) scSteer.nd rfl (.inl rfl) (pe_op op_add (pe_op op_mul pe_int (pe_op op_sub (pe_callB call_abs (by rfl) T.zabs (by decide +kernel) (pa_cons (pe_callTy call_int1 (by rfl) T.zint (by decide +kernel) (pa_cons (pv 3) pa_nil)) pa_nil)) (pe_op op_pow pe_int pe_int)))
            (pe_callTy call_int1 (by rfl) T.zint (by decide +kernel) (pa_cons (pe_cmpR op_lt (pv 3) pe_int (nomark _)) pa_nil))))
        (pss_cons (ps_asg (pe_op op_fdiv (pv 5) (pv 1)) (pg_sub (pv 0) pe_int set_list))
        (pss_one (ps_ret (pe_op op_mod (pe_callTy call_int1 (by rfl) T.zint (by decide +kernel) (pa_cons (pv 5) pa_nil)) (pv 1)))))) pss_nil)
      hM, fun H2 cell x4 x5 S2 e2 => ?_⟩
      have ec2 : SqL K H2 c (ns.map V.int) := .of (S2 _ _ hcf ec)
      have e10 : (10 : Int) ^ (18 : Int).toNat = 1000000000000000000 := by decide
      refine ⟨_, rfl, _, rfl, a, _, 0, .ref c, rfl, rfl, .of e2, atI_nat (j := 0) rfl, c, _, rfl, .inl ec2, _, _, rfl, rfl, _, rfl, ?_⟩
      refine ite2 (fun _ => ?_) (fun _ => iteF (rM H2 cell x4 x5 S2 e2))
      refine ⟨_, rfl, cell, rfl, 10, 18, rfl, rfl, ⟨by decide, by decide, by decide⟩, _, _, rfl, rfl, _, rfl, ?_⟩
      refine ite2 (fun _ => ?_) (fun _ => rM H2 cell x4 x5 S2 e2)
      refine ⟨_, rfl, .inl ⟨cell, rfl, cell, rfl, 10, 18, rfl, rfl, ⟨by decide, by decide, by decide⟩, _, _, rfl, rfl, 2, _, rfl, rfl, .inl ⟨by decide, by decide⟩, _, rfl, _, _, rfl, rfl, .inr ⟨_, rfl, _, _, rfl, rfl, ?_⟩⟩⟩
      dsimp only
      generalize 2 * ((if cell < 0 then -cell else cell) - 10 ^ (18 : Int).toNat) + (if decide (cell < 0) = true then 1 else 0) = left
      refine ⟨_, rfl, _, rfl, left, m, rfl, rfl, ⟨hm, by omega⟩, _, rfl, a, _, 2, 2, rfl, rfl, e2, rfl, ?_⟩
      refine ⟨_, rfl, .inl ⟨left, rfl, _, rfl, left, m, rfl, rfl, hm, ?_⟩⟩
      have S3 := S2.trans (samex_put (o := .lst [.ref c, .int ((n + 1 : Nat) : Int), .int (left / m)]))
      exact q _ _ S3 (fin _ (n + 1) (left / m) _ S3 rfl (by omega) upd_same) (modm left).1 (modm left).2
    refine ⟨_, pss_cons (ps_if (pt_cmpR op_gt (pe_ix ix_list (pv 0) pe_int (fun _ _ => rfl)) pe_int (nomark _))
        (pss_cons (ps_set (i := 5) scSteer.nd rfl (.inl rfl) (pe_callTy call_int1 (by rfl) T.zint (by decide +kernel) (pa_cons (pe_ix ix_list (pv 0) pe_int (fun _ _ => rfl)) pa_nil)))
        (pss_cons (ps_asg (pe_op op_fdiv (pv 5) (pv 1)) (pg_sub (pv 0) pe_int set_list))
        (pss_one (ps_ret (pe_op op_mod (pe_callTy call_int1 (by rfl) T.zint (by decide +kernel) (pa_cons (pv 5) pa_nil)) (pv 1)))))) pss_nil)
      (pss_cons (ps_set (i := 2) scSteer.nd rfl (.inl rfl) (pe_ix ix_list (pv 0) pe_int (fun _ _ => rfl)))
      (pss_cons (ps_asg (pe_op op_add (pv 2) pe_int) (pg_sub (pv 0) pe_int set_list))
      (pss_cons (ps_set (i := 3) scSteer.nd rfl (.inl rfl) (pe_op op_add (pe_op op_mul pe_int (pv 2)) pe_int))
      (pss_cons (ps_if (pt_cmpR (op_neD hu64) (pe_ix ix_list (pv 0) pe_int (fun _ _ => rfl)) (pe_lst pa_nil) (nomark _))
        (pss_one (ps_set (i := 3) scSteer.nd rfl (.inl rfl) (pe_ix ix_list (pe_ix ix_list (pv 0) pe_int (fun _ _ => rfl)) (pe_op op_mod (pe_callTy call_int1 (by rfl) T.zint (by decide +kernel) (pa_cons (pv 2) pa_nil)) (pe_callB call_lenS (by rfl) T.zlen PySem.boot_len (pa_cons (pe_ix ix_list (pv 0) pe_int (fun _ _ => rfl)) pa_nil))) (fun _ _ => rfl)))) pss_nil)
      hT)))), ?_⟩
    refine ⟨_, rfl, a, _, 2, .int l, rfl, rfl, .of ef, atI_nat (j := 2) rfl, _, _, rfl, rfl, _, rfl, ?_⟩
    by_cases hl : l > 0
    · rw [decide_eq_true hl]
      refine iteT ⟨_, rfl, a, _, 2, .int l, rfl, rfl, .of ef, atI_nat (j := 2) rfl, .inl ⟨l, rfl, ?_⟩⟩
      refine ⟨_, rfl, _, rfl, l, m, rfl, rfl, ⟨hm, by omega⟩, _, rfl, a, _, 2, 2, rfl, rfl, ef, rfl, ?_⟩
      refine ⟨_, rfl, .inl ⟨l, rfl, _, rfl, l, m, rfl, rfl, hm, ?_⟩⟩
      exact q _ _ samex_put (fin _ n (l / m) _ samex_put rfl (by omega) upd_same) (modm l).1 (modm l).2
    · rw [decide_eq_false hl]
      refine iteF ?_
      refine ⟨_, rfl, a, _, 1, .int n, rfl, rfl, .of ef, atI_nat (j := 1) rfl, ?_⟩
      refine ⟨_, rfl, (n : Int), 1, rfl, rfl, _, rfl, a, _, 1, 1, rfl, rfl, ef, rfl, ?_⟩
      generalize hH1 : upd H a _ = H1
      have S1 : SameX a H H1 := by rw [← hH1]; exact samex_put
      have ef1 : H1 a = some (.lst [.ref c, .int ((n + 1 : Nat) : Int), .int l]) := by rw [← hH1, upd_same]; rfl
      have ec1 : H1 c = some (.lst (ns.map V.int)) := S1 _ _ hcf ec
      refine ⟨_, rfl, 143051, (n : Int), rfl, rfl, .inl ⟨by decide, by decide⟩, _, _, rfl, rfl, ?_⟩
      refine ⟨_, rfl, a, _, 0, .ref c, rfl, rfl, .of ef1, atI_nat (j := 0) rfl, Nat.zero_le _, fun o ho => ?_⟩
      have S2 : Same H1 (upd H1 o (.lst [])) := same_new ho
      refine ⟨.list (ns.map PyData.int), .list [], .lst (.of (S2 _ _ ec1)) (dp_ints ns), .lst (.of upd_same) .nil, sh_ints ns, rfl, _, rfl, ?_⟩
      cases ns with
      | nil => exact iteF (rT _ _ _ _ (S1.trans (Same.x S2)) (S2 _ _ ef1))
      | cons z r =>
        refine iteT ?_
        have ec2 : SqL K (upd H1 o (.lst [])) c ((z :: r).map V.int) := .of (S2 _ _ ec1)
        refine ⟨_, rfl, a, _, 0, .ref c, rfl, rfl, .of (S2 _ _ ef1), atI_nat (j := 0) rfl, _, rfl, .inl ⟨_, rfl, _, rfl, a, _, 0, .ref c, rfl, rfl, .of (S2 _ _ ef1), atI_nat (j := 0) rfl, c, _, rfl, .inl ec2, _, _, rfl, rfl, ?_, ?_⟩⟩
        · rw [List.length_map, List.length_cons]; omega
        · have h0 : ((n : Int) % ((((z :: r).map V.int).length : Nat) : Int)) = ((n % (z :: r).length : Nat) : Int) := by rw [List.length_map]; omega
          have hlt : n % (z :: r).length < (z :: r).length := Nat.mod_lt _ (by simp)
          refine ⟨c, _, _, .int ((z :: r).getD (n % (z :: r).length) 0), rfl, rfl, ec2, ?_, rT _ _ _ _ (S1.trans (Same.x S2)) (S2 _ _ ef1)⟩
          rw [h0]
          exact atI_nat (by rw [List.getElem?_map, getD_get hlt]; rfl)
end
end K26
end K26W8

section K26W9
set_option Elab.async false
set_option linter.all false
set_option maxRecDepth 100000
set_option maxHeartbeats 4000000
/-! K26W9: _law_pick, _law_stirred, _law_gate, _law_gates, _law_loose. -/
namespace K26
open PySem PySem.Spec PyProof.Rows L2
theorem map_eraseIdx' {α β : Type} (f : α → β) : ∀ (l : List α) (i : Nat), (l.eraseIdx i).map f = (l.map f).eraseIdx i
  | [], _ => rfl
  | x :: r, 0 => rfl
  | x :: r, i + 1 => by
    show f x :: (r.eraseIdx i).map f = f x :: (r.map f).eraseIdx i
    rw [map_eraseIdx' f r i]
theorem erase_perm : ∀ (l : List Int) (i : Nat), i < l.length → (l.getD i 0 :: l.eraseIdx i).Perm l
  | [], _, h => by simp at h
  | x :: r, 0, _ => .refl _
  | x :: r, i + 1, h => by
    have ih := erase_perm r i (by simpa using h)
    have e : (x :: r).getD (i + 1) 0 = r.getD i 0 := by simp
    rw [e]
    show (r.getD i 0 :: x :: r.eraseIdx i).Perm (x :: r)
    exact (List.Perm.swap _ _ _).trans (ih.cons x)
section
variable {P : Program} {w : World} {K : PySem.W.Frag} {mg : Str → Option Value} {base : Heap}
abbrev sPick : Stmt := topS 46
theorem scPick : FnScope ["_law_ferry_here", "_law_some"] ["_law_ferry_here", "_law_some"] (defScope sPick) := ⟨rfl, rfl, rfl, by decide +kernel, rfl, by decide +kernel, by decide +kernel⟩
def spPick (K : PySem.W.Frag) : Sp := fun vs H Q _ => ∃ (f c a : Addr) (xs : List V) (t : Nat), vs = [.ref f, .ref a] ∧ SqL K H a xs ∧ a ≠ f ∧ 0 < xs.length ∧ xs.length < 1000000 ∧ FerAt H f c t ∧ t ≤ 100000 ∧ ∀ H' v, SameX f H H' → FerAt H' f c (t + 1) → v ∈ xs → Q v H'
theorem ok_pick {f : Addr} {fd : FuncData} (F : Fun K "_law_pick" "_law_pick" sPick f fd) (T : Txt K mg) (HS : Has P w K mg base CX0 1 "_law_steer" ["_law_ferry_here", "_law_many"] [] (spSteer K)) : FnOk P w K mg base CX0 2 f fd ["_law_ferry_here", "_law_some"] (spPick K) := by
  refine F.ok scPick (fun vs H Q E h => ?_) (fun cdv A outer s H vs Q E hr h => ?_)
  · obtain ⟨f, c, a, xs, t, rfl, _⟩ := h
    rfl
  · obtain ⟨f, c, a, xs, t, rfl, hS, hne, h0, h1, hF, ht, q⟩ := h
    refine ⟨_, pss_one (ps_ret (pe_ix ix_list (pv 1) (pe_h HS hr (by decide) pass0 (pa_cons (pv 0) (pa_cons (pe_callB call_lenS (by rfl) T.zlen PySem.boot_len (pa_cons (pv 1) pa_nil)) pa_nil))) (fun _ _ => rfl))), ?_⟩
    refine ⟨_, rfl, _, rfl, _, rfl, a, xs, rfl, .inl hS, f, c, (xs.length : Int), t, rfl, by omega, by omega, hF, ht, fun H' r S hF' r0 r1 => ?_⟩
    have hr' : r.toNat < xs.length := by omega
    refine ⟨a, xs, r, xs[r.toNat], rfl, rfl, S.seq hS hne, ?_, q H' _ S hF' (List.getElem_mem hr')⟩
    have := atI_nat (xs := xs) (j := r.toNat) (v := xs[r.toNat]) (List.getElem?_eq_getElem hr')
    rwa [Int.toNat_of_nonneg r0] at this
/-! ### _law_stirred -/
abbrev sStirred : Stmt := topS 47
theorem scStirred : FnScope ["_law_ferry_here", "_law_some", "_law_left", "_law_found"] ["_law_ferry_here", "_law_some"] (defScope sStirred) := ⟨rfl, rfl, rfl, by decide +kernel, rfl, by decide +kernel, by decide +kernel⟩
def spStirred (K : PySem.W.Frag) : Sp := fun vs H Q _ => ∃ (f c a : Addr) (ns : List Int) (t : Nat), vs = [.ref f, .ref a] ∧ SqA K H a (ns.map V.int) ∧ ns.length ≤ 100 ∧ FerAt H f c t ∧ t + ns.length ≤ 100000 ∧
  ∀ H' p (ms : List Int), SameX f H H' → H p = none → FerAt H' f c (t + ns.length) → H' p = some (.lst (ms.map V.int)) → ms.Perm ns → Q (.ref p) H'
theorem ok_stirred {fS : Addr} {fd : FuncData} (F : Fun K "_law_stirred" "_law_stirred" sStirred fS fd) (T : Txt K mg) (HS : Has P w K mg base CX0 1 "_law_steer" ["_law_ferry_here", "_law_many"] [] (spSteer K)) : FnOk P w K mg base CX0 2 fS fd ["_law_ferry_here", "_law_some"] (spStirred K) := by
  refine F.ok scStirred (fun vs H Q E h => ?_) (fun cdv A outer s H vs Q E hr h => ?_)
  · obtain ⟨f, c, a, ns, t, rfl, _⟩ := h
    rfl
  · obtain ⟨f, c, a, ns, t, rfl, hS, hl, hF, ht, q⟩ := h
    have hu64 : (A.deeper (envOfC "_law_stirred" (defScope sStirred) s.heap.objs.size fS cdv)).units + 64 < cLine := by have := hr.un; omega
    refine ⟨_, pss_cons (ps_par (i := 2) (j := 3) rfl scStirred.nd rfl rfl (by decide) rfl rfl (pa_cons (pe_callTy call_list_of (by rfl) T.zlist (by decide +kernel) (pa_cons (pv 1) pa_nil)) (pa_cons (pe_lst pa_nil) pa_nil)) rfl)
      (pss_cons (ps_while PassesOwn.never (pt_cmpR (op_neD hu64) (pv 2) (pe_lst pa_nil) (nomark _))
        (pss_one (ps_expr (pe_bm PySem.F.plainAttrs_list PySem.F.slot_list_append PySem.F.type_list_append mt_append (pv 3) (pa_cons (pe_bm PySem.F.plainAttrs_list PySem.F.slot_list_pop PySem.F.type_list_pop mt_popAt (pv 2)
          (pa_cons (pe_h HS hr (by decide) pass0 (pa_cons (pv 0) (pa_cons (pe_callB call_lenS (by rfl) T.zlen PySem.boot_len (pa_cons (pv 2) pa_nil)) pa_nil))) pa_nil)) pa_nil)))))
      (pss_one (ps_ret (pv 3)))), ?_⟩
    have hf0 := hF.some
    refine ⟨_, rfl, a, _, rfl, hS, fun L hL => ⟨Nat.zero_le _, fun M hM => ⟨_, _, rfl, ?_⟩⟩⟩
    have hML : M ≠ L := fun z => by rw [z, upd_same] at hM; cases hM
    have hM0 : H M = none := by rw [upd_ne hML] at hM; exact hM
    have hLf : L ≠ f := fun z => hf0 (z ▸ hL)
    have hMf : M ≠ f := fun z => hf0 (z ▸ hM0)
    refine ⟨fun m σ H1 => ∃ (l k : List Int), m = l.length ∧ σ = [some (.ref f), some (.ref a), some (.ref L), some (.ref M)] ∧ SameX f H H1 ∧ H1 L = some (.lst (l.map V.int)) ∧ H1 M = some (.lst (k.map V.int)) ∧ (l ++ k).Perm ns ∧ FerAt H1 f c (t + k.length),
      ⟨_, ns, [], rfl, rfl, Same.x ((same_new hL).trans (same_new hM)), by rw [upd_ne hML.symm, upd_same], upd_same, by simp, hF.same ((same_new hL).trans (same_new hM))⟩, ?_⟩
    rintro m σ H1 ⟨l, k, rfl, rfl, S1, eL, eM, hp, hF1⟩
    refine ⟨_, rfl, Nat.zero_le _, fun o ho => ?_⟩
    have S2 : Same H1 (upd H1 o (.lst [])) := same_new ho
    generalize hH2 : upd H1 o (HO.lst []) = H2 at S2
    have eo : H2 o = some (.lst []) := by rw [← hH2, upd_same]
    refine ⟨.list (l.map PyData.int), .list [], .lst (.of (S2 _ _ eL)) (dp_ints l), .lst (.of eo) .nil, sh_ints l, rfl, _, rfl, ?_⟩
    have hlen := hp.length_eq
    rw [List.length_append] at hlen
    cases l with
    | nil =>
      refine iteF ⟨_, rfl, q H2 M k (S1.trans (Same.x S2)) hM0 ?_ (S2 _ _ eM) (by simpa using hp)⟩
      have : k.length = ns.length := by simpa using hlen
      rw [← this]
      exact hF1.same S2
    | cons z r =>
      refine iteT ⟨fun σ H' => ∃ m', m' < (z :: r).length ∧ ∃ (l k : List Int), m' = l.length ∧ σ = [some (.ref f), some (.ref a), some (.ref L), some (.ref M)] ∧ SameX f H H' ∧ H' L = some (.lst (l.map V.int)) ∧ H' M = some (.lst (k.map V.int)) ∧ (l ++ k).Perm ns ∧ FerAt H' f c (t + k.length), fun _ _ h => h, ?_⟩
      have sL : SqL K H2 L ((z :: r).map V.int) := .of (S2 _ _ eL)
      refine ⟨_, rfl, .inl ⟨rfl, _, .of (S2 _ _ eM)⟩, _, rfl, .inl ⟨rfl, _, sL⟩, _, rfl, _, rfl, L, _, rfl, .inl sL, f, c, _, t + k.length, rfl, ?_, ?_, hF1.same S2, by simp only [List.length_cons] at hlen; omega, fun H3 i S3 hF3 i0 i1 => ?_⟩
      · rw [List.length_map, List.length_cons]; omega
      · rw [List.length_map]; simp only [List.length_cons] at hlen ⊢; omega
      · rw [List.length_map] at i1
        have hi : i.toNat < (z :: r).length := by omega
        have sx : seqIndex? i ((z :: r).map V.int).length = some i.toNat := by
          have := (ixN_seq (ixN_nat (n := ((z :: r).map V.int).length) (j := i.toNat) (by rw [List.length_map]; exact hi))).1
          rwa [Int.toNat_of_nonneg i0] at this
        have eL3 := S3 _ _ hLf (S2 _ _ eL)
        have eM3 := S3 _ _ hMf (S2 _ _ eM)
        refine ⟨L, _, i, i.toNat, .int ((z :: r).getD i.toNat 0), rfl, rfl, eL3, by omega, by simp only [List.length_cons] at hlen i1; omega, sx, by rw [List.getElem?_map, getD_get hi]; rfl, ?_⟩
        refine ⟨M, _, _, rfl, rfl, (upd_ne hML).trans eM3, by rw [List.length_map]; exact small_size (by omega), _, ?_, (z :: r).eraseIdx i.toNat, k ++ [(z :: r).getD i.toNat 0], rfl, rfl, fun b o hb e => ?_, ?_, ?_, ?_, ?_⟩
        · rw [List.length_eraseIdx, if_pos hi]; simp only [List.length_cons]; omega
        · have n1 : b ≠ L := ne_of_none e hL
          have n2 : b ≠ M := ne_of_none e hM0
          rw [upd_ne n2, upd_ne n1]
          exact S3 _ _ hb (S2 _ _ (S1 _ _ hb e))
        · rw [upd_ne hML.symm, upd_same, map_eraseIdx']
        · rw [upd_same, List.map_append]; rfl
        · refine List.Perm.trans ?_ hp
          have h1 : ((z :: r).getD i.toNat 0 :: (z :: r).eraseIdx i.toNat).Perm (z :: r) := by
            exact erase_perm _ _ hi
          have h2 : ((z :: r).eraseIdx i.toNat ++ (k ++ [(z :: r).getD i.toNat 0])).Perm ((z :: r).getD i.toNat 0 :: ((z :: r).eraseIdx i.toNat ++ k)) := by
            rw [← List.append_assoc]
            exact List.perm_append_singleton _ _
          exact h2.trans (h1.append_right k)
        · have hc0 := hF.someC
          have cL : c ≠ L := fun z0 => hc0 (z0 ▸ hL)
          have cM : c ≠ M := fun z0 => hc0 (z0 ▸ hM0)
          rw [List.length_append]
          exact (hF3.put hLf.symm cL).put hMf.symm cM
end
end K26
end K26W9

section K26W10
set_option Elab.async false
set_option linter.all false
set_option maxRecDepth 100000
set_option maxHeartbeats 4000000
/-! K26W10: _law_gate, _law_gates, _law_loose. -/
namespace K26
open PySem PySem.Spec PyProof.Rows L2
theorem wf_drawn {n m : Nat} {x y : Int} {r : List Int} (h : (x :: y :: r).Perm (iota n)) : WF n (srt (r.take m), min x y, max x y) := by
  have hnd : (x :: y :: r).Nodup := h.nodup_iff.mpr (iota_nodup n)
  have hin : ∀ z ∈ x :: y :: r, 0 ≤ z ∧ z < (n : Int) := fun z hz => mem_iota.mp (h.mem_iff.mp hz)
  have hp : (touched (srt (r.take m), min x y, max x y)).Perm (x :: y :: r.take m) := by
    have h1 : [min x y, max x y].Perm [x, y] := by
      by_cases e : x ≤ y
      · rw [Int.min_eq_left e, Int.max_eq_right e]
      · rw [Int.min_eq_right (by omega), Int.max_eq_left (by omega)]
        exact .swap _ _ _
    exact ((srt_perm _).append h1).trans List.perm_append_comm
  have hs : (x :: y :: r.take m).Sublist (x :: y :: r) := ((List.take_sublist m r).cons₂ y).cons₂ x
  obtain ⟨n1, n2⟩ := List.nodup_cons.mp hnd
  have hxy : x ≠ y := fun e => n1 (by rw [e]; exact List.mem_cons_self)
  refine ⟨hp.nodup_iff.mpr (hnd.sublist hs), fun z hz => hin z (hs.mem (hp.mem_iff.mp hz)), srt_sorted _, ?_⟩
  show min x y < max x y
  omega
theorem cut_from2 {o : List Int} {m : Nat} (h : 2 + m ≤ o.length) : cutV (o.map V.int) (some 2) (some (2 + (m : Int))) = ((o.drop 2).take m).map V.int := by
  unfold cutV
  rw [List.length_map]
  have e1 : HT.sIx o.length 0 (some 2) = 2 := by
    have := HT.sIx_nat o.length 0 2
    rw [Nat.min_eq_left (by omega)] at this
    exact this
  have e2 : HT.sIx o.length o.length (some (2 + (m : Int))) = 2 + m := by
    have := HT.sIx_nat o.length o.length (2 + m)
    rw [Nat.min_eq_left h] at this
    have e : ((2 + m : Nat) : Int) = 2 + (m : Int) := by omega
    rw [← e]
    exact this
  rw [e1, e2, Nat.add_sub_cancel_left, List.map_take, List.map_drop]
theorem cut_to2 {o : List Int} (h : 2 ≤ o.length) : cutV (o.map V.int) none (some 2) = (o.take 2).map V.int := by
  unfold cutV
  rw [List.length_map]
  have e2 : HT.sIx o.length o.length (some 2) = 2 := by
    have := HT.sIx_nat o.length o.length 2
    rw [Nat.min_eq_left h] at this
    exact this
  rw [e2, HT.sIx_none, List.drop_zero, Nat.sub_zero, List.map_take]
theorem mn2 (x y : Int) : mnI x [y] = min x y := by
  show (if y < x then y else x) = _
  exact min_if x y
theorem mx2 (x y : Int) : mxI x [y] = max x y := by
  show (if x < y then y else x) = _
  exact max_if x y
theorem rgV_iota (n : Nat) : rgV 0 (n : Int) = (iota n).map V.int := by
  unfold rgV iota
  rw [List.map_map]
  simp [Function.comp_def]
/-- a gate told loosely -/
def LooseA (K : PySem.W.Frag) (H : Hp) (v : V) (g : G) : Prop := ∃ (a h : Addr) (hs : List Int) (x y : Int), v = .ref a ∧ SqA K H a [.ref h, .int x, .int y] ∧ SqA K H h (hs.map V.int) ∧ hs.Perm g.1 ∧ ((x = g.2.1 ∧ y = g.2.2) ∨ (x = g.2.2 ∧ y = g.2.1))
theorem kgO_loose {n : Nat} {g : G} {hs : List Int} {x y : Int} (w : WF n g) (hp : hs.Perm g.1) (hx : (x = g.2.1 ∧ y = g.2.2) ∨ (x = g.2.2 ∧ y = g.2.1)) : kgO (n : Int) hs x y = some g := by
  have h2 : [x, y].Perm [g.2.1, g.2.2] := by
    rcases hx with ⟨rfl, rfl⟩ | ⟨rfl, rfl⟩
    · exact .refl _
    · exact .swap _ _ _
  have h3 : (hs ++ [x, y]).Perm (touched g) := hp.append h2
  unfold kgO
  have h1 : ((hs ++ [x, y]).all fun z => decide (0 ≤ z) && decide (z ≤ (n : Int) - 1)) = true := by
    rw [List.all_eq_true]
    intro z hz
    have := w.inn z (h3.mem_iff.mp hz)
    simp only [Bool.and_eq_true, decide_eq_true_eq]
    omega
  rw [if_pos ⟨h1, h3.nodup_iff.mpr w.nd⟩, srt_congr hp, srt_of_sorted w.asc]
  have hl := w.lt
  rcases hx with ⟨rfl, rfl⟩ | ⟨rfl, rfl⟩
  · rw [Int.min_eq_left (by omega), Int.max_eq_right (by omega)]
  · rw [Int.min_eq_right (by omega), Int.max_eq_left (by omega)]
theorem LooseA.arg {K : PySem.W.Frag} {H : Hp} {v : V} {n : Nat} {g : G} (w : WF n g) (hn : n ≤ 8) (h : LooseA K H v g) : KgArg K H n v (some g) := by
  obtain ⟨a, h, hs, x, y, rfl, h1, h2, hp, hx⟩ := h
  exact .inr (.inr ⟨a, h, hs, x, y, rfl, h1, h2, by rw [hp.length_eq]; exact Nat.le_trans w.len (by omega), (kgO_loose w hp hx).symm⟩)
theorem GA.arg {K : PySem.W.Frag} {H : Hp} {a : Addr} {n : Nat} {g : G} (w : WF n g) (hn : n ≤ 8) (h : GA K H a g) : KgArg K H n (.ref a) (some g) := by
  obtain ⟨x, h1, h2⟩ := h
  exact .inr (.inr ⟨a, x, g.1, g.2.1, g.2.2, rfl, .inr h1, .inr h2, Nat.le_trans w.len (by omega), (kgO_wf w).symm⟩)
section
variable {P : Program} {w : World} {K : PySem.W.Frag} {mg : Str → Option Value} {base : Heap}
/-! ### _law_gate -/
abbrev sLGate : Stmt := topS 48
theorem scLGate : FnScope ["_law_ferry_here", "_law_lamps", "_law_order", "_law_many"] ["_law_ferry_here", "_law_lamps"] (defScope sLGate) := ⟨rfl, rfl, rfl, by decide +kernel, rfl, by decide +kernel, by decide +kernel⟩
def spLGate (K : PySem.W.Frag) : Sp := fun vs H Q _ => ∃ (f c : Addr) (n t : Nat), vs = [.ref f, .int n] ∧ 2 ≤ n ∧ n ≤ 8 ∧ FerAt H f c t ∧ t + 9 ≤ 100000 ∧ ∀ H' p (g : G), SameX f H H' → FerAt H' f c (t + 9) → GA K H' p g → WF n g → Q (.ref p) H'
theorem ok_lgate {f0 : Addr} {fd : FuncData} (F : Fun K "_law_gate" "_law_gate" sLGate f0 fd) (T : Txt K mg) (HP : Has P w K mg base CX0 2 "_law_pick" ["_law_ferry_here", "_law_some"] [] (spPick K)) (HS : Has P w K mg base CX0 2 "_law_stirred" ["_law_ferry_here", "_law_some"] [] (spStirred K)) :
    FnOk P w K mg base CX0 3 f0 fd ["_law_ferry_here", "_law_lamps"] (spLGate K) := by
  refine F.ok scLGate (fun vs H Q E h => ?_) (fun cdv A outer s H vs Q E hr h => ?_)
  · obtain ⟨f, c, n, t, rfl, _⟩ := h
    rfl
  · obtain ⟨f, c, n, t, rfl, hn2, hn8, hF, ht, q⟩ := h
    have hu1 : (A.deeper (envOfC "_law_gate" (defScope sLGate) s.heap.objs.size f0 cdv)).units + 1 < cLine := hu_of hr
    refine ⟨_, pss_cons (ps_set (i := 2) scLGate.nd rfl (.inl rfl) (pe_h HS hr (by decide) pass0 (pa_cons (pv 0) (pa_cons (pe_listRg rfl (by rfl) T.zlist (prg_1 (by rfl) T.zrange (pv 1))) pa_nil))))
      (pss_cons (ps_set (i := 3) scLGate.nd rfl (.inl rfl) (pe_callB (call_min2 rfl) (by rfl) T.zmin (by decide +kernel) (pa_cons (pe_op op_sub (pv 1) pe_int) (pa_cons (pe_h HP hr (by decide) pass0 (pa_cons (pv 0) (pa_cons (pe_lst (pa_cons pe_int (pa_cons pe_int (pa_cons pe_int (pa_cons pe_int (pa_cons pe_int (pa_cons (pv 1) pa_nil))))))) pa_nil))) pa_nil))))
      (pss_one (ps_ret (pe_tup (pa_cons (pe_callTy call_tuple_of (by rfl) T.ztuple (by decide +kernel) (pa_cons (pe_callB cr_sortedA (by rfl) T.zsorted (by decide +kernel) (pa_cons (pe_slice sl_list (pv 2) (po_some pe_int) (po_some (pe_op op_add pe_int (pv 3)))) pa_nil)) pa_nil))
        (pa_cons (pe_callB (cr_minA rfl hu1) (by rfl) T.zmin (by decide +kernel) (pa_cons (pe_slice sl_list (pv 2) po_none (po_some pe_int)) pa_nil)) (pa_cons (pe_callB (cr_maxA rfl hu1) (by rfl) T.zmax (by decide +kernel) (pa_cons (pe_slice sl_list (pv 2) po_none (po_some pe_int)) pa_nil)) pa_nil))))))), ?_⟩
    have hf0 := hF.some
    refine ⟨_, rfl, _, rfl, n, rfl, .of_le (by omega) (by omega) (by omega) (by omega), fun L hL => ?_⟩
    rw [rgV_iota]
    have S1 : Same H (upd H L (.lst ((iota n).map V.int))) := same_new hL
    refine ⟨f, c, L, iota n, t, rfl, .inl (.of upd_same), by rw [iota_length]; omega, hF.same S1, by rw [iota_length]; omega, fun H2 p ms S2 hp hF2 ep perm => ?_⟩
    rw [iota_length] at hF2
    have hlen : ms.length = n := by rw [perm.length_eq, iota_length]
    obtain ⟨x, y, r, rfl⟩ : ∃ x y r, ms = x :: y :: r := by
      match ms, hlen with
      | [], h => simp at h; omega
      | [_], h => simp at h; omega
      | x :: y :: r, _ => exact ⟨x, y, r, rfl⟩
    have hpf : p ≠ f := fun z => hf0 (S1.free (z ▸ hp))
    refine ⟨_, rfl, (n : Int), 2, rfl, rfl, _, rfl, _, rfl, by show 6 ≤ sizeLine; decide, fun L2 hL2 => ?_⟩
    generalize hH3 : upd H2 L2 _ = H3
    have S3 : Same H2 H3 := by rw [← hH3]; exact same_new hL2
    have eL2 : H3 L2 = some (.lst [.int 0, .int 1, .int 1, .int 2, .int 3, .int n]) := by rw [← hH3, upd_same]
    have hL2f : L2 ≠ f := fun z => hF2.some (z ▸ hL2)
    refine ⟨f, c, L2, _, t + n, rfl, .of eL2, hL2f, by show 0 < 6; decide, by show 6 < 1000000; decide, hF2.same S3, by omega, fun H4 v S4 hF4 hv => ?_⟩
    obtain ⟨j, rfl, hj⟩ : ∃ j : Nat, v = .int j ∧ True := by
      have : v = .int 0 ∨ v = .int 1 ∨ v = .int 1 ∨ v = .int 2 ∨ v = .int 3 ∨ v = .int (n : Int) := by simpa using hv
      rcases this with rfl | rfl | rfl | rfl | rfl | rfl
      · exact ⟨0, rfl, trivial⟩
      · exact ⟨1, rfl, trivial⟩
      · exact ⟨1, rfl, trivial⟩
      · exact ⟨2, rfl, trivial⟩
      · exact ⟨3, rfl, trivial⟩
      · exact ⟨n, rfl, trivial⟩
    have ep4 : H4 p = some (.lst ((x :: y :: r).map V.int)) := S4 _ _ hpf (S3 _ _ ep)
    obtain ⟨m, hm, hml⟩ : ∃ m : Nat, (if (j : Int) < (n : Int) - 2 then (j : Int) else (n : Int) - 2) = (m : Int) ∧ 2 + m ≤ n := by
      by_cases h : (j : Int) < (n : Int) - 2
      · exact ⟨j, if_pos h, by omega⟩
      · exact ⟨n - 2, by rw [if_neg h]; omega, by omega⟩
    refine ⟨_, _, rfl, ?_⟩
    rw [hm]
    refine ⟨_, rfl, 2, rfl, _, rfl, 2, (m : Int), rfl, rfl, _, rfl, p, _, rfl, .of ep4, fun u hu => ?_⟩
    rw [cut_from2 (by rw [hlen]; exact hml)]
    have S5 := same_new (o := HO.lst ((((x :: y :: r).drop 2).take m).map V.int)) hu
    generalize hH5 : upd H4 u _ = H5 at S5
    have eu : H5 u = some (.lst (((x :: y :: r).drop 2).take m |>.map V.int)) := by rw [← hH5, upd_same]
    refine ⟨u, _, rfl, .inl (.of eu), fun ns' z perm' asc hz => ?_⟩
    have ens : ns' = srt (((x :: y :: r).drop 2).take m) := srt_unique perm' asc
    subst ens
    refine ⟨z, _, rfl, .inl ⟨.of upd_same, fun k hk => ?_⟩⟩
    have S6 := (same_new (o := HO.lst ((srt (((x :: y :: r).drop 2).take m)).map V.int)) hz).trans (same_new (o := HO.tup ((srt (((x :: y :: r).drop 2).take m)).map V.int)) hk)
    generalize hH6 : upd (upd H5 z _) k _ = H6 at S6
    have ek : H6 k = some (.tup ((srt (r.take m)).map V.int)) := by rw [← hH6, upd_same]; rfl
    have ep6 := S6 _ _ (S5 _ _ ep4)
    refine ⟨_, rfl, 2, rfl, p, _, rfl, .of ep6, fun b hb => ?_⟩
    rw [cut_to2 (by simp)]
    have S7 := same_new (o := HO.lst (((x :: y :: r).take 2).map V.int)) hb
    generalize hH7 : upd H6 b _ = H7 at S7
    have eb : H7 b = some (.lst ([x, y].map V.int)) := by rw [← hH7, upd_same]; rfl
    refine ⟨b, x, [y], rfl, .inl (.of eb), ?_⟩
    refine ⟨_, rfl, 2, rfl, p, _, rfl, .of (S7 _ _ ep6), fun d hd => ?_⟩
    rw [cut_to2 (by simp)]
    have S8 := same_new (o := HO.lst (((x :: y :: r).take 2).map V.int)) hd
    generalize hH8 : upd H7 d _ = H8 at S8
    have ed : H8 d = some (.lst ([x, y].map V.int)) := by rw [← hH8, upd_same]; rfl
    refine ⟨d, x, [y], rfl, .inl (.of ed), by show 3 ≤ sizeLine; decide, fun e he => ?_⟩
    rw [mn2, mx2]
    have S9 := same_new (o := HO.tup [.ref k, .int (min x y), .int (max x y)]) he
    have S49 := (((S5.trans S6).trans S7).trans S8).trans S9
    have ek9 := ((S7.trans S8).trans S9) _ _ ek
    exact q _ e (srt (r.take m), min x y, max x y) ((((Same.x S1).trans S2).trans (Same.x S3)).trans (S4.trans (Same.x S49))) ((hF4.same S49).le (by omega)) ⟨k, .inl (.inl upd_same), .inl (.inl ek9)⟩ (wf_drawn perm)
/-! ### _law_gates -/
abbrev sLGates : Stmt := topS 49
theorem scLGates : FnScope ["_law_ferry_here", "_law_lamps", "_law_most", "_law_found", "_law_turn"] ["_law_ferry_here", "_law_lamps", "_law_most"] (defScope sLGates) := ⟨rfl, rfl, rfl, by decide +kernel, rfl, by decide +kernel, by decide +kernel⟩
def spLGates (K : PySem.W.Frag) : Sp := fun vs H Q _ => ∃ (f c : Addr) (n : Nat) (t : Nat), vs = [.ref f, .int n, .int 9] ∧ 2 ≤ n ∧ n ≤ 8 ∧ FerAt H f c t ∧ t + 100 ≤ 100000 ∧ ∀ H' p (ps : PG'), SameX f H H' → FerAt H' f c (t + 100) → H p = none → H' p = some (.lst (refs ps)) → GAs K H' ps → WFs n (gts ps) → ps.length ≤ 9 → Q (.ref p) H'
theorem ok_lgates {f0 : Addr} {fd : FuncData} (F : Fun K "_law_gates" "_law_gates" sLGates f0 fd) (T : Txt K mg) (HS : Has P w K mg base CX0 1 "_law_steer" ["_law_ferry_here", "_law_many"] [] (spSteer K)) (HP : Has P w K mg base CX0 2 "_law_pick" ["_law_ferry_here", "_law_some"] [] (spPick K)) (HG : Has P w K mg base CX0 3 "_law_gate" ["_law_ferry_here", "_law_lamps"] [] (spLGate K)) :
    FnOk P w K mg base CX0 4 f0 fd ["_law_ferry_here", "_law_lamps", "_law_most"] (spLGates K) := by
  refine F.ok scLGates (fun vs H Q E h => ?_) (fun cdv A outer s H vs Q E hr h => ?_)
  · obtain ⟨f, c, n, t, rfl, _⟩ := h
    rfl
  · obtain ⟨f, c, n, t, rfl, hn2, hn8, hF, ht, q⟩ := h
    have hu64 : (A.deeper (envOfC "_law_gates" (defScope sLGates) s.heap.objs.size f0 cdv)).units + 64 < cLine := by have := hr.un; omega
    refine ⟨_, pss_cons (ps_set (i := 3) scLGates.nd rfl (.inl rfl) (pe_lst pa_nil))
      (pss_cons (ps_for PassesOwn.never rfl (pi_range1 rfl T.zrange (pa_cons (pe_ifExp (pt_cmpR op_gt (pv 1) pe_int (nomark _)) (pe_h HS hr (by decide) pass0 (pa_cons (pv 0) (pa_cons (pe_op op_add (pv 2) pe_int) pa_nil))) pe_int) pa_nil)) (pg_name (i := 4) scLGates.nd rfl (Or.inl rfl))
        (pss_one (ps_expr (pe_bm PySem.F.plainAttrs_list PySem.F.slot_list_append PySem.F.type_list_append mt_append (pv 3) (pa_cons (pe_ifExp (PW.pt (pw_and (pt_cmpR (op_neD hu64) (pv 3) (pe_lst pa_nil) (nomark _)) (pw_and1 (pt_cmpR op_eq (pe_h HS hr (by decide) pass0 (pa_cons (pv 0) (pa_cons pe_int pa_nil))) pe_int (nomark _)))))
          (pe_h HP hr (by decide) pass0 (pa_cons (pv 0) (pa_cons (pv 3) pa_nil))) (pe_h HG hr (by decide) pass0 (pa_cons (pv 0) (pa_cons (pv 1) pa_nil)))) pa_nil)))))
      (pss_one (ps_ret (pv 3)))), ?_⟩
    have hf0 := hF.some
    refine ⟨Nat.zero_le _, fun L hL => ?_⟩
    have hLf : L ≠ f := fun z => hf0 (z ▸ hL)
    have hLc : c ≠ L := fun z => hF.someC (z ▸ hL)
    have S1 : Same H (upd H L (.lst [])) := same_new hL
    refine ⟨_, rfl, (n : Int), 1, rfl, rfl, _, rfl, ?_⟩
    have : decide ((n : Int) > 1) = true := decide_eq_true (by omega)
    rw [this]
    refine iteT ⟨_, rfl, _, rfl, 9, 1, rfl, rfl, f, c, 10, t, rfl, by decide, by decide, hF.same S1, by omega, fun H2 r S2 hF2 r0 r1 => ?_⟩
    refine ⟨r, rfl, by omega, by omega, ?_⟩
    refine forW (walk_range 0 r.toNat) (fun i σ H1 => ∃ (y : Option V) (ps : PG'), σ = [some (.ref f), some (.int n), some (.int 9), some (.ref L), y] ∧ SameX f H H1 ∧ FerAt H1 f c (t + 1 + 10 * i) ∧ H1 L = some (.lst (refs ps)) ∧ GAs K H1 ps ∧ WFs n (gts ps) ∧ ps.length = i)
      ⟨none, [], rfl, (Same.x S1).trans S2, hF2, S2 _ _ hLf upd_same, (fun _ h => by cases h), (fun _ h => by cases h), rfl⟩ (fun _ _ _ _ _ => trivial) ?_ ?_
    · rintro i z σ H3 hz ⟨y, ps, rfl, S3, hF3, eL, hG, hW, hlen⟩
      obtain ⟨hi, rfl⟩ := rngV_get hz
      have hi9 : i < 10 := by omega
      -- behind the item
      have fin : ∀ (H4 : Hp) (p : Addr) (g : G) (t' : Nat), SameX f H3 H4 → FerAt H4 f c t' → t' ≤ t + 1 + 10 * (i + 1) → GA K H4 p g → WF n g → ∃ l xs y', V.ref L = .ref l ∧ [V.ref p] = [y'] ∧ H4 l = some (.lst xs) ∧ xs.length < sizeLine ∧
          (fun (σ : L2.St) (H1 : Hp) => ∃ (y : Option V) (ps : PG'), σ = [some (.ref f), some (.int n), some (.int 9), some (.ref L), y] ∧ SameX f H H1 ∧ FerAt H1 f c (t + 1 + 10 * (i + 1)) ∧ H1 L = some (.lst (refs ps)) ∧ GAs K H1 ps ∧ WFs n (gts ps) ∧ ps.length = i + 1) [some (.ref f), some (.int n), some (.int 9), some (.ref L), some (.int (0 + (i : Int)))] (upd H4 l (.lst (xs ++ [y']))) := fun H4 p g t' S4 hF4 ht' hg hw => by
        have eL4 := S4 _ _ hLf eL
        have T5 : TupS K H4 (upd H4 L (.lst (refs ps ++ [.ref p]))) := tups_lst eL4
        refine ⟨L, _, _, rfl, rfl, eL4, by rw [refs_length]; exact small_size (by omega), _, ps ++ [(p, g)], rfl, fun b o hb e => ?_, (hF4.le ht').put hLf.symm hLc, by rw [upd_same, refs_app]; rfl, ?_, ?_, by rw [List.length_append]; exact congrArg (· + 1) hlen⟩
        · rw [upd_ne (ne_of_none e hL)]
          exact S4 _ _ hb (S3 _ _ hb e)
        · exact gas_app (hG.tups ((hF3.tups S4).trans T5)) (gas_one (hg.tups T5))
        · intro g' hg'
          rw [gts_app] at hg'
          rcases List.mem_append.mp hg' with h | h
          · exact hW g' h
          · rw [show gts [(p, g)] = [g] from rfl, List.mem_singleton] at h
            rw [h]; exact hw
      refine ⟨_, rfl, .inl ⟨rfl, _, .of eL⟩, _, rfl, Nat.zero_le _, fun o ho => ?_⟩
      have S4 : Same H3 (upd H3 o (.lst [])) := same_new ho
      generalize hH4 : upd H3 o (HO.lst []) = H4 at S4
      have eo : H4 o = some (.lst []) := by rw [← hH4, upd_same]
      have eL4 := S4 _ _ eL
      refine ⟨.list ((gts ps).map gD), .list [], .lst (.of eL4) ((hG.tups (Same.tups S4)).dp), .lst (.of eo) .nil, sh_gDs _, rfl, _, rfl, ?_⟩
      cases ps with
      | nil => exact iteF (iteF ⟨_, rfl, _, rfl, f, c, n, _, rfl, hn2, hn8, hF3.same S4, by omega, fun H6 p g S6 hF6 hg hw => fin H6 p g _ ((Same.x S4).trans S6) hF6 (by omega) hg hw⟩)
      | cons p0 pr =>
        refine iteT ⟨_, rfl, f, c, 4, _, rfl, by decide, by decide, hF3.same S4, by omega, fun H5 k S5 hF5 k0 k1 => ⟨rfl, _, rfl, ?_⟩⟩
        have S35 := (Same.x S4).trans S5
        refine ite2 (fun _ => ?_) (fun _ => ⟨_, rfl, _, rfl, f, c, n, _, rfl, hn2, hn8, hF5, by omega, fun H6 p g S6 hF6 hg hw => fin H6 p g _ (S35.trans S6) hF6 (by omega) hg hw⟩)
        refine ⟨_, rfl, _, rfl, f, c, L, _, _, rfl, .of (S35 _ _ hLf eL), hLf, by rw [refs_length]; simp, by rw [refs_length, hlen]; omega, hF5, by omega, fun H6 v S6 hF6 hv => ?_⟩
        obtain ⟨p, hp, rfl⟩ := List.mem_map.mp hv
        have S36 := S35.trans S6
        exact fin H6 p.1 p.2 _ S36 hF6 (by omega) ((hG p hp).tups (hF3.tups S36)) (hW p.2 (List.mem_map.mpr ⟨p, hp, rfl⟩))
    · rintro σ H3 ⟨y, ps, rfl, S3, hF3, eL, hG, hW, hlen⟩
      rw [rngV_length] at hF3 hlen
      exact ⟨_, rfl, q H3 L ps S3 (hF3.le (by omega)) hL eL hG hW (by omega)⟩
/-! ### _law_loose -/
abbrev sLoose : Stmt := topS 50
theorem scLoose : FnScope ["_law_ferry_here", "_law_gate_here", "_law_pair", "_law_told", "_law_hands"] ["_law_ferry_here", "_law_gate_here"] (defScope sLoose) := ⟨rfl, rfl, rfl, by decide +kernel, rfl, by decide +kernel, by decide +kernel⟩
def spLoose (K : PySem.W.Frag) : Sp := fun vs H Q _ => ∃ (f c a : Addr) (g : G) (t : Nat), vs = [.ref f, .ref a] ∧ GA K H a g ∧ g.1.length ≤ 8 ∧ FerAt H f c t ∧ t + 11 ≤ 100000 ∧ ∀ H' v, SameX f H H' → FerAt H' f c (t + 11) → LooseA K H' v g → Q v H'
theorem ok_loose {f0 : Addr} {fd : FuncData} (F : Fun K "_law_loose" "_law_loose" sLoose f0 fd) (T : Txt K mg) (HS : Has P w K mg base CX0 1 "_law_steer" ["_law_ferry_here", "_law_many"] [] (spSteer K)) (HT : Has P w K mg base CX0 2 "_law_stirred" ["_law_ferry_here", "_law_some"] [] (spStirred K)) :
    FnOk P w K mg base CX0 3 f0 fd ["_law_ferry_here", "_law_gate_here"] (spLoose K) := by
  refine F.ok scLoose (fun vs H Q E h => ?_) (fun cdv A outer s H vs Q E hr h => ?_)
  · obtain ⟨f, c, a, g, t, rfl, _⟩ := h
    rfl
  · obtain ⟨f, c, a, g, t, rfl, ⟨h0, g1, g2⟩, hgl, hF, ht, q⟩ := h
    -- return told if .. else tuple(told)
    obtain ⟨t3, hT3, rT3⟩ : ∃ tt, PSs (cxOf CX0 P w K mg base ["_law_ferry_here", "_law_gate_here", "_law_pair", "_law_told", "_law_hands"] "_law_loose" (defScope sLoose) f0 cdv A outer s H E).nox ((defBody sLoose).drop 3) tt ∧
        ∀ (H2 : Hp) (D h : Addr) (hs : List Int) (x y : Int) (t2 : Nat) (x2 x4 : Option V), SameX f H H2 → FerAt H2 f c t2 → t2 + 1 ≤ t + 11 → D ≠ f → H2 D = some (.lst [.ref h, .int x, .int y]) → h ≠ f → SqA K H2 h (hs.map V.int) → hs.Perm g.1 → ((x = g.2.1 ∧ y = g.2.2) ∨ (x = g.2.2 ∧ y = g.2.1)) →
          tt { nx := fun _ H' => Q .non H', rt := Q } [some (.ref f), some (.ref a), x2, some (.ref D), x4] H2 := by
      refine ⟨_, pss_one (ps_ret (pe_ifExp (pt_cmpR op_eq (pe_h HS hr (by decide) pass0 (pa_cons (pv 0) (pa_cons pe_int pa_nil))) pe_int (nomark _)) (pv 3) (pe_callTy call_tuple_of (by rfl) T.ztuple (by decide +kernel) (pa_cons (pv 3) pa_nil)))), ?_⟩
      intro H2 D h hs x y t2 x2 x4 S2 hF2 ht2 hDf eD hhf hH hp hx
      refine ⟨_, rfl, f, c, 2, t2, rfl, by decide, by decide, hF2, by omega, fun H3 r S3 hF3 r0 r1 => ⟨rfl, _, rfl, ?_⟩⟩
      have eD3 := S3 _ _ hDf eD
      obtain ⟨fx, efx⟩ := hF2.lst
      have hH3 := S3.seqA efx hH hhf
      refine ite2 (fun _ => ?_) (fun _ => ?_)
      · exact ⟨_, rfl, q H3 _ (S2.trans S3) (hF3.le ht2) ⟨D, h, hs, x, y, rfl, .inl (.of eD3), hH3, hp, hx⟩⟩
      · refine ⟨_, rfl, D, _, rfl, .inl ⟨.of eD3, fun u hu => ?_⟩⟩
        have S4 : Same H3 (upd H3 u (.tup [.ref h, .int x, .int y])) := same_new hu
        exact q _ _ ((S2.trans S3).trans (Same.x S4)) ((hF3.same S4).le ht2) ⟨u, h, hs, x, y, rfl, .inr (.inl (.inl upd_same)), sqa_same S4 hH3, hp, hx⟩
    -- told = [..]
    obtain ⟨t2, hT2, rT2⟩ : ∃ tt, PSs (cxOf CX0 P w K mg base ["_law_ferry_here", "_law_gate_here", "_law_pair", "_law_told", "_law_hands"] "_law_loose" (defScope sLoose) f0 cdv A outer s H E).nox ((defBody sLoose).drop 2) tt ∧
        ∀ (H2 : Hp) (p h : Addr) (hs : List Int) (x y : Int) (t2 : Nat) (x3 : Option V), SameX f H H2 → FerAt H2 f c t2 → t2 + 2 ≤ t + 11 → p ≠ f → H2 p = some (.lst [.int x, .int y]) → h ≠ f → H2 h = some (.lst (hs.map V.int)) → hs.Perm g.1 → ((x = g.2.1 ∧ y = g.2.2) ∨ (x = g.2.2 ∧ y = g.2.1)) →
          tt { nx := fun _ H' => Q .non H', rt := Q } [some (.ref f), some (.ref a), some (.ref p), x3, some (.ref h)] H2 := by
      refine ⟨_, pss_cons (ps_set (i := 3) scLoose.nd rfl (.inl rfl) (pe_lst (pa_cons (pe_ifExp (pt_cmpR op_eq (pe_h HS hr (by decide) pass0 (pa_cons (pv 0) (pa_cons pe_int pa_nil))) pe_int (nomark _)) (pv 4) (pe_callTy call_tuple_of (by rfl) T.ztuple (by decide +kernel) (pa_cons (pv 4) pa_nil)))
        (pa_cons (pe_ix ix_list (pv 2) pe_int (fun _ _ => rfl)) (pa_cons (pe_ix ix_list (pv 2) pe_int (fun _ _ => rfl)) pa_nil))))) hT3, ?_⟩
      intro H2 p h hs x y t2 x3 S2 hF2 ht2 hpf ep hhf eh hp hx
      refine ⟨_, rfl, f, c, 2, t2, rfl, by decide, by decide, hF2, by omega, fun H3 r S3 hF3 r0 r1 => ⟨rfl, _, rfl, ?_⟩⟩
      have ep3 := S3 _ _ hpf ep
      have eh3 := S3 _ _ hhf eh
      have hf3 := hF3.some
      refine ite2 (fun _ => ?_) (fun _ => ?_)
      · refine ⟨_, rfl, _, rfl, p, _, 0, _, rfl, rfl, .of ep3, atI_nat (j := 0) rfl, _, rfl, p, _, 1, _, rfl, rfl, .of ep3, atI_nat (j := 1) rfl, by show 3 ≤ sizeLine; decide, fun D hD => ?_⟩
        have S4 := same_new (o := HO.lst [.ref h, .int x, .int y]) hD
        exact rT3 _ D h hs x y _ _ _ ((S2.trans S3).trans (Same.x S4)) (hF3.same S4) (by omega) (fun z => hf3 (z ▸ hD)) upd_same hhf (.inl (.of (S4 _ _ eh3))) hp hx
      · refine ⟨_, rfl, h, _, rfl, .inl ⟨.of eh3, fun u hu => ?_⟩⟩
        have S4 := same_new (o := HO.tup (hs.map V.int)) hu
        have huf : u ≠ f := fun z => hf3 (z ▸ hu)
        refine ⟨_, rfl, p, _, 0, _, rfl, rfl, .of (S4 _ _ ep3), atI_nat (j := 0) rfl, _, rfl, p, _, 1, _, rfl, rfl, .of (S4 _ _ ep3), atI_nat (j := 1) rfl, by show 3 ≤ sizeLine; decide, fun D hD => ?_⟩
        have S5 := same_new (o := HO.lst [.ref u, .int x, .int y]) hD
        refine rT3 _ D u hs x y _ _ _ ((S2.trans S3).trans (Same.x (S4.trans S5))) (hF3.same (S4.trans S5)) (by omega) (fun z => hf3 (S4.free (z ▸ hD))) upd_same huf (.inr (.inl (.inl (S5 _ _ upd_same)))) hp hx
    refine ⟨_, pss_cons (ps_par (i := 4) (j := 2) rfl scLoose.nd rfl rfl (by decide) rfl rfl (pa_cons (pe_h HT hr (by decide) pass0 (pa_cons (pv 0) (pa_cons (pe_ix ix_tup (pv 1) pe_int (fun _ _ => rfl)) pa_nil)))
        (pa_cons (pe_lst (pa_cons (pe_ix ix_tup (pv 1) pe_int (fun _ _ => rfl)) (pa_cons (pe_ix ix_tup (pv 1) pe_int (fun _ _ => rfl)) pa_nil))) pa_nil)) rfl)
      (pss_cons (ps_set (i := 2) scLoose.nd rfl (.inl rfl) (pe_ifExp (pt_cmpR op_eq (pe_h HS hr (by decide) pass0 (pa_cons (pv 0) (pa_cons pe_int pa_nil))) pe_int (nomark _)) (pv 2) (pe_revL (pv 2)))) hT2), ?_⟩
    have hf0 := hF.some
    refine ⟨_, rfl, _, rfl, a, _, 0, _, rfl, rfl, g1, atI_nat (j := 0) rfl, f, c, h0, g.1, t, rfl, .inr g2, by omega, hF, by omega, fun H2 p ms S2 hp hF2 ep perm => ?_⟩
    have T2 := hF.tups (K := K) S2
    have hpf : p ≠ f := fun z => hf0 (z ▸ hp)
    refine ⟨_, rfl, a, _, 1, _, rfl, rfl, T2 _ _ g1, atI_nat (j := 1) rfl, _, rfl, a, _, 2, _, rfl, rfl, T2 _ _ g1, atI_nat (j := 2) rfl, by show 2 ≤ sizeLine; decide, fun u hu => ⟨_, _, rfl, ?_⟩⟩
    have S3 := same_new (o := HO.lst [.int g.2.1, .int g.2.2]) hu
    have huf : u ≠ f := fun z => hF2.some (z ▸ hu)
    have eu : upd H2 u (HO.lst [.int g.2.1, .int g.2.2]) u = some (HO.lst [.int g.2.1, .int g.2.2]) := upd_same
    generalize hH3 : upd H2 u (HO.lst [.int g.2.1, .int g.2.2]) = H3 at S3 eu
    have ep3 := S3 _ _ ep
    refine ⟨_, rfl, f, c, 2, _, rfl, by decide, by decide, hF2.same S3, by omega, fun H4 r S4 hF4 r0 r1 => ⟨rfl, _, rfl, ?_⟩⟩
    have eu4 := S4 _ _ huf eu
    have ep4 := S4 _ _ hpf ep3
    have S04 := (S2.trans (Same.x S3)).trans S4
    refine ite2 (fun _ => ?_) (fun _ => ?_)
    · exact ⟨_, rfl, rT2 H4 u p ms _ _ _ _ S04 hF4 (by omega) huf eu4 hpf ep4 perm (.inl ⟨rfl, rfl⟩)⟩
    · refine ⟨_, rfl, u, _, rfl, .of eu4, fun v hv => ?_⟩
      have S5 := same_new (o := HO.lst ([V.int g.2.1, .int g.2.2].reverse)) hv
      exact rT2 _ v p ms g.2.2 g.2.1 _ _ (S04.trans (Same.x S5)) (hF4.same S5) (by omega) (fun z => hF4.some (z ▸ hv)) upd_same hpf (S5 _ _ ep4) perm (.inr ⟨rfl, rfl⟩)
end
end K26
end K26W10

section K26Rows
/-! K26Rows: rows of lights as numbers; which gates are near; pairs that change sides. -/
set_option linter.all false
set_option maxHeartbeats 4000000
namespace K26
def p2 (l : Int) : Int := 1 * 2 ^ l.toNat
def litL (f : Lit) : List Int := (iota 8).filter f
def rowV (f : Lit) : Int := ((litL f).map p2).sum
def sumF (L : List Int) (f : Lit) : Int := ((L.filter f).map p2).sum
theorem sumF_cons (x : Int) (r : List Int) (f : Lit) : sumF (x :: r) f = (if f x = true then p2 x else 0) + sumF r f := by
  unfold sumF
  by_cases h : f x = true
  · rw [List.filter_cons_of_pos h, if_pos h, List.map_cons, List.sum_cons]
  · rw [List.filter_cons_of_neg h, if_neg h]; omega
theorem sumF_congr : ∀ {L : List Int} {f g : Lit}, (∀ l ∈ L, f l = g l) → sumF L f = sumF L g
  | [], _, _, _ => rfl
  | x :: r, f, g, h => by
    rw [sumF_cons, sumF_cons, h x List.mem_cons_self, sumF_congr fun l hl => h l (List.mem_cons_of_mem _ hl)]
theorem sumF_out : ∀ {L : List Int} {f : Lit} {a : Int}, L.Nodup → a ∈ L → sumF L f = sumF L (fun l => f l && !decide (l = a)) + (if f a = true then p2 a else 0)
  | [], _, _, _, h => by cases h
  | x :: r, f, a, hn, h => by
    obtain ⟨n1, n2⟩ := List.nodup_cons.mp hn
    rw [sumF_cons, sumF_cons]
    by_cases e : x = a
    · subst e
      have : sumF r (fun l => f l && !decide (l = x)) = sumF r f := sumF_congr fun l hl => by
        have : l ≠ x := fun z => n1 (z ▸ hl)
        simp [this]
      rw [this]
      simp
      omega
    · have hr : a ∈ r := by
        rcases List.mem_cons.mp h with z | z
        · exact absurd z.symm e
        · exact z
      rw [sumF_out n2 hr]
      simp [e]
      omega
theorem sumF_swap {L : List Int} {f : Lit} {a b : Int} (hn : L.Nodup) (ha : a ∈ L) (hb : b ∈ L) (hab : a ≠ b) (hf : f a ≠ f b) :
    sumF L (fun l => f l && (!decide (l = a) && !decide (l = b))) + p2 (if f a = true then b else a) = sumF L (swapF a b f) := by
  rw [sumF_out (f := swapF a b f) hn ha, sumF_out (f := fun l => swapF a b f l && !decide (l = a)) hn hb]
  have e1 : sumF L (fun l => (swapF a b f l && !decide (l = a)) && !decide (l = b)) = sumF L (fun l => f l && (!decide (l = a) && !decide (l = b))) := sumF_congr fun l hl => by
    unfold swapF
    by_cases h1 : l = a
    · simp [h1]
    · by_cases h2 : l = b
      · simp [h2]
      · simp [h1, h2]
  rw [e1]
  have e2 : swapF a b f a = f b := by simp [swapF]
  have e3 : swapF a b f b = f a := by simp [swapF, Ne.symm hab]
  simp only [e2, e3]
  have e4 : (!decide (b = a)) = true := by simp [Ne.symm hab]
  rw [e4, Bool.and_true]
  cases h1 : f a <;> cases h2 : f b <;> simp_all <;> omega
theorem rowV_sum (f : Lit) : rowV f = sumF (iota 8) f := rfl
theorem rowV_congr {f g : Lit} (h : ∀ l : Int, 0 ≤ l → l < 8 → f l = g l) : rowV f = rowV g := sumF_congr fun l hl => by
  have := mem_iota.mp hl
  exact h l this.1 this.2
/-- the lit ones, without two, and one more -/
theorem rowV_step {f : Lit} {a b : Int} (ha : 0 ≤ a ∧ a < 8) (hb : 0 ≤ b ∧ b < 8) (hab : a ≠ b) (hf : f a ≠ f b) :
    (((litL f).filter fun l => !decide (l = a) && !decide (l = b)).map p2).sum + p2 (if f a = true then b else a) = rowV (swapF a b f) := by
  have : ((litL f).filter fun l => !decide (l = a) && !decide (l = b)) = (iota 8).filter (fun l => f l && (!decide (l = a) && !decide (l = b))) := by
    unfold litL
    rw [List.filter_filter]
    congr 1
    funext l
    rw [Bool.and_comm]
  rw [this, rowV_sum]
  exact sumF_swap (iota_nodup 8) (mem_iota.mpr ha) (mem_iota.mpr hb) hab hf
def ofB (b0 b1 b2 b3 b4 b5 b6 b7 : Bool) : Lit := fun l => if l = 0 then b0 else if l = 1 then b1 else if l = 2 then b2 else if l = 3 then b3 else if l = 4 then b4 else if l = 5 then b5 else if l = 6 then b6 else if l = 7 then b7 else false
theorem ofB_of (f : Lit) : ∀ l : Int, 0 ≤ l → l < 8 → ofB (f 0) (f 1) (f 2) (f 3) (f 4) (f 5) (f 6) (f 7) l = f l := by
  intro l h0 h8
  have : l = 0 ∨ l = 1 ∨ l = 2 ∨ l = 3 ∨ l = 4 ∨ l = 5 ∨ l = 6 ∨ l = 7 := by omega
  rcases this with rfl | rfl | rfl | rfl | rfl | rfl | rfl | rfl <;> rfl
/-- light l of a row -/
def bitOf (r : Int) (l : Int) : Bool := decide (r / 2 ^ l.toNat % 2 = 1)
theorem bit_tab : ∀ b0 b1 b2 b3 b4 b5 b6 b7 : Bool, (iota 8).all (fun l => bitOf (rowV (ofB b0 b1 b2 b3 b4 b5 b6 b7)) l == ofB b0 b1 b2 b3 b4 b5 b6 b7 l) = true := by decide +kernel
theorem bit_row (f : Lit) {l : Int} (h0 : 0 ≤ l) (h8 : l < 8) : bitOf (rowV f) l = f l := by
  have h := bit_tab (f 0) (f 1) (f 2) (f 3) (f 4) (f 5) (f 6) (f 7)
  rw [rowV_congr (ofB_of f)] at h
  have := List.all_eq_true.mp h l (mem_iota.mpr ⟨h0, h8⟩)
  rw [beq_iff_eq, ofB_of f l h0 h8] at this
  exact this
theorem row_tab : ∀ r : Fin 256, rowV (bitOf (r.val : Int)) = (r.val : Int) := by decide +kernel
theorem row_bits {r : Int} (h0 : 0 ≤ r) (h1 : r < 256) : rowV (bitOf r) = r := by
  have := row_tab ⟨r.toNat, by omega⟩
  simpa [Int.toNat_of_nonneg h0] using this
theorem row_nn (f : Lit) : 0 ≤ rowV f := by
  have : ∀ L : List Int, 0 ≤ (L.map p2).sum := by
    intro L
    induction L with
    | nil => exact Int.le_refl _
    | cons x r ih =>
      rw [List.map_cons, List.sum_cons]
      have : 0 ≤ p2 x := by
        unfold p2
        have : (0 : Int) < 2 ^ x.toNat := Int.pow_pos (by decide)
        omega
      omega
  exact this _
/-- one light -/
def single (l : Int) : Lit := fun x => decide (x = l)
theorem single_tab : ∀ l : Fin 8, rowV (single (l.val : Int)) = p2 (l.val : Int) := by decide +kernel
theorem row_single {l : Int} (h0 : 0 ≤ l) (h8 : l < 8) : rowV (single l) = p2 l := by
  have := single_tab ⟨l.toNat, by omega⟩
  simpa [Int.toNat_of_nonneg h0] using this
theorem run_single {n : Nat} {ns : List Int} (hp : ns.Perm (iota n)) {i : Nat} (hi : i < n) (x : Int) : run ((crossAt ns 0).map xg) (single (i : Int)) x = single (ns.getD i 0) x := by
  have hlen : ns.length = n := by rw [hp.length_eq, iota_length]
  have hu : Upto ns 0 := fun j hj => by omega
  by_cases hx : 0 ≤ x ∧ x < (n : Int)
  · have hm : x ∈ ns := hp.mem_iff.mpr (mem_iota.mpr hx)
    obtain ⟨j, hj, e⟩ := List.mem_iff_getElem.mp hm
    have hg : ns.getD j 0 = x := by simp [List.getD, hj, e]
    have := crossAt_run ns 0 n hp hu (single (i : Int)) j (by omega)
    rw [hg] at this
    rw [this]
    have hnd : ns.Nodup := hp.nodup_iff.mpr (iota_nodup n)
    by_cases e2 : j = i
    · subst e2
      exact (decide_eq_true rfl).trans (decide_eq_true hg.symm).symm
    · have h1 : ¬ ((j : Int) = (i : Int)) := by omega
      have h2 : ¬ (x = ns.getD i 0) := fun z => by
        have g1 : ns[j]? = some x := by rw [getD_get hj, hg]
        have g2 : ns[i]? = some x := by rw [getD_get (by omega), z]
        exact e2 ((place_of_get hnd g1).symm.trans (place_of_get hnd g2))
      exact (decide_eq_false h1).trans (decide_eq_false h2).symm
  · rw [run_out (n := n) _ (fun q hq => by have := crossAt_pos _ _ q hq; omega) _ x hx]
    unfold single
    have h1 : ¬ (x = (i : Int)) := by omega
    have h2 : ¬ (x = ns.getD i 0) := fun z => by
      have hi' : i < ns.length := by omega
      have hm : ns.getD i 0 ∈ ns := by simp [List.getD, hi']
      have := mem_iota.mp (hp.mem_iff.mp hm)
      rw [← z] at this
      exact hx this
    rw [decide_eq_false h1, decide_eq_false h2]
end K26
end K26Rows

section K26W11
set_option Elab.async false
set_option linter.all false
set_option maxRecDepth 100000
set_option maxHeartbeats 4000000
/-! K26W11: _law_step, _law_film, _law_is_near. -/
namespace K26
open PySem PySem.Spec PyProof.Rows L2
/-! ### near gates -/
theorem mxI_mem : ∀ (x : Int) (xs : List Int), mxI x xs ∈ x :: xs
  | x, [] => List.mem_cons_self
  | x, y :: r => by
    show mxI (if x < y then y else x) r ∈ x :: y :: r
    have := mxI_mem (if x < y then y else x) r
    rcases List.mem_cons.mp this with h | h
    · rw [h]
      by_cases e : x < y
      · rw [if_pos e]; simp
      · rw [if_neg e]; simp
    · exact List.mem_cons_of_mem _ (List.mem_cons_of_mem _ h)
theorem mxI_ge : ∀ (x : Int) (xs : List Int), ∀ z ∈ x :: xs, z ≤ mxI x xs
  | x, [], z, h => by rw [List.mem_singleton.mp h]; exact Int.le_refl _
  | x, y :: r, z, h => by
    show z ≤ mxI (if x < y then y else x) r
    have h0 := mxI_ge (if x < y then y else x) r (if x < y then y else x) List.mem_cons_self
    rcases List.mem_cons.mp h with rfl | h
    · refine Int.le_trans ?_ h0
      by_cases e : z < y
      · rw [if_pos e]; omega
      · rw [if_neg e]; exact Int.le_refl _
    · rcases List.mem_cons.mp h with rfl | h
      · refine Int.le_trans ?_ h0
        by_cases e : x < z
        · rw [if_pos e]; exact Int.le_refl _
        · rw [if_neg e]; omega
      · exact mxI_ge _ r z (List.mem_cons_of_mem _ h)
theorem mnI_mem : ∀ (x : Int) (xs : List Int), mnI x xs ∈ x :: xs
  | x, [] => List.mem_cons_self
  | x, y :: r => by
    show mnI (if y < x then y else x) r ∈ x :: y :: r
    have := mnI_mem (if y < x then y else x) r
    rcases List.mem_cons.mp this with h | h
    · rw [h]
      by_cases e : y < x
      · rw [if_pos e]; simp
      · rw [if_neg e]; simp
    · exact List.mem_cons_of_mem _ (List.mem_cons_of_mem _ h)
theorem mnI_le : ∀ (x : Int) (xs : List Int), ∀ z ∈ x :: xs, mnI x xs ≤ z
  | x, [], z, h => by rw [List.mem_singleton.mp h]; exact Int.le_refl _
  | x, y :: r, z, h => by
    show mnI (if y < x then y else x) r ≤ z
    have h0 := mnI_le (if y < x then y else x) r (if y < x then y else x) List.mem_cons_self
    rcases List.mem_cons.mp h with rfl | h
    · refine Int.le_trans h0 ?_
      by_cases e : y < z
      · rw [if_pos e]; omega
      · rw [if_neg e]; exact Int.le_refl _
    · rcases List.mem_cons.mp h with rfl | h
      · refine Int.le_trans h0 ?_
        by_cases e : z < x
        · rw [if_pos e]; exact Int.le_refl _
        · rw [if_neg e]; omega
      · exact mnI_le _ r z (List.mem_cons_of_mem _ h)
instance (g : G) : Decidable (NearP g) := by unfold NearP; infer_instance
theorem near_iff {n : Nat} {g : G} (w : WF n g) : high g - low g = ((touched g).length : Int) - 1 ↔ NearP g := by
  have hl : (tch g).length = (touched g).length := by rw [tch_length, touched_length]
  have h0 := touched_length g
  constructor
  · intro h
    unfold NearP
    have hp : (tch g).Perm (rng (low g) (low g + ((tch g).length : Int))) := by
      refine perm_of_sub (srt_nodup w.nd) (fun x hx => ?_) ?_
      · have h1 := low_le hx
        have h2 := le_high hx
        exact mem_rng.mpr ⟨h1, by omega⟩
      · rw [rng_length]; omega
    exact sorted_unique hp (srt_sorted _) (rng_le_sorted _ _)
  · intro h
    have : high g = low g + (((tch g).length - 1 : Nat) : Int) := by
      have e : (tch g)[(tch g).length - 1]? = some (high g) := getD_get (by omega)
      rw [h, rng_get (by rw [rng_length]; omega)] at e
      have := Option.some.inj e
      rw [rng_length] at this
      omega
    omega
theorem nearB_eq {n : Nat} {g : G} (w : WF n g) : nearB g = decide (NearP g) := by
  unfold nearB
  obtain ⟨x, xs, e⟩ : ∃ x xs, touched g = x :: xs := by
    cases e : touched g with
    | nil => have := touched_length g; rw [e] at this; simp at this
    | cons x xs => exact ⟨x, xs, rfl⟩
  rw [e]
  show decide (mxI x xs - mnI x xs = ((x :: xs).length : Int) - 1) = _
  have e1 : mxI x xs = high g := by
    refine Int.le_antisymm (le_high (mem_tch.mpr (e ▸ mxI_mem x xs))) (mxI_ge x xs _ ?_)
    rw [← e]
    exact mem_tch.mp (high_mem g)
  have e2 : mnI x xs = low g := by
    refine Int.le_antisymm (mnI_le x xs _ ?_) (low_le (mem_tch.mpr (e ▸ mnI_mem x xs)))
    rw [← e]
    exact mem_tch.mp (low_mem g)
  rw [e1, e2, ← e]
  exact decide_eq_decide.mpr (near_iff w)
theorem nearB_all {n : Nat} : ∀ {gs : List G}, (∀ g ∈ gs, WF n g) → gs.all nearB = gs.all (fun g => decide (NearP g))
  | [], _ => rfl
  | g :: r, h => by
    rw [List.all_cons, List.all_cons, nearB_eq (h g List.mem_cons_self), nearB_all fun x hx => h x (List.mem_cons_of_mem _ hx)]
def rCatB (K : PySem.W.Frag) : R2 := fun x y H Q => ∃ a b xs ys, x = .ref a ∧ y = .ref b ∧ SqT K H a xs ∧ SqT K H b ys ∧ xs.length + ys.length ≤ sizeLine ∧ ∀ H' v, Same H H' → SqT K H' v (xs ++ ys) → Q (.ref v) H'
theorem op_catB {X : Cx} : OpR X (binaryOp .Add) (rCatB X.K) := by
  intro pins s σ H x y v u Q I rx ry h
  obtain ⟨a, b, xs, ys, e1, e2, ha, hb, hz, q⟩ := h
  refine op_catA pins s σ H x y v u Q I rx ry ⟨a, b, xs, ys, e1, e2, ha, hb, hz, fun e => q H b (Same.refl _) (by rw [e]; exact hb), fun _ e => q H a (Same.refl _) (by rw [e, List.append_nil]; exact ha), fun _ _ p hp => q _ p (same_new hp) (.inl (.inl upd_same))⟩
section
variable {P : Program} {w : World} {K : PySem.W.Frag} {mg : Str → Option Value} {base : Heap}
/-! ### _law_is_near -/
abbrev sLIsNear : Stmt := topS 54
theorem scLIsNear : FnScope ["_law_gates_here", "_law_gate_here", "_law_touched"] ["_law_gates_here"] (defScope sLIsNear) := ⟨rfl, rfl, rfl, by decide +kernel, rfl, by decide +kernel, by decide +kernel⟩
def spLIsNear (K : PySem.W.Frag) : Sp := fun vs H Q _ => ∃ (a : Addr) (ps : PG'), vs = [.ref a] ∧ SqA K H a (refs ps) ∧ GAs K H ps ∧ (∀ g ∈ gts ps, g.1.length ≤ 8 ∧ (∀ x ∈ touched g, 0 ≤ x ∧ x < 100)) ∧ ∀ H', Same H H' → Q (.bl ((gts ps).all fun g => decide (NearP g))) H'
theorem ok_lisnear {f0 : Addr} {fd : FuncData} (F : Fun K "_law_is_near" "_law_is_near" sLIsNear f0 fd) (T : Txt K mg) : FnOk P w K mg base CX0 1 f0 fd ["_law_gates_here"] (spLIsNear K) := by
  refine F.ok scLIsNear (fun vs H Q E h => ?_) (fun cdv A outer s H vs Q E hr h => ?_)
  · obtain ⟨a, ps, rfl, _⟩ := h
    rfl
  · obtain ⟨a, ps, rfl, hS, hG, hW, q⟩ := h
    have hu64 : (A.deeper (envOfC "_law_is_near" (defScope sLIsNear) s.heap.objs.size f0 cdv)).units + 64 < cLine := by have := hr.un; omega
    refine ⟨_, pss_cons (ps_for PassesOwn.never rfl (pi_any (pv 0)) (pg_name (i := 1) scLIsNear.nd rfl (Or.inl rfl))
        (pss_cons (ps_set (i := 2) scLIsNear.nd rfl (.inl rfl) (pe_callB cr_sortedA (by rfl) T.zsorted (by decide +kernel) (pa_cons (pe_op op_catB (pe_ix ix_tup (pv 1) pe_int (fun _ _ => rfl)) (pe_slice sl_tupA (pv 1) (po_some pe_int) po_none)) pa_nil)))
        (pss_one (ps_if (pt_cmpR (op_neD hu64) (pv 2) (pe_listRg rfl (by rfl) T.zlist (prg_2 (by rfl) T.zrange (pe_ix ix_list (pv 2) pe_int (fun _ _ => rfl)) (pe_op op_add (pe_ix ix_list (pv 2) pe_int (fun _ _ => rfl)) (pe_callB call_lenS (by rfl) T.zlen PySem.boot_len (pa_cons (pv 2) pa_nil))))) (nomark _)) (pss_one (ps_ret pe_bl)) pss_nil))))
      (pss_one (ps_ret pe_bl)), ?_⟩
    refine ⟨_, rfl, a, _, rfl, hS, fun J Ok wk hok => ?_⟩
    refine forW wk (fun i σ H1 => ∃ (y1 y2 : Option V), σ = [some (.ref a), y1, y2] ∧ Same H H1 ∧ ((gts ps).take i).all (fun g => decide (NearP g)) = true) ⟨none, none, rfl, Same.refl _, rfl⟩ (fun i σ H1 _ ⟨_, _, _, S, _⟩ => hok H1 (fun q => S.seq q) fun q => sqt_same S q) ?_ ?_
    · rintro i z σ H1 hz ⟨y1, y2, rfl, S1, hall⟩
      obtain ⟨p, hp, rfl⟩ := refs_get hz
      obtain ⟨h, g1, g2⟩ := (hG p (List.mem_of_getElem? hp)).tups (Same.tups S1)
      obtain ⟨hgl, hin⟩ := hW p.2 (List.mem_of_getElem? (gts_get hp))
      have mem := gts_get hp
      generalize hg : p.2 = g at g1 g2 hgl hin mem
      refine ⟨_, rfl, p.1, _, 0, _, rfl, rfl, g1, atI_nat (j := 0) rfl, _, rfl, 1, rfl, p.1, _, rfl, g1, (fun e => absurd (show (1 : Nat) = 0 from e.1) (by decide)), fun _ u hu => ?_⟩
      have S2 := same_new (o := HO.tup (cutV [.ref h, .int g.2.1, .int g.2.2] (some 1) none)) hu
      have ecut : cutV [.ref h, .int g.2.1, .int g.2.2] (some 1) none = [.int g.2.1, .int g.2.2] := rfl
      rw [ecut] at S2 ⊢
      generalize hH2 : upd H1 u _ = H2 at S2
      have eu : H2 u = some (.tup [.int g.2.1, .int g.2.2]) := by rw [← hH2, upd_same]
      have S12 := S1.trans S2
      refine ⟨h, u, g.1.map V.int, _, rfl, rfl, (Same.tups S2) _ _ g2, .inl (.inl eu), ?_, fun H3 v S3 hv => ?_⟩
      · rw [List.length_map]
        exact Nat.le_of_lt (small_size (by show g.1.length + 2 ≤ _; omega))
      have et : g.1.map V.int ++ [.int g.2.1, .int g.2.2] = (touched g).map V.int := by simp [touched]
      rw [et] at hv
      refine ⟨v, touched g, rfl, .inr hv, fun ns' b perm asc hb => ?_⟩
      have ens : ns' = tch g := srt_unique perm asc
      subst ens
      have S4 := same_new (o := HO.lst ((tch g).map V.int)) hb
      generalize hH4 : upd H3 b _ = H4 at S4
      have eb : H4 b = some (.lst ((tch g).map V.int)) := by rw [← hH4, upd_same]
      have tl0 := tch_length g
      have l0 : atI ((tch g).map V.int) 0 = some (.int (low g)) := atI_nat (j := 0) (by rw [List.getElem?_map, getD_get (by omega)]; rfl)
      have hlow := hin _ (mem_tch.mp (low_mem g))
      refine ⟨_, rfl, _, rfl, b, _, 0, _, rfl, rfl, .of eb, l0, _, rfl, b, _, 0, _, rfl, rfl, .of eb, l0, _, rfl, b, _, rfl, .inl (.of eb), _, _, rfl, rfl, _, _, rfl, rfl, .of_le (by omega) (by rw [List.length_map]; omega) (by omega) (by omega), fun d hd => ?_⟩
      have erg : rgV (low g) (low g + ((((tch g).map V.int).length : Nat) : Int)) = (rng (low g) (low g + ((tch g).length : Int))).map V.int := by
        rw [List.length_map]
        simp [rgV, rng, Function.comp_def]
      rw [erg]
      have S5 := same_new (o := HO.lst ((rng (low g) (low g + ((tch g).length : Int))).map V.int)) hd
      generalize hH5 : upd H4 d _ = H5 at S5
      have ed : H5 d = some (.lst ((rng (low g) (low g + ((tch g).length : Int))).map V.int)) := by rw [← hH5, upd_same]
      refine ⟨_, _, .lst (.of (S5 _ _ eb)) (dp_ints _), .lst (.of ed) (dp_ints _), sh_ints _, sh_ints _, _, rfl, ?_⟩
      have S15 := ((S12.trans S3).trans S4).trans S5
      have eq1 : PyData.eqv (.list ((tch g).map PyData.int)) (.list ((rng (low g) (low g + ((tch g).length : Int))).map PyData.int)) = decide (NearP g) := by
        unfold NearP
        simp only [PyData.eqv, eqvAll_ints]
      rw [eq1]
      by_cases hnp : NearP g
      · rw [decide_eq_true hnp]
        refine iteF ⟨_, _, rfl, S15, ?_⟩
        rw [take_snoc mem, List.all_append, hall]
        simp [hg, hnp]
      · rw [decide_eq_false hnp]
        refine iteT ?_
        have : ((gts ps).all fun g => decide (NearP g)) = false := by
          rw [List.all_eq_false]
          exact ⟨g, by rw [← hg]; exact List.mem_of_getElem? (gts_get hp), by simp [hnp]⟩
        have hq := q _ S15
        rw [this] at hq
        exact hq
    · rintro σ H1 ⟨y1, y2, rfl, S1, hall⟩
      rw [refs_length, ← gts_length ps, List.take_length] at hall
      have := q H1 S1
      rw [hall] at this
      exact this
/-! ### _law_step -/
end
/-- what a comprehension takes of ints -/
def selM (p : Int → Bool) (m : Int → Int) : V → Option V
  | .int z => if p z = true then some (.int (m z)) else none
  | _ => none
theorem selM_t {p : Int → Bool} {m : Int → Int} {z : Int} (h : p z = true) : selM p m (.int z) = some (.int (m z)) := if_pos h
theorem selM_f {p : Int → Bool} {m : Int → Int} {z : Int} (h : p z = false) : selM p m (.int z) = none := if_neg (by rw [h]; decide)
theorem selM_map (p : Int → Bool) (m : Int → Int) : ∀ l : List Int, (l.map V.int).filterMap (selM p m) = ((l.filter p).map m).map V.int
  | [] => rfl
  | x :: r => by
    rw [List.map_cons, List.filterMap_cons]
    cases h : p x with
    | true => rw [selM_t h, List.filter_cons_of_pos h, List.map_cons, List.map_cons, selM_map p m r]
    | false => rw [selM_f h, List.filter_cons_of_neg (by rw [h]; decide), selM_map p m r]
theorem mem_litL {f : Lit} {z : Int} (h0 : 0 ≤ z) (h8 : z < 8) : decide (z ∈ litL f) = f z := by
  unfold litL
  cases h : f z with
  | true => exact decide_eq_true (List.mem_filter.mpr ⟨mem_iota.mpr ⟨h0, h8⟩, h⟩)
  | false => exact decide_eq_false fun z => by rw [(List.mem_filter.mp z).2] at h; cases h
section
variable {P : Program} {w : World} {K : PySem.W.Frag} {mg : Str → Option Value} {base : Heap}
abbrev sStep : Stmt := topS 51
theorem scStep : FnScope ["_law_gate_here", "_law_row", "_law_lit", "_law_hands", "_law_one", "_law_other", "_law_hand", "_law_lamp"] ["_law_gate_here", "_law_row"] (defScope sStep) := ⟨rfl, rfl, rfl, by decide +kernel, rfl, by decide +kernel, by decide +kernel⟩
def spStep (K : PySem.W.Frag) : Sp := fun vs H Q _ => ∃ (a : Addr) (n : Nat) (g : G) (f : Lit), vs = [.ref a, .int (rowV f)] ∧ GA K H a g ∧ WF n g ∧ n ≤ 8 ∧ ∀ H', Same H H' → Q (.int (rowV (act g f))) H'
theorem shr_bit {x : Int} (l : Nat) : decide (V.int (Builtin.bitAnd (x / 2 ^ (0 + (l : Int)).toNat) 1) = V.int 1) = bitOf x (0 + (l : Int)) := by
  rw [bitAnd_m1]
  unfold bitOf
  exact decide_eq_decide.mpr ⟨fun z => V.int.inj z, fun z => congrArg V.int z⟩
theorem ok_step {f0 : Addr} {fd : FuncData} (F : Fun K "_law_step" "_law_step" sStep f0 fd) (T : Txt K mg) : FnOk P w K mg base CX0 1 f0 fd ["_law_gate_here", "_law_row"] (spStep K) := by
  refine F.ok scStep (fun vs H Q E h => ?_) (fun cdv A outer s H vs Q E hr h => ?_)
  · obtain ⟨a, n, g, f, rfl, _⟩ := h
    rfl
  · obtain ⟨a, n, g, f, rfl, ⟨h, g1, g2⟩, wf, hn8, q⟩ := h
    have hu64 : (A.deeper (envOfC "_law_step" (defScope sStep) s.heap.objs.size f0 cdv)).units + 64 < cLine := by have := hr.un; omega
    refine ⟨_, pss_cons (ps_asg (pv 0) (pg_tup rfl (pgs_cons (pg_name (i := 3) scStep.nd rfl (.inl rfl)) (pgs_cons (pg_name (i := 4) scStep.nd rfl (.inr rfl)) (pgs_cons (pg_name (i := 5) scStep.nd rfl (.inr rfl)) pgs_nil)))))
      (pss_cons (ps_set (i := 2) scStep.nd rfl (.inr rfl) (pe_lc (own := [("_law_lamp", 7)]) (g := gName 7) rfl scStep.nd (pi_range1 rfl T.zrange (pa_cons pe_int pa_nil))
            (blkOk_by (own := [("_law_lamp", 7)]) (N := ["_law_gate_here", "_law_row", "_law_lit", "_law_hands", "_law_one", "_law_other", "_law_hand", "_law_lamp"]) (sc := defScope sStep) (by decide +kernel))
            (fun _ _ _ _ _ => pg_name (i := 7) scStep.nd rfl (Or.inl rfl)) (fun _ _ _ _ _ => pts_one (pt_cmpR op_eq (pe_op op_and (pe_op op_shr (pv 1) (pv 7)) pe_int) pe_int (nomark _))) (fun _ _ _ _ _ => pv 7)))
      (pss_cons (ps_if (PW.pt (pw_or (pt_cmpR op_eq (pe_cmpR op_in_seq (pv 4) (pv 2) (by rfl)) (pe_cmpR op_in_seq (pv 5) (pv 2) (by rfl)) (nomark _))
          (pw_or1 (pt_cmpR (op_neD hu64) (pe_lc (own := [("_law_hand", 6)]) (g := gName 6) (tt := tTest (tOp (rIn K true) (tVar 6) (tVar 2))) rfl scStep.nd (pi_tup (pv 3))
            (blkOk_by (own := [("_law_hand", 6)]) (N := ["_law_gate_here", "_law_row", "_law_lit", "_law_hands", "_law_one", "_law_other", "_law_hand", "_law_lamp"]) (sc := defScope sStep) (by decide +kernel))
            (fun _ _ _ _ _ => pg_name (i := 6) scStep.nd rfl (Or.inl rfl)) (fun _ _ _ _ _ => pts_one (pt_cmpR op_notIn_seq (pv 6) (pv 2) (by rfl))) (fun _ _ _ _ _ => pv 6)) (pe_lst pa_nil) (nomark _))))) (pss_one (ps_ret (pv 1))) pss_nil)
      (pss_one (ps_ret (pe_op op_add (pe_callB (cr_sum rfl) (by rfl) T.zsum (by decide +kernel) (pa_cons (pe_lc (own := [("_law_lamp", 7)]) (g := gName 7) (tt := tTest (tOp (rIn K true) (tVar 7) (tTup (tCons (tVar 4) (tCons (tVar 5) tNil))))) rfl scStep.nd (pi_list (pv 2))
            (blkOk_by (own := [("_law_lamp", 7)]) (N := ["_law_gate_here", "_law_row", "_law_lit", "_law_hands", "_law_one", "_law_other", "_law_hand", "_law_lamp"]) (sc := defScope sStep) (by decide +kernel))
            (fun _ _ _ _ _ => pg_name (i := 7) scStep.nd rfl (Or.inl rfl)) (fun _ _ _ _ _ => pts_one (pt_cmpR op_notIn_seq (pv 7) (pe_tup (pa_cons (pv 4) (pa_cons (pv 5) pa_nil))) (by rfl))) (fun _ _ _ _ _ => pe_op op_shl pe_int (pv 7))) pa_nil))
          (pe_op op_shl pe_int (pe_ifExp (pt_cmpR op_in_seq (pv 4) (pv 2) (by rfl)) (pv 5) (pv 4)))))))), ?_⟩
    obtain ⟨hs, one, other⟩ := g
    have ha := wf.inn one (by simp [touched])
    have hb := wf.inn other (by simp [touched])
    have hab : one ≠ other := fun e => by have := wf.lt; simp only at this; omega
    refine ⟨_, rfl, a, _, rfl, g1, rfl, _, _, rfl, _, _, rfl, _, _, rfl, rfl, ?_⟩
    refine ⟨8, rfl, by decide, by decide, fun D hD => ?_⟩
    refine lcJ (K := K) (walk_range 0 (8 : Int).toNat) (fun _ _ _ => trivial) (fmJ (rngV 0 (8 : Int).toNat) (selM f id)) hD (by rw [rngV_length]; decide) fmJ_mono fmJ_0 ?_ ?_
    · intro i z H4 acc hz hi S4 eD hacc hJ
      obtain ⟨hi', rfl⟩ := rngV_get hz
      have hi8 : i < 8 := hi'
      refine ⟨rfl, _, rfl, _, rfl, _, _, rfl, rfl, (by omega : (0 : Int) ≤ 0 + (i : Int)), _, _, rfl, rfl, rfl, _, rfl, ?_⟩
      rw [shr_bit, bit_row f (by omega) (by omega)]
      cases hfi : f (0 + (i : Int)) with
      | false => exact iteF (JPv.skip S4 eD hacc (Same.refl _) (fmJ_skip hz (selM_f hfi) hJ))
      | true => exact iteT ⟨_, rfl, JPv.put (K := K) hD fmJ_mono S4 eD hacc hi (Same.refl _) (fmJ_put hz (selM_t hfi) hJ)⟩
    · intro H4 acc S4 eD hJ
      have eacc := fmJ_end hJ
      have er : rngV 0 (8 : Int).toNat = (iota 8).map V.int := by decide
      rw [er, selM_map, List.map_id] at eacc
      have eL : SqL K H4 D ((litL f).map V.int) := .of (by rw [eD, eacc]; rfl)
      have ha8 : one < 8 := by omega
      have hb8 : other < 8 := by omega
      have inL : ∀ z : Int, 0 ≤ z → z < 8 → L2.inV (.int z) ((litL f).map V.int) = f z := fun z h0 h8 => by rw [inV_ints, mem_litL h0 h8]
      have eact : act (hs, one, other) f = if hs.all f = true then swapF one other f else f := rfl
      refine ⟨_, rfl, _, rfl, D, _, rfl, .inl eL, rfl, flat_ints _, _, rfl, _, rfl, D, _, rfl, .inl eL, rfl, flat_ints _, rfl, _, rfl, ?_⟩
      have e1 : decide (V.bl (if false = true then !L2.inV (.int one) ((litL f).map V.int) else L2.inV (.int one) ((litL f).map V.int)) = V.bl (if false = true then !L2.inV (.int other) ((litL f).map V.int) else L2.inV (.int other) ((litL f).map V.int))) = decide (f one = f other) := by
        simp only [Bool.false_eq_true, if_false, inL one ha.1 ha8, inL other hb.1 hb8]
        exact decide_eq_decide.mpr ⟨fun z => V.bl.inj z, fun z => congrArg V.bl z⟩
      rw [e1]
      by_cases hf : f one = f other
      · rw [decide_eq_true hf]
        refine iteT (iteT ⟨_, rfl, ?_⟩)
        have : act (hs, one, other) f = f := by
          rw [eact]
          by_cases h : hs.all f = true
          · rw [if_pos h]
            funext l
            unfold swapF
            by_cases h1 : l = one
            · rw [if_pos h1, h1, hf]
            · rw [if_neg h1]
              by_cases h2 : l = other
              · rw [if_pos h2, h2, hf]
              · rw [if_neg h2]
          · rw [if_neg h]
        have hq := q H4 S4
        rw [this] at hq
        exact hq
      · rw [decide_eq_false hf]
        have g2' : SqT K H4 h (hs.map V.int) := (Same.tups S4) _ _ g2
        refine iteF ⟨_, rfl, h, rfl, ⟨_, g2'⟩, fun D2 hD2 => ?_⟩
        refine lcJ (K := K) (walk_tup K h (hs.map V.int)) (fun H' _ k => k _ _ g2') (fmJ (hs.map V.int) (selM (fun z => !f z) id)) hD2 (by rw [List.length_map]; exact Nat.le_of_lt (small_size (by have := wf.len; simp only at this; omega))) fmJ_mono fmJ_0 ?_ ?_
        · intro i z H5 acc hz hi S5 eD2 hacc hJ
          obtain ⟨x, hx, rfl⟩ := ints_get hz
          have hxin := wf.inn x (List.mem_append_left _ (List.mem_of_getElem? hx))
          refine ⟨rfl, _, rfl, _, rfl, D, _, rfl, .inl (S5.seq eL), rfl, flat_ints _, _, rfl, ?_⟩
          have e2 : (if true = true then !L2.inV (.int x) ((litL f).map V.int) else L2.inV (.int x) ((litL f).map V.int)) = !f x := by
            rw [if_pos rfl, inL x hxin.1 (by omega)]
          rw [e2]
          cases hfx : f x with
          | true => exact iteF (JPv.skip S5 eD2 hacc (Same.refl _) (fmJ_skip hz (selM_f (by rw [hfx]; rfl)) hJ))
          | false => exact iteT ⟨_, rfl, JPv.put (K := K) hD2 fmJ_mono S5 eD2 hacc hi (Same.refl _) (fmJ_put hz (selM_t (by rw [hfx]; rfl)) hJ)⟩
        · intro H5 acc S5 eD2 hJ
          have eacc := fmJ_end hJ
          rw [selM_map, List.map_id] at eacc
          rw [eacc] at eD2
          refine ⟨Nat.zero_le _, fun o ho => ?_⟩
          have S6 : Same H5 (upd H5 o (.lst [])) := same_new ho
          generalize hH6 : upd H5 o (HO.lst []) = H6 at S6
          have eo : H6 o = some (.lst []) := by rw [← hH6, upd_same]
          refine ⟨_, .list [], .lst (.of (S6 _ _ eD2)) (dp_ints _), .lst (.of eo) .nil, sh_ints _, rfl, _, rfl, ?_⟩
          have S06 := (S4.trans S5).trans S6
          have e3 : (!PyData.eqv (.list ((hs.filter fun z => !f z).map PyData.int)) (.list [])) = !(hs.all f) := by
            have : PyData.eqv (.list ((hs.filter fun z => !f z).map PyData.int)) (.list []) = decide ((hs.filter fun z => !f z) = []) := eqvAll_ints _ []
            rw [this]
            congr 1
            by_cases h : hs.all f = true
            · rw [h]
              refine decide_eq_true (List.filter_eq_nil_iff.mpr fun z hz => ?_)
              have := List.all_eq_true.mp h z hz
              simp [this]
            · have hf2 : hs.all f = false := by simpa using h
              rw [hf2]
              refine decide_eq_false fun z => h (List.all_eq_true.mpr fun x hx => ?_)
              have := List.filter_eq_nil_iff.mp z x hx
              simpa using this
          rw [e3]
          by_cases hall : hs.all f = true
          · rw [hall]
            refine iteF ?_
            have eL6 := (S5.trans S6).seq eL
            refine ⟨_, rfl, D, rfl, ⟨_, eL6⟩, fun D3 hD3 => ?_⟩
            refine lcJ (K := K) (walk_list K D ((litL f).map V.int)) (fun H' k _ => k _ _ eL6) (fmJ ((litL f).map V.int) (selM (fun l => !decide (l = one) && !decide (l = other)) p2)) hD3 (by rw [List.length_map]; exact Nat.le_of_lt (small_size (Nat.le_trans (List.length_filter_le _ _) (by rw [iota_length]; omega)))) fmJ_mono fmJ_0 ?_ ?_
            · intro i z H7 acc hz hi S7 eD3 hacc hJ
              obtain ⟨x, hx, rfl⟩ := ints_get hz
              have hx8 := mem_iota.mp (List.mem_filter.mp (List.mem_of_getElem? hx)).1
              refine ⟨rfl, _, rfl, _, rfl, _, rfl, by show 2 ≤ sizeLine; decide, fun u hu => ?_⟩
              have S8 := same_new (o := HO.tup [.int one, .int other]) hu
              refine ⟨u, _, rfl, .inr (.inl (.inl upd_same)), rfl, rfl, _, rfl, ?_⟩
              have e4 : (if true = true then !L2.inV (.int x) [.int one, .int other] else L2.inV (.int x) [.int one, .int other]) = (!decide (x = one) && !decide (x = other)) := by
                rw [if_pos rfl]
                have : L2.inV (.int x) [.int one, .int other] = decide (x ∈ [one, other]) := inV_ints x [one, other]
                rw [this]
                by_cases h1 : x = one <;> by_cases h2 : x = other <;> simp [h1, h2]
              rw [e4]
              cases hc : (!decide (x = one) && !decide (x = other)) with
              | false => exact iteF (JPv.skip S7 eD3 hacc S8 (fmJ_skip hz (selM_f hc) hJ))
              | true => exact iteT ⟨_, rfl, 1, x, rfl, rfl, ⟨hx8.1, by omega, by decide⟩, JPv.put (K := K) hD3 fmJ_mono S7 eD3 hacc hi S8 (fmJ_put hz (selM_t hc) hJ)⟩
            · intro H7 acc S7 eD3 hJ
              have eacc := fmJ_end hJ
              rw [selM_map] at eacc
              refine ⟨D3, _, rfl, .of (by rw [eD3, eacc]), _, rfl, _, rfl, D, _, rfl, .inl (S7.seq eL6), rfl, flat_ints _, _, rfl, ?_⟩
              have e5 : (if false = true then !L2.inV (.int one) ((litL f).map V.int) else L2.inV (.int one) ((litL f).map V.int)) = f one := by
                rw [if_neg Bool.false_ne_true, inL one ha.1 ha8]
              rw [e5]
              have fin : Q (.int ((((litL f).filter fun l => !decide (l = one) && !decide (l = other)).map p2).sum + p2 (if f one = true then other else one))) H7 := by
                rw [rowV_step ⟨ha.1, ha8⟩ ⟨hb.1, hb8⟩ hab hf]
                have hq := q H7 (S06.trans S7)
                rw [eact, if_pos hall] at hq
                exact hq
              cases h1 : f one with
              | true =>
                rw [h1, if_pos rfl] at fin
                exact iteT ⟨_, rfl, 1, other, rfl, rfl, ⟨hb.1, by omega, by decide⟩, _, _, rfl, rfl, fin⟩
              | false =>
                rw [h1, if_neg Bool.false_ne_true] at fin
                exact iteF ⟨_, rfl, 1, one, rfl, rfl, ⟨ha.1, by omega, by decide⟩, _, _, rfl, rfl, fin⟩
          · have hf2 : hs.all f = false := by simpa using hall
            rw [hf2]
            refine iteT ⟨_, rfl, ?_⟩
            have hq := q H6 S06
            rw [eact, if_neg hall] at hq
            exact hq
/-! ### _law_film -/
end
def AnyS (K : PySem.W.Frag) (H1 : Hp) (a : Addr) (xs : List V) (R : It → Hp → Prop) : Prop :=
  ((SqL K H1 a xs ∧ ∀ (J : It) (Ok : Hp → Prop), Walk J xs Ok → (∀ H', SqL K H' a xs → Ok H') → R J H1) ∨ (SqT K H1 a xs ∧ ∀ (J : It) (Ok : Hp → Prop), Walk J xs Ok → (∀ H', SqT K H' a xs → Ok H') → R J H1))
/-- a list or a tuple that stood already at H, walked -/
def iAnyS (K : PySem.W.Frag) (tl : TE) : TI := fun σ H R => tl σ H fun x H1 => ∃ a xs, x = .ref a ∧ AnyS K H1 a xs R
theorem pi_anyS {X : Cx} {tg l : Expr} {tl : TE} (hl : PE X l tl) : PI X tg l (iAnyS X.K tl) := by
  refine ⟨fun pins s σ H R I h => ?_⟩
  refine thn (hl.run pins s σ H _ I h) fun v s1 ⟨x, H1, I1, r1, q1⟩ => ?_
  obtain ⟨a, xs, e, ⟨hq, q⟩ | ⟨hq, q⟩⟩ := q1
  · subst e
    cases r1
    obtain ⟨its, rv, p, hz⟩ := I1.list hq
    refine wpAny_pyIter_list p.isList ?_
    refine ⟨s1.heap.objs.size, [s1.heap.objs.size], _, _, H1, rfl, I1.kept (t' := s1.toks) fun b o e => Heap.get?_push_of_some _ e, turn_list a _, ⟨_, Heap.get?_push_size _ rfl, rfl, rfl⟩, fun b hb => ?_, q _ _ (walk_list X.K a xs) fun H' h1 => h1⟩
    have e : b = s1.heap.objs.size := by simpa using hb
    subst e
    exact I1.fpOk (Nat.le_refl _) (I1.hok.fresh (Nat.le_refl _))
  · subst e
    cases r1
    obtain ⟨its, rv, p, hz⟩ := I1.tuple hq
    refine wpAny_pyIter_tuple (show s1.heap.IsTuple a its.toArray from p) ?_
    refine ⟨s1.heap.objs.size, [s1.heap.objs.size], _, _, H1, rfl, I1.kept (t' := s1.toks) fun b o e => Heap.get?_push_of_some _ e, turn_tuple a _, ⟨_, Heap.get?_push_size _ rfl, rfl, rfl⟩, fun b hb => ?_, q _ _ (walk_tup X.K a xs) fun H' h2 => h2⟩
    have e : b = s1.heap.objs.size := by simpa using hb
    subst e
    exact I1.fpOk (Nat.le_refl _) (I1.hok.fresh (Nat.le_refl _))
theorem anyS_of {K : PySem.W.Frag} {H H1 : Hp} {a : Addr} {xs : List V} {R : It → Hp → Prop} (hS : SqA K H a xs) (S : Same H H1) (h : ∀ (J : It) (Ok : Hp → Prop), Walk J xs Ok → (∀ H', Same H H' → Ok H') → R J H1) : AnyS K H1 a xs R := by
  rcases hS with hS | hS
  · exact .inl ⟨S.seq hS, fun J Ok w k => h J Ok w fun H' e => k H' (e.seq hS)⟩
  · exact .inr ⟨sqt_same S hS, fun J Ok w k => h J Ok w fun H' e => k H' (sqt_same e hS)⟩
section
variable {P : Program} {w : World} {K : PySem.W.Frag} {mg : Str → Option Value} {base : Heap}
abbrev sFilm : Stmt := topS 52
theorem scFilm : FnScope ["_law_gates_here", "_law_row", "_law_found", "_law_gate_here"] ["_law_gates_here", "_law_row"] (defScope sFilm) := ⟨rfl, rfl, rfl, by decide +kernel, rfl, by decide +kernel, by decide +kernel⟩
/-- the film: a new list whose last row this is -/
def spFilm (K : PySem.W.Frag) : Sp := fun vs H Q _ => ∃ (a : Addr) (n : Nat) (ps : PG') (f : Lit), vs = [.ref a, .int (rowV f)] ∧ SqA K H a (refs ps) ∧ GAs K H ps ∧ WFs n (gts ps) ∧ n ≤ 8 ∧ ps.length ≤ 2000000 ∧
  ∀ H' p (xs : List V), Same H H' → H' p = some (.lst (xs ++ [.int (rowV (run (gts ps) f))])) → Q (.ref p) H'
theorem ok_film {f0 : Addr} {fd : FuncData} (F : Fun K "_law_film" "_law_film" sFilm f0 fd) (T : Txt K mg) (HS : Has P w K mg base CX0 1 "_law_step" ["_law_gate_here", "_law_row"] [] (spStep K)) : FnOk P w K mg base CX0 2 f0 fd ["_law_gates_here", "_law_row"] (spFilm K) := by
  refine F.ok scFilm (fun vs H Q E h => ?_) (fun cdv A outer s H vs Q E hr h => ?_)
  · obtain ⟨a, n, ps, f, rfl, _⟩ := h
    rfl
  · obtain ⟨a, n, ps, f, rfl, hS, hG, hW, hn8, hl, q⟩ := h
    refine ⟨_, pss_cons (ps_set (i := 2) scFilm.nd rfl (.inl rfl) (pe_lst (pa_cons (pv 1) pa_nil)))
      (pss_cons (ps_for PassesOwn.never rfl (pi_anyS (pv 0)) (pg_name (i := 3) scFilm.nd rfl (Or.inl rfl))
        (pss_one (ps_expr (pe_bm PySem.F.plainAttrs_list PySem.F.slot_list_append PySem.F.type_list_append mt_append (pv 2) (pa_cons (pe_h HS hr (by decide) pass0 (pa_cons (pv 3) (pa_cons (pe_ix ix_list (pv 2) (pe_un un_neg pe_int) (fun _ _ => rfl)) pa_nil))) pa_nil)))))
      (pss_one (ps_ret (pv 2)))), ?_⟩
    refine ⟨_, rfl, by show 1 ≤ sizeLine; decide, fun L hL => ?_⟩
    have S1 : Same H (upd H L (.lst [.int (rowV f)])) := same_new hL
    refine ⟨_, rfl, a, _, rfl, anyS_of hS S1 fun J Ok wk hok => ?_⟩
    refine forW wk (fun i σ H1 => ∃ (y : Option V) (xs : List V), σ = [some (.ref a), some (.int (rowV f)), some (.ref L), y] ∧ Same H H1 ∧ H1 L = some (.lst (xs ++ [.int (rowV (run ((gts ps).take i) f))])) ∧ xs.length = i)
      ⟨none, [], rfl, S1, upd_same, rfl⟩ (fun i σ H1 _ ⟨_, _, _, S, _⟩ => hok H1 S) ?_ ?_
    · rintro i z σ H1 hz ⟨y, xs, rfl, S2, eL, hlen⟩
      obtain ⟨p, hp, rfl⟩ := refs_get hz
      have hin : i < ps.length := (List.getElem?_eq_some_iff.mp hp).1
      refine ⟨_, rfl, .inl ⟨rfl, _, .of eL⟩, _, rfl, _, rfl, 1, rfl, L, _, -1, _, rfl, rfl, .of eL, atI_last _ _, p.1, n, p.2, _, rfl, (hG p (List.mem_of_getElem? hp)).tups (Same.tups S2), hW p.2 (List.mem_of_getElem? (gts_get hp)), hn8, fun H3 S3 => ?_⟩
      have eL3 := S3 _ _ eL
      refine ⟨L, _, _, rfl, rfl, eL3, by rw [List.length_append, List.length_singleton, hlen]; exact Nat.lt_of_le_of_lt (by omega : i + 1 ≤ 2000000) (by decide), _, xs ++ [.int (rowV (run ((gts ps).take i) f))], rfl, fun b o e => ?_, ?_, by rw [List.length_append, List.length_singleton, hlen]⟩
      · rw [upd_ne (ne_of_none e hL)]
        exact S3 _ _ (S2 _ _ e)
      · rw [upd_same, take_snoc (gts_get hp), run_append]
        rfl
    · rintro σ H1 ⟨y, xs, rfl, S2, eL, hlen⟩
      rw [refs_length, ← gts_length ps, List.take_length] at eL
      exact ⟨_, rfl, q H1 L xs S2 eL⟩
end
end K26
end K26W11

section K26W12
set_option Elab.async false
set_option linter.all false
set_option maxRecDepth 100000
set_option maxHeartbeats 4000000
/-! K26W12: _law_ordered_right. -/
namespace K26
open PySem PySem.Spec PyProof.Rows L2
/-! ### rules with the written part by name: within comprehensions -/
theorem ix_listK {X : Cx} (K : PySem.W.Frag) (h : X.K = K := by rfl) : IxR X (rIxL K) := h ▸ ix_list
theorem ix_tupK {X : Cx} (K : PySem.W.Frag) (h : X.K = K := by rfl) : IxR X (rIxT K) := h ▸ ix_tup
theorem op_neDK {X : Cx} (K : PySem.W.Frag) (hu : X.A.units + 64 < cLine) (h : X.K = K := by rfl) : OpR X (compareOp .NotEq) (rNeD K) := h ▸ op_neD hu
theorem call_lenK {X : Cx} (K : PySem.W.Frag) (h : X.K = K := by rfl) : CallR X (.builtin "len") (rLenS K) := h ▸ call_lenS
theorem pe_fldK {X : Cx} (K : PySem.W.Frag) {e : Expr} {ta : TE} {f : Str} {pos : Pos} (he : PE X e ta) (h : X.K = K := by rfl) (hb : attributeBase e f X.env (eval e X.env) = eval e X.env := by rfl) : PE X (.Attribute e f pos) (tFld K ta f) := h ▸ pe_fld he hb
/-! ### pairs that change sides -/
theorem take_iota (ns : List Int) {i : Nat} (h : i ≤ ns.length) : ns.take i = (iota i).map fun z => ns.getD z.toNat 0 := by
  apply List.ext_getElem?
  intro j
  rw [List.getElem?_take, List.getElem?_map]
  by_cases hj : j < i
  · rw [if_pos hj, iota_get hj, getD_get (by omega)]
    simp
  · rw [if_neg hj, List.getElem?_eq_none (by rw [iota_length]; omega)]
    rfl
theorem count_pairs (ns : List Int) {i : Nat} (h : i < ns.length) : ((iota i).filter fun z => decide (ns.getD i 0 < ns.getD z.toNat 0)).length = (ns.take i).countP (fun x => decide (ns.getD i 0 < x)) := by
  rw [take_iota ns (by omega), List.countP_map, List.countP_eq_length_filter]
  rfl
theorem inv_take (ns : List Int) {i : Nat} (h : i < ns.length) : inv (ns.take (i + 1)) = inv (ns.take i) + ((iota i).filter fun z => decide (ns.getD i 0 < ns.getD z.toNat 0)).length := by
  rw [take_snoc (getD_get h), inv_snoc, count_pairs ns h]
theorem WirA.x {K : PySem.W.Frag} {C : Addr} {H H' : Hp} {f c a : Addr} {n : Int} {t : Nat} {ps : PG'} (hF : FerAt H f c t) (e : SameX f H H') (h : WirA K C H a n ps) : WirA K C H' a n ps := by
  obtain ⟨dx, t, m, h1, h2, h3⟩ := h
  obtain ⟨xs, ef⟩ := hF.lst
  exact ⟨dx, t, m, e _ _ (ne_of h1 ef (by intro z; cases z)) h1, e.tups ef _ _ h2, h3.tups (e.tups ef)⟩
theorem xg_test (p : Nat) : xg p = (([] : List Int), (p : Int), (p : Int) + 1) := rfl
/-- the keywords' values the other way about -/
def gSw {α : Type} : List α → List α → List α := fun us zs => match us, zs with
  | [], [a, b] => [b, a]
  | _, _ => []
theorem rngV_iota (n : Nat) : rngV 0 n = (iota n).map V.int := by simp [rngV, iota, Function.comp_def]
/-- ints mapped -/
def mapV (m : Int → Int) : V → V
  | .int z => .int (m z)
  | v => v
theorem mapV_map (m : Int → Int) (l : List Int) : (l.map V.int).map (mapV m) = (l.map m).map V.int := by
  rw [List.map_map, List.map_map]
  rfl
theorem neF {a b : Int} (h : a = b) : (!decide (V.int a = V.int b)) = false := by simp [h]
theorem row_lead {n : Nat} {ns : List Int} (hp : ns.Perm (iota n)) (h8 : n ≤ 8) {i : Nat} (hi : i < n) : rowV (run ((crossAt ns 0).map xg) (single (0 + (i : Int)))) = p2 (ns.getD i 0) := by
  have hlen : ns.length = n := by rw [hp.length_eq, iota_length]
  have hm : ns.getD i 0 ∈ ns := List.mem_of_getElem? (getD_get (by omega))
  have hg := mem_iota.mp (hp.mem_iff.mp hm)
  rw [Int.zero_add, rowV_congr (fun l _ _ => run_single hp hi l), row_single hg.1 (by omega)]
section
variable {P : Program} {w : World} {K : PySem.W.Frag} {mg : Str → Option Value} {base : Heap}
abbrev sOrdRight : Stmt := topS 55
abbrev nOrdRight : List Str := ["_law_ferry_here", "_law_lamps", "_law_order", "_law_told", "_law_pairs", "_law_one", "_law_gate_here", "_law_goal", "_law_lamp", "_law_other"]
theorem scOrdRight : FnScope nOrdRight ["_law_ferry_here", "_law_lamps"] (defScope sOrdRight) := ⟨rfl, rfl, rfl, by decide +kernel, rfl, by decide +kernel, by decide +kernel⟩
def spOrdRight (K : PySem.W.Frag) : Sp := fun vs H Q _ => ∃ (f c : Addr) (n t : Nat), vs = [.ref f, .int n] ∧ 1 ≤ n ∧ n ≤ 8 ∧ FerAt H f c t ∧ t + 9 ≤ 100000 ∧ ∀ H', SameX f H H' → FerAt H' f c (t + 9) → Q (.bl true) H'
theorem ok_ordright {f0 C CB CO : Addr} {fd : FuncData} (F : Fun K "_law_ordered_right" "_law_ordered_right" sOrdRight f0 fd) (T : Txt K mg) (W : WTxt K mg C) (HT : Has P w K mg base CX0 2 "_law_stirred" ["_law_ferry_here", "_law_some"] [] (spStirred K)) (HS : Has P w K mg base CX0 1 "_law_steer" ["_law_ferry_here", "_law_many"] [] (spSteer K))
    (HOr : Has P w K mg base (L2.CX P w) 6 "ordered" ["lamps", "order"] [] (spOrdered K C CB CO)) (HOK : HasK P w K mg base (L2.CX P w) 6 "ordered" ["lamps", "order"] ["order", "lamps"] gSw (spOrdered K C CB CO)) (HF : Has P w K mg base CX0 2 "_law_film" ["_law_gates_here", "_law_row"] [] (spFilm K)) :
    FnOk P w K mg base CX0 7 f0 fd ["_law_ferry_here", "_law_lamps"] (spOrdRight K) := by
  refine F.ok scOrdRight (fun vs H Q E h => ?_) (fun cdv A outer s H vs Q E hr h => ?_)
  · obtain ⟨f, c, n, t, rfl, _⟩ := h
    rfl
  · obtain ⟨f, c, n, t, rfl, hn1, hn8, hF, ht, q⟩ := h
    have hu64 : (A.deeper (envOfC "_law_ordered_right" (defScope sOrdRight) s.heap.objs.size f0 cdv)).units + 64 < cLine := by have := hr.un; omega
    -- pairs, tests, films
    obtain ⟨tt, hT, rT⟩ : ∃ tt, PSs (cxOf CX0 P w K mg base nOrdRight "_law_ordered_right" (defScope sOrdRight) f0 cdv A outer s H E).nox ((defBody sOrdRight).drop 2) tt ∧
        ∀ (H2 : Hp) (o p : Addr) (ns : List Int) (ps : PG'), SameX f H H2 → FerAt H2 f c (t + 9) → ns.Perm (iota n) → H2 o = some (.lst (ns.map V.int)) → WirA K C H2 p n ps → gts ps = (crossAt ns 0).map xg → tt { nx := fun _ H' => Q .non H', rt := Q } [some (.ref f), some (.int n), some (.ref o), some (.ref p), none, none, none, none, none, none] H2 := by
      refine ⟨_, pss_cons (ps_set (i := 4) scOrdRight.nd rfl (.inl rfl) (pe_lst pa_nil))
        (pss_cons (ps_for PassesOwn.never rfl (pi_range1 rfl T.zrange (pa_cons (pv 1) pa_nil)) (pg_name (i := 5) scOrdRight.nd rfl (Or.inr rfl) (.inl rfl))
          (pss_one (ps_set (i := 4) scOrdRight.nd rfl (.inl rfl) (pe_op op_cat (pv 4) (pe_lc (own := [("_law_other", 9)]) (g := gName 9) rfl scOrdRight.nd (pi_range1 rfl T.zrange (pa_cons (pv 5) pa_nil))
            (blkOk_by (own := [("_law_other", 9)]) (N := nOrdRight) (sc := defScope sOrdRight) (by decide +kernel))
            (fun _ _ _ _ _ => pg_name (i := 9) scOrdRight.nd rfl (Or.inl rfl)) (fun _ _ _ _ _ => pts_one (pt_cmpR op_gt (pe_ix (ix_listK K) (pv 2) (pv 9) (fun _ _ => rfl)) (pe_ix (ix_listK K) (pv 2) (pv 5) (fun _ _ => rfl)) (nomark _))) (fun _ _ _ _ _ => pv 9))))))
        (pss_cons (ps_if (PW.pt (pw_or (pt_not (pt_val (pe_callB call_isi (by rfl) T.zisi (by decide +kernel) (pa_cons (pv 3) (pa_cons (pe_glob (v := .ref C) (by rfl) W.gC rfl) pa_nil)))))
            (pw_or (pt_cmpR op_ne (pe_fld (pv 3) rfl) (pv 1) (nomark _)) (pw_or1 (pt_cmpR op_ne (pe_callB call_lenS (by rfl) T.zlen PySem.boot_len (pa_cons (pe_fld (pv 3) rfl) pa_nil)) (pe_callB call_lenS (by rfl) T.zlen PySem.boot_len (pa_cons (pv 4) pa_nil)) (nomark _))))))
            (pss_one (ps_ret pe_bl)) pss_nil)
        (pss_cons (ps_if (pt_cmpR (op_neD hu64) (pe_lc (own := [("_law_gate_here", 6)]) (g := gName 6) rfl scOrdRight.nd (pi_tup (pe_fld (pv 3) rfl))
            (blkOk_by (own := [("_law_gate_here", 6)]) (N := nOrdRight) (sc := defScope sOrdRight) (by decide +kernel))
            (fun _ _ _ _ _ => pg_name (i := 6) scOrdRight.nd rfl (Or.inl rfl))
            (fun _ _ _ _ _ => pts_one (PW.pt (pw_or (pt_cmpR (op_neDK K hu64) (pe_ix (ix_tupK K) (pv 6) pe_int (fun _ _ => rfl)) (pe_tup pa_nil) (nomark _)) (pw_or1 (pt_cmpR op_ne (pe_ix (ix_tupK K) (pv 6) pe_int (fun _ _ => rfl)) (pe_op op_add (pe_ix (ix_tupK K) (pv 6) pe_int (fun _ _ => rfl)) pe_int) (nomark _))))))
            (fun _ _ _ _ _ => pv 6)) (pe_lst pa_nil) (nomark _)) (pss_one (ps_ret pe_bl)) pss_nil)
        (pss_one (ps_ret (pe_cmpR (op_eqD hu64) (pe_lc (own := [("_law_lamp", 8)]) (g := gName 8) (tt := tYes) rfl scOrdRight.nd (pi_range1 rfl T.zrange (pa_cons (pv 1) pa_nil))
            (blkOk_by (own := [("_law_lamp", 8)]) (N := nOrdRight) (sc := defScope sOrdRight) (by decide +kernel))
            (fun _ _ _ _ _ => pg_name (i := 8) scOrdRight.nd rfl (Or.inl rfl)) (fun _ _ _ _ _ => pts_nil) (fun _ _ _ _ _ => pe_ix (ix_listK K) (pe_h HF hr (by decide) pass0 (pa_cons (pe_fldK K (pv 3)) (pa_cons (pe_op op_shl pe_int (pv 8)) pa_nil))) (pe_un un_neg pe_int) (fun _ _ => rfl)))
          (pe_lc (own := [("_law_goal", 7)]) (g := gName 7) (tt := tYes) rfl scOrdRight.nd (pi_list (pv 2))
            (blkOk_by (own := [("_law_goal", 7)]) (N := nOrdRight) (sc := defScope sOrdRight) (by decide +kernel))
            (fun _ _ _ _ _ => pg_name (i := 7) scOrdRight.nd rfl (Or.inl rfl)) (fun _ _ _ _ _ => pts_nil) (fun _ _ _ _ _ => pe_op op_shl pe_int (pv 7))) (nomark _))))))), ?_⟩
      intro H2 o p ns ps S2 hF2 perm eo hw eg
      have hlen : ns.length = n := by rw [perm.length_eq, iota_length]
      have sO : SqL K H2 o (ns.map V.int) := .of eo
      have gix : ∀ i : Nat, i < n → atI (ns.map V.int) (0 + (i : Int)) = some (.int (ns.getD i 0)) := fun i hi => by
        rw [Int.zero_add]
        exact atI_nat (by rw [List.getElem?_map, getD_get (by omega)]; rfl)
      obtain ⟨dx, tp, mh, h1, h2, h3⟩ := hw
      refine ⟨Nat.zero_le _, fun L hL => ?_⟩
      have S3 : Same H2 (upd H2 L (.lst [])) := same_new hL
      refine ⟨_, rfl, (n : Int), rfl, by omega, by omega, ?_⟩
      refine forW (walk_range 0 (n : Int).toNat) (fun i σ H1 => ∃ (y5 : Option V) (R : Addr) (xs : List V), σ = [some (.ref f), some (.int n), some (.ref o), some (.ref p), some (.ref R), y5, none, none, none, none] ∧ Same H2 H1 ∧ H1 R = some (.lst xs) ∧ xs.length = inv (ns.take i))
        ⟨none, L, [], rfl, S3, upd_same, rfl⟩ (fun _ _ _ _ _ => trivial) ?_ ?_
      · rintro i z σ H4 hz ⟨y5, R, xs, rfl, S4, eR, hxs⟩
        obtain ⟨hi', rfl⟩ := rngV_get hz
        have hi : i < n := by simpa using hi'
        refine ⟨_, rfl, _, rfl, 0 + (i : Int), rfl, by omega, by omega, fun D hD => ?_⟩
        have hti : (0 + (i : Int)).toNat = i := by omega
        refine lcJ (K := K) (walk_range 0 (0 + (i : Int)).toNat) (fun _ _ _ => trivial) (fmJ (rngV 0 (0 + (i : Int)).toNat) (selM (fun z => decide (ns.getD i 0 < ns.getD z.toNat 0)) id)) hD (by rw [rngV_length]; exact Nat.le_of_lt (small_size (by omega))) fmJ_mono fmJ_0 ?_ ?_
        · intro j z H5 acc hz hj S5 eD hacc hJ
          obtain ⟨hj', rfl⟩ := rngV_get hz
          have hjn : j < n := by omega
          have sO5 := (S4.trans S5).seq sO
          have hc : (decide (ns.getD i 0 < ns.getD (0 + (j : Int)).toNat 0)) = decide (ns.getD i 0 < ns.getD j 0) := by rw [show (0 + (j : Int)).toNat = j by omega]
          refine ⟨rfl, _, rfl, _, rfl, o, _, _, _, rfl, rfl, sO5, gix j hjn, _, rfl, _, rfl, o, _, _, _, rfl, rfl, sO5, gix i hi, _, _, rfl, rfl, _, rfl, ?_⟩
          by_cases hlt : ns.getD i 0 < ns.getD j 0
          · rw [decide_eq_true hlt]
            exact iteT ⟨_, rfl, JPv.put (K := K) hD fmJ_mono S5 eD hacc hj (Same.refl _) (fmJ_put hz (selM_t (by rw [hc]; exact decide_eq_true hlt)) hJ)⟩
          · rw [decide_eq_false hlt]
            exact iteF (JPv.skip S5 eD hacc (Same.refl _) (fmJ_skip hz (selM_f (by rw [hc]; exact decide_eq_false hlt)) hJ))
        · intro H5 acc S5 eD hJ
          have eacc := fmJ_end hJ
          rw [hti, rngV_iota, selM_map, List.map_id] at eacc
          have hin := inv_take ns (i := i) (by omega)
          have hb := inv_small (l := ns.take (i + 1)) (by rw [List.length_take]; omega)
          have hla : acc.length = ((iota i).filter fun z => decide (ns.getD i 0 < ns.getD z.toNat 0)).length := by rw [eacc, List.length_map]
          refine ⟨R, D, xs, acc, rfl, rfl, S5 _ _ eR, eD, Nat.le_of_lt (small_size (by omega)), fun R2 hR2 => ⟨_, R2, _, rfl, (S4.trans S5).trans (same_new hR2), upd_same, ?_⟩⟩
          rw [List.length_append]
          omega
      · rintro σ H4 ⟨y5, R, xs, rfl, S4, eR, hxs⟩
        rw [rngV_length] at hxs
        have h14 := S4 _ _ h1
        have h24 := sqt_same S4 h2
        have h34 := h3.tups (Same.tups S4)
        refine ⟨_, rfl, .ref p, .ref C, .ref C, .ref C, true, rfl, .own C, .base (.ins h14 W.cl W.ha W.hn W.ht W.hm), W.self, _, rfl, iteF ?_⟩
        refine ⟨_, rfl, p, C, dx, _, _, rfl, h14, W.cl, W.nL, rfl, _, rfl, rfl, _, rfl, ?_⟩
        rw [neF rfl]
        have hpl : ps.length = inv ns := by rw [← gts_length, eg, List.length_map, crossAt_len _ _ (fun j hj => by omega)]
        refine iteF ⟨_, rfl, p, C, dx, _, _, rfl, h14, W.cl, W.nG, rfl, tp, _, rfl, .inr h24, _, rfl, R, _, rfl, .inl (.of eR), rfl, _, rfl, ?_⟩
        rw [neF (by rw [refs_length, hpl, hxs, show (n : Int).toNat = ns.length by omega, List.take_length])]
        refine iteF ?_
        -- which are no crossings: none
        refine ⟨_, rfl, p, C, dx, _, _, rfl, h14, W.cl, W.nG, rfl, tp, rfl, ⟨_, h24⟩, fun D hD => ?_⟩
        have hpl5 := inv_small (l := ns) (by omega)
        refine lcJ (K := K) (walk_tup K tp (refs ps)) (fun H' _ k => k _ _ h24) (fun _ _ acc => acc = []) hD (by rw [refs_length]; exact Nat.le_of_lt (small_size (by omega))) (fun _ _ _ _ h _ => h) rfl ?_ ?_
        · intro i z H5 acc hz hi S5 eD hacc hJ
          obtain ⟨pp, hp, rfl⟩ := refs_get hz
          obtain ⟨j, hj, ej⟩ : ∃ j, j ∈ crossAt ns 0 ∧ xg j = pp.2 := by
            have := List.mem_of_getElem? (gts_get hp)
            rw [eg] at this
            obtain ⟨j, hj, e⟩ := List.mem_map.mp this
            exact ⟨j, hj, e⟩
          obtain ⟨hh, g1, g2⟩ := (h34.tups (Same.tups S5)) pp (List.mem_of_getElem? hp)
          rw [← ej] at g1 g2
          refine ⟨rfl, _, rfl, pp.1, _, 0, .ref hh, rfl, rfl, g1, atI_nat (j := 0) rfl, Nat.zero_le _, fun u hu => ?_⟩
          have S6 : Same H5 (upd H5 u (.tup [])) := same_new hu
          generalize hH6 : upd H5 u (HO.tup []) = H6 at S6
          have eu : H6 u = some (.tup []) := by rw [← hH6, upd_same]
          have g16 := (Same.tups (K := K) S6) _ _ g1
          refine ⟨.tuple [], .tuple [], .tup ((Same.tups S6) _ _ g2) .nil, .tup (.inl (.inl eu)) .nil, rfl, rfl, _, rfl, iteF ?_⟩
          refine ⟨_, rfl, pp.1, _, 2, _, rfl, rfl, g16, atI_nat (j := 2) rfl, _, rfl, pp.1, _, 1, _, rfl, rfl, g16, atI_nat (j := 1) rfl, _, _, rfl, rfl, rfl, _, rfl, ?_⟩
          rw [neF (by rfl)]
          exact iteF (JPv.skip S5 eD hacc S6 hJ)
        · intro H5 acc S5 eD hJ
          subst hJ
          refine ⟨Nat.zero_le _, fun u hu => ?_⟩
          have S6 : Same H5 (upd H5 u (.lst [])) := same_new hu
          generalize hH6 : upd H5 u (HO.lst []) = H6 at S6
          have eu : H6 u = some (.lst []) := by rw [← hH6, upd_same]
          refine ⟨.list [], .list [], .lst (.of (S6 _ _ eD)) .nil, .lst (.of eu) .nil, rfl, rfl, _, rfl, iteF ?_⟩
          have S26 := (S4.trans S5).trans S6
          have h16 := S26 _ _ h1
          have h26 := sqt_same S26 h2
          have h36 := h3.tups (Same.tups S26)
          refine ⟨_, rfl, (n : Int), rfl, by omega, by omega, fun D1 hD1 => ?_⟩
          refine lcJ (K := K) (walk_range 0 (n : Int).toNat) (fun _ _ _ => trivial) (mapJ (rngV 0 (n : Int).toNat) (mapV fun z => p2 (ns.getD z.toNat 0))) hD1 (by rw [rngV_length]; exact Nat.le_of_lt (small_size (by omega))) mapJ_mono mapJ_0 ?_ ?_
          · intro i z H7 acc hz hi S7 eD1 hacc hJ
            obtain ⟨hi', rfl⟩ := rngV_get hz
            have hin : i < n := by simpa using hi'
            have h17 := S7 _ _ h16
            refine ⟨rfl, _, rfl, p, C, dx, _, _, rfl, h17, W.cl, W.nG, rfl, _, rfl, 1, 0 + (i : Int), rfl, rfl, ⟨by omega, by omega, by decide⟩, tp, n, ps, single (0 + (i : Int)), ?_, .inr (sqt_same S7 h26), h36.tups (Same.tups S7), ?_, hn8, by omega, fun H8 q' xs' S8 eq' => ?_⟩
            · rw [row_single (by omega) (by omega)]; rfl
            · intro g hg
              rw [eg] at hg
              obtain ⟨j, hj, rfl⟩ := List.mem_map.mp hg
              have := crossAt_pos _ _ j hj
              exact wf_xg (by omega)
            · refine ⟨1, rfl, q', _, -1, _, rfl, rfl, .of eq', atI_last _ _, ?_⟩
              rw [eg, row_lead perm hn8 hin]
              have e0 : V.int (p2 (ns.getD i 0)) = mapV (fun z => p2 (ns.getD z.toNat 0)) (.int (0 + (i : Int))) := by
                show V.int (p2 (ns.getD i 0)) = V.int (p2 (ns.getD (0 + (i : Int)).toNat 0))
                rw [show (0 + (i : Int)).toNat = i by omega]
              rw [e0]
              exact JPv.put (K := K) hD1 mapJ_mono S7 eD1 hacc hi S8 (mapJ_put hz hJ)
          · intro H7 acc S7 eD1 hJ
            have eacc := mapJ_end hJ
            have e1 : acc = (ns.map p2).map V.int := by
              have e4 : (iota n).map (fun z => p2 (ns.getD z.toNat 0)) = ns.map p2 := by
                have h := take_iota ns (i := n) (by omega)
                rw [List.take_of_length_le (by omega)] at h
                have h2 := congrArg (List.map p2) h
                rw [List.map_map] at h2
                exact h2.symm
              rw [eacc, show (n : Int).toNat = n by omega, rngV_iota, mapV_map, e4]
            have sO7 := (S26.trans S7).seq sO
            refine ⟨_, rfl, o, rfl, ⟨_, sO7⟩, fun D2 hD2 => ?_⟩
            refine lcJ (K := K) (walk_list K o (ns.map V.int)) (fun H' k _ => k _ _ sO7) (mapJ (ns.map V.int) (mapV p2)) hD2 (by rw [List.length_map]; exact Nat.le_of_lt (small_size (by omega))) mapJ_mono mapJ_0 ?_ ?_
            · intro i z H8 acc hz hi S8 eD2 hacc hJ
              obtain ⟨x, hx, rfl⟩ := ints_get hz
              have hx8 := mem_iota.mp (perm.mem_iff.mp (List.mem_of_getElem? hx))
              exact ⟨rfl, _, rfl, 1, x, rfl, rfl, ⟨hx8.1, by omega, by decide⟩, JPv.put (K := K) hD2 mapJ_mono S8 eD2 hacc hi (Same.refl _) (mapJ_put hz hJ)⟩
            · intro H8 acc2 S8 eD2 hJ
              have eacc2 := mapJ_end hJ
              have e2 : acc2 = (ns.map p2).map V.int := by rw [eacc2, mapV_map]
              rw [e1] at eD1
              rw [e2] at eD2
              refine ⟨_, _, .lst (.of (S8 _ _ eD1)) (dp_ints _), .lst (.of eD2) (dp_ints _), sh_ints _, sh_ints _, ?_⟩
              have e3 : PyData.eqv (.list ((ns.map p2).map PyData.int)) (.list ((ns.map p2).map PyData.int)) = true := by
                show PyData.eqvAll _ _ = true
                rw [eqvAll_ints]
                exact decide_eq_true rfl
              rw [e3]
              have S28 := (S26.trans S7).trans S8
              exact q _ (S2.trans (Same.x S28)) (hF2.same S28)
    refine ⟨_, pss_cons (ps_set (i := 2) scOrdRight.nd rfl (.inr rfl) (pe_h HT hr (by decide) pass0 (pa_cons (pv 0) (pa_cons (pe_listRg rfl (by rfl) T.zlist (prg_1 (by rfl) T.zrange (pv 1))) pa_nil))))
      (pss_cons (ps_set (i := 3) scOrdRight.nd rfl (.inr rfl) (pe_ifExp (pt_cmpR op_eq (pe_h HS hr (by decide) pass0 (pa_cons (pv 0) (pa_cons pe_int pa_nil))) pe_int (nomark _)) (pe_h HOr hr (by decide) passL (pa_cons (pv 1) (pa_cons (pv 2) pa_nil)))
        (pe_hk HOK hr (by decide) passL (pk_cons (pe_callTy call_tuple_of (by rfl) T.ztuple (by decide +kernel) (pa_cons (pv 2) pa_nil)) (pk_cons (pv 1) pk_nil))))) hT), ?_⟩
    have hf0 := hF.some
    refine ⟨_, rfl, _, rfl, n, rfl, .of_le (by omega) (by omega) (by omega) (by omega), fun L hL => ?_⟩
    rw [rgV_iota]
    have S1 : Same H (upd H L (.lst ((iota n).map V.int))) := same_new hL
    refine ⟨f, c, L, iota n, t, rfl, .inl (.of upd_same), by rw [iota_length]; omega, hF.same S1, by rw [iota_length]; omega, fun H2 o ns S2 ho hF2 eo perm => ?_⟩
    rw [iota_length] at hF2
    have hlen : ns.length = n := by rw [perm.length_eq, iota_length]
    have hof : o ≠ f := fun z => hf0 (S1.free (z ▸ ho))
    have hord : Ord (n : Int) ns := ⟨by omega, fun z hz => by have := mem_iota.mp (perm.mem_iff.mp hz); omega, perm.nodup_iff.mpr (iota_nodup n)⟩
    refine ⟨_, rfl, f, c, 2, t + n, rfl, by decide, by decide, hF2, by omega, fun H3 r S3 hF3 r0 r1 => ⟨rfl, _, rfl, ?_⟩⟩
    have eo3 := S3 _ _ hof eo
    have S03 := ((Same.x S1).trans S2).trans S3
    have told : ∀ (H4 : Hp) (a : Addr), Same H3 H4 → SqA K H4 a (ns.map V.int) → ∀ QQ : VK, (∀ H' p (ps : PG'), Same H4 H' → WirA K C H' p n ps → gts ps = (crossAt ns 0).map xg → QQ (.ref p) H') → spOrdered K C CB CO [.int (n : Int), .ref a] H4 QQ E0 := fun H4 a S4 ha QQ hq =>
      ⟨_, _, rfl, .inr ⟨n, rfl, hn1, hn8, .inr ⟨a, ns.map V.int, rfl, ha, by rw [List.length_map]; omega, fun x hx => by
        obtain ⟨z, _, rfl⟩ := List.mem_map.mp hx
        exact knI_int z, fun h => absurd ⟨ns, rfl, hord⟩ h, fun ms e _ H' p ps S hw eg => by
          have : ns = ms := by
            have := congrArg (List.filterMap fun v => match v with | V.int z => some z | _ => none) e
            simpa [List.filterMap_map, Function.comp_def] using this
          subst this
          exact hq H' p ps S hw eg⟩⟩⟩
    refine ite2 (fun _ => ?_) (fun _ => ?_)
    · exact ⟨_, rfl, _, rfl, told H3 o (Same.refl _) (.inl (.of eo3)) (fun v H' => tt { nx := fun _ H' => Q .non H', rt := Q } [some (.ref f), some (.int n), some (.ref o), some v, none, none, none, none, none, none] H') fun H' p ps S hw eg => rT H' o p ns ps (S03.trans (Same.x S)) ((hF3.same S).le (by omega)) perm (S _ _ eo3) hw eg⟩
    · refine ⟨_, rfl, o, _, rfl, .inl ⟨.of eo3, fun u hu => ?_⟩⟩
      have S4 := same_new (o := HO.tup (ns.map V.int)) hu
      exact ⟨_, rfl, told _ u S4 (.inr (.inl (.inl upd_same))) (fun v H' => tt { nx := fun _ H' => Q .non H', rt := Q } [some (.ref f), some (.int n), some (.ref o), some v, none, none, none, none, none, none] H') fun H' p ps S hw eg => rT H' o p ns ps (S03.trans (Same.x (S4.trans S))) ((hF3.same (S4.trans S)).le (by omega)) perm ((S4.trans S) _ _ eo3) hw eg⟩
end
end K26
end K26W12

section K26W13
set_option Elab.async false
set_option linter.all false
set_option maxRecDepth 100000
set_option maxHeartbeats 4000000
/-! K26W13: _law_near_right. -/
namespace K26
open PySem PySem.Spec PyProof.Rows L2
def handV (gs : List G) : List V := (handL gs).map fun (k : Nat) => V.int (k : Int)
theorem handV_snoc (gs : List G) (g : G) : handV (gs ++ [g]) = handV gs ++ handV [g] := by simp [handV, handL_append]
theorem handV_some {g : G} (h : g.1 ≠ []) : handV [g] = [.int (g.1.length : Int)] := by simp [handV, handL, h]
theorem handV_none {g : G} (h : g.1 = []) : handV [g] = [] := by simp [handV, handL, h]
/-- numbers of hands, made in a comprehension -/
def hJ (gs : List G) : Nat → Hp → List V → Prop := fun i _ acc => acc = handV (gs.take i)
theorem hJ_mono {K : PySem.W.Frag} {gs : List G} : ∀ i H H' acc, hJ gs i H acc → TupS K H H' → hJ gs i H' acc := fun _ _ _ _ h _ => h
theorem hJ_0 {gs : List G} {H : Hp} : hJ gs 0 H [] := rfl
theorem hJ_put {gs : List G} {i : Nat} {g : G} {H H' : Hp} {acc : List V} (hg : gs[i]? = some g) (h : g.1 ≠ []) (hJ' : hJ gs i H acc) : hJ gs (i + 1) H' (acc ++ [.int (g.1.length : Int)]) := by
  unfold hJ at hJ' ⊢
  rw [take_snoc hg, handV_snoc, handV_some h, hJ']
theorem hJ_skip {gs : List G} {i : Nat} {g : G} {H H' : Hp} {acc : List V} (hg : gs[i]? = some g) (h : g.1 = []) (hJ' : hJ gs i H acc) : hJ gs (i + 1) H' acc := by
  unfold hJ at hJ' ⊢
  rw [take_snoc hg, handV_snoc, handV_none h, List.append_nil, hJ']
theorem hJ_end {gs : List G} {n : Nat} {H : Hp} {acc : List V} (hn : n = gs.length) (h : hJ gs n H acc) : acc = ((handL gs).map fun (k : Nat) => (k : Int)).map V.int := by
  unfold hJ at h
  rw [h, hn, List.take_length]
  simp [handV, Function.comp_def]
section
variable {P : Program} {w : World} {K : PySem.W.Frag} {mg : Str → Option Value} {base : Heap}
abbrev sNearRight : Stmt := topS 56
abbrev nNearRight : List Str := ["_law_ferry_here", "_law_lamps", "_law_gates_here", "_law_told", "_law_hands", "_law_rows", "_law_gate_here", "_law_lap", "_law_row"]
theorem scNearRight : FnScope nNearRight ["_law_ferry_here", "_law_lamps", "_law_gates_here", "_law_told"] (defScope sNearRight) := ⟨rfl, rfl, rfl, by decide +kernel, rfl, by decide +kernel, by decide +kernel⟩
def spNearRight (K : PySem.W.Frag) (C : Addr) : Sp := fun vs H Q _ => ∃ (f c a p : Addr) (n t : Nat) (gs ps : PG'), vs = [.ref f, .int n, .ref a, .ref p] ∧ 1 ≤ n ∧ n ≤ 8 ∧ SqL K H a (refs gs) ∧ a ≠ f ∧ GAs K H gs ∧ WFs n (gts gs) ∧ gs.length ≤ 9 ∧ WirA K C H p n ps ∧ gts ps = (gts gs).flatMap (nearG n) ∧ FerAt H f c t ∧ t + 9 ≤ 100000 ∧
  ∀ H', SameX f H H' → FerAt H' f c (t + 9) → Q (.bl true) H'
theorem ok_nearright {f0 C CW : Addr} {fd : FuncData} (F : Fun K "_law_near_right" "_law_near_right" sNearRight f0 fd) (T : Txt K mg) (W : WTxt K mg C) (HS : Has P w K mg base CX0 1 "_law_steer" ["_law_ferry_here", "_law_many"] [] (spSteer K))
    (HN : Has P w K mg base CX0 1 "_law_is_near" ["_law_gates_here"] [] (spLIsNear K)) (HI : Has P w K mg base (L2.CX P w) 3 "is_near" ["wiring"] [] (spIsNear K C CW)) (HF : Has P w K mg base CX0 2 "_law_film" ["_law_gates_here", "_law_row"] [] (spFilm K)) :
    FnOk P w K mg base CX0 4 f0 fd ["_law_ferry_here", "_law_lamps", "_law_gates_here", "_law_told"] (spNearRight K C) := by
  refine F.ok scNearRight (fun vs H Q E h => ?_) (fun cdv A outer s H vs Q E hr h => ?_)
  · obtain ⟨f, c, a, p, n, t, gs, ps, rfl, _⟩ := h
    rfl
  · obtain ⟨f, c, a, p, n, t, gs, ps, rfl, hn1, hn8, hS, haf, hG, hW, hgl, hw, eg, hF, ht, q⟩ := h
    have hu64 : (A.deeper (envOfC "_law_near_right" (defScope sNearRight) s.heap.objs.size f0 cdv)).units + 64 < cLine := by have := hr.un; omega
    have hWp : WFs n (gts ps) := fun g hg => by
      rw [eg] at hg
      obtain ⟨g0, h0, hg⟩ := List.mem_flatMap.mp hg
      exact wf_nearG (hW g0 h0) hg
    have hpl : ps.length ≤ 600 := by
      have := flat_le hn8 (gts gs)
      rw [← eg, gts_length, gts_length] at this
      omega
    -- the rows
    obtain ⟨tt, hT, rT⟩ : ∃ tt, PSs (cxOf CX0 P w K mg base nNearRight "_law_near_right" (defScope sNearRight) f0 cdv A outer s H E).nox ((defBody sNearRight).drop 4) tt ∧
        ∀ (H2 : Hp) (r : Addr) (rs : List Int) (x4 : Option V), SameX f H H2 → FerAt H2 f c (t + 9) → H2 r = some (.lst (rs.map V.int)) → rs.length ≤ 100 → (∀ z ∈ rs, 0 ≤ z ∧ z < 256) → tt { nx := fun _ H' => Q .non H', rt := Q } [some (.ref f), some (.int n), some (.ref a), some (.ref p), x4, some (.ref r), none, none, none] H2 := by
      refine ⟨_, pss_one (ps_ret (pe_cmpR (op_eqD hu64) (pe_lc (own := [("_law_row", 8)]) (g := gName 8) rfl scNearRight.nd (pi_list (pv 5))
            (blkOk_by (own := [("_law_row", 8)]) (N := nNearRight) (sc := defScope sNearRight) (by decide +kernel))
            (fun _ _ _ _ _ => pg_name (i := 8) scNearRight.nd rfl (Or.inl rfl))
            (fun _ _ _ _ _ => pts_one (pt_cmpR op_ne (pe_ix (ix_listK K) (pe_h HF hr (by decide) pass0 (pa_cons (pe_fldK K (pv 3)) (pa_cons (pv 8) pa_nil))) (pe_un un_neg pe_int) (fun _ _ => rfl)) (pe_ix (ix_listK K) (pe_h HF hr (by decide) pass0 (pa_cons (pv 2) (pa_cons (pv 8) pa_nil))) (pe_un un_neg pe_int) (fun _ _ => rfl)) (nomark _)))
            (fun _ _ _ _ _ => pv 8)) (pe_lst pa_nil) (nomark _))), ?_⟩
      intro H2 r rs x4 S2 hF2 er hrl hrin
      obtain ⟨dx, tp, mh, h1, h2, h3⟩ := hw.x hF S2
      have sR : SqL K H2 r (rs.map V.int) := .of er
      have hS2 := S2.seq hS haf
      have hG2 := hG.tups (hF.tups (K := K) S2)
      refine ⟨_, rfl, r, rfl, ⟨_, sR⟩, fun D hD => ?_⟩
      refine lcJ (K := K) (walk_list K r (rs.map V.int)) (fun H' k _ => k _ _ sR) (fun _ _ acc => acc = []) hD (by rw [List.length_map]; exact Nat.le_of_lt (small_size (by omega))) (fun _ _ _ _ h _ => h) rfl ?_ ?_
      · intro i z H5 acc hz hi S5 eD hacc hJ
        obtain ⟨x, hx, rfl⟩ := ints_get hz
        obtain ⟨x0, x1⟩ := hrin x (List.mem_of_getElem? hx)
        have hrow := row_bits x0 x1
        refine ⟨rfl, _, rfl, p, C, dx, _, _, rfl, S5 _ _ h1, W.cl, W.nG, rfl, _, rfl, tp, n, ps, bitOf x, (by rw [hrow]; rfl), .inr (sqt_same S5 h2), h3.tups (Same.tups S5), hWp, hn8, by omega, fun H6 q1 xs1 S6 e1 => ?_⟩
        refine ⟨1, rfl, q1, _, -1, _, rfl, rfl, .of e1, atI_last _ _, ?_⟩
        refine ⟨_, rfl, _, rfl, a, n, gs, bitOf x, (by rw [hrow]; rfl), .inl ((S5.trans S6).seq hS2), hG2.tups (Same.tups (S5.trans S6)), hW, hn8, by omega, fun H7 q2 xs2 S7 e2 => ?_⟩
        refine ⟨1, rfl, q2, _, -1, _, rfl, rfl, .of e2, atI_last _ _, rfl, _, rfl, ?_⟩
        rw [neF (by rw [eg, run_flat _ _ hW])]
        exact iteF (JPv.skip S5 eD hacc (S6.trans S7) hJ)
      · intro H5 acc S5 eD hJ
        subst hJ
        refine ⟨Nat.zero_le _, fun u hu => ?_⟩
        have S6 : Same H5 (upd H5 u (.lst [])) := same_new hu
        generalize hH6 : upd H5 u (HO.lst []) = H6 at S6
        have eu : H6 u = some (.lst []) := by rw [← hH6, upd_same]
        refine ⟨.list [], .list [], .lst (.of (S6 _ _ eD)) .nil, .lst (.of eu) .nil, rfl, rfl, ?_⟩
        exact q _ (S2.trans (Same.x (S5.trans S6))) (hF2.same (S5.trans S6))
    refine ⟨_, pss_cons (ps_if (PW.pt (pw_or (pt_not (pt_val (pe_callB call_isi (by rfl) T.zisi (by decide +kernel) (pa_cons (pv 3) (pa_cons (pe_glob (v := .ref C) (by rfl) W.gC rfl) pa_nil)))))
            (pw_or (pt_cmpR op_ne (pe_fld (pv 3) rfl) (pv 1) (nomark _)) (pw_or (pt_not (pt_val (pe_h HN hr (by decide) pass0 (pa_cons (pe_fld (pv 3) rfl) pa_nil)))) (pw_or1 (pt_cmpR op_notBl (pe_h HI hr (by decide) passL (pa_cons (pv 3) pa_nil)) pe_bl (nomark _)))))))
            (pss_one (ps_ret pe_bl)) pss_nil)
      (pss_cons (ps_setLc (i := 4) (own := [("_law_gate_here", 6)]) (g := gName 6) rfl scNearRight.nd rfl rfl (sw_true rfl rfl rfl (by decide +kernel)) (pi_list (pv 2))
            (blkOk_by (own := [("_law_gate_here", 6)]) (N := nNearRight) (sc := defScope sNearRight) (by decide +kernel))
            (fun _ _ _ _ _ => pg_name (i := 6) scNearRight.nd rfl (Or.inl rfl)) (fun _ _ _ _ _ => pts_one (pt_cmpR (op_neDK K hu64) (pe_ix (ix_tupK K) (pv 6) pe_int (fun _ _ => rfl)) (pe_tup pa_nil) (nomark _)))
            (fun _ _ _ _ _ => pe_callB (call_lenK K) (by rfl) T.zlen PySem.boot_len (pa_cons (pe_ix (ix_tupK K) (pv 6) pe_int (fun _ _ => rfl)) pa_nil)))
      (pss_cons (ps_if (pt_cmpR (op_neD hu64) (pe_lc (own := [("_law_gate_here", 6)]) (g := gName 6) rfl scNearRight.nd (pi_tup (pe_fld (pv 3) rfl))
            (blkOk_by (own := [("_law_gate_here", 6)]) (N := nNearRight) (sc := defScope sNearRight) (by decide +kernel))
            (fun _ _ _ _ _ => pg_name (i := 6) scNearRight.nd rfl (Or.inl rfl)) (fun _ _ _ _ _ => pts_one (pt_cmpR (op_neDK K hu64) (pe_ix (ix_tupK K) (pv 6) pe_int (fun _ _ => rfl)) (pe_tup pa_nil) (nomark _)))
            (fun _ _ _ _ _ => pe_callB (call_lenK K) (by rfl) T.zlen PySem.boot_len (pa_cons (pe_ix (ix_tupK K) (pv 6) pe_int (fun _ _ => rfl)) pa_nil))) (pv 4) (nomark _)) (pss_one (ps_ret pe_bl)) pss_nil)
      (pss_cons (ps_set (i := 5) scNearRight.nd rfl (.inl rfl) (pe_ifExp (pt_cmpR op_lt (pv 1) pe_int (nomark _)) (pe_listRg rfl (by rfl) T.zlist (prg_1 (by rfl) T.zrange (pe_op op_shl pe_int (pv 1))))
        (pe_lc (own := [("_law_lap", 7)]) (g := gName 7) (tt := tYes) rfl scNearRight.nd (pi_range1 rfl T.zrange (pa_cons pe_int pa_nil))
            (blkOk_by (own := [("_law_lap", 7)]) (N := nNearRight) (sc := defScope sNearRight) (by decide +kernel))
            (fun _ _ _ _ _ => pg_name (i := 7) scNearRight.nd rfl (Or.inl rfl)) (fun _ _ _ _ _ => pts_nil) (fun _ _ _ _ _ => pe_h HS hr (by decide) pass0 (pa_cons (pv 0) (pa_cons (pe_op op_shl pe_int (pv 1)) pa_nil)))))) hT))), ?_⟩
    obtain ⟨dx, tp, mh, h1, h2, h3⟩ := hw
    have gin : ∀ g ∈ gts ps, g.1.length ≤ 8 ∧ ∀ x ∈ touched g, 0 ≤ x ∧ x < 100 := fun g hg => ⟨Nat.le_trans (hWp g hg).len hn8, fun x hx => by have := (hWp g hg).inn x hx; omega⟩
    have hnear : (gts ps).all (fun g => decide (NearP g)) = true := by
      rw [List.all_eq_true]
      intro g hg
      rw [eg] at hg
      obtain ⟨g0, h0, hg⟩ := List.mem_flatMap.mp hg
      exact decide_eq_true (near_nearG (hW g0 h0) hg)
    refine ⟨_, rfl, .ref p, .ref C, .ref C, .ref C, true, rfl, .own C, .base (.ins h1 W.cl W.ha W.hn W.ht W.hm), W.self, _, rfl, iteF ?_⟩
    refine ⟨_, rfl, p, C, dx, _, _, rfl, h1, W.cl, W.nL, rfl, _, rfl, rfl, _, rfl, ?_⟩
    rw [neF rfl]
    refine iteF ⟨_, rfl, p, C, dx, _, _, rfl, h1, W.cl, W.nG, rfl, tp, ps, rfl, .inr h2, h3, gin, fun H1 S1 => ⟨_, rfl, ?_⟩⟩
    rw [hnear]
    refine iteF ⟨_, rfl, .ref p, rfl, .inr ⟨p, n, ps, rfl, ⟨dx, tp, mh, S1 _ _ h1, sqt_same S1 h2, h3.tups (Same.tups S1)⟩, fun g hg => Nat.le_trans (gin g hg).1 (by omega), by omega, fun H2 S2 => ?_⟩⟩
    rw [nearB_all hWp, hnear]
    refine ⟨true, true, rfl, rfl, _, rfl, iteF ?_⟩
    have S02 := S1.trans S2
    -- the hands
    have hS2 := S02.seq hS
    refine ⟨_, rfl, a, rfl, ⟨_, hS2⟩, fun D hD => ?_⟩
    refine lcJ (K := K) (walk_list K a (refs gs)) (fun H' k _ => k _ _ hS2) (hJ (gts gs)) hD (by rw [refs_length]; exact Nat.le_of_lt (small_size (by omega))) hJ_mono hJ_0 ?_ ?_
    · intro i z H5 acc hz hi S5 eD hacc hJ'
      obtain ⟨pp, hp, rfl⟩ := refs_get hz
      obtain ⟨hh, g1, g2⟩ := (hG.tups (Same.tups (S02.trans S5))) pp (List.mem_of_getElem? hp)
      refine ⟨rfl, _, rfl, pp.1, _, 0, .ref hh, rfl, rfl, g1, atI_nat (j := 0) rfl, Nat.zero_le _, fun u hu => ?_⟩
      have S6 : Same H5 (upd H5 u (.tup [])) := same_new hu
      generalize hH6 : upd H5 u (HO.tup []) = H6 at S6
      have eu : H6 u = some (.tup []) := by rw [← hH6, upd_same]
      have g16 := (Same.tups (K := K) S6) _ _ g1
      have g26 := (Same.tups (K := K) S6) _ _ g2
      refine ⟨_, .tuple [], .tup g26 (dp_ints _), .tup (.inl (.inl eu)) .nil, sh_intsT _, rfl, _, rfl, ?_⟩
      have e1 : (!PyData.eqv (.tuple (pp.2.1.map PyData.int)) (.tuple [])) = !decide (pp.2.1 = []) := congrArg _ (eqvAll_ints _ [])
      rw [e1]
      by_cases h0 : pp.2.1 = []
      · rw [decide_eq_true h0]
        exact iteF (JPv.skip S5 eD hacc S6 (hJ_skip (gts_get hp) h0 hJ'))
      · rw [decide_eq_false h0]
        refine iteT ⟨_, rfl, pp.1, _, 0, .ref hh, rfl, rfl, g16, atI_nat (j := 0) rfl, hh, _, rfl, .inr g26, ?_⟩
        rw [List.length_map]
        exact JPv.put (K := K) hD hJ_mono S5 eD hacc hi S6 (hJ_put (gts_get hp) h0 hJ')
    · intro H5 acc S5 eD hJ'
      have eacc := hJ_end (by rw [refs_length, gts_length]) hJ'
      have S05 := S02.trans S5
      have h15 := S05 _ _ h1
      have h25 := sqt_same S05 h2
      have h35 := h3.tups (Same.tups S05)
      refine ⟨_, rfl, p, C, dx, _, _, rfl, h15, W.cl, W.nG, rfl, tp, rfl, ⟨_, h25⟩, fun D2 hD2 => ?_⟩
      refine lcJ (K := K) (walk_tup K tp (refs ps)) (fun H' _ k => k _ _ h25) (hJ (gts ps)) hD2 (by rw [refs_length]; exact Nat.le_of_lt (small_size (by omega))) hJ_mono hJ_0 ?_ ?_
      · intro i z H6 acc hz hi S6 eD2 hacc hJ'
        obtain ⟨pp, hp, rfl⟩ := refs_get hz
        obtain ⟨hh, g1, g2⟩ := (h35.tups (Same.tups S6)) pp (List.mem_of_getElem? hp)
        refine ⟨rfl, _, rfl, pp.1, _, 0, .ref hh, rfl, rfl, g1, atI_nat (j := 0) rfl, Nat.zero_le _, fun u hu => ?_⟩
        have S7 : Same H6 (upd H6 u (.tup [])) := same_new hu
        generalize hH7 : upd H6 u (HO.tup []) = H7 at S7
        have eu : H7 u = some (.tup []) := by rw [← hH7, upd_same]
        have g16 := (Same.tups (K := K) S7) _ _ g1
        have g26 := (Same.tups (K := K) S7) _ _ g2
        refine ⟨_, .tuple [], .tup g26 (dp_ints _), .tup (.inl (.inl eu)) .nil, sh_intsT _, rfl, _, rfl, ?_⟩
        have e1 : (!PyData.eqv (.tuple (pp.2.1.map PyData.int)) (.tuple [])) = !decide (pp.2.1 = []) := congrArg _ (eqvAll_ints _ [])
        rw [e1]
        by_cases h0 : pp.2.1 = []
        · rw [decide_eq_true h0]
          exact iteF (JPv.skip S6 eD2 hacc S7 (hJ_skip (gts_get hp) h0 hJ'))
        · rw [decide_eq_false h0]
          refine iteT ⟨_, rfl, pp.1, _, 0, .ref hh, rfl, rfl, g16, atI_nat (j := 0) rfl, hh, _, rfl, .inr g26, ?_⟩
          rw [List.length_map]
          exact JPv.put (K := K) hD2 hJ_mono S6 eD2 hacc hi S7 (hJ_put (gts_get hp) h0 hJ')
      · intro H6 acc2 S6 eD2 hJ'
        have eacc2 := hJ_end (by rw [refs_length, gts_length]) hJ'
        rw [eacc] at eD
        rw [eacc2, eg, handL_flat] at eD2
        refine ⟨_, rfl, _, _, .lst (.of eD2) (dp_ints _), .lst (.of (S6 _ _ eD)) (dp_ints _), sh_ints _, sh_ints _, _, rfl, ?_⟩
        have e3 : ∀ l : List Int, (!PyData.eqv (.list (l.map PyData.int)) (.list (l.map PyData.int))) = false := fun l => by
          show (!PyData.eqvAll _ _) = false
          rw [eqvAll_ints, decide_eq_true rfl]
          rfl
        rw [e3]
        have S06 := S05.trans S6
        have hF6 := hF.same S06
        refine iteF ⟨_, rfl, (n : Int), 5, rfl, rfl, _, rfl, ?_⟩
        have hpow : ∀ k : Nat, k ≤ 8 → (1 : Int) * 2 ^ ((k : Int)).toNat = ((2 ^ k : Nat) : Int) ∧ 2 ^ k ≤ 256 := by
          intro k hk
          have : k = 0 ∨ k = 1 ∨ k = 2 ∨ k = 3 ∨ k = 4 ∨ k = 5 ∨ k = 6 ∨ k = 7 ∨ k = 8 := by omega
          rcases this with rfl | rfl | rfl | rfl | rfl | rfl | rfl | rfl | rfl <;> decide
        obtain ⟨hp1, hp2⟩ := hpow n hn8
        have hp0 : 0 < 2 ^ n := Nat.pow_pos (by decide)
        refine ite2 (fun hlt => ?_) (fun _ => ?_)
        · have hn5 : (n : Int) < 5 := of_decide_eq_true hlt
          have hp16 : 2 ^ n ≤ 16 := by
            have : n = 0 ∨ n = 1 ∨ n = 2 ∨ n = 3 ∨ n = 4 := by omega
            rcases this with rfl | rfl | rfl | rfl | rfl <;> decide
          refine ⟨_, rfl, 1, (n : Int), rfl, rfl, ⟨by omega, by omega, by decide⟩, _, rfl, .of_le (by omega) (by rw [hp1]; omega) (by omega) (by rw [hp1]; omega), fun R hR => ?_⟩
          have er : rgV 0 ((1 : Int) * 2 ^ ((n : Int)).toNat) = (iota (2 ^ n)).map V.int := by rw [hp1, rgV_iota]
          have S7 := same_new (o := HO.lst ((iota (2 ^ n)).map V.int)) hR
          have eR : upd H6 R (HO.lst (rgV 0 ((1 : Int) * 2 ^ ((n : Int)).toNat))) = upd H6 R (HO.lst ((iota (2 ^ n)).map V.int)) := by rw [er]
          have fin := rT (upd H6 R (HO.lst ((iota (2 ^ n)).map V.int))) R (iota (2 ^ n)) (some (.ref D)) (Same.x (S06.trans S7)) ((hF6.same S7).le (by omega)) upd_same (by rw [iota_length]; omega) (fun z hz => by have := mem_iota.mp hz; omega)
          rw [← eR] at fin
          exact fin
        · refine ⟨9, rfl, by decide, by decide, fun D3 hD3 => ?_⟩
          have hD3f : D3 ≠ f := fun z => hF6.some (z ▸ hD3)
          have hD3c : c ≠ D3 := fun z => hF6.someC (z ▸ hD3)
          refine lcW (walk_range 0 (9 : Int).toNat) (fun i H' => SameX f H H' ∧ FerAt H' f c (t + i) ∧ ∃ rs : List Int, H' D3 = some (.lst (rs.map V.int)) ∧ rs.length ≤ i ∧ ∀ z ∈ rs, 0 ≤ z ∧ z < 256) ⟨Same.x (S06.trans (same_new hD3)), hF6.same (same_new hD3), [], upd_same, Nat.le_refl _, fun _ h => by cases h⟩ (fun _ _ _ _ => trivial) ?_ ?_
          · rintro i z H7 hz ⟨S7, hF7, rs, eR, hrl, hrin⟩
            obtain ⟨hi', rfl⟩ := rngV_get hz
            have hi9 : i < 9 := hi'
            refine ⟨rfl, _, rfl, _, rfl, 1, (n : Int), rfl, rfl, ⟨by omega, by omega, by decide⟩, f, c, _, t + i, rfl, by rw [hp1]; omega, by rw [hp1]; omega, hF7, by omega, fun H8 r S8 hF8 r0 r1 => ?_⟩
            rw [hp1] at r1
            have eR8 := S8 _ _ hD3f eR
            refine ⟨_, eR8, by rw [List.length_map]; exact small_size (by omega), fun b o hb e => ?_, hF8.put hD3f.symm hD3c, rs ++ [r], by rw [upd_same, List.map_append]; rfl, by rw [List.length_append]; exact Nat.succ_le_succ hrl, fun z hz => ?_⟩
            · rw [upd_ne (ne_of_none (S06 _ _ e) hD3)]
              exact S8 _ _ hb (S7 _ _ hb e)
            · rcases List.mem_append.mp hz with h | h
              · exact hrin z h
              · rw [List.mem_singleton] at h
                subst h
                omega
          · rintro H7 ⟨S7, hF7, rs, eR, hrl, hrin⟩
            rw [rngV_length] at hF7 hrl
            exact rT H7 D3 rs (some (.ref D)) S7 (hF7.le (Nat.add_le_add_left (by decide) _)) eR (Nat.le_trans hrl (by decide)) hrin
end
end K26
end K26W13

section K26W14
set_option Elab.async false
set_option linter.all false
set_option maxRecDepth 100000
set_option maxHeartbeats 4000000
/-! K26W14: _law_said. -/
namespace K26
open PySem PySem.Spec PyProof.Rows L2 LamX K26L
abbrev sSaid : Stmt := topS 53
abbrev nSaid : List Str := ["_law_ask", "_law_caught", "error", "_law_kinds", "_law_words", "_law_is_so", "_law_word"]
theorem scSaid : FnScope nSaid ["_law_ask"] (defScope sSaid) := ⟨rfl, rfl, rfl, by decide +kernel, rfl, by decide +kernel, by decide +kernel⟩
/-- the classes that _law_said asks for -/
structure SaidTxt (mg : Str → Option Value) (CL CT CB CW CM CR CO CTb : Addr) : Prop where
  gL : mg "LampError" = some (.ref CL)
  gT : mg "TooMany" = some (.ref CT)
  gB : mg "BadNumber" = some (.ref CB)
  gW : mg "BadWiring" = some (.ref CW)
  gM : mg "Misfit" = some (.ref CM)
  gR : mg "BadRow" = some (.ref CR)
  gO : mg "BadOrder" = some (.ref CO)
  gTb : mg "BadTable" = some (.ref CTb)
/-- what an error of the class at C answers -/
structure EC (K : PySem.W.Frag) (CL CT CB CW CM CR CO CTb C : Addr) : Prop where
  is : ErrIs K C
  exm : PySem.W.exmOne K (.ref C) (.ref CL) = some true
  kT : PySem.W.kitOne K (.ref C) (.ref CT) = some (decide (C = CT))
  kB : PySem.W.kitOne K (.ref C) (.ref CB) = some (decide (C = CB))
  kW : PySem.W.kitOne K (.ref C) (.ref CW) = some (decide (C = CW))
  kM : PySem.W.kitOne K (.ref C) (.ref CM) = some (decide (C = CM))
  kR : PySem.W.kitOne K (.ref C) (.ref CR) = some (decide (C = CR))
  kO : PySem.W.kitOne K (.ref C) (.ref CO) = some (decide (C = CO))
  kTb : PySem.W.kitOne K (.ref C) (.ref CTb) = some (decide (C = CTb))
  nP : PySem.W.findIn K (.ref C) "part" = some none
  nW : PySem.W.findIn K (.ref C) "what" = some none
  nM : PySem.W.findIn K (.ref C) "most" = some none
def kdL (CB CW CM CR CO CTb C : Addr) : List (Str × Bool) := [("number", decide (C = CB)), ("wiring", decide (C = CW)), ("misfit", decide (C = CM)), ("row", decide (C = CR)), ("order", decide (C = CO)), ("table", decide (C = CTb))]
def kdW (l : List (Str × Bool)) : List V := l.filterMap fun p => if p.2 = true then some (.str p.1) else none
/-- what the error leads to -/
def ESaid (K : PySem.W.Frag) (CL CT CB CW CM CR CO CTb : Addr) (Q : VK) : XK := fun cls d H' => ∃ C dd, cls = .ref C ∧ d = some dd ∧ EC K CL CT CB CW CM CR CO CTb C ∧
  ((C ≠ CT ∧ ∃ part word : Str, H' dd = some (.xd (f1 [.str part])) ∧ kdW (kdL CB CW CM CR CO CTb C) = [.str word] ∧ ∀ H'' p, Same H' H'' → SqT K H'' p [.str word, .str part] → Q (.ref p) H'') ∨
   (C = CT ∧ ∃ what : Str, ∃ most : Int, H' dd = some (.xd (f2 [.str what, .int most])) ∧ ∀ H'' p, Same H' H'' → SqT K H'' p [.str "many", .str what, .int most] → Q (.ref p) H''))
def TSaid (K : PySem.W.Frag) (CL CT CB CW CM CR CO CTb : Addr) : (XK → Hp → VK → Prop) → Hp → VK → Prop := fun tl H Q => ∀ (E : XK) (QQ : VK), (∀ cls d H', ESaid K CL CT CB CW CM CR CO CTb Q cls d H' → E cls d H') → tl E H QQ
theorem kdW_snoc (l : List (Str × Bool)) (p : Str × Bool) : kdW (l ++ [p]) = kdW l ++ (if p.2 = true then [.str p.1] else []) := by
  unfold kdW
  rw [List.filterMap_append]
  cases h : p.2 <;> simp [h]
section
variable {X : Cx}
theorem said_gives {g : Addr} {cdg : Value} {q : Str} {CL CT CB CW CM CR CO CTb : Addr} (T : Txt X.K X.mg) (S : SaidTxt X.mg CL CT CB CW CM CR CO CTb) : GivesToS X nSaid "_law_said" (defScope sSaid) g cdg (defBody sSaid) "_law_ask" q (TSaid X.K CL CT CB CW CM CR CO CTb) := by
  intro f c' s H Q tl act hc h
  refine ⟨_, pss_cons (ps_set (i := 1) scSaid.nd rfl (.inl rfl) pe_non)
    (pss_cons (ps_try_keep (X := (cxOf C8.CX0 X.prog X.w X.K X.mg X.base nSaid "_law_said" (defScope sSaid) g cdg X.A X.stack s H C8.E0).nox) (c := .ref CL) (i := 2) (j := 1)
      (tb := fun W D σ H => σ[0]? = some (some (.ref f)) ∧ H c' = some (CodeO c' q) ∧ tl (WE W σ) H fun _ H' => D.nx σ H')
      rfl rfl rfl scSaid.nd rfl rfl (by decide) rfl rfl rfl rfl ⟨rfl, rfl, .inl S.gL⟩ rfl (fun W pn xe tk _ => ?_))
    (pss_cons (ps_if (pt_val (pe_callB call_isV (by rfl) T.zisi (by decide +kernel) (pa_cons (pv 1) (pa_cons (pe_glob (v := .ref CT) (by rfl) S.gT rfl) pa_nil)))) (pss_one (ps_ret (pe_tup (pa_cons pe_str (pa_cons (pe_fldE (pv 1)) (pa_cons (pe_fldE (pv 1)) pa_nil)))))) pss_nil)
    (pss_cons (ps_set (i := 3) scSaid.nd rfl (.inl rfl) (pe_lst (pa_cons (pe_tup (pa_cons pe_str (pa_cons (pe_callB call_isV (by rfl) T.zisi (by decide +kernel) (pa_cons (pv 1) (pa_cons (pe_glob (v := .ref CB) (by rfl) S.gB rfl) pa_nil))) pa_nil)))
        (pa_cons (pe_tup (pa_cons pe_str (pa_cons (pe_callB call_isV (by rfl) T.zisi (by decide +kernel) (pa_cons (pv 1) (pa_cons (pe_glob (v := .ref CW) (by rfl) S.gW rfl) pa_nil))) pa_nil)))
        (pa_cons (pe_tup (pa_cons pe_str (pa_cons (pe_callB call_isV (by rfl) T.zisi (by decide +kernel) (pa_cons (pv 1) (pa_cons (pe_glob (v := .ref CM) (by rfl) S.gM rfl) pa_nil))) pa_nil))) pa_nil)))))
    (pss_cons (ps_set (i := 3) scSaid.nd rfl (.inl rfl) (pe_op op_cat (pv 3) (pe_lst (pa_cons (pe_tup (pa_cons pe_str (pa_cons (pe_callB call_isV (by rfl) T.zisi (by decide +kernel) (pa_cons (pv 1) (pa_cons (pe_glob (v := .ref CR) (by rfl) S.gR rfl) pa_nil))) pa_nil)))
        (pa_cons (pe_tup (pa_cons pe_str (pa_cons (pe_callB call_isV (by rfl) T.zisi (by decide +kernel) (pa_cons (pv 1) (pa_cons (pe_glob (v := .ref CO) (by rfl) S.gO rfl) pa_nil))) pa_nil)))
        (pa_cons (pe_tup (pa_cons pe_str (pa_cons (pe_callB call_isV (by rfl) T.zisi (by decide +kernel) (pa_cons (pv 1) (pa_cons (pe_glob (v := .ref CTb) (by rfl) S.gTb rfl) pa_nil))) pa_nil))) pa_nil))))))
    (pss_cons (ps_setLc (i := 4) (own := [("_law_is_so", 5), ("_law_word", 6)]) (g := gTup X.K 2 (gCons (gName 6) (gCons (gName 5) gNil))) rfl scSaid.nd rfl rfl (sw_true rfl rfl rfl (by decide +kernel)) (pi_list (pv 3))
            (blkOk_by (own := [("_law_is_so", 5), ("_law_word", 6)]) (N := nSaid) (sc := defScope sSaid) (by decide +kernel))
            (fun _ _ _ _ _ => pg_tup rfl (pgs_cons (pg_name (i := 6) scSaid.nd rfl (Or.inl rfl)) (pgs_cons (pg_name (i := 5) scSaid.nd rfl (Or.inl rfl)) pgs_nil)))
            (fun _ _ _ _ _ => pts_one (pt_val (pv 5))) (fun _ _ _ _ _ => pv 6))
    (pss_one (ps_ret (pe_ifExp (pt_cmpR op_eq (pe_callB call_lenS (by rfl) T.zlen PySem.boot_len (pa_cons (pv 4) pa_nil)) pe_int (nomark _)) (pe_tup (pa_cons (pe_ix ix_list (pv 4) pe_int (fun _ _ => rfl)) (pa_cons (pe_fldE (pv 1)) pa_nil))) (pv 1))))))))), ?_⟩
  · exact pss_one (ps_expr (act W pn xe _ _ tk))
  · refine ⟨rfl, hc, h _ _ fun cls d H' he => ?_⟩
    obtain ⟨C, dd, rfl, rfl, ec, he⟩ := he
    refine ⟨ec.exm, fun a ha => ?_⟩
    have S1 : Same H' (upd H' a (ErrO (.ref C) (some dd) a)) := same_new ha
    have e1 : upd H' a (ErrO (.ref C) (some dd) a) a = some (ErrO (.ref C) (some dd) a) := upd_same
    generalize hH1 : upd H' a (ErrO (.ref C) (some dd) a) = H1 at S1 e1
    rcases he with ⟨hne, part, word, ed, hw, q⟩ | ⟨rfl, what, most, ed, q⟩
    · have e2 := S1 _ _ ed
      refine ⟨_, rfl, a, C, dd, _, .ref CT, .ref CT, decide (C = CT), rfl, e1, e2, ec.is, .own CT, ec.kT, _, rfl, ?_⟩
      rw [decide_eq_false hne]
      refine iteF ?_
      refine ⟨_, rfl, a, C, dd, _, .ref CB, .ref CB, decide (C = CB), rfl, e1, e2, ec.is, .own CB, ec.kB, by show 2 ≤ sizeLine; decide, fun t1 ht1 => ?_⟩
      have S2 := same_new (o := HO.tup [.str "number", .bl (decide (C = CB))]) ht1
      have u1 : upd H1 t1 (HO.tup [.str "number", .bl (decide (C = CB))]) t1 = some (HO.tup [.str "number", .bl (decide (C = CB))]) := upd_same
      generalize hH2 : upd H1 t1 (HO.tup [.str "number", .bl (decide (C = CB))]) = H2 at S2 u1
      refine ⟨_, rfl, a, C, dd, _, .ref CW, .ref CW, decide (C = CW), rfl, S2 _ _ e1, S2 _ _ e2, ec.is, .own CW, ec.kW, by show 2 ≤ sizeLine; decide, fun t2 ht2 => ?_⟩
      have S3 := same_new (o := HO.tup [.str "wiring", .bl (decide (C = CW))]) ht2
      have u2 : upd H2 t2 (HO.tup [.str "wiring", .bl (decide (C = CW))]) t2 = some (HO.tup [.str "wiring", .bl (decide (C = CW))]) := upd_same
      generalize hH3 : upd H2 t2 (HO.tup [.str "wiring", .bl (decide (C = CW))]) = H3 at S3 u2
      have S13 := S2.trans S3
      refine ⟨_, rfl, a, C, dd, _, .ref CM, .ref CM, decide (C = CM), rfl, S13 _ _ e1, S13 _ _ e2, ec.is, .own CM, ec.kM, by show 2 ≤ sizeLine; decide, fun t3 ht3 => ?_⟩
      have S4 := same_new (o := HO.tup [.str "misfit", .bl (decide (C = CM))]) ht3
      have u3 : upd H3 t3 (HO.tup [.str "misfit", .bl (decide (C = CM))]) t3 = some (HO.tup [.str "misfit", .bl (decide (C = CM))]) := upd_same
      generalize hH4 : upd H3 t3 (HO.tup [.str "misfit", .bl (decide (C = CM))]) = H4 at S4 u3
      have S14 := S13.trans S4
      refine ⟨by show 3 ≤ sizeLine; decide, fun L hL => ?_⟩
      have S5 := same_new (o := HO.lst [.ref t1, .ref t2, .ref t3]) hL
      have uL : upd H4 L (HO.lst [.ref t1, .ref t2, .ref t3]) L = some (HO.lst [.ref t1, .ref t2, .ref t3]) := upd_same
      generalize hH5 : upd H4 L (HO.lst [.ref t1, .ref t2, .ref t3]) = H5 at S5 uL
      have S15 := S14.trans S5
      refine ⟨_, rfl, _, rfl, a, C, dd, _, .ref CR, .ref CR, decide (C = CR), rfl, S15 _ _ e1, S15 _ _ e2, ec.is, .own CR, ec.kR, by show 2 ≤ sizeLine; decide, fun t4 ht4 => ?_⟩
      have S6 := same_new (o := HO.tup [.str "row", .bl (decide (C = CR))]) ht4
      have u4 : upd H5 t4 (HO.tup [.str "row", .bl (decide (C = CR))]) t4 = some (HO.tup [.str "row", .bl (decide (C = CR))]) := upd_same
      generalize hH6 : upd H5 t4 (HO.tup [.str "row", .bl (decide (C = CR))]) = H6 at S6 u4
      have S16 := S15.trans S6
      refine ⟨_, rfl, a, C, dd, _, .ref CO, .ref CO, decide (C = CO), rfl, S16 _ _ e1, S16 _ _ e2, ec.is, .own CO, ec.kO, by show 2 ≤ sizeLine; decide, fun t5 ht5 => ?_⟩
      have S7 := same_new (o := HO.tup [.str "order", .bl (decide (C = CO))]) ht5
      have u5 : upd H6 t5 (HO.tup [.str "order", .bl (decide (C = CO))]) t5 = some (HO.tup [.str "order", .bl (decide (C = CO))]) := upd_same
      generalize hH7 : upd H6 t5 (HO.tup [.str "order", .bl (decide (C = CO))]) = H7 at S7 u5
      have S17 := S16.trans S7
      refine ⟨_, rfl, a, C, dd, _, .ref CTb, .ref CTb, decide (C = CTb), rfl, S17 _ _ e1, S17 _ _ e2, ec.is, .own CTb, ec.kTb, by show 2 ≤ sizeLine; decide, fun t6 ht6 => ?_⟩
      have S8 := same_new (o := HO.tup [.str "table", .bl (decide (C = CTb))]) ht6
      have u6 : upd H7 t6 (HO.tup [.str "table", .bl (decide (C = CTb))]) t6 = some (HO.tup [.str "table", .bl (decide (C = CTb))]) := upd_same
      generalize hH8 : upd H7 t6 (HO.tup [.str "table", .bl (decide (C = CTb))]) = H8 at S8 u6
      have S18 := S17.trans S8
      refine ⟨by show 3 ≤ sizeLine; decide, fun L2 hL2 => ?_⟩
      have S9 := same_new (o := HO.lst [.ref t4, .ref t5, .ref t6]) hL2
      have uL2 : upd H8 L2 (HO.lst [.ref t4, .ref t5, .ref t6]) L2 = some (HO.lst [.ref t4, .ref t5, .ref t6]) := upd_same
      generalize hH9 : upd H8 L2 (HO.lst [.ref t4, .ref t5, .ref t6]) = H9 at S9 uL2
      have S58 := (S6.trans S7).trans S8
      refine ⟨L, L2, _, _, rfl, rfl, (S58.trans S9) _ _ uL, uL2, by show 6 ≤ sizeLine; decide, fun M hM => ?_⟩
      have S10 := same_new (o := HO.lst ([.ref t1, .ref t2, .ref t3] ++ [.ref t4, .ref t5, .ref t6])) hM
      have uM : upd H9 M (HO.lst ([.ref t1, .ref t2, .ref t3] ++ [.ref t4, .ref t5, .ref t6])) M = some (HO.lst [.ref t1, .ref t2, .ref t3, .ref t4, .ref t5, .ref t6]) := upd_same
      generalize hHM : upd H9 M (HO.lst ([.ref t1, .ref t2, .ref t3] ++ [.ref t4, .ref t5, .ref t6])) = HM at S10 uM
      have SM := (S18.trans S9).trans S10
      have v6 := (S9.trans S10) _ _ u6
      have v5 := ((S8.trans S9).trans S10) _ _ u5
      have v4 := (((S7.trans S8).trans S9).trans S10) _ _ u4
      have S5M := (S58.trans S9).trans S10
      have v3 := (S5.trans S5M) _ _ u3
      have v2 := ((S4.trans S5).trans S5M) _ _ u2
      have v1 := (((S3.trans S4).trans S5).trans S5M) _ _ u1
      have at_ : ∀ (i : Nat) (z : V), ([.ref t1, .ref t2, .ref t3, .ref t4, .ref t5, .ref t6] : List V)[i]? = some z → ∃ (t : Addr) (p : Str × Bool), z = V.ref t ∧ (kdL CB CW CM CR CO CTb C)[i]? = some p ∧ HM t = some (.tup [.str p.1, .bl p.2]) := fun i z hz => by
        match i, hz with
        | 0, hz => exact ⟨t1, _, (Option.some.inj hz).symm, rfl, v1⟩
        | 1, hz => exact ⟨t2, _, (Option.some.inj hz).symm, rfl, v2⟩
        | 2, hz => exact ⟨t3, _, (Option.some.inj hz).symm, rfl, v3⟩
        | 3, hz => exact ⟨t4, _, (Option.some.inj hz).symm, rfl, v4⟩
        | 4, hz => exact ⟨t5, _, (Option.some.inj hz).symm, rfl, v5⟩
        | 5, hz => exact ⟨t6, _, (Option.some.inj hz).symm, rfl, v6⟩
        | i + 6, hz => simp at hz
      refine ⟨_, rfl, M, rfl, ⟨_, .of uM⟩, fun D hD => ?_⟩
      refine lcJ (K := X.K) (walk_list X.K M _) (fun H' k _ => k _ _ (.of uM)) (fun i _ acc => acc = kdW ((kdL CB CW CM CR CO CTb C).take i)) hD (by show 6 ≤ sizeLine; decide) (fun _ _ _ _ h _ => h) rfl ?_ ?_
      · intro i z H5 acc hz hi S11 eD hacc hJ
        obtain ⟨t, p, rfl, hp, ht⟩ := at_ i z hz
        refine ⟨t, _, rfl, .inl (.inl (S11 _ _ ht)), rfl, _, _, rfl, _, _, rfl, rfl, rfl, _, rfl, _, rfl, ?_⟩
        cases hb : p.2 with
        | true => exact iteT ⟨_, rfl, JPv.put (K := X.K) hD (fun _ _ _ _ h _ => h) S11 eD hacc hi (Same.refl _) (by rw [hJ, take_snoc hp, kdW_snoc, if_pos hb])⟩
        | false => exact iteF (JPv.skip S11 eD hacc (Same.refl _) (by rw [hJ, take_snoc hp, kdW_snoc, if_neg (by rw [hb]; decide), List.append_nil]))
      · intro H5 acc S11 eD hJ
        have hJ2 : acc = [.str word] := by rw [hJ]; exact hw
        subst hJ2
        have S1D := SM.trans S11
        refine ⟨_, rfl, D, _, rfl, .inl (.of eD), rfl, _, rfl, iteT ⟨_, rfl, D, _, 0, _, rfl, rfl, .of eD, atI_nat (j := 0) rfl, _, rfl, a, C, dd, _, .str part, rfl, S1D _ _ e1, S1D _ _ e2, ec.is, ec.nP, rfl, by show 2 ≤ sizeLine; decide, fun p hp => ?_⟩⟩
        exact q _ p ((S1.trans S1D).trans (same_new hp)) (.inl (.inl upd_same))
    · have e2 := S1 _ _ ed
      refine ⟨_, rfl, a, C, dd, _, .ref C, .ref C, decide (C = C), rfl, e1, e2, ec.is, .own C, ec.kT, _, rfl, ?_⟩
      rw [decide_eq_true rfl]
      refine iteT ⟨_, rfl, a, C, dd, _, .str what, rfl, e1, e2, ec.is, ec.nW, rfl, _, rfl, a, C, dd, _, .int most, rfl, e1, e2, ec.is, ec.nM, rfl, by show 3 ≤ sizeLine; decide, fun p hp => ?_⟩
      exact q _ p (S1.trans (same_new hp)) (.inl (.inl upd_same))
end
end K26
end K26W14

section K26W15
set_option Elab.async false
set_option linter.all false
set_option maxRecDepth 100000
set_option maxHeartbeats 4000000
/-! K26W15: what cannot stand: values, and how they are asked; _law_said called. -/
namespace K26
open PySem PySem.Spec PyProof.Rows L2 LamX K26L
/-! ### all but tables stays -/
section
variable {K : PySem.W.Frag} {H H' : Hp}
theorem Same.extN (e : Same H H') : ExtN H H' := ExtN.of e
theorem extN_sqL (e : ExtN H H') {a : Addr} {xs : List V} (h : SqL K H a xs) : SqL K H' a xs := by
  rcases h with (h | ⟨o, h⟩) | h
  · exact .inl (.inl (e _ _ h fun _ z => by cases z))
  · exact .inl (.inr ⟨o, e _ _ h fun _ z => by cases z⟩)
  · exact .inr h
theorem extN_sqT (e : ExtN H H') {a : Addr} {xs : List V} (h : SqT K H a xs) : SqT K H' a xs := by
  rcases h with (h | ⟨o, h⟩) | h
  · exact .inl (.inl (e _ _ h fun _ z => by cases z))
  · exact .inl (.inr ⟨o, e _ _ h fun _ z => by cases z⟩)
  · exact .inr h
theorem extN_sqA (e : ExtN H H') {a : Addr} {xs : List V} (h : SqA K H a xs) : SqA K H' a xs := h.elim (fun h => .inl (extN_sqL e h)) fun h => .inr (extN_sqT e h)
theorem extN_tyof (e : ExtN H H') {v : V} {t : Value} (h : TyOf K H v t) : TyOf K H' v t := by
  cases h with
  | non => exact .non
  | bl x => exact .bl x
  | int i => exact .int i
  | str x => exact .str x
  | flt x => exact .flt x
  | lst a => exact .lst (e _ _ a fun _ z => by cases z)
  | frz a => exact .frz (e _ _ a fun _ z => by cases z)
  | tup a => exact .tup (e _ _ a fun _ z => by cases z)
  | dK a => exact .dK (e _ _ a fun _ z => by cases z)
  | dT a => exact .dT (e _ _ a fun _ z => by cases z)
  | ins a cl ha hn htk hm => exact .ins (e _ _ a fun _ z => by cases z) cl ha hn htk hm
theorem extN_tyx (e : ExtN H H') {v : V} {t : Value} (h : TyX K H v t) : TyX K H' v t := by
  cases h with
  | base h => exact .base (extN_tyof e h)
  | byt b => exact .byt b
  | set a => exact .set (e _ _ a fun _ z => by cases z)
  | kList a c => exact .kList a c
  | kTuple a c => exact .kTuple a c
  | kDict a c => exact .kDict a c
  | fTuple a => exact .fTuple (e _ _ a fun _ z => by cases z)
  | fDict a => exact .fDict (e _ _ a fun _ z => by cases z)
theorem extN_kn (e : ExtN H H') {v : V} {i l : Bool} (h : Kn K H v i l) : Kn K H' v i l := by
  obtain ⟨T, a, b, c, d, ty, r⟩ := h
  exact ⟨T, a, b, c, d, extN_tyx e ty, r⟩
theorem extN_knI (e : ExtN H H') {v : V} (h : KnI K H v) : KnI K H' v := let ⟨i, l, k, r⟩ := h; ⟨i, l, extN_kn e k, r⟩
theorem extN_kg (e : ExtN H H') {n : Int} {v : V} {r : Option G} (h : KgArg K H n v r) : KgArg K H' n v r := by
  rcases h with ⟨i, h, q⟩ | ⟨a, xs, h1, h2, q⟩ | ⟨a, h, hs, x, y, h1, h2, h3, q⟩
  · exact .inl ⟨i, extN_kn e h, q⟩
  · exact .inr (.inl ⟨a, xs, h1, extN_sqA e h2, q⟩)
  · exact .inr (.inr ⟨a, h, hs, x, y, h1, extN_sqA e h2, extN_sqA e h3, q⟩)
theorem extN_noW (e : ExtN H H') {v : V} (h : NoW K H v) : NoW K H' v := let ⟨T, h1, h2⟩ := h; ⟨T, h1, extN_tyx e h2⟩
/-- what is no order of three lamps -/
def BadO (K : PySem.W.Frag) (H : Hp) (v : V) : Prop := (∃ i, Kn K H v i false) ∨ ∃ a xs, v = .ref a ∧ SqA K H a xs ∧ xs.length ≤ 1000 ∧ (∀ x ∈ xs, KnI K H x) ∧ ¬ ∃ ns : List Int, xs = ns.map V.int ∧ Ord 3 ns
theorem extN_badO (e : ExtN H H') {v : V} (h : BadO K H v) : BadO K H' v := by
  rcases h with ⟨i, h⟩ | ⟨a, xs, h1, h2, h3, h4, h5⟩
  · exact .inl ⟨i, extN_kn e h⟩
  · exact .inr ⟨a, xs, h1, extN_sqA e h2, h3, fun x hx => extN_knI e (h4 x hx), h5⟩
theorem extN_badL (e : ExtN H H') {v : V} (h : BadLamps K H v) : BadLamps K H' v := ⟨extN_knI e h.1, h.2⟩
end
/-! ### _law_said(lambda ..: body) -/
section
variable {X : Cx}
theorem pe_said {CL CT CB CW CM CR CO CTb : Addr} {Tb : List (Addr × Str)} {c P : Addr} {k : Nat} {params : Arguments} {body : Expr} {scope : Scope} {ps : List Str} {p lpos pos : Pos} (one : Bool) (t : XK → TE)
    (HS : ∃ g fd, Fun X.K "_law_said" "_law_said" sSaid g fd ∧ X.mg "_law_said" = some (.ref g)) (T : Txt X.K X.mg) (S : SaidTxt X.mg CL CT CB CW CM CR CO CTb) (TB : TabB X.base X.mg c P) (hcode : X.env.code = .ref c) (hmT : (P, X.env.qual ++ "<lambda>") ∈ Tb) (hu : ∀ p ∈ Tb, p.1 = P → p.2 = X.env.qual ++ "<lambda>") (hr : Room (k + 2) X.A)
    (L : LamD X.N X.env.scope scope ps) (hkw : params.kwonlyargs = []) (hdef : (one = false ∧ defaultsOf params X.env = ([], [])) ∨ (one = true ∧ ∃ z j p, defaultsOf params X.env = ([eval (.Constant (.int z) j p) X.env], []))) (hbind : BindD params body scope ps one)
    (hbody : ∀ (A : Around) (outer : List Env) (s : Shared) (H : Hp) (E : XK) (f c' : Addr), Room k (A.deeper (lamEnv X scope s.heap.objs.size f c')) → PE (lamCx X A outer s H E scope f c') body (t E)) (hg : Gl X "_law_said" := by rfl) :
    PE X (.Call (.Name "_law_said" p) [.Lambda params body scope lpos] [] pos) (tLam Tb (TSaid X.K CL CT CB CW CM CR CO CTb) t) := by
  obtain ⟨g, fd, F, hm⟩ := HS
  have hb := F.binds (ps := ["_law_ask"]) fun _ _ _ _ _ _ us hl => match us, hl with | [_], _ => rfl
  obtain ⟨oc, od, kV, doc, pm, an, cdv, ct, osl, rfl, lk, hcd⟩ := F.ex
  exact pe_lamcallS hg hm F.kp lk hcd hb scSaid rfl (.inl rfl) (said_gives T S) TB hcode hmT hu hr L hkw hdef hbind hbody
end
theorem bind0 {params : Arguments} {body : Expr} {scope : Scope} (h : ∀ (q : Str) (cl : List (Str × Addr)) (pm cv ctv : Value), bindArgs (lamFn q params body scope cl .none pm cv ctv) ⟨[], []⟩ = pure []) : BindD params body scope [] false := by
  intro s q cl dV pm cv ctv hd
  rcases hd with ⟨_, rfl⟩ | ⟨h1, _⟩
  · exact ⟨[], rfl, .of_eq (h q cl pm cv ctv)⟩
  · cases h1
theorem bind1 {params : Arguments} {body : Expr} {scope : Scope} {x : Str} (h : ∀ (q : Str) (cl : List (Str × Addr)) (D : Addr) (pm cv ctv u : Value), ∃ k, bindArgs (lamFn q params body scope cl (.ref D) pm cv ctv) ⟨[], []⟩ = seqItems? (.ref D) >>= k ∧ k (some [u].toArray) = pure [(x, u)]) : BindD params body scope [x] true := by
  intro s q cl dV pm cv ctv hd
  rcases hd with ⟨h1, _⟩ | ⟨_, D, u, rfl, hD⟩
  · cases h1
  · refine ⟨[u], rfl, fun M A E Q hq => ?_⟩
    obtain ⟨k, e1, e2⟩ := h q cl D pm cv ctv u
    rw [e1]
    refine wpAny_bind (wpAny_seqItems hD rfl ?_)
    rw [e2]
    exact wpAny_pure hq
/-! ### the new object, with its facts -/
theorem newO {H : Hp} {p : Addr} (o : HO) (hp : H p = none) : Same H (upd H p o) ∧ upd H p o p = some o := ⟨same_new hp, upd_same⟩
/-- an error told: what _law_said answers -/
theorem said_told {K : PySem.W.Frag} {CL CT CB CW CM CR CO CTb C : Addr} {E : XK} {Q : VK} {H1 : Hp} {part word : Str} (ec : EC K CL CT CB CW CM CR CO CTb C) (hne : C ≠ CT) (hw : kdW (kdL CB CW CM CR CO CTb C) = [.str word])
    (he : ∀ cls d H', ESaid K CL CT CB CW CM CR CO CTb Q cls d H' → E cls d H') (q : ∀ H'' p, Same H1 H'' → SqT K H'' p [.str word, .str part] → Q (.ref p) H'') : Rz E H1 C (f1 [.str part]) := fun d H' S ed =>
  he _ _ _ ⟨C, d, rfl, rfl, ec, .inl ⟨hne, part, word, ed, hw, fun H'' p S2 hp => q H'' p (S.trans S2) hp⟩⟩
theorem said_many {K : PySem.W.Frag} {CL CT CB CW CM CR CO CTb : Addr} {E : XK} {Q : VK} {H1 : Hp} {what : Str} {most : Int} (ec : EC K CL CT CB CW CM CR CO CTb CT)
    (he : ∀ cls d H', ESaid K CL CT CB CW CM CR CO CTb Q cls d H' → E cls d H') (q : ∀ H'' p, Same H1 H'' → SqT K H'' p [.str "many", .str what, .int most] → Q (.ref p) H'') : Rz E H1 CT (f2 [.str what, .int most]) := fun d H' S ed =>
  he _ _ _ ⟨CT, d, rfl, rfl, ec, .inr ⟨rfl, what, most, ed, fun H'' p S2 hp => q H'' p (S.trans S2) hp⟩⟩
end K26
end K26W15

section K26W16
set_option Elab.async false
set_option linter.all false
set_option maxRecDepth 100000
set_option maxHeartbeats 8000000
/-! K26W16: _law_refused_right. -/
namespace K26
open PySem PySem.Spec PyProof.Rows L2 LamX K26L
theorem tabs_x {Tb : List (Addr × Str)} {H H' : Hp} {f : Addr} {xs : List V} (hf : H f = some (.lst xs)) (e : SameX f H H') (h : Tabs Tb H) : Tabs Tb H' := fun p hp => by
  obtain ⟨ps, h1, h2, h3⟩ := h p hp
  refine ⟨ps, e _ _ (ne_of h1 hf (by intro z; cases z)) h1, h2, fun pos cv hc => ?_⟩
  obtain ⟨c, e1, e2⟩ := h3 pos cv hc
  exact ⟨c, e1, e _ _ (ne_of e2 hf (by intro z; cases z)) e2⟩
section
variable {P : Program} {w : World} {K : PySem.W.Frag} {mg : Str → Option Value} {base : Heap}
abbrev sRefused : Stmt := topS 57
abbrev nRefused : List Str := ["_law_ferry_here", "_law_odd", "_law_bad", "_law_none", "_law_heard"]
theorem scRefused : FnScope nRefused ["_law_ferry_here"] (defScope sRefused) := ⟨rfl, rfl, rfl, by decide +kernel, rfl, by decide +kernel, by decide +kernel⟩
def qRef : Str := (envOfC "_law_refused_right" (defScope sRefused) 0 0 .none).qual ++ "<lambda>"
def spRefused (P1 : Addr) : Sp := fun vs H Q _ => ∃ (f c : Addr) (t : Nat), vs = [.ref f] ∧ FerAt H f c t ∧ t + 3 ≤ 100000 ∧ Tabs [(P1, qRef)] H ∧ ∀ H', Q (.bl true) H'
theorem ok_refused {f0 c1 P1 C CL CT CB CW CM CR CO CTb : Addr} {oc kV doc pm ct : Value} {od an : Option Addr} {osl : Array (Option Value)}
    (lk : K.lookup f0 = some ⟨oc, od, .func (PySem.W.fnOf "_law_refused_right" "_law_refused_right" (defArgs sRefused) (defBody sRefused) (defScope sRefused) .none kV doc pm an (.ref c1) ct), osl⟩) (hcd : PySem.W.codeIn K (.ref c1) "_law_refused_right" = true) (TB : TabB base mg c1 P1)
    (T : Txt K mg) (HP : Has P w K mg base CX0 2 "_law_pick" ["_law_ferry_here", "_law_some"] [] (spPick K)) (HSaid : ∃ g fd, Fun K "_law_said" "_law_said" sSaid g fd ∧ mg "_law_said" = some (.ref g)) (S : SaidTxt mg CL CT CB CW CM CR CO CTb)
    (EB : EC K CL CT CB CW CM CR CO CTb CB) (EW : EC K CL CT CB CW CM CR CO CTb CW) (EO : EC K CL CT CB CW CM CR CO CTb CO) (nB : CB ≠ CT) (nW : CW ≠ CT) (nO : CO ≠ CT)
    (wB : kdW (kdL CB CW CM CR CO CTb CB) = [.str "number"]) (wW : kdW (kdL CB CW CM CR CO CTb CW) = [.str "wiring"]) (wO : kdW (kdL CB CW CM CR CO CTb CO) = [.str "order"])
    (HOr : Has P w K mg base (L2.CX P w) 6 "ordered" ["lamps", "order"] [] (spOrdered K C CB CO)) (HNG : Has P w K mg base (L2.CX P w) 6 "near_gate" ["lamps", "gate"] [] (spNearGate K C CB CW))
    (HNr : Has P w K mg base (L2.CX P w) 6 "near" ["wiring"] [] (spNear K C CW CT)) (HIN : Has P w K mg base (L2.CX P w) 3 "is_near" ["wiring"] [] (spIsNear K C CW)) :
    FnOk P w K mg base CX0 9 f0 (PySem.W.fnOf "_law_refused_right" "_law_refused_right" (defArgs sRefused) (defBody sRefused) (defScope sRefused) .none kV doc pm an (.ref c1) ct) ["_law_ferry_here"] (spRefused P1) := by
  refine fn_of lk hcd scRefused (fun vs H Q E h => ?_) (fun A outer s H vs Q E hr h => ?_)
  · obtain ⟨f, c, t, rfl, _⟩ := h
    rfl
  · obtain ⟨f, c, t, rfl, hF, ht, hTab, q⟩ := h
    have hu64 : (A.deeper (envOfC "_law_refused_right" (defScope sRefused) s.heap.objs.size f0 (.ref c1))).units + 64 < cLine := by have := hr.un; omega
    have hm : (P1, qRef) ∈ [(P1, qRef)] := List.mem_singleton.mpr rfl
    have hu : ∀ p ∈ [(P1, qRef)], p.1 = P1 → p.2 = qRef := fun p hp _ => by rw [List.mem_singleton.mp hp]
    suffices h : ∃ t, PSs (cxOf CX0 P w K mg base nRefused "_law_refused_right" (defScope sRefused) f0 (.ref c1) A outer s H E).nox (defBody sRefused) t ∧ t { nx := fun _ H' => Q .non H', rt := Q } (start nRefused [.ref f]) H by
      obtain ⟨tt, h1, h2⟩ := h
      exact ⟨tt, h1.nox, h2⟩
    refine ⟨_, pss_cons (ps_asg (pe_tup (pa_cons (pe_h HP hr (by decide) pass0 (pa_cons (pv 0) (pa_cons (pe_lst (pa_cons pe_int (pa_cons pe_int (pa_cons pe_non (pa_cons pe_bl (pa_cons pe_str (pa_cons (pe_lst (pa_cons pe_int pa_nil)) pa_nil))))))) pa_nil)))
        (pa_cons (pe_h HP hr (by decide) pass0 (pa_cons (pv 0) (pa_cons (pe_lst (pa_cons pe_non (pa_cons pe_int (pa_cons (pe_lst (pa_cons pe_int (pa_cons pe_int pa_nil))) (pa_cons (pe_lst (pa_cons pe_int (pa_cons pe_int (pa_cons pe_int pa_nil)))) (pa_cons (pe_lst (pa_cons pe_int (pa_cons pe_int (pa_cons pe_int pa_nil))))
          (pa_cons (pe_lst (pa_cons pe_int (pa_cons pe_int (pa_cons pe_int (pa_cons pe_int pa_nil))))) (pa_cons pe_str (pa_cons (pe_lst (pa_cons pe_bl (pa_cons pe_int (pa_cons pe_int pa_nil)))) (pa_cons pe_dnewK (pa_cons (pe_lst (pa_cons pe_int (pa_cons pe_int (pa_cons pe_non pa_nil)))) pa_nil))))))))))) pa_nil))) pa_nil)))
        (pg_tup rfl (pgs_cons (pg_name (i := 1) scRefused.nd rfl (.inr rfl)) (pgs_cons (pg_name (i := 2) scRefused.nd rfl (.inr rfl)) pgs_nil))))
      (pss_cons (ps_set (i := 3) scRefused.nd rfl (.inr rfl) (pe_h HP hr (by decide) pass0 (pa_cons (pv 0) (pa_cons (pe_lst (pa_cons pe_non (pa_cons pe_int (pa_cons pe_str (pa_cons (pe_tup (pa_cons (pe_tup pa_nil) (pa_cons pe_int (pa_cons pe_int pa_nil)))) (pa_cons (pe_tup (pa_cons (pe_tup pa_nil) (pa_cons pe_int (pa_cons pe_int pa_nil))))
          (pa_cons (pe_tup (pa_cons (pe_tup (pa_cons pe_int pa_nil)) (pa_cons pe_int (pa_cons pe_int pa_nil)))) (pa_cons (pe_tup (pa_cons (pe_tup pa_nil) (pa_cons pe_int pa_nil))) (pa_cons pe_dnewK pa_nil))))))))) pa_nil))))
      (pss_cons (ps_set (i := 4) scRefused.nd rfl (.inl rfl) (pe_lst
          (pa_cons (pe_said (k := 6) (ps := []) false (fun E => tCall (spOrdered K C CB CO) [] E (tCons (tVar 1) (tCons (tVar 2) tNil))) HSaid T S TB rfl hm hu hr (lamD_by (N := nRefused) (sc := defScope sRefused) (by decide +kernel)) rfl (.inl ⟨rfl, rfl⟩) (bind0 fun _ _ _ _ _ => rfl)
              (fun A outer s H E f c' hr2 => pe_h (E := E) HOr hr2 (by decide) (passes_call (takes_of rfl rfl rfl rfl) fun _ _ _ _ h => h) (pa_cons (pv 1) (pa_cons (pv 2) pa_nil))))
          (pa_cons (pe_said (k := 6) (ps := ["_law_x1"]) true (fun E => tCall (spOrdered K C CB CO) [] E (tCons (tC (.int 3)) (tCons (tVar 2) tNil))) HSaid T S TB rfl hm hu hr (lamD_by (N := nRefused) (sc := defScope sRefused) (by decide +kernel)) rfl (.inr ⟨rfl, _, _, _, rfl⟩) (bind1 fun _ _ _ _ _ _ _ => ⟨_, rfl, rfl⟩)
              (fun A outer s H E f c' hr2 => pe_h (E := E) HOr hr2 (by decide) (passes_call (takes_of rfl rfl rfl rfl) fun _ _ _ _ h => h) (pa_cons pe_int (pa_cons (pv 2) pa_nil))))
          (pa_cons (pe_said (k := 6) (ps := ["_law_x2"]) true (fun E => tCall (spNearGate K C CB CW) [] E (tCons (tVar 1) (tCons (tVar 3) tNil))) HSaid T S TB rfl hm hu hr (lamD_by (N := nRefused) (sc := defScope sRefused) (by decide +kernel)) rfl (.inr ⟨rfl, _, _, _, rfl⟩) (bind1 fun _ _ _ _ _ _ _ => ⟨_, rfl, rfl⟩)
              (fun A outer s H E f c' hr2 => pe_h (E := E) HNG hr2 (by decide) (passes_call (takes_of rfl rfl rfl rfl) fun _ _ _ _ h => h) (pa_cons (pv 1) (pa_cons (pv 3) pa_nil)))) pa_nil)))))
      (pss_cons (ps_set (i := 4) scRefused.nd rfl (.inl rfl) (pe_op op_cat (pv 4) (pe_lst
          (pa_cons (pe_said (k := 6) (ps := []) false (fun E => tCall (spNearGate K C CB CW) [] E (tCons (tC (.int 3)) (tCons (tVar 3) tNil))) HSaid T S TB rfl hm hu hr (lamD_by (N := nRefused) (sc := defScope sRefused) (by decide +kernel)) rfl (.inl ⟨rfl, rfl⟩) (bind0 fun _ _ _ _ _ => rfl)
              (fun A outer s H E f c' hr2 => pe_h (E := E) HNG hr2 (by decide) (passes_call (takes_of rfl rfl rfl rfl) fun _ _ _ _ h => h) (pa_cons pe_int (pa_cons (pv 3) pa_nil))))
          (pa_cons (pe_said (k := 6) (ps := ["_law_x1"]) true (fun E => tCall (spNear K C CW CT) [] E (tCons (tVar 3) tNil)) HSaid T S TB rfl hm hu hr (lamD_by (N := nRefused) (sc := defScope sRefused) (by decide +kernel)) rfl (.inr ⟨rfl, _, _, _, rfl⟩) (bind1 fun _ _ _ _ _ _ _ => ⟨_, rfl, rfl⟩)
              (fun A outer s H E f c' hr2 => pe_h (E := E) HNr hr2 (by decide) (passes_call (takes_of rfl rfl rfl rfl) fun _ _ _ _ h => h) (pa_cons (pv 3) pa_nil)))
          (pa_cons (pe_said (k := 6) (ps := ["_law_x2"]) true (fun E => tCall (spIsNear K C CW) [] E (tCons (tVar 3) tNil)) HSaid T S TB rfl hm hu hr (lamD_by (N := nRefused) (sc := defScope sRefused) (by decide +kernel)) rfl (.inr ⟨rfl, _, _, _, rfl⟩) (bind1 fun _ _ _ _ _ _ _ => ⟨_, rfl, rfl⟩)
              (fun A outer s H E f c' hr2 => pe_h (E := E) HIN hr2 (by decide) (passes_call (takes_of rfl rfl rfl rfl) fun _ _ _ _ h => h) (pa_cons (pv 3) pa_nil))) pa_nil))))))
      (pss_one (ps_ret (pe_cmpR (op_eqD hu64) (pv 4) (pe_lst (pa_cons (pe_tup (pa_cons pe_str (pa_cons pe_str pa_nil))) (pa_cons (pe_tup (pa_cons pe_str (pa_cons pe_str pa_nil))) (pa_cons (pe_tup (pa_cons pe_str (pa_cons pe_str pa_nil)))
          (pa_cons (pe_tup (pa_cons pe_str (pa_cons pe_str pa_nil))) (pa_cons (pe_tup (pa_cons pe_str (pa_cons pe_str pa_nil))) (pa_cons (pe_tup (pa_cons pe_str (pa_cons pe_str pa_nil))) pa_nil))))))) (nomark _))))))), ?_⟩
    --READ
    refine ⟨_, rfl, ?_⟩
    refine ⟨by show 1 ≤ sizeLine; decide, fun l1 hl1 => ?_⟩
    obtain ⟨S1, g1⟩ := newO (HO.lst [.int 2]) hl1
    generalize hG1 : upd H l1 (HO.lst [.int 2]) = K1 at S1 g1
    have nl1 : l1 ≠ f := fun z => hF.some (z ▸ hl1)
    replace hF := hF.same S1
    replace hTab := hTab.ext S1
    refine ⟨by show 6 ≤ sizeLine; decide, fun a1 ha1 => ?_⟩
    obtain ⟨S2, ga1⟩ := newO (HO.lst [.int 0, .int 9, .non, .bl true, .str "3", .ref l1]) ha1
    generalize hG2 : upd K1 a1 (HO.lst [.int 0, .int 9, .non, .bl true, .str "3", .ref l1]) = K2 at S2 ga1
    have na1 : a1 ≠ f := fun z => hF.some (z ▸ ha1)
    replace g1 := S2 _ _ g1
    replace hF := hF.same S2
    replace hTab := hTab.ext S2
    obtain ⟨xf3, ef3⟩ := hF.lst
    refine ⟨f, c, a1, _, t, rfl, .of ga1, na1, by show 0 < 6; decide, by show 6 < 1000000; decide, hF, by omega, fun K3 v1 S3 hF3 hv1 => ?_⟩
    replace g1 := S3 _ _ nl1 g1
    replace ga1 := S3 _ _ na1 ga1
    replace hTab := tabs_x ef3 S3 hTab
    clear hF
    have hF := hF3
    refine ⟨_, rfl, ?_⟩
    refine ⟨by show 2 ≤ sizeLine; decide, fun m1 hm1 => ?_⟩
    obtain ⟨S4, gm1⟩ := newO (HO.lst [.int 0, .int 1]) hm1
    generalize hG4 : upd K3 m1 (HO.lst [.int 0, .int 1]) = K4 at S4 gm1
    have nm1 : m1 ≠ f := fun z => hF.some (z ▸ hm1)
    replace g1 := S4 _ _ g1
    replace ga1 := S4 _ _ ga1
    replace hF := hF.same S4
    replace hTab := hTab.ext S4
    refine ⟨by show 3 ≤ sizeLine; decide, fun m2 hm2 => ?_⟩
    obtain ⟨S5, gm2⟩ := newO (HO.lst [.int 0, .int 1, .int 1]) hm2
    generalize hG5 : upd K4 m2 (HO.lst [.int 0, .int 1, .int 1]) = K5 at S5 gm2
    have nm2 : m2 ≠ f := fun z => hF.some (z ▸ hm2)
    replace g1 := S5 _ _ g1
    replace ga1 := S5 _ _ ga1
    replace gm1 := S5 _ _ gm1
    replace hF := hF.same S5
    replace hTab := hTab.ext S5
    refine ⟨by show 3 ≤ sizeLine; decide, fun m3 hm3 => ?_⟩
    obtain ⟨S6, gm3⟩ := newO (HO.lst [.int 0, .int 1, .int 3]) hm3
    generalize hG6 : upd K5 m3 (HO.lst [.int 0, .int 1, .int 3]) = K6 at S6 gm3
    have nm3 : m3 ≠ f := fun z => hF.some (z ▸ hm3)
    replace g1 := S6 _ _ g1
    replace ga1 := S6 _ _ ga1
    replace gm1 := S6 _ _ gm1
    replace gm2 := S6 _ _ gm2
    replace hF := hF.same S6
    replace hTab := hTab.ext S6
    refine ⟨by show 4 ≤ sizeLine; decide, fun m4 hm4 => ?_⟩
    obtain ⟨S7, gm4⟩ := newO (HO.lst [.int 0, .int 1, .int 2, .int 3]) hm4
    generalize hG7 : upd K6 m4 (HO.lst [.int 0, .int 1, .int 2, .int 3]) = K7 at S7 gm4
    have nm4 : m4 ≠ f := fun z => hF.some (z ▸ hm4)
    replace g1 := S7 _ _ g1
    replace ga1 := S7 _ _ ga1
    replace gm1 := S7 _ _ gm1
    replace gm2 := S7 _ _ gm2
    replace gm3 := S7 _ _ gm3
    replace hF := hF.same S7
    replace hTab := hTab.ext S7
    refine ⟨by show 3 ≤ sizeLine; decide, fun m5 hm5 => ?_⟩
    obtain ⟨S8, gm5⟩ := newO (HO.lst [.bl true, .int 0, .int 2]) hm5
    generalize hG8 : upd K7 m5 (HO.lst [.bl true, .int 0, .int 2]) = K8 at S8 gm5
    have nm5 : m5 ≠ f := fun z => hF.some (z ▸ hm5)
    replace g1 := S8 _ _ g1
    replace ga1 := S8 _ _ ga1
    replace gm1 := S8 _ _ gm1
    replace gm2 := S8 _ _ gm2
    replace gm3 := S8 _ _ gm3
    replace gm4 := S8 _ _ gm4
    replace hF := hF.same S8
    replace hTab := hTab.ext S8
    refine fun m6 hm6 => ?_
    obtain ⟨S9, gm6⟩ := newO (HO.dK []) hm6
    generalize hG9 : upd K8 m6 (HO.dK []) = K9 at S9 gm6
    have nm6 : m6 ≠ f := fun z => hF.some (z ▸ hm6)
    replace g1 := S9 _ _ g1
    replace ga1 := S9 _ _ ga1
    replace gm1 := S9 _ _ gm1
    replace gm2 := S9 _ _ gm2
    replace gm3 := S9 _ _ gm3
    replace gm4 := S9 _ _ gm4
    replace gm5 := S9 _ _ gm5
    replace hF := hF.same S9
    replace hTab := hTab.ext S9
    refine ⟨by show 3 ≤ sizeLine; decide, fun m7 hm7 => ?_⟩
    obtain ⟨S10, gm7⟩ := newO (HO.lst [.int 0, .int 1, .non]) hm7
    generalize hG10 : upd K9 m7 (HO.lst [.int 0, .int 1, .non]) = K10 at S10 gm7
    have nm7 : m7 ≠ f := fun z => hF.some (z ▸ hm7)
    replace g1 := S10 _ _ g1
    replace ga1 := S10 _ _ ga1
    replace gm1 := S10 _ _ gm1
    replace gm2 := S10 _ _ gm2
    replace gm3 := S10 _ _ gm3
    replace gm4 := S10 _ _ gm4
    replace gm5 := S10 _ _ gm5
    replace gm6 := S10 _ _ gm6
    replace hF := hF.same S10
    replace hTab := hTab.ext S10
    refine ⟨by show 10 ≤ sizeLine; decide, fun a2 ha2 => ?_⟩
    obtain ⟨S11, ga2⟩ := newO (HO.lst [.non, .int 5, .ref m1, .ref m2, .ref m3, .ref m4, .str "012", .ref m5, .ref m6, .ref m7]) ha2
    generalize hG11 : upd K10 a2 (HO.lst [.non, .int 5, .ref m1, .ref m2, .ref m3, .ref m4, .str "012", .ref m5, .ref m6, .ref m7]) = K11 at S11 ga2
    have na2 : a2 ≠ f := fun z => hF.some (z ▸ ha2)
    replace g1 := S11 _ _ g1
    replace ga1 := S11 _ _ ga1
    replace gm1 := S11 _ _ gm1
    replace gm2 := S11 _ _ gm2
    replace gm3 := S11 _ _ gm3
    replace gm4 := S11 _ _ gm4
    replace gm5 := S11 _ _ gm5
    replace gm6 := S11 _ _ gm6
    replace gm7 := S11 _ _ gm7
    replace hF := hF.same S11
    replace hTab := hTab.ext S11
    obtain ⟨xf12, ef12⟩ := hF.lst
    refine ⟨f, c, a2, _, t + 1, rfl, .of ga2, na2, by show 0 < 10; decide, by show 10 < 1000000; decide, hF, by omega, fun K12 v2 S12 hF12 hv2 => ?_⟩
    replace g1 := S12 _ _ nl1 g1
    replace ga1 := S12 _ _ na1 ga1
    replace gm1 := S12 _ _ nm1 gm1
    replace gm2 := S12 _ _ nm2 gm2
    replace gm3 := S12 _ _ nm3 gm3
    replace gm4 := S12 _ _ nm4 gm4
    replace gm5 := S12 _ _ nm5 gm5
    replace gm6 := S12 _ _ nm6 gm6
    replace gm7 := S12 _ _ nm7 gm7
    replace ga2 := S12 _ _ na2 ga2
    replace hTab := tabs_x ef12 S12 hTab
    clear hF
    have hF := hF12
    refine ⟨by show 2 ≤ sizeLine; decide, fun tp htp => ?_⟩
    obtain ⟨S13, gtp⟩ := newO (HO.tup [v1, v2]) htp
    generalize hG13 : upd K12 tp (HO.tup [v1, v2]) = K13 at S13 gtp
    have ntp : tp ≠ f := fun z => hF.some (z ▸ htp)
    replace g1 := S13 _ _ g1
    replace ga1 := S13 _ _ ga1
    replace gm1 := S13 _ _ gm1
    replace gm2 := S13 _ _ gm2
    replace gm3 := S13 _ _ gm3
    replace gm4 := S13 _ _ gm4
    replace gm5 := S13 _ _ gm5
    replace gm6 := S13 _ _ gm6
    replace gm7 := S13 _ _ gm7
    replace ga2 := S13 _ _ ga2
    replace hF := hF.same S13
    replace hTab := hTab.ext S13
    refine ⟨tp, _, rfl, .inl (.inl gtp), rfl, _, _, rfl, _, _, rfl, rfl, ?_⟩
    refine ⟨_, rfl, ?_⟩
    refine ⟨by show 0 ≤ sizeLine; decide, fun q1 hq1 => ?_⟩
    obtain ⟨S14, gq1⟩ := newO (HO.tup []) hq1
    generalize hG14 : upd K13 q1 (HO.tup []) = K14 at S14 gq1
    have nq1 : q1 ≠ f := fun z => hF.some (z ▸ hq1)
    replace g1 := S14 _ _ g1
    replace ga1 := S14 _ _ ga1
    replace gm1 := S14 _ _ gm1
    replace gm2 := S14 _ _ gm2
    replace gm3 := S14 _ _ gm3
    replace gm4 := S14 _ _ gm4
    replace gm5 := S14 _ _ gm5
    replace gm6 := S14 _ _ gm6
    replace gm7 := S14 _ _ gm7
    replace ga2 := S14 _ _ ga2
    replace gtp := S14 _ _ gtp
    replace hF := hF.same S14
    replace hTab := hTab.ext S14
    refine ⟨by show 3 ≤ sizeLine; decide, fun q2 hq2 => ?_⟩
    obtain ⟨S15, gq2⟩ := newO (HO.tup [.ref q1, .int 0, .int 0]) hq2
    generalize hG15 : upd K14 q2 (HO.tup [.ref q1, .int 0, .int 0]) = K15 at S15 gq2
    have nq2 : q2 ≠ f := fun z => hF.some (z ▸ hq2)
    replace g1 := S15 _ _ g1
    replace ga1 := S15 _ _ ga1
    replace gm1 := S15 _ _ gm1
    replace gm2 := S15 _ _ gm2
    replace gm3 := S15 _ _ gm3
    replace gm4 := S15 _ _ gm4
    replace gm5 := S15 _ _ gm5
    replace gm6 := S15 _ _ gm6
    replace gm7 := S15 _ _ gm7
    replace ga2 := S15 _ _ ga2
    replace gtp := S15 _ _ gtp
    replace gq1 := S15 _ _ gq1
    replace hF := hF.same S15
    replace hTab := hTab.ext S15
    refine ⟨by show 0 ≤ sizeLine; decide, fun q3 hq3 => ?_⟩
    obtain ⟨S16, gq3⟩ := newO (HO.tup []) hq3
    generalize hG16 : upd K15 q3 (HO.tup []) = K16 at S16 gq3
    have nq3 : q3 ≠ f := fun z => hF.some (z ▸ hq3)
    replace g1 := S16 _ _ g1
    replace ga1 := S16 _ _ ga1
    replace gm1 := S16 _ _ gm1
    replace gm2 := S16 _ _ gm2
    replace gm3 := S16 _ _ gm3
    replace gm4 := S16 _ _ gm4
    replace gm5 := S16 _ _ gm5
    replace gm6 := S16 _ _ gm6
    replace gm7 := S16 _ _ gm7
    replace ga2 := S16 _ _ ga2
    replace gtp := S16 _ _ gtp
    replace gq1 := S16 _ _ gq1
    replace gq2 := S16 _ _ gq2
    replace hF := hF.same S16
    replace hTab := hTab.ext S16
    refine ⟨by show 3 ≤ sizeLine; decide, fun q4 hq4 => ?_⟩
    obtain ⟨S17, gq4⟩ := newO (HO.tup [.ref q3, .int 0, .int 3]) hq4
    generalize hG17 : upd K16 q4 (HO.tup [.ref q3, .int 0, .int 3]) = K17 at S17 gq4
    have nq4 : q4 ≠ f := fun z => hF.some (z ▸ hq4)
    replace g1 := S17 _ _ g1
    replace ga1 := S17 _ _ ga1
    replace gm1 := S17 _ _ gm1
    replace gm2 := S17 _ _ gm2
    replace gm3 := S17 _ _ gm3
    replace gm4 := S17 _ _ gm4
    replace gm5 := S17 _ _ gm5
    replace gm6 := S17 _ _ gm6
    replace gm7 := S17 _ _ gm7
    replace ga2 := S17 _ _ ga2
    replace gtp := S17 _ _ gtp
    replace gq1 := S17 _ _ gq1
    replace gq2 := S17 _ _ gq2
    replace gq3 := S17 _ _ gq3
    replace hF := hF.same S17
    replace hTab := hTab.ext S17
    refine ⟨by show 1 ≤ sizeLine; decide, fun q5 hq5 => ?_⟩
    obtain ⟨S18, gq5⟩ := newO (HO.tup [.int 0]) hq5
    generalize hG18 : upd K17 q5 (HO.tup [.int 0]) = K18 at S18 gq5
    have nq5 : q5 ≠ f := fun z => hF.some (z ▸ hq5)
    replace g1 := S18 _ _ g1
    replace ga1 := S18 _ _ ga1
    replace gm1 := S18 _ _ gm1
    replace gm2 := S18 _ _ gm2
    replace gm3 := S18 _ _ gm3
    replace gm4 := S18 _ _ gm4
    replace gm5 := S18 _ _ gm5
    replace gm6 := S18 _ _ gm6
    replace gm7 := S18 _ _ gm7
    replace ga2 := S18 _ _ ga2
    replace gtp := S18 _ _ gtp
    replace gq1 := S18 _ _ gq1
    replace gq2 := S18 _ _ gq2
    replace gq3 := S18 _ _ gq3
    replace gq4 := S18 _ _ gq4
    replace hF := hF.same S18
    replace hTab := hTab.ext S18
    refine ⟨by show 3 ≤ sizeLine; decide, fun q6 hq6 => ?_⟩
    obtain ⟨S19, gq6⟩ := newO (HO.tup [.ref q5, .int 0, .int 1]) hq6
    generalize hG19 : upd K18 q6 (HO.tup [.ref q5, .int 0, .int 1]) = K19 at S19 gq6
    have nq6 : q6 ≠ f := fun z => hF.some (z ▸ hq6)
    replace g1 := S19 _ _ g1
    replace ga1 := S19 _ _ ga1
    replace gm1 := S19 _ _ gm1
    replace gm2 := S19 _ _ gm2
    replace gm3 := S19 _ _ gm3
    replace gm4 := S19 _ _ gm4
    replace gm5 := S19 _ _ gm5
    replace gm6 := S19 _ _ gm6
    replace gm7 := S19 _ _ gm7
    replace ga2 := S19 _ _ ga2
    replace gtp := S19 _ _ gtp
    replace gq1 := S19 _ _ gq1
    replace gq2 := S19 _ _ gq2
    replace gq3 := S19 _ _ gq3
    replace gq4 := S19 _ _ gq4
    replace gq5 := S19 _ _ gq5
    replace hF := hF.same S19
    replace hTab := hTab.ext S19
    refine ⟨by show 0 ≤ sizeLine; decide, fun q7 hq7 => ?_⟩
    obtain ⟨S20, gq7⟩ := newO (HO.tup []) hq7
    generalize hG20 : upd K19 q7 (HO.tup []) = K20 at S20 gq7
    have nq7 : q7 ≠ f := fun z => hF.some (z ▸ hq7)
    replace g1 := S20 _ _ g1
    replace ga1 := S20 _ _ ga1
    replace gm1 := S20 _ _ gm1
    replace gm2 := S20 _ _ gm2
    replace gm3 := S20 _ _ gm3
    replace gm4 := S20 _ _ gm4
    replace gm5 := S20 _ _ gm5
    replace gm6 := S20 _ _ gm6
    replace gm7 := S20 _ _ gm7
    replace ga2 := S20 _ _ ga2
    replace gtp := S20 _ _ gtp
    replace gq1 := S20 _ _ gq1
    replace gq2 := S20 _ _ gq2
    replace gq3 := S20 _ _ gq3
    replace gq4 := S20 _ _ gq4
    replace gq5 := S20 _ _ gq5
    replace gq6 := S20 _ _ gq6
    replace hF := hF.same S20
    replace hTab := hTab.ext S20
    refine ⟨by show 2 ≤ sizeLine; decide, fun q8 hq8 => ?_⟩
    obtain ⟨S21, gq8⟩ := newO (HO.tup [.ref q7, .int 0]) hq8
    generalize hG21 : upd K20 q8 (HO.tup [.ref q7, .int 0]) = K21 at S21 gq8
    have nq8 : q8 ≠ f := fun z => hF.some (z ▸ hq8)
    replace g1 := S21 _ _ g1
    replace ga1 := S21 _ _ ga1
    replace gm1 := S21 _ _ gm1
    replace gm2 := S21 _ _ gm2
    replace gm3 := S21 _ _ gm3
    replace gm4 := S21 _ _ gm4
    replace gm5 := S21 _ _ gm5
    replace gm6 := S21 _ _ gm6
    replace gm7 := S21 _ _ gm7
    replace ga2 := S21 _ _ ga2
    replace gtp := S21 _ _ gtp
    replace gq1 := S21 _ _ gq1
    replace gq2 := S21 _ _ gq2
    replace gq3 := S21 _ _ gq3
    replace gq4 := S21 _ _ gq4
    replace gq5 := S21 _ _ gq5
    replace gq6 := S21 _ _ gq6
    replace gq7 := S21 _ _ gq7
    replace hF := hF.same S21
    replace hTab := hTab.ext S21
    refine fun q9 hq9 => ?_
    obtain ⟨S22, gq9⟩ := newO (HO.dK []) hq9
    generalize hG22 : upd K21 q9 (HO.dK []) = K22 at S22 gq9
    have nq9 : q9 ≠ f := fun z => hF.some (z ▸ hq9)
    replace g1 := S22 _ _ g1
    replace ga1 := S22 _ _ ga1
    replace gm1 := S22 _ _ gm1
    replace gm2 := S22 _ _ gm2
    replace gm3 := S22 _ _ gm3
    replace gm4 := S22 _ _ gm4
    replace gm5 := S22 _ _ gm5
    replace gm6 := S22 _ _ gm6
    replace gm7 := S22 _ _ gm7
    replace ga2 := S22 _ _ ga2
    replace gtp := S22 _ _ gtp
    replace gq1 := S22 _ _ gq1
    replace gq2 := S22 _ _ gq2
    replace gq3 := S22 _ _ gq3
    replace gq4 := S22 _ _ gq4
    replace gq5 := S22 _ _ gq5
    replace gq6 := S22 _ _ gq6
    replace gq7 := S22 _ _ gq7
    replace gq8 := S22 _ _ gq8
    replace hF := hF.same S22
    replace hTab := hTab.ext S22
    refine ⟨by show 8 ≤ sizeLine; decide, fun a3 ha3 => ?_⟩
    obtain ⟨S23, ga3⟩ := newO (HO.lst [.non, .int 5, .str ":01", .ref q2, .ref q4, .ref q6, .ref q8, .ref q9]) ha3
    generalize hG23 : upd K22 a3 (HO.lst [.non, .int 5, .str ":01", .ref q2, .ref q4, .ref q6, .ref q8, .ref q9]) = K23 at S23 ga3
    have na3 : a3 ≠ f := fun z => hF.some (z ▸ ha3)
    replace g1 := S23 _ _ g1
    replace ga1 := S23 _ _ ga1
    replace gm1 := S23 _ _ gm1
    replace gm2 := S23 _ _ gm2
    replace gm3 := S23 _ _ gm3
    replace gm4 := S23 _ _ gm4
    replace gm5 := S23 _ _ gm5
    replace gm6 := S23 _ _ gm6
    replace gm7 := S23 _ _ gm7
    replace ga2 := S23 _ _ ga2
    replace gtp := S23 _ _ gtp
    replace gq1 := S23 _ _ gq1
    replace gq2 := S23 _ _ gq2
    replace gq3 := S23 _ _ gq3
    replace gq4 := S23 _ _ gq4
    replace gq5 := S23 _ _ gq5
    replace gq6 := S23 _ _ gq6
    replace gq7 := S23 _ _ gq7
    replace gq8 := S23 _ _ gq8
    replace gq9 := S23 _ _ gq9
    replace hF := hF.same S23
    replace hTab := hTab.ext S23
    obtain ⟨xf24, ef24⟩ := hF.lst
    refine ⟨f, c, a3, _, t + 1 + 1, rfl, .of ga3, na3, by show 0 < 8; decide, by show 8 < 1000000; decide, hF, by omega, fun K24 v3 S24 hF24 hv3 => ?_⟩
    replace g1 := S24 _ _ nl1 g1
    replace ga1 := S24 _ _ na1 ga1
    replace gm1 := S24 _ _ nm1 gm1
    replace gm2 := S24 _ _ nm2 gm2
    replace gm3 := S24 _ _ nm3 gm3
    replace gm4 := S24 _ _ nm4 gm4
    replace gm5 := S24 _ _ nm5 gm5
    replace gm6 := S24 _ _ nm6 gm6
    replace gm7 := S24 _ _ nm7 gm7
    replace ga2 := S24 _ _ na2 ga2
    replace gtp := S24 _ _ ntp gtp
    replace gq1 := S24 _ _ nq1 gq1
    replace gq2 := S24 _ _ nq2 gq2
    replace gq3 := S24 _ _ nq3 gq3
    replace gq4 := S24 _ _ nq4 gq4
    replace gq5 := S24 _ _ nq5 gq5
    replace gq6 := S24 _ _ nq6 gq6
    replace gq7 := S24 _ _ nq7 gq7
    replace gq8 := S24 _ _ nq8 gq8
    replace gq9 := S24 _ _ nq9 gq9
    replace ga3 := S24 _ _ na3 ga3
    replace hTab := tabs_x ef24 S24 hTab
    clear hF
    have hF := hF24
    have b1 : BadLamps K K24 v1 := by
      have h : v1 = .int 0 ∨ v1 = .int 9 ∨ v1 = .non ∨ v1 = .bl true ∨ v1 = .str "3" ∨ v1 = .ref l1 := by simpa using hv1
      rcases h with rfl | rfl | rfl | rfl | rfl | rfl
      · exact ⟨knI_int 0, rfl⟩
      · exact ⟨knI_int 9, rfl⟩
      · exact ⟨⟨false, false, kn_non, (fun z => by cases z), fun _ z => by cases z⟩, rfl⟩
      · exact ⟨⟨false, false, kn_bl _, (fun z => by cases z), fun _ z => by cases z⟩, rfl⟩
      · exact ⟨⟨false, false, kn_str _, (fun z => by cases z), fun _ z => by cases z⟩, rfl⟩
      · exact ⟨⟨false, true, kn_list (.of g1), (fun z => by cases z), fun _ z => by cases z⟩, rfl⟩
    have knN : KnI K K24 .non := ⟨false, false, kn_non, (fun z => by cases z), fun _ z => by cases z⟩
    have knB : KnI K K24 (.bl true) := ⟨false, false, kn_bl _, (fun z => by cases z), fun _ z => by cases z⟩
    have kints : ∀ (ms : List Int), (∀ x ∈ ms.map V.int, KnI K K24 x) := fun ms x hx => by
      obtain ⟨z, _, rfl⟩ := List.mem_map.mp hx
      exact knI_int z
    have inj : ∀ ms ns : List Int, ms.map V.int = ns.map V.int → ms = ns := fun ms ns e => by
      have := congrArg (List.filterMap fun v => match v with | V.int z => some z | _ => none) e
      simpa [List.filterMap_map, Function.comp_def] using this
    have noOrd : ∀ ms : List Int, ¬ Ord 3 ms → ∀ a, SqA K K24 a (ms.map V.int) → ms.length ≤ 1000 → BadO K K24 (.ref a) := fun ms hms a ha hl => .inr ⟨a, _, rfl, ha, by rw [List.length_map]; exact hl, kints ms, fun h => by
      obtain ⟨ns, e, ho⟩ := h
      exact hms (inj ms ns e ▸ ho)⟩
    have b2 : BadO K K24 v2 := by
      have h : v2 = .non ∨ v2 = .int 5 ∨ v2 = .ref m1 ∨ v2 = .ref m2 ∨ v2 = .ref m3 ∨ v2 = .ref m4 ∨ v2 = .str "012" ∨ v2 = .ref m5 ∨ v2 = .ref m6 ∨ v2 = .ref m7 := by simpa using hv2
      rcases h with rfl | rfl | rfl | rfl | rfl | rfl | rfl | rfl | rfl | rfl
      · exact .inl ⟨_, kn_non⟩
      · exact .inl ⟨_, kn_int 5⟩
      · exact noOrd [0, 1] (fun h => absurd h.1 (by decide)) m1 (.inl (.of gm1)) (by decide)
      · exact noOrd [0, 1, 1] (fun h => absurd h.2.2 (by decide)) m2 (.inl (.of gm2)) (by decide)
      · exact noOrd [0, 1, 3] (fun h => absurd (h.2.1 3 (by simp)) (by decide)) m3 (.inl (.of gm3)) (by decide)
      · exact noOrd [0, 1, 2, 3] (fun h => absurd h.1 (by decide)) m4 (.inl (.of gm4)) (by decide)
      · exact .inl ⟨_, kn_str _⟩
      · refine .inr ⟨m5, _, rfl, .inl (.of gm5), by decide, fun x hx => ?_, fun h => ?_⟩
        · have h : x = .bl true ∨ x = .int 0 ∨ x = .int 2 := by simpa using hx
          rcases h with rfl | rfl | rfl
          · exact knB
          · exact knI_int _
          · exact knI_int _
        · obtain ⟨ns, e, _⟩ := h
          cases ns with
          | nil => cases e
          | cons x r => exact absurd (List.cons.inj e).1 (fun z => by cases z)
      · exact .inl ⟨_, kn_dK gm6⟩
      · refine .inr ⟨m7, _, rfl, .inl (.of gm7), by decide, fun x hx => ?_, fun h => ?_⟩
        · have h : x = .int 0 ∨ x = .int 1 ∨ x = .non := by simpa using hx
          rcases h with rfl | rfl | rfl
          · exact knI_int _
          · exact knI_int _
          · exact knN
        · obtain ⟨ns, e, _⟩ := h
          match ns, e with
          | [], e => cases e
          | [_], e => cases e
          | [_, _], e => cases e
          | _ :: _ :: x :: _, e => exact absurd (List.cons.inj (List.cons.inj (List.cons.inj e).2).2).1 (fun z => by cases z)
    have b3 : KgArg K K24 3 v3 none ∧ NoW K K24 v3 := by
      have h : v3 = .non ∨ v3 = .int 5 ∨ v3 = .str ":01" ∨ v3 = .ref q2 ∨ v3 = .ref q4 ∨ v3 = .ref q6 ∨ v3 = .ref q8 ∨ v3 = .ref q9 := by simpa using hv3
      rcases h with rfl | rfl | rfl | rfl | rfl | rfl | rfl | rfl
      · exact ⟨.inl ⟨_, kn_non, rfl⟩, "NoneType", by simp [kinds], .base .non⟩
      · exact ⟨.inl ⟨_, kn_int 5, rfl⟩, "int", by simp [kinds], .base (.int 5)⟩
      · exact ⟨.inl ⟨_, kn_str _, rfl⟩, "str", by simp [kinds], .base (.str _)⟩
      · exact ⟨.inr (.inr ⟨q2, q1, [], 0, 0, rfl, .inr (.inl (.inl gq2)), .inr (.inl (.inl gq1)), by decide, by decide⟩), "tuple", by simp [kinds], .base (.tup gq2)⟩
      · exact ⟨.inr (.inr ⟨q4, q3, [], 0, 3, rfl, .inr (.inl (.inl gq4)), .inr (.inl (.inl gq3)), by decide, by decide⟩), "tuple", by simp [kinds], .base (.tup gq4)⟩
      · exact ⟨.inr (.inr ⟨q6, q5, [0], 0, 1, rfl, .inr (.inl (.inl gq6)), .inr (.inl (.inl gq5)), by decide, by decide⟩), "tuple", by simp [kinds], .base (.tup gq6)⟩
      · exact ⟨.inr (.inl ⟨q8, _, rfl, .inr (.inl (.inl gq8)), by show 2 ≠ 3; decide, rfl⟩), "tuple", by simp [kinds], .base (.tup gq8)⟩
      · exact ⟨.inl ⟨_, kn_dK gq9, rfl⟩, "dict", by simp [kinds], .base (.dK gq9)⟩
    obtain ⟨b3k, b3w⟩ := b3
    refine ⟨hTab, fun L1 e1 tb1 E1 QQ1 he1 => ?_⟩
    refine ⟨_, rfl, _, rfl, v1, v2, rfl, .inl ⟨extN_badL e1 b1, said_told EB nB wB he1 fun M1 p1 S01 hp1 => ?_⟩⟩
    have x1 := e1.trans (ExtN.of S01)
    replace b1 := extN_badL x1 b1
    replace b2 := extN_badO x1 b2
    replace b3k := extN_kg x1 b3k
    replace b3w := extN_noW x1 b3w
    clear hTab
    have hTab := tb1.ext S01
    refine ⟨hTab, fun L2 e2 tb2 E2 QQ2 he2 => ?_⟩
    suffices rz : Rz E2 L2 CO (f1 [.str "order"]) by
      refine ⟨_, rfl, .int 3, v2, rfl, .inr ⟨3, rfl, by decide, by decide, ?_⟩⟩
      rcases extN_badO e2 b2 with ⟨i, kn⟩ | ⟨a, xs, rfl, hS, hl, hk, hno⟩
      · exact .inl ⟨i, kn, rz⟩
      · exact .inr ⟨a, xs, rfl, hS, hl, hk, fun _ => rz, fun ns e ho => absurd ⟨ns, e, ho⟩ hno⟩
    refine said_told EO nO wO he2 fun M2 p2 S02 hp2 => ?_
    have x2 := e2.trans (ExtN.of S02)
    replace b1 := extN_badL x2 b1
    replace b2 := extN_badO x2 b2
    replace b3k := extN_kg x2 b3k
    replace b3w := extN_noW x2 b3w
    replace hp1 := extN_sqT x2 hp1
    clear hTab
    have hTab := tb2.ext S02
    refine ⟨hTab, fun L3 e3 tb3 E3 QQ3 he3 => ?_⟩
    refine ⟨_, rfl, _, rfl, v1, v3, rfl, .inl ⟨extN_badL e3 b1, said_told EB nB wB he3 fun M3 p3 S03 hp3 => ?_⟩⟩
    have x3 := e3.trans (ExtN.of S03)
    replace b1 := extN_badL x3 b1
    replace b2 := extN_badO x3 b2
    replace b3k := extN_kg x3 b3k
    replace b3w := extN_noW x3 b3w
    replace hp1 := extN_sqT x3 hp1
    replace hp2 := extN_sqT x3 hp2
    clear hTab
    have hTab := tb3.ext S03
    refine ⟨by show 3 ≤ sizeLine; decide, fun R1 hR1 => ?_⟩
    obtain ⟨SR1, eR1⟩ := newO (HO.lst [.ref p1, .ref p2, .ref p3]) hR1
    generalize hGR1 : upd M3 R1 (HO.lst [.ref p1, .ref p2, .ref p3]) = MR1 at SR1 eR1
    replace b3k := extN_kg (ExtN.of SR1) b3k
    replace b3w := extN_noW (ExtN.of SR1) b3w
    replace b1 := extN_badL (ExtN.of SR1) b1
    replace b2 := extN_badO (ExtN.of SR1) b2
    replace hp1 := extN_sqT (ExtN.of SR1) hp1
    replace hp2 := extN_sqT (ExtN.of SR1) hp2
    replace hp3 := extN_sqT (ExtN.of SR1) hp3
    replace hTab := hTab.ext SR1
    refine ⟨_, rfl, ?_⟩
    refine ⟨hTab, fun L4 e4 tb4 E4 QQ4 he4 => ?_⟩
    refine ⟨_, rfl, .int 3, v3, rfl, .inr ⟨3, none, rfl, by decide, by decide, extN_kg e4 b3k, fun _ => said_told EW nW wW he4 fun M4 p4 S04 hp4 => ?_, fun g h => by cases h⟩⟩
    have x4 := e4.trans (ExtN.of S04)
    replace b1 := extN_badL x4 b1
    replace b2 := extN_badO x4 b2
    replace b3k := extN_kg x4 b3k
    replace b3w := extN_noW x4 b3w
    replace hp1 := extN_sqT x4 hp1
    replace hp2 := extN_sqT x4 hp2
    replace hp3 := extN_sqT x4 hp3
    clear hTab
    have hTab := tb4.ext S04
    replace eR1 := x4 _ _ eR1 fun _ z => by cases z
    refine ⟨hTab, fun L5 e5 tb5 E5 QQ5 he5 => ?_⟩
    refine ⟨_, rfl, v3, rfl, .inl ⟨extN_noW e5 b3w, said_told EW nW wW he5 fun M5 p5 S05 hp5 => ?_⟩⟩
    have x5 := e5.trans (ExtN.of S05)
    replace b1 := extN_badL x5 b1
    replace b2 := extN_badO x5 b2
    replace b3k := extN_kg x5 b3k
    replace b3w := extN_noW x5 b3w
    replace hp1 := extN_sqT x5 hp1
    replace hp2 := extN_sqT x5 hp2
    replace hp3 := extN_sqT x5 hp3
    replace hp4 := extN_sqT x5 hp4
    clear hTab
    have hTab := tb5.ext S05
    replace eR1 := x5 _ _ eR1 fun _ z => by cases z
    refine ⟨hTab, fun L6 e6 tb6 E6 QQ6 he6 => ?_⟩
    refine ⟨_, rfl, v3, rfl, .inl ⟨extN_noW e6 b3w, said_told EW nW wW he6 fun M6 p6 S06 hp6 => ?_⟩⟩
    have x6 := e6.trans (ExtN.of S06)
    replace b1 := extN_badL x6 b1
    replace b2 := extN_badO x6 b2
    replace b3k := extN_kg x6 b3k
    replace b3w := extN_noW x6 b3w
    replace hp1 := extN_sqT x6 hp1
    replace hp2 := extN_sqT x6 hp2
    replace hp3 := extN_sqT x6 hp3
    replace hp4 := extN_sqT x6 hp4
    replace hp5 := extN_sqT x6 hp5
    clear hTab
    have hTab := tb6.ext S06
    replace eR1 := x6 _ _ eR1 fun _ z => by cases z
    refine ⟨by show 3 ≤ sizeLine; decide, fun R2 hR2 => ?_⟩
    obtain ⟨SR2, eR2⟩ := newO (HO.lst [.ref p4, .ref p5, .ref p6]) hR2
    generalize hGR2 : upd M6 R2 (HO.lst [.ref p4, .ref p5, .ref p6]) = MR2 at SR2 eR2
    replace eR1 := SR2 _ _ eR1
    refine ⟨R1, R2, _, _, rfl, rfl, eR1, eR2, by show 6 ≤ sizeLine; decide, fun R3 hR3 => ?_⟩
    obtain ⟨SR3, eR3⟩ := newO (HO.lst ([.ref p1, .ref p2, .ref p3] ++ [.ref p4, .ref p5, .ref p6])) hR3
    generalize hGR3 : upd MR2 R3 (HO.lst ([.ref p1, .ref p2, .ref p3] ++ [.ref p4, .ref p5, .ref p6])) = N0 at SR3 eR3
    replace hp1 := extN_sqT (ExtN.of (SR2.trans SR3)) hp1
    replace hp2 := extN_sqT (ExtN.of (SR2.trans SR3)) hp2
    replace hp3 := extN_sqT (ExtN.of (SR2.trans SR3)) hp3
    replace hp4 := extN_sqT (ExtN.of (SR2.trans SR3)) hp4
    replace hp5 := extN_sqT (ExtN.of (SR2.trans SR3)) hp5
    replace hp6 := extN_sqT (ExtN.of (SR2.trans SR3)) hp6
    refine ⟨_, rfl, ?_⟩
    refine ⟨by show 2 ≤ sizeLine; decide, fun u1 hu1 => ?_⟩
    obtain ⟨T1, eu1⟩ := newO (HO.tup [.str "number", .str "lamps"]) hu1
    generalize hU1 : upd N0 u1 (HO.tup [.str "number", .str "lamps"]) = N1 at T1 eu1
    replace eR3 := T1 _ _ eR3
    replace hp1 := sqt_same T1 hp1
    replace hp2 := sqt_same T1 hp2
    replace hp3 := sqt_same T1 hp3
    replace hp4 := sqt_same T1 hp4
    replace hp5 := sqt_same T1 hp5
    replace hp6 := sqt_same T1 hp6
    refine ⟨by show 2 ≤ sizeLine; decide, fun u2 hu2 => ?_⟩
    obtain ⟨T2, eu2⟩ := newO (HO.tup [.str "order", .str "order"]) hu2
    generalize hU2 : upd N1 u2 (HO.tup [.str "order", .str "order"]) = N2 at T2 eu2
    replace eu1 := T2 _ _ eu1
    replace eR3 := T2 _ _ eR3
    replace hp1 := sqt_same T2 hp1
    replace hp2 := sqt_same T2 hp2
    replace hp3 := sqt_same T2 hp3
    replace hp4 := sqt_same T2 hp4
    replace hp5 := sqt_same T2 hp5
    replace hp6 := sqt_same T2 hp6
    refine ⟨by show 2 ≤ sizeLine; decide, fun u3 hu3 => ?_⟩
    obtain ⟨T3, eu3⟩ := newO (HO.tup [.str "number", .str "lamps"]) hu3
    generalize hU3 : upd N2 u3 (HO.tup [.str "number", .str "lamps"]) = N3 at T3 eu3
    replace eu1 := T3 _ _ eu1
    replace eu2 := T3 _ _ eu2
    replace eR3 := T3 _ _ eR3
    replace hp1 := sqt_same T3 hp1
    replace hp2 := sqt_same T3 hp2
    replace hp3 := sqt_same T3 hp3
    replace hp4 := sqt_same T3 hp4
    replace hp5 := sqt_same T3 hp5
    replace hp6 := sqt_same T3 hp6
    refine ⟨by show 2 ≤ sizeLine; decide, fun u4 hu4 => ?_⟩
    obtain ⟨T4, eu4⟩ := newO (HO.tup [.str "wiring", .str "gate"]) hu4
    generalize hU4 : upd N3 u4 (HO.tup [.str "wiring", .str "gate"]) = N4 at T4 eu4
    replace eu1 := T4 _ _ eu1
    replace eu2 := T4 _ _ eu2
    replace eu3 := T4 _ _ eu3
    replace eR3 := T4 _ _ eR3
    replace hp1 := sqt_same T4 hp1
    replace hp2 := sqt_same T4 hp2
    replace hp3 := sqt_same T4 hp3
    replace hp4 := sqt_same T4 hp4
    replace hp5 := sqt_same T4 hp5
    replace hp6 := sqt_same T4 hp6
    refine ⟨by show 2 ≤ sizeLine; decide, fun u5 hu5 => ?_⟩
    obtain ⟨T5, eu5⟩ := newO (HO.tup [.str "wiring", .str "wiring"]) hu5
    generalize hU5 : upd N4 u5 (HO.tup [.str "wiring", .str "wiring"]) = N5 at T5 eu5
    replace eu1 := T5 _ _ eu1
    replace eu2 := T5 _ _ eu2
    replace eu3 := T5 _ _ eu3
    replace eu4 := T5 _ _ eu4
    replace eR3 := T5 _ _ eR3
    replace hp1 := sqt_same T5 hp1
    replace hp2 := sqt_same T5 hp2
    replace hp3 := sqt_same T5 hp3
    replace hp4 := sqt_same T5 hp4
    replace hp5 := sqt_same T5 hp5
    replace hp6 := sqt_same T5 hp6
    refine ⟨by show 2 ≤ sizeLine; decide, fun u6 hu6 => ?_⟩
    obtain ⟨T6, eu6⟩ := newO (HO.tup [.str "wiring", .str "wiring"]) hu6
    generalize hU6 : upd N5 u6 (HO.tup [.str "wiring", .str "wiring"]) = N6 at T6 eu6
    replace eu1 := T6 _ _ eu1
    replace eu2 := T6 _ _ eu2
    replace eu3 := T6 _ _ eu3
    replace eu4 := T6 _ _ eu4
    replace eu5 := T6 _ _ eu5
    replace eR3 := T6 _ _ eR3
    replace hp1 := sqt_same T6 hp1
    replace hp2 := sqt_same T6 hp2
    replace hp3 := sqt_same T6 hp3
    replace hp4 := sqt_same T6 hp4
    replace hp5 := sqt_same T6 hp5
    replace hp6 := sqt_same T6 hp6
    refine ⟨by show 6 ≤ sizeLine; decide, fun R4 hR4 => ?_⟩
    obtain ⟨T7, eR4⟩ := newO (HO.lst [.ref u1, .ref u2, .ref u3, .ref u4, .ref u5, .ref u6]) hR4
    generalize hU7 : upd N6 R4 (HO.lst [.ref u1, .ref u2, .ref u3, .ref u4, .ref u5, .ref u6]) = N7 at T7 eR4
    replace eu1 := T7 _ _ eu1
    replace eu2 := T7 _ _ eu2
    replace eu3 := T7 _ _ eu3
    replace eu4 := T7 _ _ eu4
    replace eu5 := T7 _ _ eu5
    replace eu6 := T7 _ _ eu6
    replace eR3 := T7 _ _ eR3
    replace hp1 := sqt_same T7 hp1
    replace hp2 := sqt_same T7 hp2
    replace hp3 := sqt_same T7 hp3
    replace hp4 := sqt_same T7 hp4
    replace hp5 := sqt_same T7 hp5
    replace hp6 := sqt_same T7 hp6
    have sh : SeqAt.shaped (.list [.tuple [.str "number", .str "lamps"], .tuple [.str "order", .str "order"], .tuple [.str "number", .str "lamps"], .tuple [.str "wiring", .str "gate"], .tuple [.str "wiring", .str "wiring"], .tuple [.str "wiring", .str "wiring"]]) = true := by decide +kernel
    refine ⟨.list [.tuple [.str "number", .str "lamps"], .tuple [.str "order", .str "order"], .tuple [.str "number", .str "lamps"], .tuple [.str "wiring", .str "gate"], .tuple [.str "wiring", .str "wiring"], .tuple [.str "wiring", .str "wiring"]], .list [.tuple [.str "number", .str "lamps"], .tuple [.str "order", .str "order"], .tuple [.str "number", .str "lamps"], .tuple [.str "wiring", .str "gate"], .tuple [.str "wiring", .str "wiring"], .tuple [.str "wiring", .str "wiring"]], .lst (.of eR3) (.cons (.tup hp1 (.cons (.str _) (.cons (.str _) .nil))) (.cons (.tup hp2 (.cons (.str _) (.cons (.str _) .nil))) (.cons (.tup hp3 (.cons (.str _) (.cons (.str _) .nil))) (.cons (.tup hp4 (.cons (.str _) (.cons (.str _) .nil))) (.cons (.tup hp5 (.cons (.str _) (.cons (.str _) .nil))) (.cons (.tup hp6 (.cons (.str _) (.cons (.str _) .nil))) (.nil))))))), .lst (.of eR4) (.cons (.tup (.inl (.inl eu1)) (.cons (.str _) (.cons (.str _) .nil))) (.cons (.tup (.inl (.inl eu2)) (.cons (.str _) (.cons (.str _) .nil))) (.cons (.tup (.inl (.inl eu3)) (.cons (.str _) (.cons (.str _) .nil))) (.cons (.tup (.inl (.inl eu4)) (.cons (.str _) (.cons (.str _) .nil))) (.cons (.tup (.inl (.inl eu5)) (.cons (.str _) (.cons (.str _) .nil))) (.cons (.tup (.inl (.inl eu6)) (.cons (.str _) (.cons (.str _) .nil))) (.nil))))))), sh, sh, ?_⟩
    rw [SeqAt.eqv_refl _ ((Bool.and_eq_true_iff.mp sh).1)]
    exact q _
end
end K26
end K26W16

section K26W17
set_option Elab.async false
set_option linter.all false
set_option maxRecDepth 100000
set_option maxHeartbeats 4000000
/-! K26W17: how long the texts of gates are. -/
namespace K26
open PySem PySem.Spec PyProof.Rows L2
def sumL (ts : List Str) : Nat := (ts.map fun t => t.length + 2).sum
theorem textFrom_le : ∀ (ts : List Str) (k : Nat) (acc : Str), (textFrom k acc ts).length ≤ acc.length + sumL ts
  | [], k, acc => Nat.le_refl _
  | t :: r, k, acc => by
    have ih := textFrom_le r (k + 1) (acc ++ (if k > 0 then ", " else "" : String) ++ t)
    have e : (acc ++ (if k > 0 then ", " else "" : String) ++ t).length = acc.length + (if k > 0 then 2 else 0) + t.length := by
      rw [strLen_append, strLen_append]
      by_cases h : k > 0 <;> simp [h] <;> rfl
    have e2 : sumL (t :: r) = t.length + 2 + sumL r := by simp [sumL]
    have e3 : (if k > 0 then 2 else 0) ≤ 2 := by split <;> omega
    show (textFrom (k + 1) (acc ++ (if k > 0 then ", " else "" : String) ++ t) r).length ≤ _
    omega
theorem listText_le (ts : List Str) : (listText ts).length ≤ sumL ts + 2 := by
  have h := textFrom_le ts 0 "["
  unfold listText
  rw [strLen_append]
  have e1 : (("[" : String) : Str).length = 1 := rfl
  have e2 : (("]" : String) : Str).length = 1 := rfl
  omega
theorem join_le : ∀ ts : List Str, (Str.join ", " ts).length ≤ sumL ts
  | [] => Nat.zero_le _
  | [x] => by
    show x.length ≤ _
    simp [sumL]
  | x :: y :: r => by
    have ih := join_le (y :: r)
    show (x ++ ", " ++ Str.join ", " (y :: r)).length ≤ _
    rw [strLen_append, strLen_append]
    have e2 : ((", " : String) : Str).length = 2 := rfl
    have e3 : sumL (x :: y :: r) = x.length + 2 + sumL (y :: r) := by simp [sumL]
    omega
theorem tupleText_le (ts : List Str) : (tupleText ts).length ≤ sumL ts + 3 := by
  unfold tupleText
  rw [strLen_append, strLen_append]
  have h := join_le ts
  have e1 : (("(" : String) : Str).length = 1 := rfl
  have e2 : ((if ts.length == 1 then ",)" else ")" : String) : Str).length ≤ 2 := by split <;> decide
  omega
theorem sumL_le {ts : List Str} {n : Nat} (h : ∀ t ∈ ts, t.length ≤ n) : sumL ts ≤ ts.length * (n + 2) := by
  induction ts with
  | nil => simp [sumL]
  | cons t r ih =>
    have e : sumL (t :: r) = t.length + 2 + sumL r := by simp [sumL]
    have h1 := h t List.mem_cons_self
    have h2 := ih fun x hx => h x (List.mem_cons_of_mem _ hx)
    rw [e, List.length_cons, Nat.succ_mul]
    omega
theorem int_len {i : Int} (h0 : 0 ≤ i) (h1 : i < 10) : (PyData.shown (.int i)).length = 1 ∧ PyData.showable (.int i) = true := by
  have : i = 0 ∨ i = 1 ∨ i = 2 ∨ i = 3 ∨ i = 4 ∨ i = 5 ∨ i = 6 ∨ i = 7 ∨ i = 8 ∨ i = 9 := by omega
  rcases this with rfl | rfl | rfl | rfl | rfl | rfl | rfl | rfl | rfl | rfl <;> exact ⟨by decide +kernel, by decide +kernel⟩
theorem shownAll_map {α : Type} (f : α → PyData) : ∀ l : List α, PyData.shownAll (l.map f) = l.map fun x => (f x).shown
  | [] => rfl
  | x :: r => by simp only [List.map_cons, PyData.shownAll, shownAll_map f r]
theorem showableAll_map {α : Type} (f : α → PyData) : ∀ {l : List α}, (∀ x ∈ l, (f x).showable = true) → PyData.showableAll (l.map f) = true
  | [], _ => rfl
  | x :: r, h => by simp only [List.map_cons, PyData.showableAll, h x List.mem_cons_self, showableAll_map f fun y hy => h y (List.mem_cons_of_mem _ hy), Bool.and_self]
theorem gD_len {n : Nat} {g : G} (w : WF n g) (h8 : n ≤ 8) : (gD g).shown.length ≤ 40 ∧ (gD g).showable = true := by
  have hin : ∀ x ∈ touched g, 0 ≤ x ∧ x < 10 := fun x hx => by have := w.inn x hx; omega
  have hh : ∀ x ∈ g.1, 0 ≤ x ∧ x < 10 := fun x hx => hin x (List.mem_append_left _ hx)
  have ha := hin g.2.1 (by simp [touched])
  have hb := hin g.2.2 (by simp [touched])
  have l1 : (PyData.shown (.tuple (g.1.map PyData.int))).length ≤ 27 := by
    show (tupleText (PyData.shownAll (g.1.map PyData.int))).length ≤ _
    rw [shownAll_map]
    have h1 := tupleText_le (g.1.map fun x => (PyData.int x).shown)
    have h2 := sumL_le (ts := g.1.map fun x => (PyData.int x).shown) (n := 1) fun t ht => by
      obtain ⟨x, hx, rfl⟩ := List.mem_map.mp ht
      exact Nat.le_of_eq (int_len (hh x hx).1 (hh x hx).2).1
    rw [List.length_map] at h2
    have := Nat.le_trans w.len h8
    omega
  have e2 := (int_len ha.1 ha.2).1
  have e3 := (int_len hb.1 hb.2).1
  constructor
  · show (tupleText [PyData.shown (.tuple (g.1.map PyData.int)), PyData.shown (.int g.2.1), PyData.shown (.int g.2.2)]).length ≤ 40
    have h1 := tupleText_le [PyData.shown (.tuple (g.1.map PyData.int)), PyData.shown (.int g.2.1), PyData.shown (.int g.2.2)]
    have h2 : sumL [PyData.shown (.tuple (g.1.map PyData.int)), PyData.shown (.int g.2.1), PyData.shown (.int g.2.2)] = (PyData.shown (.tuple (g.1.map PyData.int))).length + 2 + ((PyData.shown (.int g.2.1)).length + 2 + ((PyData.shown (.int g.2.2)).length + 2)) := by simp [sumL]
    omega
  · have h1 : PyData.showableAll (g.1.map PyData.int) = true := showableAll_map PyData.int fun x hx => (int_len (hh x hx).1 (hh x hx).2).2
    show (PyData.showableAll (g.1.map PyData.int) && (PyData.showable (.int g.2.1) && (PyData.showable (.int g.2.2) && true))) = true
    rw [h1, (int_len ha.1 ha.2).2, (int_len hb.1 hb.2).2]
    rfl
/-- two rows of gates, shown -/
def twoD (gs : List G) : PyData := .list [.tuple (gs.map gD), .tuple (gs.map gD)]
theorem two_ok {n : Nat} {gs : List G} (w : ∀ g ∈ gs, WF n g) (h8 : n ≤ 8) (hl : gs.length ≤ 1000) : (twoD gs).showable = true ∧ (twoD gs).hasDict = false ∧ (twoD gs).depth ≤ 60 ∧ (twoD gs).shown.length ≤ sizeLine := by
  obtain ⟨c1, c2⟩ := lay_gDs gs
  have l1 : (PyData.shown (.tuple (gs.map gD))).length ≤ 42003 := by
    show (tupleText (PyData.shownAll (gs.map gD))).length ≤ _
    rw [shownAll_map]
    have h1 := tupleText_le (gs.map fun x => (gD x).shown)
    have h2 := sumL_le (ts := gs.map fun x => (gD x).shown) (n := 40) fun t ht => by
      obtain ⟨x, hx, rfl⟩ := List.mem_map.mp ht
      exact (gD_len (w x hx) h8).1
    rw [List.length_map] at h2
    have : gs.length * 42 ≤ 1000 * 42 := Nat.mul_le_mul_right _ hl
    omega
  refine ⟨?_, ?_, ?_, ?_⟩
  · have h1 : PyData.showableAll (gs.map gD) = true := showableAll_map gD fun x hx => (gD_len (w x hx) h8).2
    show (PyData.showableAll (gs.map gD) && (PyData.showableAll (gs.map gD) && true)) = true
    rw [h1]
    rfl
  · refine PyData.hasDict_of_canLay _ ?_
    simp only [twoD, PyData.canLay0, PyData.canLayAll0, c1, Bool.and_self]
  · simp only [twoD, PyData.depth, PyData.depthAll]
    omega
  · have h1 := listText_le [PyData.shown (.tuple (gs.map gD)), PyData.shown (.tuple (gs.map gD))]
    have h2 : sumL [PyData.shown (.tuple (gs.map gD)), PyData.shown (.tuple (gs.map gD))] = (PyData.shown (.tuple (gs.map gD))).length + 2 + ((PyData.shown (.tuple (gs.map gD))).length + 2) := by simp [sumL]
    refine Nat.le_trans (show (twoD gs).shown.length ≤ 100000 from ?_) (by decide)
    show (listText [PyData.shown (.tuple (gs.map gD)), PyData.shown (.tuple (gs.map gD))]).length ≤ _
    omega
theorem twoB_ok (b : Bool) : (PyData.list [.bool b, .bool b]).showable = true ∧ (PyData.list [.bool b, .bool b]).hasDict = false ∧ (PyData.list [.bool b, .bool b]).depth ≤ 60 ∧ (PyData.list [.bool b, .bool b]).shown.length ≤ sizeLine := by
  cases b <;> exact ⟨by decide +kernel, by decide +kernel, by decide +kernel, by decide +kernel⟩
end K26
end K26W17

section K26W18
set_option Elab.async false
set_option linter.all false
set_option maxRecDepth 100000
set_option maxHeartbeats 8000000
/-! K26W18: the law's own def. -/
namespace K26
open PySem PySem.Spec PyProof.Rows L2 LamX K26L
theorem extN_fer {H H' : Hp} {f c : Addr} {t : Nat} (e : ExtN H H') (h : FerAt H f c t) : FerAt H' f c t := let ⟨n, l, ns, h1, h2, h3, h4⟩ := h; ⟨n, l, ns, e _ _ h1 (fun _ z => by cases z), e _ _ h2 (fun _ z => by cases z), h3, h4⟩
def gI {α : Type} : List α → List α → List α := fun us zs => match us, zs with
  | [], [a] => [a]
  | _, _ => []
abbrev gMany : G := ([3], 0, 1)
theorem wf_many : WF 4 gMany := ⟨by decide +kernel, by decide +kernel, by decide +kernel, by decide +kernel⟩
theorem many_len : (nearG 4 gMany).length = 3 := by
  rw [nearG_length]
  decide +kernel
theorem rep_refs (k : Nat) (t : Addr) (g : G) : (List.replicate k [V.ref t]).flatten = refs (List.replicate k (t, g)) := by
  induction k with
  | zero => rfl
  | succ k ih =>
    rw [List.replicate_succ, List.flatten_cons, ih, List.replicate_succ]
    rfl
theorem gts_rep (k : Nat) (t : Addr) (g : G) : gts (List.replicate k (t, g)) = List.replicate k g := by simp [gts]
theorem flat_rep (n k : Nat) (g : G) : ((List.replicate k g).flatMap (nearG n)).length = k * (nearG n g).length := by
  induction k with
  | zero => simp
  | succ k ih =>
    rw [List.replicate_succ, List.flatMap_cons, List.length_append, ih, Nat.succ_mul]
    omega
theorem gas_rep {K : PySem.W.Frag} {H : Hp} {t : Addr} {g : G} (k : Nat) (h : GA K H t g) : GAs K H (List.replicate k (t, g)) := fun p hp => by
  rw [List.eq_of_mem_replicate hp]
  exact h
section
variable {P : Program} {w : World} {K : PySem.W.Frag} {mg : Str → Option Value} {base : Heap}
abbrev sLaw : Stmt := topS 58
abbrev nLaw : List Str := ["_law_script", "_law_ferry_here", "_law_turn", "_law_lamps", "_law_gate_here", "_law_gates_here", "_law_made", "_law_side", "_law_each"]
theorem scLaw : FnScope nLaw ["_law_script"] (defScope sLaw) := ⟨rfl, rfl, rfl, by decide +kernel, rfl, by decide +kernel, by decide +kernel⟩
def qLaw : Str := (envOfC "law" (defScope sLaw) 0 0 .none).qual ++ "<lambda>"
theorem law_body {f0 a c2 P1 P2 C CL CT CB CW CM CR CO CTb : Addr} {A : Around} {outer : List Env} {s : Shared} {H : Hp} {E : XK} {Q : VK} {ns : List Int} (TB : TabB base mg c2 P2) (hP : P1 ≠ P2)
    (T : Txt K mg) (W : WTxt K mg C) (S : SaidTxt mg CL CT CB CW CM CR CO CTb) (ET : EC K CL CT CB CW CM CR CO CTb CT)
    (HFy : Has P w K mg base CX0 1 "_law_ferry" ["_law_script"] [] (spFerry K)) (HS : Has P w K mg base CX0 1 "_law_steer" ["_law_ferry_here", "_law_many"] [] (spSteer K)) (HP : Has P w K mg base CX0 2 "_law_pick" ["_law_ferry_here", "_law_some"] [] (spPick K))
    (HG : Has P w K mg base CX0 3 "_law_gate" ["_law_ferry_here", "_law_lamps"] [] (spLGate K)) (HGs : Has P w K mg base CX0 4 "_law_gates" ["_law_ferry_here", "_law_lamps", "_law_most"] [] (spLGates K)) (HL : Has P w K mg base CX0 3 "_law_loose" ["_law_ferry_here", "_law_gate_here"] [] (spLoose K))
    (HIs : Has P w K mg base CX0 1 "_law_is_near" ["_law_gates_here"] [] (spLIsNear K)) (HOR : Has P w K mg base CX0 7 "_law_ordered_right" ["_law_ferry_here", "_law_lamps"] [] (spOrdRight K)) (HNR : Has P w K mg base CX0 4 "_law_near_right" ["_law_ferry_here", "_law_lamps", "_law_gates_here", "_law_told"] [] (spNearRight K C))
    (HRef : Has P w K mg base CX0 9 "_law_refused_right" ["_law_ferry_here"] [] (spRefused P1)) (HSaid : ∃ g fd, Fun K "_law_said" "_law_said" sSaid g fd ∧ mg "_law_said" = some (.ref g))
    (HNG : Has P w K mg base (L2.CX P w) 6 "near_gate" ["lamps", "gate"] [] (spNearGate K C CB CW)) (HNGK : HasK P w K mg base (L2.CX P w) 6 "near_gate" ["lamps", "gate"] ["gate", "lamps"] gSw (spNearGate K C CB CW))
    (HNr : Has P w K mg base (L2.CX P w) 6 "near" ["wiring"] [] (spNear K C CW CT)) (HNrK : HasK P w K mg base (L2.CX P w) 6 "near" ["wiring"] ["wiring"] gI (spNear K C CW CT))
    (HIN : Has P w K mg base (L2.CX P w) 3 "is_near" ["wiring"] [] (spIsNear K C CW)) (HINK : HasK P w K mg base (L2.CX P w) 3 "is_near" ["wiring"] ["wiring"] gI (spIsNear K C CW))
    (HW : HasC P w K mg base (L2.CX P w) 4 "Wiring" C ["self", "lamps", "gates"] (spWiringInit K C CT))
    (hr : Room 9 (A.deeper (envOfC "law" (defScope sLaw) s.heap.objs.size f0 (.ref c2)))) (hgd : (A.deeper (envOfC "law" (defScope sLaw) s.heap.objs.size f0 (.ref c2))).guards = some [])
    (hS : SqL K H a (ns.map V.int)) (hl : ns.length ≤ 1000) (hTab : Tabs [(P2, qLaw), (P1, qRef)] H) (q : ∀ H', Q (.bl true) H') :
    ∃ t, PSs (cxOf CX0 P w K mg base nLaw "law" (defScope sLaw) f0 (.ref c2) A outer s H E).nox (defBody sLaw) t ∧ t { nx := fun _ H' => Q .non H', rt := Q } (start nLaw [.ref a]) H := by
  have hu64 : (A.deeper (envOfC "law" (defScope sLaw) s.heap.objs.size f0 (.ref c2))).units + 64 < cLine := by have := hr.un; omega
  have hm : (P2, qLaw) ∈ [(P2, qLaw), (P1, qRef)] := List.mem_cons_self
  have hu : ∀ p ∈ [(P2, qLaw), (P1, qRef)], p.1 = P2 → p.2 = qLaw := fun p hp e => by
    rcases List.mem_cons.mp hp with rfl | hp
    · rfl
    · rw [List.mem_singleton.mp hp] at e
      exact absurd e hP
  have hRet : ∀ {p : Str} {ps : List (Addr × Str)}, True := trivial
  -- return _law_refused_right(..)
  obtain ⟨t3, hT3, rT3⟩ : ∃ tt, PSs (cxOf CX0 P w K mg base nLaw "law" (defScope sLaw) f0 (.ref c2) A outer s H E).nox ((defBody sLaw).drop 3) tt ∧
      ∀ (H2 : Hp) (f c : Addr) (t2 : Nat) (y2 y3 y4 y5 y6 y7 y8 : Option V), FerAt H2 f c t2 → t2 + 3 ≤ 100000 → Tabs [(P2, qLaw), (P1, qRef)] H2 → tt { nx := fun _ H' => Q .non H', rt := Q } [some (.ref a), some (.ref f), y2, y3, y4, y5, y6, y7, y8] H2 := by
    refine ⟨_, pss_one (ps_ret (pe_h HRef hr (by decide) pass0 (pa_cons (pv 1) pa_nil))), ?_⟩
    intro H2 f c t2 y2 y3 y4 y5 y6 y7 y8 hF ht htb
    exact ⟨_, rfl, f, c, t2, rfl, hF, ht, fun p hp => htb p (List.mem_cons_of_mem _ hp), fun H' => q H'⟩
  refine ⟨_, pss_cons (ps_set (i := 1) scLaw.nd rfl (.inl rfl) (pe_h HFy hr (by decide) pass0 (pa_cons (pv 0) pa_nil)))
    (pss_cons (ps_for PassesOwn.never rfl (pi_range1 rfl T.zrange (pa_cons pe_int pa_nil)) (pg_name (i := 2) scLaw.nd rfl (Or.inl rfl))
      (pss_cons (ps_if (pt_not (pt_val (pe_h HOR hr (by decide) pass0 (pa_cons (pv 1) (pa_cons (pe_op op_add pe_int (pe_h HS hr (by decide) pass0 (pa_cons (pv 1) (pa_cons pe_int pa_nil)))) pa_nil))))) (pss_one (ps_ret pe_bl)) pss_nil)
      (pss_cons (ps_set (i := 3) scLaw.nd rfl (.inl rfl) (pe_op op_add pe_int (pe_h HS hr (by decide) pass0 (pa_cons (pv 1) (pa_cons (pe_h HP hr (by decide) pass0 (pa_cons (pv 1) (pa_cons (pe_lst (pa_cons pe_int (pa_cons pe_int pa_nil))) pa_nil))) pa_nil)))))
      (pss_cons (ps_par (i := 4) (j := 5) rfl scLaw.nd rfl rfl (by decide) rfl rfl (pa_cons (pe_h HG hr (by decide) pass0 (pa_cons (pv 1) (pa_cons (pv 3) pa_nil))) (pa_cons (pe_h HGs hr (by decide) pass0 (pa_cons (pv 1) (pa_cons (pv 3) (pa_cons pe_int pa_nil)))) pa_nil)) rfl)
      (pss_cons (ps_if (pt_not (pt_val (pe_h HNR hr (by decide) pass0 (pa_cons (pv 1) (pa_cons (pv 3) (pa_cons (pe_lst (pa_cons (pv 4) pa_nil)) (pa_cons (pe_h HNG hr (by decide) passL (pa_cons (pv 3) (pa_cons (pv 4) pa_nil))) pa_nil))))))) (pss_one (ps_ret pe_bl)) pss_nil)
      (pss_cons (ps_if (pt_not (pt_val (pe_h HNR hr (by decide) pass0 (pa_cons (pv 1) (pa_cons (pv 3) (pa_cons (pe_lst (pa_cons (pv 4) pa_nil)) (pa_cons (pe_hk HNGK hr (by decide) passL (pk_cons (pe_h HL hr (by decide) pass0 (pa_cons (pv 1) (pa_cons (pv 4) pa_nil))) (pk_cons (pv 3) pk_nil))) pa_nil))))))) (pss_one (ps_ret pe_bl)) pss_nil)
      (pss_cons (ps_set (i := 6) scLaw.nd rfl (.inl rfl) (pe_wir HW hr (by decide) passL (pa_cons (pv 3) (pa_cons (pv 5) pa_nil))))
      (pss_cons (ps_if (pt_not (pt_val (pe_h HNR hr (by decide) pass0 (pa_cons (pv 1) (pa_cons (pv 3) (pa_cons (pv 5) (pa_cons (pe_h HNr hr (by decide) passL (pa_cons (pv 6) pa_nil)) pa_nil))))))) (pss_one (ps_ret pe_bl)) pss_nil)
      (pss_cons (ps_set (i := 7) scLaw.nd rfl (.inl rfl) (pe_lst pa_nil))
      (pss_cons (ps_for PassesOwn.never rfl (pi_list (pv 5)) (pg_name (i := 8) scLaw.nd rfl (Or.inl rfl)) (pss_one (ps_set (i := 7) scLaw.nd rfl (.inl rfl) (pe_op op_cat (pv 7) (pe_callTy call_list_of (by rfl) T.zlist (by decide +kernel) (pa_cons (pe_fld (pe_h HNG hr (by decide) passL (pa_cons (pv 3) (pa_cons (pv 8) pa_nil))) rfl) pa_nil))))))
      (pss_cons (ps_if (pt_cmpR op_ne (pe_callB (call_repr hgd hu64) (by rfl) T.zrepr (by decide +kernel) (pa_cons (pe_lst (pa_cons (pe_fld (pe_h HNr hr (by decide) passL (pa_cons (pv 6) pa_nil)) rfl) (pa_cons (pe_fld (pe_hk HNrK hr (by decide) passL (pk_cons (pv 6) pk_nil)) rfl) pa_nil))) pa_nil))
          (pe_callB (call_repr hgd hu64) (by rfl) T.zrepr (by decide +kernel) (pa_cons (pe_op op_rep (pe_lst (pa_cons (pe_callTy call_tuple_of (by rfl) T.ztuple (by decide +kernel) (pa_cons (pv 7) pa_nil)) pa_nil)) pe_int) pa_nil)) (nomark _)) (pss_one (ps_ret pe_bl)) pss_nil)
      (pss_cons (ps_if (pt_cmpR op_ne (pe_callB (call_repr hgd hu64) (by rfl) T.zrepr (by decide +kernel) (pa_cons (pe_lst (pa_cons (pe_h HIN hr (by decide) passL (pa_cons (pv 6) pa_nil)) (pa_cons (pe_hk HINK hr (by decide) passL (pk_cons (pv 6) pk_nil)) pa_nil))) pa_nil))
          (pe_callB (call_repr hgd hu64) (by rfl) T.zrepr (by decide +kernel) (pa_cons (pe_op op_rep (pe_lst (pa_cons (pe_h HIs hr (by decide) pass0 (pa_cons (pv 5) pa_nil)) pa_nil)) pe_int) pa_nil)) (nomark _)) (pss_one (ps_ret pe_bl)) pss_nil)
      (pss_one (ps_if (pt_cmpR op_gt (pe_callB call_lenS (by rfl) T.zlen PySem.boot_len (pa_cons (pe_fld (pe_h HNG hr (by decide) passL (pa_cons (pv 3) (pa_cons (pv 4) pa_nil))) rfl) pa_nil)) pe_int (nomark _)) (pss_one (ps_ret pe_bl)) pss_nil))))))))))))))
    (pss_cons (ps_if (PW.pt (pw_and (pt_cmpR op_eq (pe_h HS hr (by decide) pass0 (pa_cons (pv 1) (pa_cons pe_int pa_nil))) pe_int (nomark _)) (pw_and1 (pt_cmpR (op_neD hu64)
          (pe_said (k := 6) (ps := []) false (fun E => tCall (spNear K C CW CT) [] E (tCons (fun σ H Q => tCons (tC (.int 4)) (tCons (tOp rRep (tLst (tCons (tTup (tCons (tTup (tCons (tC (.int 3)) tNil)) (tCons (tC (.int 0)) (tCons (tC (.int 1)) tNil)))) tNil)) (tC (.int 6700))) tNil) σ H fun vs H1 => MkW K C CT E vs H1 Q) tNil))
            HSaid T S TB rfl hm hu (hr.mono (by decide)) (lamD_by (N := nLaw) (sc := defScope sLaw) (by decide +kernel)) rfl (.inl ⟨rfl, rfl⟩) (bind0 fun _ _ _ _ _ => rfl)
              (fun A outer s H E f c' hr2 => pe_h (E := E) HNr hr2 (by decide) (passes_call (takes_of rfl rfl rfl rfl) fun _ _ _ _ h => h) (pa_cons (pe_wir (E := E) HW hr2 (by decide) (passes_call (takes_of rfl rfl rfl rfl) fun _ _ _ _ h => h) (pa_cons pe_int (pa_cons (pe_op op_rep (pe_lst (pa_cons (pe_tup (pa_cons (pe_tup (pa_cons pe_int pa_nil)) (pa_cons pe_int (pa_cons pe_int pa_nil)))) pa_nil)) pe_int) pa_nil))) pa_nil)))
          (pe_tup (pa_cons pe_str (pa_cons pe_str (pa_cons pe_int pa_nil)))) (nomark _))))) (pss_one (ps_ret pe_bl)) pss_nil)
    hT3)), ?_⟩
  --LAWREAD
  refine ⟨_, rfl, a, ns, rfl, hS, hl, fun H1 f c S0 hf0 hc0 hF0 => ?_⟩
  have hTab1 := hTab.ext S0
  refine ⟨3, rfl, by decide, by decide, ?_⟩
  refine forW (walk_range 0 (3 : Int).toNat) (fun i σ H2 => ∃ y2 y3 y4 y5 y6 y7 y8 : Option V, σ = [some (.ref a), some (.ref f), y2, y3, y4, y5, y6, y7, y8] ∧ SameX f H1 H2 ∧ FerAt H2 f c (200 * i))
    ⟨none, none, none, none, none, none, none, rfl, SameX.refl _ _, hF0⟩ (fun _ _ _ _ _ => trivial) ?_ ?_
  · rintro i z σ H2 hz ⟨y2, y3, y4, y5, y6, y7, y8, rfl, S1, hF⟩
    obtain ⟨hi', rfl⟩ := rngV_get hz
    have hi3 : i < 3 := hi'
    -- orders
    refine ⟨_, rfl, _, rfl, f, c, 8, _, rfl, by decide, by decide, hF, by omega, fun H3 r S2 hF3 r0 r1 => ?_⟩
    obtain ⟨n1, en1⟩ : ∃ n1 : Nat, (n1 : Int) = 1 + r := ⟨(1 + r).toNat, by omega⟩
    refine ⟨1, r, rfl, rfl, f, c, n1, _, (by rw [en1]; rfl), by omega, by omega, hF3, by omega, fun H4 S3 hF4 => ⟨_, rfl, iteF ?_⟩⟩
    -- how many lamps
    refine ⟨_, rfl, _, rfl, by show 2 ≤ sizeLine; decide, fun b hb => ?_⟩
    obtain ⟨S4, eb⟩ := newO (HO.lst [.int 4, .int 7]) hb
    have nb : b ≠ f := fun z => hF4.some (z ▸ hb)
    generalize hG5 : upd H4 b (HO.lst [.int 4, .int 7]) = H5 at S4 eb
    replace hF4 := hF4.same S4
    refine ⟨f, c, b, _, _, rfl, .of eb, nb, by show 0 < 2; decide, by show 2 < 1000000; decide, hF4, by omega, fun H6 v S5 hF6 hv => ?_⟩
    obtain ⟨m, rfl, hm0, hm7⟩ : ∃ m : Int, v = .int m ∧ 0 < m ∧ m ≤ 7 := by
      have h : v = .int 4 ∨ v = .int 7 := by simpa using hv
      rcases h with rfl | rfl
      · exact ⟨4, rfl, by decide, by decide⟩
      · exact ⟨7, rfl, by decide, by decide⟩
    refine ⟨f, c, m, _, rfl, hm0, by omega, hF6, by omega, fun H7 r' S6 hF7 r0' r1' => ⟨2, r', rfl, rfl, ?_⟩⟩
    obtain ⟨n, en⟩ : ∃ n : Nat, (n : Int) = 2 + r' := ⟨(2 + r').toNat, by omega⟩
    have hn2 : 2 ≤ n := by omega
    have hn8 : n ≤ 8 := by omega
    dsimp only
    rw [← en]
    -- gates
    refine ⟨_, rfl, _, rfl, f, c, n, _, rfl, hn2, hn8, hF7, by omega, fun H8 gA g S7 hF8 hg wf => ?_⟩
    refine ⟨_, rfl, _, rfl, f, c, n, _, rfl, hn2, hn8, hF8, by omega, fun H9 L gs S8 hF9 hL eL hGs hWs hgl => ⟨_, _, rfl, ?_⟩⟩
    have nL : L ≠ f := fun z => hF8.some (z ▸ hL)
    replace hg := hg.tups (hF8.tups (K := K) S8)
    -- one gate
    refine ⟨_, rfl, _, rfl, _, rfl, by show 1 ≤ sizeLine; decide, fun d1 hd1 => ?_⟩
    obtain ⟨S9, ed1⟩ := newO (HO.lst [.ref gA]) hd1
    have nd1 : d1 ≠ f := fun z => hF9.some (z ▸ hd1)
    generalize hG10 : upd H9 d1 (HO.lst [.ref gA]) = H10 at S9 ed1
    refine ⟨_, rfl, _, rfl, _, _, rfl, .inr ⟨n, some g, rfl, by omega, hn8, (hg.tups (Same.tups S9)).arg wf hn8, (fun e => by cases e), fun g' e => ?_⟩⟩
    obtain rfl := Option.some.inj e
    refine ⟨wf, fun H11 p1 ps1 S10 hw1 eg1 => ?_⟩
    have S910 := S9.trans S10
    refine ⟨f, c, d1, p1, n, _, [(gA, g)], ps1, rfl, by omega, hn8, .of (S10 _ _ ed1), nd1, gas_one (hg.tups (Same.tups S910)), (fun g' hg' => by rw [List.mem_singleton.mp hg']; exact wf), (by show 1 ≤ 9; decide), hw1, (by rw [eg1]; simp [gts]), hF9.same S910, by omega, fun H12 S11 hF12 => ⟨_, rfl, iteF ?_⟩⟩
    have X12 := (Same.x S910).trans S11
    replace hg := hg.tups (hF9.tups (K := K) X12)
    replace eL := X12 _ _ nL eL
    replace hGs := hGs.tups (hF9.tups (K := K) X12)
    -- told loosely
    refine ⟨_, rfl, _, rfl, _, rfl, by show 1 ≤ sizeLine; decide, fun d2 hd2 => ?_⟩
    obtain ⟨S12, ed2⟩ := newO (HO.lst [.ref gA]) hd2
    have nd2 : d2 ≠ f := fun z => hF12.some (z ▸ hd2)
    generalize hG13 : upd H12 d2 (HO.lst [.ref gA]) = H13 at S12 ed2
    replace hF12 := hF12.same S12
    replace hg := hg.tups (Same.tups S12)
    replace eL := S12 _ _ eL
    replace hGs := hGs.tups (Same.tups S12)
    refine ⟨_, rfl, _, rfl, f, c, gA, g, _, rfl, hg, Nat.le_trans wf.len hn8, hF12, by omega, fun H14 lv S13 hF14 hlo => ?_⟩
    replace hg := hg.tups (hF12.tups (K := K) S13)
    replace eL := S13 _ _ nL eL
    replace hGs := hGs.tups (hF12.tups (K := K) S13)
    replace ed2 := S13 _ _ nd2 ed2
    refine ⟨_, rfl, _, _, rfl, .inr ⟨n, some g, rfl, by omega, hn8, hlo.arg wf hn8, (fun e => by cases e), fun g' e => ?_⟩⟩
    obtain rfl := Option.some.inj e
    refine ⟨wf, fun H15 p2 ps2 S14 hw2 eg2 => ?_⟩
    replace hg := hg.tups (Same.tups S14)
    refine ⟨f, c, d2, p2, n, _, [(gA, g)], ps2, rfl, by omega, hn8, .of (S14 _ _ ed2), nd2, gas_one hg, (fun g' hg' => by rw [List.mem_singleton.mp hg']; exact wf), (by show 1 ≤ 9; decide), hw2, (by rw [eg2]; simp [gts]), hF14.same S14, by omega, fun H16 S15 hF16 => ⟨_, rfl, iteF ?_⟩⟩
    have X16 := (Same.x S14).trans S15
    replace hg := hg.tups ((hF14.same S14).tups (K := K) S15)
    replace eL := X16 _ _ nL eL
    replace hGs := hGs.tups (hF14.tups (K := K) X16)
    -- made
    have hgl2 : gs.length ≤ 2000000 := by omega
    refine ⟨_, rfl, _, rfl, n, L, gs, rfl, by omega, hn8, .of eL, hGs, hWs, hgl2, fun _ H17 mA pm S16 egm hwm => ?_, fun z => by omega⟩
    replace hg := hg.tups (Same.tups S16)
    replace eL := S16 _ _ eL
    replace hGs := hGs.tups (Same.tups S16)
    replace hF16 := hF16.same S16
    have hWm : WFs n (gts pm) := by rw [egm]; exact hWs
    have hpm : pm.length ≤ 9 := by rw [← gts_length, egm, gts_length]; exact hgl
    have hfl : ((gts pm).flatMap (nearG n)).length ≤ 1000 := by
      have := flat_le hn8 (gts pm)
      rw [gts_length] at this
      omega
    -- near of it
    refine ⟨_, rfl, _, rfl, _, rfl, _, rfl, _, rfl, .inr ⟨mA, n, pm, rfl, hwm, hWm, by omega, hn8, by omega, fun _ H18 p3 ps3 S17 hw3 eg3 => ?_, fun z => absurd z (by omega)⟩⟩
    rw [egm] at eg3
    have hF18 := hF16.same S17
    have eL18 := S17 _ _ eL
    have hGs18 := hGs.tups (Same.tups S17)
    refine ⟨f, c, L, p3, n, _, gs, ps3, rfl, by omega, hn8, .of eL18, nL, hGs18, hWs, hgl, hw3, eg3, hF18, by omega, fun H19 S18 hF19 => ⟨_, rfl, iteF ?_⟩⟩
    replace hwm := (hwm.same S17).x hF18 S18
    replace hg := (hg.tups (Same.tups S17)).tups (hF18.tups (K := K) S18)
    replace eL := S18 _ _ nL eL18
    replace hGs := hGs18.tups (hF18.tups (K := K) S18)
    have XA : SameX f H1 H19 := (((((((S1.trans S2).trans S3).trans (Same.x S4)).trans S5).trans S6).trans S7).trans S8).trans ((((X12.trans (Same.x S12)).trans S13).trans X16).trans (((Same.x S16).trans (Same.x S17)).trans S18))
    -- side by side
    refine ⟨Nat.zero_le _, fun R hR => ?_⟩
    obtain ⟨S19, eR⟩ := newO (HO.lst []) hR
    generalize hG20 : upd H19 R (HO.lst []) = H20 at S19 eR
    replace hF19 := hF19.same S19
    replace hwm := hwm.same S19
    replace hg := hg.tups (Same.tups S19)
    replace eL := S19 _ _ eL
    replace hGs := hGs.tups (Same.tups S19)
    have sL : SqL K H20 L (refs gs) := .of eL
    refine ⟨_, rfl, L, rfl, ⟨_, sL⟩, ?_⟩
    refine forW (walk_list K L (refs gs)) (fun j σ H' => ∃ (y8 : Option V) (R' : Addr) (qs : PG'), σ = [some (.ref a), some (.ref f), some (.int (0 + (i : Int))), some (.int n), some (.ref gA), some (.ref L), some (.ref mA), some (.ref R'), y8] ∧ Same H20 H' ∧ H' R' = some (.lst (refs qs)) ∧ GAs K H' qs ∧ gts qs = ((gts gs).take j).flatMap (nearG n))
      ⟨_, R, [], rfl, Same.refl _, eR, (fun _ h => by cases h), by simp [gts]⟩ (fun j σ H' _ ⟨_, _, _, _, S', _⟩ => S'.seq sL) ?_ ?_
    · rintro j z σ H21 hz ⟨y8', R', qs, rfl, S20, eR', hGq, eq⟩
      obtain ⟨pp, hp, rfl⟩ := refs_get hz
      have hwp := hWs pp.2 (List.mem_of_getElem? (gts_get hp))
      have hjl : j < gs.length := (List.getElem?_eq_some_iff.mp hp).1
      refine ⟨_, rfl, _, rfl, _, rfl, _, _, rfl, .inr ⟨n, some pp.2, rfl, by omega, hn8, ((hGs.tups (Same.tups S20)) pp (List.mem_of_getElem? hp)).arg hwp hn8, (fun e => by cases e), fun g' e => ?_⟩⟩
      obtain rfl := Option.some.inj e
      refine ⟨hwp, fun H22 p4 ps4 S21 hw4 eg4 => ?_⟩
      obtain ⟨dx4, t4, m4, k1, k2, k3⟩ := hw4
      refine ⟨p4, C, dx4, _, _, rfl, k1, W.cl, W.nG, rfl, t4, _, rfl, .inr k2, fun l4 hl4 => ?_⟩
      obtain ⟨S22, el4⟩ := newO (HO.lst (refs ps4)) hl4
      generalize hG23 : upd H22 l4 (HO.lst (refs ps4)) = H23 at S22 el4
      have hq1 : qs.length ≤ 57 * 9 := by
        rw [← gts_length, eq]
        refine Nat.le_trans (flat_le hn8 _) (Nat.mul_le_mul_left _ ?_)
        rw [List.length_take, gts_length]
        omega
      have hq2 : ps4.length ≤ 57 := by rw [← gts_length, eg4]; exact nearG_le hn8 _
      refine ⟨R', l4, _, _, rfl, rfl, (S21.trans S22) _ _ eR', el4, ?_, fun R2 hR2 => ⟨_, R2, qs ++ ps4, rfl, ((S20.trans S21).trans S22).trans (same_new hR2), ?_, ?_, ?_⟩⟩
      · rw [refs_length, refs_length]; exact Nat.le_of_lt (small_size (by omega))
      · rw [upd_same, refs_app]
      · exact gas_app (hGq.tups (Same.tups ((S21.trans S22).trans (same_new hR2)))) (k3.tups (Same.tups (S22.trans (same_new hR2))))
      · rw [gts_app, eq, eg4, take_snoc (gts_get hp), List.flatMap_append]
        simp
    · rintro σ H21 ⟨y8', R', qs, rfl, S20, eR', hGq, eq⟩
      rw [refs_length, ← gts_length gs, List.take_length] at eq
      replace hwm := hwm.same S20
      replace hg := hg.tups (Same.tups S20)
      replace eL := S20 _ _ eL
      replace hGs := hGs.tups (Same.tups S20)
      have hF21 := hF19.same S20
      have egmf : (gts pm).flatMap (nearG n) = (gts gs).flatMap (nearG n) := by rw [egm]
      -- repr of the near ones
      refine ⟨_, rfl, _, rfl, .inr ⟨mA, n, pm, rfl, hwm, hWm, by omega, hn8, by omega, fun _ H22 p5 ps5 S21 hw5 eg5 => ?_, fun z => absurd z (by omega)⟩⟩
      obtain ⟨dx5, t5, m5, j1, j2, j3⟩ := hw5
      refine ⟨p5, C, dx5, _, _, rfl, j1, W.cl, W.nG, rfl, ?_⟩
      refine ⟨_, rfl, _, rfl, .inr ⟨mA, n, pm, rfl, hwm.same S21, hWm, by omega, hn8, by omega, fun _ H23 p6 ps6 S22 hw6 eg6 => ?_, fun z => absurd z (by omega)⟩⟩
      obtain ⟨dx6, t6, m6, i1, i2, i3⟩ := hw6
      refine ⟨p6, C, dx6, _, _, rfl, i1, W.cl, W.nG, rfl, by show 2 ≤ sizeLine; decide, fun l7 hl7 => ?_⟩
      obtain ⟨S23, el7⟩ := newO (HO.lst [.ref t5, .ref t6]) hl7
      generalize hG24 : upd H23 l7 (HO.lst [.ref t5, .ref t6]) = H24 at S23 el7
      have hWf : ∀ g' ∈ (gts gs).flatMap (nearG n), WF n g' := fun g' hg' => by
        obtain ⟨g0, h0, hg'⟩ := List.mem_flatMap.mp hg'
        exact wf_nearG (hWs g0 h0) hg'
      rw [egmf] at eg5 eg6
      rw [egmf] at hfl
      obtain ⟨o1, o2, o3, o4⟩ := two_ok hWf hn8 hfl
      have T5 := Same.tups (K := K) (S22.trans S23)
      have T6 := Same.tups (K := K) S23
      have D5 : Dp K H24 (.ref t5) (.tuple (((gts gs).flatMap (nearG n)).map gD)) := by rw [← eg5]; exact .tup (T5 _ _ j2) ((j3.tups T5).dp)
      have D6 : Dp K H24 (.ref t6) (.tuple (((gts gs).flatMap (nearG n)).map gD)) := by rw [← eg6]; exact .tup (T6 _ _ i2) ((i3.tups T6).dp)
      refine ⟨l7, twoD ((gts gs).flatMap (nearG n)), rfl, .lst (.of el7) (.cons D5 (.cons D6 .nil)), o1, o2, o3, o4, ?_⟩
      have S2124 := (S21.trans S22).trans S23
      have eR24 := S2124 _ _ eR'
      refine ⟨_, rfl, R', _, rfl, .inl ⟨.of eR24, fun u hu => ?_⟩⟩
      obtain ⟨S24, eu⟩ := newO (HO.tup (refs qs)) hu
      generalize hG25 : upd H24 u (HO.tup (refs qs)) = H25 at S24 eu
      refine ⟨by show 1 ≤ sizeLine; decide, fun l8 hl8 => ?_⟩
      obtain ⟨S25, el8⟩ := newO (HO.lst [.ref u]) hl8
      generalize hG26 : upd H25 l8 (HO.lst [.ref u]) = H26 at S25 el8
      refine ⟨l8, 2, _, rfl, rfl, el8, by decide, by decide, by show 1 * 2 ≤ sizeLine; decide, fun l9 hl9 => ?_⟩
      obtain ⟨S26, el9⟩ := newO (HO.lst (List.replicate (2 : Int).toNat [V.ref u]).flatten) hl9
      generalize hG27 : upd H26 l9 (HO.lst (List.replicate (2 : Int).toNat [V.ref u]).flatten) = H27 at S26 el9
      have S2127 := ((S2124.trans S24).trans S25).trans S26
      have Du : Dp K H27 (.ref u) (.tuple (((gts gs).flatMap (nearG n)).map gD)) := by
        rw [← eq]
        exact .tup (.inl (.inl ((S25.trans S26) _ _ eu))) ((hGq.tups (Same.tups S2127)).dp)
      refine ⟨l9, twoD ((gts gs).flatMap (nearG n)), rfl, .lst (.of el9) (.cons Du (.cons Du .nil)), o1, o2, o3, o4, rfl, _, rfl, ?_⟩
      have nes : ∀ x : Str, (!decide (V.str x = V.str x)) = false := fun x => by simp
      rw [nes]
      refine iteF ?_
      -- repr of which are near
      replace hwm := hwm.same S2127
      replace hg := hg.tups (Same.tups S2127)
      replace eL := S2127 _ _ eL
      replace hGs := hGs.tups (Same.tups S2127)
      have gin : ∀ g' ∈ gts gs, g'.1.length ≤ 8 ∧ ∀ x ∈ touched g', 0 ≤ x ∧ x < 100 := fun g' hg' => ⟨Nat.le_trans (hWs g' hg').len hn8, fun x hx => by have := (hWs g' hg').inn x hx; omega⟩
      have gin1 : ∀ g' ∈ gts pm, g'.1.length ≤ 1000 := fun g' hg' => Nat.le_trans (hWm g' hg').len (by omega)
      refine ⟨_, rfl, .ref mA, rfl, .inr ⟨mA, n, pm, rfl, hwm, gin1, by omega, fun H28 S27 => ?_⟩⟩
      refine ⟨_, rfl, .ref mA, rfl, .inr ⟨mA, n, pm, rfl, hwm.same S27, gin1, by omega, fun H29 S28 => ?_⟩⟩
      refine ⟨by show 2 ≤ sizeLine; decide, fun l10 hl10 => ?_⟩
      rw [nearB_all hWm, egm]
      generalize hbb : ((gts gs).all fun g => decide (NearP g)) = bb
      obtain ⟨S29, el10⟩ := newO (HO.lst [.bl bb, .bl bb]) hl10
      generalize hG30 : upd H29 l10 (HO.lst [.bl bb, .bl bb]) = H30 at S29 el10
      obtain ⟨w1, w2, w3, w4⟩ := twoB_ok bb
      refine ⟨l10, .list [.bool bb, .bool bb], rfl, .lst (.of el10) (.cons (.bl _) (.cons (.bl _) .nil)), w1, w2, w3, w4, ?_⟩
      have S2730 := (S27.trans S28).trans S29
      refine ⟨_, rfl, L, gs, rfl, .inl (.of (S2730 _ _ eL)), hGs.tups (Same.tups S2730), gin, fun H31 S30 => ?_⟩
      rw [hbb]
      refine ⟨by show 1 ≤ sizeLine; decide, fun l11 hl11 => ?_⟩
      obtain ⟨S31, el11⟩ := newO (HO.lst [.bl bb]) hl11
      generalize hG32 : upd H31 l11 (HO.lst [.bl bb]) = H32 at S31 el11
      refine ⟨l11, 2, _, rfl, rfl, el11, by decide, by decide, by show 1 * 2 ≤ sizeLine; decide, fun l12 hl12 => ?_⟩
      obtain ⟨S32, el12⟩ := newO (HO.lst (List.replicate (2 : Int).toNat [V.bl bb]).flatten) hl12
      generalize hG33 : upd H32 l12 (HO.lst (List.replicate (2 : Int).toNat [V.bl bb]).flatten) = H33 at S32 el12
      refine ⟨l12, .list [.bool bb, .bool bb], rfl, .lst (.of el12) (.cons (.bl _) (.cons (.bl _) .nil)), w1, w2, w3, w4, rfl, _, rfl, ?_⟩
      rw [nes]
      refine iteF ?_
      have S2733 := ((S2730.trans S30).trans S31).trans S32
      replace hg := hg.tups (Same.tups S2733)
      -- no more than sixty
      refine ⟨_, rfl, _, rfl, _, _, rfl, .inr ⟨n, some g, rfl, by omega, hn8, hg.arg wf hn8, (fun e => by cases e), fun g' e => ?_⟩⟩
      obtain rfl := Option.some.inj e
      refine ⟨wf, fun H34 p7 ps7 S33 hw7 eg7 => ?_⟩
      obtain ⟨dx7, t7, m7, z1, z2, z3⟩ := hw7
      refine ⟨p7, C, dx7, _, _, rfl, z1, W.cl, W.nG, rfl, t7, _, rfl, .inr z2, _, _, rfl, rfl, _, rfl, ?_⟩
      have hln : ps7.length ≤ 57 := by rw [← gts_length, eg7]; exact nearG_le hn8 g
      have : decide ((60 : Int) < ((refs ps7).length : Int)) = false := decide_eq_false (by rw [refs_length]; omega)
      rw [this]
      have SE := (S20.trans S2127).trans (S2733.trans S33)
      refine iteF ⟨_, _, _, _, _, _, _, rfl, XA.trans (Same.x (S19.trans SE)), (hF19.same SE).le (by omega)⟩
  · rintro σ H2 ⟨y2, y3, y4, y5, y6, y7, y8, rfl, S1, hF⟩
    rw [rngV_length] at hF
    have hF6 : FerAt H2 f c 600 := hF.le (by decide)
    obtain ⟨xf, ef⟩ := hF0.lst
    have hTab2 := tabs_x ef S1 hTab1
    refine ⟨_, rfl, f, c, 20, 600, rfl, by decide, by decide, hF6, by decide, fun H3 r S2 hF3 r0 r1 => ⟨rfl, _, rfl, ?_⟩⟩
    obtain ⟨xf2, ef2⟩ := hF6.lst
    have hTab3 := tabs_x ef2 S2 hTab2
    refine ite2 (fun _ => ?_) (fun _ => iteF (rT3 H3 f c _ _ _ _ _ _ _ _ hF3 (by decide) hTab3))
    refine ⟨hTab3, fun H4 e4 tb4 E4 QQ he => ?_⟩
    refine ⟨by show 1 ≤ sizeLine; decide, fun t1 ht1 => ?_⟩
    obtain ⟨S3, et1⟩ := newO (HO.tup [.int 3]) ht1
    generalize hG5 : upd H4 t1 (HO.tup [.int 3]) = H5 at S3 et1
    refine ⟨by show 3 ≤ sizeLine; decide, fun t2 ht2 => ?_⟩
    obtain ⟨S4, et2⟩ := newO (HO.tup [.ref t1, .int 0, .int 1]) ht2
    generalize hG6 : upd H5 t2 (HO.tup [.ref t1, .int 0, .int 1]) = H6 at S4 et2
    refine ⟨by show 1 ≤ sizeLine; decide, fun l1 hl1 => ?_⟩
    obtain ⟨S5, el1⟩ := newO (HO.lst [.ref t2]) hl1
    generalize hG7 : upd H6 l1 (HO.lst [.ref t2]) = H7 at S5 el1
    refine ⟨l1, 6700, _, rfl, rfl, el1, by decide, by decide, by show 1 * 6700 ≤ sizeLine; decide, fun l2 hl2 => ?_⟩
    obtain ⟨S6, el2⟩ := newO (HO.lst (List.replicate (6700 : Int).toNat [V.ref t2]).flatten) hl2
    generalize hG8 : upd H7 l2 (HO.lst (List.replicate (6700 : Int).toNat [V.ref t2]).flatten) = H8 at S6 el2
    rw [rep_refs] at el2
    have eK : (6700 : Int).toNat = 6700 := rfl
    rw [eK] at el2
    have hga : GA K H8 t2 gMany := ⟨t1, .inl (.inl ((S5.trans S6) _ _ et2)), .inl (.inl (((S4.trans S5).trans S6) _ _ et1))⟩
    have hwf : WFs 4 (gts (List.replicate 6700 (t2, gMany))) := fun g hg => by
      rw [gts_rep] at hg
      rw [List.eq_of_mem_replicate hg]
      exact wf_many
    have hlen : (List.replicate 6700 (t2, gMany)).length = 6700 := List.length_replicate
    have S48 := (S3.trans S4).trans (S5.trans S6)
    refine ⟨4, l2, List.replicate 6700 (t2, gMany), rfl, by decide, by decide, .of el2, gas_rep 6700 hga, hwf, by rw [hlen]; decide, fun _ H9 wA pw S7 egw hww => ?_, fun z => absurd (hlen ▸ z) (by decide)⟩
    have hpw : pw.length = 6700 := by rw [← gts_length, egw, gts_length, hlen]
    have htot : 20000 < ((gts pw).flatMap (nearG 4)).length := by
      rw [egw, gts_rep, flat_rep, many_len]
      decide
    refine ⟨_, rfl, .inr ⟨wA, 4, pw, rfl, hww, by rw [egw]; exact hwf, by decide, by decide, by rw [hpw]; decide, fun z => absurd z (Nat.not_le.mpr htot), fun _ => said_many ET he fun H10 p S8 hp => ?_⟩⟩
    have SA := (S48.trans S7).trans S8
    have hF10 := extN_fer (e4.trans (ExtN.of SA)) hF3
    have tb10 := tb4.ext SA
    refine ⟨by show 3 ≤ sizeLine; decide, fun u hu => ?_⟩
    obtain ⟨S9, eu⟩ := newO (HO.tup [.str "many", .str "gates", .int 20000]) hu
    generalize hG11 : upd H10 u (HO.tup [.str "many", .str "gates", .int 20000]) = H11 at S9 eu
    have sh : SeqAt.shaped (.tuple [.str "many", .str "gates", .int 20000]) = true := by decide +kernel
    refine ⟨.tuple [.str "many", .str "gates", .int 20000], .tuple [.str "many", .str "gates", .int 20000], .tup (sqt_same S9 hp) (.cons (.str _) (.cons (.str _) (.cons (.int _) .nil))), .tup (.inl (.inl eu)) (.cons (.str _) (.cons (.str _) (.cons (.int _) .nil))), sh, sh, _, rfl, ?_⟩
    rw [SeqAt.eqv_refl _ (Bool.and_eq_true_iff.mp sh).1]
    exact iteF (rT3 H11 f c _ _ _ _ _ _ _ _ (hF10.same S9) (by decide) (tb10.ext S9))
end
end K26
end K26W18

section K26End1
set_option Elab.async false
set_option linter.all false
set_option maxRecDepth 100000
set_option maxHeartbeats 4000000
/-! K26End1: the law's def run from the caller's own state (so that repr may be asked): the script is frozen, the tables of code objects are tracked. The shape is that of the library's law_callTs; here the run itself is asked at the caller, no promise for all callers. -/
namespace K26
open PySem PySem.Spec PyProof.Rows L2 LamX
open Classical in
/-- what is tracked at the law's start -/
noncomputable def startH (K : PySem.W.Frag) (ts : List Addr) (a : Addr) (u : HO) : Hp := fun b => if b ∈ ts then some (.tbl #[]) else if b = a ∧ K.lookup a = none then some u else none
section
variable {K : PySem.W.Frag} {ts : List Addr} {a b : Addr} {u : HO}
theorem startH_t (h : b ∈ ts) : startH K ts a u b = some (.tbl #[]) := if_pos h
theorem startH_a (h : a ∉ ts) (hk : K.lookup a = none) : startH K ts a u a = some u := (if_neg h).trans (if_pos ⟨rfl, hk⟩)
theorem startH_cases {o : HO} (h : startH K ts a u b = some o) : (b ∈ ts ∧ o = .tbl #[]) ∨ (b ∉ ts ∧ b = a ∧ K.lookup a = none ∧ o = u) := by
  unfold startH at h
  by_cases h1 : b ∈ ts
  · rw [if_pos h1] at h
    exact .inl ⟨h1, (Option.some.inj h).symm⟩
  · rw [if_neg h1] at h
    by_cases h2 : b = a ∧ K.lookup a = none
    · rw [if_pos h2] at h
      exact .inr ⟨h1, h2.1, h2.2, (Option.some.inj h).symm⟩
    · rw [if_neg h2] at h
      cases h
end
theorem law_run {P : Program} {w : World} {K : PySem.W.Frag} {mg mb : Str → Option Value} {fa a : Addr} {cs : List (Addr × Addr)} {s₁ : Shared} {vs : List Value} {ns : List Int}
    (KX : K.In s₁.heap) (hns : s₁.heap.Ns mainGlobals mg) (hb : s₁.heap.Ns builtinsNs mb) (hbb : ∀ x : Str, x ≠ "__name__" → mb x = bootBuiltins x) (hlim : s₁.heap.NoLimit) (hg : s₁.gens = #[])
    (hT : ∀ p ∈ cs, s₁.heap.get? p.2 = some { cls := .none, data := .fields #[] }) (nT : ∀ p ∈ cs, K.lookup p.2 = none) (C : ∀ p ∈ cs, PySem.W.CodeHd s₁.heap p.1 p.2)
    (hbm : ∃ (bm : Addr) (ob : Obj), mg "__builtins__" = some (.ref bm) ∧ bm ≠ builtinsNs ∧ s₁.heap.get? bm = some ob ∧ ob.cls = .type "module" ∧ ob.dict = some builtinsNs ∧ ob.data = .plain)
    (ha : s₁.heap.get? a = some { cls := .type "list", data := .seq vs.toArray }) (hi : IntsAre vs ns) (hl : ns.length ≤ sizeLine)
    (R : ∀ (base : Heap) (H : Hp), Env0 P w K mg base callerA [] s₁ H → (∀ p ∈ cs, TabB base mg p.1 p.2) → (∀ p ∈ cs, H p.2 = some (.tbl #[])) → SqL K H a (ns.map V.int) →
      codeAny (model P w) callerA (.call (.ref fa) ⟨[.ref a], []⟩) (CR CX0 [] P w H s₁ (fun v _ => v = .bl true) E0) s₁) :
    codeAny (model P w) callerA (.call (.ref fa) ⟨[.ref a], []⟩) (fun r s' => r = .ok (.ret (.bool true)) ∧ OldK s₁.heap s'.heap ∧ s'.os = s₁.os ∧ AllBare s'.gens) s₁ := by
  have rv := vals_ints hi
  have lenV := hi.length
  have mem : ∀ p ∈ cs, p.2 ∈ cs.map (·.2) := fun p hp => List.mem_map.mpr ⟨p, hp, rfl⟩
  have isT : ∀ b ∈ cs.map (·.2), s₁.heap.get? b = some { cls := .none, data := .fields #[] } := fun b h => by
    obtain ⟨p, hp, e⟩ := List.mem_map.mp h
    exact e ▸ hT p hp
  have aT : a ∉ cs.map (·.2) := fun z => by
    have e := (isT a z).symm.trans ha
    have e2 : Data.fields #[] = Data.seq vs.toArray _ := congrArg Obj.data (Option.some.inj e)
    cases e2
  -- the frozen script
  generalize hu : (HO.frz { cls := .type "list", data := .seq vs.toArray } (.lst (ns.map V.int))) = u
  have hH : ∀ p ∈ cs, startH K (cs.map (·.2)) a u p.2 = some (.tbl #[]) := fun p hp => startH_t (mem p hp)
  have hS : SqL K (startH K (cs.map (·.2)) a u) a (ns.map V.int) := by
    cases hk : K.lookup a with
    | none => exact .inl (.inr ⟨_, (startH_a aT hk).trans (congrArg some hu.symm)⟩)
    | some o =>
      have e := (KX a o hk).symm.trans ha
      cases e
      exact .inr ⟨_, vs.toArray, _, hk, rfl, rfl, rfl, by rw [List.size_toArray, lenV]; exact hl, by simpa using rv⟩
  have hok : HOk P w (startH K (cs.map (·.2)) a u) s₁.heap := fun b o e => by
    rcases startH_cases e with ⟨h1, rfl⟩ | ⟨h1, rfl, hk, rfl⟩
    · exact isT b h1
    · rw [← hu]
      exact ⟨ha, by rw [List.length_map]; exact hl, vs, _, rv, ha⟩
  -- what is neither the script nor a table is not tracked
  have free : ∀ {b : Addr} {o : Obj}, s₁.heap.get? b = some o → (∀ xs n, o.data ≠ .seq xs n) → o.data ≠ .fields #[] → startH K (cs.map (·.2)) a u b = none := fun {b o} e h1 h2 => by
    cases q : startH K (cs.map (·.2)) a u b with
    | none => rfl
    | some x =>
      rcases startH_cases q with ⟨h, _⟩ | ⟨_, h, _, _⟩
      · rw [isT b h] at e
        cases e
        exact (h2 rfl).elim
      · rw [h, ha] at e
        cases e
        exact (h1 _ _ rfl).elim
  have keepK : ∀ {b : Addr} {o : Obj}, K.lookup b = some o → startH K (cs.map (·.2)) a u b = none := fun {b o} e => by
    cases q : startH K (cs.map (·.2)) a u b with
    | none => rfl
    | some x =>
      rcases startH_cases q with ⟨h, _⟩ | ⟨_, h, hk, _⟩
      · obtain ⟨p, hp, ep⟩ := List.mem_map.mp h
        rw [← ep, nT p hp] at e
        cases e
      · rw [h, hk] at e
        cases e
  have ns_of : ∀ {b : Addr} {m : Str → Option Value}, s₁.heap.Ns b m → (hidT s₁.heap (startH K (cs.map (·.2)) a u)).Ns b m := fun {b m} ⟨o, es, ep, e, d, r⟩ =>
    ⟨o, es, ep, hidT_get e (free e (fun xs n z => by rw [d] at z; cases z) (fun z => by rw [d] at z; cases z)), d, r⟩
  have hM : L2.Mod K mg (hidT s₁.heap (startH K (cs.map (·.2)) a u)) := ⟨fun b o e => hidT_get (KX b o e) (keepK e), ns_of hns, ⟨mb, ns_of hb, hbb⟩, let ⟨mc, h1, h2⟩ := hlim; ⟨mc, ns_of h1, h2⟩⟩
  have TB : ∀ p ∈ cs, TabB (hidT s₁.heap (startH K (cs.map (·.2)) a u)) mg p.1 p.2 := fun p hp => by
    have gNe : ∀ {b : Addr} {o : Obj}, s₁.heap.get? b = some o → (∀ es ep, o.data ≠ .dict es ep) → b ≠ mainGlobals := fun {b o} e h z => by
      obtain ⟨o', es, ep, e', hd, _⟩ := hns
      rw [z, e'] at e
      cases e
      exact h _ _ hd
    refine ⟨?_, ?_, (gNe (hT p hp) fun es ep z => by cases z).symm⟩
    · obtain ⟨o, us, file, tf, flags, tg, inF, text, tt, e1, r1, r2, r3, r4, r5, r6, r7, r8, hne⟩ := C p hp
      exact ⟨o, us, file, tf, flags, tg, inF, text, tt, hidT_get e1 (free e1 (fun xs n z => by rw [r2] at z; cases z) fun z => by rw [r2] at z; cases z; simp at r3), r1, r2, r3, r4, r5, r6, r7, r8, hne⟩
    · obtain ⟨bm, ob, b1, b2, b3, b4, b5, b6⟩ := hbm
      refine ⟨bm, ob, b1, b2, gNe b3 fun es ep z => (by rw [b6] at z; cases z), fun z => ?_, hidT_get b3 (free b3 (fun xs n z => by rw [b6] at z; cases z) fun z => by rw [b6] at z; cases z), b4, b5, b6⟩
      rw [z, hT p hp] at b3
      cases b3
      cases b6
  have e0 : Env0 P w K mg (hidT s₁.heap (startH K (cs.map (·.2)) a u)) callerA [] s₁ (startH K (cs.map (·.2)) a u) := ⟨rfl, hM, fun b o e => of_hidT e, Nat.le_of_eq (hidT_size _ _), trivial, fun b z => absurd (show b ∈ ([] : List Addr) from z) (by simp), hok, .of_eq hg⟩
  refine codeAny_mono (R _ _ e0 TB hH hS) fun r s' h => ?_
  match r, h with
  | .error e, h => exact h.elim
  | .ok .next, h => exact False.elim h
  | .ok .brk, h => exact False.elim h
  | .ok .cont, h => exact False.elim h
  | .ok (.ret v'), h =>
    obtain ⟨v, H', os, bare, un, hok', r', q⟩ := h
    have q' : v = .bl true := q
    subst q'
    obtain rfl : v' = Value.bool true := r'
    have old : ∀ b o, b ∉ cs.map (·.2) → s₁.heap.get? b = some o → s'.heap.get? b = some o := fun b o nb e => by
      cases q : startH K (cs.map (·.2)) a u b with
      | none => exact un.keep b o e q (fun z => absurd (show b ∈ ([] : List Addr) from z) (by simp)) (by simp)
      | some x =>
        rcases startH_cases q with ⟨h, _⟩ | ⟨_, h, hk, ex⟩
        · exact absurd h nb
        · have z2 := un.frzs b _ _ (q.trans (congrArg some (ex.trans hu.symm)))
          obtain ⟨e1, _⟩ := hok' b _ z2
          rw [h, ha] at e
          cases e
          rw [h] at e1 ⊢
          exact e1
    have grown : ∀ p ∈ cs, ∃ more : Array Value, s'.heap.get? p.2 = some { cls := .none, data := .fields more } := fun p hp => by
      obtain ⟨more, z⟩ := un.tbls p.2 #[] (hH p hp)
      exact ⟨_, hok' p.2 _ z⟩
    refine ⟨rfl, ⟨fun b o e => ?_, fun b o e => ?_⟩, os, bare⟩
    · by_cases hbt : b ∈ cs.map (·.2)
      · obtain ⟨p, hp, ep⟩ := List.mem_map.mp hbt
        obtain ⟨more, hm⟩ := grown p hp
        rw [← ep] at e ⊢
        rw [hT p hp] at e
        cases e
        exact .inr (.inl ⟨((C p hp).tab (hT p hp)).isCodeTable, rfl, #[], more, rfl, by rw [Array.empty_append]; exact hm⟩)
      · exact .inl (old b o hbt e)
    · by_cases hbt : b ∈ cs.map (·.2)
      · obtain ⟨p, hp, ep⟩ := List.mem_map.mp hbt
        obtain ⟨more, hm⟩ := grown p hp
        exact ⟨_, ep ▸ hm⟩
      · exact ⟨o, old b o hbt e⟩
end K26
end K26End1

section K26End2
set_option Elab.async false
set_option linter.all false
set_option maxRecDepth 100000
set_option maxHeartbeats 4000000
/-! K26End2: what the top has left, fact by fact. -/
namespace K26
open PySem PySem.Spec PyProof.Rows L2 LamX K26L K26E
/-- a def of the module by its name -/
def FA (K : PySem.W.Frag) (mg : Str → Option Value) (x : Str) (st : Stmt) : Prop := ∃ f fd, Fun K x x st f fd ∧ mg x = some (.ref f)
theorem fun_at {K : PySem.W.Frag} {h : Heap} {mg : Str → Option Value} {x : Str} {st : Stmt} {f : Addr} {oc : Value} {od an : Option Addr} {osl : Array (Option Value)} {kV doc pm cdv ct : Value} (X : K.In h) (G : h.Ns mainGlobals mg)
    (a : PySem.W.nsIn K mainGlobals x = some (some (.ref f))) (l : K.lookup f = some ⟨oc, od, .func (PySem.W.fnOf x x (defArgs st) (defBody st) (defScope st) .none kV doc pm an cdv ct), osl⟩)
    (c : PySem.W.codeIn K cdv x = true) (k : PySem.W.keepIn K (.ref f) = true) : FA K mg x st := ⟨f, _, fun_mk l c k, PySem.W.mg_of X G a⟩
/-! ### how defs are had -/
section
variable {P : Program} {w : World} {K : PySem.W.Frag} {mg : Str → Option Value} {base : Heap}
theorem has_of {CX : CXT} {k : Nat} {x : Str} {st : Stmt} {ps : List Str} {sp : Sp} (F : FA K mg x st) (ok : ∀ f fd, Fun K x x st f fd → FnOk P w K mg base CX k f fd ps sp)
    (h : ∀ (kV doc pm : Value) (an : Option Addr) (cdv ct : Value) (us : List Value), us.length = ps.length → bindArgs (PySem.W.fnOf x x (defArgs st) (defBody st) (defScope st) .none kV doc pm an cdv ct) ⟨us, []⟩ = pure (ps.zip us)) : Has P w K mg base CX k x ps [] sp := by
  obtain ⟨f, fd, F, hm⟩ := F
  exact ⟨f, fd, [], ok f fd F, hm, F.kp, F.binds h, .nil⟩
theorem hask_of {CX : CXT} {k : Nat} {x : Str} {st : Stmt} {ps ks : List Str} {sp : Sp} {g : {α : Type} → List α → List α → List α} (F : FA K mg x st) (ok : ∀ f fd, Fun K x x st f fd → FnOk P w K mg base CX k f fd ps sp)
    (h : ∀ (kV doc pm : Value) (an : Option Addr) (cdv ct : Value) (us ws : List Value), (g us ws).length = ps.length → bindArgs (PySem.W.fnOf x x (defArgs st) (defBody st) (defScope st) .none kV doc pm an cdv ct) ⟨us, ks.zip ws⟩ = pure (ps.zip (g us ws)))
    (hr : ∀ {vs : List V} {us : List Value} {zs : List V} {ws : List Value}, Vals vs us → Vals zs ws → Vals (g vs zs) (g us ws)) : HasK P w K mg base CX k x ps ks g sp := by
  obtain ⟨f, fd, F, hm⟩ := F
  have F' := F
  obtain ⟨oc, od, kV, doc, pm, an, cdv, ct, osl, rfl, lk, hcd⟩ := F'.ex
  exact ⟨f, _, g, ok f _ F, hm, F.kp, ⟨fun s us ws _ hl => .of_eq (h kV doc pm an cdv ct us ws hl), hr⟩⟩
theorem gSw_rel {vs : List V} {us : List Value} {zs : List V} {ws : List Value} (r : Vals vs us) (q : Vals zs ws) : Vals (gSw vs zs) (gSw us ws) := by
  cases r with
  | cons _ _ => exact .nil
  | nil =>
    cases q with
    | nil => exact .nil
    | cons a q =>
      cases q with
      | nil => exact .nil
      | cons b q =>
        cases q with
        | nil => exact .cons b (.cons a .nil)
        | cons _ _ => exact .nil
theorem gI_rel {vs : List V} {us : List Value} {zs : List V} {ws : List Value} (r : Vals vs us) (q : Vals zs ws) : Vals (gI vs zs) (gI us ws) := by
  cases r with
  | cons _ _ => exact .nil
  | nil =>
    cases q with
    | nil => exact .nil
    | cons a q =>
      cases q with
      | nil => exact .cons a .nil
      | cons _ _ => exact .nil
/-- an own error with one field, part -/
theorem er1 {x qual txt : Str} {C fI cda cc : Addr} {params : Arguments} {body : List Stmt} {scope : Scope} {j : Nat} {p0 p1 p2 p3 p4 p5 q1 q2 q3 q4 : Pos} (gC : mg x = some (.ref C)) (is : ErrIs K C) (T : ErrTxt P K C fI cda cc qual params body scope) (S : ErrSc params scope)
    (hb : body = [.Expr (supE txt j p0 p1 p2 p3 p4) p5, .Assign [.Attribute (.Name "self" q1) "part" q2] (.Name "part" q3) q4]) (hno : PySem.W.findIn K (.ref C) "part" = some none) (ha : scope.names.lookup ("part" : Str) = some .local)
    (hbind : ∀ (doc pm : Value) (an : Option Addr) (ct v u : Value), bindArgs (PySem.W.ksFn "__init__" qual params body scope .none .none doc pm an (.ref cda) ct cc) ⟨[u, v], []⟩ = pure ([(("self" : Str), u), ("part", v)] : List (Str × Value)))
    (tr : SupTree txt j p0 p1 p2 p3 p4 p5 fun L => PySem.W.ksEnv qual scope L fI (.ref cda) cc)
    (hsw : ∀ L : Addr, swapsWith (.Name "part" q3) (some (.Attribute (.Name "self" q1) "part" q2)) q4.line (PySem.W.ksEnv qual scope L fI (.ref cda) cc) = pure false) (hsup : mg "super" = none) : Er P w K mg x C 1 f1 :=
  ⟨gC, T.kC, is, T.tyC, fun X h1 h2 h3 h4 hr => by
    subst h1 h3 h4
    exact makes1 (f := "part") (a := "part") T S hb hno ha (by decide) hbind tr hsw (by decide) hsup (by have := hr.dp; omega)⟩
theorem er2 {x qual txt : Str} {C fI cda cc : Addr} {params : Arguments} {body : List Stmt} {scope : Scope} {j kt k2 : Nat} {p0 p1 p2 p3 p4 p5 q1 q2 q3 q4 q5 q6 q7 q8 q9 : Pos} (gC : mg x = some (.ref C)) (is : ErrIs K C) (T : ErrTxt P K C fI cda cc qual params body scope) (S : ErrSc params scope)
    (hb : body = [.Expr (supE txt j p0 p1 p2 p3 p4) p5, .Assign [.Tuple [.Attribute (.Name "self" q1) "what" q2, .Attribute (.Name "self" q3) "most" q4] kt q5] (.Tuple [.Name "what" q6, .Name "most" q7] k2 q8) q9])
    (hno1 : PySem.W.findIn K (.ref C) "what" = some none) (hno2 : PySem.W.findIn K (.ref C) "most" = some none) (ha1 : scope.names.lookup ("what" : Str) = some .local) (ha2 : scope.names.lookup ("most" : Str) = some .local)
    (hbind : ∀ (doc pm : Value) (an : Option Addr) (ct v v2 u : Value), bindArgs (PySem.W.ksFn "__init__" qual params body scope .none .none doc pm an (.ref cda) ct cc) ⟨[u, v, v2], []⟩ = pure ([(("self" : Str), u), ("what", v), ("most", v2)] : List (Str × Value)))
    (tr : SupTree txt j p0 p1 p2 p3 p4 p5 fun L => PySem.W.ksEnv qual scope L fI (.ref cda) cc)
    (hsw : ∀ L : Addr, swapsWithSole [.Tuple [.Attribute (.Name "self" q1) "what" q2, .Attribute (.Name "self" q3) "most" q4] kt q5] (.Tuple [.Name "what" q6, .Name "most" q7] k2 q8) q9.line (PySem.W.ksEnv qual scope L fI (.ref cda) cc) = pure false)
    (hst : ∀ L : Addr, swappedStores [.Tuple [.Attribute (.Name "self" q1) "what" q2, .Attribute (.Name "self" q3) "most" q4] kt q5] (.Tuple [.Name "what" q6, .Name "most" q7] k2 q8) (PySem.W.ksEnv qual scope L fI (.ref cda) cc) = pure none) (hsup : mg "super" = none) : Er P w K mg x C 2 f2 :=
  ⟨gC, T.kC, is, T.tyC, fun X h1 h2 h3 h4 hr => by
    subst h1 h3 h4
    exact makes2 (f1 := "what") (f2 := "most") (a1 := "what") (a2 := "most") T S hb hno1 hno2 ha1 ha2 (by decide) (by decide) (by decide) (by decide) hbind tr hsw hst (by decide) (by decide) hsup (by have := hr.dp; omega) hr.hd⟩
theorem erNumber {C fI cda cc : Addr} (gC : mg "BadNumber" = some (.ref C)) (is : ErrIs K C) (T : ErrTxt P K C fI cda cc "BadNumber.__init__" (defArgs (inClass (topS 3) 0)) (defBody (inClass (topS 3) 0)) (defScope (inClass (topS 3) 0))) (hno : PySem.W.findIn K (.ref C) "part" = some none) (hsup : mg "super" = none) : Er P w K mg "BadNumber" C 1 f1 :=
  er1 gC is T ⟨rfl, rfl, rfl, ⟨_, rfl, rfl⟩, by decide +kernel, rfl, rfl, rfl⟩ rfl hno rfl (fun _ _ _ _ _ _ => rfl) ⟨fun L => ⟨_, rfl⟩, fun L => rfl⟩ (fun L => rfl) hsup
theorem erWiring {C fI cda cc : Addr} (gC : mg "BadWiring" = some (.ref C)) (is : ErrIs K C) (T : ErrTxt P K C fI cda cc "BadWiring.__init__" (defArgs (inClass (topS 6) 0)) (defBody (inClass (topS 6) 0)) (defScope (inClass (topS 6) 0))) (hno : PySem.W.findIn K (.ref C) "part" = some none) (hsup : mg "super" = none) : Er P w K mg "BadWiring" C 1 f1 :=
  er1 gC is T ⟨rfl, rfl, rfl, ⟨_, rfl, rfl⟩, by decide +kernel, rfl, rfl, rfl⟩ rfl hno rfl (fun _ _ _ _ _ _ => rfl) ⟨fun L => ⟨_, rfl⟩, fun L => rfl⟩ (fun L => rfl) hsup
theorem erOrder {C fI cda cc : Addr} (gC : mg "BadOrder" = some (.ref C)) (is : ErrIs K C) (T : ErrTxt P K C fI cda cc "BadOrder.__init__" (defArgs (inClass (topS 7) 0)) (defBody (inClass (topS 7) 0)) (defScope (inClass (topS 7) 0))) (hno : PySem.W.findIn K (.ref C) "part" = some none) (hsup : mg "super" = none) : Er P w K mg "BadOrder" C 1 f1 :=
  er1 gC is T ⟨rfl, rfl, rfl, ⟨_, rfl, rfl⟩, by decide +kernel, rfl, rfl, rfl⟩ rfl hno rfl (fun _ _ _ _ _ _ => rfl) ⟨fun L => ⟨_, rfl⟩, fun L => rfl⟩ (fun L => rfl) hsup
theorem erMany {C fI cda cc : Addr} (gC : mg "TooMany" = some (.ref C)) (is : ErrIs K C) (T : ErrTxt P K C fI cda cc "TooMany.__init__" (defArgs (inClass (topS 9) 0)) (defBody (inClass (topS 9) 0)) (defScope (inClass (topS 9) 0))) (hno1 : PySem.W.findIn K (.ref C) "what" = some none) (hno2 : PySem.W.findIn K (.ref C) "most" = some none) (hsup : mg "super" = none) : Er P w K mg "TooMany" C 2 f2 :=
  er2 gC is T ⟨rfl, rfl, rfl, ⟨_, rfl, rfl⟩, by decide +kernel, rfl, rfl, rfl⟩ rfl hno1 hno2 rfl rfl (fun _ _ _ _ _ _ _ => rfl) ⟨fun L => ⟨_, rfl⟩, fun L => rfl⟩ (fun L => rfl) (fun L => rfl) hsup
end
end K26
end K26End2

section K26End3
set_option Elab.async false
set_option linter.all false
set_option maxRecDepth 100000
set_option maxHeartbeats 4000000
/-! K26End3: all promises together; the law's own call. -/
namespace K26
open PySem PySem.Spec PyProof.Rows L2 LamX K26L K26E
/-- the defs of the module -/
structure Defs (K : PySem.W.Frag) (mg : Str → Option Value) : Prop where
  isInteger : FA K mg "is_integer" sIsInteger
  isWithin : FA K mg "is_within" sIsWithin
  isList : FA K mg "is_list" sIsList
  areUnlike : FA K mg "are_unlike" sAreUnlike
  needNumber : FA K mg "need_number" sNeedNumber
  keptGate : FA K mg "kept_gate" sKeptGate
  touchedBy : FA K mg "touched_by" sTouchedBy
  needGate : FA K mg "need_gate" sNeedGate
  needOrder : FA K mg "need_order" sNeedOrder
  isNearGate : FA K mg "is_near_gate" sIsNearGate
  crossings : FA K mg "crossings_for" sCrossings
  gathered : FA K mg "gathered" sGathered
  nearGates : FA K mg "near_gates" sNearGates
  isNear : FA K mg "is_near" sIsNear
  ordered : FA K mg "ordered" sOrdered
  nearGate : FA K mg "near_gate" sNearGate
  near : FA K mg "near" sNear
  ferry : FA K mg "_law_ferry" sFerry
  steer : FA K mg "_law_steer" sSteer
  pick : FA K mg "_law_pick" sPick
  stirred : FA K mg "_law_stirred" sStirred
  lgate : FA K mg "_law_gate" sLGate
  lgates : FA K mg "_law_gates" sLGates
  loose : FA K mg "_law_loose" sLoose
  step : FA K mg "_law_step" sStep
  film : FA K mg "_law_film" sFilm
  said : FA K mg "_law_said" sSaid
  lisNear : FA K mg "_law_is_near" sLIsNear
  ordRight : FA K mg "_law_ordered_right" sOrdRight
  nearRight : FA K mg "_law_near_right" sNearRight
theorem ends {P : Program} {w : World} {K : PySem.W.Frag} {mg : Str → Option Value} {base : Heap} {C CL CT CB CW CM CR CO CTb c1 P1 c2 P2 fR fL a : Addr} {oc kV doc pm ct ocL kVL docL pmL ctL : Value} {od an odL anL : Option Addr} {osl oslL : Array (Option Value)} {s₁ : Shared} {H : Hp} {ns : List Int}
    (D : Defs K mg) (T : Txt K mg) (W : WTxt K mg C) (S : SaidTxt mg CL CT CB CW CM CR CO CTb)
    (RB : Er P w K mg "BadNumber" CB 1 f1) (RW : Er P w K mg "BadWiring" CW 1 f1) (RO : Er P w K mg "BadOrder" CO 1 f1) (RT : Er P w K mg "TooMany" CT 2 f2)
    (EB : EC K CL CT CB CW CM CR CO CTb CB) (EW : EC K CL CT CB CW CM CR CO CTb CW) (EO : EC K CL CT CB CW CM CR CO CTb CO) (ET : EC K CL CT CB CW CM CR CO CTb CT) (nB : CB ≠ CT) (nW : CW ≠ CT) (nO : CO ≠ CT)
    (wB : kdW (kdL CB CW CM CR CO CTb CB) = [.str "number"]) (wW : kdW (kdL CB CW CM CR CO CTb CW) = [.str "wiring"]) (wO : kdW (kdL CB CW CM CR CO CTb CO) = [.str "order"])
    (dI : ∃ f fd, Fun K "__init__" "Wiring.__init__" sWiringInit f fd ∧ Mk K C f) (dN : ∃ f fd, FunD K "need_wiring" "need_wiring" (defArgs sNeedWiring) (defBody sNeedWiring) (defScope sNeedWiring) [.str "wiring"] [] f fd ∧ mg "need_wiring" = some (.ref f))
    (lkR : K.lookup fR = some ⟨oc, od, .func (PySem.W.fnOf "_law_refused_right" "_law_refused_right" (defArgs sRefused) (defBody sRefused) (defScope sRefused) .none kV doc pm an (.ref c1) ct), osl⟩) (cR : PySem.W.codeIn K (.ref c1) "_law_refused_right" = true) (gR : mg "_law_refused_right" = some (.ref fR)) (kR : PySem.W.keepIn K (.ref fR) = true)
    (lkL : K.lookup fL = some ⟨ocL, odL, .func (PySem.W.fnOf "law" "law" (defArgs sLaw) (defBody sLaw) (defScope sLaw) .none kVL docL pmL anL (.ref c2) ctL), oslL⟩) (cL : PySem.W.codeIn K (.ref c2) "law" = true)
    (TB1 : TabB base mg c1 P1) (TB2 : TabB base mg c2 P2) (hP : P1 ≠ P2) (e0 : Env0 P w K mg base callerA [] s₁ H) (h1 : H P1 = some (.tbl #[])) (h2 : H P2 = some (.tbl #[])) (hS : SqL K H a (ns.map V.int)) (hl : ns.length ≤ 1000) :
    codeAny (model P w) callerA (.call (.ref fL) ⟨[.ref a], []⟩) (L2.CR CX0 [] P w H s₁ (fun v _ => v = .bl true) E0) s₁ := by
  have b1 : ∀ {x : Str} {st : Stmt}, True := trivial
  have HIsI : Has P w K mg base CX0 1 "is_integer" ["value"] [] (spIsInteger K) := has_of D.isInteger (fun f fd F => ok_is_integer F T) fun _ _ _ _ _ _ us hl => match us, hl with | [_], _ => rfl
  have HIW : Has P w K mg base CX0 2 "is_within" ["value", "least", "most"] [] (spIsWithin K) := has_of D.isWithin (fun f fd F => ok_is_within F T HIsI) fun _ _ _ _ _ _ us hl => match us, hl with | [_, _, _], _ => rfl
  have HIL : Has P w K mg base CX0 1 "is_list" ["value"] [] (spIsList K) := has_of D.isList (fun f fd F => ok_is_list F T) fun _ _ _ _ _ _ us hl => match us, hl with | [_], _ => rfl
  have HAU : Has P w K mg base CX0 1 "are_unlike" ["values"] [] (spAreUnlike K) := has_of D.areUnlike (fun f fd F => ok_are_unlike F T) fun _ _ _ _ _ _ us hl => match us, hl with | [_], _ => rfl
  have HNN : Has P w K mg base (L2.CX P w) 3 "need_number" ["value", "part", "least", "most"] [] (spNeedNumber K CB) := has_of D.needNumber (fun f fd F => ok_need_number F T HIW RB) fun _ _ _ _ _ _ us hl => match us, hl with | [_, _, _, _], _ => rfl
  have HKG : Has P w K mg base CX0 3 "kept_gate" ["lamps", "value"] [] (spKeptGate K) := has_of D.keptGate (fun f fd F => ok_kept_gate F T HIL HIW HAU) fun _ _ _ _ _ _ us hl => match us, hl with | [_, _], _ => rfl
  have HTB : Has P w K mg base CX0 1 "touched_by" ["gate"] [] (spTouchedBy K) := has_of D.touchedBy (fun f fd F => ok_touched_by F) fun _ _ _ _ _ _ us hl => match us, hl with | [_], _ => rfl
  have HNW : Has P w K mg base (L2.CX P w) 2 "need_wiring" ["value", "part"] [.str "wiring"] (spNeedWiring K C CW) := by
    obtain ⟨f, fd, F, hm⟩ := dN
    obtain ⟨ds, rd, hb⟩ := F.binds1 (ps := ["value", "part"]) 1 0 (by simp) rfl fun _ _ _ _ _ _ _ us its hu hi => match us, hu, its, hi with | [_], _, [_], _ => ⟨_, rfl, rfl⟩
    exact ⟨f, fd, ds, ok_need_wiring F T W RW, hm, F.kp, hb, rd⟩
  have HNG0 : Has P w K mg base (L2.CX P w) 4 "need_gate" ["lamps", "value", "part"] [] (spNeedGate K CW) := has_of D.needGate (fun f fd F => ok_need_gate F T HKG RW) fun _ _ _ _ _ _ us hl => match us, hl with | [_, _, _], _ => rfl
  have HNO : Has P w K mg base (L2.CX P w) 3 "need_order" ["lamps", "value"] [] (spNeedOrder K CO) := has_of D.needOrder (fun f fd F => ok_need_order F T HIL HIW HAU RO) fun _ _ _ _ _ _ us hl => match us, hl with | [_, _], _ => rfl
  have HING : Has P w K mg base CX0 2 "is_near_gate" ["gate"] [] (spIsNearGate K) := has_of D.isNearGate (fun f fd F => ok_is_near_gate F T HTB) fun _ _ _ _ _ _ us hl => match us, hl with | [_], _ => rfl
  have HCr : Has P w K mg base CX0 1 "crossings_for" ["order"] [] (spCrossings K) := has_of D.crossings (fun f fd F => ok_crossings F T) fun _ _ _ _ _ _ us hl => match us, hl with | [_], _ => rfl
  have HGa : Has P w K mg base CX0 2 "gathered" ["lamps", "gate"] [] (spGathered K) := has_of D.gathered (fun f fd F => ok_gathered F T HTB) fun _ _ _ _ _ _ us hl => match us, hl with | [_, _], _ => rfl
  have HNGs : Has P w K mg base CX0 3 "near_gates" ["lamps", "gate"] [] (spNearGates K) := has_of D.nearGates (fun f fd F => ok_near_gates F T HGa HCr) fun _ _ _ _ _ _ us hl => match us, hl with | [_, _], _ => rfl
  have HW : HasC P w K mg base (L2.CX P w) 4 "Wiring" C ["self", "lamps", "gates"] (spWiringInit K C CT) := by
    obtain ⟨f, fd, F, M⟩ := dI
    exact ⟨f, fd, ok_wiring_init F T W HNN HIL HKG RW RT, M, W.gC, F.binds fun _ _ _ _ _ _ us hl => match us, hl with | [_, _, _], _ => rfl⟩
  have okIN : ∀ f fd, Fun K "is_near" "is_near" sIsNear f fd → FnOk P w K mg base (L2.CX P w) 3 f fd ["wiring"] (spIsNear K C CW) := fun f fd F => ok_is_near F T W HNW HING
  have HIN : Has P w K mg base (L2.CX P w) 3 "is_near" ["wiring"] [] (spIsNear K C CW) := has_of D.isNear okIN fun _ _ _ _ _ _ us hl => match us, hl with | [_], _ => rfl
  have HINK : HasK P w K mg base (L2.CX P w) 3 "is_near" ["wiring"] ["wiring"] gI (spIsNear K C CW) := hask_of (g := gI) D.isNear okIN (fun _ _ _ _ _ _ us ws hl => match us, ws, hl with | [], [_], _ => rfl) gI_rel
  have okOr : ∀ f fd, Fun K "ordered" "ordered" sOrdered f fd → FnOk P w K mg base (L2.CX P w) 6 f fd ["lamps", "order"] (spOrdered K C CB CO) := fun f fd F => ok_ordered F T HNN HNO HCr HW
  have HOr : Has P w K mg base (L2.CX P w) 6 "ordered" ["lamps", "order"] [] (spOrdered K C CB CO) := has_of D.ordered okOr fun _ _ _ _ _ _ us hl => match us, hl with | [_, _], _ => rfl
  have HOrK : HasK P w K mg base (L2.CX P w) 6 "ordered" ["lamps", "order"] ["order", "lamps"] gSw (spOrdered K C CB CO) := hask_of (g := gSw) D.ordered okOr (fun _ _ _ _ _ _ us ws hl => match us, ws, hl with | [], [_, _], _ => rfl) gSw_rel
  have okNG : ∀ f fd, Fun K "near_gate" "near_gate" sNearGate f fd → FnOk P w K mg base (L2.CX P w) 6 f fd ["lamps", "gate"] (spNearGate K C CB CW) := fun f fd F => ok_near_gate F T HNN HNG0 HNGs HW
  have HNG : Has P w K mg base (L2.CX P w) 6 "near_gate" ["lamps", "gate"] [] (spNearGate K C CB CW) := has_of D.nearGate okNG fun _ _ _ _ _ _ us hl => match us, hl with | [_, _], _ => rfl
  have HNGK : HasK P w K mg base (L2.CX P w) 6 "near_gate" ["lamps", "gate"] ["gate", "lamps"] gSw (spNearGate K C CB CW) := hask_of (g := gSw) D.nearGate okNG (fun _ _ _ _ _ _ us ws hl => match us, ws, hl with | [], [_, _], _ => rfl) gSw_rel
  have okNr : ∀ f fd, Fun K "near" "near" sNear f fd → FnOk P w K mg base (L2.CX P w) 6 f fd ["wiring"] (spNear K C CW CT) := fun f fd F => ok_near F T W HNW HNGs HW
  have HNr : Has P w K mg base (L2.CX P w) 6 "near" ["wiring"] [] (spNear K C CW CT) := has_of D.near okNr fun _ _ _ _ _ _ us hl => match us, hl with | [_], _ => rfl
  have HNrK : HasK P w K mg base (L2.CX P w) 6 "near" ["wiring"] ["wiring"] gI (spNear K C CW CT) := hask_of (g := gI) D.near okNr (fun _ _ _ _ _ _ us ws hl => match us, ws, hl with | [], [_], _ => rfl) gI_rel
  have HFy : Has P w K mg base CX0 1 "_law_ferry" ["_law_script"] [] (spFerry K) := has_of D.ferry (fun f fd F => ok_ferry F T) fun _ _ _ _ _ _ us hl => match us, hl with | [_], _ => rfl
  have HSt : Has P w K mg base CX0 1 "_law_steer" ["_law_ferry_here", "_law_many"] [] (spSteer K) := has_of D.steer (fun f fd F => ok_steer F T) fun _ _ _ _ _ _ us hl => match us, hl with | [_, _], _ => rfl
  have HPk : Has P w K mg base CX0 2 "_law_pick" ["_law_ferry_here", "_law_some"] [] (spPick K) := has_of D.pick (fun f fd F => ok_pick F T HSt) fun _ _ _ _ _ _ us hl => match us, hl with | [_, _], _ => rfl
  have HSr : Has P w K mg base CX0 2 "_law_stirred" ["_law_ferry_here", "_law_some"] [] (spStirred K) := has_of D.stirred (fun f fd F => ok_stirred F T HSt) fun _ _ _ _ _ _ us hl => match us, hl with | [_, _], _ => rfl
  have HLG : Has P w K mg base CX0 3 "_law_gate" ["_law_ferry_here", "_law_lamps"] [] (spLGate K) := has_of D.lgate (fun f fd F => ok_lgate F T HPk HSr) fun _ _ _ _ _ _ us hl => match us, hl with | [_, _], _ => rfl
  have HLGs : Has P w K mg base CX0 4 "_law_gates" ["_law_ferry_here", "_law_lamps", "_law_most"] [] (spLGates K) := has_of D.lgates (fun f fd F => ok_lgates F T HSt HPk HLG) fun _ _ _ _ _ _ us hl => match us, hl with | [_, _, _], _ => rfl
  have HLo : Has P w K mg base CX0 3 "_law_loose" ["_law_ferry_here", "_law_gate_here"] [] (spLoose K) := has_of D.loose (fun f fd F => ok_loose F T HSt HSr) fun _ _ _ _ _ _ us hl => match us, hl with | [_, _], _ => rfl
  have HSp : Has P w K mg base CX0 1 "_law_step" ["_law_gate_here", "_law_row"] [] (spStep K) := has_of D.step (fun f fd F => ok_step F T) fun _ _ _ _ _ _ us hl => match us, hl with | [_, _], _ => rfl
  have HFi : Has P w K mg base CX0 2 "_law_film" ["_law_gates_here", "_law_row"] [] (spFilm K) := has_of D.film (fun f fd F => ok_film F T HSp) fun _ _ _ _ _ _ us hl => match us, hl with | [_, _], _ => rfl
  have HLI : Has P w K mg base CX0 1 "_law_is_near" ["_law_gates_here"] [] (spLIsNear K) := has_of D.lisNear (fun f fd F => ok_lisnear F T) fun _ _ _ _ _ _ us hl => match us, hl with | [_], _ => rfl
  have HOR : Has P w K mg base CX0 7 "_law_ordered_right" ["_law_ferry_here", "_law_lamps"] [] (spOrdRight K) := has_of D.ordRight (fun f fd F => ok_ordright F T W HSr HSt HOr HOrK HFi) fun _ _ _ _ _ _ us hl => match us, hl with | [_, _], _ => rfl
  have HNR : Has P w K mg base CX0 4 "_law_near_right" ["_law_ferry_here", "_law_lamps", "_law_gates_here", "_law_told"] [] (spNearRight K C) := has_of D.nearRight (fun f fd F => ok_nearright F T W HSt HLI HIN HFi) fun _ _ _ _ _ _ us hl => match us, hl with | [_, _, _, _], _ => rfl
  have HRef : Has P w K mg base CX0 9 "_law_refused_right" ["_law_ferry_here"] [] (spRefused P1) :=
    ⟨fR, _, [], ok_refused lkR cR TB1 T HPk D.said S EB EW EO nB nW nO wB wW wO HOr HNG HNr HIN, gR, kR, .all (fun us hl => match us, hl with | [_], _ => rfl), .nil⟩
  have hr10 : Room 10 callerA := ⟨rfl, by decide, by decide⟩
  have hTab : Tabs [(P2, qLaw), (P1, qRef)] H := fun p hp => by
    rcases List.mem_cons.mp hp with rfl | hp
    · exact TabS.nil h2
    · rw [List.mem_singleton.mp hp]
      exact TabS.nil h1
  refine run_ofS (k := 9) (N := nLaw) (ps := ["_law_script"]) (us := [.ref a]) (vs := [.ref a]) lkL cL scLaw hr10 e0 (.of_eq rfl) (.cons rfl .nil) rfl fun hr => ?_
  obtain ⟨t, hT, hq⟩ := law_body (E := E0) (Q := fun v _ => v = .bl true) TB2 hP T W S ET HFy HSt HPk HLG HLGs HLo HLI HOR HNR HRef D.said HNG HNGK HNr HNrK HIN HINK HW hr rfl hS hl hTab fun _ => rfl
  exact ⟨t, hT.nox, hq⟩
end K26
end K26End3

section K26Head
open PySem PySem.W PyProof.Rows
set_option Elab.async false
set_option maxRecDepth 100000
set_option maxHeartbeats 0
open_top hd for PySem.Challenge.rw_keptlamps_k26_whole_wirings_among_neighb
end K26Head

section K26Fin
set_option Elab.async false
set_option linter.all false
set_option maxRecDepth 100000
set_option maxHeartbeats 0
/-! K26Fin: what the top has left, fact by fact; the theorem. -/
namespace K26
open PySem PySem.W PySem.Calls PyProof.Rows PySem.HandSPX L2 LamX K26L K26E
theorem mg_ex {K : Frag} {h : Heap} {mg : Str → Option Value} {n : Str} {i : Int} {t : Tok} (X : K.In h) (G : h.Ns mainGlobals mg) (e : nsIn K mainGlobals n = some (some (.int i t))) : ∃ t, mg n = some (.int i t) := ⟨t, mg_of X G e⟩
theorem errtxt_mk {P : Program} {K : Frag} {C fI cda cc N : Addr} {qual nm q file : Str} {params : Arguments} {body : List Stmt} {scope : Scope} {bs bm : List Value} {sn : List Str} {sub : List Value} {ab : Bool} {col : Option Bool} {dd od cdd cld : Option Addr} {an : Option Addr} {k0 k1 k2 k3 k5 : Option Value} {oc doc pm ct ccl cl : Value} {osl ccs csl : Array (Option Value)} {vs : Array Value} {tf : Tok}
    (cls : K.lookup C = some (excClassObj nm q C N bs bm true sn sub ab col dd k0 k1 k2 k3 k5 "ValueError.__new__")) (hbm : refsVE bm = true) (sa : findIn K (.ref C) "__setattr__" = some (some (.builtin "object.__setattr__"))) (iC : findIn K (.ref C) "__init__" = some (some (.ref fI)))
    (tC : typeIn K (.ref fI) = some (.type "function")) (kC : keepIn K (.ref C) = true) (exC : subIn K (.ref C) (.type "BaseException") = some true) (tyC : typeIn K (.ref C) = some (.type "type")) (hdC : hasDictIn K C = true)
    (fn : K.lookup fI = some ⟨oc, od, .func (ksFn "__init__" qual params body scope .none .none doc pm an (.ref cda) ct cc), osl⟩) (cd : codeIn K (.ref cda) qual = true) (co : K.lookup cda = some ⟨ccl, cdd, .fields vs, ccs⟩) (c2 : vs[2]? = some (.str file tf)) (c3 : ((P.main.file : Str) == file) = true)
    (cell : K.lookup cc = some ⟨cl, cld, .cell (some (.ref C)), csl⟩) (sup : ks_superIn K C C "__init__" = some (some (.builtin "ValueError.__init__"))) (opq : nsIn K cStatics "thirdparty.any" = some none) (mro : mroIn K C (.ref C) = some true) (sVE : subIn K (.ref C) (.type "ValueError") = some true) (top : (P.main.scope.names.lookup ("super" : Str)).isSome = false) :
    ∃ fI cda cc, ErrTxt P K C fI cda cc qual params body scope :=
  ⟨fI, cda, cc, ⟨⟨_, _, _, _, _, _, _, _, _, _, _, _, _, _, _, cls, hbm⟩, sa, iC, tC, kC, exC, tyC, hdC, ⟨_, _, _, _, _, _, _, fn⟩, cd, ⟨_, _, _, _, _, _, co, c2, c3⟩, ⟨_, _, _, cell⟩, sup, opq, mro, sVE, top⟩⟩
theorem init_mk {K : Frag} {C f : Addr} {oc kV doc pm cdv ct : Value} {od an : Option Addr} {osl : Array (Option Value)} (i : findIn K (.ref C) "__init__" = some (some (.ref f)))
    (l : K.lookup f = some ⟨oc, od, .func (fnOf "__init__" "Wiring.__init__" (defArgs sWiringInit) (defBody sWiringInit) (defScope sWiringInit) .none kV doc pm an cdv ct), osl⟩) (c : codeIn K cdv "Wiring.__init__" = true) (k : keepIn K (.ref f) = true) (m1 : makesIn K C = true) (m3 : isFn K (.ref f) = true) (m4 : keepIn K (.ref C) = true) :
    ∃ f fd, Fun K "__init__" "Wiring.__init__" sWiringInit f fd ∧ Mk K C f := ⟨f, _, fun_mk l c k, ⟨m1, i, m3, m4⟩⟩
theorem need_mk {K : Frag} {mg : Str → Option Value} {h : Heap} {f A : Addr} {oc kV doc pm cdv ct : Value} {od an : Option Addr} {osl : Array (Option Value)} {o : Obj} {n : Nat} {t : Tok} (X : K.In h) (G : h.Ns mainGlobals mg) (g : nsIn K mainGlobals "need_wiring" = some (some (.ref f)))
    (l : K.lookup f = some ⟨oc, od, .func (fnOf "need_wiring" "need_wiring" (defArgs sNeedWiring) (defBody sNeedWiring) (defScope sNeedWiring) (.ref A) kV doc pm an cdv ct), osl⟩) (c : codeIn K cdv "need_wiring" = true) (k : keepIn K (.ref f) = true) (lt : K.lookup A = some o) (ld : o.data = .seq [Value.str "wiring" t].toArray n) :
    ∃ f fd, FunD K "need_wiring" "need_wiring" (defArgs sNeedWiring) (defBody sNeedWiring) (defScope sNeedWiring) [.str "wiring"] [] f fd ∧ mg "need_wiring" = some (.ref f) :=
  ⟨f, _, ⟨⟨_, _, _, _, _, _, _, _, _, _, rfl, l, c, .inr ⟨by simp, A, o, _, n, rfl, lt, ld, .cons ⟨t, rfl⟩ .nil⟩, .inl rfl⟩, k⟩, mg_of X G g⟩

end K26
open PySem PySem.W PyProof.Rows L2 LamX K26 K26L K26E
theorem PySem.Challenge.cw_keptlamps_k26_whole_wirings_among_neighb_holds : PySem.Challenge.rw_keptlamps_k26_whole_wirings_among_neighb.Holds := by
  refine hd ?_
  k_fill
  refine Att.attach_callB (n := 63) rfl rfl fun w s₀ s₁ mg mb fa o pm cd doc a vs ns G Y ho hfd hcd hmg hobj hints hlen hbits hg => ?_
  have KX := PySem.W.km_in_of Y
  have hT8 := PySem.W.km_tabs_of Y
  have GN := G.T.g
  have eL : nsIn (hd.heap_39 w.params) mainGlobals "law" = some (some (.ref 546)) := by k_is
  have efa := hmg.symm.trans (PySem.W.mg_of KX GN eL)
  cases efa
  clear hmg hfd hcd ho
  have T : Txt (hd.heap_39 w.params) mg := ⟨by (refine' PySem.W.mg_none_of (by assumption) (by assumption) ?a; (case a => k_is)), by (refine' PySem.W.mg_none_of (by assumption) (by assumption) ?a; (case a => k_is)), by (refine' PySem.W.mg_none_of (by assumption) (by assumption) ?a; (case a => k_is)), by (refine' PySem.W.mg_none_of (by assumption) (by assumption) ?a; (case a => k_is)), by (refine' PySem.W.mg_none_of (by assumption) (by assumption) ?a; (case a => k_is)), by (refine' PySem.W.mg_none_of (by assumption) (by assumption) ?a; (case a => k_is)), by (refine' PySem.W.mg_none_of (by assumption) (by assumption) ?a; (case a => k_is)), by (refine' PySem.W.mg_none_of (by assumption) (by assumption) ?a; (case a => k_is)), by (refine' PySem.W.mg_none_of (by assumption) (by assumption) ?a; (case a => k_is)), by (refine' PySem.W.mg_none_of (by assumption) (by assumption) ?a; (case a => k_is)), by (refine' PySem.W.mg_none_of (by assumption) (by assumption) ?a; (case a => k_is)), by (refine' PySem.W.mg_none_of (by assumption) (by assumption) ?a; (case a => k_is)), by (refine' PySem.W.mg_none_of (by assumption) (by assumption) ?a; (case a => k_is)), by (refine' PySem.W.mg_none_of (by assumption) (by assumption) ?a; (case a => k_is)), by (refine' PySem.W.mg_none_of (by assumption) (by assumption) ?a; (case a => k_is)), by (refine' mg_ex (by assumption) (by assumption) ?a; (case a => k_is)), by (refine' mg_ex (by assumption) (by assumption) ?a; (case a => k_is))⟩
  have W : WTxt (hd.heap_39 w.params) mg 377 := by
    refine' ⟨by (refine' PySem.W.mg_of (by assumption) (by assumption) ?a; (case a => k_is)), ⟨?a1, ?a2, ?a3, ?a4⟩, ?a5, ?a6, ?a7, ?a8, ?a9, ?a10, ?a11, ?a12, ?a13⟩
    (case a1 => k_is)
    (case a2 => k_is)
    (case a3 => k_is)
    (case a4 => k_is)
    (case a5 => exact (show PySem.W.findIn (hd.heap_39 w.params) (.ref 377) "lamps" = some none by k_is))
    (case a6 => exact (show PySem.W.findIn (hd.heap_39 w.params) (.ref 377) "gates" = some none by k_is))
    (case a7 => exact (show PySem.W.findIn (hd.heap_39 w.params) (.ref 377) "hands" = some none by k_is))
    (case a8 => k_is)
    (case a9 => k_is)
    (case a10 => k_is)
    (case a11 => k_is)
    (case a12 => kernel_rfl)
    case a13 =>
      intro T hT
      have h : T = "NoneType" ∨ T = "bool" ∨ T = "int" ∨ T = "str" ∨ T = "list" ∨ T = "tuple" ∨ T = "dict" := by simpa [kinds] using hT
      rcases h with rfl | rfl | rfl | rfl | rfl | rfl | rfl <;> kernel_rfl
  have S : SaidTxt mg 31 179 53 116 158 74 137 95 := ⟨by (refine' PySem.W.mg_of (by assumption) (by assumption) ?a; (case a => k_is)), by (refine' PySem.W.mg_of (by assumption) (by assumption) ?a; (case a => k_is)), by (refine' PySem.W.mg_of (by assumption) (by assumption) ?a; (case a => k_is)), by (refine' PySem.W.mg_of (by assumption) (by assumption) ?a; (case a => k_is)), by (refine' PySem.W.mg_of (by assumption) (by assumption) ?a; (case a => k_is)), by (refine' PySem.W.mg_of (by assumption) (by assumption) ?a; (case a => k_is)), by (refine' PySem.W.mg_of (by assumption) (by assumption) ?a; (case a => k_is)), by (refine' PySem.W.mg_of (by assumption) (by assumption) ?a; (case a => k_is))⟩
  have hsup : mg "super" = none := by (refine' PySem.W.mg_none_of (by assumption) (by assumption) ?a; (case a => k_is))
  have isBadNumber : ErrIs (hd.heap_39 w.params) 53 := by (refine' ⟨?a, ?b, ?c, ?d, ?e, ?f, ?g, ?h⟩; (case a => k_is); (case b => k_is); (case c => k_is); (case d => k_is); (case e => k_is); (case f => k_is); (case g => k_is); (case h => k_is))
  obtain ⟨fIBadNumber, cdaBadNumber, ccBadNumber, TBadNumber⟩ : ∃ fI cda cc, ErrTxt PySem.Challenge.rw_keptlamps_k26_whole_wirings_among_neighb.prog (hd.heap_39 w.params) 53 fI cda cc "BadNumber.__init__" (defArgs (inClass (topS 3) 0)) (defBody (inClass (topS 3) 0)) (defScope (inClass (topS 3) 0)) := by (refine' errtxt_mk ?cls ?bm ?sa ?iC ?tC ?kC ?exC ?tyC ?hdC ?fn ?cd ?co ?c2 ?c3 ?cell ?sup ?opq ?mro ?sVE ?top; (case cls => k_is); (case bm => decide +kernel); (case sa => k_is); (case iC => k_is); (case tC => k_is); (case kC => k_is); (case exC => k_is); (case tyC => k_is); (case hdC => k_is); (case fn => k_is); (case cd => k_is); (case co => k_is); (case c2 => rfl); (case c3 => decide +kernel); (case cell => k_is); (case sup => kernel_rfl); (case opq => k_is); (case mro => k_is); (case sVE => k_is); (case top => decide +kernel))
  have nPBadNumber : findIn (hd.heap_39 w.params) (.ref 53) "part" = some none := by k_is
  have nWBadNumber : findIn (hd.heap_39 w.params) (.ref 53) "what" = some none := by k_is
  have nMBadNumber : findIn (hd.heap_39 w.params) (.ref 53) "most" = some none := by k_is
  have EBadNumber : EC (hd.heap_39 w.params) 31 179 53 116 158 74 137 95 53 := ⟨isBadNumber, by kernel_rfl, by kernel_rfl, by kernel_rfl, by kernel_rfl, by kernel_rfl, by kernel_rfl, by kernel_rfl, by kernel_rfl, nPBadNumber, nWBadNumber, nMBadNumber⟩
  have isBadWiring : ErrIs (hd.heap_39 w.params) 116 := by (refine' ⟨?a, ?b, ?c, ?d, ?e, ?f, ?g, ?h⟩; (case a => k_is); (case b => k_is); (case c => k_is); (case d => k_is); (case e => k_is); (case f => k_is); (case g => k_is); (case h => k_is))
  obtain ⟨fIBadWiring, cdaBadWiring, ccBadWiring, TBadWiring⟩ : ∃ fI cda cc, ErrTxt PySem.Challenge.rw_keptlamps_k26_whole_wirings_among_neighb.prog (hd.heap_39 w.params) 116 fI cda cc "BadWiring.__init__" (defArgs (inClass (topS 6) 0)) (defBody (inClass (topS 6) 0)) (defScope (inClass (topS 6) 0)) := by (refine' errtxt_mk ?cls ?bm ?sa ?iC ?tC ?kC ?exC ?tyC ?hdC ?fn ?cd ?co ?c2 ?c3 ?cell ?sup ?opq ?mro ?sVE ?top; (case cls => k_is); (case bm => decide +kernel); (case sa => k_is); (case iC => k_is); (case tC => k_is); (case kC => k_is); (case exC => k_is); (case tyC => k_is); (case hdC => k_is); (case fn => k_is); (case cd => k_is); (case co => k_is); (case c2 => rfl); (case c3 => decide +kernel); (case cell => k_is); (case sup => kernel_rfl); (case opq => k_is); (case mro => k_is); (case sVE => k_is); (case top => decide +kernel))
  have nPBadWiring : findIn (hd.heap_39 w.params) (.ref 116) "part" = some none := by k_is
  have nWBadWiring : findIn (hd.heap_39 w.params) (.ref 116) "what" = some none := by k_is
  have nMBadWiring : findIn (hd.heap_39 w.params) (.ref 116) "most" = some none := by k_is
  have EBadWiring : EC (hd.heap_39 w.params) 31 179 53 116 158 74 137 95 116 := ⟨isBadWiring, by kernel_rfl, by kernel_rfl, by kernel_rfl, by kernel_rfl, by kernel_rfl, by kernel_rfl, by kernel_rfl, by kernel_rfl, nPBadWiring, nWBadWiring, nMBadWiring⟩
  have isBadOrder : ErrIs (hd.heap_39 w.params) 137 := by (refine' ⟨?a, ?b, ?c, ?d, ?e, ?f, ?g, ?h⟩; (case a => k_is); (case b => k_is); (case c => k_is); (case d => k_is); (case e => k_is); (case f => k_is); (case g => k_is); (case h => k_is))
  obtain ⟨fIBadOrder, cdaBadOrder, ccBadOrder, TBadOrder⟩ : ∃ fI cda cc, ErrTxt PySem.Challenge.rw_keptlamps_k26_whole_wirings_among_neighb.prog (hd.heap_39 w.params) 137 fI cda cc "BadOrder.__init__" (defArgs (inClass (topS 7) 0)) (defBody (inClass (topS 7) 0)) (defScope (inClass (topS 7) 0)) := by (refine' errtxt_mk ?cls ?bm ?sa ?iC ?tC ?kC ?exC ?tyC ?hdC ?fn ?cd ?co ?c2 ?c3 ?cell ?sup ?opq ?mro ?sVE ?top; (case cls => k_is); (case bm => decide +kernel); (case sa => k_is); (case iC => k_is); (case tC => k_is); (case kC => k_is); (case exC => k_is); (case tyC => k_is); (case hdC => k_is); (case fn => k_is); (case cd => k_is); (case co => k_is); (case c2 => rfl); (case c3 => decide +kernel); (case cell => k_is); (case sup => kernel_rfl); (case opq => k_is); (case mro => k_is); (case sVE => k_is); (case top => decide +kernel))
  have nPBadOrder : findIn (hd.heap_39 w.params) (.ref 137) "part" = some none := by k_is
  have nWBadOrder : findIn (hd.heap_39 w.params) (.ref 137) "what" = some none := by k_is
  have nMBadOrder : findIn (hd.heap_39 w.params) (.ref 137) "most" = some none := by k_is
  have EBadOrder : EC (hd.heap_39 w.params) 31 179 53 116 158 74 137 95 137 := ⟨isBadOrder, by kernel_rfl, by kernel_rfl, by kernel_rfl, by kernel_rfl, by kernel_rfl, by kernel_rfl, by kernel_rfl, by kernel_rfl, nPBadOrder, nWBadOrder, nMBadOrder⟩
  have isTooMany : ErrIs (hd.heap_39 w.params) 179 := by (refine' ⟨?a, ?b, ?c, ?d, ?e, ?f, ?g, ?h⟩; (case a => k_is); (case b => k_is); (case c => k_is); (case d => k_is); (case e => k_is); (case f => k_is); (case g => k_is); (case h => k_is))
  obtain ⟨fITooMany, cdaTooMany, ccTooMany, TTooMany⟩ : ∃ fI cda cc, ErrTxt PySem.Challenge.rw_keptlamps_k26_whole_wirings_among_neighb.prog (hd.heap_39 w.params) 179 fI cda cc "TooMany.__init__" (defArgs (inClass (topS 9) 0)) (defBody (inClass (topS 9) 0)) (defScope (inClass (topS 9) 0)) := by (refine' errtxt_mk ?cls ?bm ?sa ?iC ?tC ?kC ?exC ?tyC ?hdC ?fn ?cd ?co ?c2 ?c3 ?cell ?sup ?opq ?mro ?sVE ?top; (case cls => k_is); (case bm => decide +kernel); (case sa => k_is); (case iC => k_is); (case tC => k_is); (case kC => k_is); (case exC => k_is); (case tyC => k_is); (case hdC => k_is); (case fn => k_is); (case cd => k_is); (case co => k_is); (case c2 => rfl); (case c3 => decide +kernel); (case cell => k_is); (case sup => kernel_rfl); (case opq => k_is); (case mro => k_is); (case sVE => k_is); (case top => decide +kernel))
  have nPTooMany : findIn (hd.heap_39 w.params) (.ref 179) "part" = some none := by k_is
  have nWTooMany : findIn (hd.heap_39 w.params) (.ref 179) "what" = some none := by k_is
  have nMTooMany : findIn (hd.heap_39 w.params) (.ref 179) "most" = some none := by k_is
  have ETooMany : EC (hd.heap_39 w.params) 31 179 53 116 158 74 137 95 179 := ⟨isTooMany, by kernel_rfl, by kernel_rfl, by kernel_rfl, by kernel_rfl, by kernel_rfl, by kernel_rfl, by kernel_rfl, by kernel_rfl, nPTooMany, nWTooMany, nMTooMany⟩
  have gB : mg "BadNumber" = some (.ref 53) := by (refine' PySem.W.mg_of (by assumption) (by assumption) ?a; (case a => k_is))
  have gW : mg "BadWiring" = some (.ref 116) := by (refine' PySem.W.mg_of (by assumption) (by assumption) ?a; (case a => k_is))
  have gO : mg "BadOrder" = some (.ref 137) := by (refine' PySem.W.mg_of (by assumption) (by assumption) ?a; (case a => k_is))
  have gT : mg "TooMany" = some (.ref 179) := by (refine' PySem.W.mg_of (by assumption) (by assumption) ?a; (case a => k_is))
  have D : Defs (hd.heap_39 w.params) mg := ⟨by (refine' K26.fun_at (by assumption) (by assumption) ?a ?l ?c ?k; (case a => k_is); (case l => k_is); (case c => k_is); (case k => k_is)), by (refine' K26.fun_at (by assumption) (by assumption) ?a ?l ?c ?k; (case a => k_is); (case l => k_is); (case c => k_is); (case k => k_is)), by (refine' K26.fun_at (by assumption) (by assumption) ?a ?l ?c ?k; (case a => k_is); (case l => k_is); (case c => k_is); (case k => k_is)), by (refine' K26.fun_at (by assumption) (by assumption) ?a ?l ?c ?k; (case a => k_is); (case l => k_is); (case c => k_is); (case k => k_is)), by (refine' K26.fun_at (by assumption) (by assumption) ?a ?l ?c ?k; (case a => k_is); (case l => k_is); (case c => k_is); (case k => k_is)), by (refine' K26.fun_at (by assumption) (by assumption) ?a ?l ?c ?k; (case a => k_is); (case l => k_is); (case c => k_is); (case k => k_is)), by (refine' K26.fun_at (by assumption) (by assumption) ?a ?l ?c ?k; (case a => k_is); (case l => k_is); (case c => k_is); (case k => k_is)), by (refine' K26.fun_at (by assumption) (by assumption) ?a ?l ?c ?k; (case a => k_is); (case l => k_is); (case c => k_is); (case k => k_is)), by (refine' K26.fun_at (by assumption) (by assumption) ?a ?l ?c ?k; (case a => k_is); (case l => k_is); (case c => k_is); (case k => k_is)), by (refine' K26.fun_at (by assumption) (by assumption) ?a ?l ?c ?k; (case a => k_is); (case l => k_is); (case c => k_is); (case k => k_is)), by (refine' K26.fun_at (by assumption) (by assumption) ?a ?l ?c ?k; (case a => k_is); (case l => k_is); (case c => k_is); (case k => k_is)), by (refine' K26.fun_at (by assumption) (by assumption) ?a ?l ?c ?k; (case a => k_is); (case l => k_is); (case c => k_is); (case k => k_is)), by (refine' K26.fun_at (by assumption) (by assumption) ?a ?l ?c ?k; (case a => k_is); (case l => k_is); (case c => k_is); (case k => k_is)), by (refine' K26.fun_at (by assumption) (by assumption) ?a ?l ?c ?k; (case a => k_is); (case l => k_is); (case c => k_is); (case k => k_is)), by (refine' K26.fun_at (by assumption) (by assumption) ?a ?l ?c ?k; (case a => k_is); (case l => k_is); (case c => k_is); (case k => k_is)), by (refine' K26.fun_at (by assumption) (by assumption) ?a ?l ?c ?k; (case a => k_is); (case l => k_is); (case c => k_is); (case k => k_is)), by (refine' K26.fun_at (by assumption) (by assumption) ?a ?l ?c ?k; (case a => k_is); (case l => k_is); (case c => k_is); (case k => k_is)), by (refine' K26.fun_at (by assumption) (by assumption) ?a ?l ?c ?k; (case a => k_is); (case l => k_is); (case c => k_is); (case k => k_is)), by (refine' K26.fun_at (by assumption) (by assumption) ?a ?l ?c ?k; (case a => k_is); (case l => k_is); (case c => k_is); (case k => k_is)), by (refine' K26.fun_at (by assumption) (by assumption) ?a ?l ?c ?k; (case a => k_is); (case l => k_is); (case c => k_is); (case k => k_is)), by (refine' K26.fun_at (by assumption) (by assumption) ?a ?l ?c ?k; (case a => k_is); (case l => k_is); (case c => k_is); (case k => k_is)), by (refine' K26.fun_at (by assumption) (by assumption) ?a ?l ?c ?k; (case a => k_is); (case l => k_is); (case c => k_is); (case k => k_is)), by (refine' K26.fun_at (by assumption) (by assumption) ?a ?l ?c ?k; (case a => k_is); (case l => k_is); (case c => k_is); (case k => k_is)), by (refine' K26.fun_at (by assumption) (by assumption) ?a ?l ?c ?k; (case a => k_is); (case l => k_is); (case c => k_is); (case k => k_is)), by (refine' K26.fun_at (by assumption) (by assumption) ?a ?l ?c ?k; (case a => k_is); (case l => k_is); (case c => k_is); (case k => k_is)), by (refine' K26.fun_at (by assumption) (by assumption) ?a ?l ?c ?k; (case a => k_is); (case l => k_is); (case c => k_is); (case k => k_is)), by (refine' K26.fun_at (by assumption) (by assumption) ?a ?l ?c ?k; (case a => k_is); (case l => k_is); (case c => k_is); (case k => k_is)), by (refine' K26.fun_at (by assumption) (by assumption) ?a ?l ?c ?k; (case a => k_is); (case l => k_is); (case c => k_is); (case k => k_is)), by (refine' K26.fun_at (by assumption) (by assumption) ?a ?l ?c ?k; (case a => k_is); (case l => k_is); (case c => k_is); (case k => k_is)), by (refine' K26.fun_at (by assumption) (by assumption) ?a ?l ?c ?k; (case a => k_is); (case l => k_is); (case c => k_is); (case k => k_is))⟩
  have dI : ∃ f fd, Fun (hd.heap_39 w.params) "__init__" "Wiring.__init__" sWiringInit f fd ∧ Mk (hd.heap_39 w.params) 377 f := by
    refine' init_mk ?i ?l ?c ?k ?m1 ?m3 ?m4
    (case i => k_is)
    (case l => k_is)
    (case c => k_is)
    (case k => k_is)
    (case m1 => k_is)
    (case m3 => k_is)
    (case m4 => k_is)
  have dN : ∃ f fd, FunD (hd.heap_39 w.params) "need_wiring" "need_wiring" (defArgs sNeedWiring) (defBody sNeedWiring) (defScope sNeedWiring) [.str "wiring"] [] f fd ∧ mg "need_wiring" = some (.ref f) := by
    refine' need_mk KX GN ?g ?l ?c ?k ?lt ?ld
    (case g => k_is); (case l => k_is); (case c => k_is); (case k => k_is); (case lt => k_is); (case ld => rfl)
  refine law_run (cs := [(538, 534), (545, 541)]) (mb := mb) KX GN G.T.b G.T.builtins G.T.nolimit hg (fun p hp => hT8 p.2 ?t1) (fun p hp => ?t2) (fun p hp => ?t3) G.T.bmain hobj hints (Nat.le_trans hlen (by decide)) fun base H e0 hTB hH hS => ?_
  case t1 =>
    rcases List.mem_cons.mp hp with rfl | hp
    · exact List.mem_cons_self
    · rw [List.mem_singleton.mp hp]
      exact List.mem_cons_of_mem _ List.mem_cons_self
  case t2 =>
    rcases List.mem_cons.mp hp with rfl | hp
    · kernel_rfl
    · rw [List.mem_singleton.mp hp]
      kernel_rfl
  case t3 =>
    rcases List.mem_cons.mp hp with rfl | hp
    · exact PySem.W.codeHd_of_K KX (by kernel_rfl)
    · rw [List.mem_singleton.mp hp]
      exact PySem.W.codeHd_of_K KX (by kernel_rfl)
  refine' ends (C := 377) (CL := 31) (CM := 158) (CR := 74) (CTb := 95) (c1 := 538) (P1 := 534) (c2 := 545) (P2 := 541) (fR := 539) D T W S (erNumber gB isBadNumber TBadNumber nPBadNumber hsup) (erWiring gW isBadWiring TBadWiring nPBadWiring hsup) (erOrder gO isBadOrder TBadOrder nPBadOrder hsup) (erMany gT isTooMany TTooMany nWTooMany nMTooMany hsup) EBadNumber EBadWiring EBadOrder ETooMany (by decide) (by decide) (by decide) (by decide +kernel) (by decide +kernel) (by decide +kernel) dI dN ?lkR ?cR ?gR ?kR ?lkL ?cL (hTB _ List.mem_cons_self) (hTB _ (List.mem_cons_of_mem _ List.mem_cons_self)) (by decide) e0 (hH _ List.mem_cons_self) (hH _ (List.mem_cons_of_mem _ List.mem_cons_self)) hS (Nat.le_trans hlen (by decide))
  (case lkR => k_is); (case cR => k_is); (case gR => exact (show mg "_law_refused_right" = some (.ref 539) by (refine' PySem.W.mg_of (by assumption) (by assumption) ?a; (case a => k_is)))); (case kR => k_is); (case lkL => k_is); (case cL => k_is)
end K26Fin
