import PyProof.Rows.All
import Wide.All
import OpenK.AllK
import Wide.FinOn
import HandS.ForMost
import HandS.Defaults
import HandS.MakeKwOnly
import HandS.Star
import HandS.Property
import HandS.ClsMeth
import HandS.Zip
import HandS.TupSets
import HandS.SetFor
import HandS.IsInst
import HandS.RevRange
import HandS.Conv
import HandS.DictComp
import HandS.Codes
import HandS.TupAny
import HandS.More
import PyProof.DictRoadsH
import PySem.Challenge.RW_beadmoot_k40_whole_thrift
set_option Elab.async false
set_option linter.all false
set_option maxRecDepth 100000
set_option maxHeartbeats 4000000
/-! The mathematics of tolls: the table over spans, the first bead that loses nothing, all orders in ascending order. -/
namespace Bm

/-! ### the least of a list -/
def minL : List Int → Int
  | [] => 0
  | [x] => x
  | x :: y :: r => if x ≤ minL (y :: r) then x else minL (y :: r)
theorem minL_spec : ∀ l : List Int, l ≠ [] → minL l ∈ l ∧ ∀ y ∈ l, minL l ≤ y
  | [], h => absurd rfl h
  | [x], _ => ⟨by simp [minL], fun y hy => by
      have e : y = x := by simpa using hy
      rw [e]; exact Int.le_refl _⟩
  | x :: z :: r, _ => by
    obtain ⟨h1, h2⟩ := minL_spec (z :: r) (by simp)
    unfold minL
    by_cases c : x ≤ minL (z :: r)
    · rw [if_pos c]
      refine ⟨List.mem_cons_self, fun y hy => ?_⟩
      rcases List.mem_cons.mp hy with e | hy
      · rw [e]; exact Int.le_refl _
      · exact Int.le_trans c (h2 y hy)
    · rw [if_neg c]
      refine ⟨List.mem_cons_of_mem _ h1, fun y hy => ?_⟩
      rcases List.mem_cons.mp hy with e | hy
      · rw [e]; omega
      · exact h2 y hy
theorem minL_uniq {l : List Int} {m : Int} (h1 : m ∈ l) (h2 : ∀ y ∈ l, m ≤ y) : m = minL l := by
  have hn : l ≠ [] := by intro e; rw [e] at h1; cases h1
  obtain ⟨a, b⟩ := minL_spec l hn
  exact Int.le_antisymm (h2 _ a) (b _ h1)

/-! ### the toll of a taking, the table over spans -/
def u (a b : Int) : Int := if a = b then 0 else 1
def S (f : Nat → Int) : Nat → Nat → Nat → Int
  | 0, _, _ => 0
  | n + 1, i, j => if j < i + 2 then 0 else minL ((List.range (j - i - 1)).map fun t => S f n i (i + 1 + t) + S f n (i + 1 + t) j) + u (f i) (f j)
/-- the least toll of clearing the span from i to j -/
def C (f : Nat → Int) (i j : Nat) : Int := S f (j - i) i j
theorem S_fuel {f : Nat → Int} : ∀ n m i j : Nat, j - i ≤ n → j - i ≤ m → S f n i j = S f m i j
  | 0, 0, _, _, _, _ => rfl
  | 0, m + 1, i, j, h, _ => by
    unfold S
    rw [if_pos (by omega)]
  | n + 1, 0, i, j, _, h => by
    unfold S
    rw [if_pos (by omega)]
  | n + 1, m + 1, i, j, h, h' => by
    unfold S
    by_cases c : j < i + 2
    · rw [if_pos c, if_pos c]
    · rw [if_neg c, if_neg c]
      congr 2
      refine List.map_congr_left fun t ht => ?_
      have ht := List.mem_range.mp ht
      rw [S_fuel n m i (i + 1 + t) (by omega) (by omega), S_fuel n m (i + 1 + t) j (by omega) (by omega)]
theorem C_short {f : Nat → Int} {i j : Nat} (h : j < i + 2) : C f i j = 0 := by
  unfold C
  cases e : j - i with
  | zero => rfl
  | succ n =>
    unfold S
    rw [if_pos h]
def sums (f : Nat → Int) (i j : Nat) : List Int := (List.range (j - i - 1)).map fun t => C f i (i + 1 + t) + C f (i + 1 + t) j
theorem C_rec {f : Nat → Int} {i j : Nat} (h : i + 2 ≤ j) : C f i j = minL (sums f i j) + u (f i) (f j) := by
  have e : C f i j = S f (j - i - 1 + 1) i j := by
    unfold C
    exact S_fuel _ _ _ _ (Nat.le_refl _) (by omega)
  rw [e]
  unfold S sums
  rw [if_neg (by omega)]
  congr 2
  refine List.map_congr_left fun t ht => ?_
  have ht := List.mem_range.mp ht
  unfold C
  rw [S_fuel (j - i - 1) (i + 1 + t - i) i (i + 1 + t) (by omega) (by omega), S_fuel (j - i - 1) (j - (i + 1 + t)) (i + 1 + t) j (by omega) (by omega)]
theorem sums_ne {f : Nat → Int} {i j : Nat} (h : i + 2 ≤ j) : sums f i j ≠ [] := by
  intro e
  have := congrArg List.length e
  simp [sums] at this
  omega
theorem mem_sums {f : Nat → Int} {i j : Nat} {x : Int} : x ∈ sums f i j ↔ ∃ k, i < k ∧ k < j ∧ x = C f i k + C f k j := by
  unfold sums
  rw [List.mem_map]
  constructor
  · rintro ⟨t, ht, rfl⟩
    have ht := List.mem_range.mp ht
    exact ⟨i + 1 + t, by omega, by omega, rfl⟩
  · rintro ⟨k, h1, h2, rfl⟩
    refine ⟨k - i - 1, List.mem_range.mpr (by omega), ?_⟩
    have e : i + 1 + (k - i - 1) = k := by omega
    rw [e]
theorem C_le {f : Nat → Int} {i j k : Nat} (h1 : i < k) (h2 : k < j) : C f i j ≤ C f i k + C f k j + u (f i) (f j) := by
  rw [C_rec (i := i) (j := j) (by omega)]
  have := (minL_spec (sums f i j) (sums_ne (by omega))).2 _ (mem_sums.mpr ⟨k, h1, h2, rfl⟩)
  omega
theorem C_ex {f : Nat → Int} {i j : Nat} (h : i + 2 ≤ j) : ∃ k, i < k ∧ k < j ∧ C f i j = C f i k + C f k j + u (f i) (f j) := by
  obtain ⟨k, h1, h2, e⟩ := mem_sums.mp (minL_spec (sums f i j) (sums_ne h)).1
  exact ⟨k, h1, h2, by rw [C_rec h, e]⟩
/-- the least of the sums, the toll within -/
theorem C_of_min {f : Nat → Int} {i j : Nat} {m : Int} (h1 : ∃ k, i < k ∧ k < j ∧ m = C f i k + C f k j + u (f i) (f j)) (h2 : ∀ k, i < k → k < j → m ≤ C f i k + C f k j + u (f i) (f j)) : m = C f i j := by
  obtain ⟨k, a, b, e⟩ := h1
  obtain ⟨k', a', b', e'⟩ := C_ex (f := f) (i := i) (j := j) (by omega)
  refine Int.le_antisymm ?_ ?_
  · rw [e']; exact h2 k' a' b'
  · rw [e]; exact C_le a b
theorem S_shift {f g : Nat → Int} {d : Nat} : ∀ n i j : Nat, (∀ t, i ≤ t → t ≤ j → f t = g (t + d)) → S f n i j = S g n (i + d) (j + d)
  | 0, _, _, _ => rfl
  | n + 1, i, j, h => by
    unfold S
    by_cases c : j < i + 2
    · rw [if_pos c, if_pos (by omega)]
    · rw [if_neg c, if_neg (by omega)]
      rw [h i (by omega) (by omega), h j (by omega) (by omega)]
      have el : j + d - (i + d) - 1 = j - i - 1 := by omega
      rw [el]
      congr 2
      refine List.map_congr_left fun t ht => ?_
      have ht := List.mem_range.mp ht
      rw [S_shift n i (i + 1 + t) fun x hx hy => h x hx (by omega), S_shift n (i + 1 + t) j fun x hx hy => h x (by omega) hy]
      have e : i + 1 + t + d = i + d + 1 + t := by omega
      rw [e]
theorem C_shift {f g : Nat → Int} (d : Nat) {i j : Nat} (h : ∀ t, i ≤ t → t ≤ j → f t = g (t + d)) : C f i j = C g (i + d) (j + d) := by
  unfold C
  rw [S_shift (j - i) i j h]
  have e : j + d - (i + d) = j - i := by omega
  rw [e]

/-! ### one bead less -/
def sk (a : Nat) (f : Nat → Int) : Nat → Int := fun t => if t < a then f t else f (t + 1)
def up (a i : Nat) : Nat := if i < a then i else i + 1
theorem sk_up {a : Nat} {f : Nat → Int} (i : Nat) : f (up a i) = sk a f i := by
  unfold sk up
  by_cases c : i < a
  · rw [if_pos c, if_pos c]
  · rw [if_neg c, if_neg c]
theorem ear_le {f : Nat → Int} {a : Nat} (ha : 1 ≤ a) : ∀ w i j : Nat, j - i ≤ w → i < j →
    C f (up a i) (up a j) ≤ C (sk a f) i j + (if i < a ∧ a ≤ j then u (f (a - 1)) (f (a + 1)) else 0)
  | 0, i, j, h, h' => by omega
  | w + 1, i, j, h, h' => by
    by_cases c : j = i + 1
    · rw [C_short (f := sk a f) (by omega)]
      by_cases d : i < a ∧ a ≤ j
      · rw [if_pos d]
        have e1 : up a i = a - 1 := by unfold up; rw [if_pos d.1]; omega
        have e2 : up a j = a + 1 := by unfold up; rw [if_neg (by omega)]; omega
        rw [e1, e2]
        have := C_le (f := f) (i := a - 1) (j := a + 1) (k := a) (by omega) (by omega)
        rw [C_short (f := f) (i := a - 1) (j := a) (by omega), C_short (f := f) (i := a) (j := a + 1) (by omega)] at this
        omega
      · rw [if_neg d]
        have e : up a j = up a i + 1 := by
          unfold up
          by_cases x : i < a
          · rw [if_pos x, if_pos (by omega)]; omega
          · rw [if_neg x, if_neg (by omega)]; omega
        rw [e, C_short (by omega)]
        exact Int.le_refl _
    · obtain ⟨k, h1, h2, e⟩ := C_ex (f := sk a f) (i := i) (j := j) (by omega)
      have q1 := ear_le (f := f) ha w i k (by omega) h1
      have q2 := ear_le (f := f) ha w k j (by omega) h2
      have lt1 : up a i < up a k := by
        unfold up; split <;> split <;> omega
      have lt2 : up a k < up a j := by
        unfold up; split <;> split <;> omega
      have q3 := C_le (f := f) lt1 lt2
      rw [sk_up (f := f) i, sk_up (f := f) j] at q3
      rw [e]
      generalize u (f (a - 1)) (f (a + 1)) = z at q1 q2 ⊢
      have hz : (if i < a ∧ a ≤ k then z else 0) + (if k < a ∧ a ≤ j then z else 0) = (if i < a ∧ a ≤ j then z else 0) := by
        by_cases x : i < a ∧ a ≤ k
        · rw [if_pos x, if_neg (by omega), if_pos (by omega)]; omega
        · rw [if_neg x]
          by_cases y : k < a ∧ a ≤ j
          · rw [if_pos y, if_pos (by omega)]; omega
          · rw [if_neg y, if_neg (by omega)]; omega
      omega
theorem ear_ex {f : Nat → Int} : ∀ w i j : Nat, j - i ≤ w → i + 2 ≤ j → ∃ a, i < a ∧ a < j ∧ C (sk a f) i (j - 1) + u (f (a - 1)) (f (a + 1)) ≤ C f i j
  | 0, i, j, h, h' => by omega
  | w + 1, i, j, h, h' => by
    obtain ⟨k, h1, h2, e⟩ := C_ex (f := f) h'
    by_cases c : i + 2 ≤ k
    · obtain ⟨a, a1, a2, q⟩ := ear_ex (f := f) w i k (by omega) c
      refine ⟨a, a1, by omega, ?_⟩
      have q3 := C_le (f := sk a f) (i := i) (j := j - 1) (k := k - 1) (by omega) (by omega)
      have e1 : sk a f i = f i := by unfold sk; rw [if_pos a1]
      have e2 : sk a f (j - 1) = f j := by unfold sk; rw [if_neg (by omega)]; congr 1; omega
      have e3 : C (sk a f) (k - 1) (j - 1) = C f k j := by
        have z := C_shift (f := sk a f) (g := f) 1 (i := k - 1) (j := j - 1) fun t x y => by unfold sk; rw [if_neg (by omega)]
        rw [z]
        congr 1 <;> omega
      rw [e1, e2, e3] at q3
      omega
    · by_cases d : j = i + 2
      · subst d
        refine ⟨i + 1, by omega, by omega, ?_⟩
        have ek : k = i + 1 := by omega
        subst ek
        rw [C_short (f := sk (i + 1) f) (by omega), e, C_short (f := f) (by omega), C_short (f := f) (by omega)]
        show (0 : Int) + u (f i) (f (i + 2)) ≤ 0 + 0 + u (f i) (f (i + 2))
        omega
      · obtain ⟨a, a1, a2, q⟩ := ear_ex (f := f) w k j (by omega) (by omega)
        refine ⟨a, by omega, a2, ?_⟩
        have q3 := C_le (f := sk a f) (i := i) (j := j - 1) (k := k) (by omega) (by omega)
        have e1 : sk a f i = f i := by unfold sk; rw [if_pos (by omega)]
        have e2 : sk a f (j - 1) = f j := by unfold sk; rw [if_neg (by omega)]; congr 1; omega
        have e3 : C (sk a f) i k = C f i k := C_shift (f := sk a f) (g := f) 0 fun t x y => by unfold sk; rw [if_pos (by omega)]; rfl
        rw [e1, e2, e3] at q3
        omega

/-! ### rows of kinds -/
def at0 (l : List Int) : Nat → Int := fun t => l.getD t 0
def least (l : List Int) : Int := C (at0 l) 0 (l.length - 1)
/-- the toll of taking the bead at place a -/
def ear (l : List Int) (a : Nat) : Int := u (at0 l (a - 1)) (at0 l (a + 1))
def loss (l : List Int) (a : Nat) : Int := ear l a + least (l.eraseIdx a) - least l
theorem at0_erase (l : List Int) (a : Nat) : at0 (l.eraseIdx a) = sk a (at0 l) := by
  funext t
  unfold at0 sk
  rw [List.getD_eq_getElem?_getD, List.getElem?_eraseIdx]
  by_cases c : t < a
  · rw [if_pos c, if_pos c, ← List.getD_eq_getElem?_getD]
  · rw [if_neg c, if_neg c, ← List.getD_eq_getElem?_getD]
theorem least_short {l : List Int} (h : l.length ≤ 2) : least l = 0 := C_short (by omega)
theorem loss_nonneg {l : List Int} {a : Nat} (h1 : 1 ≤ a) (h2 : a + 1 < l.length) : 0 ≤ loss l a := by
  unfold loss least ear
  rw [at0_erase, List.length_eraseIdx, if_pos (by omega)]
  have q := ear_le (f := at0 l) h1 (l.length - 1) 0 (l.length - 1 - 1) (by omega) (by omega)
  have e1 : up a 0 = 0 := by unfold up; rw [if_pos (by omega)]
  have e2 : up a (l.length - 1 - 1) = l.length - 1 := by unfold up; rw [if_neg (by omega)]; omega
  rw [e1, e2, if_pos (by omega)] at q
  omega
theorem loss_ex {l : List Int} (h : 3 ≤ l.length) : ∃ a, 1 ≤ a ∧ a + 1 < l.length ∧ loss l a = 0 := by
  obtain ⟨a, h1, h2, q⟩ := ear_ex (f := at0 l) (l.length - 1) 0 (l.length - 1) (by omega) (by omega)
  refine ⟨a, h1, by omega, ?_⟩
  have z := loss_nonneg (l := l) (a := a) h1 (by omega)
  have w : loss l a ≤ 0 := by
    unfold loss least ear
    rw [at0_erase, List.length_eraseIdx, if_pos (by omega)]
    omega
  omega
/-- the first place whose bead loses nothing -/
def firstAt (l : List Int) : Nat := ((List.range l.length).find? fun a => decide (1 ≤ a ∧ a + 1 < l.length ∧ loss l a = 0)).getD 0
theorem find_range (p : Nat → Bool) : ∀ n k : Nat, ((List.range n).find? p = some k) ↔ (k < n ∧ p k = true ∧ ∀ j, j < k → p j = false) := by
  intro n k
  rw [List.find?_range_eq_some]
  constructor
  · rintro ⟨h1, h2, h3⟩
    exact ⟨List.mem_range.mp h2, h1, fun j hj => by simpa using h3 j hj⟩
  · rintro ⟨h1, h2, h3⟩
    exact ⟨h2, List.mem_range.mpr h1, fun j hj => by simpa using h3 j hj⟩
theorem firstAt_of {l : List Int} {a : Nat} (h1 : 1 ≤ a) (h2 : a + 1 < l.length) (h3 : loss l a = 0) (h4 : ∀ j, 1 ≤ j → j < a → loss l j ≠ 0) : firstAt l = a := by
  unfold firstAt
  rw [(find_range _ l.length a).mpr ⟨by omega, by simp [h1, h2, h3], fun j hj => by
    by_cases c : 1 ≤ j
    · simp [h4 j c hj]
    · simp [c]⟩]
  rfl
theorem firstAt_spec {l : List Int} (h : 3 ≤ l.length) : 1 ≤ firstAt l ∧ firstAt l + 1 < l.length ∧ loss l (firstAt l) = 0 ∧ ∀ j, 1 ≤ j → j < firstAt l → loss l j ≠ 0 := by
  obtain ⟨a, h1, h2, h3⟩ := loss_ex h
  have : ∃ k, (List.range l.length).find? (fun a => decide (1 ≤ a ∧ a + 1 < l.length ∧ loss l a = 0)) = some k := by
    cases e : (List.range l.length).find? (fun a => decide (1 ≤ a ∧ a + 1 < l.length ∧ loss l a = 0)) with
    | some k => exact ⟨k, rfl⟩
    | none =>
      have := List.find?_eq_none.mp e a (List.mem_range.mpr (by omega))
      simp [h1, h2, h3] at this
  obtain ⟨k, e⟩ := this
  obtain ⟨k1, k2, k3⟩ := (find_range _ l.length k).mp e
  have ek : firstAt l = k := by unfold firstAt; rw [e]; rfl
  have k2 := of_decide_eq_true k2
  rw [ek]
  refine ⟨k2.1, k2.2.1, k2.2.2, fun j hj hk => ?_⟩
  have := of_decide_eq_false (k3 j hk)
  intro z
  exact this ⟨hj, by omega, z⟩
end Bm

/-! Orders: what is played, the order of the first beads without loss, all orders in ascending order. -/
namespace Bm

theorem map_erase (f : Nat → Int) (st : List Nat) (a : Nat) : (st.eraseIdx a).map f = (st.map f).eraseIdx a := by
  refine List.ext_getElem? fun i => ?_
  rw [List.getElem?_map, List.getElem?_eraseIdx, List.getElem?_eraseIdx]
  split <;> rw [List.getElem?_map]
theorem erase_filter : ∀ {st : List Nat} {a b : Nat}, st.Nodup → st[a]? = some b → st.eraseIdx a = st.filter fun x => x != b
  | [], _, _, _, h => by simp at h
  | x :: r, 0, b, hn, h => by
    have e : x = b := by simpa using h
    subst e
    have hx := (List.nodup_cons.mp hn).1
    rw [List.eraseIdx_cons_zero, List.filter_cons_of_neg (by simp)]
    symm
    refine List.filter_eq_self.mpr fun y hy => ?_
    have : y ≠ x := fun e => hx (e ▸ hy)
    simpa using this
  | x :: r, a + 1, b, hn, h => by
    have h' : r[a]? = some b := by simpa using h
    have hb : b ∈ r := List.mem_of_getElem? h'
    have hx : x ≠ b := fun e => (List.nodup_cons.mp hn).1 (e ▸ hb)
    rw [List.eraseIdx_cons_succ, List.filter_cons_of_pos (by simpa using hx), erase_filter (List.nodup_cons.mp hn).2 h']
theorem idx_of {st : List Nat} {a b : Nat} (hn : st.Nodup) (h : st[a]? = some b) : st.idxOf b = a := by
  obtain ⟨ha, e⟩ := List.getElem?_eq_some_iff.mp h
  have hb : b ∈ st := List.mem_of_getElem? h
  have hlt := List.idxOf_lt_length_of_mem hb
  have e2 : st[st.idxOf b] = b := List.getElem_idxOf hlt
  exact (List.getElem_inj hn).mp (e2.trans e.symm)
theorem nodup_erase {st : List Nat} (a : Nat) (hn : st.Nodup) : (st.eraseIdx a).Nodup := List.Sublist.nodup (List.eraseIdx_sublist ..) hn
theorem getD_map {f : Nat → Int} {st : List Nat} {i : Nat} (h : i < st.length) : at0 (st.map f) i = f (st.getD i 0) := by
  unfold at0
  rw [List.getD_eq_getElem?_getD, List.getD_eq_getElem?_getD, List.getElem?_map, List.getElem?_eq_getElem h]
  rfl
theorem ear_map {f : Nat → Int} {st : List Nat} {a : Nat} (h : a + 1 < st.length) : ear (st.map f) a = u (f (st.getD (a - 1) 0)) (f (st.getD (a + 1) 0)) := by
  unfold ear
  rw [getD_map (by omega), getD_map h]

/-! ### playing -/
/-- the beads that stand, the tolls so far -/
def stp (f : Nat → Int) (q : List Nat × Int) (b : Nat) : List Nat × Int :=
  (q.1.eraseIdx (q.1.idxOf b), q.2 + u (f (q.1.getD (q.1.idxOf b - 1) 0)) (f (q.1.getD (q.1.idxOf b + 1) 0)))
def play (f : Nat → Int) (st r : List Nat) : List Nat × Int := r.foldl (stp f) (st, 0)
theorem play_snoc (f : Nat → Int) (st r : List Nat) (b : Nat) : play f st (r ++ [b]) = stp f (play f st r) b := by
  unfold play
  rw [List.foldl_append]
  rfl
def pot (f : Nat → Int) (q : List Nat × Int) : Int := q.2 + least (q.1.map f)
theorem pot_stp {f : Nat → Int} {q : List Nat × Int} {a b : Nat} (hi : q.1.idxOf b = a) (h : a + 1 < q.1.length) : pot f (stp f q b) = pot f q + loss (q.1.map f) a := by
  unfold pot stp loss
  rw [hi]
  dsimp only
  rw [map_erase, ear_map h]
  omega
theorem filter_snoc (l r : List Nat) (b : Nat) : (l.filter fun x => !r.contains x).filter (fun x => x != b) = l.filter fun x => !(r ++ [b]).contains x := by
  rw [List.filter_filter]
  refine List.filter_congr fun x _ => ?_
  cases h : r.contains x <;> by_cases c : x = b <;> simp_all
def row (items : List Nat) (e0 e1 : Nat) : List Nat := e0 :: (items ++ [e1])
theorem row_len (items : List Nat) (e0 e1 : Nat) : (row items e0 e1).length = items.length + 2 := by simp [row]
theorem row_get {items : List Nat} {e0 e1 t : Nat} (h : t < items.length) : (row items e0 e1)[t + 1]? = items[t]? := by
  unfold row
  rw [List.getElem?_cons_succ, List.getElem?_append_left h]
structure Ends (items : List Nat) (e0 e1 : Nat) : Prop where
  nd : (row items e0 e1).Nodup
theorem Ends.nd0 {items : List Nat} {e0 e1 : Nat} (h : Ends items e0 e1) : e0 ∉ items := fun m => (List.nodup_cons.mp h.nd).1 (List.mem_append_left _ m)
theorem Ends.nd1 {items : List Nat} {e0 e1 : Nat} (h : Ends items e0 e1) : e1 ∉ items := fun m => by
  have := List.nodup_append.mp (List.nodup_cons.mp h.nd).2
  exact this.2.2 _ m _ (List.mem_singleton.mpr rfl) rfl
theorem Ends.ndi {items : List Nat} {e0 e1 : Nat} (h : Ends items e0 e1) : items.Nodup := (List.nodup_append.mp (List.nodup_cons.mp h.nd).2).1
theorem Ends.filter {items : List Nat} {e0 e1 : Nat} (h : Ends items e0 e1) {r : List Nat} (hr : ∀ x ∈ r, x ∈ items) : (row items e0 e1).filter (fun x => !r.contains x) = row (items.filter fun x => !r.contains x) e0 e1 := by
  have h0 : e0 ∉ r := fun m => h.nd0 (hr _ m)
  have h1 : e1 ∉ r := fun m => h.nd1 (hr _ m)
  unfold row
  rw [List.filter_cons_of_pos (by simpa using h0), List.filter_append, List.filter_cons_of_pos (by simpa using h1)]
  rfl
theorem Ends.sub {items : List Nat} {e0 e1 : Nat} (h : Ends items e0 e1) (p : Nat → Bool) : Ends (items.filter p) e0 e1 := by
  refine ⟨List.Sublist.nodup ?_ h.nd⟩
  exact List.Sublist.cons_cons _ (List.Sublist.append (List.filter_sublist) (List.Sublist.refl _))
/-- where an inner bead stands -/
theorem Ends.idx {items : List Nat} {e0 e1 b : Nat} (h : Ends items e0 e1) (hb : b ∈ items) : (row items e0 e1).idxOf b = items.idxOf b + 1 ∧ items.idxOf b < items.length := by
  have hlt := List.idxOf_lt_length_of_mem hb
  refine ⟨idx_of h.nd ?_, hlt⟩
  rw [row_get hlt, List.getElem?_eq_getElem hlt, List.getElem_idxOf hlt]

theorem play_row {items : List Nat} {e0 e1 : Nat} {f : Nat → Int} (h : Ends items e0 e1) : ∀ (n : Nat) (r : List Nat), r.length = n → r.Nodup → (∀ x ∈ r, x ∈ items) → (play f (row items e0 e1) r).1 = row (items.filter fun x => !r.contains x) e0 e1
  | 0, r, hl, _, _ => by
    have e : r = [] := List.length_eq_zero_iff.mp hl
    subst e
    show row items e0 e1 = _
    congr 1
    symm
    exact List.filter_eq_self.mpr fun x _ => by simp
  | n + 1, r, hl, hn, hr => by
    have hne : r ≠ [] := fun e => by rw [e] at hl; cases hl
    obtain ⟨r', b, rfl⟩ : ∃ r' b, r = r' ++ [b] := ⟨r.dropLast, r.getLast hne, (List.dropLast_concat_getLast hne).symm⟩
    have hr' : ∀ x ∈ r', x ∈ items := fun x m => hr x (List.mem_append_left _ m)
    have hn' := List.nodup_append.mp hn
    have ih := play_row (f := f) h n r' (by simpa using hl) hn'.1 hr'
    have hb : b ∈ items.filter fun x => !r'.contains x := by
      refine List.mem_filter.mpr ⟨hr b (by simp), ?_⟩
      have : b ∉ r' := fun m => hn'.2.2 _ m _ (List.mem_singleton.mpr rfl) rfl
      simpa using this
    have hs := h.sub fun x => !r'.contains x
    obtain ⟨i1, i2⟩ := hs.idx hb
    rw [play_snoc]
    show (play f (row items e0 e1) r').1.eraseIdx ((play f (row items e0 e1) r').1.idxOf b) = _
    rw [ih, i1]
    have hg : (row (items.filter fun x => !r'.contains x) e0 e1)[(items.filter fun x => !r'.contains x).idxOf b + 1]? = some b := by
      rw [row_get i2, List.getElem?_eq_getElem i2, List.getElem_idxOf i2]
    rw [erase_filter hs.nd hg, ← h.filter hr', filter_snoc, h.filter hr]
/-- a step within a run -/
theorem run_step {items : List Nat} {e0 e1 : Nat} {f : Nat → Int} (h : Ends items e0 e1) {r : List Nat} (hn : r.Nodup) (hr : ∀ x ∈ r, x ∈ items) {i b : Nat} (hb : r[i]? = some b) :
    ∃ a, 1 ≤ a ∧ a + 1 < (play f (row items e0 e1) (r.take i)).1.length ∧ (play f (row items e0 e1) (r.take i)).1[a]? = some b ∧ (play f (row items e0 e1) (r.take i)).1.Nodup ∧
      (play f (row items e0 e1) (r.take i)).1.idxOf b = a ∧ play f (row items e0 e1) (r.take (i + 1)) = stp f (play f (row items e0 e1) (r.take i)) b := by
  obtain ⟨hi, e⟩ := List.getElem?_eq_some_iff.mp hb
  have hr' : ∀ x ∈ r.take i, x ∈ items := fun x m => hr x (List.mem_of_mem_take m)
  have hn' : (r.take i).Nodup := List.Sublist.nodup (List.take_sublist ..) hn
  have sh := play_row (f := f) h _ _ rfl hn' hr'
  have hs := h.sub fun x => !(r.take i).contains x
  have hbi : b ∈ items.filter fun x => !(r.take i).contains x := by
    refine List.mem_filter.mpr ⟨hr b (List.mem_of_getElem? hb), ?_⟩
    have : b ∉ r.take i := fun m => by
      obtain ⟨j, hj, ej⟩ := List.getElem_of_mem m
      rw [List.length_take] at hj
      rw [List.getElem_take] at ej
      have := (List.getElem_inj hn).mp (ej.trans e.symm)
      omega
    simpa using this
  obtain ⟨i1, i2⟩ := hs.idx hbi
  rw [sh]
  refine ⟨(items.filter fun x => !(r.take i).contains x).idxOf b + 1, by omega, ?_, ?_, hs.nd, i1, ?_⟩
  · rw [row_len]
    omega
  · rw [row_get i2, List.getElem?_eq_getElem i2, List.getElem_idxOf i2]
  · rw [← play_snoc]
    congr 1
    rw [List.take_succ, hb]
    rfl
theorem pot_step {items : List Nat} {e0 e1 : Nat} {f : Nat → Int} (h : Ends items e0 e1) {r : List Nat} (hn : r.Nodup) (hr : ∀ x ∈ r, x ∈ items) {i b : Nat} (hb : r[i]? = some b) :
    pot f (play f (row items e0 e1) (r.take (i + 1))) = pot f (play f (row items e0 e1) (r.take i)) + loss ((play f (row items e0 e1) (r.take i)).1.map f) ((play f (row items e0 e1) (r.take i)).1.idxOf b) := by
  obtain ⟨a, a1, a2, a3, a4, a5, a6⟩ := run_step (f := f) h hn hr hb
  rw [a6, pot_stp a5 a2, a5]
theorem pot_ge {items : List Nat} {e0 e1 : Nat} {f : Nat → Int} (h : Ends items e0 e1) {r : List Nat} (hn : r.Nodup) (hr : ∀ x ∈ r, x ∈ items) : ∀ i j, i ≤ j → j ≤ r.length → pot f (play f (row items e0 e1) (r.take i)) ≤ pot f (play f (row items e0 e1) (r.take j))
  | i, 0, h1, _ => by
    have e : i = 0 := by omega
    rw [e]; exact Int.le_refl _
  | i, j + 1, h1, h2 => by
    by_cases c : i = j + 1
    · rw [c]; exact Int.le_refl _
    · have ih := pot_ge (f := f) h hn hr i j (by omega) (by omega)
      have hb : r[j]? = some r[j] := List.getElem?_eq_getElem (by omega)
      rw [pot_step h hn hr hb]
      obtain ⟨a, a1, a2, a3, a4, a5, a6⟩ := run_step (f := f) h hn hr hb
      rw [a5]
      have := loss_nonneg (l := (play f (row items e0 e1) (r.take j)).1.map f) a1 (by rw [List.length_map]; exact a2)
      omega
theorem pot_zero {f : Nat → Int} {st : List Nat} : pot f (play f st []) = least (st.map f) := by
  show (0 : Int) + least (st.map f) = _
  exact Int.zero_add _

/-! ### the first beads without loss -/
def gs (f : Nat → Int) (st : List Nat) : Nat → List Nat
  | 0 => st
  | s + 1 => (gs f st s).eraseIdx (firstAt ((gs f st s).map f))
def gb (f : Nat → Int) (st : List Nat) (s : Nat) : Nat := (gs f st s).getD (firstAt ((gs f st s).map f)) 0
def gor (f : Nat → Int) (st : List Nat) (m : Nat) : List Nat := (List.range m).map (gb f st)
theorem gor_succ (f : Nat → Int) (st : List Nat) (m : Nat) : gor f st (m + 1) = gor f st m ++ [gb f st m] := by
  unfold gor
  rw [List.range_succ, List.map_append]
  rfl
theorem gor_len (f : Nat → Int) (st : List Nat) (m : Nat) : (gor f st m).length = m := by
  unfold gor
  rw [List.length_map, List.length_range]
theorem gs_len {f : Nat → Int} {st : List Nat} : ∀ s, s + 2 ≤ st.length → (gs f st s).length = st.length - s
  | 0, _ => rfl
  | s + 1, h => by
    have ih := gs_len (f := f) (st := st) s (by omega)
    have sp := firstAt_spec (l := (gs f st s).map f) (by rw [List.length_map]; omega)
    rw [List.length_map] at sp
    show ((gs f st s).eraseIdx _).length = _
    rw [List.length_eraseIdx, if_pos (by omega)]
    omega
theorem gs_nodup {f : Nat → Int} {st : List Nat} (hn : st.Nodup) : ∀ s, (gs f st s).Nodup
  | 0 => hn
  | s + 1 => nodup_erase _ (gs_nodup hn s)
theorem gs_spec {f : Nat → Int} {st : List Nat} {s : Nat} (hs : s + 2 < st.length) :
    1 ≤ firstAt ((gs f st s).map f) ∧ firstAt ((gs f st s).map f) + 1 < (gs f st s).length ∧ loss ((gs f st s).map f) (firstAt ((gs f st s).map f)) = 0 ∧ (∀ j, 1 ≤ j → j < firstAt ((gs f st s).map f) → loss ((gs f st s).map f) j ≠ 0) ∧
      (gs f st s)[firstAt ((gs f st s).map f)]? = some (gb f st s) := by
  have e := gs_len (f := f) (st := st) s (by omega)
  obtain ⟨a, b, c, d⟩ := firstAt_spec (l := (gs f st s).map f) (by rw [List.length_map]; omega)
  rw [List.length_map] at b
  refine ⟨a, b, c, d, ?_⟩
  unfold gb
  rw [List.getD_eq_getElem?_getD, List.getElem?_eq_getElem (by omega)]
  rfl
theorem play_gor {f : Nat → Int} {st : List Nat} (hn : st.Nodup) : ∀ s, s + 2 ≤ st.length → (play f st (gor f st s)).1 = gs f st s ∧ pot f (play f st (gor f st s)) = least (st.map f)
  | 0, _ => ⟨rfl, pot_zero⟩
  | s + 1, h => by
    obtain ⟨i1, i2⟩ := play_gor hn s (by omega)
    obtain ⟨a, b, c, d, e⟩ := gs_spec (f := f) (st := st) (s := s) (by omega)
    have ix := idx_of (gs_nodup hn s) e
    rw [gor_succ, play_snoc]
    constructor
    · show (play f st (gor f st s)).1.eraseIdx ((play f st (gor f st s)).1.idxOf (gb f st s)) = _
      rw [i1, ix]
      rfl
    · rw [pot_stp (a := firstAt ((gs f st s).map f)) (by rw [i1, ix]) (by rw [i1]; exact b), i2, i1, c]
      omega

/-! ### all orders in ascending order -/
def ext1 (items r : List Nat) : List (List Nat) := (items.filter fun x => !r.contains x).map fun x => r ++ [x]
def ext (items : List Nat) (rows : List (List Nat)) : List (List Nat) := rows.flatMap (ext1 items)
def asc (items : List Nat) : Nat → List (List Nat)
  | 0 => [[]]
  | s + 1 => ext items (asc items s)
theorem asc_inv {items : List Nat} : ∀ s r, r ∈ asc items s → r.Nodup ∧ (∀ x ∈ r, x ∈ items) ∧ r.length = s
  | 0, r, h => by
    have e : r = [] := by simpa [asc] using h
    subst e
    exact ⟨List.nodup_nil, fun x m => (by cases m), rfl⟩
  | s + 1, r, h => by
    obtain ⟨r', h1, h2⟩ := List.mem_flatMap.mp h
    obtain ⟨x, hx, rfl⟩ := List.mem_map.mp h2
    obtain ⟨a, b, c⟩ := asc_inv s r' h1
    obtain ⟨x1, x2⟩ := List.mem_filter.mp hx
    have x2 : x ∉ r' := by simpa using x2
    refine ⟨List.nodup_append.mpr ⟨a, by simp, fun y hy z hz => ?_⟩, fun y hy => ?_, by simp [c]⟩
    · have : z = x := by simpa using hz
      rw [this]
      exact fun e => x2 (e ▸ hy)
    · rcases List.mem_append.mp hy with m | m
      · exact b y m
      · have : y = x := by simpa using m
        rw [this]; exact x1
theorem asc_split {items : List Nat} {e0 e1 : Nat} {f : Nat → Int} (h : Ends items e0 e1) : ∀ s, s ≤ items.length →
    ∃ A B, asc items s = A ++ gor f (row items e0 e1) s :: B ∧ ∀ r ∈ A, least ((row items e0 e1).map f) < pot f (play f (row items e0 e1) r)
  | 0, _ => ⟨[], [], rfl, fun r m => by cases m⟩
  | s + 1, hs => by
    obtain ⟨A, B, hE, hA⟩ := asc_split (f := f) h s (by omega)
    have hlen : (row items e0 e1).length = items.length + 2 := row_len ..
    obtain ⟨g1, g2⟩ := play_gor (f := f) h.nd s (by omega)
    obtain ⟨n1, n2, n3⟩ := asc_inv s (gor f (row items e0 e1) s) (by rw [hE]; simp)
    have sh := play_row (f := f) h _ _ rfl n1 n2
    obtain ⟨a, b, c, d, e⟩ := gs_spec (f := f) (st := row items e0 e1) (s := s) (by omega)
    have sh' : gs f (row items e0 e1) s = row (items.filter fun x => !(gor f (row items e0 e1) s).contains x) e0 e1 := g1.symm.trans sh
    have snd : ((gs f (row items e0 e1) s)).Nodup := gs_nodup h.nd s
    generalize hm : (items.filter fun x => !(gor f (row items e0 e1) s).contains x) = mid at sh'
    generalize hF : firstAt ((gs f (row items e0 e1) s).map f) = F at a b c d e
    have hb : F - 1 < mid.length := by
      rw [sh', row_len] at b
      omega
    have hg : mid[F - 1]? = some (gb f (row items e0 e1) s) := by
      rw [sh'] at e
      obtain ⟨k, rfl⟩ : ∃ k, F = k + 1 := ⟨F - 1, by omega⟩
      rw [row_get (by simpa using hb)] at e
      simpa using e
    have hsplit : mid = mid.take (F - 1) ++ gb f (row items e0 e1) s :: mid.drop F := by
      have z := (List.take_append_drop (F - 1) mid).symm
      have y : mid.drop (F - 1) = gb f (row items e0 e1) s :: mid.drop F := by
        rw [List.drop_eq_getElem_cons hb]
        have : mid[F - 1] = gb f (row items e0 e1) s := by
          rw [List.getElem?_eq_getElem hb] at hg
          exact Option.some.inj hg
        rw [this]
        congr 2
        omega
      rw [y] at z
      exact z
    refine ⟨A.flatMap (ext1 items) ++ (mid.take (F - 1)).map fun x => gor f (row items e0 e1) s ++ [x], ((mid.drop F).map fun x => gor f (row items e0 e1) s ++ [x]) ++ B.flatMap (ext1 items), ?_, fun r hr => ?_⟩
    · show ext items (asc items s) = _
      unfold ext
      rw [hE, List.flatMap_append, List.flatMap_cons]
      have z : ext1 items (gor f (row items e0 e1) s) = ((mid.take (F - 1)).map fun x => gor f (row items e0 e1) s ++ [x]) ++ gor f (row items e0 e1) (s + 1) :: ((mid.drop F).map fun x => gor f (row items e0 e1) s ++ [x]) := by
        unfold ext1
        rw [hm, gor_succ]
        conv => lhs; rw [hsplit]
        rw [List.map_append, List.map_cons]
      rw [z]
      simp only [List.append_assoc, List.cons_append]
    · rcases List.mem_append.mp hr with m | m
      · obtain ⟨r', h1, h2⟩ := List.mem_flatMap.mp m
        have hin : r ∈ asc items (s + 1) := List.mem_flatMap.mpr ⟨r', by rw [hE]; exact List.mem_append_left _ h1, h2⟩
        obtain ⟨x, hx, rfl⟩ := List.mem_map.mp h2
        obtain ⟨p1, p2, p3⟩ := asc_inv _ _ hin
        have hl : (r' ++ [x]).length = r'.length + 1 := by simp
        have q := pot_ge (f := f) h p1 p2 r'.length (r'.length + 1) (by omega) (by rw [hl]; exact Nat.le_refl _)
        rw [List.take_left, List.take_of_length_le (by rw [hl]; exact Nat.le_refl _)] at q
        have := hA r' h1
        omega
      · obtain ⟨x, hx, rfl⟩ := List.mem_map.mp m
        obtain ⟨t, ht, et⟩ := List.getElem_of_mem hx
        have ht' := ht
        rw [List.length_take] at ht'
        rw [List.getElem_take] at et
        have pos : (gs f (row items e0 e1) s)[t + 1]? = some x := by
          rw [sh', row_get (by omega), List.getElem?_eq_getElem (by omega), et]
        have ix := idx_of snd pos
        have hlen2 : t + 1 + 1 < (gs f (row items e0 e1) s).length := by omega
        rw [play_snoc, pot_stp (a := t + 1) (by rw [g1]; exact ix) (by rw [g1]; exact hlen2), g2, g1]
        have d' := d (t + 1) (by omega) (by omega)
        have nn := loss_nonneg (l := (gs f (row items e0 e1) s).map f) (a := t + 1) (by omega) (by rw [List.length_map]; exact hlen2)
        omega
theorem gor_run {items : List Nat} {e0 e1 : Nat} {f : Nat → Int} (h : Ends items e0 e1) {s : Nat} (hs : s ≤ items.length) : (gor f (row items e0 e1) s).Nodup ∧ (∀ x ∈ gor f (row items e0 e1) s, x ∈ items) ∧ (gor f (row items e0 e1) s).length = s := by
  obtain ⟨A, B, hE, _⟩ := asc_split (f := f) h s hs
  exact asc_inv s _ (by rw [hE]; simp)
/-- a whole order leaves the two ends -/
theorem whole_len {items : List Nat} {e0 e1 : Nat} {f : Nat → Int} (h : Ends items e0 e1) {r : List Nat} (hn : r.Nodup) (hr : ∀ x ∈ r, x ∈ items) : (play f (row items e0 e1) r).1.length + r.length = items.length + 2 := by
  have key : ∀ i, i ≤ r.length → (play f (row items e0 e1) (r.take i)).1.length + i = items.length + 2 := by
    intro i
    induction i with
    | zero =>
      intro _
      simp [play, row]
    | succ i ih =>
      intro hi
      have ih := ih (by omega)
      obtain ⟨a, a1, a2, a3, a4, a5, a6⟩ := run_step (f := f) h hn hr (i := i) (List.getElem?_eq_getElem (by omega))
      rw [a6]
      show ((play f (row items e0 e1) (r.take i)).1.eraseIdx _).length + (i + 1) = _
      rw [a5, List.length_eraseIdx, if_pos (by omega)]
      omega
  have := key r.length (Nat.le_refl _)
  rw [List.take_length] at this
  exact this
theorem pot_whole {items : List Nat} {e0 e1 : Nat} {f : Nat → Int} (h : Ends items e0 e1) {r : List Nat} (hn : r.Nodup) (hr : ∀ x ∈ r, x ∈ items) (hl : r.length = items.length) : pot f (play f (row items e0 e1) r) = (play f (row items e0 e1) r).2 := by
  have := whole_len (f := f) h hn hr
  unfold pot
  rw [least_short (by rw [List.length_map]; omega)]
  omega
/-- where the least toll first stands among all orders -/
theorem first_thrifty {items : List Nat} {e0 e1 : Nat} (f : Nat → Int) (h : Ends items e0 e1) :
    ∃ j : Nat, (asc items items.length)[j]? = some (gor f (row items e0 e1) items.length) ∧
      (((asc items items.length).map fun r => (play f (row items e0 e1) r).2))[j]? = some (minL ((asc items items.length).map fun r => (play f (row items e0 e1) r).2)) ∧
      ∀ (i : Nat) (z : Int), i < j → (((asc items items.length).map fun r => (play f (row items e0 e1) r).2))[i]? = some z → z ≠ minL ((asc items items.length).map fun r => (play f (row items e0 e1) r).2) := by
  obtain ⟨A, B, hE, hA⟩ := asc_split (f := f) h items.length (Nat.le_refl _)
  have inv := fun r => asc_inv (items := items) items.length r
  have toll : ∀ r ∈ asc items items.length, pot f (play f (row items e0 e1) r) = (play f (row items e0 e1) r).2 := fun r m => by
    obtain ⟨a, b, c⟩ := inv r m
    exact pot_whole h a b c
  have ge : ∀ r ∈ asc items items.length, least ((row items e0 e1).map f) ≤ (play f (row items e0 e1) r).2 := fun r m => by
    obtain ⟨a, b, c⟩ := inv r m
    have := pot_ge (f := f) h a b 0 r.length (by omega) (Nat.le_refl _)
    rw [List.take_length, List.take_zero, pot_zero, toll r m] at this
    exact this
  have gin : gor f (row items e0 e1) items.length ∈ asc items items.length := by rw [hE]; simp
  have g2 := (play_gor (f := f) h.nd items.length (by rw [row_len]; exact Nat.le_refl _)).2
  rw [toll _ gin] at g2
  have mn : least ((row items e0 e1).map f) = minL ((asc items items.length).map fun r => (play f (row items e0 e1) r).2) := by
    refine minL_uniq (List.mem_map.mpr ⟨_, gin, g2⟩) fun y hy => ?_
    obtain ⟨r, hr, rfl⟩ := List.mem_map.mp hy
    exact ge r hr
  have at_ : (asc items items.length)[A.length]? = some (gor f (row items e0 e1) items.length) := by
    rw [hE, List.getElem?_append_right (Nat.le_refl _), Nat.sub_self]
    rfl
  refine ⟨A.length, at_, ?_, fun i z hi hz => ?_⟩
  · rw [← mn, List.getElem?_map, at_, ← g2]
    rfl
  · rw [← mn]
    rw [List.getElem?_map] at hz
    have hi2 : (asc items items.length)[i]? = some A[i] := by
      rw [hE, List.getElem?_append_left hi, List.getElem?_eq_getElem hi]
    rw [hi2] at hz
    have ez : (play f (row items e0 e1) A[i]).2 = z := Option.some.inj hz
    have hm : A[i] ∈ A := List.getElem_mem hi
    have hlt := hA _ hm
    rw [toll _ (by rw [hE]; exact List.mem_append_left _ hm), ez] at hlt
    omega

/-! ### beads 0 to n - 1 -/
def inner (n : Nat) : List Nat := (List.range (n - 2)).map (· + 1)
theorem inner_len (n : Nat) : (inner n).length = n - 2 := by simp [inner]
theorem mem_inner {n x : Nat} : x ∈ inner n ↔ 1 ≤ x ∧ x + 1 < n := by
  unfold inner
  rw [List.mem_map]
  constructor
  · rintro ⟨y, hy, rfl⟩
    have := List.mem_range.mp hy
    omega
  · rintro ⟨a, b⟩
    exact ⟨x - 1, List.mem_range.mpr (by omega), by omega⟩
theorem range_row {n : Nat} (h : 2 ≤ n) : List.range n = row (inner n) 0 (n - 1) := by
  obtain ⟨m, rfl⟩ : ∃ m, n = m + 2 := ⟨n - 2, by omega⟩
  unfold row inner
  rw [List.range_succ, List.range_succ_eq_map]
  show 0 :: (List.map Nat.succ (List.range m)) ++ [m + 1] = 0 :: ((List.range m).map (· + 1) ++ [m + 1])
  rfl
theorem ends_row {n : Nat} (h : 2 ≤ n) : Ends (inner n) 0 (n - 1) := ⟨by
  have := List.nodup_range (n := n)
  rw [range_row h] at this
  exact this⟩
theorem kinds_row (ks : List Int) : (List.range ks.length).map (at0 ks) = ks := by
  refine List.ext_getElem? fun i => ?_
  rw [List.getElem?_map]
  by_cases c : i < ks.length
  · rw [List.getElem?_range c, List.getElem?_eq_getElem c]
    show some (at0 ks i) = _
    unfold at0
    rw [List.getD_eq_getElem?_getD, List.getElem?_eq_getElem c]
    rfl
  · rw [List.getElem?_eq_none (by simpa using c), List.getElem?_eq_none (by simpa using c)]
    rfl
end Bm

/-! The program's defs by their places, and what the walk asks of the top. -/
namespace Bm
open PySem L2

def topS (i : Nat) : Stmt := PySem.Challenge.pw_beadmoot_k40_whole_thrift.main.body.getD i (.Pass ⟨0, 0, 0, 0⟩)
abbrev sMark : Stmt := topS 14
abbrev sPrI : Stmt := inClass (topS 15) 0
abbrev sPrC : Stmt := inClass (topS 15) 1
abbrev sSpans : Stmt := topS 17
abbrev sPbl : Stmt := topS 18
abbrev sFloors : Stmt := topS 19
abbrev sLeast : Stmt := topS 20
abbrev sStI : Stmt := inClass (topS 22) 2
abbrev sRoI : Stmt := inClass (topS 24) 0
abbrev sRoSt : Stmt := inClass (topS 24) 1
abbrev sRoCs : Stmt := inClass (topS 24) 5
abbrev sRoCi : Stmt := inClass (topS 24) 6
abbrev sRoNb : Stmt := inClass (topS 24) 7
abbrev sRoMk : Stmt := inClass (topS 24) 8
abbrev sRoTo : Stmt := inClass (topS 24) 9
abbrev sRoTk : Stmt := inClass (topS 24) 10
abbrev sRoGr : Stmt := inClass (topS 24) 13
abbrev sRoRe : Stmt := inClass (topS 24) 15
abbrev sWithout : Stmt := topS 26
abbrev sLToll : Stmt := topS 27
abbrev sFprice : Stmt := topS 29
abbrev sFtotals : Stmt := topS 30
abbrev sLosses : Stmt := topS 31
abbrev sThrift : Stmt := topS 32
abbrev sCell : Stmt := topS 34
abbrev sMixed : Stmt := topS 35
abbrev sDraws : Stmt := topS 36
abbrev sShuf : Stmt := topS 37
abbrev sKinds : Stmt := topS 38
abbrev sIsInt : Stmt := topS 39
abbrev sIsRun : Stmt := topS 40
abbrev sIsOrd : Stmt := topS 41
abbrev sSame : Stmt := topS 42
abbrev sBeads : Stmt := topS 43
abbrev sAsc : Stmt := topS 44
abbrev sToll : Stmt := topS 45
abbrev sLLeast : Stmt := topS 46
abbrev sFirst : Stmt := topS 47
abbrev sThrifty : Stmt := topS 48
abbrev sAdds : Stmt := topS 49
abbrev sLaw : Stmt := topS 50

/-- a def of the top, by its name -/
structure Dn (K : PySem.W.Frag) (mg : Str → Option Value) (x : Str) (st : Stmt) (ps : List Str) : Prop where
  ex : ∃ (f : Addr) (fd : FuncData), Fun K x x st f fd ∧ mg x = some (.ref f) ∧ Binds K fd ps []
/-- a method of a class -/
structure Mn (K : PySem.W.Frag) (C : Addr) (x qual : Str) (st : Stmt) (ps : List Str) : Prop where
  ex : ∃ (f : Addr) (fd : FuncData), Fun K x qual st f fd ∧ Meth K C x f ∧ Binds K fd ps []

/-- what the walk asks of the top: CP, CS, CR stand for Prices, Strand, Row -/
structure Txt (K : PySem.W.Frag) (mg : Str → Option Value) (CP CS CR : Addr) : Prop where
  pCl : Cls K CP
  sCl : Cls K CS
  rCl : Cls K CR
  pMg : mg "Prices" = some (.ref CP)
  sMg : mg "Strand" = some (.ref CS)
  rMg : mg "Row" = some (.ref CR)
  pNo : ∀ x ∈ (["quiet", "odd", "edge", "strife"] : List Str), NoAttr K CP x
  sNo : ∀ x ∈ (["kinds", "size", "unlike_pairs", "ends_unlike", "variety"] : List Str), NoAttr K CS x
  rNo : ∀ x ∈ (["_kinds", "_standing", "_taken", "_marks", "_meetings", "_deeds"] : List Str), NoAttr K CR x
  pIn : ∃ (f : Addr) (fd : FuncData), Mk K CP f ∧ FunD K "__init__" "Prices.__init__" (defArgs sPrI) (defBody sPrI) (defScope sPrI) [] [("quiet", .int 0), ("odd", .int 0), ("edge", .int 1), ("strife", .int 1)] f fd
  sIn : ∃ (f : Addr) (fd : FuncData), Mk K CS f ∧ Fun K "__init__" "Strand.__init__" sStI f fd ∧ Binds K fd ["self", "kinds"] []
  rIn : ∃ (f : Addr) (fd : FuncData), Mk K CR f ∧ Fun K "__init__" "Row.__init__" sRoI f fd ∧ Binds K fd ["self", "strand"] []
  pCa : ∃ (f : Addr) (fd : FuncData), StX.CallO K CP f ∧ Fun K "__call__" "Prices.__call__" sPrC f fd ∧ Binds K fd ["self", "mark"] []
  rSt : ∃ (p f : Addr) (fd : FuncData), PropOf K CR "standing" p f ∧ Fun K "standing" "Row.standing" sRoSt f fd ∧ Binds K fd ["self"] []
  sRd : ClX.CRead K CS (.type "type")
  sMo : ∃ u, ClX.CVal K CS (.type "type") "MOST" (.int 24) u
  sTo : ∃ u, ClX.CVal K CS (.type "type") "TOP_KIND" (.int 999) u
  marks : ∃ aM, mg "MARKS" = some (.ref aM) ∧ ∀ H : Hp, SqT K H aM [.str "quiet", .str "odd", .str "edge", .str "strife"]
  top : ∃ t, mg "TOP_PRICE" = some (.int 1000000000 t)
  bn : ∀ x ∈ (["len", "range", "int", "list", "tuple", "set", "min", "zip", "reversed", "isinstance", "bool", "str", "dict"] : List Str), mg x = none
  mCs : Mn K CR "_check_standing" "Row._check_standing" sRoCs ["self", "bead"]
  mCi : Mn K CR "_check_inner" "Row._check_inner" sRoCi ["self", "bead"]
  mNb : Mn K CR "neighbours" "Row.neighbours" sRoNb ["self", "bead"]
  mMk : Mn K CR "mark" "Row.mark" sRoMk ["self", "bead"]
  mTo : Mn K CR "_take_out" "Row._take_out" sRoTo ["self", "bead"]
  mTk : Mn K CR "take" "Row.take" sRoTk ["self", "bead"]
  mGr : Mn K CR "grow" "Row.grow" sRoGr ["self", "kind"]
  mRe : Mn K CR "rest" "Row.rest" sRoRe ["self"]
  dMark : Dn K mg "mark_of" sMark ["left", "bead", "right"]
  dSpans : Dn K mg "all_spans" sSpans ["size"]
  dPbl : Dn K mg "prices_by_last" sPbl ["kinds", "prices", "table", "span"]
  dFloors : Dn K mg "floors" sFloors ["strand", "prices"]
  dLeast : Dn K mg "least_total" sLeast ["strand", "prices"]
  dWithout : Dn K mg "without" sWithout ["strand", "bead"]
  dLToll : Dn K mg "least_toll" sLToll ["strand"]
  dFprice : Dn K mg "first_price" sFprice ["strand", "bead", "prices"]
  dFtotals : Dn K mg "first_totals" sFtotals ["strand", "prices"]
  dLosses : Dn K mg "losses" sLosses ["row"]
  dThrift : Dn K mg "thrift_order" sThrift ["strand"]
  dCell : Dn K mg "_law_cell" sCell ["_law_script", "_law_at"]
  dMixed : Dn K mg "_law_mixed" sMixed ["_law_cell_here", "_law_k"]
  dDraws : Dn K mg "_law_draws" sDraws ["_law_cell_here", "_law_count", "_law_size"]
  dShuf : Dn K mg "_law_shuffled" sShuf ["_law_cell_here", "_law_items"]
  dKinds : Dn K mg "_law_kinds" sKinds ["_law_script", "_law_at", "_law_most"]
  dIsInt : Dn K mg "_law_is_integer" sIsInt ["_law_actual"]
  dIsRun : Dn K mg "_law_is_run" sIsRun ["_law_actual", "_law_size"]
  dIsOrd : Dn K mg "_law_is_order" sIsOrd ["_law_actual", "_law_size"]
  dSame : Dn K mg "_law_same" sSame ["_law_actual", "_law_expected"]
  dBeads : Dn K mg "_law_beads" sBeads ["_law_script", "_law_at", "_law_most"]
  dAsc : Dn K mg "_law_ascending_orders" sAsc ["_law_items"]
  dToll : Dn K mg "_law_toll" sToll ["_law_kinds_here", "_law_run"]
  dLLeast : Dn K mg "_law_least" sLLeast ["_law_kinds_here"]
  dFirst : Dn K mg "_law_first_thrifty" sFirst ["_law_kinds_here"]
  dThrifty : Dn K mg "_law_is_thrifty" sThrifty ["_law_kinds_here", "_law_told"]
  dAdds : Dn K mg "_law_adds_up" sAdds ["_law_kinds_here", "_law_order", "_law_begun"]

section
variable {K : PySem.W.Frag} {mg : Str → Option Value} {CP CS CR : Addr}
theorem Txt.b (T : Txt K mg CP CS CR) (x : Str) (h : x ∈ (["len", "range", "int", "list", "tuple", "set", "min", "zip", "reversed", "isinstance", "bool", "str", "dict"] : List Str) := by decide +kernel) : mg x = none := T.bn x h
theorem Txt.p (T : Txt K mg CP CS CR) (x : Str) (h : x ∈ (["quiet", "odd", "edge", "strife"] : List Str) := by decide +kernel) : NoAttr K CP x := T.pNo x h
theorem Txt.s (T : Txt K mg CP CS CR) (x : Str) (h : x ∈ (["kinds", "size", "unlike_pairs", "ends_unlike", "variety"] : List Str) := by decide +kernel) : NoAttr K CS x := T.sNo x h
theorem Txt.r (T : Txt K mg CP CS CR) (x : Str) (h : x ∈ (["_kinds", "_standing", "_taken", "_marks", "_meetings", "_deeds"] : List Str) := by decide +kernel) : NoAttr K CR x := T.rNo x h
end
end Bm

/-! What the top leaves, as facts that the head finds. Printed by gen_end.py. -/
namespace Bm
open PySem L2
theorem txt_mk {K : PySem.W.Frag} {h : Heap} {mg : Str → Option Value} (X : K.In h) (G : h.Ns mainGlobals mg) {CP CS CR aM pSt dKw fpi fsi fri fpc frs fm0 fm1 fm2 fm3 fm4 fm5 fm6 fm7 fd0 fd1 fd2 fd3 fd4 fd5 fd6 fd7 fd8 fd9 fd10 fd11 fd12 fd13 fd14 fd15 fd16 fd17 fd18 fd19 fd20 fd21 fd22 fd23 fd24 fd25 fd26 : Addr} {odpi anpi odsi ansi odri anri odpc anpc odrs anrs odm0 anm0 odm1 anm1 odm2 anm2 odm3 anm3 odm4 anm4 odm5 anm5 odm6 anm6 odm7 anm7 odd0 and0 odd1 and1 odd2 and2 odd3 and3 odd4 and4 odd5 and5 odd6 and6 odd7 and7 odd8 and8 odd9 and9 odd10 and10 odd11 and11 odd12 and12 odd13 and13 odd14 and14 odd15 and15 odd16 and16 odd17 and17 odd18 and18 odd19 and19 odd20 and20 odd21 and21 odd22 and22 odd23 and23 odd24 and24 odd25 and25 odd26 and26 : Option Addr} {slpi slsi slri slpc slrs slm0 slm1 slm2 slm3 slm4 slm5 slm6 slm7 sld0 sld1 sld2 sld3 sld4 sld5 sld6 sld7 sld8 sld9 sld10 sld11 sld12 sld13 sld14 sld15 sld16 sld17 sld18 sld19 sld20 sld21 sld22 sld23 sld24 sld25 sld26 : Array (Option Value)} {ocpi dcpi pmpi cdpi ctpi ocsi dcsi pmsi cdsi ctsi kVsi ocri dcri pmri cdri ctri kVri ocpc dcpc pmpc cdpc ctpc kVpc ocrs dcrs pmrs cdrs ctrs kVrs ocm0 dcm0 pmm0 cdm0 ctm0 kVm0 ocm1 dcm1 pmm1 cdm1 ctm1 kVm1 ocm2 dcm2 pmm2 cdm2 ctm2 kVm2 ocm3 dcm3 pmm3 cdm3 ctm3 kVm3 ocm4 dcm4 pmm4 cdm4 ctm4 kVm4 ocm5 dcm5 pmm5 cdm5 ctm5 kVm5 ocm6 dcm6 pmm6 cdm6 ctm6 kVm6 ocm7 dcm7 pmm7 cdm7 ctm7 kVm7 ocd0 dcd0 pmd0 cdd0 ctd0 kVd0 ocd1 dcd1 pmd1 cdd1 ctd1 kVd1 ocd2 dcd2 pmd2 cdd2 ctd2 kVd2 ocd3 dcd3 pmd3 cdd3 ctd3 kVd3 ocd4 dcd4 pmd4 cdd4 ctd4 kVd4 ocd5 dcd5 pmd5 cdd5 ctd5 kVd5 ocd6 dcd6 pmd6 cdd6 ctd6 kVd6 ocd7 dcd7 pmd7 cdd7 ctd7 kVd7 ocd8 dcd8 pmd8 cdd8 ctd8 kVd8 ocd9 dcd9 pmd9 cdd9 ctd9 kVd9 ocd10 dcd10 pmd10 cdd10 ctd10 kVd10 ocd11 dcd11 pmd11 cdd11 ctd11 kVd11 ocd12 dcd12 pmd12 cdd12 ctd12 kVd12 ocd13 dcd13 pmd13 cdd13 ctd13 kVd13 ocd14 dcd14 pmd14 cdd14 ctd14 kVd14 ocd15 dcd15 pmd15 cdd15 ctd15 kVd15 ocd16 dcd16 pmd16 cdd16 ctd16 kVd16 ocd17 dcd17 pmd17 cdd17 ctd17 kVd17 ocd18 dcd18 pmd18 cdd18 ctd18 kVd18 ocd19 dcd19 pmd19 cdd19 ctd19 kVd19 ocd20 dcd20 pmd20 cdd20 ctd20 kVd20 ocd21 dcd21 pmd21 cdd21 ctd21 kVd21 ocd22 dcd22 pmd22 cdd22 ctd22 kVd22 ocd23 dcd23 pmd23 cdd23 ctd23 kVd23 ocd24 dcd24 pmd24 cdd24 ctd24 kVd24 ocd25 dcd25 pmd25 cdd25 ctd25 kVd25 ocd26 dcd26 pmd26 cdd26 ctd26 kVd26 : Value} {odMk : Option Addr} {slMk : Array (Option Value)} {nMk : Nat} {tkw0 tkw1 tkw2 tkw3 tM0 tM1 tM2 tM3 tMo tTo tTop : Tok} {rest_rs : List Value}
    (aCP : PySem.W.nsIn K mainGlobals "Prices" = some (some (.ref CP)))
    (pgCP : PySem.W.plainGet K CP Str.empty = true) (hdCP : PySem.W.hasDictIn K CP = true) (poCP : PySem.W.plainOver K CP = true) (saCP : PySem.W.findIn K (.ref CP) "__setattr__" = some (some (.builtin "object.__setattr__"))) (mkCP : PySem.W.makesIn K CP = true) (kcCP : PySem.W.keepIn K (.ref CP) = true)
    (aCS : PySem.W.nsIn K mainGlobals "Strand" = some (some (.ref CS)))
    (pgCS : PySem.W.plainGet K CS Str.empty = true) (hdCS : PySem.W.hasDictIn K CS = true) (poCS : PySem.W.plainOver K CS = true) (saCS : PySem.W.findIn K (.ref CS) "__setattr__" = some (some (.builtin "object.__setattr__"))) (mkCS : PySem.W.makesIn K CS = true) (kcCS : PySem.W.keepIn K (.ref CS) = true)
    (aCR : PySem.W.nsIn K mainGlobals "Row" = some (some (.ref CR)))
    (pgCR : PySem.W.plainGet K CR Str.empty = true) (hdCR : PySem.W.hasDictIn K CR = true) (poCR : PySem.W.plainOver K CR = true) (saCR : PySem.W.findIn K (.ref CR) "__setattr__" = some (some (.builtin "object.__setattr__"))) (mkCR : PySem.W.makesIn K CR = true) (kcCR : PySem.W.keepIn K (.ref CR) = true)
    (nCP0 : PySem.W.findIn K (.ref CP) "quiet" = some none)
    (nCP1 : PySem.W.findIn K (.ref CP) "odd" = some none)
    (nCP2 : PySem.W.findIn K (.ref CP) "edge" = some none)
    (nCP3 : PySem.W.findIn K (.ref CP) "strife" = some none)
    (nCS0 : PySem.W.findIn K (.ref CS) "kinds" = some none)
    (nCS1 : PySem.W.findIn K (.ref CS) "size" = some none)
    (nCS2 : PySem.W.findIn K (.ref CS) "unlike_pairs" = some none)
    (nCS3 : PySem.W.findIn K (.ref CS) "ends_unlike" = some none)
    (nCS4 : PySem.W.findIn K (.ref CS) "variety" = some none)
    (nCR0 : PySem.W.findIn K (.ref CR) "_kinds" = some none)
    (nCR1 : PySem.W.findIn K (.ref CR) "_standing" = some none)
    (nCR2 : PySem.W.findIn K (.ref CR) "_taken" = some none)
    (nCR3 : PySem.W.findIn K (.ref CR) "_marks" = some none)
    (nCR4 : PySem.W.findIn K (.ref CR) "_meetings" = some none)
    (nCR5 : PySem.W.findIn K (.ref CR) "_deeds" = some none)
    (api : PySem.W.findIn K (.ref CP) "__init__" = some (some (.ref fpi))) (ipi : PySem.W.isFn K (.ref fpi) = true)
    (lpi : K.lookup fpi = some ⟨ocpi, odpi, .func (PySem.W.fnOf "__init__" "Prices.__init__" (defArgs sPrI) (defBody sPrI) (defScope sPrI) .none (.ref dKw) dcpi pmpi anpi cdpi ctpi), slpi⟩) (cpi : PySem.W.codeIn K cdpi "Prices.__init__" = true) (kpi : PySem.W.keepIn K (.ref fpi) = true)
    (kw0 : PySem.W.nsIn K dKw "quiet" = some (some (.int 0 tkw0)))
    (kw1 : PySem.W.nsIn K dKw "odd" = some (some (.int 0 tkw1)))
    (kw2 : PySem.W.nsIn K dKw "edge" = some (some (.int 1 tkw2)))
    (kw3 : PySem.W.nsIn K dKw "strife" = some (some (.int 1 tkw3)))
    (asi : PySem.W.findIn K (.ref CS) "__init__" = some (some (.ref fsi))) (isi : PySem.W.isFn K (.ref fsi) = true)
    (lsi : K.lookup fsi = some ⟨ocsi, odsi, .func (PySem.W.fnOf "__init__" "Strand.__init__" (defArgs sStI) (defBody sStI) (defScope sStI) .none kVsi dcsi pmsi ansi cdsi ctsi), slsi⟩) (csi : PySem.W.codeIn K cdsi "Strand.__init__" = true) (ksi : PySem.W.keepIn K (.ref fsi) = true)
    (ari : PySem.W.findIn K (.ref CR) "__init__" = some (some (.ref fri))) (iri : PySem.W.isFn K (.ref fri) = true)
    (lri : K.lookup fri = some ⟨ocri, odri, .func (PySem.W.fnOf "__init__" "Row.__init__" (defArgs sRoI) (defBody sRoI) (defScope sRoI) .none kVri dcri pmri anri cdri ctri), slri⟩) (cri : PySem.W.codeIn K cdri "Row.__init__" = true) (kri : PySem.W.keepIn K (.ref fri) = true)
    (apc : PySem.W.findIn K (.ref CP) "__call__" = some (some (.ref fpc))) (ipc : PySem.W.isFn K (.ref fpc) = true) (jpc : PySem.W.fnIn K fpc = true)
    (lpc : K.lookup fpc = some ⟨ocpc, odpc, .func (PySem.W.fnOf "__call__" "Prices.__call__" (defArgs sPrC) (defBody sPrC) (defScope sPrC) .none kVpc dcpc pmpc anpc cdpc ctpc), slpc⟩) (cpc : PySem.W.codeIn K cdpc "Prices.__call__" = true) (kpc : PySem.W.keepIn K (.ref fpc) = true)
    (ars : PySem.W.findIn K (.ref CR) "standing" = some (some (.ref pSt))) (grs : PySem.W.specialIn K (.ref pSt) "__get__" = some (some (.builtin "property.__get__"))) (trs : PySem.W.takesIn K (.ref pSt) = some true) (rrs : PySem.W.recIn K pSt "property" = some (.ref frs :: rest_rs))
    (lrs : K.lookup frs = some ⟨ocrs, odrs, .func (PySem.W.fnOf "standing" "Row.standing" (defArgs sRoSt) (defBody sRoSt) (defScope sRoSt) .none kVrs dcrs pmrs anrs cdrs ctrs), slrs⟩) (crs : PySem.W.codeIn K cdrs "Row.standing" = true) (krs : PySem.W.keepIn K (.ref frs) = true)
    (rdS : PySem.W.readsIn K CS (.type "type") = true) (gaS : PySem.W.specialIn K (.ref CS) "__getattribute__" = some (some (.builtin "type.__getattribute__")))
    (moS : PySem.W.findCls K (.ref CS) (.type "type") "MOST" = some (.val (.int 24 tMo))) (toS : PySem.W.findCls K (.ref CS) (.type "type") "TOP_KIND" = some (.val (.int 999 tTo)))
    (aMk : PySem.W.nsIn K mainGlobals "MARKS" = some (some (.ref aM))) (lMk : K.lookup aM = some ⟨.type "tuple", odMk, .seq #[.str "quiet" tM0, .str "odd" tM1, .str "edge" tM2, .str "strife" tM3] nMk, slMk⟩)
    (aTop : PySem.W.nsIn K mainGlobals "TOP_PRICE" = some (some (.int 1000000000 tTop)))
    (z0 : PySem.W.nsIn K mainGlobals "len" = some none)
    (z1 : PySem.W.nsIn K mainGlobals "range" = some none)
    (z2 : PySem.W.nsIn K mainGlobals "int" = some none)
    (z3 : PySem.W.nsIn K mainGlobals "list" = some none)
    (z4 : PySem.W.nsIn K mainGlobals "tuple" = some none)
    (z5 : PySem.W.nsIn K mainGlobals "set" = some none)
    (z6 : PySem.W.nsIn K mainGlobals "min" = some none)
    (z7 : PySem.W.nsIn K mainGlobals "zip" = some none)
    (z8 : PySem.W.nsIn K mainGlobals "reversed" = some none)
    (z9 : PySem.W.nsIn K mainGlobals "isinstance" = some none)
    (z10 : PySem.W.nsIn K mainGlobals "bool" = some none)
    (z11 : PySem.W.nsIn K mainGlobals "str" = some none)
    (z12 : PySem.W.nsIn K mainGlobals "dict" = some none)
    (am0 : PySem.W.findIn K (.ref CR) "_check_standing" = some (some (.ref fm0))) (im0 : PySem.W.isFn K (.ref fm0) = true)
    (lm0 : K.lookup fm0 = some ⟨ocm0, odm0, .func (PySem.W.fnOf "_check_standing" "Row._check_standing" (defArgs sRoCs) (defBody sRoCs) (defScope sRoCs) .none kVm0 dcm0 pmm0 anm0 cdm0 ctm0), slm0⟩) (cm0 : PySem.W.codeIn K cdm0 "Row._check_standing" = true) (km0 : PySem.W.keepIn K (.ref fm0) = true)
    (am1 : PySem.W.findIn K (.ref CR) "_check_inner" = some (some (.ref fm1))) (im1 : PySem.W.isFn K (.ref fm1) = true)
    (lm1 : K.lookup fm1 = some ⟨ocm1, odm1, .func (PySem.W.fnOf "_check_inner" "Row._check_inner" (defArgs sRoCi) (defBody sRoCi) (defScope sRoCi) .none kVm1 dcm1 pmm1 anm1 cdm1 ctm1), slm1⟩) (cm1 : PySem.W.codeIn K cdm1 "Row._check_inner" = true) (km1 : PySem.W.keepIn K (.ref fm1) = true)
    (am2 : PySem.W.findIn K (.ref CR) "neighbours" = some (some (.ref fm2))) (im2 : PySem.W.isFn K (.ref fm2) = true)
    (lm2 : K.lookup fm2 = some ⟨ocm2, odm2, .func (PySem.W.fnOf "neighbours" "Row.neighbours" (defArgs sRoNb) (defBody sRoNb) (defScope sRoNb) .none kVm2 dcm2 pmm2 anm2 cdm2 ctm2), slm2⟩) (cm2 : PySem.W.codeIn K cdm2 "Row.neighbours" = true) (km2 : PySem.W.keepIn K (.ref fm2) = true)
    (am3 : PySem.W.findIn K (.ref CR) "mark" = some (some (.ref fm3))) (im3 : PySem.W.isFn K (.ref fm3) = true)
    (lm3 : K.lookup fm3 = some ⟨ocm3, odm3, .func (PySem.W.fnOf "mark" "Row.mark" (defArgs sRoMk) (defBody sRoMk) (defScope sRoMk) .none kVm3 dcm3 pmm3 anm3 cdm3 ctm3), slm3⟩) (cm3 : PySem.W.codeIn K cdm3 "Row.mark" = true) (km3 : PySem.W.keepIn K (.ref fm3) = true)
    (am4 : PySem.W.findIn K (.ref CR) "_take_out" = some (some (.ref fm4))) (im4 : PySem.W.isFn K (.ref fm4) = true)
    (lm4 : K.lookup fm4 = some ⟨ocm4, odm4, .func (PySem.W.fnOf "_take_out" "Row._take_out" (defArgs sRoTo) (defBody sRoTo) (defScope sRoTo) .none kVm4 dcm4 pmm4 anm4 cdm4 ctm4), slm4⟩) (cm4 : PySem.W.codeIn K cdm4 "Row._take_out" = true) (km4 : PySem.W.keepIn K (.ref fm4) = true)
    (am5 : PySem.W.findIn K (.ref CR) "take" = some (some (.ref fm5))) (im5 : PySem.W.isFn K (.ref fm5) = true)
    (lm5 : K.lookup fm5 = some ⟨ocm5, odm5, .func (PySem.W.fnOf "take" "Row.take" (defArgs sRoTk) (defBody sRoTk) (defScope sRoTk) .none kVm5 dcm5 pmm5 anm5 cdm5 ctm5), slm5⟩) (cm5 : PySem.W.codeIn K cdm5 "Row.take" = true) (km5 : PySem.W.keepIn K (.ref fm5) = true)
    (am6 : PySem.W.findIn K (.ref CR) "grow" = some (some (.ref fm6))) (im6 : PySem.W.isFn K (.ref fm6) = true)
    (lm6 : K.lookup fm6 = some ⟨ocm6, odm6, .func (PySem.W.fnOf "grow" "Row.grow" (defArgs sRoGr) (defBody sRoGr) (defScope sRoGr) .none kVm6 dcm6 pmm6 anm6 cdm6 ctm6), slm6⟩) (cm6 : PySem.W.codeIn K cdm6 "Row.grow" = true) (km6 : PySem.W.keepIn K (.ref fm6) = true)
    (am7 : PySem.W.findIn K (.ref CR) "rest" = some (some (.ref fm7))) (im7 : PySem.W.isFn K (.ref fm7) = true)
    (lm7 : K.lookup fm7 = some ⟨ocm7, odm7, .func (PySem.W.fnOf "rest" "Row.rest" (defArgs sRoRe) (defBody sRoRe) (defScope sRoRe) .none kVm7 dcm7 pmm7 anm7 cdm7 ctm7), slm7⟩) (cm7 : PySem.W.codeIn K cdm7 "Row.rest" = true) (km7 : PySem.W.keepIn K (.ref fm7) = true)
    (ad0 : PySem.W.nsIn K mainGlobals "mark_of" = some (some (.ref fd0)))
    (ld0 : K.lookup fd0 = some ⟨ocd0, odd0, .func (PySem.W.fnOf "mark_of" "mark_of" (defArgs sMark) (defBody sMark) (defScope sMark) .none kVd0 dcd0 pmd0 and0 cdd0 ctd0), sld0⟩) (cd0 : PySem.W.codeIn K cdd0 "mark_of" = true) (kd0 : PySem.W.keepIn K (.ref fd0) = true)
    (ad1 : PySem.W.nsIn K mainGlobals "all_spans" = some (some (.ref fd1)))
    (ld1 : K.lookup fd1 = some ⟨ocd1, odd1, .func (PySem.W.fnOf "all_spans" "all_spans" (defArgs sSpans) (defBody sSpans) (defScope sSpans) .none kVd1 dcd1 pmd1 and1 cdd1 ctd1), sld1⟩) (cd1 : PySem.W.codeIn K cdd1 "all_spans" = true) (kd1 : PySem.W.keepIn K (.ref fd1) = true)
    (ad2 : PySem.W.nsIn K mainGlobals "prices_by_last" = some (some (.ref fd2)))
    (ld2 : K.lookup fd2 = some ⟨ocd2, odd2, .func (PySem.W.fnOf "prices_by_last" "prices_by_last" (defArgs sPbl) (defBody sPbl) (defScope sPbl) .none kVd2 dcd2 pmd2 and2 cdd2 ctd2), sld2⟩) (cd2 : PySem.W.codeIn K cdd2 "prices_by_last" = true) (kd2 : PySem.W.keepIn K (.ref fd2) = true)
    (ad3 : PySem.W.nsIn K mainGlobals "floors" = some (some (.ref fd3)))
    (ld3 : K.lookup fd3 = some ⟨ocd3, odd3, .func (PySem.W.fnOf "floors" "floors" (defArgs sFloors) (defBody sFloors) (defScope sFloors) .none kVd3 dcd3 pmd3 and3 cdd3 ctd3), sld3⟩) (cd3 : PySem.W.codeIn K cdd3 "floors" = true) (kd3 : PySem.W.keepIn K (.ref fd3) = true)
    (ad4 : PySem.W.nsIn K mainGlobals "least_total" = some (some (.ref fd4)))
    (ld4 : K.lookup fd4 = some ⟨ocd4, odd4, .func (PySem.W.fnOf "least_total" "least_total" (defArgs sLeast) (defBody sLeast) (defScope sLeast) .none kVd4 dcd4 pmd4 and4 cdd4 ctd4), sld4⟩) (cd4 : PySem.W.codeIn K cdd4 "least_total" = true) (kd4 : PySem.W.keepIn K (.ref fd4) = true)
    (ad5 : PySem.W.nsIn K mainGlobals "without" = some (some (.ref fd5)))
    (ld5 : K.lookup fd5 = some ⟨ocd5, odd5, .func (PySem.W.fnOf "without" "without" (defArgs sWithout) (defBody sWithout) (defScope sWithout) .none kVd5 dcd5 pmd5 and5 cdd5 ctd5), sld5⟩) (cd5 : PySem.W.codeIn K cdd5 "without" = true) (kd5 : PySem.W.keepIn K (.ref fd5) = true)
    (ad6 : PySem.W.nsIn K mainGlobals "least_toll" = some (some (.ref fd6)))
    (ld6 : K.lookup fd6 = some ⟨ocd6, odd6, .func (PySem.W.fnOf "least_toll" "least_toll" (defArgs sLToll) (defBody sLToll) (defScope sLToll) .none kVd6 dcd6 pmd6 and6 cdd6 ctd6), sld6⟩) (cd6 : PySem.W.codeIn K cdd6 "least_toll" = true) (kd6 : PySem.W.keepIn K (.ref fd6) = true)
    (ad7 : PySem.W.nsIn K mainGlobals "first_price" = some (some (.ref fd7)))
    (ld7 : K.lookup fd7 = some ⟨ocd7, odd7, .func (PySem.W.fnOf "first_price" "first_price" (defArgs sFprice) (defBody sFprice) (defScope sFprice) .none kVd7 dcd7 pmd7 and7 cdd7 ctd7), sld7⟩) (cd7 : PySem.W.codeIn K cdd7 "first_price" = true) (kd7 : PySem.W.keepIn K (.ref fd7) = true)
    (ad8 : PySem.W.nsIn K mainGlobals "first_totals" = some (some (.ref fd8)))
    (ld8 : K.lookup fd8 = some ⟨ocd8, odd8, .func (PySem.W.fnOf "first_totals" "first_totals" (defArgs sFtotals) (defBody sFtotals) (defScope sFtotals) .none kVd8 dcd8 pmd8 and8 cdd8 ctd8), sld8⟩) (cd8 : PySem.W.codeIn K cdd8 "first_totals" = true) (kd8 : PySem.W.keepIn K (.ref fd8) = true)
    (ad9 : PySem.W.nsIn K mainGlobals "losses" = some (some (.ref fd9)))
    (ld9 : K.lookup fd9 = some ⟨ocd9, odd9, .func (PySem.W.fnOf "losses" "losses" (defArgs sLosses) (defBody sLosses) (defScope sLosses) .none kVd9 dcd9 pmd9 and9 cdd9 ctd9), sld9⟩) (cd9 : PySem.W.codeIn K cdd9 "losses" = true) (kd9 : PySem.W.keepIn K (.ref fd9) = true)
    (ad10 : PySem.W.nsIn K mainGlobals "thrift_order" = some (some (.ref fd10)))
    (ld10 : K.lookup fd10 = some ⟨ocd10, odd10, .func (PySem.W.fnOf "thrift_order" "thrift_order" (defArgs sThrift) (defBody sThrift) (defScope sThrift) .none kVd10 dcd10 pmd10 and10 cdd10 ctd10), sld10⟩) (cd10 : PySem.W.codeIn K cdd10 "thrift_order" = true) (kd10 : PySem.W.keepIn K (.ref fd10) = true)
    (ad11 : PySem.W.nsIn K mainGlobals "_law_cell" = some (some (.ref fd11)))
    (ld11 : K.lookup fd11 = some ⟨ocd11, odd11, .func (PySem.W.fnOf "_law_cell" "_law_cell" (defArgs sCell) (defBody sCell) (defScope sCell) .none kVd11 dcd11 pmd11 and11 cdd11 ctd11), sld11⟩) (cd11 : PySem.W.codeIn K cdd11 "_law_cell" = true) (kd11 : PySem.W.keepIn K (.ref fd11) = true)
    (ad12 : PySem.W.nsIn K mainGlobals "_law_mixed" = some (some (.ref fd12)))
    (ld12 : K.lookup fd12 = some ⟨ocd12, odd12, .func (PySem.W.fnOf "_law_mixed" "_law_mixed" (defArgs sMixed) (defBody sMixed) (defScope sMixed) .none kVd12 dcd12 pmd12 and12 cdd12 ctd12), sld12⟩) (cd12 : PySem.W.codeIn K cdd12 "_law_mixed" = true) (kd12 : PySem.W.keepIn K (.ref fd12) = true)
    (ad13 : PySem.W.nsIn K mainGlobals "_law_draws" = some (some (.ref fd13)))
    (ld13 : K.lookup fd13 = some ⟨ocd13, odd13, .func (PySem.W.fnOf "_law_draws" "_law_draws" (defArgs sDraws) (defBody sDraws) (defScope sDraws) .none kVd13 dcd13 pmd13 and13 cdd13 ctd13), sld13⟩) (cd13 : PySem.W.codeIn K cdd13 "_law_draws" = true) (kd13 : PySem.W.keepIn K (.ref fd13) = true)
    (ad14 : PySem.W.nsIn K mainGlobals "_law_shuffled" = some (some (.ref fd14)))
    (ld14 : K.lookup fd14 = some ⟨ocd14, odd14, .func (PySem.W.fnOf "_law_shuffled" "_law_shuffled" (defArgs sShuf) (defBody sShuf) (defScope sShuf) .none kVd14 dcd14 pmd14 and14 cdd14 ctd14), sld14⟩) (cd14 : PySem.W.codeIn K cdd14 "_law_shuffled" = true) (kd14 : PySem.W.keepIn K (.ref fd14) = true)
    (ad15 : PySem.W.nsIn K mainGlobals "_law_kinds" = some (some (.ref fd15)))
    (ld15 : K.lookup fd15 = some ⟨ocd15, odd15, .func (PySem.W.fnOf "_law_kinds" "_law_kinds" (defArgs sKinds) (defBody sKinds) (defScope sKinds) .none kVd15 dcd15 pmd15 and15 cdd15 ctd15), sld15⟩) (cd15 : PySem.W.codeIn K cdd15 "_law_kinds" = true) (kd15 : PySem.W.keepIn K (.ref fd15) = true)
    (ad16 : PySem.W.nsIn K mainGlobals "_law_is_integer" = some (some (.ref fd16)))
    (ld16 : K.lookup fd16 = some ⟨ocd16, odd16, .func (PySem.W.fnOf "_law_is_integer" "_law_is_integer" (defArgs sIsInt) (defBody sIsInt) (defScope sIsInt) .none kVd16 dcd16 pmd16 and16 cdd16 ctd16), sld16⟩) (cd16 : PySem.W.codeIn K cdd16 "_law_is_integer" = true) (kd16 : PySem.W.keepIn K (.ref fd16) = true)
    (ad17 : PySem.W.nsIn K mainGlobals "_law_is_run" = some (some (.ref fd17)))
    (ld17 : K.lookup fd17 = some ⟨ocd17, odd17, .func (PySem.W.fnOf "_law_is_run" "_law_is_run" (defArgs sIsRun) (defBody sIsRun) (defScope sIsRun) .none kVd17 dcd17 pmd17 and17 cdd17 ctd17), sld17⟩) (cd17 : PySem.W.codeIn K cdd17 "_law_is_run" = true) (kd17 : PySem.W.keepIn K (.ref fd17) = true)
    (ad18 : PySem.W.nsIn K mainGlobals "_law_is_order" = some (some (.ref fd18)))
    (ld18 : K.lookup fd18 = some ⟨ocd18, odd18, .func (PySem.W.fnOf "_law_is_order" "_law_is_order" (defArgs sIsOrd) (defBody sIsOrd) (defScope sIsOrd) .none kVd18 dcd18 pmd18 and18 cdd18 ctd18), sld18⟩) (cd18 : PySem.W.codeIn K cdd18 "_law_is_order" = true) (kd18 : PySem.W.keepIn K (.ref fd18) = true)
    (ad19 : PySem.W.nsIn K mainGlobals "_law_same" = some (some (.ref fd19)))
    (ld19 : K.lookup fd19 = some ⟨ocd19, odd19, .func (PySem.W.fnOf "_law_same" "_law_same" (defArgs sSame) (defBody sSame) (defScope sSame) .none kVd19 dcd19 pmd19 and19 cdd19 ctd19), sld19⟩) (cd19 : PySem.W.codeIn K cdd19 "_law_same" = true) (kd19 : PySem.W.keepIn K (.ref fd19) = true)
    (ad20 : PySem.W.nsIn K mainGlobals "_law_beads" = some (some (.ref fd20)))
    (ld20 : K.lookup fd20 = some ⟨ocd20, odd20, .func (PySem.W.fnOf "_law_beads" "_law_beads" (defArgs sBeads) (defBody sBeads) (defScope sBeads) .none kVd20 dcd20 pmd20 and20 cdd20 ctd20), sld20⟩) (cd20 : PySem.W.codeIn K cdd20 "_law_beads" = true) (kd20 : PySem.W.keepIn K (.ref fd20) = true)
    (ad21 : PySem.W.nsIn K mainGlobals "_law_ascending_orders" = some (some (.ref fd21)))
    (ld21 : K.lookup fd21 = some ⟨ocd21, odd21, .func (PySem.W.fnOf "_law_ascending_orders" "_law_ascending_orders" (defArgs sAsc) (defBody sAsc) (defScope sAsc) .none kVd21 dcd21 pmd21 and21 cdd21 ctd21), sld21⟩) (cd21 : PySem.W.codeIn K cdd21 "_law_ascending_orders" = true) (kd21 : PySem.W.keepIn K (.ref fd21) = true)
    (ad22 : PySem.W.nsIn K mainGlobals "_law_toll" = some (some (.ref fd22)))
    (ld22 : K.lookup fd22 = some ⟨ocd22, odd22, .func (PySem.W.fnOf "_law_toll" "_law_toll" (defArgs sToll) (defBody sToll) (defScope sToll) .none kVd22 dcd22 pmd22 and22 cdd22 ctd22), sld22⟩) (cd22 : PySem.W.codeIn K cdd22 "_law_toll" = true) (kd22 : PySem.W.keepIn K (.ref fd22) = true)
    (ad23 : PySem.W.nsIn K mainGlobals "_law_least" = some (some (.ref fd23)))
    (ld23 : K.lookup fd23 = some ⟨ocd23, odd23, .func (PySem.W.fnOf "_law_least" "_law_least" (defArgs sLLeast) (defBody sLLeast) (defScope sLLeast) .none kVd23 dcd23 pmd23 and23 cdd23 ctd23), sld23⟩) (cd23 : PySem.W.codeIn K cdd23 "_law_least" = true) (kd23 : PySem.W.keepIn K (.ref fd23) = true)
    (ad24 : PySem.W.nsIn K mainGlobals "_law_first_thrifty" = some (some (.ref fd24)))
    (ld24 : K.lookup fd24 = some ⟨ocd24, odd24, .func (PySem.W.fnOf "_law_first_thrifty" "_law_first_thrifty" (defArgs sFirst) (defBody sFirst) (defScope sFirst) .none kVd24 dcd24 pmd24 and24 cdd24 ctd24), sld24⟩) (cd24 : PySem.W.codeIn K cdd24 "_law_first_thrifty" = true) (kd24 : PySem.W.keepIn K (.ref fd24) = true)
    (ad25 : PySem.W.nsIn K mainGlobals "_law_is_thrifty" = some (some (.ref fd25)))
    (ld25 : K.lookup fd25 = some ⟨ocd25, odd25, .func (PySem.W.fnOf "_law_is_thrifty" "_law_is_thrifty" (defArgs sThrifty) (defBody sThrifty) (defScope sThrifty) .none kVd25 dcd25 pmd25 and25 cdd25 ctd25), sld25⟩) (cd25 : PySem.W.codeIn K cdd25 "_law_is_thrifty" = true) (kd25 : PySem.W.keepIn K (.ref fd25) = true)
    (ad26 : PySem.W.nsIn K mainGlobals "_law_adds_up" = some (some (.ref fd26)))
    (ld26 : K.lookup fd26 = some ⟨ocd26, odd26, .func (PySem.W.fnOf "_law_adds_up" "_law_adds_up" (defArgs sAdds) (defBody sAdds) (defScope sAdds) .none kVd26 dcd26 pmd26 and26 cdd26 ctd26), sld26⟩) (cd26 : PySem.W.codeIn K cdd26 "_law_adds_up" = true) (kd26 : PySem.W.keepIn K (.ref fd26) = true) :
    Txt K mg CP CS CR where
  pCl := ⟨pgCP, hdCP, poCP, saCP⟩
  pMg := PySem.W.mg_of X G aCP
  sCl := ⟨pgCS, hdCS, poCS, saCS⟩
  sMg := PySem.W.mg_of X G aCS
  rCl := ⟨pgCR, hdCR, poCR, saCR⟩
  rMg := PySem.W.mg_of X G aCR
  pNo := fun x hx => by
    simp only [List.mem_cons, List.not_mem_nil, or_false] at hx
    rcases hx with rfl | rfl | rfl | rfl
    · exact nCP0
    · exact nCP1
    · exact nCP2
    · exact nCP3
  sNo := fun x hx => by
    simp only [List.mem_cons, List.not_mem_nil, or_false] at hx
    rcases hx with rfl | rfl | rfl | rfl | rfl
    · exact nCS0
    · exact nCS1
    · exact nCS2
    · exact nCS3
    · exact nCS4
  rNo := fun x hx => by
    simp only [List.mem_cons, List.not_mem_nil, or_false] at hx
    rcases hx with rfl | rfl | rfl | rfl | rfl | rfl
    · exact nCR0
    · exact nCR1
    · exact nCR2
    · exact nCR3
    · exact nCR4
    · exact nCR5
  pIn := ⟨fpi, _, ⟨mkCP, api, ipi, kcCP⟩, ⟨⟨_, _, _, _, _, _, _, _, _, _, rfl, lpi, cpi, .inl ⟨rfl, rfl⟩, .inr ⟨dKw, rfl, fun q hq => by
    simp only [List.mem_cons, List.not_mem_nil, or_false] at hq
    rcases hq with rfl | rfl | rfl | rfl
    · exact ⟨_, kw0, ⟨_, rfl⟩⟩
    · exact ⟨_, kw1, ⟨_, rfl⟩⟩
    · exact ⟨_, kw2, ⟨_, rfl⟩⟩
    · exact ⟨_, kw3, ⟨_, rfl⟩⟩⟩⟩, kpi⟩⟩
  sIn := ⟨fsi, _, ⟨mkCS, asi, isi, kcCS⟩, fun_mk (st := sStI) lsi csi ksi, (fun_mk (st := sStI) lsi csi ksi).binds (ps := ["self", "kinds"]) fun _ _ _ _ _ _ us hl => match us, hl with | [_, _], _ => rfl⟩
  rIn := ⟨fri, _, ⟨mkCR, ari, iri, kcCR⟩, fun_mk (st := sRoI) lri cri kri, (fun_mk (st := sRoI) lri cri kri).binds (ps := ["self", "strand"]) fun _ _ _ _ _ _ us hl => match us, hl with | [_, _], _ => rfl⟩
  pCa := ⟨fpc, _, ⟨apc, ipc, jpc⟩, fun_mk (st := sPrC) lpc cpc kpc, (fun_mk (st := sPrC) lpc cpc kpc).binds (ps := ["self", "mark"]) fun _ _ _ _ _ _ us hl => match us, hl with | [_, _], _ => rfl⟩
  rSt := ⟨pSt, frs, _, ⟨ars, grs, trs, ⟨_, rrs⟩⟩, fun_mk (st := sRoSt) lrs crs krs, (fun_mk (st := sRoSt) lrs crs krs).binds (ps := ["self"]) fun _ _ _ _ _ _ us hl => match us, hl with | [_], _ => rfl⟩
  sRd := ⟨rdS, gaS⟩
  sMo := ⟨_, moS, ⟨_, rfl⟩⟩
  sTo := ⟨_, toS, ⟨_, rfl⟩⟩
  marks := ⟨aM, PySem.W.mg_of X G aMk, fun H => .inr ⟨_, _, nMk, lMk, rfl, rfl, by show 4 ≤ sizeLine; decide, .cons ⟨_, rfl⟩ (.cons ⟨_, rfl⟩ (.cons ⟨_, rfl⟩ (.cons ⟨_, rfl⟩ .nil)))⟩⟩
  top := ⟨tTop, PySem.W.mg_of X G aTop⟩
  bn := fun x hx => by
    simp only [List.mem_cons, List.not_mem_nil, or_false] at hx
    rcases hx with rfl | rfl | rfl | rfl | rfl | rfl | rfl | rfl | rfl | rfl | rfl | rfl | rfl
    · exact PySem.W.mg_none_of X G z0
    · exact PySem.W.mg_none_of X G z1
    · exact PySem.W.mg_none_of X G z2
    · exact PySem.W.mg_none_of X G z3
    · exact PySem.W.mg_none_of X G z4
    · exact PySem.W.mg_none_of X G z5
    · exact PySem.W.mg_none_of X G z6
    · exact PySem.W.mg_none_of X G z7
    · exact PySem.W.mg_none_of X G z8
    · exact PySem.W.mg_none_of X G z9
    · exact PySem.W.mg_none_of X G z10
    · exact PySem.W.mg_none_of X G z11
    · exact PySem.W.mg_none_of X G z12
  mCs := ⟨fm0, _, fun_mk (st := sRoCs) lm0 cm0 km0, ⟨am0, im0, km0⟩, (fun_mk (st := sRoCs) lm0 cm0 km0).binds (ps := ["self", "bead"]) fun _ _ _ _ _ _ us hl => match us, hl with | [_, _], _ => rfl⟩
  mCi := ⟨fm1, _, fun_mk (st := sRoCi) lm1 cm1 km1, ⟨am1, im1, km1⟩, (fun_mk (st := sRoCi) lm1 cm1 km1).binds (ps := ["self", "bead"]) fun _ _ _ _ _ _ us hl => match us, hl with | [_, _], _ => rfl⟩
  mNb := ⟨fm2, _, fun_mk (st := sRoNb) lm2 cm2 km2, ⟨am2, im2, km2⟩, (fun_mk (st := sRoNb) lm2 cm2 km2).binds (ps := ["self", "bead"]) fun _ _ _ _ _ _ us hl => match us, hl with | [_, _], _ => rfl⟩
  mMk := ⟨fm3, _, fun_mk (st := sRoMk) lm3 cm3 km3, ⟨am3, im3, km3⟩, (fun_mk (st := sRoMk) lm3 cm3 km3).binds (ps := ["self", "bead"]) fun _ _ _ _ _ _ us hl => match us, hl with | [_, _], _ => rfl⟩
  mTo := ⟨fm4, _, fun_mk (st := sRoTo) lm4 cm4 km4, ⟨am4, im4, km4⟩, (fun_mk (st := sRoTo) lm4 cm4 km4).binds (ps := ["self", "bead"]) fun _ _ _ _ _ _ us hl => match us, hl with | [_, _], _ => rfl⟩
  mTk := ⟨fm5, _, fun_mk (st := sRoTk) lm5 cm5 km5, ⟨am5, im5, km5⟩, (fun_mk (st := sRoTk) lm5 cm5 km5).binds (ps := ["self", "bead"]) fun _ _ _ _ _ _ us hl => match us, hl with | [_, _], _ => rfl⟩
  mGr := ⟨fm6, _, fun_mk (st := sRoGr) lm6 cm6 km6, ⟨am6, im6, km6⟩, (fun_mk (st := sRoGr) lm6 cm6 km6).binds (ps := ["self", "kind"]) fun _ _ _ _ _ _ us hl => match us, hl with | [_, _], _ => rfl⟩
  mRe := ⟨fm7, _, fun_mk (st := sRoRe) lm7 cm7 km7, ⟨am7, im7, km7⟩, (fun_mk (st := sRoRe) lm7 cm7 km7).binds (ps := ["self"]) fun _ _ _ _ _ _ us hl => match us, hl with | [_], _ => rfl⟩
  dMark := ⟨fd0, _, fun_mk (st := sMark) ld0 cd0 kd0, PySem.W.mg_of X G ad0, (fun_mk (st := sMark) ld0 cd0 kd0).binds (ps := ["left", "bead", "right"]) fun _ _ _ _ _ _ us hl => match us, hl with | [_, _, _], _ => rfl⟩
  dSpans := ⟨fd1, _, fun_mk (st := sSpans) ld1 cd1 kd1, PySem.W.mg_of X G ad1, (fun_mk (st := sSpans) ld1 cd1 kd1).binds (ps := ["size"]) fun _ _ _ _ _ _ us hl => match us, hl with | [_], _ => rfl⟩
  dPbl := ⟨fd2, _, fun_mk (st := sPbl) ld2 cd2 kd2, PySem.W.mg_of X G ad2, (fun_mk (st := sPbl) ld2 cd2 kd2).binds (ps := ["kinds", "prices", "table", "span"]) fun _ _ _ _ _ _ us hl => match us, hl with | [_, _, _, _], _ => rfl⟩
  dFloors := ⟨fd3, _, fun_mk (st := sFloors) ld3 cd3 kd3, PySem.W.mg_of X G ad3, (fun_mk (st := sFloors) ld3 cd3 kd3).binds (ps := ["strand", "prices"]) fun _ _ _ _ _ _ us hl => match us, hl with | [_, _], _ => rfl⟩
  dLeast := ⟨fd4, _, fun_mk (st := sLeast) ld4 cd4 kd4, PySem.W.mg_of X G ad4, (fun_mk (st := sLeast) ld4 cd4 kd4).binds (ps := ["strand", "prices"]) fun _ _ _ _ _ _ us hl => match us, hl with | [_, _], _ => rfl⟩
  dWithout := ⟨fd5, _, fun_mk (st := sWithout) ld5 cd5 kd5, PySem.W.mg_of X G ad5, (fun_mk (st := sWithout) ld5 cd5 kd5).binds (ps := ["strand", "bead"]) fun _ _ _ _ _ _ us hl => match us, hl with | [_, _], _ => rfl⟩
  dLToll := ⟨fd6, _, fun_mk (st := sLToll) ld6 cd6 kd6, PySem.W.mg_of X G ad6, (fun_mk (st := sLToll) ld6 cd6 kd6).binds (ps := ["strand"]) fun _ _ _ _ _ _ us hl => match us, hl with | [_], _ => rfl⟩
  dFprice := ⟨fd7, _, fun_mk (st := sFprice) ld7 cd7 kd7, PySem.W.mg_of X G ad7, (fun_mk (st := sFprice) ld7 cd7 kd7).binds (ps := ["strand", "bead", "prices"]) fun _ _ _ _ _ _ us hl => match us, hl with | [_, _, _], _ => rfl⟩
  dFtotals := ⟨fd8, _, fun_mk (st := sFtotals) ld8 cd8 kd8, PySem.W.mg_of X G ad8, (fun_mk (st := sFtotals) ld8 cd8 kd8).binds (ps := ["strand", "prices"]) fun _ _ _ _ _ _ us hl => match us, hl with | [_, _], _ => rfl⟩
  dLosses := ⟨fd9, _, fun_mk (st := sLosses) ld9 cd9 kd9, PySem.W.mg_of X G ad9, (fun_mk (st := sLosses) ld9 cd9 kd9).binds (ps := ["row"]) fun _ _ _ _ _ _ us hl => match us, hl with | [_], _ => rfl⟩
  dThrift := ⟨fd10, _, fun_mk (st := sThrift) ld10 cd10 kd10, PySem.W.mg_of X G ad10, (fun_mk (st := sThrift) ld10 cd10 kd10).binds (ps := ["strand"]) fun _ _ _ _ _ _ us hl => match us, hl with | [_], _ => rfl⟩
  dCell := ⟨fd11, _, fun_mk (st := sCell) ld11 cd11 kd11, PySem.W.mg_of X G ad11, (fun_mk (st := sCell) ld11 cd11 kd11).binds (ps := ["_law_script", "_law_at"]) fun _ _ _ _ _ _ us hl => match us, hl with | [_, _], _ => rfl⟩
  dMixed := ⟨fd12, _, fun_mk (st := sMixed) ld12 cd12 kd12, PySem.W.mg_of X G ad12, (fun_mk (st := sMixed) ld12 cd12 kd12).binds (ps := ["_law_cell_here", "_law_k"]) fun _ _ _ _ _ _ us hl => match us, hl with | [_, _], _ => rfl⟩
  dDraws := ⟨fd13, _, fun_mk (st := sDraws) ld13 cd13 kd13, PySem.W.mg_of X G ad13, (fun_mk (st := sDraws) ld13 cd13 kd13).binds (ps := ["_law_cell_here", "_law_count", "_law_size"]) fun _ _ _ _ _ _ us hl => match us, hl with | [_, _, _], _ => rfl⟩
  dShuf := ⟨fd14, _, fun_mk (st := sShuf) ld14 cd14 kd14, PySem.W.mg_of X G ad14, (fun_mk (st := sShuf) ld14 cd14 kd14).binds (ps := ["_law_cell_here", "_law_items"]) fun _ _ _ _ _ _ us hl => match us, hl with | [_, _], _ => rfl⟩
  dKinds := ⟨fd15, _, fun_mk (st := sKinds) ld15 cd15 kd15, PySem.W.mg_of X G ad15, (fun_mk (st := sKinds) ld15 cd15 kd15).binds (ps := ["_law_script", "_law_at", "_law_most"]) fun _ _ _ _ _ _ us hl => match us, hl with | [_, _, _], _ => rfl⟩
  dIsInt := ⟨fd16, _, fun_mk (st := sIsInt) ld16 cd16 kd16, PySem.W.mg_of X G ad16, (fun_mk (st := sIsInt) ld16 cd16 kd16).binds (ps := ["_law_actual"]) fun _ _ _ _ _ _ us hl => match us, hl with | [_], _ => rfl⟩
  dIsRun := ⟨fd17, _, fun_mk (st := sIsRun) ld17 cd17 kd17, PySem.W.mg_of X G ad17, (fun_mk (st := sIsRun) ld17 cd17 kd17).binds (ps := ["_law_actual", "_law_size"]) fun _ _ _ _ _ _ us hl => match us, hl with | [_, _], _ => rfl⟩
  dIsOrd := ⟨fd18, _, fun_mk (st := sIsOrd) ld18 cd18 kd18, PySem.W.mg_of X G ad18, (fun_mk (st := sIsOrd) ld18 cd18 kd18).binds (ps := ["_law_actual", "_law_size"]) fun _ _ _ _ _ _ us hl => match us, hl with | [_, _], _ => rfl⟩
  dSame := ⟨fd19, _, fun_mk (st := sSame) ld19 cd19 kd19, PySem.W.mg_of X G ad19, (fun_mk (st := sSame) ld19 cd19 kd19).binds (ps := ["_law_actual", "_law_expected"]) fun _ _ _ _ _ _ us hl => match us, hl with | [_, _], _ => rfl⟩
  dBeads := ⟨fd20, _, fun_mk (st := sBeads) ld20 cd20 kd20, PySem.W.mg_of X G ad20, (fun_mk (st := sBeads) ld20 cd20 kd20).binds (ps := ["_law_script", "_law_at", "_law_most"]) fun _ _ _ _ _ _ us hl => match us, hl with | [_, _, _], _ => rfl⟩
  dAsc := ⟨fd21, _, fun_mk (st := sAsc) ld21 cd21 kd21, PySem.W.mg_of X G ad21, (fun_mk (st := sAsc) ld21 cd21 kd21).binds (ps := ["_law_items"]) fun _ _ _ _ _ _ us hl => match us, hl with | [_], _ => rfl⟩
  dToll := ⟨fd22, _, fun_mk (st := sToll) ld22 cd22 kd22, PySem.W.mg_of X G ad22, (fun_mk (st := sToll) ld22 cd22 kd22).binds (ps := ["_law_kinds_here", "_law_run"]) fun _ _ _ _ _ _ us hl => match us, hl with | [_, _], _ => rfl⟩
  dLLeast := ⟨fd23, _, fun_mk (st := sLLeast) ld23 cd23 kd23, PySem.W.mg_of X G ad23, (fun_mk (st := sLLeast) ld23 cd23 kd23).binds (ps := ["_law_kinds_here"]) fun _ _ _ _ _ _ us hl => match us, hl with | [_], _ => rfl⟩
  dFirst := ⟨fd24, _, fun_mk (st := sFirst) ld24 cd24 kd24, PySem.W.mg_of X G ad24, (fun_mk (st := sFirst) ld24 cd24 kd24).binds (ps := ["_law_kinds_here"]) fun _ _ _ _ _ _ us hl => match us, hl with | [_], _ => rfl⟩
  dThrifty := ⟨fd25, _, fun_mk (st := sThrifty) ld25 cd25 kd25, PySem.W.mg_of X G ad25, (fun_mk (st := sThrifty) ld25 cd25 kd25).binds (ps := ["_law_kinds_here", "_law_told"]) fun _ _ _ _ _ _ us hl => match us, hl with | [_, _], _ => rfl⟩
  dAdds := ⟨fd26, _, fun_mk (st := sAdds) ld26 cd26 kd26, PySem.W.mg_of X G ad26, (fun_mk (st := sAdds) ld26 cd26 kd26).binds (ps := ["_law_kinds_here", "_law_order", "_law_begun"]) fun _ _ _ _ _ _ us hl => match us, hl with | [_, _, _], _ => rfl⟩
end Bm

/-! Short words for this program: what stands behind a name, a method, a class; a few rules of our own. -/
namespace Bm
open PySem L2
section
variable (P : Program) (w : World) (K : PySem.W.Frag) (mg : Str → Option Value) (base : Heap)
/-- the name x of the top is a def that keeps sp at level k -/
def Cal (k : Nat) (x : Str) (sp : Sp) : Prop := ∃ f fd ps, FnOk P w K mg base CX0 k f fd ps sp ∧ mg x = some (.ref f) ∧ PySem.W.keepIn K (.ref f) = true ∧ Binds K fd ps []
/-- the method m of the class at C keeps sp at level k -/
def Met (k : Nat) (C : Addr) (m : Str) (sp : Sp) : Prop := ∃ f fd ps, Cls K C ∧ Meth K C m f ∧ FnOk P w K mg base CX0 k f fd ps sp ∧ Binds K fd ps []
/-- the class x at C, its __init__ keeps sp at level k; dvs: the defaults that a call without arguments fills in -/
def Mak (k : Nat) (x : Str) (C : Addr) (sp : Sp) (dvs : List V) : Prop := ∃ f fd ps ds, Mk K C f ∧ FnOk P w K mg base CX0 k f fd ps sp ∧ mg x = some (.ref C) ∧ Binds K fd ps ds ∧ Vals dvs ds
end
section
variable {P : Program} {w : World} {K : PySem.W.Frag} {mg : Str → Option Value} {base : Heap}
theorem cal_of {x : Str} {st : Stmt} {ps : List Str} {k : Nat} {sp : Sp} (D : Dn K mg x st ps) (h : ∀ f fd, Fun K x x st f fd → FnOk P w K mg base CX0 k f fd ps sp) : Cal P w K mg base k x sp := by
  obtain ⟨f, fd, F, m, b⟩ := D.ex
  exact ⟨f, fd, ps, h f fd F, m, F.kp, b⟩
theorem met_of {C : Addr} {x qual : Str} {st : Stmt} {ps : List Str} {k : Nat} {sp : Sp} (c : Cls K C) (D : Mn K C x qual st ps) (h : ∀ f fd, Fun K x qual st f fd → FnOk P w K mg base CX0 k f fd ps sp) : Met P w K mg base k C x sp := by
  obtain ⟨f, fd, F, m, b⟩ := D.ex
  exact ⟨f, fd, ps, c, m, h f fd F, b⟩
end
section
variable {X : Cx} {k j : Nat} {C : Addr} {x m : Str} {sp : Sp} {dvs : List V} {p pos apos : Pos} {e o : Expr} {es : List Expr} {ta : TE} {t : TA}
theorem pc (c : Cal X.prog X.w X.K X.mg X.base k x sp) (hr : Room j X.A) (hk : k ≤ j) (hg : Gl X x) (ha : PA X (e :: es) t)
    (h1 : (x == ("__debug__" : Str)) = false := by decide) (h2 : starEach (e :: es) X.env = (false, eval e X.env) :: starEach es X.env := by rfl) (h3 : (backTo pos (starEach es X.env)).any (·.1) = false := by rfl) :
    PE X (.Call (.Name x p) (e :: es) [] pos) (tCall sp [] E0 t) := by
  obtain ⟨f, fd, ps, F, q, kp, b⟩ := c
  exact pe_call F (hr.mono hk) hg q kp b .nil pass0 ha h1 h2 h3
theorem pmk (c : Mak X.prog X.w X.K X.mg X.base k x C sp dvs) (hr : Room j X.A) (hk : k + 1 ≤ j) (hg : Gl X x) (ha : PA X (e :: es) t)
    (h1 : (x == ("__debug__" : Str)) = false := by decide) (h2 : starEach (e :: es) X.env = (false, eval e X.env) :: starEach es X.env := by rfl) (h3 : (backTo pos (starEach es X.env)).any (·.1) = false := by rfl) :
    PE X (.Call (.Name x p) (e :: es) [] pos) (tMake C sp dvs E0 t) := by
  obtain ⟨f, fd, ps, ds, M, F, q, b, d⟩ := c
  exact pe_make M F (hr.mono hk) hg q b d pass0 ha h1 h2 h3
theorem pmk0 (c : Mak X.prog X.w X.K X.mg X.base k x C sp dvs) (hr : Room j X.A) (hk : k + 1 ≤ j) (hg : Gl X x) (h1 : (x == ("__debug__" : Str)) = false := by decide) :
    PE X (.Call (.Name x p) [] [] pos) (tMake C sp dvs E0 tNil) := by
  obtain ⟨f, fd, ps, ds, M, F, q, b, d⟩ := c
  exact pe_make0 M F (hr.mono hk) hg q b d pass0 h1
end
theorem deq {i j : Int} : (V.int i = V.int j) ↔ i = j := ⟨fun h => V.int.inj h, fun h => by rw [h]⟩
theorem dseq {x y : Str} : (V.str x = V.str y) ↔ x = y := ⟨fun h => V.str.inj h, fun h => by rw [h]⟩
/-- an open test of == on ints -/
theorem iteQ {i j : Int} {A B : Prop} (h1 : i = j → A) (h2 : i ≠ j → B) : if decide (V.int i = V.int j) = true then A else B :=
  ite2 (fun e => h1 (deq.mp (of_decide_eq_true e))) fun e => h2 fun z => e (decide_eq_true (deq.mpr z))
theorem iteN {i j : Int} {A B : Prop} (h1 : i ≠ j → A) (h2 : i = j → B) : if (!decide (V.int i = V.int j)) = true then A else B := by
  by_cases e : i = j
  · subst e
    rw [show decide (V.int i = V.int i) = true from decide_eq_true rfl]
    exact iteF (h2 rfl)
  · rw [show decide (V.int i = V.int j) = false from decide_eq_false fun z => e (deq.mp z)]
    exact iteT (h1 e)
/-- an open test by decide -/
theorem iteD {c A B : Prop} [Decidable c] (h1 : c → A) (h2 : ¬ c → B) : if decide c = true then A else B :=
  ite2 (fun e => h1 (of_decide_eq_true e)) fun e => h2 fun z => e (decide_eq_true z)
theorem same_upd {H : Hp} {p : Addr} {o : HO} (h : H p = none) : Same H (upd H p o) := fun b x e => by
  rw [upd_ne (ne_of_none e h)]
  exact e
end Bm

/-! Rules of our own: len(set(t)) of a tuple of ints with repeats; `x is True` of an int or an object; f(k = v). -/
namespace Bm
open PySem PySem.Spec PyProof.Rows L2
section
variable {X : Cx}
/-- the number of different ints is not told: some number -/
def tLenSetT (K : PySem.W.Frag) (ta : TE) : TE := fun σ H Q =>
  ta σ H fun x H1 => ∃ (l : Addr) (ns : List Int), x = V.ref l ∧ SqT K H1 l (ns.map V.int) ∧ ns.length ≤ 1000 ∧ ∀ c : Int, Q (.int c) H1
theorem pe_lenSetT {a : Expr} {ta : TE} {p p2 q pos : Pos} (calm : X.calm = true) (gl : Gl X "len") (ml : X.mg "len" = none) (gs : Gl X "set") (ms : X.mg "set" = none) (ha : PE X a ta)
    (na : starEach [a] X.env = (false, eval a X.env) :: starEach [] X.env := by rfl) :
    PE X (.Call (.Name "len" p) [.Call (.Name "set" p2) [a] [] q] [] pos) (tLenSetT X.K ta) := by
  constructor
  intro pins s σ H Q I h
  refine Call_ (ld_blt I gl ml PySem.boot_len ?_)
  refine callWith_builtin1 (args_cons ?_ rfl) rfl rfl
  refine Call_ (ld_blt I gs ms boot_set ?_)
  refine callWith_type1 (args_cons (thn (ha.run pins s σ H _ I h) fun v s1 hv => args_nil ?_) na) na rfl
  obtain ⟨x, H1, I1, r1, l, ns, ex, sq, bd, k⟩ := hv
  subst ex
  cases r1
  obtain ⟨its, rv, tup, _⟩ := I1.tuple sq
  refine call_set_tupI ns (I1.ok.hd calm) (show s1.heap.IsTuple l its.toArray from tup) (ints_of_vals rv) (by unfold scanBound; omega) fun h2 tk c R cn keep => args_nil ?_
  obtain ⟨o, es, ep, t, ho, ex, hdt, _, _, _, _, fit, en, _, _⟩ := R
  have I2 : Inv X pins σ H1 { s1 with heap := h2, toks := tk } := I1.kept keep
  exact call_len_set ho ex hdt fit (by rw [en]; omega) ⟨.int es.size, H1, I2.tok _, ⟨_, rfl⟩, k _⟩
/-- an int, an object is no truth value -/
theorem op_isB : OpR X (compareOp .Is) (fun x y H Q => ((∃ i, x = .int i) ∨ ∃ a, x = .ref a) ∧ (∃ b, y = .bl b) ∧ Q (.bl false) H) := by
  intro pins s σ H x y v u Q I rx ry h
  obtain ⟨hx, ⟨b, rfl⟩, q⟩ := h
  cases (show u = Value.bool b from ry)
  rcases hx with ⟨i, rfl⟩ | ⟨a, rfl⟩
  · obtain ⟨t, rfl⟩ := rx
    exact wpAny_is_other rfl (fun z => nomatch z) ⟨.bl false, H, I, rfl, q⟩
  · cases (show v = Value.ref a from rx)
    exact wpAny_is_other rfl (fun z => nomatch z) ⟨.bl false, H, I, rfl, q⟩
end
section
variable {X : Cx} {k j : Nat} {f : Addr} {fd : FuncData} {ps ks : List Str} {sp : Sp} {E : XK} {x : Str} {p pos : Pos} {kws : List Keyword} {tk : TA} {g : List Value → List Value → List Value} {gV : List V → List V → List V}
/-- f(k = v, ..) without values ahead -/
theorem pe_callN0 (F : FnOk X.prog X.w X.K X.mg X.base CX0 k f fd ps sp) (hr : Room k X.A) (hg : Gl X x) (hm : X.mg x = some (.ref f)) (hk : PySem.W.keepIn X.K (.ref f) = true) (hb : KBn X.K fd ps 0 ks g gV) (hkw : PK X kws tk)
    (hall : (backToKw pos (keywordEach kws X.env)).all (·.1.isSome) = true := by rfl) (hks : (backToKw pos (keywordEach kws X.env)).filterMap (·.1) = ks := by rfl)
    (hdb : (x == ("__debug__" : Str)) = false := by decide)
    (hpl : ((backTo pos (starEach [] X.env)).any (·.1) || (backToKw pos (keywordEach kws X.env)).any (·.1.isNone)) = false := by rfl) :
    PE X (.Call (.Name x p) [] kws pos) (tCallN 0 ks.length sp gV E0 tNil tk) := by
  constructor
  intro pins s σ H Q I h
  apply wpAny_Call_Name_kw
  refine ld_glob I hg hm ?_ hdb
  refine PySem.W.callWith_KW0 (h₀ := X.base) I.ok.mod.kin hk hall ?_ hpl
  refine thn (hkw.run pos pins s σ H _ I h) fun ws s2 hz => ?_
  obtain ⟨zs, H2, I2, rz, l1, l2, q2⟩ := hz
  refine ⟨I2.kIn, ?_⟩
  rw [hks]
  exact run_fnN (us := []) (vs := []) F hr hb pass0 I2 .nil rz rfl l2 q2
end
end Bm

namespace Bm
open PySem L2
section
variable {P : Program} {w : World} {K : PySem.W.Frag} {mg : Str → Option Value} {base : Heap} {CP CS CR : Addr}
/-! ### mark_of -/
def markS (l b r : Int) : Str := if l = r then (if b = l then "quiet" else "odd") else if b = l ∨ b = r then "edge" else "strife"
def spMark : Sp := fun vs H Q _ => ∃ l b r : Int, vs = [.int l, .int b, .int r] ∧ Q (.str (markS l b r)) H
theorem scMark : FnScope ["left", "bead", "right"] ["left", "bead", "right"] (defScope sMark) := ⟨rfl, rfl, rfl, by decide +kernel, rfl, by decide +kernel, by decide +kernel⟩
theorem c_mark (T : Txt K mg CP CS CR) : Cal P w K mg base 1 "mark_of" spMark := cal_of T.dMark fun f fd F => by
  refine F.ok scMark (fun vs H Q E h => ?_) (fun cdv A outer s H vs Q E hr h => ?_)
  · obtain ⟨l, b, r, rfl, _⟩ := h
    rfl
  · obtain ⟨l, b, r, rfl, k⟩ := h
    refine ⟨_, pss_cons (ps_if (pt_cmpR op_eq (pv 0) (pv 2) (nomark _)) (pss_cons (ps_if (pt_cmpR op_eq (pv 1) (pv 0) (nomark _)) (pss_one (ps_ret pe_str)) pss_nil) (pss_one (ps_ret pe_str))) pss_nil)
      (pss_cons (ps_if (PW.pt (pw_or (pt_cmpR op_eq (pv 1) (pv 0) (nomark _)) (pw_or1 (pt_cmpR op_eq (pv 1) (pv 2) (nomark _))))) (pss_one (ps_ret pe_str)) pss_nil) (pss_one (ps_ret pe_str))), ?_⟩
    refine ⟨_, rfl, _, rfl, rfl, _, rfl, iteQ (fun e => ?_) (fun e => ?_)⟩
    · refine ⟨_, rfl, _, rfl, rfl, _, rfl, iteQ (fun e2 => ?_) (fun e2 => ?_)⟩
      · unfold markS at k
        rw [if_pos e, if_pos e2] at k
        exact k
      · unfold markS at k
        rw [if_pos e, if_neg e2] at k
        exact k
    · unfold markS at k
      rw [if_neg e] at k
      refine ⟨_, rfl, _, rfl, rfl, _, rfl, iteQ (fun e2 => ?_) (fun e2 => ?_)⟩
      · refine iteT ?_
        rw [if_pos (Or.inl e2)] at k
        exact k
      · refine ⟨_, rfl, _, rfl, rfl, _, rfl, iteQ (fun e3 => ?_) (fun e3 => ?_)⟩
        · rw [if_pos (Or.inr e3)] at k
          exact k
        · rw [if_neg (by rintro (z | z) <;> contradiction)] at k
          exact k

/-! ### Prices -/
/-- a Prices of the default prices stands at p -/
def PrAt (CP : Addr) (H : Hp) (p : Addr) : Prop := ∃ dx fs, H p = some (.ins CP dx fs) ∧ fs.lookup ("quiet" : Str) = some (.int 0) ∧ fs.lookup ("odd" : Str) = some (.int 0) ∧ fs.lookup ("edge" : Str) = some (.int 1) ∧ fs.lookup ("strife" : Str) = some (.int 1)
theorem PrAt.same {H H' : Hp} {p : Addr} (h : PrAt CP H p) (s : Same H H') : PrAt CP H' p := by
  obtain ⟨dx, fs, a, b⟩ := h
  exact ⟨dx, fs, s _ _ a, b⟩
def spPrC (CP : Addr) : Sp := fun vs H Q _ => ∃ (p : Addr) (l b r : Int), vs = [.ref p, .str (markS l b r)] ∧ PrAt CP H p ∧ Q (.int (u l r)) H
theorem scPrC : FnScope ["self", "mark"] ["self", "mark"] (defScope sPrC) := ⟨rfl, rfl, rfl, by decide +kernel, rfl, by decide +kernel, by decide +kernel⟩
theorem ok_prc (T : Txt K mg CP CS CR) {f : Addr} {fd : FuncData} (F : Fun K "__call__" "Prices.__call__" sPrC f fd) : FnOk P w K mg base CX0 1 f fd ["self", "mark"] (spPrC CP) := by
  refine F.ok scPrC (fun vs H Q E h => ?_) (fun cdv A outer s H vs Q E hr h => ?_)
  · obtain ⟨p, l, b, r, rfl, _⟩ := h
    rfl
  · obtain ⟨p, l, b, r, rfl, ⟨dx, fs, hp, h0, h1, h2, h3⟩, k⟩ := h
    refine ⟨_, pss_cons (ps_if (pt_cmpR op_eq (pv 1) pe_str (nomark _)) (pss_one (ps_ret (pe_fld (pv 0) rfl))) pss_nil)
      (pss_cons (ps_if (pt_cmpR op_eq (pv 1) pe_str (nomark _)) (pss_one (ps_ret (pe_fld (pv 0) rfl))) pss_nil)
      (pss_cons (ps_if (pt_cmpR op_eq (pv 1) pe_str (nomark _)) (pss_one (ps_ret (pe_fld (pv 0) rfl))) pss_nil)
      (pss_cons (ps_if (pt_cmpR op_eq (pv 1) pe_str (nomark _)) (pss_one (ps_ret (pe_fld (pv 0) rfl))) pss_nil) pss_never))), ?_⟩
    have go : ∀ (m : Str) (z : Int), markS l b r = m → u l r = z → Q (.int z) H := fun m z _ e => e ▸ k
    have cases4 : (markS l b r = "quiet" ∧ u l r = 0) ∨ (markS l b r = "odd" ∧ u l r = 0) ∨ (markS l b r = "edge" ∧ u l r = 1) ∨ (markS l b r = "strife" ∧ u l r = 1) := by
      unfold markS u
      by_cases e : l = r
      · rw [if_pos e, if_pos e]
        by_cases e2 : b = l
        · rw [if_pos e2]; exact .inl ⟨rfl, rfl⟩
        · rw [if_neg e2]; exact .inr (.inl ⟨rfl, rfl⟩)
      · rw [if_neg e, if_neg e]
        by_cases e2 : b = l ∨ b = r
        · rw [if_pos e2]; exact .inr (.inr (.inl ⟨rfl, rfl⟩))
        · rw [if_neg e2]; exact .inr (.inr (.inr ⟨rfl, rfl⟩))
    have no : ∀ {x y : Str}, x ≠ y → ¬ decide (V.str x = V.str y) = true := fun n z => n (dseq.mp (of_decide_eq_true z))
    rcases cases4 with ⟨e, z⟩ | ⟨e, z⟩ | ⟨e, z⟩ | ⟨e, z⟩
    · rw [e]
      rw [z] at k
      refine ⟨_, rfl, rfl, _, rfl, ite2 (fun _ => ?_) (fun n => absurd (decide_eq_true rfl) n)⟩
      exact ⟨_, rfl, p, CP, dx, fs, _, rfl, hp, T.pCl, T.p _, h0, k⟩
    · rw [e]
      rw [z] at k
      refine ⟨_, rfl, rfl, _, rfl, ite2 (fun n => absurd n (no (by decide +kernel))) (fun _ => ?_)⟩
      refine ⟨_, rfl, rfl, _, rfl, ite2 (fun _ => ?_) (fun n => absurd (decide_eq_true rfl) n)⟩
      exact ⟨_, rfl, p, CP, dx, fs, _, rfl, hp, T.pCl, T.p _, h1, k⟩
    · rw [e]
      rw [z] at k
      refine ⟨_, rfl, rfl, _, rfl, ite2 (fun n => absurd n (no (by decide +kernel))) (fun _ => ?_)⟩
      refine ⟨_, rfl, rfl, _, rfl, ite2 (fun n => absurd n (no (by decide +kernel))) (fun _ => ?_)⟩
      refine ⟨_, rfl, rfl, _, rfl, ite2 (fun _ => ?_) (fun n => absurd (decide_eq_true rfl) n)⟩
      exact ⟨_, rfl, p, CP, dx, fs, _, rfl, hp, T.pCl, T.p _, h2, k⟩
    · rw [e]
      rw [z] at k
      refine ⟨_, rfl, rfl, _, rfl, ite2 (fun n => absurd n (no (by decide +kernel))) (fun _ => ?_)⟩
      refine ⟨_, rfl, rfl, _, rfl, ite2 (fun n => absurd n (no (by decide +kernel))) (fun _ => ?_)⟩
      refine ⟨_, rfl, rfl, _, rfl, ite2 (fun n => absurd n (no (by decide +kernel))) (fun _ => ?_)⟩
      refine ⟨_, rfl, rfl, _, rfl, ite2 (fun _ => ?_) (fun n => absurd (decide_eq_true rfl) n)⟩
      exact ⟨_, rfl, p, CP, dx, fs, _, rfl, hp, T.pCl, T.p _, h3, k⟩
end
end Bm

namespace Bm
open PySem L2
section
variable {P : Program} {w : World} {K : PySem.W.Frag} {mg : Str → Option Value} {base : Heap} {CP CS CR : Addr}
/-! ### Prices.__init__ -/
def spPrI (CP : Addr) : Sp := fun vs H Q _ => ∃ (p dx : Addr), vs = [.ref p, .int 0, .int 0, .int 1, .int 1] ∧ H p = some (.ins CP dx []) ∧
  ∀ H' : Hp, PrAt CP H' p → (∀ b o, H b = some o → b ≠ p → H' b = some o) → Q .non H'
theorem scPrI : FnScope ["self", "quiet", "odd", "edge", "strife", "mark", "price"] ["self", "quiet", "odd", "edge", "strife"] (defScope sPrI) := ⟨rfl, rfl, rfl, by decide +kernel, rfl, by decide +kernel, by decide +kernel⟩
theorem pfl (a b c d : V) : (putF "strife" d (putF "edge" c (putF "odd" b (putF "quiet" a [])))) = ([("quiet", a), ("odd", b), ("edge", c), ("strife", d)] : List (Str × V)) := by
  simp only [putF, show ¬ (("quiet" : Str) = "odd") by decide +kernel, show ¬ (("quiet" : Str) = "edge") by decide +kernel, show ¬ (("quiet" : Str) = "strife") by decide +kernel, show ¬ (("odd" : Str) = "edge") by decide +kernel,
    show ¬ (("odd" : Str) = "strife") by decide +kernel, show ¬ (("edge" : Str) = "strife") by decide +kernel, if_false]
theorem ok_pri (T : Txt K mg CP CS CR) {f : Addr} {fd : FuncData} (F : FunD K "__init__" "Prices.__init__" (defArgs sPrI) (defBody sPrI) (defScope sPrI) [] [("quiet", .int 0), ("odd", .int 0), ("edge", .int 1), ("strife", .int 1)] f fd) :
    FnOk P w K mg base CX0 1 f fd ["self", "quiet", "odd", "edge", "strife"] (spPrI CP) := by
  refine F.ok scPrI (fun vs H Q E h => ?_) (fun cdv A outer s H vs Q E hr h => ?_)
  · obtain ⟨p, dx, rfl, _⟩ := h
    rfl
  · obtain ⟨p, dx, rfl, hp, k⟩ := h
    obtain ⟨aM, mM, sM⟩ := T.marks
    obtain ⟨tT, mT⟩ := T.top
    refine ⟨_, PSs.nox (pss_cons (ps_for PassesOwn.never rfl (RZ.pi_zipA (by rfl) (T.b "zip") (pa_cons (pe_glob (v := .ref aM) (by rfl) mM rfl) (pa_cons (pe_tup (pa_cons (pv 1) (pa_cons (pv 2) (pa_cons (pv 3) (pa_cons (pv 4) pa_nil))))) pa_nil)))
        (pg_tup rfl (pgs_cons (pg_name (i := 5) scPrI.nd rfl (.inl rfl)) (pgs_cons (pg_name (i := 6) scPrI.nd rfl (.inl rfl)) pgs_nil)))
        (pss_one (ps_if (PW.pt (pw_or (pt_cmpR op_lt (pv 6) (pe_un un_neg (pe_glob (v := .int 1000000000) (by rfl) mT ⟨_, rfl⟩)) (nomark _)) (pw_or1 (pt_cmpR op_gt (pv 6) (pe_glob (v := .int 1000000000) (by rfl) mT ⟨_, rfl⟩) (nomark _))))) pss_never pss_nil)))
      (pss_cons (ps_fld (pv 0) (pv 1) rfl) (pss_cons (ps_fld (pv 0) (pv 2) rfl) (pss_cons (ps_fld (pv 0) (pv 3) rfl) (pss_one (ps_fld (pv 0) (pv 4) rfl)))))), ?_⟩
    have nTp : ∀ t, H t = none → p ≠ t := fun t n => ne_of_none hp n
    refine ⟨_, rfl, _, rfl, _, rfl, _, rfl, (by show 4 ≤ sizeLine; decide), fun t nt => ?_⟩
    refine ⟨aM, t, _, _, rfl, .inr ⟨sM _, SqT.of upd_same, ?_⟩⟩
    refine RZ.for_zipT (xs := [.str "quiet", .str "odd", .str "edge", .str "strife"]) (ys := [.int 0, .int 0, .int 1, .int 1]) rfl
      (fun i σ H1 => (∃ a b, σ = [some (.ref p), some (.int 0), some (.int 0), some (.int 1), some (.int 1), a, b]) ∧ Same (upd H t (.tup [.int 0, .int 0, .int 1, .int 1])) H1) ⟨⟨none, none, rfl⟩, Same.refl _⟩ (fun i σ H1 hW => ⟨sM _, SqT.of (hW.2 _ _ upd_same)⟩) (fun i x y t2 σ H1 hx hy hW nt2 => ?_) (fun σ H1 hW => ?_)
    · obtain ⟨⟨a, b, rfl⟩, sm⟩ := hW
      have hy2 : y = .int 0 ∨ y = .int 1 := by
        have := List.mem_of_getElem? hy
        simpa using this
      refine ⟨t2, [x, y], rfl, SqT.of upd_same, rfl, x, [y], rfl, y, [], rfl, rfl, ?_⟩
      have fin : (∃ a b, ([some (.ref p), some (.int 0), some (.int 0), some (.int 1), some (.int 1), some x, some y] : List (Option V)) = [some (.ref p), some (.int 0), some (.int 0), some (.int 1), some (.int 1), a, b]) ∧ Same (upd H t (.tup [.int 0, .int 0, .int 1, .int 1])) (upd H1 t2 (.tup [x, y])) :=
        ⟨⟨_, _, rfl⟩, sm.trans (same_upd nt2)⟩
      rcases hy2 with rfl | rfl
      · exact ⟨_, rfl, _, rfl, _, _, rfl, rfl, _, rfl, iteD (fun h => absurd h (by decide)) fun _ => ⟨_, rfl, _, _, rfl, rfl, _, rfl, iteD (fun h => absurd h (by decide)) fun _ => fin⟩⟩
      · exact ⟨_, rfl, _, rfl, _, _, rfl, rfl, _, rfl, iteD (fun h => absurd h (by decide)) fun _ => ⟨_, rfl, _, _, rfl, rfl, _, rfl, iteD (fun h => absurd h (by decide)) fun _ => fin⟩⟩
    · obtain ⟨⟨a, b, rfl⟩, sm⟩ := hW
      have hp1 : H1 p = some (.ins CP dx []) := sm _ _ (by rw [upd_ne (nTp t nt)]; exact hp)
      refine ⟨_, rfl, _, rfl, p, CP, dx, _, rfl, hp1, T.pCl, T.p _, by decide, ?_⟩
      refine ⟨_, rfl, _, rfl, p, CP, dx, _, rfl, upd_same, T.pCl, T.p _, by show 1 < 1000; decide, ?_⟩
      refine ⟨_, rfl, _, rfl, p, CP, dx, _, rfl, upd_same, T.pCl, T.p _, by show 2 < 1000; decide, ?_⟩
      refine ⟨_, rfl, _, rfl, p, CP, dx, _, rfl, upd_same, T.pCl, T.p _, by show 3 < 1000; decide, ?_⟩
      refine k _ ⟨dx, _, upd_same, ?_, ?_, ?_, ?_⟩ fun b o e nb => ?_
      · rw [pfl]; decide +kernel
      · rw [pfl]; decide +kernel
      · rw [pfl]; decide +kernel
      · rw [pfl]; decide +kernel
      · rw [upd_ne nb, upd_ne nb, upd_ne nb, upd_ne nb]
        exact sm _ _ (by rw [upd_ne (ne_of_none e nt)]; exact e)
end
end Bm

namespace Bm
open PySem L2
section
variable {P : Program} {w : World} {K : PySem.W.Frag} {mg : Str → Option Value} {base : Heap} {CP CS CR : Addr}
theorem mak_pr (T : Txt K mg CP CS CR) : Mak P w K mg base 1 "Prices" CP (spPrI CP) [.int 0, .int 0, .int 1, .int 1] := by
  obtain ⟨f, fd, M, F⟩ := T.pIn
  obtain ⟨ds, vd, b⟩ := F.binds0 (ps := ["self", "quiet", "odd", "edge", "strife"]) 1 (fun z => nomatch z) rfl fun D doc pm an cdv ct us ks hu hk =>
    match us, ks, hu, hk with
    | [_], [_, _, _, _], _, _ => ⟨_, _, _, _, _, _, rfl, rfl, _, _, _, _, _, _, rfl, rfl, _, _, _, _, _, _, rfl, rfl, _, _, _, _, _, _, rfl, rfl, rfl⟩
  exact ⟨f, fd, _, ds, M, ok_pri T F, T.pMg, b, vd⟩
end
end Bm

namespace Bm
open PySem L2
section
variable {P : Program} {w : World} {K : PySem.W.Frag} {mg : Str → Option Value} {base : Heap} {CP CS CR : Addr}
abbrev iV (ks : List Int) : List V := ks.map V.int
/-- kinds that make a strand -/
structure KOk (ks : List Int) : Prop where
  lo : 2 ≤ ks.length
  hi : ks.length ≤ 24
  rg : ∀ k ∈ ks, 0 ≤ k ∧ k ≤ 999
/-- a Strand of these kinds stands at p -/
def StAt (K : PySem.W.Frag) (CS : Addr) (H : Hp) (p : Addr) (ks : List Int) : Prop := KOk ks ∧ ∃ dx fs t, H p = some (.ins CS dx fs) ∧ fs.lookup ("kinds" : Str) = some (.ref t) ∧ SqT K H t (iV ks) ∧ fs.lookup ("size" : Str) = some (.int ks.length)
theorem sT {H H' : Hp} {a : Addr} {xs : List V} (e : Same H H') (h : SqT K H a xs) : SqT K H' a xs := by
  rcases h with (h | ⟨o, h⟩) | h
  · exact .inl (.inl (e _ _ h))
  · exact .inl (.inr ⟨o, e _ _ h⟩)
  · exact .inr h
theorem StAt.same {H H' : Hp} {p : Addr} {ks : List Int} (h : StAt K CS H p ks) (s : Same H H') : StAt K CS H' p ks := by
  obtain ⟨ok, dx, fs, t, a, b, c, d⟩ := h
  exact ⟨ok, dx, fs, t, s _ _ a, b, sT s c, d⟩
theorem at_int {ks : List Int} {i : Int} (h1 : -(ks.length : Int) ≤ i) (h2 : i < ks.length) : ∃ z, z ∈ ks ∧ atI (iV ks) i = some (.int z) := by
  unfold atI ixN
  rw [List.length_map]
  by_cases c : 0 ≤ i
  · rw [if_pos c, if_pos h2]
    have hl : i.toNat < ks.length := by omega
    exact ⟨ks[i.toNat], List.getElem_mem hl, by simp [iV, hl]⟩
  · rw [if_neg c, if_pos h1]
    have hl : (i + ks.length).toNat < ks.length := by omega
    exact ⟨ks[(i + ks.length).toNat], List.getElem_mem hl, by simp [iV, hl]⟩
def spStI (K : PySem.W.Frag) (CS : Addr) : Sp := fun vs H Q _ => ∃ (p dx a : Addr) (ks : List Int), vs = [.ref p, .ref a] ∧ H p = some (.ins CS dx []) ∧ KOk ks ∧ (SqL K H a (iV ks) ∨ SqT K H a (iV ks)) ∧
  ∀ H' : Hp, StAt K CS H' p ks → (∀ b o, H b = some o → b ≠ p → H' b = some o) → Q .non H'
theorem scStI : FnScope ["self", "kinds", "size", "bead"] ["self", "kinds"] (defScope sStI) := ⟨rfl, rfl, rfl, by decide +kernel, rfl, by decide +kernel, by decide +kernel⟩
theorem sfl (a b c d e : V) : (putF "variety" e (putF "ends_unlike" d (putF "unlike_pairs" c (putF "size" b (putF "kinds" a []))))) = ([("kinds", a), ("size", b), ("unlike_pairs", c), ("ends_unlike", d), ("variety", e)] : List (Str × V)) := by
  simp only [putF, show ¬ (("kinds" : Str) = "size") by decide +kernel, show ¬ (("kinds" : Str) = "unlike_pairs") by decide +kernel, show ¬ (("kinds" : Str) = "ends_unlike") by decide +kernel, show ¬ (("kinds" : Str) = "variety") by decide +kernel,
    show ¬ (("size" : Str) = "unlike_pairs") by decide +kernel, show ¬ (("size" : Str) = "ends_unlike") by decide +kernel, show ¬ (("size" : Str) = "variety") by decide +kernel, show ¬ (("unlike_pairs" : Str) = "ends_unlike") by decide +kernel,
    show ¬ (("unlike_pairs" : Str) = "variety") by decide +kernel, show ¬ (("ends_unlike" : Str) = "variety") by decide +kernel, if_false]
theorem putF_len {f : Str} {v : V} : ∀ fs : List (Str × V), (putF f v fs).length ≤ fs.length + 1
  | [] => Nat.le_refl _
  | (g, w) :: r => by
    have ih := putF_len (f := f) (v := v) r
    unfold putF
    split
    · simp
    · simp only [List.length_cons]
      omega
theorem sT_ins {H : Hp} {t p C dx : Addr} {xs : List V} {fs gs : List (Str × V)} (h : SqT K H t xs) (hp : H p = some (.ins C dx fs)) : SqT K (upd H p (.ins C dx gs)) t xs := by
  rcases h with (h | ⟨o, h⟩) | h
  · have nt : t ≠ p := ne_of h hp (fun z => by cases z)
    exact .inl (.inl (by rw [upd_ne nt]; exact h))
  · have nt : t ≠ p := ne_of h hp (fun z => by cases z)
    exact .inl (.inr ⟨o, by rw [upd_ne nt]; exact h⟩)
  · exact .inr h
theorem ok_sti (T : Txt K mg CP CS CR) {f : Addr} {fd : FuncData} (F : Fun K "__init__" "Strand.__init__" sStI f fd) : FnOk P w K mg base CX0 1 f fd ["self", "kinds"] (spStI K CS) := by
  refine F.ok scStI (fun vs H Q E h => ?_) (fun cdv A outer s H vs Q E hr h => ?_)
  · obtain ⟨p, dx, a, ks, rfl, _⟩ := h
    rfl
  · obtain ⟨p, dx, a, ks, rfl, hp, ok, hA, k⟩ := h
    obtain ⟨uM, cM⟩ := T.sMo
    obtain ⟨uT, cT⟩ := T.sTo
    have l1 := ok.lo
    have l2 := ok.hi
    refine ⟨_, C8.pss_cut (ps_set (i := 1) scStI.nd rfl (.inr rfl) (pe_callTy call_tuple_of (by rfl) (T.b "tuple") (by decide +kernel) (pa_cons (pv 1) pa_nil)))
      (pss_cons (ps_set (i := 2) scStI.nd rfl (.inl rfl) (pe_callB call_len_seq (by rfl) (T.b "len") PySem.boot_len (pa_cons (pv 1) pa_nil)))
      (pss_cons (ps_if (PW.pt (pw_or (pt_cmpR op_lt (pv 2) pe_int (nomark _)) (pw_or1 (pt_cmpR op_gt (pv 2) (ClX.pe_cval (pe_glob (v := .ref CS) (by rfl) T.sMg rfl)) (nomark _))))) pss_never pss_nil)
      (pss_cons (ps_for PassesOwn.never rfl (pi_range1 (by rfl) (T.b "range") (pa_cons (pv 2) pa_nil)) (pg_name (i := 3) scStI.nd rfl (.inl rfl))
        (pss_one (ps_if (PW.pt (pw_or (pt_cmpR op_lt (pe_ix ix_tup (pv 1) (pv 3) (fun _ _ => rfl)) pe_int (nomark _)) (pw_or1 (pt_cmpR op_gt (pe_ix ix_tup (pv 1) (pv 3) (fun _ _ => rfl)) (ClX.pe_cval (pe_glob (v := .ref CS) (by rfl) T.sMg rfl)) (nomark _))))) pss_never pss_nil)))
      (pss_cons (ps_fld (pv 0) (pv 1) rfl)
      (pss_cons (ps_fld (pv 0) (pv 2) rfl)
      (pss_cons (ps_fld (pv 0) (pe_callB call_len_seq (by rfl) (T.b "len") PySem.boot_len (pa_cons (pe_lc (own := [("bead", 3)]) (g := gName 3) (by rfl) scStI.nd (pi_range1 (by rfl) (T.b "range") (pa_cons (pv 2) pa_nil))
          (blkOk_by (own := [("bead", 3)]) (N := ["self", "kinds", "size", "bead"]) (sc := defScope sStI) (by decide +kernel)) (fun _ _ _ _ _ => pg_name (i := 3) scStI.nd rfl (Or.inl rfl))
          (fun _ _ _ _ _ => pts_one (pt_cmpR op_ne (pe_ix (r := rIxT K) ix_tup (pv 1) (pv 3) (fun _ _ => rfl)) (pe_ix (r := rIxT K) ix_tup (pv 1) (pe_op op_sub (pv 3) pe_int) (fun _ _ => rfl)) (nomark _))) (fun _ _ _ _ _ => pv 3)) pa_nil)) rfl)
      (pss_cons (ps_fld (pv 0) (pe_callTy call_int1 (by rfl) (T.b "int") (by decide +kernel) (pa_cons (pe_cmpR op_ne (pe_ix ix_tup (pv 1) pe_int (fun _ _ => rfl)) (pe_ix ix_tup (pv 1) (pe_un un_neg pe_int) (fun _ _ => rfl)) (nomark _)) pa_nil)) rfl)
      (pss_one (ps_fld (pv 0) (pe_lenSetT (by rfl) (by rfl) (T.b "len") (by rfl) (T.b "set") (pv 1)) rfl))))))))), ?_⟩
    -- the first statement leaves a tuple of the kinds, new or the one handed in
    refine ⟨fun σ1 H1 => ∃ t, σ1 = [some (.ref p), some (.ref t), none, none] ∧ Same H H1 ∧ SqT K H1 t (iV ks), ⟨_, rfl, ?_⟩, fun σ1 H1 hW => ?_⟩
    · rcases hA with hA | hA
      · exact ⟨a, _, rfl, .inl ⟨hA, fun l nl => ⟨l, rfl, same_upd nl, SqT.of upd_same⟩⟩⟩
      · exact ⟨a, _, rfl, .inr ⟨hA, a, rfl, Same.refl _, hA⟩⟩
    obtain ⟨t, rfl, sm, hT⟩ := hW
    have hp1 : H1 p = some (.ins CS dx []) := sm _ _ hp
    have hlen : ((iV ks).length : Int) = ks.length := by simp
    refine ⟨_, rfl, t, _, rfl, .inr hT, ?_⟩
    rw [hlen]
    -- its size is well
    refine ⟨_, rfl, _, _, rfl, rfl, _, rfl, iteD (fun h => absurd h (by omega)) fun _ => ⟨_, rfl, CS, _, _, uM, rfl, T.sRd, cM, _, _, rfl, rfl, _, rfl, iteD (fun h => absurd h (by omega)) fun _ => ?_⟩⟩
    -- its kinds are well
    refine ⟨_, rfl, ks.length, rfl, by omega, by omega, ?_⟩
    refine for_range (lo := 0) (n := (ks.length : Int).toNat) (fun i σ2 H2 => ∃ b, σ2 = [some (.ref p), some (.ref t), some (.int ks.length), b] ∧ H2 = H1) ⟨_, rfl, rfl⟩ (fun i σ2 H2 hi hW => ?_) (fun σ2 H2 hW => ?_)
    · obtain ⟨b, rfl, rfl⟩ := hW
      obtain ⟨z, hz, ez⟩ := at_int (ks := ks) (i := 0 + (i : Int)) (by omega) (by omega)
      have := ok.rg z hz
      refine ⟨_, rfl, _, rfl, t, _, _, _, rfl, rfl, hT, ez, _, _, rfl, rfl, _, rfl, iteD (fun h => absurd h (by omega)) fun _ => ?_⟩
      exact ⟨_, rfl, _, rfl, t, _, _, _, rfl, rfl, hT, ez, CS, _, _, uT, rfl, T.sRd, cT, _, _, rfl, rfl, _, rfl, iteD (fun h => absurd h (by omega)) fun _ => ⟨_, rfl, rfl⟩⟩
    · obtain ⟨b, rfl, rfl⟩ := hW
      -- kinds, size
      refine ⟨_, rfl, _, rfl, p, CS, dx, _, rfl, hp1, T.sCl, T.s _, by decide, ?_⟩
      refine ⟨_, rfl, _, rfl, p, CS, dx, _, rfl, upd_same, T.sCl, T.s _, by show 1 < 1000; decide, ?_⟩
      generalize hF : putF "size" (V.int ks.length) (putF "kinds" (V.ref t) []) = fs2
      have sm3 : ∀ b o, H b = some o → b ≠ p → (upd (upd H2 p (.ins CS dx (putF "kinds" (V.ref t) []))) p (.ins CS dx fs2)) b = some o := fun b o e nb => by
        rw [upd_ne nb, upd_ne nb]
        exact sm _ _ e
      have hT3 : SqT K (upd (upd H2 p (.ins CS dx (putF "kinds" (V.ref t) []))) p (.ins CS dx fs2)) t (iV ks) := sT_ins (sT_ins hT hp1) upd_same
      have hp3 : (upd (upd H2 p (.ins CS dx (putF "kinds" (V.ref t) []))) p (.ins CS dx fs2)) p = some (.ins CS dx fs2) := upd_same
      generalize (upd (upd H2 p (.ins CS dx (putF "kinds" (V.ref t) []))) p (.ins CS dx fs2)) = H3 at sm3 hT3 hp3
      -- unlike_pairs
      refine ⟨_, rfl, ks.length, rfl, by omega, by omega, fun D nD => ?_⟩
      refine lc_range (lo := 0) (n := (ks.length : Int).toNat) (fun i H4 => Same H3 H4 ∧ ∃ acc : List V, H4 D = some (.lst acc) ∧ acc.length ≤ i) ⟨same_upd nD, [], upd_same, Nat.le_refl _⟩ (fun i H4 hi hW => ?_) (fun H4 hW => ?_)
      · obtain ⟨s4, acc, hD, hac⟩ := hW
        have hT4 : SqT K H4 t (iV ks) := sT s4 hT3
        obtain ⟨z, hz, ez⟩ := at_int (ks := ks) (i := 0 + (i : Int)) (by omega) (by omega)
        obtain ⟨z2, hz2, ez2⟩ := at_int (ks := ks) (i := 0 + (i : Int) - 1) (by omega) (by omega)
        refine ⟨rfl, _, rfl, _, rfl, t, _, _, _, rfl, rfl, hT4, ez, _, rfl, _, rfl, _, _, rfl, rfl, t, _, _, _, rfl, rfl, hT4, ez2, rfl, _, rfl, iteN (fun _ => ?_) fun _ => ⟨s4, acc, hD, by omega⟩⟩
        refine ⟨_, rfl, acc, hD, small1000 (by omega), fun b o e => ?_, _, upd_same, by rw [List.length_append]; show acc.length + 1 ≤ i + 1; omega⟩
        rw [upd_ne (ne_of_none e nD)]
        exact s4 _ _ e
      · obtain ⟨s4, acc, hD, hac⟩ := hW
        have hT4 : SqT K H4 t (iV ks) := sT s4 hT3
        have hp4 := s4 _ _ hp3
        have two : fs2.length = 2 := by subst hF; rfl
        refine ⟨D, _, rfl, .inl (SqL.of hD), _, rfl, p, CS, dx, _, rfl, hp4, T.sCl, T.s _, by omega, ?_⟩
        generalize hF3 : putF "unlike_pairs" (V.int acc.length) fs2 = fs3
        have l3 := putF_len (f := "unlike_pairs") (v := V.int acc.length) fs2
        rw [hF3] at l3
        have sm5 : ∀ b o, H b = some o → b ≠ p → (upd H4 p (.ins CS dx fs3)) b = some o := fun b o e nb => by
          rw [upd_ne nb]
          exact s4 _ _ (sm3 _ _ e nb)
        have hT5 : SqT K (upd H4 p (.ins CS dx fs3)) t (iV ks) := sT_ins hT4 hp4
        have hp5 : (upd H4 p (.ins CS dx fs3)) p = some (.ins CS dx fs3) := upd_same
        generalize upd H4 p (.ins CS dx fs3) = H5 at sm5 hT5 hp5
        obtain ⟨z, hz, ez⟩ := at_int (ks := ks) (i := 0) (by omega) (by omega)
        obtain ⟨z2, hz2, ez2⟩ := at_int (ks := ks) (i := -1) (by omega) (by omega)
        refine ⟨_, rfl, t, _, _, _, rfl, rfl, hT5, ez, _, rfl, _, rfl, t, _, _, _, rfl, rfl, hT5, ez2, rfl, .inr ⟨_, rfl, _, rfl, p, CS, dx, _, rfl, hp5, T.sCl, T.s _, by omega, ?_⟩⟩
        generalize hF4 : putF "ends_unlike" _ fs3 = fs4
        have l4 := putF_len (f := "ends_unlike") (v := .int (if !decide (V.int z = V.int z2) then 1 else 0)) fs3
        have hT6 : SqT K (upd H5 p (.ins CS dx fs4)) t (iV ks) := sT_ins hT5 hp5
        refine ⟨_, rfl, t, ks, rfl, hT6, by omega, fun c => ⟨_, rfl, p, CS, dx, _, rfl, upd_same, T.sCl, T.s _, ?_, ?_⟩⟩
        · rw [← hF4]
          have := putF_len (f := "ends_unlike") (v := .int (if (!decide (V.int z = V.int z2)) = true then 1 else 0)) fs3
          omega
        · refine k _ ⟨ok, dx, _, t, upd_same, ?_, sT_ins hT6 upd_same, ?_⟩ fun b o e nb => ?_
          · rw [lookup_putF, if_neg (by decide +kernel), ← hF4, lookup_putF, if_neg (by decide +kernel), ← hF3, lookup_putF, if_neg (by decide +kernel), ← hF, lookup_putF, if_neg (by decide +kernel), lookup_putF, if_pos rfl]
          · rw [lookup_putF, if_neg (by decide +kernel), ← hF4, lookup_putF, if_neg (by decide +kernel), ← hF3, lookup_putF, if_neg (by decide +kernel), ← hF, lookup_putF, if_pos rfl]
          · rw [upd_ne nb, upd_ne nb]
            exact sm5 _ _ e nb
theorem mak_st (T : Txt K mg CP CS CR) : Mak P w K mg base 1 "Strand" CS (spStI K CS) [] := by
  obtain ⟨f, fd, M, F, b⟩ := T.sIn
  exact ⟨f, fd, _, [], M, ok_sti T F, T.sMg, b, .nil⟩
end
end Bm

namespace Bm
open PySem L2
section
variable {P : Program} {w : World} {K : PySem.W.Frag} {mg : Str → Option Value} {base : Heap} {CP CS CR : Addr}
/-! ### all_spans -/
abbrev pairT (i j : Nat) : HO := .tup [.int i, .int j]
def SpansAt (H : Hp) (p : Addr) (ts : List Addr) (n : Nat) : Prop :=
  H p = some (.lst (ts.map V.ref)) ∧ ts.length ≤ 600 ∧ (∀ t ∈ ts, ∃ i j : Nat, H t = some (pairT i j)) ∧ ∀ i j : Nat, i < j → j < n → ∃ t ∈ ts, H t = some (pairT i j)
def spSpans : Sp := fun vs H Q _ => ∃ n : Nat, vs = [.int n] ∧ n ≤ 24 ∧ ∀ (H' : Hp) (p : Addr) (ts : List Addr), Same H H' → SpansAt H' p ts n → Q (.ref p) H'
theorem scSpans : FnScope ["size", "i", "j"] ["size"] (defScope sSpans) := ⟨rfl, rfl, rfl, by decide +kernel, rfl, by decide +kernel, by decide +kernel⟩
theorem yesT {σ : L2.St} {H : Hp} {A B : Hp → Prop} (h : A H) : tYes σ H (fun b H => if b = true then A H else B H) := by
  show (if true = true then A H else B H)
  exact iteT h
/-- the list at D so far: all spans that begin below i, and j of those that begin at i -/
def SpI (H0 : Hp) (D : Addr) (n i j : Nat) (H : Hp) : Prop := Same H0 H ∧ ∃ ts : List Addr, H D = some (.lst (ts.map V.ref)) ∧ ts.length ≤ 24 * i + j ∧ (∀ t ∈ ts, ∃ a b : Nat, H t = some (pairT a b)) ∧
  ∀ a b : Nat, a < b → b < n → (a < i ∨ (a = i ∧ b < i + 1 + j)) → ∃ t ∈ ts, H t = some (pairT a b)
theorem c_spans (T : Txt K mg CP CS CR) : Cal P w K mg base 1 "all_spans" spSpans := cal_of T.dSpans fun f fd F => by
  refine F.ok scSpans (fun vs H Q E h => ?_) (fun cdv A outer s H vs Q E hr h => ?_)
  · obtain ⟨n, rfl, _⟩ := h
    rfl
  · obtain ⟨n, rfl, hn, k⟩ := h
    refine ⟨_, pss_one (ps_ret (pe_lc2 (own := [("i", 1), ("j", 2)]) (vs1 := [2]) (g := gName 1) (g1 := gName 2) (by rfl) scSpans.nd (pi_range1 (by rfl) (T.b "range") (pa_cons (pv 0) pa_nil))
      (blkOk_by (own := [("i", 1), ("j", 2)]) (N := ["size", "i", "j"]) (sc := defScope sSpans) (by decide +kernel)) (by decide)
      (fun _ _ _ _ _ => pg_name (i := 1) scSpans.nd rfl (Or.inl rfl)) (fun _ _ _ _ _ => pts_nil)
      (fun _ _ _ _ _ => pi_range2 (by rfl) (T.b "range") (pa_cons (pe_op op_add (pv 1) pe_int) (pa_cons (pv 0) pa_nil)))
      (fun _ _ _ _ _ => pg_name (i := 2) scSpans.nd rfl (Or.inl rfl)) (fun _ _ _ _ _ => pts_nil)
      (fun _ _ _ _ _ => pe_tup (pa_cons (pv 1) (pa_cons (pv 2) pa_nil))))), ?_⟩
    refine ⟨_, rfl, n, rfl, by omega, by omega, fun D nD => ?_⟩
    refine ⟨fun i m H1 => i + m = n ∧ SpI H D n i 0 H1, ⟨n, by omega, same_upd nD, [], upd_same, Nat.zero_le _, fun t ht => (by cases ht), fun a b h1 h2 h3 => by omega⟩, fun i m H1 hW => ?_⟩
    obtain ⟨em, hI⟩ := hW
    by_cases hi : i < n
    · refine .inr ⟨(by show i < (n : Int).toNat; omega), fun H2 => SpI H D n (i + 1) 0 H2, fun H2 h2 => ⟨m - 1, by omega, by omega, h2⟩, fun x H2 hy => ?_⟩
      obtain ⟨rfl, rfl⟩ := hy
      refine ⟨rfl, ?_⟩
      refine yesT ?_
      refine ⟨_, rfl, _, _, rfl, rfl, _, rfl, _, _, rfl, ⟨by omega, by omega, by omega, by omega⟩, ?_⟩
      refine ⟨fun j m H3 => i + 1 + j + m = n ∧ SpI H D n i j H3, ⟨n - i - 1, by omega, hI⟩, fun j m H3 hW => ?_⟩
      obtain ⟨em2, hI2⟩ := hW
      by_cases hj : i + 1 + j < n
      · refine .inr ⟨(by show j < ((n : Int) - (0 + (i : Int) + 1)).toNat; omega), fun H4 => SpI H D n i (j + 1) H4, fun H4 h4 => ⟨m - 1, by omega, by omega, h4⟩, fun x H4 hy => ?_⟩
        obtain ⟨rfl, rfl⟩ := hy
        refine ⟨rfl, ?_⟩
        refine yesT ?_
        refine ⟨_, rfl, _, rfl, by show 2 ≤ sizeLine; decide, fun t nt => ?_⟩
        obtain ⟨s2, ts, hD, hl, hg, hc⟩ := hI2
        have nDt : D ≠ t := ne_of_none hD nt
        refine ⟨_, by rw [upd_ne nDt]; exact hD, ?_, ?_⟩
        · rw [List.length_map]
          exact small1000 (by omega)
        · have keep : ∀ (q : Addr) (a b : Nat), H4 q = some (pairT a b) → (upd (upd H4 t (.tup [.int (0 + (i : Int)), .int (0 + (i : Int) + 1 + (j : Int))])) D (.lst (ts.map V.ref ++ [.ref t]))) q = some (pairT a b) := fun q a b e => by
            rw [upd_ne (ne_of e hD (fun z => by cases z)), upd_ne (ne_of_none e nt)]
            exact e
          have new : (upd (upd H4 t (.tup [.int (0 + (i : Int)), .int (0 + (i : Int) + 1 + (j : Int))])) D (.lst (ts.map V.ref ++ [.ref t]))) t = some (pairT i (i + 1 + j)) := by
            rw [upd_ne nDt.symm, upd_same]
            congr 3
            · congr 1; omega
            · congr 2; omega
          refine ⟨fun b o e => ?_, ts ++ [t], ?_, ?_, fun q hq => ?_, fun a b h1 h2 h3 => ?_⟩
          · rw [upd_ne (ne_of_none e nD), upd_ne (ne_of_none (s2 _ _ e) nt)]
            exact s2 _ _ e
          · rw [upd_same, List.map_append]
            rfl
          · rw [List.length_append]
            show ts.length + 1 ≤ _
            omega
          · rcases List.mem_append.mp hq with m | m
            · obtain ⟨a, b, e⟩ := hg q m
              exact ⟨a, b, keep q a b e⟩
            · have : q = t := by simpa using m
              subst this
              exact ⟨_, _, new⟩
          · by_cases z : a = i ∧ b = i + 1 + j
            · obtain ⟨rfl, rfl⟩ := z
              exact ⟨t, by simp, new⟩
            · obtain ⟨q, hq, e⟩ := hc a b h1 h2 (by omega)
              exact ⟨q, List.mem_append_left _ hq, keep q a b e⟩
      · refine .inl ⟨(by show ((n : Int) - (0 + (i : Int) + 1)).toNat ≤ j; omega), ?_⟩
        obtain ⟨s2, ts, hD, hl, hg, hc⟩ := hI2
        exact ⟨s2, ts, hD, by omega, hg, fun a b h1 h2 h3 => hc a b h1 h2 (by omega)⟩
    · refine .inl ⟨(by show (n : Int).toNat ≤ i; omega), ?_⟩
      obtain ⟨s2, ts, hD, hl, hg, hc⟩ := hI
      exact k H1 D ts s2 ⟨hD, by omega, hg, fun a b h1 h2 => hc a b h1 h2 (by omega)⟩
end
end Bm

namespace Bm
open PySem L2
/-! ### prices(mark) of default prices -/
def tPr (CP : Addr) (tf : TE) (t : TA) : TE := fun σ H Q => tf σ H fun y H1 => ∃ p, y = V.ref p ∧ t σ H1 fun vs H2 => PrAt CP H2 p ∧ ∃ l b r : Int, vs = [.str (markS l b r)] ∧ Q (.int (u l r)) H2
theorem pe_pr {X : Cx} {CP CS CR : Addr} {fe e : Expr} {es : List Expr} {pos : Pos} {tf : TE} {t : TA} (T : Txt X.K X.mg CP CS CR) (hr : Room 1 X.A) (hf : PE X fe tf) (ha : PA X (e :: es) t)
    (ht : eval (.Call fe (e :: es) [] pos) X.env = (do callWith pos (← eval fe X.env) [] (backTo pos (starEach (e :: es) X.env)) (backToKw pos (keywordEach [] X.env))) := by rfl)
    (he : starEach (e :: es) X.env = (false, eval e X.env) :: starEach es X.env := by rfl) (hpl : (backTo pos (starEach es X.env)).any (·.1) = false := by rfl) : PE X (.Call fe (e :: es) [] pos) (tPr CP tf t) := by
  constructor
  intro pins s σ H Q I h
  obtain ⟨g, fd, c, F, b⟩ := T.pCa
  have FR := (ok_prc (P := X.prog) (w := X.w) (base := X.base) T F).raw b .nil
  refine PyProof.Rows.Call_ (thn (hf.run pins s σ H _ I h) fun v s1 hv => ?_) ht
  obtain ⟨y, H1, I1, ry, p, ey, q⟩ := hv
  subst ey
  obtain rfl : v = Value.ref p := ry
  refine StX.callO_with (thn (ha.run pos pins s1 σ H1 _ I1 q) fun us s2 hz => ?_) he hpl
  obtain ⟨vs, H2, I2, r, hp, l, m, rr, ev, q2⟩ := hz
  subst ev
  have hin : StX.InsC X H2 p CP := by
    obtain ⟨dx, fs, e0, _⟩ := hp
    exact .inr ⟨dx, fs, e0⟩
  obtain ⟨ox, od, J, hd⟩ := StX.insC_at I2 hin
  exact ⟨⟨CP, ox, od, J, hd⟩, StX.run_callO c FR hr pass0 I2 hin r ⟨p, l, m, rr, rfl, hp, q2⟩⟩
/-! ### the table -/
/-- a dict stands at d: its value of the span (i, j) is g i j -/
def TabAt (H : Hp) (d : Addr) (n : Nat) (g : Nat → Nat → Int) : Prop := ∃ kvs : List (List Key × V), H d = some (.dT kvs) ∧ kvs.length ≤ 1000 ∧ ∀ i j : Nat, i < j → j < n → valV kvs [Sum.inl (i : Int), Sum.inl (j : Int)] = some (.int (g i j))
theorem at_ks {ks : List Int} {i : Nat} (h : i < ks.length) : (iV ks)[i]? = some (.int (at0 ks i)) := by
  unfold at0
  rw [List.getElem?_map, List.getElem?_eq_getElem h, List.getD_eq_getElem?_getD, List.getElem?_eq_getElem h]
  rfl
section
variable {P : Program} {w : World} {K : PySem.W.Frag} {mg : Str → Option Value} {base : Heap} {CP CS CR : Addr}
/-! ### prices_by_last -/
def lasts (g : Nat → Nat → Int) (c : Int) (i n : Nat) (j : Nat) : List Int := (List.range n).map fun t => g i (i + 1 + t) + g (i + 1 + t) j + c
def spPbl (K : PySem.W.Frag) (CP : Addr) : Sp := fun vs H Q _ => ∃ (t p d s : Addr) (ks : List Int) (g : Nat → Nat → Int) (i j : Nat), vs = [.ref t, .ref p, .ref d, .ref s] ∧ SqT K H t (iV ks) ∧ PrAt CP H p ∧ TabAt H d ks.length g ∧ H s = some (pairT i j) ∧
  i + 2 ≤ j ∧ j < ks.length ∧ ks.length ≤ 24 ∧ ∀ (H' : Hp) (q : Addr), Same H H' → H' q = some (.lst (iV (lasts g (u (at0 ks i) (at0 ks j)) i (j - i - 1) j))) → Q (.ref q) H'
theorem scPbl : FnScope ["kinds", "prices", "table", "span", "i", "j", "k"] ["kinds", "prices", "table", "span"] (defScope sPbl) := ⟨rfl, rfl, rfl, by decide +kernel, rfl, by decide +kernel, by decide +kernel⟩
theorem c_pbl (T : Txt K mg CP CS CR) : Cal P w K mg base 2 "prices_by_last" (spPbl K CP) := cal_of T.dPbl fun f fd F => by
  refine F.ok scPbl (fun vs H Q E h => ?_) (fun cdv A outer s H vs Q E hr h => ?_)
  · obtain ⟨t, p, d, s, ks, g, i, j, rfl, _⟩ := h
    rfl
  · obtain ⟨t, p, d, s0, ks, g, i, j, rfl, hT, hP, hD, hs, h1, h2, h3, k⟩ := h
    have hu := hu_of hr
    refine ⟨_, pss_cons (ps_asg (pv 3) (pg_tup rfl (pgs_cons (pg_name (i := 4) scPbl.nd rfl (.inr rfl)) (pgs_cons (pg_name (i := 5) scPbl.nd rfl (.inr rfl)) pgs_nil))))
      (pss_one (ps_ret (pe_lc (own := [("k", 6)]) (g := gName 6) (by rfl) scPbl.nd (pi_range2 (by rfl) (T.b "range") (pa_cons (pe_op op_add (pv 4) pe_int) (pa_cons (pv 5) pa_nil)))
        (blkOk_by (own := [("k", 6)]) (N := ["kinds", "prices", "table", "span", "i", "j", "k"]) (sc := defScope sPbl) (by decide +kernel)) (fun _ _ _ _ _ => pg_name (i := 6) scPbl.nd rfl (Or.inl rfl)) (fun _ _ _ _ _ => pts_nil)
        (fun _ _ _ _ _ => pe_op op_add (pe_op op_add (pe_dget hu (pv 2) (pe_tup (pa_cons (pv 4) (pa_cons (pv 6) pa_nil))) (fun _ _ => rfl)) (pe_dget hu (pv 2) (pe_tup (pa_cons (pv 6) (pa_cons (pv 5) pa_nil))) (fun _ _ => rfl)))
          (pe_pr T hr (pv 1) (pa_cons (pc (c_mark T) hr (by decide) (by rfl) (pa_cons (pe_ix (r := rIxT K) ix_tup (pv 0) (pv 4) (fun _ _ => rfl)) (pa_cons (pe_ix (r := rIxT K) ix_tup (pv 0) (pv 6) (fun _ _ => rfl)) (pa_cons (pe_ix (r := rIxT K) ix_tup (pv 0) (pv 5) (fun _ _ => rfl)) pa_nil)))) pa_nil)))))), ?_⟩
    refine ⟨_, rfl, s0, _, rfl, SqT.of hs, rfl, _, _, rfl, _, _, rfl, rfl, ?_⟩
    refine ⟨_, rfl, _, _, rfl, rfl, _, rfl, _, _, rfl, ⟨by omega, by omega, by omega, by omega⟩, fun D nD => ?_⟩
    have en : ((j : Int) - ((i : Int) + 1)).toNat = j - i - 1 := by omega
    rw [en]
    refine lc_range (lo := (i : Int) + 1) (n := j - i - 1) (fun m H4 => Same H H4 ∧ H4 D = some (.lst (iV (lasts g (u (at0 ks i) (at0 ks j)) i m j)))) ⟨same_upd nD, upd_same⟩ (fun m H4 hm hW => ?_) (fun H4 hW => k H4 D hW.1 hW.2)
    obtain ⟨s4, hL⟩ := hW
    have ez : (i : Int) + 1 + (m : Int) = ((i + 1 + m : Nat) : Int) := by omega
    rw [ez]
    have hT4 := sT s4 hT
    have hP4 := hP.same s4
    obtain ⟨kvs, hd, hl, hg⟩ := hD
    have hd4 := s4 _ _ hd
    refine ⟨rfl, yesT ?_⟩
    -- table[i, k]
    refine ⟨_, rfl, _, rfl, _, rfl, by show 2 ≤ sizeLine; decide, fun a na => ?_⟩
    have sa := same_upd (o := .tup [.int i, .int (i + 1 + m : Nat)]) na
    have g1 := DGet.t (k := [Sum.inl (i : Int), Sum.inl ((i + 1 + m : Nat) : Int)]) (sa _ _ hd4) (upd_same (H := H4) (a := a))
    rw [hg i (i + 1 + m) (by omega) (by omega)] at g1
    refine ⟨d, _, rfl, g1, _, rfl, _, rfl, _, rfl, by show 2 ≤ sizeLine; decide, fun b nb => ?_⟩
    -- table[k, j]
    have sb := sa.trans (same_upd (o := .tup [.int (i + 1 + m : Nat), .int j]) nb)
    have g2 := DGet.t (k := [Sum.inl ((i + 1 + m : Nat) : Int), Sum.inl (j : Int)]) (sb _ _ hd4) (upd_same (H := (upd H4 a (.tup [.int i, .int (i + 1 + m : Nat)]))) (a := b))
    rw [hg (i + 1 + m) j (by omega) (by omega)] at g2
    refine ⟨d, _, rfl, g2, _, _, rfl, rfl, ?_⟩
    have hT5 := sT sb hT4
    refine ⟨_, rfl, p, rfl, _, rfl, _, rfl, t, _, _, _, rfl, rfl, hT5, atI_nat (at_ks (i := i) (by omega)), _, rfl, _, rfl, t, _, _, _, rfl, rfl, hT5, atI_nat (at_ks (i := i + 1 + m) (by omega)), _, rfl, _, rfl, t, _, _, _, rfl, rfl, hT5, atI_nat (at_ks (i := j) (by omega)), ?_⟩
    refine ⟨_, _, _, rfl, hP4.same sb, _, _, _, rfl, _, _, rfl, rfl, ?_⟩
    have hD5 := sb _ _ hL
    refine ⟨_, hD5, by simp only [List.length_map, lasts, List.length_range]; exact small1000 (by omega), fun q o e => ?_, ?_⟩
    · rw [upd_ne (ne_of_none e nD)]
      exact sb _ _ (s4 _ _ e)
    · rw [upd_same]
      unfold lasts
      rw [List.range_succ, List.map_append]
      simp only [iV, List.map_append, List.map_cons, List.map_nil]
end
end Bm

/-! A rule of our own: name = {k: v for target in iter ..} whose keys are tuples of ints. -/
namespace Bm
open PySem PySem.Spec PyProof.Rows L2
section
variable {X : Cx}
/-- storing under a tuple's key, within a comprehension -/
theorem put_tuple {pins : List (Addr × Obj)} {σ : L2.St} {H : Hp} {s : Shared} {E : Value → Shared → Prop} {D b : Addr} {kvs : List (List L2.Key × V)} {k : List L2.Key} {v : V} {r : Value} {Q : Unit → Shared → Prop}
    (hu : X.A.units + 1 < cLine) (I : Inv X pins σ H s) (hD : H D = some (.dT kvs)) (hb : H b = some (.tup (k.map kV))) (hz : kvs.length < sizeLine) (rv : RelV v r)
    (h : ∀ s', Inv X pins σ (upd H D (.dT (putK kvs k v))) s' → Q () s') : wpAny (model X.prog X.w) X.A (dictSet D (.ref b) r) Q E s := by
  obtain ⟨zz, hd, xs, rel, dd⟩ := dt_of I.hok hD
  have len : xs.length ≤ sizeLine := Paired.length rel ▸ zz
  have room : (putK kvs k v).length ≤ sizeLine := Nat.le_trans (length_putK kvs k v) hz
  refine wpAny_dictSet_heap (knd := tupleKind (mixKind X.prog X.w)) (hsz := len) (Nat.lt_of_succ_lt hu) (key_of I.hok hb) dd ?_
  intro h2 dd2 but
  apply h
  obtain ⟨q, es, ep, hq, p2, p3, p4, _, p5⟩ := dd2
  have still : ∀ c ys, H c = some (.tup ys) → upd H D (.dT (putK kvs k v)) c = some (.tup ys) := fun c ys ec => by
    rw [upd_ne (ne_of ec hD (fun z => nomatch z))]
    exact ec
  exact d_write I (by rw [hD]; exact True.intro) but ⟨q, hq⟩ ⟨room, hd, _, (rel.put k hb rv).keeps fun c ys ec => still c ys ec, q, es, ep, hq, p2, p3, p4, p5⟩
/-- the reading: D is the new dict -/
def tDcT (wi : TI) (g : TG) (tk tv : TE) (vs : List Nat) : TE := fun σ H Q => wi σ H fun J H1 => ∀ D, H1 D = none → ∃ W : Nat → Nat → Hp → Prop, (∃ m, W 0 m (upd H1 D (.dT []))) ∧ ∀ i m H, W i m H →
  (J.stop i H ∧ Q (.ref D) H) ∨ (J.go i H ∧ ∃ Nx : Hp → Prop, (∀ H', Nx H' → ∃ m', m' < m ∧ W (i + 1) m' H') ∧ ∀ x H', J.yld i H x H' → g x (wipe σ vs) H' fun σ2 H2 => wipe σ2 vs = wipe σ vs ∧
    tk σ2 H2 fun y H4 => tv σ2 H4 fun z H5 => ∃ kvs k b, y = .ref b ∧ H5 D = some (.dT kvs) ∧ H5 b = some (.tup (List.map kV k)) ∧ kvs.length < sizeLine ∧ Nx (upd H5 D (.dT (putK kvs k z))))
theorem dcT_run {pins : List (Addr × Obj)} {s : Shared} {σ : L2.St} {H : Hp} {Q : VK} {kx vx tg iter : Expr} {scope : Scope} {own : List (Str × Nat)} {pos pos' : Pos} {wi : TI} {g : TG} {tk tv : TE} {use : Option (Value → Sem Unit)} {Qf : Value → Shared → Prop}
    (hu : X.A.units + 1 < cLine) (hc : X.calm = true) (hN : X.N.Nodup) (I : Inv X pins σ H s) (hi : PI X tg iter wi) (ok : BlkOk X.N X.env.scope scope own)
    (hg : ∀ s H C cl fp, PG (X.blk s H scope (compEnvC scope cl C X.env) fp) tg g)
    (hk : ∀ s H C cl fp, PE (X.blk s H scope (compEnvC scope cl C X.env) fp) kx tk)
    (hv : ∀ s H C cl fp, PE (X.blk s H scope (compEnvC scope cl C X.env) fp) vx tv)
    (hs : ∀ x, foldedSetIterable iter X.env x = pure x) (h : tDcT wi g tk tv (own.map (·.2)) σ H Q)
    (done : ∀ D C s' m H', Inv X pins σ H' s' → Q (.ref D) H' → s'.heap.Ns C m → FpOk X pins H' C → compPost (model X.prog X.w) X.A X.xe use Qf (.ref D) C (.ok .next) s') :
    wpAny (model X.prog X.w) X.A (comprehension (.DictComp kx vx [⟨tg, iter, [], 0⟩] scope pos) scope X.env pos' newDict false (eval iter X.env) use) Qf X.xe s := by
  have cellsOk : ∀ y ∈ scope.names, y.2 = .free → ∃ c, X.env.cells.lookup y.1 = some c := fun y hy e => by
    rcases ok.free y hy e with q | q
    · exact I.ok.has _ (.inl q)
    · exact I.ok.has _ (.inr q)
  refine wpAny_comprehension_free (use := use) rfl hs (closure_ok cellsOk) ok.kind (fun y hy e => by rw [ok.uniq y hy, e]) (thn (hi.run pins s σ H _ I h) fun xv s1 hx => thn hx fun itv s2 hit => ?_)
  obtain ⟨it, fp, tn, J, H2, eit, I2, Tn, st2, f2, q⟩ := hit
  subst eit
  refine wpAny_newObj_type (newEnv_comp ?_)
  generalize hD : s2.heap.objs.size = D
  have free : H2 D = none := I2.hok.fresh (Nat.le_of_eq hD)
  obtain ⟨W, ⟨m0, w0⟩, turn⟩ := q D free
  generalize es3 : ({ s2 with heap := s2.heap.push { cls := .type "dict", data := .dict #[] } } : Shared) = s3
  have hp3 : s3.heap = s2.heap.push { cls := .type "dict", data := .dict #[] } := by rw [← es3]
  have I3 : Inv X pins σ (upd H2 D (.dT [])) s3 := by
    rw [← es3]
    refine I2.laid (t' := s2.toks) (fun b o e => Heap.get?_push_of_some _ e) (Nat.le_of_eq hD) ?_
    rw [← hD]
    exact dt_empty s2.heap I2.big
  have small : ∀ b ∈ fp, b < s2.heap.objs.size := fun b hb => (Tn.obj _ _ st2 b hb).elim fun o e => Heap.lt_size e.1
  have f3 : ∀ b ∈ fp, FpOk X pins (upd H2 D (.dT [])) b ∧ b < s3.heap.objs.size := fun b hb => by
    have lt := small b hb
    refine ⟨⟨?_, (f2 b hb).2⟩, by rw [hp3, Heap.size_push]; exact Nat.lt_succ_of_lt lt⟩
    have ne : b ≠ D := by rw [← hD]; exact Nat.ne_of_lt lt
    rw [upd_ne ne]
    exact (f2 b hb).1
  have st3 : tn 0 s3.heap := Tn.keep _ _ _ st2 fun b _ o e => by rw [hp3]; exact Heap.get?_push_of_some _ e
  have I4 := block_start I3 ok hN f3
  have pg := hg s3 (upd H2 D (.dT [])) s3.heap.objs.size (cellsFrom (s3.heap.objs.size + 1) scope.names (cloFrom X.env.cells scope.names [])) fp
  have pk := hk s3 (upd H2 D (.dT [])) s3.heap.objs.size (cellsFrom (s3.heap.objs.size + 1) scope.names (cloFrom X.env.cells scope.names [])) fp
  have pv' := hv s3 (upd H2 D (.dT [])) s3.heap.objs.size (cellsFrom (s3.heap.objs.size + 1) scope.names (cloFrom X.env.cells scope.names [])) fp
  show codeAny _ _ (.compStart (.DictComp kx vx [⟨tg, iter, [], 0⟩] scope pos) 0 (.ref it) (.ref D) (compEnvC scope (cellsFrom (s3.heap.objs.size + 1) scope.names (cloFrom X.env.cells scope.names [])) s3.heap.objs.size X.env)) (compPost (model X.prog X.w) X.A X.xe use Qf (.ref D) s3.heap.objs.size) { s3 with heap := pushCells (s3.heap.push { cls := .type "dict", data := .dict #[] }) scope.names }
  have nfp : ∀ b ∈ fp, (upd H2 D (.dT [])) b = none := fun b hb => (f3 b hb).1.1
  generalize ece : compEnvC scope (cellsFrom (s3.heap.objs.size + 1) scope.names (cloFrom X.env.cells scope.names [])) s3.heap.objs.size X.env = ce at I4 pg pk pv' ⊢
  have loc : ce.locals = s3.heap.objs.size := by subst ece; rfl
  generalize eH3 : upd H2 D (.dT []) = H3 at I3 I4 pg pk pv' w0 nfp f3
  generalize es4 : ({ s3 with heap := pushCells (s3.heap.push { cls := .type "dict", data := .dict #[] }) scope.names } : Shared) = s4 at I4 ⊢
  have st4 : tn 0 s4.heap := Tn.keep _ _ _ st3 fun b _ o e => by rw [← es4]; exact pushCells_keeps _ _ _ _ (Heap.get?_push_of_some _ e)
  have stat : ∀ {σ' : L2.St} {H' : Hp} {s' : Shared}, Inv (X.blk s3 H3 scope ce fp) [] σ' H' s' → (∀ b ∈ fp, H' b = none) → ∀ b ∈ fp, FpOk (X.blk s3 H3 scope ce fp) [] H' b := fun {σ' H' s'} I' hn b hb =>
    ⟨hn b hb, (I'.ok.exf b hb).1, I'.ok.exfs b hb, .inl hb, fun x c e => (I'.ok.exf b hb).2 x c e, fun p hp => absurd (show p ∈ ([] : List (Addr × Obj)) ++ [] from hp) (by simp)⟩
  have loop : codeAny (model X.prog X.w) X.A (.compLoop (.DictComp kx vx [⟨tg, iter, [], 0⟩] scope pos) 0 (.ref it) (.ref D) ce) (compPost (model X.prog X.w) X.A X.xe use Qf (.ref D) s3.heap.objs.size) s4 := by
    refine compLoop_anyD (fun n s' => ∃ i H', Inv (X.blk s3 H3 scope ce fp) [] (wipe σ (own.map (·.2))) H' s' ∧ tn i s'.heap ∧ (∀ b ∈ fp, H' b = none) ∧ W i n H') ?_ m0 ⟨0, H3, I4, st4, nfp, w0⟩
    rintro n s5 ⟨i, H5, I5, st5, n5, w5⟩
    rcases turn i n H5 w5 with ⟨stop, fin⟩ | ⟨go, Nx, hNx, step⟩
    · refine thnF (Tn.done (X.blk s3 H3 scope ce fp) rfl rfl rfl hc i [] s5 _ H5 (fun _ _ => False) I5 (stat I5 n5) st5 stop) fun r s6 ⟨er, I6⟩ => ?_
      subst er
      have I7 : Inv X pins σ H5 s6 := I3.call' (ch := fp) I6.os I6.base I6.hok I6.bare fun b hb => ⟨(f3 b hb).1.2.2.2.1, (f3 b hb).1.2.1, (f3 b hb).1.2.2.2.2.1, (f3 b hb).1.2.2.2.2.2⟩
      have noC : H5 s3.heap.objs.size = none := loc ▸ (show H5 ce.locals = none from I6.free)
      obtain ⟨m, hn, _⟩ := I6.loc
      exact done D s3.heap.objs.size s6 m H5 I7 fin (loc ▸ (show s6.heap.Ns ce.locals m from hn)) (I3.fpOk (Nat.le_refl _) noC)
    · refine thnF (Tn.item (X.blk s3 H3 scope ce fp) rfl rfl rfl hc i [] s5 _ H5 (fun _ _ => False) I5 (stat I5 n5) st5 go) fun r s6 ⟨v, er, h6⟩ => ?_
      subst er
      refine thnF h6 fun _ s7 ⟨x, H7, I7, r7, y7, st7, n7⟩ => ?_
      have I8 := I7.pinned (stat I7 n7) (Tn.obj _ _ st7)
      refine thnF (pg.run _ s7 _ H7 x v _ I8 r7 (step x H7 y7)) fun _ s8 ⟨σ8, H8, I9, wipes, q8⟩ => ?_
      refine thnF ((pts_nil (X := X.blk s3 H3 scope ce fp)).run _ s8 σ8 H8 (fun b H' => b = true ∧ H' = H8) I9 (⟨rfl, rfl⟩ : true = true ∧ H8 = H8)) fun b s9 ⟨H9, I10, eb, eH⟩ => ?_
      subst eb eH
      simp only [if_true]
      refine thnF (pk.run _ s9 σ8 _ _ I10 q8) fun zk s10 ⟨yk, H10, I11, r10, q10⟩ => ?_
      refine thnF (pv'.run _ s10 σ8 H10 _ I11 q10) fun zv s11 ⟨yv, H11, I12, r11, kvs, k, b, ek, eD, ebb, room, nx⟩ => ?_
      subst ek
      obtain rfl : zk = Value.ref b := r10
      refine put_tuple (X := X.blk s3 H3 scope ce fp) hu I12 eD ebb room r11 fun s12 I13 => ?_
      obtain ⟨m', lt, w'⟩ := hNx _ nx
      have pin : ∀ b ∈ fp, ∀ o, s7.heap.get? b = some o → s12.heap.get? b = some o ∧ _ = none := fun b hb o e =>
        have z := I13.pin (b, o) (List.mem_append_right _ (List.mem_append_right _ (mem_pinsAt hb e)))
        ⟨z.1, z.2.1⟩
      have ln : (wipe σ (own.map (·.2))).length = σ8.length := by rw [← wipes, wipe_length]
      refine ⟨m', lt, i + 1, _, (I13.unpinned (pins := [])).weak ln (fun j v e => ?_), Tn.keep _ _ _ st7 fun b hb o e => (pin b hb o e).1, fun b hb => ?_, w'⟩
      · rw [← wipes] at e
        exact (wipe_some e).1
      · obtain ⟨o, e, _⟩ := Tn.obj _ _ st7 b hb
        exact (pin b hb o e).2
  exact codeAny_compStart_dict loop (Tn.self X.A 0 _ _ _ st4 loop)
/-- name = {k: v for ..} on one line, the name a local -/
theorem ps_setDcT {i : Nat} {y : Str} {py : Pos} {kx vx tg iter : Expr} {scope : Scope} {own : List (Str × Nat)} {pos spos : Pos} {wi : TI} {g : TG} {tk tv : TE} (hu : X.A.units + 1 < cLine) (hc : X.calm = true) (hN : X.N.Nodup) (hy : X.N[i]? = some y)
    (hyl : X.env.scope.names.lookup y = some .local) (hsw : swapsWith (.DictComp kx vx [⟨tg, iter, [], 0⟩] scope pos) (some (.Name y py)) spos.line X.env = pure true) (hi : PI X tg iter wi) (ok : BlkOk X.N X.env.scope scope own)
    (hg : ∀ s H C cl fp, PG (X.blk s H scope (compEnvC scope cl C X.env) fp) tg g)
    (hk : ∀ s H C cl fp, PE (X.blk s H scope (compEnvC scope cl C X.env) fp) kx tk)
    (hv : ∀ s H C cl fp, PE (X.blk s H scope (compEnvC scope cl C X.env) fp) vx tv)
    (hs : ∀ x, foldedSetIterable iter X.env x = pure x := by intro _; rfl) :
    PS X (.Assign [.Name y py] (.DictComp kx vx [⟨tg, iter, [], 0⟩] scope pos) spos) (tAsg (tDcT wi g tk tv (own.map (·.2))) (gName i)) := by
  constructor
  intro pins s σ H D I h
  rw [exec_Assign_Name_used _ _ _ _ hsw]
  refine wpAny_bind (wpAny_standAt (wpAny_bind ?_))
  show wpAny _ X.A (do let _ ← comprehension (.DictComp kx vx [⟨tg, iter, [], 0⟩] scope pos) scope X.env (firstIterPos [⟨tg, iter, [], 0⟩] pos) newDict false (eval iter X.env) (some (assign (.Name y py) X.env))) _ _ s
  refine wpAny_bind (thn (dcT_run (Qf := fun _ s' => SP X pins D .next s') (Q := fun x H1 => gName i x σ H1 D.nx) hu hc hN I hi ok hg hk hv hs h ?_) fun _ s' hq => wpAny_pure (wpAny_pure hq))
  intro L C s' m H' I' q hn f
  show wpAny _ _ (assign (.Name y py) X.env (.ref L)) _ _ _
  obtain ⟨f0, f1, f2, f3, f4, f5⟩ := f
  refine wpAny_assign_Name (store_ok2 (v := V.ref L) I' hN hy (.inl hyl) rfl (fun s2 I2 hb => ?_) (.inr hyl))
  obtain ⟨a, but, ha⟩ := hb
  have ne : C ≠ a := by
    rcases ha with e | e
    · rw [e]; exact f1
    · exact fun z => f4 y a e z.symm
  refine ⟨m, hn.sameBut but ne, fun h3 but3 => ⟨_, H', I2.turned (t' := s2.toks) (fun b o nb e => (but3.2 b nb).trans e) f0 f1 f3 f4 f5, q⟩⟩
theorem sw_dict {kx vx : Expr} {gs : List Comprehension} {scope : Scope} {pos py : Pos} {y : Str} {l : Nat} {env : Env} (hk : env.scope.kind = .function) (hy : env.scope.names.lookup y = some .local) (hl : (py.line == pos.line) = true)
    (ha : (scope.names.any fun (n, k) => n == y && (k == .local || k == .cell)) = false) : swapsWith (.DictComp kx vx gs scope pos) (some (.Name y py)) l env = pure true := by
  have e1 : env.kindOf y = some .local := hy
  have e2 : env.blockKind = .function := by unfold Env.blockKind; rw [hk]; rfl
  unfold swapsWith
  simp only [e1, e2, ha, Expr.pos, hl]
  rfl
/-- over a list that stays -/
theorem dcT_list {K : PySem.W.Frag} {a : Addr} {xs : List V} {g : TG} {tk tv : TE} {vs : List Nat} {σ : L2.St} {H1 : Hp} {D : Addr} {Qd : Hp → Prop} (Pv : Nat → Hp → Prop) (h0 : Pv 0 (upd H1 D (.dT []))) (hl : ∀ i H, i ≤ xs.length → Pv i H → SqL K H a xs)
    (hs : ∀ i x H, xs[i]? = some x → Pv i H → g x (wipe σ vs) H fun σ2 H2 => wipe σ2 vs = wipe σ vs ∧
      tk σ2 H2 fun y H4 => tv σ2 H4 fun z H5 => ∃ kvs k b, y = .ref b ∧ H5 D = some (.dT kvs) ∧ H5 b = some (.tup (List.map kV k)) ∧ kvs.length < sizeLine ∧ Pv (i + 1) (upd H5 D (.dT (putK kvs k z)))) (hd : ∀ H, Pv xs.length H → Qd H) :
    ∃ W : Nat → Nat → Hp → Prop, (∃ m, W 0 m (upd H1 D (.dT []))) ∧ ∀ i m H, W i m H →
      ((Itl K a).stop i H ∧ Qd H) ∨ ((Itl K a).go i H ∧ ∃ Nx : Hp → Prop, (∀ H', Nx H' → ∃ m', m' < m ∧ W (i + 1) m' H') ∧ ∀ x H', (Itl K a).yld i H x H' → g x (wipe σ vs) H' fun σ2 H2 => wipe σ2 vs = wipe σ vs ∧
        tk σ2 H2 fun y H4 => tv σ2 H4 fun z H5 => ∃ kvs k b, y = .ref b ∧ H5 D = some (.dT kvs) ∧ H5 b = some (.tup (List.map kV k)) ∧ kvs.length < sizeLine ∧ Nx (upd H5 D (.dT (putK kvs k z)))) := by
  refine ⟨fun i m H => i + m = xs.length ∧ Pv i H, ⟨xs.length, Nat.zero_add _, h0⟩, fun i m H hW => ?_⟩
  obtain ⟨em, p⟩ := hW
  have q := hl i H (by omega) p
  by_cases c : i < xs.length
  · refine .inr ⟨⟨xs, xs[i], q, List.getElem?_eq_getElem c⟩, Pv (i + 1), fun H' p' => ⟨m - 1, by omega, by omega, p'⟩, fun x H' y => ?_⟩
    obtain ⟨rfl, y⟩ := y
    exact hs i x _ (y xs q) p
  · have e : i = xs.length := by omega
    subst e
    exact .inl ⟨⟨xs, q, Nat.le_refl _⟩, hd H p⟩
end
end Bm

namespace Bm
open PySem L2
theorem putK_len {κ : Type} [DecidableEq κ] {kvs : List (κ × V)} {k : κ} {v w : V} (h : valV kvs k = some v) : (putK kvs k w).length = kvs.length := by
  have e := valV_any k kvs
  rw [h] at e
  unfold putK
  rw [if_pos (by simpa using e), List.length_map]
theorem TabAt.congr {H : Hp} {d : Addr} {n : Nat} {g g' : Nat → Nat → Int} (h : TabAt H d n g) (e : ∀ i j, i < j → j < n → g i j = g' i j) : TabAt H d n g' := by
  obtain ⟨kvs, a, b, c⟩ := h
  exact ⟨kvs, a, b, fun i j h1 h2 => by rw [c i j h1 h2, e i j h1 h2]⟩
theorem TabAt.same {H H' : Hp} {d : Addr} {n : Nat} {g : Nat → Nat → Int} (h : TabAt H d n g) (s : Same H H') : TabAt H' d n g := by
  obtain ⟨kvs, a, b, c⟩ := h
  exact ⟨kvs, s _ _ a, b, c⟩
theorem key2 {i j a b : Nat} : ([Sum.inl (i : Int), Sum.inl (j : Int)] : List L2.Key) = [Sum.inl (a : Int), Sum.inl (b : Int)] ↔ i = a ∧ j = b := by
  constructor
  · intro h
    injection h with h1 h2
    injection h2 with h3 _
    injection h1 with h1
    injection h3 with h3
    omega
  · rintro ⟨rfl, rfl⟩
    rfl
theorem TabAt.put {H : Hp} {d : Addr} {n i j : Nat} {g : Nat → Nat → Int} {kvs : List (List L2.Key × V)} (hd : H d = some (.dT kvs)) (hl : kvs.length ≤ 1000) (hg : ∀ i j : Nat, i < j → j < n → valV kvs [Sum.inl (i : Int), Sum.inl (j : Int)] = some (.int (g i j)))
    (h1 : i < j) (h2 : j < n) (v : Int) : TabAt (upd H d (.dT (putK kvs [Sum.inl (i : Int), Sum.inl (j : Int)] (.int v)))) d n (fun a b => if a = i ∧ b = j then v else g a b) := by
  refine ⟨_, upd_same, by rw [putK_len (hg i j h1 h2)]; exact hl, fun a b q1 q2 => ?_⟩
  rw [valV_put]
  show _ = some (V.int (if a = i ∧ b = j then v else g a b))
  by_cases c : a = i ∧ b = j
  · rw [if_pos (key2.mpr c), if_pos c]
  · rw [if_neg (fun z => c (key2.mp z)), if_neg c]
    exact hg a b q1 q2
section
variable {P : Program} {w : World} {K : PySem.W.Frag} {mg : Str → Option Value} {base : Heap} {CP CS CR : Addr}
/-! ### floors -/
def spFloors (K : PySem.W.Frag) (CP CS : Addr) : Sp := fun vs H Q _ => ∃ (st pr : Addr) (ks : List Int), vs = [.ref st, .ref pr] ∧ StAt K CS H st ks ∧ PrAt CP H pr ∧ ∀ (H' : Hp) (d : Addr), Same H H' → TabAt H' d ks.length (C (at0 ks)) → Q (.ref d) H'
theorem scFloors : FnScope ["strand", "prices", "size", "table", "i", "j", "span"] ["strand", "prices"] (defScope sFloors) := ⟨rfl, rfl, rfl, by decide +kernel, rfl, by decide +kernel, by decide +kernel⟩
/-- rows from r on are done -/
def gO (f : Nat → Int) (r a b : Nat) : Int := if r ≤ a then C f a b else 0
/-- and of row i the first t spans that want it -/
def gI (f : Nat → Int) (i t a b : Nat) : Int := if i < a ∨ (a = i ∧ b < i + 2 + t) then C f a b else 0
theorem lasts_C {f : Nat → Int} {i j m t : Nat} (hj : i + 2 ≤ j) (ht : j = i + 2 + t) (h1 : m ∈ ([] : List Nat) ∨ True) {v : Int} (h2 : v ∈ lasts (gI f i t) (u (f i) (f j)) i (j - i - 1) j) (h3 : ∀ y ∈ lasts (gI f i t) (u (f i) (f j)) i (j - i - 1) j, v ≤ y) : v = C f i j := by
  have e : lasts (gI f i t) (u (f i) (f j)) i (j - i - 1) j = lasts (C f) (u (f i) (f j)) i (j - i - 1) j := by
    unfold lasts
    refine List.map_congr_left fun q hq => ?_
    have hq := List.mem_range.mp hq
    unfold gI
    rw [if_pos (.inr ⟨rfl, by omega⟩), if_pos (.inl (by omega))]
  rw [e] at h2 h3
  refine C_of_min ?_ fun k a b => ?_
  · obtain ⟨q, hq, e⟩ := List.mem_map.mp h2
    have hq := List.mem_range.mp hq
    exact ⟨i + 1 + q, by omega, by omega, e.symm⟩
  · refine h3 _ (List.mem_map.mpr ⟨k - i - 1, List.mem_range.mpr (by omega), ?_⟩)
    have e : i + 1 + (k - i - 1) = k := by omega
    rw [e]
theorem c_floors (T : Txt K mg CP CS CR) : Cal P w K mg base 3 "floors" (spFloors K CP CS) := cal_of T.dFloors fun f fd F => by
  refine F.ok scFloors (fun vs H Q E h => ?_) (fun cdv A outer s H vs Q E hr h => ?_)
  · obtain ⟨st, pr, ks, rfl, _⟩ := h
    rfl
  · obtain ⟨st, pr, ks, rfl, hS, hP, k⟩ := h
    have hu := hu_of hr
    obtain ⟨ok, dx, fs, t, s1, s2, s3, s4⟩ := id hS
    have lo := ok.lo
    have hi := ok.hi
    refine ⟨_, pss_cons (ps_set (i := 2) scFloors.nd rfl (.inl rfl) (pe_fld (pv 0) rfl))
      (pss_cons (ps_setDcT (i := 3) (own := [("span", 6)]) (g := gName 6) hu (by rfl) scFloors.nd rfl rfl (sw_dict rfl rfl rfl (by decide +kernel)) (pi_list (pc (c_spans T) hr (by decide) (by rfl) (pa_cons (pv 2) pa_nil)))
        (blkOk_by (own := [("span", 6)]) (N := ["strand", "prices", "size", "table", "i", "j", "span"]) (sc := defScope sFloors) (by decide +kernel)) (fun _ _ _ _ _ => pg_name (i := 6) scFloors.nd rfl (Or.inl rfl)) (fun _ _ _ _ _ => pv 6) (fun _ _ _ _ _ => pe_int))
      (pss_cons (ps_for PassesOwn.never rfl (pi_revR (by rfl) (T.b "reversed") (prg_1 (by rfl) (T.b "range") (pv 2))) (pg_name (i := 4) scFloors.nd rfl (.inl rfl))
        (pss_one (ps_for PassesOwn.never rfl (pi_range2 (by rfl) (T.b "range") (pa_cons (pe_op op_add (pv 4) pe_int) (pa_cons (pv 2) pa_nil))) (pg_name (i := 5) scFloors.nd rfl (.inl rfl))
          (pss_one (ps_dput hu (pv 3) (pe_tup (pa_cons (pv 4) (pa_cons (pv 5) pa_nil))) (pe_callB (cr_min rfl) (by rfl) (T.b "min") (by decide +kernel) (pa_cons (pc (c_pbl T) hr (by decide) (by rfl)
            (pa_cons (pe_fld (pv 0) rfl) (pa_cons (pv 1) (pa_cons (pv 3) (pa_cons (pe_tup (pa_cons (pv 4) (pa_cons (pv 5) pa_nil))) pa_nil))))) pa_nil)) rfl)))))
      (pss_one (ps_ret (pv 3))))), ?_⟩
    -- size
    refine ⟨_, rfl, st, CS, dx, fs, _, rfl, s1, T.sCl, T.s _, s4, ?_⟩
    -- table
    refine ⟨_, rfl, ks.length, rfl, hi, fun H1 p ts sm1 hSp => ?_⟩
    obtain ⟨p1, p2, p3, p4⟩ := hSp
    refine ⟨p, rfl, ⟨_, SqL.of p1⟩, fun D nD => ?_⟩
    refine dcT_list (xs := ts.map V.ref) (fun m H4 => Same H1 H4 ∧ ∃ kvs : List (List L2.Key × V), H4 D = some (.dT kvs) ∧ kvs.length ≤ m ∧ (∀ k v, valV kvs k = some v → v = .int 0) ∧ ∀ q ∈ ts.take m, ∀ a b : Nat, H1 q = some (pairT a b) → (valV kvs [Sum.inl (a : Int), Sum.inl (b : Int)]).isSome = true)
      ⟨same_upd nD, [], upd_same, Nat.le_refl _, (fun k v e => by cases e), (fun q hq => by simp at hq)⟩ (fun m H4 _ hW => SqL.of (hW.1 _ _ p1)) (fun m x H4 hx hW => ?_) (fun H4 hW => ?_)
    · obtain ⟨sm4, kvs, hD, hl, hv, hk⟩ := hW
      rw [List.getElem?_map] at hx
      obtain ⟨q, hq, rfl⟩ := Option.map_eq_some_iff.mp hx
      obtain ⟨a, b, e⟩ := p3 q (List.mem_of_getElem? hq)
      have hm : m < ts.length := by
        by_cases c : m < ts.length
        · exact c
        · rw [List.getElem?_eq_none (by omega)] at hq; cases hq
      refine ⟨rfl, _, rfl, kvs, [Sum.inl (a : Int), Sum.inl (b : Int)], q, rfl, hD, sm4 _ _ e, small1000 (by omega), fun c o ec => ?_, _, upd_same, ?_, fun k v ekv => ?_, fun r hr2 a2 b2 e2 => ?_⟩
      · rw [upd_ne (ne_of_none ec nD)]
        exact sm4 _ _ ec
      · have := length_putK kvs [Sum.inl (a : Int), Sum.inl (b : Int)] (V.int 0)
        omega
      · rw [valV_put] at ekv
        by_cases c : k = [Sum.inl (a : Int), Sum.inl (b : Int)]
        · rw [if_pos c] at ekv
          exact (Option.some.inj ekv).symm
        · rw [if_neg c] at ekv
          exact hv k v ekv
      · rw [valV_put]
        by_cases c : ([Sum.inl (a2 : Int), Sum.inl (b2 : Int)] : List L2.Key) = [Sum.inl (a : Int), Sum.inl (b : Int)]
        · rw [if_pos c]; rfl
        · rw [if_neg c]
          rw [List.take_succ, hq] at hr2
          rcases List.mem_append.mp hr2 with z | z
          · exact hk r z a2 b2 e2
          · have : r = q := by simpa using z
            subst this
            rw [e] at e2
            injection e2 with e2
            injection e2 with e2
            injection e2 with x1 x2
            injection x2 with x2 _
            injection x1 with x1
            injection x2 with x2
            exact absurd (by rw [x1, x2]) c
    -- the table of zeros
    obtain ⟨sm4, kvs, hD, hl, hv, hk⟩ := hW
    rw [List.length_map, List.take_length] at hk
    rw [List.length_map] at hl
    have t0 : TabAt H4 D ks.length (gO (at0 ks) ks.length) := by
      refine ⟨kvs, hD, by omega, fun i j h1 h2 => ?_⟩
      obtain ⟨q, hq, e⟩ := p4 i j h1 h2
      have := hk q hq i j e
      obtain ⟨v, ev⟩ := Option.isSome_iff_exists.mp this
      rw [ev, hv _ v ev]
      unfold gO
      rw [if_neg (by omega)]
    have smH : Same H H4 := sm1.trans sm4
    have nD0 : H D = none := sm1.free nD
    clear hk hv hl hD kvs p2 p3 p4 p1
    -- the loop over i, downward
    refine ⟨_, rfl, ks.length, rfl, by omega, by omega, by omega, by omega, ?_⟩
    have en : ((ks.length : Int) - 0).toNat = ks.length := by omega
    rw [en]
    refine for_rangeC (lo := 0 + (ks.length : Int) - 1) (c := -1) (n := ks.length) (fun m σ5 H5 => (∃ a b, σ5 = [some (.ref st), some (.ref pr), some (.int ks.length), some (.ref D), a, b, none]) ∧ Same H H5 ∧ TabAt H5 D ks.length (gO (at0 ks) (ks.length - m)))
      ⟨⟨_, _, rfl⟩, smH, by simpa using t0⟩ (fun m σ5 H5 hm hW => ?_) (fun σ5 H5 hW => ?_)
    · obtain ⟨⟨a, b, rfl⟩, sm5, t5⟩ := hW
      obtain ⟨i, hi2⟩ : ∃ i, i = ks.length - 1 - m := ⟨_, rfl⟩
      have ez : 0 + (ks.length : Int) - 1 + (m : Int) * -1 = (i : Int) := by omega
      rw [ez]
      have er : ks.length - m = i + 1 := by omega
      rw [er] at t5
      have t6 : TabAt H5 D ks.length (gI (at0 ks) i 0) := t5.congr fun x y h1 h2 => by
        unfold gO gI
        by_cases c : i + 1 ≤ x
        · rw [if_pos c, if_pos (.inl (by omega))]
        · rw [if_neg c]
          by_cases d : x = i ∧ y < i + 2 + 0
          · rw [if_pos (.inr d), C_short (by omega)]
          · rw [if_neg (by omega)]
      refine ⟨_, rfl, _, _, rfl, rfl, _, rfl, _, _, rfl, ⟨by omega, by omega, by omega, by omega⟩, ?_⟩
      refine for_range (lo := (i : Int) + 2) (n := ((ks.length : Int) - ((i : Int) + 2)).toNat) (fun t2 σ7 H7 => (∃ b, σ7 = [some (.ref st), some (.ref pr), some (.int ks.length), some (.ref D), some (.int i), b, none]) ∧ Same H H7 ∧ TabAt H7 D ks.length (gI (at0 ks) i t2))
        ⟨⟨_, rfl⟩, sm5, t6⟩ (fun t2 σ7 H7 ht hW => ?_) (fun σ7 H7 hW => ?_)
      · obtain ⟨⟨b, rfl⟩, sm7, t7⟩ := hW
        obtain ⟨j, hj⟩ : ∃ j, j = i + 2 + t2 := ⟨_, rfl⟩
        have ej : (i : Int) + 2 + (t2 : Int) = (j : Int) := by omega
        rw [ej]
        obtain ⟨_, dx7, fs7, t8, q1, q2, q3, q4⟩ := hS.same sm7
        -- the value
        refine ⟨_, rfl, st, CS, dx7, fs7, _, rfl, q1, T.sCl, T.s _, q2, _, rfl, _, rfl, _, rfl, _, rfl, by show 2 ≤ sizeLine; decide, fun tp ntp => ?_⟩
        have s8 := same_upd (o := .tup [.int (i : Int), .int (j : Int)]) ntp
        refine ⟨t8, pr, D, tp, ks, gI (at0 ks) i t2, i, j, rfl, sT s8 q3, (hP.same sm7).same s8, t7.same s8, upd_same, by omega, by omega, hi, fun H9 l s9 hl => ?_⟩
        refine ⟨l, _, rfl, SqL.of hl, by simp only [lasts, List.length_map, List.length_range]; omega, fun mn h1 h2 => ?_⟩
        have emn : mn = C (at0 ks) i j := lasts_C (m := 0) (by omega) hj (.inr trivial) h1 h2
        have s79 := s8.trans s9
        refine ⟨_, rfl, _, rfl, _, rfl, by show 2 ≤ sizeLine; decide, fun tp2 ntp2 => ?_⟩
        have s10 := same_upd (o := .tup [.int (i : Int), .int (j : Int)]) ntp2
        obtain ⟨kvs, k1, k2, k3⟩ := (t7.same s79).same s10
        refine ⟨D, _, rfl, DPut.t (k := [Sum.inl (i : Int), Sum.inl (j : Int)]) k1 upd_same (small1000 k2), ⟨_, rfl⟩, fun c o ec => ?_, ?_⟩
        · rw [upd_ne (ne_of_none ec nD0)]
          exact s10 _ _ (s79 _ _ (sm7 _ _ ec))
        · refine (TabAt.put k1 k2 k3 (i := i) (j := j) (by omega) (by omega) mn).congr fun x y h1 h2 => ?_
          show (if x = i ∧ y = j then mn else gI (at0 ks) i t2 x y) = gI (at0 ks) i (t2 + 1) x y
          unfold gI
          by_cases c : x = i ∧ y = j
          · rw [if_pos c, if_pos (.inr ⟨c.1, by omega⟩), c.1, c.2, emn]
          · rw [if_neg c]
            by_cases d : i < x ∨ (x = i ∧ y < i + 2 + t2)
            · rw [if_pos d, if_pos (by omega)]
            · rw [if_neg d, if_neg (by omega)]
      · obtain ⟨⟨b, rfl⟩, sm7, t7⟩ := hW
        refine ⟨⟨_, _, rfl⟩, sm7, t7.congr fun x y h1 h2 => ?_⟩
        unfold gI gO
        by_cases c : i ≤ x
        · rw [if_pos (by omega), if_pos (by omega)]
        · rw [if_neg (by omega), if_neg (by omega)]
    · obtain ⟨⟨a, b, rfl⟩, sm5, t5⟩ := hW
      refine ⟨_, rfl, k H5 D sm5 (t5.congr fun x y h1 h2 => ?_)⟩
      unfold gO
      rw [if_pos (by omega)]
end
end Bm

namespace Bm
open PySem L2
section
variable {P : Program} {w : World} {K : PySem.W.Frag} {mg : Str → Option Value} {base : Heap} {CP CS CR : Addr}
/-! ### new strands, new prices -/
theorem rd_strand {H1 : Hp} {a : Addr} {ks : List Int} {Q : VK} {E : XK} (ok : KOk ks) (hA : SqL K H1 a (iV ks) ∨ SqT K H1 a (iV ks)) (k : ∀ H' x, Same H1 H' → H1 x = none → StAt K CS H' x ks → Q (.ref x) H') :
    ∀ x dx, H1 x = none → H1 dx = none → dx ≠ x → spStI K CS (.ref x :: ([.ref a] ++ [])) (upd (upd H1 dx (.own x)) x (.ins CS dx [])) (fun v H2 => v = .non ∧ Q (.ref x) H2) E := by
  intro x dx nx nd ne
  have sm : Same H1 (upd H1 dx (.own x)) := same_upd nd
  have nx2 : (upd H1 dx (.own x)) x = none := by rw [upd_ne ne.symm]; exact nx
  have sm2 := sm.trans (same_upd (o := .ins CS dx []) nx2)
  refine ⟨x, dx, a, ks, rfl, upd_same, ok, hA.elim (fun h => .inl (sm2.seq h)) (fun h => .inr (sT sm2 h)), fun H' hS hf => ⟨rfl, k H' x ?_ nx hS⟩⟩
  exact Same.made nx nd hf
theorem rd_prices {σ : L2.St} {H1 : Hp} {Q : VK} (k : ∀ H' x, Same H1 H' → PrAt CP H' x → Q (.ref x) H') : tMake CP (spPrI CP) [.int 0, .int 0, .int 1, .int 1] E0 tNil σ H1 Q := by
  intro x dx nx nd ne
  exact ⟨x, dx, rfl, upd_same, fun H' hP hf => ⟨rfl, k H' x (Same.made nx nd hf) hP⟩⟩
/-! ### least_total -/
def spLeastT (K : PySem.W.Frag) (CP CS : Addr) : Sp := fun vs H Q _ => ∃ (st pr : Addr) (ks : List Int), vs = [.ref st, .ref pr] ∧ StAt K CS H st ks ∧ PrAt CP H pr ∧ ∀ H' : Hp, Same H H' → Q (.int (least ks)) H'
theorem scLeast : FnScope ["strand", "prices"] ["strand", "prices"] (defScope sLeast) := ⟨rfl, rfl, rfl, by decide +kernel, rfl, by decide +kernel, by decide +kernel⟩
theorem c_leastT (T : Txt K mg CP CS CR) : Cal P w K mg base 4 "least_total" (spLeastT K CP CS) := cal_of T.dLeast fun f fd F => by
  refine F.ok scLeast (fun vs H Q E h => ?_) (fun cdv A outer s H vs Q E hr h => ?_)
  · obtain ⟨st, pr, ks, rfl, _⟩ := h
    rfl
  · obtain ⟨st, pr, ks, rfl, hS, hP, k⟩ := h
    have hu := hu_of hr
    refine ⟨_, pss_one (ps_ret (pe_dget hu (pc (c_floors T) hr (by decide) (by rfl) (pa_cons (pv 0) (pa_cons (pv 1) pa_nil))) (pe_tup (pa_cons pe_int (pa_cons (pe_op op_sub (pe_fld (pv 0) rfl) pe_int) pa_nil))) (fun _ _ => rfl))), ?_⟩
    refine ⟨_, rfl, _, rfl, st, pr, ks, rfl, hS, hP, fun H1 d s1 hT => ?_⟩
    obtain ⟨ok, dx, fs, t, q1, q2, q3, q4⟩ := hS.same s1
    have lo := ok.lo
    refine ⟨_, rfl, st, CS, dx, fs, _, rfl, q1, T.sCl, T.s _, q4, _, _, rfl, rfl, by show 2 ≤ sizeLine; decide, fun a na => ?_⟩
    have ez : (ks.length : Int) - 1 = ((ks.length - 1 : Nat) : Int) := by omega
    dsimp only
    rw [ez]
    have s2 := same_upd (o := .tup [.int 0, .int ((ks.length - 1 : Nat) : Int)]) na
    obtain ⟨kvs, k1, k2, k3⟩ := hT.same s2
    have g := DGet.t (k := [Sum.inl ((0 : Nat) : Int), Sum.inl ((ks.length - 1 : Nat) : Int)]) k1 (b := a) (by rw [upd_same]; rfl)
    rw [k3 0 (ks.length - 1) (by omega) (by omega)] at g
    exact ⟨d, _, rfl, g, k _ (s1.trans s2)⟩
/-! ### without -/
def spWithout (K : PySem.W.Frag) (CS : Addr) : Sp := fun vs H Q _ => ∃ (st : Addr) (ks : List Int) (a : Nat), vs = [.ref st, .int a] ∧ StAt K CS H st ks ∧ 1 ≤ a ∧ a + 1 < ks.length ∧ ∀ (H' : Hp) (x : Addr), Same H H' → StAt K CS H' x (ks.eraseIdx a) → Q (.ref x) H'
theorem scWithout : FnScope ["strand", "bead"] ["strand", "bead"] (defScope sWithout) := ⟨rfl, rfl, rfl, by decide +kernel, rfl, by decide +kernel, by decide +kernel⟩
theorem cut_hi (xs : List V) (a : Nat) (h : a ≤ xs.length) : cutV xs none (some (a : Int)) = xs.take a := by
  unfold cutV
  rw [HT.sIx_none, HT.sIx_nat, Nat.min_eq_left h]
  simp
theorem cut_lo (xs : List V) (a : Nat) (h : a ≤ xs.length) : cutV xs (some (a : Int)) none = xs.drop a := by
  unfold cutV
  rw [HT.sIx_none, HT.sIx_nat, Nat.min_eq_left h]
  rw [List.take_of_length_le (by rw [List.length_drop]; exact Nat.le_refl _)]
theorem KOk.erase {ks : List Int} (ok : KOk ks) {a : Nat} (h1 : 1 ≤ a) (h2 : a + 1 < ks.length) : KOk (ks.eraseIdx a) := by
  have := ok.hi
  refine ⟨?_, ?_, fun k hk => ok.rg k (List.mem_of_mem_eraseIdx hk)⟩
  · rw [List.length_eraseIdx, if_pos (by omega)]; omega
  · rw [List.length_eraseIdx, if_pos (by omega)]; omega
theorem iV_erase (ks : List Int) (a : Nat) : (iV ks).take a ++ (iV ks).drop (a + 1) = iV (ks.eraseIdx a) := by
  rw [List.eraseIdx_eq_take_drop_succ]
  simp only [iV, List.map_append, List.map_take, List.map_drop]
theorem c_without (T : Txt K mg CP CS CR) : Cal P w K mg base 3 "without" (spWithout K CS) := cal_of T.dWithout fun f fd F => by
  refine F.ok scWithout (fun vs H Q E h => ?_) (fun cdv A outer s H vs Q E hr h => ?_)
  · obtain ⟨st, ks, a, rfl, _⟩ := h
    rfl
  · obtain ⟨st, ks, a, rfl, hS, h1, h2, k⟩ := h
    obtain ⟨ok, dx, fs, t, q1, q2, q3, q4⟩ := id hS
    have hi := ok.hi
    refine ⟨_, pss_one (ps_ret (pmk (mak_st T) hr (by decide) (by rfl) (pa_cons (pe_op op_catT (pe_slice sl_tup (pe_fld (pv 0) rfl) po_none (po_some (pv 1))) (pe_slice sl_tup (pe_fld (pv 0) rfl) (po_some (pe_op op_add (pv 1) pe_int)) po_none)) pa_nil))), ?_⟩
    have hl : (iV ks).length = ks.length := List.length_map ..
    refine ⟨_, rfl, st, CS, dx, fs, _, rfl, q1, T.sCl, T.s _, q2, _, rfl, _, rfl, t, iV ks, rfl, q3, ?_, fun b nb => ?_⟩
    · rintro ⟨_, e⟩
      rw [HT.sIx_nat, Nat.min_eq_left (by omega)] at e
      omega
    · have s1 := same_upd (o := .tup (cutV (iV ks) none (some (a : Int)))) nb
      refine ⟨_, rfl, st, CS, dx, fs, _, rfl, s1 _ _ q1, T.sCl, T.s _, q2, _, rfl, _, _, rfl, rfl, ?_⟩
      have ez : (a : Int) + 1 = ((a + 1 : Nat) : Int) := by omega
      dsimp only
      rw [ez]
      refine ⟨_, rfl, t, iV ks, rfl, sT s1 q3, ?_, fun c nc => ?_⟩
      · rintro ⟨e, _⟩
        rw [HT.sIx_nat, Nat.min_eq_left (by omega)] at e
        omega
      · have s2 := same_upd (o := .tup (cutV (iV ks) (some ((a + 1 : Nat) : Int)) none)) nc
        have e1 := s2 _ _ (upd_same (H := H) (a := b) (o := .tup (cutV (iV ks) none (some (a : Int)))))
        refine ⟨b, c, _, _, rfl, rfl, SqT.of e1, SqT.of upd_same, ?_, ?_, fun z => ?_, fun z d nd => ?_⟩
        · rw [cut_hi _ _ (by omega)]
          intro z
          have := congrArg List.length z
          rw [List.length_take] at this
          simp only [List.length_nil] at this
          omega
        · rw [cut_hi _ _ (by omega), cut_lo _ _ (by omega), List.length_take, List.length_drop]
          exact Nat.le_of_lt (small1000 (by omega))
        · exfalso
          rw [cut_lo _ _ (by omega)] at z
          have := congrArg List.length z
          rw [List.length_drop] at this
          simp only [List.length_nil] at this
          omega
        · have s3 := same_upd (o := .tup (cutV (iV ks) none (some (a : Int)) ++ cutV (iV ks) (some ((a + 1 : Nat) : Int)) none)) nd
          have eT : SqT K (upd (upd (upd H b (.tup (cutV (iV ks) none (some (a : Int))))) c (.tup (cutV (iV ks) (some ((a + 1 : Nat) : Int)) none))) d (.tup (cutV (iV ks) none (some (a : Int)) ++ cutV (iV ks) (some ((a + 1 : Nat) : Int)) none))) d (iV (ks.eraseIdx a)) := by
            rw [← iV_erase, ← cut_hi (iV ks) a (by omega), ← cut_lo (iV ks) (a + 1) (by omega)]
            exact SqT.of upd_same
          exact rd_strand (ok.erase h1 h2) (.inr eT) fun H' x sm _ hS' => k H' x (((s1.trans s2).trans s3).trans sm) hS'
/-! ### least_toll -/
def spLToll (K : PySem.W.Frag) (CS : Addr) : Sp := fun vs H Q _ => ∃ (st : Addr) (ks : List Int), vs = [.ref st] ∧ StAt K CS H st ks ∧ ∀ H' : Hp, Same H H' → Q (.int (least ks)) H'
theorem scLToll : FnScope ["strand"] ["strand"] (defScope sLToll) := ⟨rfl, rfl, rfl, by decide +kernel, rfl, by decide +kernel, by decide +kernel⟩
theorem c_ltoll (T : Txt K mg CP CS CR) : Cal P w K mg base 5 "least_toll" (spLToll K CS) := cal_of T.dLToll fun f fd F => by
  refine F.ok scLToll (fun vs H Q E h => ?_) (fun cdv A outer s H vs Q E hr h => ?_)
  · obtain ⟨st, ks, rfl, _⟩ := h
    rfl
  · obtain ⟨st, ks, rfl, hS, k⟩ := h
    refine ⟨_, pss_one (ps_ret (pc (c_leastT T) hr (by decide) (by rfl) (pa_cons (pv 0) (pa_cons (pmk0 (mak_pr T) hr (by decide) (by rfl)) pa_nil)))), ?_⟩
    refine ⟨_, rfl, ?_⟩
    refine rd_prices fun H1 x s1 hP => ?_
    exact ⟨st, x, ks, rfl, hS.same s1, hP, fun H2 s2 => k H2 (s1.trans s2)⟩
/-! ### first_price -/
def spFprice (K : PySem.W.Frag) (CP CS : Addr) : Sp := fun vs H Q _ => ∃ (st pr : Addr) (ks : List Int) (a : Nat), vs = [.ref st, .int a, .ref pr] ∧ StAt K CS H st ks ∧ PrAt CP H pr ∧ 1 ≤ a ∧ a + 1 < ks.length ∧ Q (.int (ear ks a)) H
theorem scFprice : FnScope ["strand", "bead", "prices", "kinds"] ["strand", "bead", "prices"] (defScope sFprice) := ⟨rfl, rfl, rfl, by decide +kernel, rfl, by decide +kernel, by decide +kernel⟩
theorem c_fprice (T : Txt K mg CP CS CR) : Cal P w K mg base 2 "first_price" (spFprice K CP CS) := cal_of T.dFprice fun f fd F => by
  refine F.ok scFprice (fun vs H Q E h => ?_) (fun cdv A outer s H vs Q E hr h => ?_)
  · obtain ⟨st, pr, ks, a, rfl, _⟩ := h
    rfl
  · obtain ⟨st, pr, ks, a, rfl, hS, hP, h1, h2, k⟩ := h
    obtain ⟨ok, dx, fs, t, q1, q2, q3, q4⟩ := id hS
    refine ⟨_, pss_cons (ps_set (i := 3) scFprice.nd rfl (.inl rfl) (pe_fld (pv 0) rfl))
      (pss_one (ps_ret (pe_pr T hr (pv 2) (pa_cons (pc (c_mark T) hr (by decide) (by rfl) (pa_cons (pe_ix ix_tup (pv 3) (pe_op op_sub (pv 1) pe_int) (fun _ _ => rfl)) (pa_cons (pe_ix ix_tup (pv 3) (pv 1) (fun _ _ => rfl)) (pa_cons (pe_ix ix_tup (pv 3) (pe_op op_add (pv 1) pe_int) (fun _ _ => rfl)) pa_nil)))) pa_nil)))), ?_⟩
    refine ⟨_, rfl, st, CS, dx, fs, _, rfl, q1, T.sCl, T.s _, q2, _, rfl, pr, rfl, ?_⟩
    have e1 : (a : Int) - 1 = ((a - 1 : Nat) : Int) := by omega
    have e2 : (a : Int) + 1 = ((a + 1 : Nat) : Int) := by omega
    refine ⟨_, rfl, _, rfl, _, _, rfl, rfl, t, _, _, _, rfl, rfl, q3, by rw [e1]; exact atI_nat (at_ks (by omega)), _, rfl, _, rfl, t, _, _, _, rfl, rfl, q3, atI_nat (at_ks (by omega)), _, rfl, _, rfl, _, _, rfl, rfl, t, _, _, _, rfl, rfl, q3, by rw [e2]; exact atI_nat (at_ks (by omega)), ?_⟩
    exact ⟨_, _, _, rfl, hP, _, _, _, rfl, k⟩
end
end Bm

namespace Bm
open PySem L2
abbrev nV (l : List Nat) : List V := l.map fun i => V.int (i : Nat)
theorem nV_erase (l : List Nat) (a : Nat) : (nV l).eraseIdx a = nV (l.eraseIdx a) := by
  refine List.ext_getElem? fun i => ?_
  rw [List.getElem?_map, List.getElem?_eraseIdx, List.getElem?_eraseIdx]
  split <;> rw [List.getElem?_map]
theorem nV_get {l : List Nat} {i b : Nat} (h : l[i]? = some b) : (nV l)[i]? = some (.int b) := by
  rw [List.getElem?_map, h]
  rfl
theorem rg_nV (n : Nat) : rgV 0 (n : Int) = nV (List.range n) := by
  unfold rgV
  have e : ((n : Int) - 0).toNat = n := by omega
  rw [e]
  exact List.map_congr_left fun i _ => by rw [Int.zero_add]
theorem rg_inner (n : Nat) : rgV 1 ((n : Int) - 1) = nV (inner n) := by
  unfold rgV inner
  have e : ((n : Int) - 1 - 1).toNat = n - 2 := by omega
  rw [e]
  show _ = List.map _ (List.map _ _)
  rw [List.map_map]
  exact List.map_congr_left fun i _ => by
    show V.int (1 + (i : Int)) = V.int ((i + 1 : Nat) : Int)
    congr 1
    omega
theorem six {i n : Nat} (h : i < n) : seqIndex? (i : Int) n = some i := by
  rw [seqIndex_of (by omega) (by omega)]
  simp
/-- first_totals' dict, the first m beads -/
def ftab (ks : List Int) (m : Nat) : List (L2.Key × V) := (List.range m).map fun t => (Sum.inl ((t + 1 : Nat) : Int), V.int (ear ks (t + 1) + least (ks.eraseIdx (t + 1))))
theorem ftab_succ (ks : List Int) (m : Nat) : ftab ks (m + 1) = ftab ks m ++ [(Sum.inl ((m + 1 : Nat) : Int), V.int (ear ks (m + 1) + least (ks.eraseIdx (m + 1))))] := by
  unfold ftab
  rw [List.range_succ, List.map_append]
  rfl
theorem ftab_val (ks : List Int) : ∀ m a : Nat, valV (ftab ks m) (Sum.inl ((a + 1 : Nat) : Int)) = if a < m then some (V.int (ear ks (a + 1) + least (ks.eraseIdx (a + 1)))) else none
  | 0, a => by
    rw [if_neg (by omega)]
    rfl
  | m + 1, a => by
    have e0 := ftab_val ks m m
    rw [if_neg (by omega)] at e0
    rw [ftab_succ, valV_snoc _ _ _ _ e0]
    by_cases c : a = m
    · subst c
      rw [if_pos rfl, if_pos (by omega)]
    · have ne : ¬ ((Sum.inl ((a + 1 : Nat) : Int) : L2.Key) = Sum.inl ((m + 1 : Nat) : Int)) := fun h => by
        injection h with h
        omega
      rw [if_neg ne, ftab_val ks m a]
      by_cases d : a < m
      · rw [if_pos d, if_pos (by omega)]
      · rw [if_neg d, if_neg (by omega)]
theorem ftab_len (ks : List Int) (m : Nat) : (ftab ks m).length = m := by
  unfold ftab
  rw [List.length_map, List.length_range]
section
variable {P : Program} {w : World} {K : PySem.W.Frag} {mg : Str → Option Value} {base : Heap} {CP CS CR : Addr}
/-! ### first_totals -/
def spFtot (K : PySem.W.Frag) (CP CS : Addr) : Sp := fun vs H Q _ => ∃ (st pr : Addr) (ks : List Int), vs = [.ref st, .ref pr] ∧ StAt K CS H st ks ∧ PrAt CP H pr ∧ ∀ (H' : Hp) (d : Addr), Same H H' → H d = none → H' d = some (.dK (ftab ks (ks.length - 2))) → Q (.ref d) H'
theorem scFtot : FnScope ["strand", "prices", "table", "bead", "left"] ["strand", "prices"] (defScope sFtotals) := ⟨rfl, rfl, rfl, by decide +kernel, rfl, by decide +kernel, by decide +kernel⟩
theorem c_ftot (T : Txt K mg CP CS CR) : Cal P w K mg base 5 "first_totals" (spFtot K CP CS) := cal_of T.dFtotals fun f fd F => by
  refine F.ok scFtot (fun vs H Q E h => ?_) (fun cdv A outer s H vs Q E hr h => ?_)
  · obtain ⟨st, pr, ks, rfl, _⟩ := h
    rfl
  · obtain ⟨st, pr, ks, rfl, hS, hP, k⟩ := h
    have hu := hu_of hr
    obtain ⟨ok, dx, fs, t, q1, q2, q3, q4⟩ := id hS
    have lo := ok.lo
    have hi := ok.hi
    refine ⟨_, pss_cons (ps_set (i := 2) scFtot.nd rfl (.inl rfl) pe_dnewK)
      (pss_cons (ps_for PassesOwn.never rfl (pi_range2 (by rfl) (T.b "range") (pa_cons pe_int (pa_cons (pe_op op_sub (pe_fld (pv 0) rfl) pe_int) pa_nil))) (pg_name (i := 3) scFtot.nd rfl (.inl rfl))
        (pss_cons (ps_set (i := 4) scFtot.nd rfl (.inl rfl) (pc (c_leastT T) hr (by decide) (by rfl) (pa_cons (pc (c_without T) hr (by decide) (by rfl) (pa_cons (pv 0) (pa_cons (pv 3) pa_nil))) (pa_cons (pv 1) pa_nil))))
        (pss_one (ps_dput hu (pv 2) (pv 3) (pe_op op_add (pc (c_fprice T) hr (by decide) (by rfl) (pa_cons (pv 0) (pa_cons (pv 3) (pa_cons (pv 1) pa_nil)))) (pv 4)) rfl))))
      (pss_one (ps_ret (pv 2)))), ?_⟩
    intro D nD
    have s1 := same_upd (o := .dK []) nD
    refine ⟨_, rfl, st, CS, dx, fs, _, rfl, s1 _ _ q1, T.sCl, T.s _, q4, _, _, rfl, rfl, _, _, rfl, ⟨by omega, by omega, by omega, by omega⟩, ?_⟩
    refine for_range (lo := 1) (n := ((ks.length : Int) - 1 - 1).toNat) (fun m σ5 H5 => (∃ a b, σ5 = [some (.ref st), some (.ref pr), some (.ref D), a, b]) ∧ Same H H5 ∧ H5 D = some (.dK (ftab ks m)))
      ⟨⟨_, _, rfl⟩, s1, upd_same⟩ (fun m σ5 H5 hm hW => ?_) (fun σ5 H5 hW => ?_)
    · obtain ⟨⟨a, b, rfl⟩, s5, hD⟩ := hW
      have ez : 1 + (m : Int) = ((m + 1 : Nat) : Int) := by omega
      rw [ez]
      refine ⟨_, rfl, _, rfl, st, ks, m + 1, rfl, hS.same s5, by omega, by omega, fun H6 x s6 hx => ?_⟩
      refine ⟨_, rfl, x, pr, _, rfl, hx, (hP.same s5).same s6, fun H7 s7 => ?_⟩
      have s57 := s6.trans s7
      refine ⟨_, rfl, _, rfl, _, rfl, st, pr, ks, m + 1, rfl, (hS.same s5).same s57, (hP.same s5).same s57, by omega, by omega, ?_⟩
      refine ⟨_, rfl, _, _, rfl, rfl, _, rfl, _, rfl, D, _, rfl, DPut.k (k := Sum.inl ((m + 1 : Nat) : Int)) (s57 _ _ hD) (by rw [ftab_len]; exact small1000 (by omega)), ⟨_, _, rfl⟩, fun c o ec => ?_, ?_⟩
      · rw [upd_ne (ne_of_none ec nD)]
        exact s57 _ _ (s5 _ _ ec)
      · rw [upd_same, ftab_succ, putK_new]
        rw [ftab_val, if_neg (by omega)]
    · obtain ⟨⟨a, b, rfl⟩, s5, hD⟩ := hW
      have en : ((ks.length : Int) - 1 - 1).toNat = ks.length - 2 := by omega
      rw [en] at hD
      exact ⟨_, rfl, k H5 D s5 nD hD⟩
theorem st_prices {i : Nat} {u : TS} {D : L2.Ends} {σ : L2.St} {H : Hp} (k : ∀ H' x, Same H H' → PrAt CP H' x → u D (σ.set i (some (.ref x))) H') :
    tSeq (tAsg (tMake CP (spPrI CP) [.int 0, .int 0, .int 1, .int 1] E0 tNil) (gName i)) u D σ H :=
  rd_prices (CP := CP) (σ := σ) (H1 := H) (Q := fun x H1 => gName i x σ H1 (u D)) k
/-! ### thrift_order -/
/-- the order told of a strand -/
def thrift (ks : List Int) : List Nat := gor (at0 ks) (List.range ks.length) (ks.length - 2)
def spThrift (K : PySem.W.Frag) (CS : Addr) : Sp := fun vs H Q _ => ∃ (st : Addr) (ks : List Int), vs = [.ref st] ∧ StAt K CS H st ks ∧ ∀ (H' : Hp) (o : Addr), Same H H' → H o = none → H' o = some (.lst (nV (thrift ks))) → Q (.ref o) H'
theorem scThrift : FnScope ["strand", "tolls", "standing", "order", "rest", "least", "at", "left"] ["strand"] (defScope sThrift) := ⟨rfl, rfl, rfl, by decide +kernel, rfl, by decide +kernel, by decide +kernel⟩
/-- what stands at the head of the while behind s takings -/
def ThI (K : PySem.W.Frag) (CP CS : Addr) (ks : List Int) (st SD OD : Addr) (H0 : Hp) (s : Nat) (σ : L2.St) (H : Hp) : Prop :=
  ∃ (pr r : Addr) (x y : Option V), σ = [some (.ref st), some (.ref pr), some (.ref SD), some (.ref OD), some (.ref r), some (.int (least ((gs (at0 ks) (List.range ks.length) s).map (at0 ks)))), x, y] ∧ Same H0 H ∧ PrAt CP H pr ∧
    StAt K CS H r ((gs (at0 ks) (List.range ks.length) s).map (at0 ks)) ∧ H SD = some (.lst (nV (gs (at0 ks) (List.range ks.length) s))) ∧ H OD = some (.lst (nV (gor (at0 ks) (List.range ks.length) s)))
theorem ok_thrift (T : Txt K mg CP CS CR) {f : Addr} {fd : FuncData} (F : Fun K "thrift_order" "thrift_order" sThrift f fd) : FnOk P w K mg base CX0 6 f fd ["strand"] (spThrift K CS) := by
  refine F.ok scThrift (fun vs H Q E h => ?_) (fun cdv A outer s H vs Q E hr h => ?_)
  · obtain ⟨st, ks, rfl, _⟩ := h
    rfl
  · obtain ⟨st, ks, rfl, hS, k⟩ := h
    have hu := hu_of hr
    obtain ⟨ok, dx, fs, t, q1, q2, q3, q4⟩ := id hS
    have lo := ok.lo
    have hi := ok.hi
    refine ⟨_, pss_cons (ps_set (i := 1) scThrift.nd rfl (.inl rfl) (pmk0 (mak_pr T) hr (by decide) (by rfl)))
      (pss_cons (ps_set (i := 2) scThrift.nd rfl (.inl rfl) (pe_listRg (by rfl) (by rfl) (T.b "list") (prg_1 (by rfl) (T.b "range") (pe_fld (pv 0) rfl))))
      (pss_cons (ps_set (i := 3) scThrift.nd rfl (.inl rfl) (pe_lst pa_nil))
      (pss_cons (ps_set (i := 4) scThrift.nd rfl (.inl rfl) (pv 0))
      (pss_cons (ps_set (i := 5) scThrift.nd rfl (.inl rfl) (pc (c_ltoll T) hr (by decide) (by rfl) (pa_cons (pv 0) pa_nil)))
      (pss_cons (ps_while PassesOwn.never (pt_cmpR op_gt (pe_fld (pv 4) rfl) pe_int (nomark _))
        (pss_cons (ps_for PassesOwn.never rfl (pi_range2 (by rfl) (T.b "range") (pa_cons pe_int (pa_cons (pe_op op_sub (pe_fld (pv 4) rfl) pe_int) pa_nil))) (pg_name (i := 6) scThrift.nd rfl (.inl rfl))
          (pss_cons (ps_set (i := 7) scThrift.nd rfl (.inl rfl) (pc (c_ltoll T) hr (by decide) (by rfl) (pa_cons (pc (c_without T) hr (by decide) (by rfl) (pa_cons (pv 4) (pa_cons (pv 6) pa_nil))) pa_nil)))
          (pss_one (ps_if (pt_cmpR op_eq (pe_op op_add (pc (c_fprice T) hr (by decide) (by rfl) (pa_cons (pv 4) (pa_cons (pv 6) (pa_cons (pv 1) pa_nil)))) (pv 7)) (pv 5) (nomark _)) (pss_one ps_break) pss_nil))))
        (pss_cons (ps_expr (pe_bm PySem.F.plainAttrs_list PySem.F.slot_list_append PySem.F.type_list_append mt_append (pv 3) (pa_cons (pe_bm PySem.F.plainAttrs_list PySem.F.slot_list_pop PySem.F.type_list_pop mt_popAt (pv 2) (pa_cons (pv 6) pa_nil)) pa_nil)))
        (pss_cons (ps_set (i := 4) scThrift.nd rfl (.inl rfl) (pc (c_without T) hr (by decide) (by rfl) (pa_cons (pv 4) (pa_cons (pv 6) pa_nil))))
        (pss_one (ps_set (i := 5) scThrift.nd rfl (.inl rfl) (pv 7)))))))
      (pss_one (ps_ret (pv 3)))))))), ?_⟩
    refine st_prices fun H1 pr s1 hP => ?_
    obtain ⟨_, dx1, fs1, t1, p1, p2, p3, p4⟩ := hS.same s1
    refine ⟨_, rfl, st, CS, dx1, fs1, _, rfl, p1, T.sCl, T.s _, p4, ks.length, rfl, RgOk.of_le (by omega) (by omega) (by omega) (by omega), fun SD nSD => ?_⟩
    rw [rg_nV]
    have s2 := same_upd (o := .lst (nV (List.range ks.length))) nSD
    refine ⟨Nat.zero_le _, fun OD nOD => ?_⟩
    have s3 := same_upd (o := .lst []) nOD
    have nSO : SD ≠ OD := ne_of_none upd_same nOD
    have nSD0 : H SD = none := s1.free nSD
    have nOD0 : H OD = none := (s1.trans s2).free nOD
    have s13 := (s1.trans s2).trans s3
    refine ⟨_, rfl, _, rfl, st, ks, rfl, hS.same s13, fun H4 s4 => ?_⟩
    have hn : (List.range ks.length).Nodup := List.nodup_range
    have hlr : (List.range ks.length).length = ks.length := List.length_range
    refine ⟨fun m σ5 H5 => ∃ s, s + m + 2 = ks.length ∧ ThI K CP CS ks st SD OD H s σ5 H5, ⟨ks.length - 2, 0, by omega, pr, st, none, none, ?_, s13.trans s4, ((hP.same s2).same s3).same s4, ?_, ?_, ?_⟩, fun m σ5 H5 hW => ?_⟩
    · show _ = [_, _, _, _, _, some (V.int (least ((List.range ks.length).map (at0 ks)))), _, _]
      rw [kinds_row]
      rfl
    · show StAt K CS H4 st ((List.range ks.length).map (at0 ks))
      rw [kinds_row]
      exact (hS.same s13).same s4
    · exact s4 _ _ (s3 _ _ upd_same)
    · exact s4 _ _ upd_same
    · obtain ⟨s, es, pr5, r, x, y, rfl, s5, hP5, hR, hSD, hOD⟩ := hW
      have gl := gs_len (f := at0 ks) (st := List.range ks.length) s (by omega)
      rw [hlr] at gl
      generalize hkr : (gs (at0 ks) (List.range ks.length) s).map (at0 ks) = kr at hR
      have kl : kr.length = ks.length - s := by rw [← hkr, List.length_map, gl]
      obtain ⟨okr, dxr, fsr, tr, r1, r2, r3, r4⟩ := id hR
      refine ⟨_, rfl, r, CS, dxr, fsr, _, rfl, r1, T.sCl, T.s _, r4, _, _, rfl, rfl, _, rfl, iteD (fun hgt => ?_) fun hle => ?_⟩
      · -- a turn
        have hs2 : s + 2 < (List.range ks.length).length := by omega
        obtain ⟨a1, a2, a3, a4, a5⟩ := gs_spec (f := at0 ks) (st := List.range ks.length) (s := s) hs2
        rw [hkr] at a1 a2 a3 a4 a5
        refine ⟨fun σ6 H6 => ∃ s', s' + (m - 1) + 2 = ks.length ∧ ThI K CP CS ks st SD OD H s' σ6 H6, fun σ6 H6 ⟨s', e1, e2⟩ => ⟨m - 1, by omega, s', e1, e2⟩, ?_⟩
        refine ⟨_, rfl, r, CS, dxr, fsr, _, rfl, r1, T.sCl, T.s _, r4, _, _, rfl, rfl, _, _, rfl, ⟨by omega, by omega, by omega, by omega⟩, ?_⟩
        refine for_range (lo := 1) (n := ((kr.length : Int) - 1 - 1).toNat) (fun q σ7 H7 => (∃ x y, σ7 = [some (.ref st), some (.ref pr5), some (.ref SD), some (.ref OD), some (.ref r), some (.int (least kr)), x, y]) ∧ Same H5 H7 ∧ ∀ j, 1 ≤ j → j < q + 1 → loss kr j ≠ 0)
          ⟨⟨x, y, rfl⟩, Same.refl _, fun j h1 h2 => by omega⟩ (fun q σ7 H7 hq hW => ?_) (fun σ7 H7 hW => ?_)
        · obtain ⟨⟨x7, y7, rfl⟩, s7, no⟩ := hW
          have ez : 1 + (q : Int) = ((q + 1 : Nat) : Int) := by omega
          rw [ez]
          refine ⟨_, rfl, _, rfl, r, kr, q + 1, rfl, hR.same s7, by omega, by omega, fun H8 x8 s8 hx => ?_⟩
          refine ⟨x8, _, rfl, hx, fun H9 s9 => ?_⟩
          have s89 := s8.trans s9
          have s79 := s7.trans s89
          refine ⟨_, rfl, _, rfl, _, rfl, r, pr5, kr, q + 1, rfl, hR.same s79, hP5.same s79, by omega, by omega, ?_⟩
          refine ⟨_, rfl, _, _, rfl, rfl, _, rfl, rfl, _, rfl, iteQ (fun e => ?_) fun e => ?_⟩
          · -- the bead that is taken
            have z : loss kr (q + 1) = 0 := by unfold loss; omega
            have ef : firstAt kr = q + 1 := firstAt_of (by omega) (by omega) z fun j h1 h2 => no j h1 h2
            rw [ef] at a5 a2
            have hSD9 := s79 _ _ hSD
            have hOD9 := s79 _ _ hOD
            refine ⟨_, rfl, .inl ⟨rfl, _, SqL.of hOD9⟩, _, rfl, .inl ⟨rfl, _, SqL.of hSD9⟩, _, rfl, SD, _, _, q + 1, _, rfl, rfl, hSD9, by omega, by omega, six (by rw [List.length_map]; omega), nV_get a5, ?_⟩
            have hODa : (upd H9 SD (.lst ((nV (gs (at0 ks) (List.range ks.length) s)).eraseIdx (q + 1)))) OD = some (.lst (nV (gor (at0 ks) (List.range ks.length) s))) := by
              rw [upd_ne nSO.symm]
              exact hOD9
            refine ⟨OD, _, _, rfl, rfl, hODa, by rw [List.length_map, gor_len]; exact small1000 (by omega), ?_⟩
            generalize hH10 : (upd (upd H9 SD (.lst ((nV (gs (at0 ks) (List.range ks.length) s)).eraseIdx (q + 1)))) OD (.lst (nV (gor (at0 ks) (List.range ks.length) s) ++ [.int (gb (at0 ks) (List.range ks.length) s)]))) = H10
            have keep : ∀ c o, H9 c = some o → c ≠ SD → c ≠ OD → H10 c = some o := fun c o e n1 n2 => by
              rw [← hH10, upd_ne n2, upd_ne n1]
              exact e
            have nol : ∀ {c : Addr} {o : HO}, H9 c = some o → (∀ l, o ≠ .lst l) → H10 c = some o := fun {c o} e nl => keep c o e (ne_of e hSD9 (nl _)) (ne_of e hOD9 (nl _))
            have hR10 : StAt K CS H10 r kr := by
              obtain ⟨_, dx9, fs9, t9, b1, b2, b3, b4⟩ := hR.same s79
              refine ⟨okr, dx9, fs9, t9, nol b1 (fun l z => by cases z), b2, ?_, b4⟩
              rcases b3 with (b3 | ⟨o, b3⟩) | b3
              · exact .inl (.inl (nol b3 (fun l z => by cases z)))
              · exact .inl (.inr ⟨o, nol b3 (fun l z => by cases z)⟩)
              · exact .inr b3
            have hP10 : PrAt CP H10 pr5 := by
              obtain ⟨dx9, fs9, b1, b2⟩ := hP5.same s79
              exact ⟨dx9, fs9, nol b1 (fun l z => by cases z), b2⟩
            refine ⟨_, rfl, _, rfl, r, kr, q + 1, rfl, hR10, by omega, by omega, fun H11 x11 s11 hx11 => ?_⟩
            refine ⟨_, rfl, s + 1, by omega, pr5, x11, some (.int (q + 1 : Nat)), some (.int (least (kr.eraseIdx (q + 1)))), ?_, ?_, hP10.same s11, ?_, ?_, ?_⟩
            · show _ = [_, _, _, _, _, some (V.int (least (List.map (at0 ks) ((gs (at0 ks) (List.range ks.length) s).eraseIdx (firstAt ((gs (at0 ks) (List.range ks.length) s).map (at0 ks))))))), _, _]
              rw [hkr, ef, map_erase, hkr]
              rfl
            · intro c o ec
              refine s11 _ _ (keep c o (s79 _ _ (s5 _ _ ec)) (ne_of_none ec nSD0) (ne_of_none ec nOD0))
            · show StAt K CS H11 x11 (List.map (at0 ks) ((gs (at0 ks) (List.range ks.length) s).eraseIdx (firstAt ((gs (at0 ks) (List.range ks.length) s).map (at0 ks)))))
              rw [hkr, ef, map_erase, hkr]
              exact hx11
            · refine s11 _ _ ?_
              rw [← hH10, upd_ne nSO, upd_same, nV_erase]
              show some (HO.lst (nV ((gs (at0 ks) (List.range ks.length) s).eraseIdx (q + 1)))) = some (HO.lst (nV ((gs (at0 ks) (List.range ks.length) s).eraseIdx (firstAt ((gs (at0 ks) (List.range ks.length) s).map (at0 ks))))))
              rw [hkr, ef]
            · refine s11 _ _ ?_
              rw [← hH10, upd_same, gor_succ]
              simp only [nV, List.map_append, List.map_cons, List.map_nil]
          · refine ⟨⟨_, _, rfl⟩, s79, fun j h1 h2 => ?_⟩
            by_cases c : j = q + 1
            · subst c
              unfold loss
              intro z
              exact e (by omega)
            · exact no j h1 (by omega)
        · exfalso
          obtain ⟨_, _, no⟩ := hW
          refine no (firstAt kr) a1 ?_ a3
          omega
      · -- the end
        have e : s = ks.length - 2 := by omega
        subst e
        exact ⟨_, rfl, k H5 OD s5 nOD0 hOD⟩
theorem c_thrift (T : Txt K mg CP CS CR) : Cal P w K mg base 6 "thrift_order" (spThrift K CS) := cal_of T.dThrift fun f fd F => ok_thrift T F
theorem kb_thrift {f : Addr} {fd : FuncData} (F : Fun K "thrift_order" "thrift_order" sThrift f fd) : KBn K fd ["strand"] 0 ["strand"] (fun us ws => us ++ ws) (fun vs zs => vs ++ zs) := by
  obtain ⟨oc, od, kV, doc, pm, an, cdv, ct, osl, rfl, lk, hcd⟩ := F.ex
  exact ⟨fun s us ws X l1 l2 => BindsTo.of_eq (match us, ws, l1, l2 with | [], [_], _, _ => rfl), fun r1 r2 => r1.append r2⟩
end
end Bm

namespace Bm
open PySem L2
/-! ### a row -/
def rowF (tk sl a b c d : Addr) : List (Str × V) := [("_kinds", .ref tk), ("_standing", .ref sl), ("_taken", .ref a), ("_marks", .ref b), ("_meetings", .ref c), ("_deeds", .ref d)]
theorem rF_k (tk sl a b c d : Addr) : (rowF tk sl a b c d).lookup ("_kinds" : Str) = some (.ref tk) := by rfl
theorem rF_s (tk sl a b c d : Addr) : (rowF tk sl a b c d).lookup ("_standing" : Str) = some (.ref sl) := by rfl
theorem rF_t (tk sl a b c d : Addr) : (rowF tk sl a b c d).lookup ("_taken" : Str) = some (.ref a) := by rfl
theorem rF_m (tk sl a b c d : Addr) : (rowF tk sl a b c d).lookup ("_marks" : Str) = some (.ref b) := by rfl
theorem rF_e (tk sl a b c d : Addr) : (rowF tk sl a b c d).lookup ("_meetings" : Str) = some (.ref c) := by rfl
theorem rF_d (tk sl a b c d : Addr) : (rowF tk sl a b c d).lookup ("_deeds" : Str) = some (.ref d) := by rfl
theorem rF_ps (tk sl sl' a b c d : Addr) : putF "_standing" (.ref sl') (rowF tk sl a b c d) = rowF tk sl' a b c d := by rfl
theorem rF_pk (tk tk' sl a b c d : Addr) : putF "_kinds" (.ref tk') (rowF tk sl a b c d) = rowF tk' sl a b c d := by rfl
theorem rF_all (tk sl a b c d : Addr) : putF "_deeds" (.ref d) (putF "_meetings" (.ref c) (putF "_marks" (.ref b) (putF "_taken" (.ref a) (putF "_standing" (.ref sl) (putF "_kinds" (.ref tk) []))))) = rowF tk sl a b c d := by rfl
section
variable {P : Program} {w : World} {K : PySem.W.Frag} {mg : Str → Option Value} {base : Heap} {CP CS CR : Addr}
/-- the addresses of a row: itself and its four growing lists -/
structure RowP where
  (p a b c d : Addr)
def RowP.all (R : RowP) : List Addr := [R.p, R.a, R.b, R.c, R.d]
/-- a Row of the kinds ks stands at R, the beads st of it stand; no list of it is longer than B -/
structure RowAt (K : PySem.W.Frag) (CR : Addr) (H : Hp) (R : RowP) (ks : List Int) (st : List Nat) (B : Nat) : Prop where
  ok : KOk ks
  ex : ∃ dx tk sl, H R.p = some (.ins CR dx (rowF tk sl R.a R.b R.c R.d)) ∧ SqT K H tk (iV ks) ∧ H sl = some (.lst (nV st)) ∧ sl ≠ R.a ∧ sl ≠ R.b ∧ sl ≠ R.c ∧ sl ≠ R.d
  la : ∃ xs, H R.a = some (.lst xs) ∧ xs.length ≤ B
  lb : ∃ xs, H R.b = some (.lst xs) ∧ xs.length ≤ B
  lc : ∃ xs, H R.c = some (.lst xs) ∧ xs.length ≤ B
  ld : ∃ xs, H R.d = some (.lst xs) ∧ xs.length ≤ B
  n1 : R.a ≠ R.b ∧ R.a ≠ R.c ∧ R.a ≠ R.d
  n2 : R.b ≠ R.c ∧ R.b ≠ R.d ∧ R.c ≠ R.d
  lt : ∀ x ∈ st, x < ks.length
  sz : st.length ≤ ks.length
theorem RowAt.same {H H' : Hp} {R : RowP} {ks : List Int} {st : List Nat} {B : Nat} (h : RowAt K CR H R ks st B) (s : Same H H') : RowAt K CR H' R ks st B := by
  obtain ⟨ok, ⟨dx, tk, sl, e1, e2, e3, e4⟩, ⟨xa, a1, a2⟩, ⟨xb, b1, b2⟩, ⟨xc, c1, c2⟩, ⟨xd, d1, d2⟩, n1, n2, lt, sz⟩ := h
  exact ⟨ok, ⟨dx, tk, sl, s _ _ e1, sT s e2, s _ _ e3, e4⟩, ⟨xa, s _ _ a1, a2⟩, ⟨xb, s _ _ b1, b2⟩, ⟨xc, s _ _ c1, c2⟩, ⟨xd, s _ _ d1, d2⟩, n1, n2, lt, sz⟩
/-- a new object at q, then a new state of the object at p -/
theorem two {H : Hp} {p q : Addr} {o o1 o2 : HO} (hp : H p = some o) (nq : H q = none) : (∀ x y, H x = some y → x ≠ p → (upd (upd H q o1) p o2) x = some y) ∧ (upd (upd H q o1) p o2) q = some o1 ∧ (upd (upd H q o1) p o2) p = some o2 := by
  have n : q ≠ p := (ne_of_none hp nq).symm
  exact ⟨fun x y e nx => by rw [upd_ne nx, upd_ne (ne_of_none e nq)]; exact e, by rw [upd_ne n, upd_same], upd_same⟩
/-! ### Row.__init__ -/
def spRoI (K : PySem.W.Frag) (CS CR : Addr) : Sp := fun vs H Q _ => ∃ (p dx st : Addr) (ks : List Int), vs = [.ref p, .ref st] ∧ H p = some (.ins CR dx []) ∧ StAt K CS H st ks ∧
  ∀ (H' : Hp) (R : RowP), R.p = p → H R.a = none → H R.b = none → H R.c = none → H R.d = none → RowAt K CR H' R ks (List.range ks.length) 24 → (∀ b o, H b = some o → b ≠ p → H' b = some o) → Q .non H'
theorem scRoI : FnScope ["self", "strand", "bead"] ["self", "strand"] (defScope sRoI) := ⟨rfl, rfl, rfl, by decide +kernel, rfl, by decide +kernel, by decide +kernel⟩
theorem ok_roi (T : Txt K mg CP CS CR) {f : Addr} {fd : FuncData} (F : Fun K "__init__" "Row.__init__" sRoI f fd) : FnOk P w K mg base CX0 1 f fd ["self", "strand"] (spRoI K CS CR) := by
  refine F.ok scRoI (fun vs H Q E h => ?_) (fun cdv A outer s H vs Q E hr h => ?_)
  · obtain ⟨p, dx, st, ks, rfl, _⟩ := h
    rfl
  · obtain ⟨p, dx, st, ks, rfl, hp, hS, k⟩ := h
    have lo := hS.1.lo
    have hi := hS.1.hi
    refine ⟨_, pss_cons (ps_fld (pv 0) (pe_fld (pv 1) rfl) rfl)
      (pss_cons (ps_fld (pv 0) (pe_listRg (by rfl) (by rfl) (T.b "list") (prg_1 (by rfl) (T.b "range") (pe_fld (pv 1) rfl))) rfl)
      (pss_cons (ps_fld (pv 0) (pe_lst pa_nil) rfl)
      (pss_cons (ps_fld (pv 0) (pe_lst pa_nil) rfl)
      (pss_cons (ps_fld (pv 0) (pe_lc (own := [("bead", 2)]) (g := gName 2) (by rfl) scRoI.nd (pi_range1 (by rfl) (T.b "range") (pa_cons (pe_op op_sub (pe_fld (pv 1) rfl) pe_int) pa_nil))
          (blkOk_by (own := [("bead", 2)]) (N := ["self", "strand", "bead"]) (sc := defScope sRoI) (by decide +kernel)) (fun _ _ _ _ _ => pg_name (i := 2) scRoI.nd rfl (Or.inl rfl)) (fun _ _ _ _ _ => pts_nil)
          (fun _ _ _ _ _ => pe_tup (pa_cons (pv 2) (pa_cons (pe_op op_add (pv 2) pe_int) pa_nil)))) rfl)
      (pss_one (ps_fld (pv 0) (pe_lst pa_nil) rfl)))))), ?_⟩
    -- the strand is kept by its own facts: what is not the row itself stays
    have keepS : ∀ {H1 H2 : Hp}, StAt K CS H1 st ks → (∀ b o, H1 b = some o → b ≠ p → H2 b = some o) → st ≠ p → (∀ o, H1 p = some o → ∀ l, o ≠ .tup l) → (∀ o, H1 p = some o → ∀ z l, o ≠ .frz z l) → StAt K CS H2 st ks := by
      intro H1 H2 h keep nst np nf
      obtain ⟨ok, dx1, fs, t, q1, q2, q3, q4⟩ := h
      refine ⟨ok, dx1, fs, t, keep _ _ q1 nst, q2, ?_, q4⟩
      rcases q3 with (q3 | ⟨o, q3⟩) | q3
      · exact .inl (.inl (keep _ _ q3 fun e => np _ (e ▸ q3) _ rfl))
      · exact .inl (.inr ⟨o, keep _ _ q3 fun e => nf _ (e ▸ q3) _ _ rfl⟩)
      · exact .inr q3
    have nsp : st ≠ p := by
      obtain ⟨ok, dx1, fs, t, q1, q2, q3, q4⟩ := hS
      intro e
      rw [e, hp] at q1
      injection q1 with q1
      injection q1 with _ _ q1
      rw [← q1] at q2
      cases q2
    have ins : ∀ {fs : List (Str × V)} (o : HO), some (HO.ins CR dx fs) = some o → ∀ l, o ≠ .tup l := fun o e l z => by
      injection e with e
      rw [z] at e
      cases e
    have ins2 : ∀ {fs : List (Str × V)} (o : HO), some (HO.ins CR dx fs) = some o → ∀ z l, o ≠ .frz z l := fun o e y l z => by
      injection e with e
      rw [z] at e
      cases e
    obtain ⟨ok, dx1, fs, t, q1, q2, q3, q4⟩ := id hS
    -- _kinds
    refine ⟨_, rfl, st, CS, dx1, fs, _, rfl, q1, T.sCl, T.s _, q2, _, rfl, p, CR, dx, _, rfl, hp, T.rCl, T.r _, by decide, ?_⟩
    have k1 : ∀ b o, H b = some o → b ≠ p → (upd H p (.ins CR dx (putF "_kinds" (.ref t) []))) b = some o := fun b o e n => by rw [upd_ne n]; exact e
    have S1 := keepS hS k1 nsp (fun o e => ins o (hp ▸ e)) (fun o e => ins2 o (hp ▸ e))
    have t1 : SqT K (upd H p (.ins CR dx (putF "_kinds" (.ref t) []))) t (iV ks) := sT_ins q3 hp
    generalize hH1 : upd H p (.ins CR dx (putF "_kinds" (.ref t) [])) = H1 at k1 S1 t1
    have p1 : H1 p = some (.ins CR dx (putF "_kinds" (.ref t) [])) := by rw [← hH1, upd_same]
    obtain ⟨_, dx2, fs2, t2, r1, r2, r3, r4⟩ := id S1
    -- _standing
    refine ⟨_, rfl, st, CS, dx2, fs2, _, rfl, r1, T.sCl, T.s _, r4, ks.length, rfl, RgOk.of_le (by omega) (by omega) (by omega) (by omega), fun sl nsl => ?_⟩
    rw [rg_nV]
    have s2 := same_upd (o := .lst (nV (List.range ks.length))) nsl
    refine ⟨_, rfl, p, CR, dx, _, rfl, s2 _ _ p1, T.rCl, T.r _, by show 1 < 1000; decide, ?_⟩
    have nslp : sl ≠ p := (ne_of_none p1 nsl).symm
    generalize hH2 : upd (upd H1 sl (.lst (nV (List.range ks.length)))) p (.ins CR dx (putF "_standing" (.ref sl) (putF "_kinds" (.ref t) []))) = H2
    obtain ⟨c2, l2, p2⟩ := two (o1 := .lst (nV (List.range ks.length))) (o2 := .ins CR dx (putF "_standing" (.ref sl) (putF "_kinds" (.ref t) []))) p1 nsl
    rw [hH2] at c2 l2 p2
    have k2 : ∀ b o, H b = some o → b ≠ p → H2 b = some o := fun b o e n => c2 _ _ (k1 _ _ e n) n
    have t2' : SqT K H2 t (iV ks) := by rw [← hH2]; exact sT_ins (sT s2 t1) (s2 _ _ p1)
    have S2 := keepS hS k2 nsp (fun o e => ins o (hp ▸ e)) (fun o e => ins2 o (hp ▸ e))
    -- _taken
    refine ⟨Nat.zero_le _, fun a na => ⟨_, rfl, p, CR, dx, _, rfl, same_upd na _ _ p2, T.rCl, T.r _, by show 2 < 1000; decide, ?_⟩⟩
    generalize hH3 : upd (upd H2 a (.lst [])) p (.ins CR dx _) = H3
    obtain ⟨c3, la, p3⟩ := two (o1 := .lst []) (o2 := .ins CR dx (putF "_taken" (.ref a) (putF "_standing" (.ref sl) (putF "_kinds" (.ref t) [])))) p2 na
    rw [hH3] at c3 la p3
    have l3 := c3 _ _ l2 (ne_of l2 p2 (fun z => by cases z))
    have t3' : SqT K H3 t (iV ks) := by rw [← hH3]; exact sT_ins (sT (same_upd na) t2') (same_upd na _ _ p2)
    -- _marks
    refine ⟨Nat.zero_le _, fun b nb => ⟨_, rfl, p, CR, dx, _, rfl, same_upd nb _ _ p3, T.rCl, T.r _, by show 3 < 1000; decide, ?_⟩⟩
    generalize hH4 : upd (upd H3 b (.lst [])) p (.ins CR dx _) = H4
    obtain ⟨c4, lb, p4⟩ := two (o1 := .lst []) (o2 := .ins CR dx (putF "_marks" (.ref b) (putF "_taken" (.ref a) (putF "_standing" (.ref sl) (putF "_kinds" (.ref t) []))))) p3 nb
    rw [hH4] at c4 lb p4
    have l4 := c4 _ _ l3 (ne_of l3 p3 (fun z => by cases z))
    have a4 := c4 _ _ la (ne_of la p3 (fun z => by cases z))
    have t4' : SqT K H4 t (iV ks) := by rw [← hH4]; exact sT_ins (sT (same_upd nb) t3') (same_upd nb _ _ p3)
    have k4 : ∀ x o, H x = some o → x ≠ p → H4 x = some o := fun x o e n => c4 _ _ (c3 _ _ (k2 _ _ e n) n) n
    have S4 := keepS hS k4 nsp (fun o e => ins o (hp ▸ e)) (fun o e => ins2 o (hp ▸ e))
    obtain ⟨_, dx5, fs5, t5, u1, u2, u3, u4⟩ := id S4
    -- _meetings
    refine ⟨_, rfl, st, CS, dx5, fs5, _, rfl, u1, T.sCl, T.s _, u4, _, _, rfl, rfl, _, rfl, by omega, by omega, fun c nc => ?_⟩
    refine lc_range (lo := 0) (n := ((ks.length : Int) - 1).toNat) (fun i H5 => Same H4 H5 ∧ ∃ acc : List V, H5 c = some (.lst acc) ∧ acc.length ≤ i) ⟨same_upd nc, [], upd_same, Nat.le_refl _⟩ (fun i H5 hi5 hW => ?_) (fun H5 hW => ?_)
    · obtain ⟨s5, acc, hc, hac⟩ := hW
      refine ⟨rfl, yesT ?_⟩
      refine ⟨_, rfl, _, rfl, _, _, rfl, rfl, by show 2 ≤ sizeLine; decide, fun q nq => ?_⟩
      have sq := same_upd (o := .tup [.int (0 + (i : Int)), .int (0 + (i : Int) + 1)]) nq
      refine ⟨acc, sq _ _ hc, small1000 (by omega), fun x o e => ?_, _, upd_same, by rw [List.length_append]; show acc.length + 1 ≤ i + 1; omega⟩
      rw [upd_ne (ne_of_none e nc)]
      exact sq _ _ (s5 _ _ e)
    · obtain ⟨s5, acc, hc, hac⟩ := hW
      have p5 := s5 _ _ p4
      have ncp : c ≠ p := (ne_of_none p4 nc).symm
      refine ⟨_, rfl, p, CR, dx, _, rfl, p5, T.rCl, T.r _, by show 4 < 1000; decide, ?_⟩
      generalize hH6 : upd H5 p (.ins CR dx _) = H6
      have c6 : ∀ x y, H4 x = some y → x ≠ p → H6 x = some y := fun x y e n => by
        rw [← hH6, upd_ne n]
        exact s5 _ _ e
      have lc6 : H6 c = some (.lst acc) := by rw [← hH6, upd_ne ncp]; exact hc
      have p6 : H6 p = some (.ins CR dx (putF "_meetings" (.ref c) (putF "_marks" (.ref b) (putF "_taken" (.ref a) (putF "_standing" (.ref sl) (putF "_kinds" (.ref t) [])))))) := by rw [← hH6, upd_same]
      have t6' : SqT K H6 t (iV ks) := by rw [← hH6]; exact sT_ins (sT s5 t4') p5
      -- _deeds
      refine ⟨Nat.zero_le _, fun d nd => ⟨_, rfl, p, CR, dx, _, rfl, same_upd nd _ _ p6, T.rCl, T.r _, by show 5 < 1000; decide, ?_⟩⟩
      generalize hH7 : upd (upd H6 d (.lst [])) p (.ins CR dx _) = H7
      obtain ⟨c7, ld, p7⟩ := two (o1 := .lst []) (o2 := .ins CR dx (putF "_deeds" (.ref d) (putF "_meetings" (.ref c) (putF "_marks" (.ref b) (putF "_taken" (.ref a) (putF "_standing" (.ref sl) (putF "_kinds" (.ref t) []))))))) p6 nd
      rw [hH7] at c7 ld p7
      rw [rF_all] at p7
      have t7' : SqT K H7 t (iV ks) := by rw [← hH7]; exact sT_ins (sT (same_upd nd) t6') (same_upd nd _ _ p6)
      have np : ∀ {x : Addr} {l : List V} {Hx : Hp} {g : List (Str × V)}, Hx x = some (.lst l) → Hx p = some (.ins CR dx g) → x ≠ p := fun {x l Hx g} e1 e2 => ne_of e1 e2 (fun z => by cases z)
      have l6 := c6 _ _ l4 (np l4 p4)
      have a6 := c6 _ _ a4 (np a4 p4)
      have b6 := c6 _ _ lb (np lb p4)
      have l7 := c7 _ _ l6 (np l6 p6)
      have a7 := c7 _ _ a6 (np a6 p6)
      have b7 := c7 _ _ b6 (np b6 p6)
      have lc7 := c7 _ _ lc6 (np lc6 p6)
      have kk : ∀ x o, H x = some o → x ≠ p → H7 x = some o := fun x o e n => c7 _ _ (c6 _ _ (k4 _ _ e n) n) n
      -- what is new was not there
      have fr : ∀ {x : Addr} {Hx : Hp}, Hx x = none → (∀ y o, H y = some o → y ≠ p → Hx y = some o) → x ≠ p → H x = none := fun {x Hx} e kx n => by
        cases q : H x with
        | none => rfl
        | some o => rw [kx x o q n] at e; cases e
      have nap : a ≠ p := (ne_of_none p2 na).symm
      have nbp : b ≠ p := (ne_of_none p3 nb).symm
      have ndp : d ≠ p := (ne_of_none p6 nd).symm
      refine k H7 ⟨p, a, b, c, d⟩ rfl (fr na k2 nap) (fr nb (fun y o e n => c3 _ _ (k2 _ _ e n) n) nbp) (fr nc k4 ncp) (fr nd (fun y o e n => c6 _ _ (k4 _ _ e n) n) ndp) ?_ kk
      refine ⟨ok, ⟨dx, t, sl, p7, t7', l7, ?_, ?_, ?_, ?_⟩, ⟨[], a7, Nat.zero_le _⟩, ⟨[], b7, Nat.zero_le _⟩, ⟨acc, lc7, by omega⟩, ⟨[], ld, Nat.zero_le _⟩, ⟨?_, ?_, ?_⟩, ⟨?_, ?_, ?_⟩, fun x hx => List.mem_range.mp hx, by rw [List.length_range]; exact Nat.le_refl _⟩
      · exact ne_of_none l2 na
      · exact ne_of_none l3 nb
      · exact ne_of_none l4 nc
      · exact ne_of_none l6 nd
      · exact ne_of_none la nb
      · exact ne_of_none a4 nc
      · exact ne_of_none a6 nd
      · exact ne_of_none lb nc
      · exact ne_of_none b6 nd
      · exact ne_of_none lc6 nd
theorem mak_ro (T : Txt K mg CP CS CR) : Mak P w K mg base 1 "Row" CR (spRoI K CS CR) [] := by
  obtain ⟨f, fd, M, F, b⟩ := T.rIn
  exact ⟨f, fd, _, [], M, ok_roi T F, T.rMg, b, .nil⟩
end
end Bm

namespace Bm
open PySem L2
section
variable {X : Cx} {k j : Nat} {C : Addr} {m : Str} {sp : Sp} {pos apos : Pos} {e o : Expr} {es : List Expr} {ta : TE} {t : TA}
theorem pm {pl : Sem Bool} (c : Met X.prog X.w X.K X.mg X.base k C m sp) (hr : Room j X.A) (hk : k ≤ j) (he : PE X o ta) (ha : PA X (e :: es) t)
    (h1 : starEach (e :: es) X.env = (false, eval e X.env) :: starEach es X.env := by rfl) (h2 : (backTo pos (starEach es X.env)).any (·.1) = false := by rfl)
    (h3 : eval (.Call (.Attribute o m apos) (e :: es) [] pos) X.env = (do
      let ov ← eval o X.env
      standAt apos.atName
      let (f, first) ← holding [ov] (getMethod ov m pl)
      callWith pos f first (backTo pos (starEach (e :: es) X.env)) (backToKw pos (keywordEach [] X.env))) := by rfl) :
    PE X (.Call (.Attribute o m apos) (e :: es) [] pos) (tMeth C m sp [] E0 ta t) := by
  obtain ⟨f, fd, ps, cl, me, F, b⟩ := c
  exact pe_meth (pl := pl) he cl me F (hr.mono hk) b .nil pass0 ha h1 h2 h3
end
theorem inV_nat {b : Nat} {st : List Nat} : inV (.int b) (nV st) = decide (b ∈ st) := by
  unfold inV
  rw [Bool.eq_iff_iff]
  simp only [List.any_eq_true, List.mem_map, decide_eq_true_eq]
  constructor
  · rintro ⟨x, ⟨i, hi, rfl⟩, e⟩
    have e2 : (i : Int) = (b : Int) := by simpa [eqV] using e
    have : i = b := by omega
    exact this ▸ hi
  · intro h
    exact ⟨_, ⟨b, h, rfl⟩, by simp [eqV]⟩
theorem flat_nV (st : List Nat) : (nV st).all flatV = true := by
  simp [nV, flatV]
theorem flat_iV (ns : List Int) : (iV ns).all flatV = true := by
  simp [iV, flatV]
section
variable {P : Program} {w : World} {K : PySem.W.Frag} {mg : Str → Option Value} {base : Heap} {CP CS CR : Addr}
/-! ### a row's lists grow -/
theorem sT_lst {H : Hp} {t q : Addr} {xs l l' : List V} (h : SqT K H t xs) (hq : H q = some (.lst l)) : SqT K (upd H q (.lst l')) t xs := by
  rcases h with (h | ⟨o, h⟩) | h
  · exact .inl (.inl (by rw [upd_ne (ne_of h hq (fun z => by cases z))]; exact h))
  · exact .inl (.inr ⟨o, by rw [upd_ne (ne_of h hq (fun z => by cases z))]; exact h⟩)
  · exact .inr h
theorem RowAt.app {H : Hp} {R : RowP} {ks : List Int} {st : List Nat} {B : Nat} {q : Addr} {xs : List V} (h : RowAt K CR H R ks st B) (hq : q = R.a ∨ q = R.b ∨ q = R.c ∨ q = R.d) (e : H q = some (.lst xs)) (v : V) (hx : xs.length ≤ B) :
    RowAt K CR (upd H q (.lst (xs ++ [v]))) R ks st (B + 1) := by
  obtain ⟨ok, ⟨dx, tk, sl, e1, e2, e3, e4, e5, e6, e7⟩, ⟨xa, a1, a2⟩, ⟨xb, b1, b2⟩, ⟨xc, c1, c2⟩, ⟨xd, d1, d2⟩, ⟨n1, n2, n3⟩, ⟨n4, n5, n6⟩, lt, sz⟩ := h
  have other : ∀ {r : Addr} {ys : List V}, H r = some (.lst ys) → ys.length ≤ B → ∃ zs, (upd H q (.lst (xs ++ [v]))) r = some (.lst zs) ∧ zs.length ≤ B + 1 := fun {r ys} er hl => by
    by_cases c : r = q
    · subst c
      exact ⟨_, upd_same, by rw [List.length_append]; show xs.length + 1 ≤ _; omega⟩
    · exact ⟨ys, by rw [upd_ne c]; exact er, by omega⟩
  have nsl : sl ≠ q := by rcases hq with rfl | rfl | rfl | rfl <;> assumption
  have np : R.p ≠ q := ne_of e1 e (fun z => by cases z)
  exact ⟨ok, ⟨dx, tk, sl, by rw [upd_ne np]; exact e1, sT_lst e2 e, by rw [upd_ne nsl]; exact e3, e4, e5, e6, e7⟩, other a1 a2, other b1 b2, other c1 c2, other d1 d2, ⟨n1, n2, n3⟩, ⟨n4, n5, n6⟩, lt, sz⟩
theorem app_frame {H : Hp} {R : RowP} {q : Addr} {o1 : HO} (hq : q = R.a ∨ q = R.b ∨ q = R.c ∨ q = R.d) : ∀ x o, H x = some o → x ∉ R.all → (upd H q o1) x = some o := fun x o e hx => by
  rw [upd_ne]
  · exact e
  · intro z
    apply hx
    unfold RowP.all
    rcases hq with rfl | rfl | rfl | rfl <;> simp [z]
/-! ### _check_standing, _check_inner, neighbours, mark -/
def spCs (K : PySem.W.Frag) (CR : Addr) : Sp := fun vs H Q _ => ∃ (R : RowP) (ks : List Int) (st : List Nat) (B b : Nat), vs = [.ref R.p, .int b] ∧ RowAt K CR H R ks st B ∧ b ∈ st ∧ Q .non H
theorem scCs : FnScope ["self", "bead"] ["self", "bead"] (defScope sRoCs) := ⟨rfl, rfl, rfl, by decide +kernel, rfl, by decide +kernel, by decide +kernel⟩
theorem c_cs (T : Txt K mg CP CS CR) : Met P w K mg base 1 CR "_check_standing" (spCs K CR) := met_of T.rCl T.mCs fun f fd F => by
  refine F.ok scCs (fun vs H Q E h => ?_) (fun cdv A outer s H vs Q E hr h => ?_)
  · obtain ⟨R, ks, st, B, b, rfl, _⟩ := h
    rfl
  · obtain ⟨R, ks, st, B, b, rfl, hR, hb, k⟩ := h
    obtain ⟨dx, tk, sl, e1, e2, e3, _⟩ := hR.ex
    have lt := hR.lt b hb
    refine ⟨_, pss_cons (ps_if (PW.pt (pw_or (pt_cmpR op_lt (pv 1) pe_int (nomark _)) (pw_or1 (pt_cmpR op_ge (pv 1) (pe_callB call_len_seq (by rfl) (T.b "len") PySem.boot_len (pa_cons (pe_fld (pv 0) rfl) pa_nil)) (nomark _))))) pss_never pss_nil)
      (pss_one (ps_if (pt_cmpR op_notIn_seq (pv 1) (pe_fld (pv 0) rfl) (by rfl)) pss_never pss_nil)), ?_⟩
    refine ⟨_, rfl, _, _, rfl, rfl, _, rfl, iteD (fun h => absurd h (by omega)) fun _ => ?_⟩
    refine ⟨_, rfl, _, rfl, R.p, CR, dx, _, _, rfl, e1, T.rCl, T.r _, rF_k .., tk, _, rfl, .inr e2, _, _, rfl, rfl, _, rfl, iteD (fun h => absurd h (by rw [List.length_map]; omega)) fun _ => ?_⟩
    refine ⟨_, rfl, _, rfl, R.p, CR, dx, _, _, rfl, e1, T.rCl, T.r _, rF_s .., sl, _, rfl, .inl (SqL.of e3), rfl, flat_nV _, _, rfl, ?_⟩
    rw [inV_nat, decide_eq_true hb]
    exact iteF k
def spCi (K : PySem.W.Frag) (CR : Addr) : Sp := fun vs H Q _ => ∃ (R : RowP) (ks : List Int) (st : List Nat) (B b : Nat), vs = [.ref R.p, .int b] ∧ RowAt K CR H R ks st B ∧ b ∈ st ∧ b ≠ 0 ∧ b + 1 ≠ ks.length ∧ Q .non H
theorem scCi : FnScope ["self", "bead"] ["self", "bead"] (defScope sRoCi) := ⟨rfl, rfl, rfl, by decide +kernel, rfl, by decide +kernel, by decide +kernel⟩
theorem c_ci (T : Txt K mg CP CS CR) : Met P w K mg base 2 CR "_check_inner" (spCi K CR) := met_of T.rCl T.mCi fun f fd F => by
  refine F.ok scCi (fun vs H Q E h => ?_) (fun cdv A outer s H vs Q E hr h => ?_)
  · obtain ⟨R, ks, st, B, b, rfl, _⟩ := h
    rfl
  · obtain ⟨R, ks, st, B, b, rfl, hR, hb, n0, n1, k⟩ := h
    obtain ⟨dx, tk, sl, e1, e2, e3, _⟩ := hR.ex
    refine ⟨_, pss_cons (ps_expr (pm (c_cs T) hr (by decide) (pv 0) (pa_cons (pv 1) pa_nil)))
      (pss_one (ps_if (PW.pt (pw_or (pt_cmpR op_eq (pv 1) pe_int (nomark _)) (pw_or1 (pt_cmpR op_eq (pv 1) (pe_op op_sub (pe_callB call_len_seq (by rfl) (T.b "len") PySem.boot_len (pa_cons (pe_fld (pv 0) rfl) pa_nil)) pe_int) (nomark _))))) pss_never pss_nil)), ?_⟩
    refine ⟨_, rfl, R.p, dx, _, rfl, e1, rfl, _, rfl, R, ks, st, B, b, rfl, hR, hb, ?_⟩
    refine ⟨_, rfl, rfl, _, rfl, iteQ (fun h => absurd h (by omega)) fun _ => ?_⟩
    exact ⟨_, rfl, _, rfl, R.p, CR, dx, _, _, rfl, e1, T.rCl, T.r _, rF_k .., tk, _, rfl, .inr e2, _, _, rfl, rfl, rfl, _, rfl, iteQ (fun h => absurd h (by rw [List.length_map]; omega)) fun _ => k⟩
/-- bead b stands at place a and is no end -/
structure In (ks : List Int) (st : List Nat) (a b : Nat) : Prop where
  nd : st.Nodup
  at_ : st[a]? = some b
  lo : 1 ≤ a
  hi : a + 1 < st.length
  n0 : b ≠ 0
  n1 : b + 1 ≠ ks.length
theorem In.mem {ks : List Int} {st : List Nat} {a b : Nat} (h : In ks st a b) : b ∈ st := List.mem_of_getElem? h.at_
theorem get_D {st : List Nat} {i : Nat} (h : i < st.length) : st[i]? = some (st.getD i 0) := by
  rw [List.getD_eq_getElem?_getD, List.getElem?_eq_getElem h]
  rfl
theorem nV_at {st : List Nat} {i : Nat} (h : i < st.length) : atI (nV st) (i : Int) = some (.int (st.getD i 0 : Nat)) := atI_nat (nV_get (get_D h))
def spNb (K : PySem.W.Frag) (CR : Addr) : Sp := fun vs H Q _ => ∃ (R : RowP) (ks : List Int) (st : List Nat) (B a b : Nat), vs = [.ref R.p, .int b] ∧ RowAt K CR H R ks st B ∧ In ks st a b ∧
  ∀ (H' : Hp) (t : Addr), Same H H' → H' t = some (.tup [.int (st.getD (a - 1) 0 : Nat), .int (st.getD (a + 1) 0 : Nat)]) → Q (.ref t) H'
theorem scNb : FnScope ["self", "bead", "at", "left", "right"] ["self", "bead"] (defScope sRoNb) := ⟨rfl, rfl, rfl, by decide +kernel, rfl, by decide +kernel, by decide +kernel⟩
theorem ix_first {ks : List Int} {st : List Nat} {a b : Nat} (h : In ks st a b) : ∀ (m : Nat) (z' : V), m < a → (nV st)[m]? = some z' → eqV z' (.int b) = false := fun m z' hm hz => by
  have hl : m < st.length := by have := h.hi; omega
  rw [nV_get (List.getElem?_eq_getElem hl)] at hz
  have e : V.int (st[m] : Nat) = z' := Option.some.inj hz
  rw [← e]
  show ((st[m] : Int) == (b : Int)) = false
  refine beq_eq_false_iff_ne.mpr fun z => ?_
  have e2 : st[m] = b := by omega
  have e3 : st[m]? = some b := by rw [List.getElem?_eq_getElem hl, e2]
  have := idx_of h.nd e3
  have := idx_of h.nd h.at_
  omega
theorem c_nb (T : Txt K mg CP CS CR) : Met P w K mg base 2 CR "neighbours" (spNb K CR) := met_of T.rCl T.mNb fun f fd F => by
  refine F.ok scNb (fun vs H Q E h => ?_) (fun cdv A outer s H vs Q E hr h => ?_)
  · obtain ⟨R, ks, st, B, a, b, rfl, _⟩ := h
    rfl
  · obtain ⟨R, ks, st, B, a, b, rfl, hR, hI, k⟩ := h
    obtain ⟨dx, tk, sl, e1, e2, e3, _⟩ := hR.ex
    have l1 := hI.lo
    have l2 := hI.hi
    refine ⟨_, pss_cons (ps_expr (pm (c_cs T) hr (by decide) (pv 0) (pa_cons (pv 1) pa_nil)))
      (pss_cons (ps_set (i := 2) scNb.nd rfl (.inl rfl) (pe_bm PySem.F.plainAttrs_list PySem.F.slot_list_index PySem.F.type_list_index mt_index (pe_fld (pv 0) rfl) (pa_cons (pv 1) pa_nil)))
      (pss_cons (ps_set (i := 3) scNb.nd rfl (.inl rfl) pe_non)
      (pss_cons (ps_set (i := 4) scNb.nd rfl (.inl rfl) pe_non)
      (pss_cons (ps_if (pt_cmpR op_gt (pv 2) pe_int (nomark _)) (pss_one (ps_set (i := 3) scNb.nd rfl (.inl rfl) (pe_ix ix_list (pe_fld (pv 0) rfl) (pe_op op_sub (pv 2) pe_int) (fun _ _ => rfl)))) pss_nil)
      (pss_cons (ps_if (pt_cmpR op_lt (pe_op op_add (pv 2) pe_int) (pe_callB call_len_seq (by rfl) (T.b "len") PySem.boot_len (pa_cons (pe_fld (pv 0) rfl) pa_nil)) (nomark _)) (pss_one (ps_set (i := 4) scNb.nd rfl (.inl rfl) (pe_ix ix_list (pe_fld (pv 0) rfl) (pe_op op_add (pv 2) pe_int) (fun _ _ => rfl)))) pss_nil)
      (pss_one (ps_ret (pe_tup (pa_cons (pv 3) (pa_cons (pv 4) pa_nil)))))))))), ?_⟩
    refine ⟨_, rfl, R.p, dx, _, rfl, e1, rfl, _, rfl, R, ks, st, B, b, rfl, hR, hI.mem, ?_⟩
    refine ⟨_, rfl, R.p, CR, dx, _, _, rfl, e1, T.rCl, T.r _, rF_s .., .inl ⟨rfl, _, SqL.of e3⟩, _, rfl, sl, _, _, a, _, rfl, rfl, SqL.of e3, rfl, flat_nV _, nV_get hI.at_, by simp [eqV], ix_first hI, ?_⟩
    refine ⟨_, rfl, _, _, rfl, rfl, _, rfl, iteD (fun _ => ?_) fun h => absurd (show (0 : Int) < a by omega) h⟩
    have z1 : (a : Int) - 1 = ((a - 1 : Nat) : Int) := by omega
    have z2 : (a : Int) + 1 = ((a + 1 : Nat) : Int) := by omega
    refine ⟨_, rfl, R.p, CR, dx, _, _, rfl, e1, T.rCl, T.r _, rF_s .., _, rfl, _, _, rfl, rfl, sl, _, _, _, rfl, rfl, SqL.of e3, by rw [z1]; exact nV_at (by omega), ?_⟩
    refine ⟨_, rfl, _, _, rfl, rfl, _, rfl, R.p, CR, dx, _, _, rfl, e1, T.rCl, T.r _, rF_s .., sl, _, rfl, .inl (SqL.of e3), _, _, rfl, rfl, _, rfl, iteD (fun _ => ?_) fun h => absurd (show (a : Int) + 1 < (nV st).length by rw [List.length_map]; omega) h⟩
    refine ⟨_, rfl, R.p, CR, dx, _, _, rfl, e1, T.rCl, T.r _, rF_s .., _, rfl, _, _, rfl, rfl, sl, _, _, _, rfl, rfl, SqL.of e3, by rw [z2]; exact nV_at (by omega), ?_⟩
    exact ⟨_, rfl, _, rfl, by show 2 ≤ sizeLine; decide, fun t nt => k _ t (same_upd nt) upd_same⟩
def spMk (K : PySem.W.Frag) (CR : Addr) : Sp := fun vs H Q _ => ∃ (R : RowP) (ks : List Int) (st : List Nat) (B a b : Nat), vs = [.ref R.p, .int b] ∧ RowAt K CR H R ks st B ∧ In ks st a b ∧ ∀ (H' : Hp) (m : Str), Same H H' → Q (.str m) H'
theorem scMk : FnScope ["self", "bead", "left", "right"] ["self", "bead"] (defScope sRoMk) := ⟨rfl, rfl, rfl, by decide +kernel, rfl, by decide +kernel, by decide +kernel⟩
theorem c_mk (T : Txt K mg CP CS CR) : Met P w K mg base 3 CR "mark" (spMk K CR) := met_of T.rCl T.mMk fun f fd F => by
  refine F.ok scMk (fun vs H Q E h => ?_) (fun cdv A outer s H vs Q E hr h => ?_)
  · obtain ⟨R, ks, st, B, a, b, rfl, _⟩ := h
    rfl
  · obtain ⟨R, ks, st, B, a, b, rfl, hR, hI, k⟩ := h
    obtain ⟨dx, tk, sl, e1, e2, e3, _⟩ := hR.ex
    have l1 := hI.lo
    have l2 := hI.hi
    refine ⟨_, pss_cons (ps_expr (pm (c_ci T) hr (by decide) (pv 0) (pa_cons (pv 1) pa_nil)))
      (pss_cons (ps_asg (pm (c_nb T) hr (by decide) (pv 0) (pa_cons (pv 1) pa_nil)) (pg_tup rfl (pgs_cons (pg_name (i := 2) scMk.nd rfl (.inl rfl)) (pgs_cons (pg_name (i := 3) scMk.nd rfl (.inl rfl)) pgs_nil))))
      (pss_one (ps_ret (pc (c_mark T) hr (by decide) (by rfl) (pa_cons (pe_ix ix_tup (pe_fld (pv 0) rfl) (pv 2) (fun _ _ => rfl)) (pa_cons (pe_ix ix_tup (pe_fld (pv 0) rfl) (pv 1) (fun _ _ => rfl)) (pa_cons (pe_ix ix_tup (pe_fld (pv 0) rfl) (pv 3) (fun _ _ => rfl)) pa_nil))))))), ?_⟩
    refine ⟨_, rfl, R.p, dx, _, rfl, e1, rfl, _, rfl, R, ks, st, B, b, rfl, hR, hI.mem, hI.n0, hI.n1, ?_⟩
    refine ⟨_, rfl, R.p, dx, _, rfl, e1, rfl, _, rfl, R, ks, st, B, a, b, rfl, hR, hI, fun H1 t s1 ht => ?_⟩
    refine ⟨t, _, rfl, SqT.of ht, rfl, _, _, rfl, _, _, rfl, rfl, ?_⟩
    have e11 := s1 _ _ e1
    have e21 := sT s1 e2
    have lt1 : st.getD (a - 1) 0 < ks.length := hR.lt _ (List.mem_of_getElem? (get_D (st := st) (i := a - 1) (by omega)))
    have lt2 : st.getD (a + 1) 0 < ks.length := hR.lt _ (List.mem_of_getElem? (get_D (st := st) (i := a + 1) (by omega)))
    have lt3 := hR.lt _ hI.mem
    refine ⟨_, rfl, R.p, CR, dx, _, _, rfl, e11, T.rCl, T.r _, rF_k .., _, rfl, tk, _, _, _, rfl, rfl, e21, atI_nat (at_ks lt1), ?_⟩
    refine ⟨_, rfl, R.p, CR, dx, _, _, rfl, e11, T.rCl, T.r _, rF_k .., _, rfl, tk, _, _, _, rfl, rfl, e21, atI_nat (at_ks lt3), ?_⟩
    refine ⟨_, rfl, R.p, CR, dx, _, _, rfl, e11, T.rCl, T.r _, rF_k .., _, rfl, tk, _, _, _, rfl, rfl, e21, atI_nat (at_ks lt2), ?_⟩
    exact ⟨_, _, _, rfl, k _ _ s1⟩
end
end Bm

namespace Bm
open PySem L2
section
variable {P : Program} {w : World} {K : PySem.W.Frag} {mg : Str → Option Value} {base : Heap} {CP CS CR : Addr}
/-- what a change of a row leaves alone -/
def Away (R : RowP) (H H' : Hp) : Prop := ∀ x o, H x = some o → x ∉ R.all → H' x = some o
theorem Away.trans {R : RowP} {H H1 H2 : Hp} (a : Away R H H1) (b : Away R H1 H2) : Away R H H2 := fun x o e n => b x o (a x o e n) n
theorem Away.of {R : RowP} {H H' : Hp} (s : Same H H') : Away R H H' := fun x o e _ => s x o e
theorem Away.lst {R : RowP} {H : Hp} {q : Addr} {o : HO} (hq : q = R.a ∨ q = R.b ∨ q = R.c ∨ q = R.d) : Away R H (upd H q o) := app_frame hq
/-- another list of the standing beads -/
theorem RowAt.setS {H : Hp} {R : RowP} {ks : List Int} {st st' : List Nat} {B : Nat} {dx tk sl sl' : Addr} (h : RowAt K CR H R ks st B) (hp : H R.p = some (.ins CR dx (rowF tk sl R.a R.b R.c R.d))) (hk : SqT K H tk (iV ks)) (hs : H sl' = some (.lst (nV st')))
    (n : sl' ≠ R.a ∧ sl' ≠ R.b ∧ sl' ≠ R.c ∧ sl' ≠ R.d) (lt : ∀ x ∈ st', x < ks.length) (sz : st'.length ≤ ks.length) : RowAt K CR (upd H R.p (.ins CR dx (rowF tk sl' R.a R.b R.c R.d))) R ks st' B := by
  obtain ⟨ok, _, ⟨xa, a1, a2⟩, ⟨xb, b1, b2⟩, ⟨xc, c1, c2⟩, ⟨xd, d1, d2⟩, n1, n2, _, _⟩ := h
  have np : ∀ {q : Addr} {l : List V}, H q = some (.lst l) → (upd H R.p (.ins CR dx (rowF tk sl' R.a R.b R.c R.d))) q = some (.lst l) := fun {q l} e => by
    rw [upd_ne (ne_of e hp (fun z => by cases z))]
    exact e
  exact ⟨ok, ⟨dx, tk, sl', upd_same, sT_ins hk hp, np hs, n⟩, ⟨xa, np a1, a2⟩, ⟨xb, np b1, b2⟩, ⟨xc, np c1, c2⟩, ⟨xd, np d1, d2⟩, n1, n2, lt, sz⟩
/-! ### _take_out, take -/
def spTo (K : PySem.W.Frag) (CR : Addr) (i : Nat) : Sp := fun vs H Q _ => ∃ (R : RowP) (ks : List Int) (st : List Nat) (B a b : Nat), vs = [.ref R.p, .int b] ∧ RowAt K CR H R ks st B ∧ B ≤ 900 ∧ In ks st a b ∧
  ∀ (H' : Hp) (m : Str), RowAt K CR H' R ks (st.eraseIdx a) (B + i) → Away R H H' → Q (.str m) H'
theorem scTo : FnScope ["self", "bead", "mark", "other"] ["self", "bead"] (defScope sRoTo) := ⟨rfl, rfl, rfl, by decide +kernel, rfl, by decide +kernel, by decide +kernel⟩
theorem c_to (T : Txt K mg CP CS CR) : Met P w K mg base 4 CR "_take_out" (spTo K CR 3) := met_of T.rCl T.mTo fun f fd F => by
  refine F.ok scTo (fun vs H Q E h => ?_) (fun cdv A outer s H vs Q E hr h => ?_)
  · obtain ⟨R, ks, st, B, a, b, rfl, _⟩ := h
    rfl
  · obtain ⟨R, ks, st, B, a, b, rfl, hR, hB, hI, k⟩ := h
    refine ⟨_, pss_cons (ps_set (i := 2) scTo.nd rfl (.inl rfl) (pm (c_mk T) hr (by decide) (pv 0) (pa_cons (pv 1) pa_nil)))
      (pss_cons (ps_expr (pe_bm PySem.F.plainAttrs_list PySem.F.slot_list_append PySem.F.type_list_append mt_append (pe_fld (pv 0) rfl) (pa_cons (pm (c_nb T) hr (by decide) (pv 0) (pa_cons (pv 1) pa_nil)) pa_nil)))
      (pss_cons (ps_expr (pe_bm PySem.F.plainAttrs_list PySem.F.slot_list_append PySem.F.type_list_append mt_append (pe_fld (pv 0) rfl) (pa_cons (pv 2) pa_nil)))
      (pss_cons (ps_expr (pe_bm PySem.F.plainAttrs_list PySem.F.slot_list_append PySem.F.type_list_append mt_append (pe_fld (pv 0) rfl) (pa_cons (pv 1) pa_nil)))
      (pss_cons (ps_fld (pv 0) (pe_lc (own := [("other", 3)]) (g := gName 3) (by rfl) scTo.nd (pi_list (pe_fld (pv 0) rfl)) (blkOk_by (own := [("other", 3)]) (N := ["self", "bead", "mark", "other"]) (sc := defScope sRoTo) (by decide +kernel))
        (fun _ _ _ _ _ => pg_name (i := 3) scTo.nd rfl (Or.inl rfl)) (fun _ _ _ _ _ => pts_one (pt_cmpR op_ne (pv 3) (pv 1) (nomark _))) (fun _ _ _ _ _ => pv 3)) rfl)
      (pss_one (ps_ret (pv 2))))))), ?_⟩
    obtain ⟨dx0, tk0, sl0, e0, _⟩ := id hR.ex
    -- mark
    refine ⟨_, rfl, R.p, dx0, _, rfl, e0, rfl, _, rfl, R, ks, st, B, a, b, rfl, hR, hI, fun H1 m s1 => ?_⟩
    have hR1 := hR.same s1
    obtain ⟨dx1, tk1, sl1, p1, _⟩ := id hR1.ex
    obtain ⟨xc, c1, c2⟩ := id hR1.lc
    -- meetings
    refine ⟨_, rfl, R.p, CR, dx1, _, _, rfl, p1, T.rCl, T.r _, rF_e .., .inl ⟨rfl, _, SqL.of c1⟩, _, rfl, R.p, dx1, _, rfl, p1, rfl, _, rfl, R, ks, st, B, a, b, rfl, hR1, hI, fun H2 t s2 ht => ?_⟩
    have hR2 := hR1.same s2
    have c12 := s2 _ _ c1
    refine ⟨R.c, xc, _, rfl, rfl, c12, small1000 (by omega), ?_⟩
    have hR3 := hR2.app (.inr (.inr (.inl rfl))) c12 (.ref t) c2
    have aw3 : Away R H (upd H2 R.c (.lst (xc ++ [.ref t]))) := (Away.of (s1.trans s2)).trans (Away.lst (.inr (.inr (.inl rfl))))
    generalize upd H2 R.c (.lst (xc ++ [.ref t])) = H3 at hR3 aw3
    obtain ⟨dx3, tk3, sl3, p3, _⟩ := id hR3.ex
    obtain ⟨xb, b1, b2⟩ := id hR3.lb
    -- marks
    refine ⟨_, rfl, R.p, CR, dx3, _, _, rfl, p3, T.rCl, T.r _, rF_m .., .inl ⟨rfl, _, SqL.of b1⟩, _, rfl, R.b, xb, _, rfl, rfl, b1, small1000 (by omega), ?_⟩
    have hR4 := hR3.app (.inr (.inl rfl)) b1 (.str m) b2
    have aw4 : Away R H (upd H3 R.b (.lst (xb ++ [.str m]))) := aw3.trans (Away.lst (.inr (.inl rfl)))
    generalize upd H3 R.b (.lst (xb ++ [.str m])) = H4 at hR4 aw4
    obtain ⟨dx4, tk4, sl4, p4, _⟩ := id hR4.ex
    obtain ⟨xa, a1, a2⟩ := id hR4.la
    -- taken
    refine ⟨_, rfl, R.p, CR, dx4, _, _, rfl, p4, T.rCl, T.r _, rF_t .., .inl ⟨rfl, _, SqL.of a1⟩, _, rfl, R.a, xa, _, rfl, rfl, a1, small1000 (by omega), ?_⟩
    have hR5 := hR4.app (.inl rfl) a1 (.int b) a2
    have aw5 : Away R H (upd H4 R.a (.lst (xa ++ [.int b]))) := aw4.trans (Away.lst (.inl rfl))
    generalize upd H4 R.a (.lst (xa ++ [.int b])) = H5 at hR5 aw5
    obtain ⟨dx5, tk5, sl5, p5, k5, l5, n5⟩ := id hR5.ex
    -- standing
    refine ⟨_, rfl, R.p, CR, dx5, _, _, rfl, p5, T.rCl, T.r _, rF_s .., sl5, rfl, ⟨_, SqL.of l5⟩, fun D nD => ?_⟩
    refine lc_list (K := K) (a := sl5) (xs := nV st) (fun i H6 => Same H5 H6 ∧ H6 D = some (.lst (nV ((st.take i).filter fun x => x != b)))) ⟨same_upd nD, upd_same⟩ (fun i H6 _ hW => SqL.of (hW.1 _ _ l5)) (fun i x H6 hx hW => ?_) (fun H6 hW => ?_)
    · obtain ⟨s6, hD⟩ := hW
      rw [List.getElem?_map] at hx
      obtain ⟨y, hy, rfl⟩ := Option.map_eq_some_iff.mp hx
      have hlen : st.length ≤ 1000 := by
        have := hR.sz
        have := hR.ok.hi
        omega
      refine ⟨rfl, _, rfl, _, rfl, rfl, _, rfl, iteN (fun ne => ?_) fun e => ⟨s6, ?_⟩⟩
      · refine ⟨_, rfl, _, hD, ?_, fun c o e => ?_, ?_⟩
        · rw [List.length_map]
          refine small1000 (Nat.le_trans (List.length_filter_le _ _) ?_)
          rw [List.length_take]
          omega
        · rw [upd_ne (ne_of_none e nD)]
          exact s6 _ _ e
        · rw [upd_same, List.take_succ, hy, List.filter_append]
          have : y ≠ b := fun z => ne (by rw [z])
          have ef : List.filter (fun x => x != b) [y] = [y] := by simp [this]
          show _ = some (HO.lst (nV (List.filter (fun x => x != b) (List.take i st) ++ List.filter (fun x => x != b) [y])))
          rw [ef]
          simp only [nV, List.map_append, List.map_cons, List.map_nil]
      · rw [hD, List.take_succ, hy, List.filter_append]
        have : y = b := by omega
        have ef : List.filter (fun x => x != b) [y] = [] := by simp [this]
        show _ = some (HO.lst (nV (List.filter (fun x => x != b) (List.take i st) ++ List.filter (fun x => x != b) [y])))
        rw [ef, List.append_nil]
    · obtain ⟨s6, hD⟩ := hW
      rw [List.length_map, List.take_length, ← erase_filter hI.nd hI.at_] at hD
      have p6 := s6 _ _ p5
      refine ⟨_, rfl, R.p, CR, dx5, _, rfl, p6, T.rCl, T.r _, by show 6 < 1000; decide, ?_⟩
      rw [rF_ps]
      have hR6 := hR5.same s6
      obtain ⟨⟨xa', fa, _⟩, ⟨xb', fb, _⟩, ⟨xc', fc, _⟩, ⟨xd', fd', _⟩⟩ := And.intro hR5.la (And.intro hR5.lb (And.intro hR5.lc hR5.ld))
      have nn : D ≠ R.a ∧ D ≠ R.b ∧ D ≠ R.c ∧ D ≠ R.d := ⟨(ne_of_none fa nD).symm, (ne_of_none fb nD).symm, (ne_of_none fc nD).symm, (ne_of_none fd' nD).symm⟩
      have hR7 := hR6.setS (sl' := D) (st' := st.eraseIdx a) p6 (sT s6 k5) hD nn (fun x hx => hR.lt x (List.mem_of_mem_eraseIdx hx)) (Nat.le_trans (List.length_eraseIdx_le ..) hR.sz)
      refine ⟨_, rfl, k _ m hR7 ?_⟩
      refine (aw5.trans (Away.of s6)).trans fun x o e hx => ?_
      rw [upd_ne]
      · exact e
      · intro z
        exact hx (by rw [z]; unfold RowP.all; simp)
theorem scTk : FnScope ["self", "bead", "mark"] ["self", "bead"] (defScope sRoTk) := ⟨rfl, rfl, rfl, by decide +kernel, rfl, by decide +kernel, by decide +kernel⟩
theorem c_tk (T : Txt K mg CP CS CR) : Met P w K mg base 5 CR "take" (spTo K CR 4) := met_of T.rCl T.mTk fun f fd F => by
  refine F.ok scTk (fun vs H Q E h => ?_) (fun cdv A outer s H vs Q E hr h => ?_)
  · obtain ⟨R, ks, st, B, a, b, rfl, _⟩ := h
    rfl
  · obtain ⟨R, ks, st, B, a, b, rfl, hR, hB, hI, k⟩ := h
    refine ⟨_, pss_cons (ps_set (i := 2) scTk.nd rfl (.inl rfl) (pm (c_to T) hr (by decide) (pv 0) (pa_cons (pv 1) pa_nil)))
      (pss_cons (ps_expr (pe_bm PySem.F.plainAttrs_list PySem.F.slot_list_append PySem.F.type_list_append mt_append (pe_fld (pv 0) rfl) (pa_cons (pe_tup (pa_cons pe_str (pa_cons (pv 1) pa_nil))) pa_nil)))
      (pss_one (ps_ret (pv 2)))), ?_⟩
    obtain ⟨dx0, tk0, sl0, e0, _⟩ := id hR.ex
    refine ⟨_, rfl, R.p, dx0, _, rfl, e0, rfl, _, rfl, R, ks, st, B, a, b, rfl, hR, hB, hI, fun H1 m hR1 aw => ?_⟩
    obtain ⟨dx1, tk1, sl1, p1, _⟩ := id hR1.ex
    obtain ⟨xd, d1, d2⟩ := id hR1.ld
    refine ⟨_, rfl, R.p, CR, dx1, _, _, rfl, p1, T.rCl, T.r _, rF_d .., .inl ⟨rfl, _, SqL.of d1⟩, _, rfl, by show 2 ≤ sizeLine; decide, fun t nt => ?_⟩
    have s2 := same_upd (o := .tup [.str "take", .int b]) nt
    refine ⟨R.d, xd, _, rfl, rfl, s2 _ _ d1, small1000 (by omega), ?_⟩
    have hR3 := (hR1.same s2).app (.inr (.inr (.inr rfl))) (s2 _ _ d1) (.ref t) d2
    exact ⟨_, rfl, k _ m hR3 ((aw.trans (Away.of s2)).trans (Away.lst (.inr (.inr (.inr rfl)))))⟩
end
end Bm

namespace Bm
open PySem L2
section
variable {X : Cx} {k j : Nat} {C : Addr} {m : Str} {sp : Sp} {pos apos : Pos} {o : Expr} {ta : TE}
theorem pm0 {pl : Sem Bool} (c : Met X.prog X.w X.K X.mg X.base k C m sp) (hr : Room j X.A) (hk : k ≤ j) (he : PE X o ta)
    (h3 : eval (.Call (.Attribute o m apos) [] [] pos) X.env = (do
      let ov ← eval o X.env
      standAt apos.atName
      let (f, first) ← holding [ov] (getMethod ov m pl)
      callWith pos f first (backTo pos (starEach [] X.env)) (backToKw pos (keywordEach [] X.env))) := by rfl) :
    PE X (.Call (.Attribute o m apos) [] [] pos) (tMeth C m sp [] E0 ta tNil) := by
  obtain ⟨f, fd, ps, cl, me, F, b⟩ := c
  exact pe_meth0 (pl := pl) he cl me F (hr.mono hk) b .nil pass0 h3
end
section
variable {P : Program} {w : World} {K : PySem.W.Frag} {mg : Str → Option Value} {base : Heap} {CP CS CR : Addr}
/-! ### grow -/
theorem KOk.snoc {ks : List Int} (ok : KOk ks) {kd : Int} (h1 : 0 ≤ kd ∧ kd ≤ 999) (h2 : ks.length < 24) : KOk (ks ++ [kd]) := by
  have := ok.lo
  refine ⟨by rw [List.length_append]; omega, by rw [List.length_append]; show ks.length + 1 ≤ 24; omega, fun k hk => ?_⟩
  rcases List.mem_append.mp hk with h | h
  · exact ok.rg k h
  · have : k = kd := by simpa using h
    rw [this]; exact h1
theorem RowAt.setK {H : Hp} {R : RowP} {ks : List Int} {st : List Nat} {B : Nat} {dx tk tk' sl : Addr} {kd : Int} (h : RowAt K CR H R ks st B) (hp : H R.p = some (.ins CR dx (rowF tk sl R.a R.b R.c R.d))) (hk : SqT K H tk' (iV (ks ++ [kd]))) (hs : H sl = some (.lst (nV st)))
    (n : sl ≠ R.a ∧ sl ≠ R.b ∧ sl ≠ R.c ∧ sl ≠ R.d) (ok2 : KOk (ks ++ [kd])) : RowAt K CR (upd H R.p (.ins CR dx (rowF tk' sl R.a R.b R.c R.d))) R (ks ++ [kd]) st B := by
  obtain ⟨ok, _, ⟨xa, a1, a2⟩, ⟨xb, b1, b2⟩, ⟨xc, c1, c2⟩, ⟨xd, d1, d2⟩, n1, n2, lt, sz⟩ := h
  have np : ∀ {q : Addr} {l : List V}, H q = some (.lst l) → (upd H R.p (.ins CR dx (rowF tk' sl R.a R.b R.c R.d))) q = some (.lst l) := fun {q l} e => by
    rw [upd_ne (ne_of e hp (fun z => by cases z))]
    exact e
  exact ⟨ok2, ⟨dx, tk', sl, upd_same, sT_ins hk hp, np hs, n⟩, ⟨xa, np a1, a2⟩, ⟨xb, np b1, b2⟩, ⟨xc, np c1, c2⟩, ⟨xd, np d1, d2⟩, n1, n2, fun x hx => by rw [List.length_append]; exact Nat.lt_of_lt_of_le (lt x hx) (Nat.le_add_right _ _), by rw [List.length_append]; exact Nat.le_trans sz (Nat.le_add_right _ _)⟩
theorem Away.self {R : RowP} {H : Hp} {o : HO} : Away R H (upd H R.p o) := fun x o e hx => by
  rw [upd_ne]
  · exact e
  · intro z
    exact hx (by rw [z]; unfold RowP.all; simp)
def spGr (K : PySem.W.Frag) (CR : Addr) : Sp := fun vs H Q _ => ∃ (R : RowP) (ks : List Int) (st : List Nat) (B : Nat) (kd : Int), vs = [.ref R.p, .int kd] ∧ RowAt K CR H R ks st B ∧ B ≤ 900 ∧ 0 ≤ kd ∧ kd ≤ 999 ∧ ks.length < 24 ∧
  ∀ (H' : Hp) (v : V), RowAt K CR H' R (ks ++ [kd]) (st ++ [ks.length]) (B + 2) → Away R H H' → Q v H'
theorem scGr : FnScope ["self", "kind", "bead"] ["self", "kind"] (defScope sRoGr) := ⟨rfl, rfl, rfl, by decide +kernel, rfl, by decide +kernel, by decide +kernel⟩
theorem c_gr (T : Txt K mg CP CS CR) : Met P w K mg base 1 CR "grow" (spGr K CR) := met_of T.rCl T.mGr fun f fd F => by
  refine F.ok scGr (fun vs H Q E h => ?_) (fun cdv A outer s H vs Q E hr h => ?_)
  · obtain ⟨R, ks, st, B, kd, rfl, _⟩ := h
    rfl
  · obtain ⟨R, ks, st, B, kd, rfl, hR, hB, g1, g2, g3, k⟩ := h
    obtain ⟨uM, cM⟩ := T.sMo
    obtain ⟨uT, cT⟩ := T.sTo
    have hl : (iV ks).length = ks.length := List.length_map ..
    have lo := hR.ok.lo
    refine ⟨_, pss_cons (ps_if (PW.pt (pw_or (pt_cmpR op_lt (pv 1) pe_int (nomark _)) (pw_or1 (pt_cmpR op_gt (pv 1) (ClX.pe_cval (pe_glob (v := .ref CS) (by rfl) T.sMg rfl)) (nomark _))))) pss_never pss_nil)
      (pss_cons (ps_if (pt_cmpR op_ge (pe_callB call_len_seq (by rfl) (T.b "len") PySem.boot_len (pa_cons (pe_fld (pv 0) rfl) pa_nil)) (ClX.pe_cval (pe_glob (v := .ref CS) (by rfl) T.sMg rfl)) (nomark _)) pss_never pss_nil)
      (pss_cons (ps_set (i := 2) scGr.nd rfl (.inl rfl) (pe_callB call_len_seq (by rfl) (T.b "len") PySem.boot_len (pa_cons (pe_fld (pv 0) rfl) pa_nil)))
      (pss_cons (ps_expr (pe_bm PySem.F.plainAttrs_list PySem.F.slot_list_append PySem.F.type_list_append mt_append (pe_fld (pv 0) rfl) (pa_cons (pe_tup (pa_cons (pe_op op_sub (pv 2) pe_int) (pa_cons (pv 2) pa_nil))) pa_nil)))
      (pss_cons (ps_fld (pv 0) (pe_op op_catT (pe_fld (pv 0) rfl) (pe_tup (pa_cons (pv 1) pa_nil))) rfl)
      (pss_cons (ps_fld (pv 0) (pe_op op_cat (pe_fld (pv 0) rfl) (pe_lst (pa_cons (pv 2) pa_nil))) rfl)
      (pss_cons (ps_expr (pe_bm PySem.F.plainAttrs_list PySem.F.slot_list_append PySem.F.type_list_append mt_append (pe_fld (pv 0) rfl) (pa_cons (pe_tup (pa_cons pe_str (pa_cons (pv 2) pa_nil))) pa_nil)))
      (pss_one (ps_ret (pv 2))))))))), ?_⟩
    obtain ⟨dx0, tk0, sl0, e0, k0, l0, n0⟩ := id hR.ex
    refine ⟨_, rfl, _, _, rfl, rfl, _, rfl, iteD (fun h => absurd h (by omega)) fun _ => ⟨_, rfl, CS, _, _, uT, rfl, T.sRd, cT, _, _, rfl, rfl, _, rfl, iteD (fun h => absurd h (by omega)) fun _ => ?_⟩⟩
    refine ⟨_, rfl, R.p, CR, dx0, _, _, rfl, e0, T.rCl, T.r _, rF_k .., tk0, _, rfl, .inr k0, CS, _, _, uM, rfl, T.sRd, cM, _, _, rfl, rfl, _, rfl, iteD (fun h => absurd h (by rw [hl]; omega)) fun _ => ?_⟩
    refine ⟨_, rfl, R.p, CR, dx0, _, _, rfl, e0, T.rCl, T.r _, rF_k .., tk0, _, rfl, .inr k0, ?_⟩
    rw [hl]
    -- meetings
    obtain ⟨xc, c1, c2⟩ := id hR.lc
    refine ⟨_, rfl, R.p, CR, dx0, _, _, rfl, e0, T.rCl, T.r _, rF_e .., .inl ⟨rfl, _, SqL.of c1⟩, _, rfl, _, _, rfl, rfl, _, rfl, by show 2 ≤ sizeLine; decide, fun t nt => ?_⟩
    have s1 := same_upd (o := .tup [.int ((ks.length : Int) - 1), .int ks.length]) nt
    refine ⟨R.c, xc, _, rfl, rfl, s1 _ _ c1, small1000 (by omega), ?_⟩
    have hR2 := (hR.same s1).app (.inr (.inr (.inl rfl))) (s1 _ _ c1) (.ref t) c2
    have aw2 := (Away.of (R := R) s1).trans (Away.lst (o := .lst (xc ++ [.ref t])) (.inr (.inr (.inl rfl))))
    generalize upd (upd H t _) R.c (.lst (xc ++ [.ref t])) = H2 at hR2 aw2
    obtain ⟨dx2, tk2, sl2, e2, k2, l2, n2⟩ := id hR2.ex
    -- kinds
    refine ⟨_, rfl, R.p, CR, dx2, _, _, rfl, e2, T.rCl, T.r _, rF_k .., _, rfl, by show 1 ≤ sizeLine; decide, fun t3 nt3 => ?_⟩
    have s3 := same_upd (o := .tup [.int kd]) nt3
    refine ⟨tk2, t3, _, _, rfl, rfl, sT s3 k2, SqT.of upd_same, ?_, ?_, (fun z => by cases z), fun _ t4 nt4 => ?_⟩
    · intro z
      have := congrArg List.length z
      rw [hl] at this
      simp only [List.length_nil] at this
      omega
    · rw [hl]
      show ks.length + 1 ≤ sizeLine
      exact Nat.le_of_lt (small1000 (by omega))
    have s4 := s3.trans (same_upd (o := .tup (iV ks ++ [.int kd])) nt4)
    have e4 := s4 _ _ e2
    refine ⟨_, rfl, R.p, CR, dx2, _, rfl, e4, T.rCl, T.r _, by show 6 < 1000; decide, ?_⟩
    rw [rF_pk]
    have kt : SqT K (upd (upd H2 t3 (.tup [.int kd])) t4 (.tup (iV ks ++ [.int kd]))) t4 (iV (ks ++ [kd])) := by
      have : iV (ks ++ [kd]) = iV ks ++ [.int kd] := by simp [iV]
      rw [this]
      exact SqT.of upd_same
    have hR5 := (hR2.same s4).setK e4 kt (s4 _ _ l2) n2 (hR.ok.snoc ⟨g1, g2⟩ g3)
    have aw5 := (aw2.trans (Away.of s4)).trans (Away.self (o := .ins CR dx2 (rowF t4 sl2 R.a R.b R.c R.d)))
    generalize upd (upd (upd H2 t3 _) t4 _) R.p _ = H5 at hR5 aw5
    obtain ⟨dx5, tk5, sl5, e5, k5, l5, n5⟩ := id hR5.ex
    -- standing
    refine ⟨_, rfl, R.p, CR, dx5, _, _, rfl, e5, T.rCl, T.r _, rF_s .., _, rfl, by show 1 ≤ sizeLine; decide, fun t6 nt6 => ?_⟩
    have s6 := same_upd (o := .lst [.int ks.length]) nt6
    have sz := hR.sz
    refine ⟨sl5, t6, _, _, rfl, rfl, s6 _ _ l5, upd_same, ?_, fun t7 nt7 => ?_⟩
    · rw [List.length_map]
      show st.length + 1 ≤ sizeLine
      exact Nat.le_of_lt (small1000 (by omega))
    have s7 := s6.trans (same_upd (o := .lst (nV st ++ [.int ks.length])) nt7)
    have e7 := s7 _ _ e5
    refine ⟨_, rfl, R.p, CR, dx5, _, rfl, e7, T.rCl, T.r _, by show 6 < 1000; decide, ?_⟩
    rw [rF_ps]
    have ls : (upd (upd H5 t6 (.lst [.int ks.length])) t7 (.lst (nV st ++ [.int ks.length]))) t7 = some (.lst (nV (st ++ [ks.length]))) := by
      rw [upd_same]
      simp [nV]
    obtain ⟨xa', fa, _⟩ := (hR5.same s6).la
    obtain ⟨xb', fb, _⟩ := (hR5.same s6).lb
    obtain ⟨xc', fc, _⟩ := (hR5.same s6).lc
    obtain ⟨xd', fd', _⟩ := (hR5.same s6).ld
    have hR8 := (hR5.same s7).setS e7 (sT s7 k5) ls ⟨(ne_of_none fa nt7).symm, (ne_of_none fb nt7).symm, (ne_of_none fc nt7).symm, (ne_of_none fd' nt7).symm⟩ (fun x hx => by
      rw [List.length_append]
      rcases List.mem_append.mp hx with h | h
      · exact Nat.lt_of_lt_of_le (hR.lt x h) (Nat.le_add_right _ _)
      · have : x = ks.length := by simpa using h
        rw [this]
        show ks.length < ks.length + 1
        omega) (by rw [List.length_append, List.length_append]; show st.length + 1 ≤ ks.length + 1; omega)
    have aw8 := (aw5.trans (Away.of s7)).trans (Away.self (o := .ins CR dx5 (rowF tk5 t7 R.a R.b R.c R.d)))
    generalize upd (upd (upd H5 t6 _) t7 _) R.p _ = H8 at hR8 aw8
    obtain ⟨dx8, tk8, sl8, e8, k8, l8, n8⟩ := id hR8.ex
    obtain ⟨xd, d1, d2⟩ := id hR8.ld
    -- deeds
    refine ⟨_, rfl, R.p, CR, dx8, _, _, rfl, e8, T.rCl, T.r _, rF_d .., .inl ⟨rfl, _, SqL.of d1⟩, _, rfl, by show 2 ≤ sizeLine; decide, fun t9 nt9 => ?_⟩
    have s9 := same_upd (o := .tup [.str "grow", .int ks.length]) nt9
    refine ⟨R.d, xd, _, rfl, rfl, s9 _ _ d1, small1000 (by omega), ?_⟩
    have hR10 := (hR8.same s9).app (.inr (.inr (.inr rfl))) (s9 _ _ d1) (.ref t9) d2
    exact ⟨_, rfl, k _ _ hR10 ((aw8.trans (Away.of s9)).trans (Away.lst (.inr (.inr (.inr rfl)))))⟩
/-! ### rest, standing -/
def spRe (K : PySem.W.Frag) (CS CR : Addr) : Sp := fun vs H Q _ => ∃ (R : RowP) (ks : List Int) (st : List Nat) (B : Nat), vs = [.ref R.p] ∧ RowAt K CR H R ks st B ∧ 2 ≤ st.length ∧ ∀ (H' : Hp) (x : Addr), Same H H' → StAt K CS H' x (st.map (at0 ks)) → Q (.ref x) H'
theorem scRe : FnScope ["self", "bead"] ["self"] (defScope sRoRe) := ⟨rfl, rfl, rfl, by decide +kernel, rfl, by decide +kernel, by decide +kernel⟩
theorem KOk.sub {ks : List Int} (ok : KOk ks) {st : List Nat} (lt : ∀ x ∈ st, x < ks.length) (h1 : 2 ≤ st.length) (h2 : st.length ≤ ks.length) : KOk (st.map (at0 ks)) := by
  have := ok.hi
  refine ⟨by rw [List.length_map]; exact h1, by rw [List.length_map]; omega, fun k hk => ?_⟩
  obtain ⟨x, hx, rfl⟩ := List.mem_map.mp hk
  have hl := lt x hx
  refine ok.rg _ ?_
  unfold at0
  rw [List.getD_eq_getElem?_getD, List.getElem?_eq_getElem hl]
  exact List.getElem_mem hl
theorem c_re (T : Txt K mg CP CS CR) : Met P w K mg base 3 CR "rest" (spRe K CS CR) := met_of T.rCl T.mRe fun f fd F => by
  refine F.ok scRe (fun vs H Q E h => ?_) (fun cdv A outer s H vs Q E hr h => ?_)
  · obtain ⟨R, ks, st, B, rfl, _⟩ := h
    rfl
  · obtain ⟨R, ks, st, B, rfl, hR, h2, k⟩ := h
    obtain ⟨dx0, tk0, sl0, e0, k0, l0, n0⟩ := id hR.ex
    have hi := hR.ok.hi
    have sz := hR.sz
    refine ⟨_, pss_one (ps_ret (pmk (mak_st T) hr (by decide) (by rfl) (pa_cons (pe_lc (own := [("bead", 1)]) (g := gName 1) (by rfl) scRe.nd (pi_list (pe_fld (pv 0) rfl)) (blkOk_by (own := [("bead", 1)]) (N := ["self", "bead"]) (sc := defScope sRoRe) (by decide +kernel))
      (fun _ _ _ _ _ => pg_name (i := 1) scRe.nd rfl (Or.inl rfl)) (fun _ _ _ _ _ => pts_nil) (fun _ _ _ _ _ => pe_ix (r := rIxT K) ix_tup (show PE _ _ (tFld K (tVar 0) "_kinds") from pe_fld (pv 0) rfl) (pv 1) (fun _ _ => rfl))) pa_nil))), ?_⟩
    refine ⟨_, rfl, R.p, CR, dx0, _, _, rfl, e0, T.rCl, T.r _, rF_s .., sl0, rfl, ⟨_, SqL.of l0⟩, fun D nD => ?_⟩
    refine lc_list (K := K) (a := sl0) (xs := nV st) (fun i H6 => Same H H6 ∧ H6 D = some (.lst (iV ((st.take i).map (at0 ks))))) ⟨same_upd nD, upd_same⟩ (fun i H6 _ hW => SqL.of (hW.1 _ _ l0)) (fun i x H6 hx hW => ?_) (fun H6 hW => ?_)
    · obtain ⟨s6, hD⟩ := hW
      rw [List.getElem?_map] at hx
      obtain ⟨y, hy, rfl⟩ := Option.map_eq_some_iff.mp hx
      have lt := hR.lt y (List.mem_of_getElem? hy)
      refine ⟨rfl, yesT ?_⟩
      refine ⟨_, rfl, R.p, CR, dx0, _, _, rfl, s6 _ _ e0, T.rCl, T.r _, rF_k .., _, rfl, tk0, _, _, _, rfl, rfl, sT s6 k0, atI_nat (at_ks lt), ?_⟩
      refine ⟨_, hD, ?_, fun c o e => ?_, ?_⟩
      · rw [List.length_map, List.length_map, List.length_take]
        exact small1000 (by omega)
      · rw [upd_ne (ne_of_none e nD)]
        exact s6 _ _ e
      · rw [upd_same, List.take_succ, hy]
        simp [iV]
    · obtain ⟨s6, hD⟩ := hW
      rw [List.length_map, List.take_length] at hD
      exact rd_strand (hR.ok.sub hR.lt h2 sz) (.inl (SqL.of hD)) fun H' x sm _ hS => k H' x (s6.trans sm) hS
def spSt (K : PySem.W.Frag) (CR : Addr) : Sp := fun vs H Q _ => ∃ (R : RowP) (ks : List Int) (st : List Nat) (B : Nat), vs = [.ref R.p] ∧ RowAt K CR H R ks st B ∧ ∀ (H' : Hp) (l : Addr), Same H H' → H' l = some (.lst (nV st)) → Q (.ref l) H'
theorem scSt : FnScope ["self"] ["self"] (defScope sRoSt) := ⟨rfl, rfl, rfl, by decide +kernel, rfl, by decide +kernel, by decide +kernel⟩
theorem ok_st (T : Txt K mg CP CS CR) {f : Addr} {fd : FuncData} (F : Fun K "standing" "Row.standing" sRoSt f fd) : FnOk P w K mg base CX0 1 f fd ["self"] (spSt K CR) := by
  refine F.ok scSt (fun vs H Q E h => ?_) (fun cdv A outer s H vs Q E hr h => ?_)
  · obtain ⟨R, ks, st, B, rfl, _⟩ := h
    rfl
  · obtain ⟨R, ks, st, B, rfl, hR, k⟩ := h
    obtain ⟨dx0, tk0, sl0, e0, k0, l0, n0⟩ := id hR.ex
    refine ⟨_, pss_one (ps_ret (pe_callTy call_list_of (by rfl) (T.b "list") (by decide +kernel) (pa_cons (pe_fld (pv 0) rfl) pa_nil))), ?_⟩
    exact ⟨_, rfl, R.p, CR, dx0, _, _, rfl, e0, T.rCl, T.r _, rF_s .., sl0, _, rfl, .inl (SqL.of l0), fun l nl => k _ l (same_upd nl) upd_same⟩
end
end Bm

namespace Bm
open PySem L2
section
variable {P : Program} {w : World} {K : PySem.W.Frag} {mg : Str → Option Value} {base : Heap} {CP CS CR : Addr}
/-! ### losses -/
def spLoss (K : PySem.W.Frag) (CR : Addr) : Sp := fun vs H Q _ => ∃ (R : RowP) (ks : List Int) (st : List Nat) (B : Nat), vs = [.ref R.p] ∧ RowAt K CR H R ks st B ∧ 2 ≤ st.length ∧ st.Nodup ∧
  ∀ (H' : Hp) (d : Addr) (kvs : List (L2.Key × V)), Same H H' → H' d = some (.dK kvs) → kvs.length ≤ st.length - 2 →
    (∀ a b : Nat, st[a]? = some b → 1 ≤ a → a + 1 < st.length → valV kvs (Sum.inl (b : Int)) = some (.int (loss (st.map (at0 ks)) a))) → Q (.ref d) H'
theorem scLoss : FnScope ["row", "rest", "standing", "least", "table", "at"] ["row"] (defScope sLosses) := ⟨rfl, rfl, rfl, by decide +kernel, rfl, by decide +kernel, by decide +kernel⟩
theorem ftab_get {ks : List Int} {m i : Nat} (h : i < m) : (ftab ks m)[i]? = some (Sum.inl ((i + 1 : Nat) : Int), V.int (ear ks (i + 1) + least (ks.eraseIdx (i + 1)))) := by
  unfold ftab
  rw [List.getElem?_map, List.getElem?_range h]
  rfl
theorem c_loss (T : Txt K mg CP CS CR) : Cal P w K mg base 6 "losses" (spLoss K CR) := cal_of T.dLosses fun f fd F => by
  refine F.ok scLoss (fun vs H Q E h => ?_) (fun cdv A outer s H vs Q E hr h => ?_)
  · obtain ⟨R, ks, st, B, rfl, _⟩ := h
    rfl
  · obtain ⟨R, ks, st, B, rfl, hR, h2, nd, k⟩ := h
    have hu := hu_of hr
    obtain ⟨pS, fS, fdS, hpS, FS, bS⟩ := T.rSt
    have GS := ok_st (P := P) (w := w) (base := base) T FS
    have hi := hR.ok.hi
    have sz := hR.sz
    refine ⟨_, pss_cons (ps_set (i := 1) scLoss.nd rfl (.inl rfl) (pm0 (c_re T) hr (by decide) (pv 0)))
      (pss_cons (ps_set (i := 2) scLoss.nd rfl (.inr rfl) (pe_prop (pv 0) T.rCl hpS GS (hr.mono (by decide)) bS .nil pass0 rfl))
      (pss_cons (ps_set (i := 3) scLoss.nd rfl (.inr rfl) (pc (c_ltoll T) hr (by decide) (by rfl) (pa_cons (pv 1) pa_nil)))
      (pss_cons (ps_set (i := 4) scLoss.nd rfl (.inr rfl) (pc (c_ftot T) hr (by decide) (by rfl) (pa_cons (pv 1) (pa_cons (pmk0 (mak_pr T) hr (by decide) (by rfl)) pa_nil))))
      (pss_one (ps_ret (pe_lock (pe_dc (own := [("at", 5)]) (g := gName 5) (by rfl) scLoss.nd (pi_keys (pv 4)) (blkOk_by (own := [("at", 5)]) (N := ["row", "rest", "standing", "least", "table", "at"]) (sc := defScope sLosses) (by decide +kernel))
        (fun _ _ _ _ _ => pg_name (i := 5) scLoss.nd rfl (Or.inl rfl)) (fun _ _ _ _ _ => pts_nil) (fun _ _ _ _ _ => pe_ix (r := rIxL K) ix_list (pv 2) (pv 5) (fun _ _ => rfl))
        (fun _ _ _ _ _ => pe_op op_sub (pe_dget hu (pv 4) (pv 5) (fun _ _ => rfl)) (pv 3))))))))), ?_⟩
    obtain ⟨dx0, tk0, sl0, e0, _⟩ := id hR.ex
    refine ⟨_, rfl, R.p, dx0, _, rfl, e0, rfl, R, ks, st, B, rfl, hR, h2, fun H1 r s1 hS => ?_⟩
    refine ⟨_, rfl, R.p, dx0, _, rfl, s1 _ _ e0, R, ks, st, B, rfl, hR.same s1, fun H2 l s2 hl => ?_⟩
    generalize hkr : st.map (at0 ks) = kr at hS k
    have kl : kr.length = st.length := by rw [← hkr, List.length_map]
    refine ⟨_, rfl, r, kr, rfl, hS.same s2, fun H3 s3 => ?_⟩
    refine ⟨_, rfl, ?_⟩
    refine rd_prices fun H4 pr s4 hP => ?_
    refine ⟨r, pr, kr, rfl, ((hS.same s2).same s3).same s4, hP, fun H5 tb s5 ntb htb => ?_⟩
    have s25 := (s3.trans s4).trans s5
    have hl5 := s25 _ _ hl
    have sH5 := (s1.trans s2).trans s25
    have ntbH : H tb = none := (((s1.trans s2).trans s3).trans s4).free ntb
    have nlt : l ≠ tb := ne_of hl5 htb (fun z => by cases z)
    -- the dict's walk, locked
    refine ⟨tb, _, htb, trivial, fun od => ?_⟩
    refine ⟨_, rfl, tb, od, rfl, .inl ⟨_, upd_same, fun D nD => ?_⟩⟩
    have nDt : D ≠ tb := fun z => by rw [z, upd_same] at nD; cases nD
    have hl6 : (upd H5 tb (.frz od (.dK (ftab kr (kr.length - 2))))) l = some (.lst (nV st)) := by rw [upd_ne nlt]; exact hl5
    refine ⟨fun i m H6 => i + m = kr.length - 2 ∧ Same (upd H5 tb (.frz od (.dK (ftab kr (kr.length - 2))))) H6 ∧ ∃ kvs : List (L2.Key × V), H6 D = some (.dK kvs) ∧ kvs.length ≤ i ∧ ∀ a b : Nat, st[a]? = some b → 1 ≤ a → a ≤ i → valV kvs (Sum.inl (b : Int)) = some (.int (loss kr a)),
      ⟨kr.length - 2, by omega, same_upd nD, [], upd_same, Nat.le_refl _, fun a b _ h3 h4 => by omega⟩, fun i m H6 hW => ?_⟩
    obtain ⟨em, s6, kvs, hD, hlen, hv⟩ := hW
    have ht6 : H6 tb = some (.frz od (.dK (ftab kr (kr.length - 2)))) := s6 _ _ upd_same
    by_cases c : i < kr.length - 2
    · refine .inr ⟨⟨ht6, by rw [ftab_len]; exact c⟩, fun H7 => Same (upd H5 tb (.frz od (.dK (ftab kr (kr.length - 2))))) H7 ∧ ∃ kvs : List (L2.Key × V), H7 D = some (.dK kvs) ∧ kvs.length ≤ i + 1 ∧ ∀ a b : Nat, st[a]? = some b → 1 ≤ a → a ≤ i + 1 → valV kvs (Sum.inl (b : Int)) = some (.int (loss kr a)),
        fun H7 ⟨x1, x2⟩ => ⟨m - 1, by omega, by omega, x1, x2⟩, fun x H7 hy => ?_⟩
      obtain ⟨rfl, ky, v, ek, rfl⟩ := hy
      rw [ftab_get c] at ek
      injection ek with ek
      injection ek with ek _
      subst ek
      have hg : st[i + 1]? = some (st.getD (i + 1) 0) := get_D (by omega)
      refine ⟨rfl, yesT ?_⟩
      refine ⟨_, rfl, _, rfl, l, _, _, _, rfl, rfl, SqL.of (s6 _ _ hl6), atI_nat (nV_get hg), ?_⟩
      have g1 : DGet H7 tb (kV (Sum.inl ((i + 1 : Nat) : Int))) (some (.int (ear kr (i + 1) + least (kr.eraseIdx (i + 1))))) := .inl ⟨_, _, .inr ⟨od, ht6⟩, rfl, by rw [ftab_val, if_pos c]⟩
      refine ⟨_, rfl, _, rfl, tb, _, rfl, g1, _, rfl, _, _, rfl, rfl, ?_⟩
      refine ⟨kvs, Sum.inl ((st.getD (i + 1) 0 : Nat) : Int), rfl, hD, small1000 (by omega), fun y o e => ?_, _, upd_same, ?_, fun a b ha h3 h4 => ?_⟩
      · rw [upd_ne (ne_of_none e nD)]
        exact s6 _ _ e
      · exact Nat.le_trans (length_putK kvs _ _) (Nat.succ_le_succ hlen)
      · rw [valV_put]
        by_cases z : a = i + 1
        · subst z
          rw [hg] at ha
          injection ha with ha
          rw [if_pos (by rw [ha])]
          rfl
        · have nb : ¬ ((Sum.inl (b : Int) : L2.Key) = Sum.inl ((st.getD (i + 1) 0 : Nat) : Int)) := fun q => by
            injection q with q
            have q : b = st.getD (i + 1) 0 := by omega
            rw [q] at ha
            have := idx_of nd ha
            have := idx_of nd hg
            omega
          rw [if_neg nb]
          exact hv a b ha h3 (by omega)
    · refine .inl ⟨⟨ht6, by rw [ftab_len]; omega⟩, ht6, ?_⟩
      refine k _ D kvs (fun y o e => ?_) (by rw [upd_ne nDt]; exact hD) (by omega) fun a b ha h3 h4 => hv a b ha h3 (by omega)
      have ny : y ≠ tb := ne_of_none e ntbH
      rw [upd_ne ny]
      refine s6 _ _ ?_
      rw [upd_ne ny]
      exact sH5 _ _ e
end
end Bm

namespace Bm
open PySem L2
section
variable {P : Program} {w : World} {K : PySem.W.Frag} {mg : Str → Option Value} {base : Heap} {CP CS CR : Addr}
/-! ### _law_cell, _law_mixed: some numbers -/
def spCell (K : PySem.W.Frag) : Sp := fun vs H Q _ => ∃ (a : Addr) (ns : List Int) (j : Nat), vs = [.ref a, .int j] ∧ SqL K H a (iV ns) ∧ ∀ z : Int, Q (.int z) H
theorem scCell : FnScope ["_law_script", "_law_at"] ["_law_script", "_law_at"] (defScope sCell) := ⟨rfl, rfl, rfl, by decide +kernel, rfl, by decide +kernel, by decide +kernel⟩
theorem c_cell (T : Txt K mg CP CS CR) : Cal P w K mg base 1 "_law_cell" (spCell K) := cal_of T.dCell fun f fd F => by
  refine F.ok scCell (fun vs H Q E h => ?_) (fun cdv A outer s H vs Q E hr h => ?_)
  · obtain ⟨a, ns, j, rfl, _⟩ := h
    rfl
  · obtain ⟨a, ns, j, rfl, hS, k⟩ := h
    refine ⟨_, pss_cons (ps_if (pt_cmpR op_lt (pv 1) (pe_callB call_len_seq (by rfl) (T.b "len") PySem.boot_len (pa_cons (pv 0) pa_nil)) (nomark _)) (pss_one (ps_ret (pe_ix ix_list (pv 0) (pv 1) (fun _ _ => rfl)))) pss_nil) (pss_one (ps_ret pe_int)), ?_⟩
    refine ⟨_, rfl, _, rfl, a, _, rfl, .inl hS, _, _, rfl, rfl, _, rfl, iteD (fun h => ?_) fun _ => k 0⟩
    have hl : (iV ns).length = ns.length := List.length_map ..
    obtain ⟨z, _, ez⟩ := at_int (ks := ns) (i := (j : Int)) (by omega) (by omega)
    exact ⟨_, rfl, _, rfl, a, _, _, _, rfl, rfl, hS, ez, k z⟩
def spMixed : Sp := fun vs H Q _ => ∃ (c : Int) (k : Nat), vs = [.int c, .int k] ∧ ∀ z : Int, Q (.int z) H
theorem scMixed : FnScope ["_law_cell_here", "_law_k", "_law_mixed_here"] ["_law_cell_here", "_law_k"] (defScope sMixed) := ⟨rfl, rfl, rfl, by decide +kernel, rfl, by decide +kernel, by decide +kernel⟩
theorem c_mixed (T : Txt K mg CP CS CR) : Cal P w K mg base 1 "_law_mixed" spMixed := cal_of T.dMixed fun f fd F => by
  refine F.ok scMixed (fun vs H Q E h => ?_) (fun cdv A outer s H vs Q E hr h => ?_)
  · obtain ⟨c, k, rfl, _⟩ := h
    rfl
  · obtain ⟨c, k, rfl, q⟩ := h
    refine ⟨_, pss_cons (ps_set (i := 2) scMixed.nd rfl (.inl rfl) (pe_op op_mod (pe_callTy call_int1 (by rfl) (T.b "int") (by decide +kernel) (pa_cons (pe_op op_add (pe_op op_add (pv 0) (pe_op op_mul pe_int (pv 1))) pe_int) pa_nil)) pe_int))
      (pss_cons (ps_set (i := 2) scMixed.nd rfl (.inl rfl) (pe_op op_mod (pe_callTy call_int1 (by rfl) (T.b "int") (by decide +kernel) (pa_cons (pe_op op_mul (pv 2) (pe_op op_add (pv 2) pe_int)) pa_nil)) pe_int))
      (pss_cons (ps_set (i := 2) scMixed.nd rfl (.inl rfl) (pe_op op_mod (pe_callTy call_int1 (by rfl) (T.b "int") (by decide +kernel) (pa_cons (pe_op op_add (pe_op op_mul (pv 2) (pe_op op_add (pv 2) pe_int)) (pe_op op_mul pe_int (pv 1))) pa_nil)) pe_int))
      (pss_one (ps_ret (pe_op op_fdiv (pv 2) pe_int))))), ?_⟩
    refine ⟨_, rfl, _, rfl, _, _, rfl, rfl, .inl ⟨by decide, by decide⟩, _, _, rfl, rfl, _, _, rfl, rfl, .inl ⟨_, rfl, _, _, rfl, rfl, (by show (0 : Int) < 2147483647; decide), ?_⟩⟩
    refine ⟨_, rfl, _, rfl, _, _, rfl, rfl, _, _, rfl, rfl, .inl ⟨by omega, by omega⟩, .inl ⟨_, rfl, _, _, rfl, rfl, (by show (0 : Int) < 2147483629; decide), ?_⟩⟩
    refine ⟨_, rfl, _, rfl, _, _, rfl, rfl, _, _, rfl, rfl, .inl ⟨by omega, by omega⟩, _, rfl, _, _, rfl, rfl, .inl ⟨by decide, by decide⟩, _, _, rfl, rfl, .inl ⟨_, rfl, _, _, rfl, rfl, (by show (0 : Int) < 2147483647; decide), ?_⟩⟩
    exact ⟨_, rfl, _, _, rfl, rfl, ⟨by decide, by decide⟩, q _⟩
/-! ### _law_draws -/
def spDraws : Sp := fun vs H Q _ => ∃ (c sz : Int) (n : Nat), vs = [.int c, .int n, .int sz] ∧ n ≤ 100 ∧ 0 < sz ∧ sz < 1073741824 ∧
  ∀ (H' : Hp) (l : Addr) (ds : List Int), Same H H' → H' l = some (.lst (iV ds)) → ds.length = n → (∀ d ∈ ds, 0 ≤ d ∧ d < sz) → Q (.ref l) H'
theorem scDraws : FnScope ["_law_cell_here", "_law_count", "_law_size", "_law_draws_here", "_law_rest", "_law_k"] ["_law_cell_here", "_law_count", "_law_size"] (defScope sDraws) := ⟨rfl, rfl, rfl, by decide +kernel, rfl, by decide +kernel, by decide +kernel⟩
/-- the draws so far -/
def DrI (H0 : Hp) (D : Addr) (sz : Int) (i : Nat) (H : Hp) : Prop := Same H0 H ∧ ∃ ds : List Int, H D = some (.lst (iV ds)) ∧ ds.length = i ∧ ∀ d ∈ ds, 0 ≤ d ∧ d < sz
theorem DrI.put {H0 H : Hp} {D : Addr} {sz : Int} {i : Nat} {ds : List Int} (s : Same H0 H) (nD : H0 D = none) (hl : ds.length = i) (hb : ∀ d ∈ ds, 0 ≤ d ∧ d < sz) (hz : 0 < sz) (x : Int) :
    DrI H0 D sz (i + 1) (upd H D (.lst (iV ds ++ [.int (x % sz)]))) := by
  refine ⟨fun y o e => ?_, ds ++ [x % sz], ?_, ?_, fun d hd => ?_⟩
  · rw [upd_ne (ne_of_none e nD)]
    exact s _ _ e
  · rw [upd_same]
    simp [iV]
  · rw [List.length_append, hl]
    rfl
  · rcases List.mem_append.mp hd with h | h
    · exact hb d h
    · have : d = x % sz := by simpa using h
      rw [this]
      exact ⟨Int.emod_nonneg _ (by omega), Int.emod_lt_of_pos _ hz⟩
theorem c_draws (T : Txt K mg CP CS CR) : Cal P w K mg base 2 "_law_draws" spDraws := cal_of T.dDraws fun f fd F => by
  refine F.ok scDraws (fun vs H Q E h => ?_) (fun cdv A outer s H vs Q E hr h => ?_)
  · obtain ⟨c, sz, n, rfl, _⟩ := h
    rfl
  · obtain ⟨c, sz, n, rfl, hn, z1, z2, k⟩ := h
    refine ⟨_, pss_cons (ps_set (i := 3) scDraws.nd rfl (.inl rfl) (pe_lst pa_nil))
      (pss_cons (ps_set (i := 4) scDraws.nd rfl (.inl rfl) (pv 0))
      (pss_cons (ps_for PassesOwn.never rfl (pi_range1 (by rfl) (T.b "range") (pa_cons (pv 1) pa_nil)) (pg_name (i := 5) scDraws.nd rfl (.inl rfl))
        (pss_one (ps_if (PW.pt (pw_and (pt_cmpR op_ge (pv 0) (pe_op op_pow pe_int pe_int) (nomark _)) (pw_and1 (pt_cmpR op_gt (pv 4) pe_int (nomark _)))))
          (pss_cons (ps_expr (pe_bm PySem.F.plainAttrs_list PySem.F.slot_list_append PySem.F.type_list_append mt_append (pv 3) (pa_cons (pe_op op_mod (pe_callTy call_int1 (by rfl) (T.b "int") (by decide +kernel) (pa_cons (pv 4) pa_nil)) (pv 2)) pa_nil)))
            (pss_one (ps_set (i := 4) scDraws.nd rfl (.inl rfl) (pe_op op_fdivN (pv 4) (pv 2)))))
          (pss_one (ps_expr (pe_bm PySem.F.plainAttrs_list PySem.F.slot_list_append PySem.F.type_list_append mt_append (pv 3) (pa_cons (pe_op op_mod (pe_callTy call_int1 (by rfl) (T.b "int") (by decide +kernel) (pa_cons (pc (c_mixed T) hr (by decide) (by rfl) (pa_cons (pv 0) (pa_cons (pv 5) pa_nil))) pa_nil)) (pv 2)) pa_nil)))))))
      (pss_one (ps_ret (pv 3))))), ?_⟩
    refine ⟨Nat.zero_le _, fun D nD => ⟨_, rfl, _, rfl, n, rfl, by omega, by omega, ?_⟩⟩
    refine for_range (lo := 0) (n := (n : Int).toNat) (fun i σ5 H5 => (∃ r y, σ5 = [some (.int c), some (.int n), some (.int sz), some (.ref D), some (.int r), y]) ∧ DrI H D sz i H5)
      ⟨⟨_, _, rfl⟩, same_upd nD, [], upd_same, rfl, fun d hd => (by cases hd)⟩ (fun i σ5 H5 hi hW => ?_) (fun σ5 H5 hW => ?_)
    · obtain ⟨⟨r, y, rfl⟩, s5, ds, hD, hl, hb⟩ := hW
      have room : (iV ds).length < sizeLine := by
        rw [List.length_map]
        exact small1000 (by omega)
      have ez : 0 + (i : Int) = (i : Int) := by omega
      rw [ez]
      refine ⟨_, rfl, _, _, rfl, rfl, ⟨by decide, by decide, by decide⟩, _, _, rfl, rfl, _, rfl, iteD (fun _ => ?_) fun _ => ?_⟩
      · refine ⟨_, rfl, _, _, rfl, rfl, _, rfl, iteD (fun _ => ?_) fun _ => ?_⟩
        · refine ⟨_, rfl, .inl ⟨rfl, _, SqL.of hD⟩, _, rfl, .inl ⟨_, rfl, _, rfl, _, _, rfl, rfl, z1, D, _, _, rfl, rfl, hD, room, ?_⟩⟩
          exact ⟨_, rfl, _, rfl, _, _, rfl, rfl, ⟨by omega, by omega⟩, ⟨_, _, rfl⟩, DrI.put s5 nD hl hb z1 r⟩
        · exact ⟨_, rfl, .inl ⟨rfl, _, SqL.of hD⟩, _, rfl, _, rfl, _, i, rfl, fun z => .inl ⟨_, rfl, _, rfl, _, _, rfl, rfl, z1, D, _, _, rfl, rfl, hD, room, ⟨_, _, rfl⟩, DrI.put s5 nD hl hb z1 z⟩⟩
      · refine iteF ?_
        exact ⟨_, rfl, .inl ⟨rfl, _, SqL.of hD⟩, _, rfl, _, rfl, _, i, rfl, fun z => .inl ⟨_, rfl, _, rfl, _, _, rfl, rfl, z1, D, _, _, rfl, rfl, hD, room, ⟨_, _, rfl⟩, DrI.put s5 nD hl hb z1 z⟩⟩
    · obtain ⟨⟨r, y, rfl⟩, s5, ds, hD, hl, hb⟩ := hW
      exact ⟨_, rfl, k H5 D ds s5 hD (by omega) hb⟩
/-! ### _law_shuffled -/
def spShuf (K : PySem.W.Frag) : Sp := fun vs H Q _ => ∃ (c : Int) (a : Addr) (items : List Nat), vs = [.int c, .ref a] ∧ SqL K H a (nV items) ∧ items.length ≤ 100 ∧ ∀ (H' : Hp) (l : Addr) (r : List Nat), Same H H' → H' l = some (.lst (nV r)) → r.Perm items → Q (.ref l) H'
theorem scShuf : FnScope ["_law_cell_here", "_law_items", "_law_left", "_law_row", "_law_rest", "_law_k", "_law_room", "_law_place"] ["_law_cell_here", "_law_items"] (defScope sShuf) := ⟨rfl, rfl, rfl, by decide +kernel, rfl, by decide +kernel, by decide +kernel⟩
/-- what is left stands at L, the row so far at D -/
def ShI (H0 : Hp) (items : List Nat) (D L : Addr) (i : Nat) (H : Hp) : Prop := Same H0 H ∧ D ≠ L ∧ ∃ r lf : List Nat, H D = some (.lst (nV r)) ∧ H L = some (.lst (nV lf)) ∧ (r ++ lf).Perm items ∧ r.length = i ∧ r.length + lf.length = items.length
theorem cutL_hi (xs : List V) (a : Nat) (h : a ≤ xs.length) : cutV xs none (some (a : Int)) = xs.take a := cut_hi xs a h
theorem nV_cut (l : List Nat) (a : Nat) : (nV l).take a ++ (nV l).drop (a + 1) = nV (l.eraseIdx a) := by
  rw [List.eraseIdx_eq_take_drop_succ]
  simp only [nV, List.map_append, List.map_take, List.map_drop]
theorem perm_step {r lf items : List Nat} {p x : Nat} (h : (r ++ lf).Perm items) (hx : lf[p]? = some x) : (r ++ [x] ++ lf.eraseIdx p).Perm items := by
  refine List.Perm.trans ?_ h
  obtain ⟨hp, e⟩ := List.getElem?_eq_some_iff.mp hx
  rw [List.append_assoc]
  refine List.Perm.append_left r ?_
  show (x :: lf.eraseIdx p).Perm lf
  rw [List.eraseIdx_eq_take_drop_succ]
  have e2 : lf = lf.take p ++ x :: lf.drop (p + 1) := by
    conv => lhs; rw [← List.take_append_drop p lf]
    rw [List.drop_eq_getElem_cons hp, e]
  conv => rhs; rw [e2]
  exact List.Perm.symm List.perm_middle
end
end Bm

namespace Bm
open PySem L2
section
variable {P : Program} {w : World} {K : PySem.W.Frag} {mg : Str → Option Value} {base : Heap} {CP CS CR : Addr}
theorem c_shuf (T : Txt K mg CP CS CR) : Cal P w K mg base 2 "_law_shuffled" (spShuf K) := cal_of T.dShuf fun f fd F => by
  refine F.ok scShuf (fun vs H Q E h => ?_) (fun cdv A outer s H vs Q E hr h => ?_)
  · obtain ⟨c, a, items, rfl, _⟩ := h
    rfl
  · obtain ⟨c, a, items, rfl, hS, hn, k⟩ := h
    refine ⟨_, pss_cons (ps_set (i := 2) scShuf.nd rfl (.inl rfl) (pe_callTy call_list_of (by rfl) (T.b "list") (by decide +kernel) (pa_cons (pv 1) pa_nil)))
      (pss_cons (ps_set (i := 3) scShuf.nd rfl (.inl rfl) (pe_lst pa_nil))
      (pss_cons (ps_set (i := 4) scShuf.nd rfl (.inl rfl) (pv 0))
      (pss_cons (ps_for PassesOwn.never rfl (pi_range1 (by rfl) (T.b "range") (pa_cons (pe_callB call_len_seq (by rfl) (T.b "len") PySem.boot_len (pa_cons (pv 1) pa_nil)) pa_nil)) (pg_name (i := 5) scShuf.nd rfl (.inl rfl))
        (pss_cons (ps_set (i := 6) scShuf.nd rfl (.inl rfl) (pe_callB call_len_seq (by rfl) (T.b "len") PySem.boot_len (pa_cons (pv 2) pa_nil)))
        (C8.pss_cut (ps_if (PW.pt (pw_and (pt_cmpR op_ge (pv 0) (pe_op op_pow pe_int pe_int) (nomark _)) (pw_and1 (pt_cmpR op_gt (pv 4) pe_int (nomark _)))))
          (pss_cons (ps_set (i := 7) scShuf.nd rfl (.inl rfl) (pe_op op_mod (pe_callTy call_int1 (by rfl) (T.b "int") (by decide +kernel) (pa_cons (pv 4) pa_nil)) (pv 6)))
            (pss_one (ps_set (i := 4) scShuf.nd rfl (.inl rfl) (pe_op op_fdivN (pv 4) (pv 6)))))
          (pss_one (ps_set (i := 7) scShuf.nd rfl (.inl rfl) (pe_op op_mod (pe_callTy call_int1 (by rfl) (T.b "int") (by decide +kernel) (pa_cons (pc (c_mixed T) hr (by decide) (by rfl) (pa_cons (pv 0) (pa_cons (pv 5) pa_nil))) pa_nil)) (pv 6)))))
        (pss_cons (ps_expr (pe_bm PySem.F.plainAttrs_list PySem.F.slot_list_append PySem.F.type_list_append mt_append (pv 3) (pa_cons (pe_ix ix_list (pv 2) (pv 7) (fun _ _ => rfl)) pa_nil)))
        (pss_one (ps_set (i := 2) scShuf.nd rfl (.inl rfl) (pe_op op_cat (pe_slice sl_list (pv 2) po_none (po_some (pv 7))) (pe_slice sl_list (pv 2) (po_some (pe_op op_add (pv 7) pe_int)) po_none))))))))
      (pss_one (ps_ret (pv 3)))))), ?_⟩
    refine ⟨_, rfl, a, _, rfl, .inl hS, fun L nL => ?_⟩
    have s1 := same_upd (o := .lst (nV items)) nL
    refine ⟨Nat.zero_le _, fun D nD => ?_⟩
    have s2 := s1.trans (same_upd (o := .lst []) nD)
    have nLD : L ≠ D := ne_of_none upd_same nD
    have nD0 : H D = none := s1.free nD
    have hl : ((nV items).length : Int) = items.length := by simp
    refine ⟨_, rfl, _, rfl, a, _, rfl, .inl (s2.seq hS), ?_⟩
    rw [hl]
    refine ⟨items.length, rfl, by omega, by omega, ?_⟩
    refine for_range (lo := 0) (n := (items.length : Int).toNat) (fun i σ5 H5 => ∃ (L : Addr) (r : Int) (x y z : Option V), σ5 = [some (.int c), some (.ref a), some (.ref L), some (.ref D), some (.int r), x, y, z] ∧ ShI H items D L i H5)
      ⟨L, c, none, none, none, rfl, s2, nLD.symm, [], items, upd_same, by rw [upd_ne nLD]; exact upd_same, List.Perm.refl _, rfl, by simp⟩ (fun i σ5 H5 hi hW => ?_) (fun σ5 H5 hW => ?_)
    · obtain ⟨L, r, x, y, z, rfl, s5, nDL, rw_, lf, hD, hL, hp, hrl, hlen⟩ := hW
      have lpos : 0 < lf.length := by omega
      have ez : 0 + (i : Int) = (i : Int) := by omega
      rw [ez]
      have hlf : ((nV lf).length : Int) = lf.length := by simp
      refine ⟨_, rfl, L, _, rfl, .inl (SqL.of hL), ?_⟩
      rw [hlf]
      have md : ∀ q : Int, 0 ≤ q % (lf.length : Int) ∧ q % (lf.length : Int) < lf.length := fun q => ⟨Int.emod_nonneg _ (by omega), Int.emod_lt_of_pos _ (by omega)⟩
      have lp : (0 : Int) < (lf.length : Int) := by omega
      refine ⟨fun σ6 H6 => ∃ (r2 q : Int), σ6 = [some (.int c), some (.ref a), some (.ref L), some (.ref D), some (.int r2), some (.int i), some (.int lf.length), some (.int q)] ∧ H6 = H5 ∧ 0 ≤ q ∧ q < lf.length, ?_, fun σ6 H6 hM => ?_⟩
      · refine ⟨_, rfl, _, _, rfl, rfl, ⟨by decide, by decide, by decide⟩, _, _, rfl, rfl, _, rfl, iteD (fun _ => ?_) fun _ => ?_⟩
        · refine ⟨_, rfl, _, _, rfl, rfl, _, rfl, iteD (fun _ => ?_) fun _ => ?_⟩
          · refine ⟨_, rfl, .inl ⟨_, rfl, _, rfl, _, _, rfl, rfl, lp, ?_⟩⟩
            exact ⟨_, rfl, _, rfl, _, _, rfl, rfl, ⟨by omega, by omega⟩, _, _, rfl, rfl, md r⟩
          · exact ⟨_, rfl, _, rfl, _, i, rfl, fun z => .inl ⟨_, rfl, _, rfl, _, _, rfl, rfl, lp, _, _, rfl, rfl, md z⟩⟩
        · refine iteF ?_
          exact ⟨_, rfl, _, rfl, _, i, rfl, fun z => .inl ⟨_, rfl, _, rfl, _, _, rfl, rfl, lp, _, _, rfl, rfl, md z⟩⟩
      · obtain ⟨r2, q, rfl, rfl, q0, q1⟩ := hM
        obtain ⟨p, rfl⟩ : ∃ p : Nat, q = p := ⟨q.toNat, by omega⟩
        have hp1 : p < lf.length := by omega
        have hg : lf[p]? = some (lf.getD p 0) := get_D hp1
        have room : (nV rw_).length < sizeLine := by
          rw [List.length_map]
          exact small1000 (by omega)
        refine ⟨_, rfl, .inl ⟨rfl, _, SqL.of hD⟩, _, rfl, _, rfl, L, _, _, _, rfl, rfl, SqL.of hL, atI_nat (nV_get hg), D, _, _, rfl, rfl, hD, room, ?_⟩
        have hL6 : (upd H6 D (.lst (nV rw_ ++ [.int (lf.getD p 0 : Nat)]))) L = some (.lst (nV lf)) := by rw [upd_ne nDL.symm]; exact hL
        refine ⟨_, rfl, _, rfl, _, rfl, L, _, rfl, SqL.of hL6, fun u nu => ?_⟩
        have su := same_upd (o := .lst (cutV (nV lf) none (some (p : Int)))) nu
        refine ⟨_, rfl, _, rfl, _, _, rfl, rfl, _, rfl, L, _, rfl, SqL.of (su _ _ hL6), fun v nv => ?_⟩
        have ez2 : (p : Int) + 1 = ((p + 1 : Nat) : Int) := by omega
        dsimp only at nv ⊢
        rw [ez2] at *
        have sv := same_upd (o := .lst (cutV (nV lf) (some ((p + 1 : Nat) : Int)) none)) nv
        have hln : (nV lf).length = lf.length := List.length_map ..
        refine ⟨u, v, _, _, rfl, rfl, sv _ _ upd_same, upd_same, ?_, fun x9 nx => ?_⟩
        · rw [cut_hi _ _ (by omega), cut_lo _ _ (by omega), List.length_take, List.length_drop]
          exact Nat.le_of_lt (small1000 (by omega))
        · have sx := (su.trans sv).trans (same_upd (o := .lst (cutV (nV lf) none (some (p : Int)) ++ cutV (nV lf) (some ((p + 1 : Nat) : Int)) none)) nx)
          have hDn : (upd H6 D (.lst (nV rw_ ++ [.int (lf.getD p 0 : Nat)]))) D = some (.lst (nV (rw_ ++ [lf.getD p 0]))) := by
            rw [upd_same]
            simp [nV]
          refine ⟨x9, r2, _, _, _, rfl, fun y9 o e => ?_, ?_, rw_ ++ [lf.getD p 0], lf.eraseIdx p, sx _ _ hDn, ?_, perm_step hp hg, ?_, ?_⟩
          · refine sx _ _ ?_
            rw [upd_ne (ne_of_none e nD0)]
            exact s5 _ _ e
          · exact ne_of_none ((su.trans sv) _ _ hDn) nx
          · rw [upd_same, cut_hi _ _ (by omega), cut_lo _ _ (by omega), nV_cut]
          · rw [List.length_append, hrl]
            rfl
          · rw [List.length_append, List.length_eraseIdx, if_pos hp1]
            show rw_.length + 1 + _ = _
            omega
    · obtain ⟨L, r, x, y, z, rfl, s5, nDL, rw_, lf, hD, hL, hp, hrl, hlen⟩ := hW
      have e0 : lf = [] := List.length_eq_zero_iff.mp (by omega)
      subst e0
      rw [List.append_nil] at hp
      exact ⟨_, rfl, k H5 D rw_ s5 hD hp⟩
end
end Bm

namespace Bm
open PySem L2
section
variable {P : Program} {w : World} {K : PySem.W.Frag} {mg : Str → Option Value} {base : Heap} {CP CS CR : Addr}
/-! ### _law_kinds, _law_beads: some kinds of beads -/
def spKinds (K : PySem.W.Frag) : Sp := fun vs H Q _ => ∃ (a : Addr) (ns : List Int) (j m : Nat), vs = [.ref a, .int j, .int m] ∧ SqL K H a (iV ns) ∧ 6 ≤ m ∧ m ≤ 10 ∧
  ∀ (H' : Hp) (l : Addr) (ks : List Int), Same H H' → H' l = some (.lst (iV ks)) → KOk ks → ks.length ≤ m → Q (.ref l) H'
theorem scKinds : FnScope ["_law_script", "_law_at", "_law_most", "_law_shape", "_law_size", "_law_variety", "_law_step", "_law_picks", "_law_pick"] ["_law_script", "_law_at", "_law_most"] (defScope sKinds) := ⟨rfl, rfl, rfl, by decide +kernel, rfl, by decide +kernel, by decide +kernel⟩
theorem at_mod {ks : List Int} {z n : Int} (hn : n = ks.length) (h : 0 < n) : ∃ v, v ∈ ks ∧ atI (iV ks) (z % n) = some (.int v) := by
  have h1 := Int.emod_nonneg z (show n ≠ 0 by omega)
  have h2 := Int.emod_lt_of_pos z h
  exact at_int (by omega) (by omega)
theorem c_kinds (T : Txt K mg CP CS CR) : Cal P w K mg base 3 "_law_kinds" (spKinds K) := cal_of T.dKinds fun f fd F => by
  refine F.ok scKinds (fun vs H Q E h => ?_) (fun cdv A outer s H vs Q E hr h => ?_)
  · obtain ⟨a, ns, j, m, rfl, _⟩ := h
    rfl
  · obtain ⟨a, ns, j, m, rfl, hS, m1, m2, k⟩ := h
    refine ⟨_, pss_cons (ps_set (i := 3) scKinds.nd rfl (.inr rfl) (pc (c_draws T) hr (by decide) (by rfl) (pa_cons (pc (c_cell T) hr (by decide) (by rfl) (pa_cons (pv 0) (pa_cons (pv 1) pa_nil))) (pa_cons pe_int (pa_cons pe_int pa_nil)))))
      (pss_cons (ps_set (i := 4) scKinds.nd rfl (.inl rfl) (pe_op op_add pe_int (pe_op op_mod (pe_ix ix_list (pv 3) pe_int (fun _ _ => rfl)) (pe_op op_sub (pv 2) pe_int))))
      (pss_cons (ps_set (i := 5) scKinds.nd rfl (.inl rfl) (pe_ix ix_list (pe_lst (pa_cons pe_int (pa_cons pe_int (pa_cons pe_int (pa_cons pe_int (pa_cons pe_int (pa_cons pe_int (pa_cons pe_int (pa_cons pe_int pa_nil))))))))) (pe_op op_mod (pe_ix ix_list (pv 3) pe_int (fun _ _ => rfl)) pe_int) (fun _ _ => rfl)))
      (pss_cons (ps_set (i := 6) scKinds.nd rfl (.inr rfl) (pe_ix ix_list (pe_lst (pa_cons pe_int (pa_cons pe_int (pa_cons pe_int (pa_cons pe_int pa_nil))))) (pe_op op_mod (pe_ix ix_list (pv 3) pe_int (fun _ _ => rfl)) pe_int) (fun _ _ => rfl)))
      (pss_cons (ps_set (i := 7) scKinds.nd rfl (.inl rfl) (pc (c_draws T) hr (by decide) (by rfl) (pa_cons (pc (c_cell T) hr (by decide) (by rfl) (pa_cons (pv 0) (pa_cons (pe_op op_add (pv 1) pe_int) pa_nil))) (pa_cons (pv 4) (pa_cons (pv 5) pa_nil)))))
      (pss_one (ps_ret (pe_lc (own := [("_law_pick", 8)]) (g := gName 8) (by rfl) scKinds.nd (pi_list (pv 7)) (blkOk_by (own := [("_law_pick", 8)]) (N := ["_law_script", "_law_at", "_law_most", "_law_shape", "_law_size", "_law_variety", "_law_step", "_law_picks", "_law_pick"]) (sc := defScope sKinds) (by decide +kernel))
        (fun _ _ _ _ _ => pg_name (i := 8) scKinds.nd rfl (Or.inl rfl)) (fun _ _ _ _ _ => pts_nil)
        (fun _ _ _ _ _ => pe_op op_mod (pe_callTy call_int1 (by rfl) (T.b "int") (by decide +kernel) (pa_cons (pe_op op_add (pe_ix (r := rIxL K) ix_list (pv 3) pe_int (fun _ _ => rfl)) (pe_op op_mul (pv 8) (pv 6))) pa_nil)) pe_int)))))))), ?_⟩
    refine ⟨_, rfl, _, rfl, a, ns, j, rfl, hS, fun c => ⟨c, 1000, 4, rfl, by decide, by decide, by decide, fun H1 l1 ds s1 hl1 len1 b1 => ?_⟩⟩
    obtain ⟨d0, _, e0⟩ := at_int (ks := ds) (i := 0) (by omega) (by omega)
    obtain ⟨d1, _, e1⟩ := at_int (ks := ds) (i := 1) (by omega) (by omega)
    obtain ⟨d2, _, e2⟩ := at_int (ks := ds) (i := 2) (by omega) (by omega)
    obtain ⟨d3, _, e3⟩ := at_int (ks := ds) (i := 3) (by omega) (by omega)
    have md := And.intro (Int.emod_nonneg d0 (show (m : Int) - 1 ≠ 0 by omega)) (Int.emod_lt_of_pos d0 (show (0 : Int) < (m : Int) - 1 by omega))
    obtain ⟨n, hn⟩ : ∃ n : Nat, 2 + d0 % ((m : Int) - 1) = n := ⟨(2 + d0 % ((m : Int) - 1)).toNat, by omega⟩
    -- size
    refine ⟨_, rfl, l1, _, _, _, rfl, rfl, SqL.of hl1, e0, _, rfl, _, _, rfl, rfl, _, _, rfl, rfl, (by show (0 : Int) < (m : Int) - 1; omega), _, _, rfl, rfl, ?_⟩
    -- variety
    refine ⟨by show 8 ≤ sizeLine; decide, fun l2 nl2 => ?_⟩
    have s2 := same_upd (o := .lst (iV [1, 2, 2, 3, 3, 4, 6, 24])) nl2
    obtain ⟨v, hv, ev⟩ := at_mod (ks := [1, 2, 2, 3, 3, 4, 6, 24]) (z := d1) (n := 8) rfl (by decide)
    refine ⟨_, rfl, l1, _, _, _, rfl, rfl, SqL.of (s2 _ _ hl1), e1, _, _, rfl, rfl, (by show (0 : Int) < 8; decide), l2, iV [1, 2, 2, 3, 3, 4, 6, 24], _, _, rfl, rfl, SqL.of upd_same, ev, ?_⟩
    have bv : 1 ≤ v ∧ v ≤ 24 := by
      simp only [List.mem_cons, List.not_mem_nil, or_false] at hv
      omega
    -- step
    refine ⟨by show 4 ≤ sizeLine; decide, fun l3 nl3 => ?_⟩
    have s3 := s2.trans (same_upd (o := .lst (iV [1, 7, 333, 999])) nl3)
    obtain ⟨st, hst, est⟩ := at_mod (ks := [1, 7, 333, 999]) (z := d3) (n := 4) rfl (by decide)
    refine ⟨_, rfl, l1, _, _, _, rfl, rfl, SqL.of (s3 _ _ hl1), e3, _, _, rfl, rfl, (by show (0 : Int) < 4; decide), l3, iV [1, 7, 333, 999], _, _, rfl, rfl, SqL.of upd_same, est, ?_⟩
    -- picks
    have s13 := s1.trans s3
    refine ⟨_, rfl, _, rfl, _, _, rfl, rfl, a, ns, j + 1, ?_, s13.seq hS, fun c2 => ⟨_, rfl, _, rfl, c2, v, n, ?_, by omega, by omega, by omega, fun H4 l4 ps s4 hl4 len4 b4 => ?_⟩⟩
    · show [V.ref a, V.int ((j : Int) + 1)] = _
      rfl
    · show [V.int c2, V.int (2 + d0 % ((m : Int) - 1)), V.int v] = _
      rw [hn]
    -- the kinds
    refine ⟨_, rfl, l4, rfl, ⟨_, SqL.of hl4⟩, fun D nD => ?_⟩
    refine lc_list (K := K) (a := l4) (xs := iV ps) (fun i H6 => Same H4 H6 ∧ ∃ ks : List Int, H6 D = some (.lst (iV ks)) ∧ ks.length = i ∧ ∀ k ∈ ks, 0 ≤ k ∧ k ≤ 999) ⟨same_upd nD, [], upd_same, rfl, fun k hk => (by cases hk)⟩ (fun i H6 _ hW => SqL.of (hW.1 _ _ hl4)) (fun i x H6 hx hW => ?_) (fun H6 hW => ?_)
    · obtain ⟨s6, ks, hD, hk1, hk2⟩ := hW
      rw [List.getElem?_map] at hx
      obtain ⟨y, hy, rfl⟩ := Option.map_eq_some_iff.mp hx
      have by_ := b4 y (List.mem_of_getElem? hy)
      have il : i < ps.length := by
        by_cases c : i < ps.length
        · exact c
        · rw [List.getElem?_eq_none (by omega)] at hy; cases hy
      refine ⟨rfl, yesT ?_⟩
      refine ⟨_, rfl, l1, _, _, _, rfl, rfl, SqL.of (s6 _ _ (s4 _ _ (s3 _ _ hl1))), e2, _, rfl, _, rfl, _, _, rfl, rfl, .inl ⟨by omega, by omega⟩, _, _, rfl, rfl, .inl ⟨_, rfl, _, _, rfl, rfl, (by show (0 : Int) < 1000; decide), ?_⟩⟩
      refine ⟨iV ks, hD, by rw [List.length_map]; exact small1000 (by omega), fun c o e => ?_, ks ++ [(d2 + y * st) % 1000], ?_, ?_, fun k hk => ?_⟩
      · rw [upd_ne (ne_of_none e nD)]
        exact s6 _ _ e
      · rw [upd_same]
        simp [iV]
      · rw [List.length_append, hk1]
        rfl
      · rcases List.mem_append.mp hk with h | h
        · exact hk2 k h
        · have : k = (d2 + y * st) % 1000 := by simpa using h
          rw [this]
          have := Int.emod_nonneg (d2 + y * st) (show (1000 : Int) ≠ 0 by decide)
          have := Int.emod_lt_of_pos (d2 + y * st) (show (0 : Int) < 1000 by decide)
          omega
    · obtain ⟨s6, ks, hD, hk1, hk2⟩ := hW
      have hl : (iV ps).length = ps.length := List.length_map ..
      exact k H6 D ks ((s13.trans s4).trans s6) hD ⟨by omega, by omega, hk2⟩ (by omega)
theorem scBeads : FnScope ["_law_script", "_law_at", "_law_most", "_law_picks", "_law_rows"] ["_law_script", "_law_at", "_law_most"] (defScope sBeads) := ⟨rfl, rfl, rfl, by decide +kernel, rfl, by decide +kernel, by decide +kernel⟩
/-- a row of kinds to be cut -/
def KRow (H : Hp) (v : V) : Prop := ∃ (l : Addr) (ks : List Int), v = .ref l ∧ H l = some (.lst (iV ks)) ∧ 2 ≤ ks.length ∧ ks.length ≤ 8 ∧ ∀ k ∈ ks, 0 ≤ k ∧ k ≤ 999
theorem KRow.same {H H' : Hp} {v : V} (h : KRow H v) (s : Same H H') : KRow H' v := by
  obtain ⟨l, ks, a, b, c⟩ := h
  exact ⟨l, ks, a, s _ _ b, c⟩
theorem KRow.new {H : Hp} {l : Addr} (ks : List Int) (h : (decide (2 ≤ ks.length) && decide (ks.length ≤ 8) && ks.all fun k => decide (0 ≤ k) && decide (k ≤ 999)) = true) : KRow (upd H l (.lst (iV ks))) (.ref l) := by
  simp only [Bool.and_eq_true, decide_eq_true_eq, List.all_eq_true] at h
  exact ⟨l, ks, rfl, upd_same, h.1.1, h.1.2, fun k hk => h.2 k hk⟩
theorem KRow.app {H : Hp} {L b : Addr} {Ls : List V} {ks : List Int} (hL : H L = some (.lst Ls)) (rows : ∀ v ∈ Ls, KRow H v) (nb : H b = none) (hk : KRow (upd H b (.lst (iV ks))) (.ref b)) :
    ∀ v ∈ Ls ++ [.ref b], KRow (upd (upd H b (.lst (iV ks))) L (.lst (Ls ++ [.ref b]))) v := by
  have nLb : L ≠ b := ne_of_none hL nb
  have keep : ∀ v, KRow (upd H b (.lst (iV ks))) v → v ≠ .ref L → KRow (upd (upd H b (.lst (iV ks))) L (.lst (Ls ++ [.ref b]))) v := fun v e ne => by
    obtain ⟨l, k2, rfl, e3, e4⟩ := e
    exact ⟨l, k2, rfl, by rw [upd_ne (fun z => ne (by rw [z]))]; exact e3, e4⟩
  intro v hv
  rcases List.mem_append.mp hv with h | h
  · refine keep v ((rows v h).same (same_upd nb)) fun e => ?_
    obtain ⟨l, k2, e1, e2, _⟩ := rows v h
    rw [e] at e1
    injection e1 with e1
    rw [← e1, hL] at e2
    injection e2 with e2
    injection e2 with e2
    rw [e2] at h
    obtain ⟨z, _, ez⟩ := List.mem_map.mp h
    rw [e] at ez
    cases ez
  · have : v = .ref b := by simpa using h
    subst this
    exact keep _ hk fun e => by
      injection e with e
      exact nLb e.symm
theorem at_any {xs : List V} {i : Int} (h1 : 0 ≤ i) (h2 : i < xs.length) : ∃ v, v ∈ xs ∧ atI xs i = some v := by
  obtain ⟨j, rfl⟩ : ∃ j : Nat, i = j := ⟨i.toNat, by omega⟩
  have hl : j < xs.length := by omega
  exact ⟨xs[j], List.getElem_mem hl, atI_nat (List.getElem?_eq_getElem hl)⟩
theorem cut_take (xs : List V) (m : Nat) : cutV xs none (some (m : Int)) = xs.take m := by
  unfold cutV
  rw [HT.sIx_none, HT.sIx_nat]
  show (xs.drop 0).take (min m xs.length - 0) = _
  rw [List.drop_zero, Nat.sub_zero]
  by_cases c : m ≤ xs.length
  · rw [Nat.min_eq_left c]
  · rw [Nat.min_eq_right (by omega), List.take_of_length_le (Nat.le_refl _), List.take_of_length_le (by omega)]
theorem c_beads (T : Txt K mg CP CS CR) : Cal P w K mg base 4 "_law_beads" (spKinds K) := cal_of T.dBeads fun f fd F => by
  refine F.ok scBeads (fun vs H Q E h => ?_) (fun cdv A outer s H vs Q E hr h => ?_)
  · obtain ⟨a, ns, j, m, rfl, _⟩ := h
    rfl
  · obtain ⟨a, ns, j, m, rfl, hS, m1, m2, k⟩ := h
    refine ⟨_, pss_cons (ps_set (i := 3) scBeads.nd rfl (.inl rfl) (pc (c_draws T) hr (by decide) (by rfl) (pa_cons (pc (c_cell T) hr (by decide) (by rfl) (pa_cons (pv 0) (pa_cons (pv 1) pa_nil))) (pa_cons pe_int (pa_cons pe_int pa_nil)))))
      (pss_cons (ps_if (pt_cmpR op_ne (pe_op op_mod (pe_callTy call_int1 (by rfl) (T.b "int") (by decide +kernel) (pa_cons (pe_ix ix_list (pv 3) pe_int (fun _ _ => rfl)) pa_nil)) pe_int) pe_int (nomark _)) (pss_one (ps_ret (pc (c_kinds T) hr (by decide) (by rfl) (pa_cons (pv 0) (pa_cons (pv 1) (pa_cons (pv 2) pa_nil)))))) pss_nil)
      (C8.pss_cut (ps_set (i := 4) scBeads.nd rfl (.inl rfl) (pe_lst
        (pa_cons (pe_lst (pa_cons pe_int (pa_cons pe_int pa_nil)))
        (pa_cons (pe_lst (pa_cons pe_int (pa_cons pe_int pa_nil)))
        (pa_cons (pe_lst (pa_cons pe_int (pa_cons pe_int (pa_cons pe_int (pa_cons pe_int pa_nil)))))
        (pa_cons (pe_lst (pa_cons pe_int (pa_cons pe_int (pa_cons pe_int pa_nil))))
        (pa_cons (pe_lst (pa_cons pe_int (pa_cons pe_int (pa_cons pe_int pa_nil))))
        (pa_cons (pe_lst (pa_cons pe_int (pa_cons pe_int (pa_cons pe_int (pa_cons pe_int pa_nil)))))
        (pa_cons (pe_lst (pa_cons pe_int (pa_cons pe_int (pa_cons pe_int (pa_cons pe_int (pa_cons pe_int pa_nil))))))
        (pa_cons (pe_lst (pa_cons pe_int (pa_cons pe_int (pa_cons pe_int (pa_cons pe_int (pa_cons pe_int pa_nil))))))
        pa_nil))))))))))
      (pss_cons (ps_expr (pe_bm PySem.F.plainAttrs_list PySem.F.slot_list_append PySem.F.type_list_append mt_append (pv 4) (pa_cons (pe_lst (pa_cons pe_int (pa_cons pe_int (pa_cons pe_int (pa_cons pe_int (pa_cons pe_int pa_nil)))))) pa_nil)))
      (pss_cons (ps_expr (pe_bm PySem.F.plainAttrs_list PySem.F.slot_list_append PySem.F.type_list_append mt_append (pv 4) (pa_cons (pe_lst (pa_cons pe_int (pa_cons pe_int (pa_cons pe_int (pa_cons pe_int (pa_cons pe_int (pa_cons pe_int (pa_cons pe_int (pa_cons pe_int pa_nil))))))))) pa_nil)))
      (pss_one (ps_ret (pe_slice sl_list (pe_ix ix_list (pv 4) (pe_op op_mod (pe_callTy call_int1 (by rfl) (T.b "int") (by decide +kernel) (pa_cons (pe_ix ix_list (pv 3) pe_int (fun _ _ => rfl)) pa_nil)) pe_int) (fun _ _ => rfl)) po_none (po_some (pv 2))))))))), ?_⟩
    refine ⟨_, rfl, _, rfl, a, ns, j, rfl, hS, fun c => ⟨c, 1000, 6, rfl, by decide, by decide, by decide, fun H1 l1 ds s1 hl1 len1 b1 => ?_⟩⟩
    obtain ⟨d4, _, e4⟩ := at_int (ks := ds) (i := 4) (by omega) (by omega)
    obtain ⟨d5, _, e5⟩ := at_int (ks := ds) (i := 5) (by omega) (by omega)
    refine ⟨_, rfl, l1, _, _, _, rfl, rfl, SqL.of hl1, e4, .inl ⟨_, rfl, _, _, rfl, rfl, (by show (0 : Int) < 3; decide), rfl, _, rfl, ?_⟩⟩
    refine iteN (fun _ => ?_) fun _ => ?_
    · exact ⟨_, rfl, _, rfl, _, rfl, a, ns, j, m, rfl, s1.seq hS, m1, m2, fun H2 l ks s2 => k H2 l ks (s1.trans s2)⟩
    · -- the fixed rows
      have sz : ∀ {n : Nat}, n ≤ 100 → n ≤ sizeLine := fun h => Nat.le_of_lt (small1000 (by omega))
      refine ⟨fun σ H2 => ∃ (L : Addr) (Ls : List V), σ = [some (.ref a), some (.int j), some (.int m), some (.ref l1), some (.ref L)] ∧ Same H1 H2 ∧ H1 L = none ∧ H2 L = some (.lst Ls) ∧ Ls.length = 8 ∧ ∀ v ∈ Ls, KRow H2 v, ?_, fun σ H2 hM => ?_⟩
      refine ⟨sz (by decide), fun a0 n0 => ⟨sz (by decide), fun a1 n1 => ⟨sz (by decide), fun a2 n2 => ⟨sz (by decide), fun a3 n3 => ⟨sz (by decide), fun a4 n4 => ⟨sz (by decide), fun a5 n5 => ⟨sz (by decide), fun a6 n6 => ⟨sz (by decide), fun a7 n7 => ⟨sz (by show 8 ≤ 100; decide), fun L nL => ?_⟩⟩⟩⟩⟩⟩⟩⟩⟩
      have t0 := same_upd (o := .lst (iV [5, 5])) n0
      have t1 := same_upd (o := .lst (iV [5, 8])) n1
      have t2 := same_upd (o := .lst (iV [7, 7, 7, 7])) n2
      have t3 := same_upd (o := .lst (iV [1, 2, 1])) n3
      have t4 := same_upd (o := .lst (iV [1, 2, 3])) n4
      have t5 := same_upd (o := .lst (iV [1, 2, 1, 2])) n5
      have t6 := same_upd (o := .lst (iV [1, 2, 1, 3, 1])) n6
      have t7 := same_upd (o := .lst (iV [1, 2, 1, 2, 1])) n7
      have t8 := same_upd (o := .lst [.ref a0, .ref a1, .ref a2, .ref a3, .ref a4, .ref a5, .ref a6, .ref a7]) nL
      have r7 := (KRow.new (H := _) (l := a7) [1, 2, 1, 2, 1] (by decide)).same t8
      have r6 := (KRow.new (H := _) (l := a6) [1, 2, 1, 3, 1] (by decide)).same (t7.trans t8)
      have r5 := (KRow.new (H := _) (l := a5) [1, 2, 1, 2] (by decide)).same (t6.trans (t7.trans t8))
      have r4 := (KRow.new (H := _) (l := a4) [1, 2, 3] (by decide)).same (t5.trans (t6.trans (t7.trans t8)))
      have r3 := (KRow.new (H := _) (l := a3) [1, 2, 1] (by decide)).same (t4.trans (t5.trans (t6.trans (t7.trans t8))))
      have r2 := (KRow.new (H := _) (l := a2) [7, 7, 7, 7] (by decide)).same (t3.trans (t4.trans (t5.trans (t6.trans (t7.trans t8)))))
      have r1 := (KRow.new (H := _) (l := a1) [5, 8] (by decide)).same (t2.trans (t3.trans (t4.trans (t5.trans (t6.trans (t7.trans t8))))))
      have r0 := (KRow.new (H := _) (l := a0) [5, 5] (by decide)).same (t1.trans (t2.trans (t3.trans (t4.trans (t5.trans (t6.trans (t7.trans t8)))))))
      have s2 := t0.trans (t1.trans (t2.trans (t3.trans (t4.trans (t5.trans (t6.trans (t7.trans t8)))))))
      have nL0 : H1 L = none := (t0.trans (t1.trans (t2.trans (t3.trans (t4.trans (t5.trans (t6.trans t7))))))).free nL
      refine ⟨L, _, rfl, s2, nL0, upd_same, rfl, fun v hv => ?_⟩
      simp only [List.mem_cons, List.not_mem_nil, or_false] at hv
      rcases hv with rfl | rfl | rfl | rfl | rfl | rfl | rfl | rfl
      · exact r0
      · exact r1
      · exact r2
      · exact r3
      · exact r4
      · exact r5
      · exact r6
      · exact r7
      obtain ⟨L, Ls, rfl, s2, nL1, hL, hlen, rows⟩ := hM
      have nL0 : H L = none := s1.free nL1
      -- two more
      refine ⟨_, rfl, .inl ⟨rfl, _, SqL.of hL⟩, sz (by decide), fun b8 n8 => ?_⟩
      have u8 := same_upd (o := .lst (iV [0, 999, 5, 999, 0])) n8
      have q8 : KRow (upd H2 b8 (.lst (iV [0, 999, 5, 999, 0]))) (.ref b8) := KRow.new _ (by decide)
      refine ⟨L, Ls, _, rfl, rfl, u8 _ _ hL, small1000 (by omega), ?_⟩
      have rows2 := KRow.app hL rows n8 q8
      have s3 : Same H1 (upd (upd H2 b8 (.lst (iV [0, 999, 5, 999, 0]))) L (.lst (Ls ++ [.ref b8]))) := fun y o e => by
        rw [upd_ne (ne_of_none e nL1)]
        exact u8 _ _ (s2 _ _ e)
      have hL3 : (upd (upd H2 b8 (.lst (iV [0, 999, 5, 999, 0]))) L (.lst (Ls ++ [.ref b8]))) L = some (.lst (Ls ++ [.ref b8])) := upd_same
      have len3 : (Ls ++ [V.ref b8]).length = 9 := by rw [List.length_append, hlen]; rfl
      refine ⟨_, rfl, .inl ⟨rfl, _, SqL.of hL3⟩, sz (by decide), fun b9 n9 => ?_⟩
      have u9 := same_upd (o := .lst (iV [0, 1, 2, 0, 0, 2, 1, 0])) n9
      have hL4 := u9 _ _ hL3
      refine ⟨L, Ls ++ [V.ref b8], V.ref b9, rfl, rfl, hL4, small1000 (by omega), ?_⟩
      have rows4 := KRow.app (ks := [0, 1, 2, 0, 0, 2, 1, 0]) hL3 rows2 n9 (KRow.new _ (by decide))
      have len4 : ((Ls ++ [V.ref b8]) ++ [V.ref b9]).length = 10 := by rw [List.length_append, len3]; rfl
      have s4 : Same H1 (upd (upd (upd (upd H2 b8 (.lst (iV [0, 999, 5, 999, 0]))) L (.lst (Ls ++ [.ref b8]))) b9 (.lst (iV [0, 1, 2, 0, 0, 2, 1, 0]))) L (.lst ((Ls ++ [.ref b8]) ++ [.ref b9]))) := fun y o e => by
        rw [upd_ne (ne_of_none e nL1)]
        exact u9 _ _ (s3 _ _ e)
      have hz := And.intro (Int.emod_nonneg d5 (show (10 : Int) ≠ 0 by decide)) (Int.emod_lt_of_pos d5 (show (0 : Int) < 10 by decide))
      obtain ⟨v, hv, ev⟩ := at_any (xs := (Ls ++ [V.ref b8]) ++ [V.ref b9]) (i := d5 % 10) hz.1 (by omega)
      obtain ⟨l, ks, rfl, e1, e2, e3, e6⟩ := rows4 v hv
      refine ⟨_, rfl, _, rfl, l1, _, _, _, rfl, rfl, SqL.of (s4 _ _ hl1), e5, .inl ⟨_, rfl, _, _, rfl, rfl, (by show (0 : Int) < 10; decide), L, _, _, _, rfl, rfl, SqL.of upd_same, ev, ?_⟩⟩
      refine ⟨_, rfl, _, rfl, l, _, rfl, SqL.of e1, fun q nq => ?_⟩
      have sq := same_upd (o := .lst (cutV (iV ks) none (some (m : Int)))) nq
      refine k _ q (ks.take m) ((s1.trans s4).trans sq) ?_ ⟨?_, ?_, fun k hk => e6 k (List.mem_of_mem_take hk)⟩ ?_
      · rw [upd_same, cut_take]
        simp [iV, List.map_take]
      · rw [List.length_take]; omega
      · rw [List.length_take]; omega
      · rw [List.length_take]; omega
end
end Bm

namespace Bm
open PySem L2
section
variable {P : Program} {w : World} {K : PySem.W.Frag} {mg : Str → Option Value} {base : Heap} {CP CS CR : Addr}
/-! ### _law_is_integer, _law_is_run, _law_is_order -/
def spIsInt : Sp := fun vs H Q _ => ∃ i : Int, vs = [.int i] ∧ Q (.bl true) H
theorem scIsInt : FnScope ["_law_actual"] ["_law_actual"] (defScope sIsInt) := ⟨rfl, rfl, rfl, by decide +kernel, rfl, by decide +kernel, by decide +kernel⟩
theorem c_isint (T : Txt K mg CP CS CR) : Cal P w K mg base 1 "_law_is_integer" spIsInt := cal_of T.dIsInt fun f fd F => by
  refine F.ok scIsInt (fun vs H Q E h => ?_) (fun cdv A outer s H vs Q E hr h => ?_)
  · obtain ⟨i, rfl, _⟩ := h
    rfl
  · obtain ⟨i, rfl, k⟩ := h
    refine ⟨_, pss_one (ps_ret (pe_and (pe_callB call_isi (by rfl) (T.b "isinstance") (by decide +kernel) (pa_cons (pv 0) (pa_cons (pe_bltn (v := .ty "int") (by rfl) (T.b "int") (by decide +kernel) rfl) pa_nil)))
      (pe_one (pe_not (pe_callB call_isi (by rfl) (T.b "isinstance") (by decide +kernel) (pa_cons (pv 0) (pa_cons (pe_bltn (v := .ty "bool") (by rfl) (T.b "bool") (by decide +kernel) rfl) pa_nil))))))), ?_⟩
    refine ⟨_, rfl, _, _, _, _, true, rfl, .ty _, .base (.int i), kit_ty (by decide +kernel), true, rfl, ?_⟩
    refine iteT ?_
    exact ⟨_, rfl, _, _, _, _, false, rfl, .ty _, .base (.int i), kit_ty (by decide +kernel), false, rfl, k⟩
def spIsRun : Sp := fun vs H Q _ => ∃ (a : Addr) (n : Nat) (r : List Nat), vs = [.ref a, .int n] ∧ H a = some (.lst (nV r)) ∧ r.Nodup ∧ (∀ x ∈ r, 1 ≤ x ∧ x + 2 ≤ n) ∧ r.length ≤ 900 ∧ ∀ H' : Hp, Same H H' → Q (.bl true) H'
theorem scIsRun : FnScope ["_law_actual", "_law_size", "_law_seen", "_law_bead"] ["_law_actual", "_law_size"] (defScope sIsRun) := ⟨rfl, rfl, rfl, by decide +kernel, rfl, by decide +kernel, by decide +kernel⟩
theorem c_isrun (T : Txt K mg CP CS CR) : Cal P w K mg base 2 "_law_is_run" spIsRun := cal_of T.dIsRun fun f fd F => by
  refine F.ok scIsRun (fun vs H Q E h => ?_) (fun cdv A outer s H vs Q E hr h => ?_)
  · obtain ⟨a, n, r, rfl, _⟩ := h
    rfl
  · obtain ⟨a, n, r, rfl, hA, nd, bd, hl, k⟩ := h
    refine ⟨_, pss_cons (ps_if (pt_not (pt_val (pe_callB call_isi (by rfl) (T.b "isinstance") (by decide +kernel) (pa_cons (pv 0) (pa_cons (pe_bltn (v := .ty "list") (by rfl) (T.b "list") (by decide +kernel) rfl) pa_nil))))) pss_never pss_nil)
      (pss_cons (ps_set (i := 2) scIsRun.nd rfl (.inl rfl) (pe_lst pa_nil))
      (pss_cons (ps_for PassesOwn.never rfl (pi_list (pv 0)) (pg_name (i := 3) scIsRun.nd rfl (.inl rfl))
        (pss_cons (ps_if (PW.pt (pw_or (pt_not (pt_val (pc (c_isint T) hr (by decide) (by rfl) (pa_cons (pv 3) pa_nil)))) (pw_or (pt_cmpR op_lt (pv 3) pe_int (nomark _)) (pw_or (pt_cmpR op_gt (pv 3) (pe_op op_sub (pv 1) pe_int) (nomark _)) (pw_or1 (pt_cmpR op_in_seq (pv 3) (pv 2) (by rfl))))))) pss_never pss_nil)
        (pss_one (ps_expr (pe_bm PySem.F.plainAttrs_list PySem.F.slot_list_append PySem.F.type_list_append mt_append (pv 2) (pa_cons (pv 3) pa_nil))))))
      (pss_one (ps_ret pe_bl)))), ?_⟩
    refine ⟨_, rfl, _, _, _, _, true, rfl, .ty _, .base (.lst hA), kit_ty (by decide +kernel), true, rfl, ?_⟩
    refine iteF ?_
    refine ⟨Nat.zero_le _, fun D nD => ⟨_, rfl, a, rfl, ⟨_, SqL.of (same_upd nD _ _ hA)⟩, ?_⟩⟩
    refine for_list (K := K) (a := a) (xs := nV r) (fun i σ5 H5 => (∃ y, σ5 = [some (.ref a), some (.int n), some (.ref D), y]) ∧ Same H H5 ∧ H5 D = some (.lst (nV (r.take i)))) ⟨⟨_, rfl⟩, same_upd nD, upd_same⟩ (fun i σ5 H5 _ hW => SqL.of (hW.2.1 _ _ hA)) (fun i x σ5 H5 hx hW => ?_) (fun σ5 H5 hW => ?_)
    · obtain ⟨⟨y, rfl⟩, s5, hD⟩ := hW
      rw [List.getElem?_map] at hx
      obtain ⟨b, hb, rfl⟩ := Option.map_eq_some_iff.mp hx
      have bb := bd b (List.mem_of_getElem? hb)
      refine ⟨_, rfl, b, rfl, true, rfl, ?_⟩
      refine iteF ?_
      refine ⟨_, rfl, _, _, rfl, rfl, _, rfl, iteD (fun h => absurd h (by omega)) fun _ => ?_⟩
      refine ⟨_, rfl, _, rfl, _, _, rfl, rfl, _, _, rfl, rfl, _, rfl, iteD (fun h => absurd h (by omega)) fun _ => ?_⟩
      refine ⟨_, rfl, _, rfl, D, _, rfl, .inl (SqL.of hD), rfl, flat_nV _, _, rfl, ?_⟩
      have nb : b ∉ r.take i := fun m => by
        obtain ⟨j, hj, ej⟩ := List.getElem_of_mem m
        rw [List.length_take] at hj
        rw [List.getElem_take] at ej
        obtain ⟨hi, e⟩ := List.getElem?_eq_some_iff.mp hb
        have := (List.getElem_inj nd).mp (ej.trans e.symm)
        omega
      rw [inV_nat, decide_eq_false nb]
      refine iteF ?_
      refine ⟨_, rfl, .inl ⟨rfl, _, SqL.of hD⟩, _, rfl, D, _, _, rfl, rfl, hD, ?_, ⟨_, rfl⟩, fun c o e => ?_, ?_⟩
      · rw [List.length_map, List.length_take]
        exact small1000 (by omega)
      · rw [upd_ne (ne_of_none e nD)]
        exact s5 _ _ e
      · rw [upd_same, List.take_succ, hb]
        simp [nV]
    · exact k H5 hW.2.1
theorem scIsOrd : FnScope ["_law_actual", "_law_size"] ["_law_actual", "_law_size"] (defScope sIsOrd) := ⟨rfl, rfl, rfl, by decide +kernel, rfl, by decide +kernel, by decide +kernel⟩
def spIsOrd : Sp := fun vs H Q _ => ∃ (a : Addr) (n : Nat) (r : List Nat), vs = [.ref a, .int n] ∧ H a = some (.lst (nV r)) ∧ r.Nodup ∧ (∀ x ∈ r, 1 ≤ x ∧ x + 2 ≤ n) ∧ r.length ≤ 900 ∧ r.length + 2 = n ∧ ∀ H' : Hp, Same H H' → Q (.bl true) H'
theorem c_isord (T : Txt K mg CP CS CR) : Cal P w K mg base 3 "_law_is_order" spIsOrd := cal_of T.dIsOrd fun f fd F => by
  refine F.ok scIsOrd (fun vs H Q E h => ?_) (fun cdv A outer s H vs Q E hr h => ?_)
  · obtain ⟨a, n, r, rfl, _⟩ := h
    rfl
  · obtain ⟨a, n, r, rfl, hA, nd, bd, hl, hn, k⟩ := h
    refine ⟨_, pss_one (ps_ret (pe_and (pc (c_isrun T) hr (by decide) (by rfl) (pa_cons (pv 0) (pa_cons (pv 1) pa_nil))) (pe_one (pe_cmpR op_eq (pe_callB call_len_seq (by rfl) (T.b "len") PySem.boot_len (pa_cons (pv 0) pa_nil)) (pe_op op_sub (pv 1) pe_int) (nomark _))))), ?_⟩
    refine ⟨_, rfl, _, rfl, a, n, r, rfl, hA, nd, bd, hl, fun H1 s1 => ⟨true, rfl, ?_⟩⟩
    refine iteT ?_
    refine ⟨_, rfl, a, _, rfl, .inl (SqL.of (s1 _ _ hA)), _, rfl, _, _, rfl, rfl, rfl, ?_⟩
    have e : decide (V.int ((nV r).length : Int) = V.int ((n : Int) - 2)) = true := decide_eq_true (by rw [List.length_map]; congr 1; omega)
    show Q (V.bl (decide (V.int ((nV r).length : Int) = V.int ((n : Int) - 2)))) H1
    rw [e]
    exact k H1 s1
/-! ### _law_same -/
def spSameI : Sp := fun vs H Q _ => ∃ i : Int, vs = [.int i, .int i] ∧ Q (.bl true) H
theorem scSame : FnScope ["_law_actual", "_law_expected", "_law_k"] ["_law_actual", "_law_expected"] (defScope sSame) := ⟨rfl, rfl, rfl, by decide +kernel, rfl, by decide +kernel, by decide +kernel⟩
theorem c_sameI (T : Txt K mg CP CS CR) : Cal P w K mg base 2 "_law_same" spSameI := cal_of T.dSame fun f fd F => by
  refine F.ok scSame (fun vs H Q E h => ?_) (fun cdv A outer s H vs Q E hr h => ?_)
  · obtain ⟨i, rfl, _⟩ := h
    rfl
  · obtain ⟨i, rfl, k⟩ := h
    refine ⟨_, pss_cons (ps_if (pt_cmpR op_isN (pv 1) pe_non (nomark _)) pss_never pss_nil)
      (pss_cons (ps_if (pt_cmpR op_isB (pv 1) pe_bl (nomark _)) pss_never pss_nil)
      (pss_cons (ps_if (pt_cmpR op_isB (pv 1) pe_bl (nomark _)) pss_never pss_nil)
      (pss_cons (ps_if (pt_val (pe_callB call_isi (by rfl) (T.b "isinstance") (by decide +kernel) (pa_cons (pv 1) (pa_cons (pe_bltn (v := .ty "int") (by rfl) (T.b "int") (by decide +kernel) rfl) pa_nil))))
        (pss_one (ps_ret (pe_and (pc (c_isint T) hr (by decide) (by rfl) (pa_cons (pv 0) pa_nil)) (pe_one (pe_cmpR op_eq (pv 0) (pv 1) (nomark _)))))) pss_nil) pss_never))), ?_⟩
    refine ⟨_, rfl, rfl, _, rfl, iteF ?_⟩
    refine ⟨_, rfl, .inl ⟨_, rfl⟩, ⟨_, rfl⟩, _, rfl, iteF ?_⟩
    refine ⟨_, rfl, .inl ⟨_, rfl⟩, ⟨_, rfl⟩, _, rfl, iteF ?_⟩
    refine ⟨_, rfl, _, _, _, _, true, rfl, .ty _, .base (.int i), kit_ty (by decide +kernel), true, rfl, iteT ?_⟩
    refine ⟨_, rfl, i, rfl, true, rfl, iteT ?_⟩
    refine ⟨_, rfl, _, rfl, rfl, ?_⟩
    show Q (V.bl (decide (V.int i = V.int i))) H
    rw [decide_eq_true rfl]
    exact k
def spSame : Sp := fun vs H Q _ => ∃ (a b : Addr) (r : List Nat), vs = [.ref a, .ref b] ∧ H a = some (.lst (nV r)) ∧ H b = some (.lst (nV r)) ∧ r.length ≤ 900 ∧ Q (.bl true) H
theorem c_same (T : Txt K mg CP CS CR) : Cal P w K mg base 3 "_law_same" spSame := cal_of T.dSame fun f fd F => by
  refine F.ok scSame (fun vs H Q E h => ?_) (fun cdv A outer s H vs Q E hr h => ?_)
  · obtain ⟨a, b, r, rfl, _⟩ := h
    rfl
  · obtain ⟨a, b, r, rfl, hA, hB, hl, k⟩ := h
    refine ⟨_, pss_cons (ps_if (pt_cmpR op_isN (pv 1) pe_non (nomark _)) pss_never pss_nil)
      (pss_cons (ps_if (pt_cmpR op_isB (pv 1) pe_bl (nomark _)) pss_never pss_nil)
      (pss_cons (ps_if (pt_cmpR op_isB (pv 1) pe_bl (nomark _)) pss_never pss_nil)
      (pss_cons (ps_if (pt_val (pe_callB call_isi (by rfl) (T.b "isinstance") (by decide +kernel) (pa_cons (pv 1) (pa_cons (pe_bltn (v := .ty "int") (by rfl) (T.b "int") (by decide +kernel) rfl) pa_nil)))) pss_never pss_nil)
      (pss_cons (ps_if (pt_val (pe_callB call_isi (by rfl) (T.b "isinstance") (by decide +kernel) (pa_cons (pv 1) (pa_cons (pe_bltn (v := .ty "str") (by rfl) (T.b "str") (by decide +kernel) rfl) pa_nil)))) pss_never pss_nil)
      (pss_cons (ps_if (PW.pt (pw_or (pt_cmpR op_ne (pe_callB call_isi (by rfl) (T.b "isinstance") (by decide +kernel) (pa_cons (pv 1) (pa_cons (pe_bltn (v := .ty "list") (by rfl) (T.b "list") (by decide +kernel) rfl) pa_nil))) (pe_callB call_isi (by rfl) (T.b "isinstance") (by decide +kernel) (pa_cons (pv 0) (pa_cons (pe_bltn (v := .ty "list") (by rfl) (T.b "list") (by decide +kernel) rfl) pa_nil))) (nomark _))
          (pw_or1 (pt_cmpR op_ne (pe_callB call_isi (by rfl) (T.b "isinstance") (by decide +kernel) (pa_cons (pv 1) (pa_cons (pe_bltn (v := .ty "tuple") (by rfl) (T.b "tuple") (by decide +kernel) rfl) pa_nil))) (pe_callB call_isi (by rfl) (T.b "isinstance") (by decide +kernel) (pa_cons (pv 0) (pa_cons (pe_bltn (v := .ty "tuple") (by rfl) (T.b "tuple") (by decide +kernel) rfl) pa_nil))) (nomark _))))) pss_never pss_nil)
      (pss_cons (ps_if (PW.pt (pw_and (pt_not (pt_val (pe_callB call_isi (by rfl) (T.b "isinstance") (by decide +kernel) (pa_cons (pv 0) (pa_cons (pe_bltn (v := .ty "list") (by rfl) (T.b "list") (by decide +kernel) rfl) pa_nil)))))
          (pw_and1 (pt_not (pt_val (pe_callB call_isi (by rfl) (T.b "isinstance") (by decide +kernel) (pa_cons (pv 0) (pa_cons (pe_bltn (v := .ty "tuple") (by rfl) (T.b "tuple") (by decide +kernel) rfl) pa_nil)))))))) pss_never pss_nil)
      (pss_cons (ps_if (pt_cmpR op_ne (pe_callB call_len_seq (by rfl) (T.b "len") PySem.boot_len (pa_cons (pv 0) pa_nil)) (pe_callB call_len_seq (by rfl) (T.b "len") PySem.boot_len (pa_cons (pv 1) pa_nil)) (nomark _)) pss_never pss_nil)
      (pss_cons (ps_for PassesOwn.never rfl (pi_range1 (by rfl) (T.b "range") (pa_cons (pe_callB call_len_seq (by rfl) (T.b "len") PySem.boot_len (pa_cons (pv 1) pa_nil)) pa_nil)) (pg_name (i := 2) scSame.nd rfl (.inl rfl))
        (pss_one (ps_if (pt_not (pt_val (pc (c_sameI T) hr (by decide) (by rfl) (pa_cons (pe_ix ix_list (pv 0) (pv 2) (fun _ _ => rfl)) (pa_cons (pe_ix ix_list (pv 1) (pv 2) (fun _ _ => rfl)) pa_nil))))) pss_never pss_nil)))
      (pss_one (ps_ret pe_bl)))))))))), ?_⟩
    refine ⟨_, rfl, rfl, _, rfl, iteF ?_⟩
    refine ⟨_, rfl, .inr ⟨_, rfl⟩, ⟨_, rfl⟩, _, rfl, iteF ?_⟩
    refine ⟨_, rfl, .inr ⟨_, rfl⟩, ⟨_, rfl⟩, _, rfl, iteF ?_⟩
    refine ⟨_, rfl, _, _, _, _, false, rfl, .ty _, .base (.lst hB), kit_ty (by decide +kernel), false, rfl, iteF ?_⟩
    refine ⟨_, rfl, _, _, _, _, false, rfl, .ty _, .base (.lst hB), kit_ty (by decide +kernel), false, rfl, iteF ?_⟩
    -- of one form
    refine ⟨_, rfl, _, _, _, _, true, rfl, .ty _, .base (.lst hB), kit_ty (by decide +kernel), _, rfl, _, _, _, _, true, rfl, .ty _, .base (.lst hA), kit_ty (by decide +kernel), rfl, _, rfl, iteNS rfl ?_⟩
    refine ⟨_, rfl, _, _, _, _, false, rfl, .ty _, .base (.lst hB), kit_ty (by decide +kernel), _, rfl, _, _, _, _, false, rfl, .ty _, .base (.lst hA), kit_ty (by decide +kernel), rfl, _, rfl, iteNS rfl ?_⟩
    refine ⟨_, rfl, _, _, _, _, true, rfl, .ty _, .base (.lst hA), kit_ty (by decide +kernel), true, rfl, iteF (iteF ?_)⟩
    refine ⟨_, rfl, a, _, rfl, .inl (SqL.of hA), _, rfl, b, _, rfl, .inl (SqL.of hB), rfl, _, rfl, iteNS rfl ?_⟩
    have e0 : ((nV r).length : Int) = r.length := by simp
    refine ⟨_, rfl, b, _, rfl, .inl (SqL.of hB), ?_⟩
    rw [e0]
    refine ⟨r.length, rfl, by omega, by omega, ?_⟩
    refine for_range (lo := 0) (n := (r.length : Int).toNat) (fun i σ5 H5 => (∃ y, σ5 = [some (.ref a), some (.ref b), y]) ∧ H5 = H) ⟨⟨_, rfl⟩, rfl⟩ (fun i σ5 H5 hi hW => ?_) (fun σ5 H5 hW => ?_)
    · obtain ⟨⟨y, rfl⟩, rfl⟩ := hW
      have ez : 0 + (i : Int) = (i : Int) := by omega
      rw [ez]
      have hg := nV_at (st := r) (i := i) (by omega)
      refine ⟨_, rfl, _, rfl, a, _, _, _, rfl, rfl, SqL.of hA, hg, _, rfl, _, rfl, b, _, _, _, rfl, rfl, SqL.of hB, hg, _, rfl, true, rfl, iteF ?_⟩
      exact ⟨⟨_, rfl⟩, rfl⟩
    · obtain ⟨⟨y, rfl⟩, rfl⟩ := hW
      exact k
end
end Bm

namespace Bm
open PySem L2
theorem small5 {n : Nat} (h : n ≤ 100000) : n < sizeLine := Nat.lt_of_le_of_lt h (by decide)
theorem pget {α β : Type} {F : α → β → Prop} : ∀ {l : List α} {m : List β} {i : Nat} {x : α}, Paired F l m → l[i]? = some x → ∃ y, m[i]? = some y ∧ F x y
  | _, _, _, _, .nil, e => by simp at e
  | _, _, 0, _, .cons h _, e => by
    have e := Option.some.inj (show some _ = some _ from e)
    subst e
    exact ⟨_, rfl, h⟩
  | _, _, i + 1, _, .cons _ t, e => pget (i := i) t e
theorem ext1_len (items r : List Nat) : (ext1 items r).length ≤ items.length := by
  unfold ext1
  rw [List.length_map]
  exact List.length_filter_le _ _
theorem ext_len (items : List Nat) : ∀ rows : List (List Nat), (ext items rows).length ≤ rows.length * items.length
  | [] => by simp [ext]
  | r :: rows => by
    have ih := ext_len items rows
    have h1 := ext1_len items r
    show ((ext1 items r) ++ ext items rows).length ≤ (rows.length + 1) * items.length
    rw [List.length_append, Nat.succ_mul]
    omega
theorem asc_len {items : List Nat} (h : items.length ≤ 5) : ∀ s, (asc items s).length ≤ 5 ^ s
  | 0 => by simp [asc]
  | s + 1 => by
    have ih := asc_len h s
    have h1 := ext_len items (asc items s)
    show (ext items (asc items s)).length ≤ _
    rw [Nat.pow_succ]
    exact Nat.le_trans h1 (Nat.mul_le_mul ih h)
theorem asc_small {items : List Nat} (h : items.length ≤ 5) {s : Nat} (hs : s ≤ 5) : (asc items s).length ≤ 3125 :=
  Nat.le_trans (asc_len h s) (Nat.le_trans (Nat.pow_le_pow_right (by decide) hs) (by decide))
/-- a list at p of lists: at as stand the rows rs -/
structure RA (H : Hp) (p : Addr) (as : List Addr) (rs : List (List Nat)) : Prop where
  at_ : H p = some (.lst (as.map V.ref))
  el : Paired (fun t r => H t = some (.lst (nV r))) as rs
theorem RA.same {H H' : Hp} {p : Addr} {as : List Addr} {rs : List (List Nat)} (h : RA H p as rs) (s : Same H H') : RA H' p as rs := ⟨s _ _ h.at_, L2.Paired.mapP h.el fun _ _ e => s _ _ e⟩
section
variable {P : Program} {w : World} {K : PySem.W.Frag} {mg : Str → Option Value} {base : Heap} {CP CS CR : Addr}
def spAsc (K : PySem.W.Frag) : Sp := fun vs H Q _ => ∃ (a : Addr) (items : List Nat), vs = [.ref a] ∧ SqL K H a (nV items) ∧ items.length ≤ 5 ∧ ∀ (H' : Hp) (p : Addr) (as : List Addr), Same H H' → RA H' p as (asc items items.length) → Q (.ref p) H'
theorem scAsc : FnScope ["_law_items", "_law_rows", "_law_step", "_law_longer", "_law_row", "_law_item"] ["_law_items"] (defScope sAsc) := ⟨rfl, rfl, rfl, by decide +kernel, rfl, by decide +kernel, by decide +kernel⟩
/-- the longer rows so far stand at G -/
def AsI (Hs : Hp) (G : Addr) (rs : List (List Nat)) (H : Hp) : Prop := Same Hs H ∧ ∃ gs : List Addr, RA H G gs rs ∧ G ∉ gs
theorem AsI.put {Hs H : Hp} {G t1 t2 : Addr} {rs : List (List Nat)} {o1 : HO} {r : List Nat} {gs : List Addr} (s : Same Hs H) (ra : RA H G gs rs) (nG : G ∉ gs) (nGs : Hs G = none) (n1 : H t1 = none) (n2 : (upd H t1 o1) t2 = none) :
    AsI Hs G (rs ++ [r]) (upd (upd (upd H t1 o1) t2 (.lst (nV r))) G (.lst (gs.map V.ref ++ [.ref t2]))) := by
  have s1 := (same_upd (o := o1) n1).trans (same_upd (o := .lst (nV r)) n2)
  have g0 := s1 _ _ ra.at_
  have nt : t2 ≠ G := (ne_of_none ((same_upd (o := o1) n1) _ _ ra.at_) n2).symm
  refine ⟨fun y o e => ?_, gs ++ [t2], ⟨?_, ?_⟩, ?_⟩
  · rw [upd_ne (ne_of_none e nGs)]
    exact s1 _ _ (s _ _ e)
  · rw [upd_same, List.map_append]
    rfl
  · refine Paired.snoc ?_ ?_
    · have key : ∀ {l : List Addr} {m : List (List Nat)}, Paired (fun t r => H t = some (.lst (nV r))) l m → G ∉ l → Paired (fun t q => (upd (upd (upd H t1 o1) t2 (.lst (nV r))) G (.lst (gs.map V.ref ++ [.ref t2]))) t = some (.lst (nV q))) l m := by
        intro l m h
        induction h with
        | nil => exact fun _ => .nil
        | cons h t ih =>
          intro hn
          refine .cons ?_ (ih fun z => hn (List.mem_cons_of_mem _ z))
          rw [upd_ne (fun z => hn (by rw [z]; exact List.mem_cons_self))]
          exact s1 _ _ h
      exact key ra.el nG
    · rw [upd_ne nt, upd_same]
  · intro z
    rcases List.mem_append.mp z with h | h
    · exact nG h
    · have : G = t2 := by simpa using h
      exact nt this.symm
theorem c_asc (T : Txt K mg CP CS CR) : Cal P w K mg base 1 "_law_ascending_orders" (spAsc K) := cal_of T.dAsc fun f fd F => by
  refine F.ok scAsc (fun vs H Q E h => ?_) (fun cdv A outer s H vs Q E hr h => ?_)
  · obtain ⟨a, items, rfl, _⟩ := h
    rfl
  · obtain ⟨a, items, rfl, hS, hn, k⟩ := h
    refine ⟨_, pss_cons (ps_set (i := 1) scAsc.nd rfl (.inl rfl) (pe_lst (pa_cons (pe_lst pa_nil) pa_nil)))
      (pss_cons (ps_for PassesOwn.never rfl (pi_range1 (by rfl) (T.b "range") (pa_cons (pe_callB call_len_seq (by rfl) (T.b "len") PySem.boot_len (pa_cons (pv 0) pa_nil)) pa_nil)) (pg_name (i := 2) scAsc.nd rfl (.inl rfl))
        (pss_cons (ps_set (i := 3) scAsc.nd rfl (.inl rfl) (pe_lst pa_nil))
        (pss_cons (ps_for PassesOwn.never rfl (pi_list (pv 1)) (pg_name (i := 4) scAsc.nd rfl (.inl rfl))
          (pss_one (ps_for PassesOwn.never rfl (pi_list (pv 0)) (pg_name (i := 5) scAsc.nd rfl (.inl rfl))
            (pss_one (ps_if (pt_cmpR op_notIn_seq (pv 5) (pv 4) (by rfl))
              (pss_one (ps_expr (pe_bm PySem.F.plainAttrs_list PySem.F.slot_list_append PySem.F.type_list_append mt_append (pv 3) (pa_cons (pe_op op_cat (pv 4) (pe_lst (pa_cons (pv 5) pa_nil))) pa_nil)))) pss_nil)))))
        (pss_one (ps_set (i := 1) scAsc.nd rfl (.inl rfl) (pe_callTy call_list_of (by rfl) (T.b "list") (by decide +kernel) (pa_cons (pv 3) pa_nil)))))))
      (pss_one (ps_ret (pv 1)))), ?_⟩
    refine ⟨Nat.zero_le _, fun t0 n0 => ⟨by show 1 ≤ sizeLine; decide, fun L nL => ?_⟩⟩
    have s0 := same_upd (o := .lst []) n0
    have s1 := s0.trans (same_upd (o := .lst [.ref t0]) nL)
    have e0 : ((nV items).length : Int) = items.length := by simp
    refine ⟨_, rfl, a, _, rfl, .inl (s1.seq hS), ?_⟩
    rw [e0]
    refine ⟨items.length, rfl, by omega, by omega, ?_⟩
    refine for_range (lo := 0) (n := (items.length : Int).toNat) (fun i σ5 H5 => ∃ (L : Addr) (as : List Addr) (x y z v : Option V), σ5 = [some (.ref a), some (.ref L), x, y, z, v] ∧ Same H H5 ∧ RA H5 L as (asc items i))
      ⟨L, [t0], none, none, none, none, rfl, s1, upd_same, .cons (same_upd nL _ _ upd_same) .nil⟩ (fun i σ5 H5 hi hW => ?_) (fun σ5 H5 hW => ?_)
    · obtain ⟨L, as, x, y, z, v, rfl, s5, ra⟩ := hW
      have small := asc_small hn (s := i) (by omega)
      have al : as.length = (asc items i).length := ra.el.length
      refine ⟨Nat.zero_le _, fun G nG => ?_⟩
      have sG := same_upd (o := .lst []) nG
      refine ⟨_, rfl, L, rfl, ⟨_, SqL.of (sG _ _ ra.at_)⟩, ?_⟩
      refine for_list (K := K) (a := L) (xs := as.map V.ref) (fun j σ6 H6 => (∃ x y z, σ6 = [some (.ref a), some (.ref L), x, some (.ref G), y, z]) ∧ AsI H5 G (ext items ((asc items i).take j)) H6)
        ⟨⟨_, _, _, rfl⟩, sG, [], ⟨upd_same, .nil⟩, by simp⟩ (fun j σ6 H6 _ hW => SqL.of (hW.2.1 _ _ ra.at_)) (fun j x6 σ6 H6 hx hW => ?_) (fun σ6 H6 hW => ?_)
      · obtain ⟨⟨x1, y1, z1, rfl⟩, aI⟩ := hW
        rw [List.getElem?_map] at hx
        obtain ⟨t, ht, rfl⟩ := Option.map_eq_some_iff.mp hx
        obtain ⟨row, hrow, hHrow⟩ := pget ra.el ht
        have jl : j < (asc items i).length := by
          by_cases c : j < (asc items i).length
          · exact c
          · rw [List.getElem?_eq_none (by omega)] at hrow; cases hrow
        have rl := (asc_inv i row (List.mem_of_getElem? hrow)).2.2
        refine ⟨_, rfl, a, rfl, ⟨_, (s5.trans aI.1).seq hS⟩, ?_⟩
        refine for_list (K := K) (a := a) (xs := nV items) (fun q σ7 H7 => (∃ x z, σ7 = [some (.ref a), some (.ref L), x, some (.ref G), some (.ref t), z]) ∧ AsI H5 G (ext items ((asc items i).take j) ++ ((items.take q).filter fun x => !row.contains x).map fun x => row ++ [x]) H7)
          ⟨⟨_, _, rfl⟩, by simpa using aI⟩ (fun q σ7 H7 _ hW => (s5.trans hW.2.1).seq hS) (fun q x7 σ7 H7 hx7 hW => ?_) (fun σ7 H7 hW => ?_)
        · obtain ⟨⟨x2, z2, rfl⟩, s7, gs, rg, nG7⟩ := hW
          rw [List.getElem?_map] at hx7
          obtain ⟨it, hit, rfl⟩ := Option.map_eq_some_iff.mp hx7
          have hrow7 := s7 _ _ hHrow
          refine ⟨_, rfl, _, rfl, t, _, rfl, .inl (SqL.of hrow7), rfl, flat_nV _, _, rfl, ?_⟩
          rw [inV_nat]
          have gl : gs.length ≤ 20000 := by
            have e := rg.el.length
            have h1 := ext_len items ((asc items i).take j)
            have h2 : ((asc items i).take j).length ≤ 3125 := by rw [List.length_take]; omega
            have h3 : ((asc items i).take j).length * items.length ≤ 3125 * 5 := Nat.mul_le_mul h2 hn
            have h4 : (((items.take q).filter fun x => !row.contains x).map fun x => row ++ [x]).length ≤ 5 := by
              rw [List.length_map]
              refine Nat.le_trans (List.length_filter_le _ _) ?_
              rw [List.length_take]
              omega
            rw [List.length_append] at e
            omega
          have tk : items.take (q + 1) = items.take q ++ [it] := by
            rw [List.take_succ, hit]
            rfl
          by_cases hm : it ∈ row
          · rw [decide_eq_true hm]
            refine iteF ?_
            refine ⟨⟨_, _, rfl⟩, s7, gs, ?_, nG7⟩
            have ef : List.filter (fun x => !row.contains x) [it] = [] := by simp [hm]
            rw [tk, List.filter_append, ef, List.append_nil]
            exact rg
          · rw [decide_eq_false hm]
            refine iteT ?_
            have ef : List.filter (fun x => !row.contains x) [it] = [it] := by simp [hm]
            refine ⟨_, rfl, .inl ⟨rfl, _, SqL.of rg.at_⟩, _, rfl, _, rfl, by show 1 ≤ sizeLine; decide, fun t1 n1 => ?_⟩
            refine ⟨t, t1, _, _, rfl, rfl, same_upd n1 _ _ hrow7, upd_same, ?_, fun t2 n2 => ?_⟩
            · rw [List.length_map]
              show row.length + 1 ≤ sizeLine
              exact Nat.le_of_lt (small1000 (by omega))
            have s12 := (same_upd (o := .lst [.int it]) n1).trans (same_upd (o := .lst (nV row ++ [.int it])) n2)
            refine ⟨G, _, _, rfl, rfl, s12 _ _ rg.at_, by rw [List.length_map]; exact small5 (by omega), ⟨_, _, rfl⟩, ?_⟩
            rw [tk, List.filter_append, ef, List.map_append, ← List.append_assoc]
            have er : nV row ++ [V.int it] = nV (row ++ [it]) := by simp [nV]
            rw [er]
            exact AsI.put s7 rg nG7 nG n1 n2
        · obtain ⟨⟨x2, z2, rfl⟩, aI7⟩ := hW
          refine ⟨⟨_, _, _, rfl⟩, ?_⟩
          rw [List.length_map, List.take_length] at aI7
          rw [List.take_succ, hrow]
          have : ext items ((asc items i).take j ++ [row]) = ext items ((asc items i).take j) ++ ext1 items row := by
            unfold ext
            rw [List.flatMap_append]
            simp
          show AsI H5 G (ext items ((asc items i).take j ++ [row])) H7
          rw [this]
          exact aI7
      · obtain ⟨⟨x1, y1, z1, rfl⟩, s6, gs, rg, nG6⟩ := hW
        rw [List.length_map, al, List.take_length] at rg
        refine ⟨_, rfl, G, _, rfl, .inl (SqL.of rg.at_), fun L2_ nL2 => ?_⟩
        have s7 := same_upd (o := .lst (gs.map V.ref)) nL2
        exact ⟨L2_, gs, _, _, _, _, rfl, (s5.trans s6).trans s7, upd_same, (rg.same s7).el⟩
    · obtain ⟨L, as, x, y, z, v, rfl, s5, ra⟩ := hW
      exact ⟨_, rfl, k H5 L as s5 (by simpa using ra)⟩
end
end Bm

namespace Bm
open PySem L2
/-- the toll of a run, as the law reckons it -/
def tollOf (ks : List Int) (r : List Nat) : Int := (play (at0 ks) (List.range ks.length) r).2
theorem deci (x y : Int) : (if (!decide (V.int x = V.int y)) = true then (1 : Int) else 0) = u x y := by
  unfold u
  by_cases c : x = y
  · rw [if_pos c, decide_eq_true (deq.mpr c)]
    rfl
  · rw [if_neg c, decide_eq_false fun z => c (deq.mp z)]
    rfl
theorem at0_nat {st : List Nat} {ks : List Int} {i : Nat} (h : i < st.length) (lt : ∀ x ∈ st, x < ks.length) : (iV ks)[st.getD i 0]? = some (.int (at0 ks (st.getD i 0))) := at_ks (lt _ (List.mem_of_getElem? (get_D h)))
theorem play_lt {f : Nat → Int} {st : List Nat} : ∀ (n : Nat) (r : List Nat), r.length = n → ∀ x ∈ (play f st r).1, x ∈ st
  | 0, r, hl, x, hx => by
    have e : r = [] := List.length_eq_zero_iff.mp hl
    subst e
    exact hx
  | n + 1, r, hl, x, hx => by
    have hne : r ≠ [] := fun e => by rw [e] at hl; cases hl
    obtain ⟨r', b, rfl⟩ : ∃ r' b, r = r' ++ [b] := ⟨r.dropLast, r.getLast hne, (List.dropLast_concat_getLast hne).symm⟩
    rw [play_snoc] at hx
    exact play_lt n r' (by simpa using hl) x (List.mem_of_mem_eraseIdx hx)
theorem first_of {st : List Nat} {a b : Nat} (nd : st.Nodup) (h : st[a]? = some b) : ∀ (m : Nat) (z' : V), m < a → (nV st)[m]? = some z' → eqV z' (.int b) = false := fun m z' hm hz => by
  have ha : a < st.length := by
    by_cases c : a < st.length
    · exact c
    · rw [List.getElem?_eq_none (by omega)] at h; cases h
  have hl : m < st.length := by omega
  rw [nV_get (List.getElem?_eq_getElem hl)] at hz
  have e : V.int (st[m] : Nat) = z' := Option.some.inj hz
  rw [← e]
  show ((st[m] : Int) == (b : Int)) = false
  refine beq_eq_false_iff_ne.mpr fun z => ?_
  have e2 : st[m] = b := by omega
  have e3 : st[m]? = some b := by rw [List.getElem?_eq_getElem hl, e2]
  have := idx_of nd e3
  have := idx_of nd h
  omega
section
variable {P : Program} {w : World} {K : PySem.W.Frag} {mg : Str → Option Value} {base : Heap} {CP CS CR : Addr}
/-- st[:at] + st[at + 1:] leaves a new list -/
theorem rd_cut {H : Hp} {L : Addr} {st : List Nat} {a : Nat} {Q : VK} (hL : H L = some (.lst (nV st))) (ha : a < st.length) (hs : st.length ≤ 1000) (k : ∀ (H' : Hp) (q : Addr), Same H H' → H' q = some (.lst (nV (st.eraseIdx a))) → Q (.ref q) H') :
    ∀ p, H p = none → ∀ q, (upd H p (.lst (cutV (nV st) none (some (a : Int))))) q = none → rCat (.ref p) (.ref q) (upd (upd H p (.lst (cutV (nV st) none (some (a : Int))))) q (.lst (cutV (nV st) (some ((a : Int) + 1)) none))) Q := by
  intro p np q nq
  have hln : (nV st).length = st.length := List.length_map ..
  have sp := same_upd (o := .lst (cutV (nV st) none (some (a : Int)))) np
  have sq := same_upd (o := .lst (cutV (nV st) (some ((a : Int) + 1)) none)) nq
  have ez : (a : Int) + 1 = ((a + 1 : Nat) : Int) := by omega
  refine ⟨p, q, _, _, rfl, rfl, sq _ _ upd_same, upd_same, ?_, fun x nx => ?_⟩
  · rw [ez, cut_hi _ _ (by omega), cut_lo _ _ (by omega), List.length_take, List.length_drop]
    exact Nat.le_of_lt (small1000 (by omega))
  · refine k _ x ((sp.trans sq).trans (same_upd nx)) ?_
    rw [upd_same, ez, cut_hi _ _ (by omega), cut_lo _ _ (by omega), nV_cut]
/-! ### _law_toll -/
def spToll (K : PySem.W.Frag) : Sp := fun vs H Q _ => ∃ (a b : Addr) (ks : List Int) (r : List Nat), vs = [.ref a, .ref b] ∧ SqL K H a (iV ks) ∧ SqL K H b (nV r) ∧ 2 ≤ ks.length ∧ ks.length ≤ 24 ∧ r.Nodup ∧ (∀ x ∈ r, x ∈ inner ks.length) ∧
  ∀ H' : Hp, Same H H' → Q (.int (tollOf ks r)) H'
theorem scToll : FnScope ["_law_kinds_here", "_law_run", "_law_standing", "_law_toll_here", "_law_bead", "_law_at"] ["_law_kinds_here", "_law_run"] (defScope sToll) := ⟨rfl, rfl, rfl, by decide +kernel, rfl, by decide +kernel, by decide +kernel⟩
theorem c_toll (T : Txt K mg CP CS CR) : Cal P w K mg base 1 "_law_toll" (spToll K) := cal_of T.dToll fun f fd F => by
  refine F.ok scToll (fun vs H Q E h => ?_) (fun cdv A outer s H vs Q E hr h => ?_)
  · obtain ⟨a, b, ks, r, rfl, _⟩ := h
    rfl
  · obtain ⟨a, b, ks, r, rfl, hA, hB, lo, hi, nd, hin, k⟩ := h
    refine ⟨_, pss_cons (ps_set (i := 2) scToll.nd rfl (.inl rfl) (pe_listRg (by rfl) (by rfl) (T.b "list") (prg_1 (by rfl) (T.b "range") (pe_callB call_len_seq (by rfl) (T.b "len") PySem.boot_len (pa_cons (pv 0) pa_nil)))))
      (pss_cons (ps_set (i := 3) scToll.nd rfl (.inl rfl) pe_int)
      (pss_cons (ps_for PassesOwn.never rfl (pi_list (pv 1)) (pg_name (i := 4) scToll.nd rfl (.inl rfl))
        (pss_cons (ps_set (i := 5) scToll.nd rfl (.inl rfl) (pe_bm PySem.F.plainAttrs_list PySem.F.slot_list_index PySem.F.type_list_index mt_index (pv 2) (pa_cons (pv 4) pa_nil)))
        (pss_cons (ps_set (i := 3) scToll.nd rfl (.inl rfl) (pe_op op_add (pv 3) (pe_callTy call_int1 (by rfl) (T.b "int") (by decide +kernel) (pa_cons (pe_cmpR op_ne (pe_ix ix_list (pv 0) (pe_ix ix_list (pv 2) (pe_op op_sub (pv 5) pe_int) (fun _ _ => rfl)) (fun _ _ => rfl)) (pe_ix ix_list (pv 0) (pe_ix ix_list (pv 2) (pe_op op_add (pv 5) pe_int) (fun _ _ => rfl)) (fun _ _ => rfl)) (nomark _)) pa_nil))))
        (pss_one (ps_set (i := 2) scToll.nd rfl (.inl rfl) (pe_op op_cat (pe_slice sl_list (pv 2) po_none (po_some (pv 5))) (pe_slice sl_list (pv 2) (po_some (pe_op op_add (pv 5) pe_int)) po_none)))))))
      (pss_one (ps_ret (pv 3))))), ?_⟩
    have e0 : ((iV ks).length : Int) = ks.length := by simp
    refine ⟨_, rfl, a, _, rfl, .inl hA, ?_⟩
    rw [e0]
    refine ⟨ks.length, rfl, RgOk.of_le (by omega) (by omega) (by omega) (by omega), fun L nL => ?_⟩
    rw [rg_nV]
    have s1 := same_upd (o := .lst (nV (List.range ks.length))) nL
    refine ⟨_, rfl, b, rfl, ⟨_, s1.seq hB⟩, ?_⟩
    have er := range_row (n := ks.length) lo
    have en := ends_row (n := ks.length) lo
    refine for_list (K := K) (a := b) (xs := nV r) (fun i σ5 H5 => ∃ (L : Addr) (x y : Option V), σ5 = [some (.ref a), some (.ref b), some (.ref L), some (.int (tollOf ks (r.take i))), x, y] ∧ Same H H5 ∧ H5 L = some (.lst (nV (play (at0 ks) (List.range ks.length) (r.take i)).1)))
      ⟨L, none, none, rfl, s1, upd_same⟩ (fun i σ5 H5 _ hW => by obtain ⟨_, _, _, _, s5, _⟩ := hW; exact s5.seq hB) (fun i x σ5 H5 hx hW => ?_) (fun σ5 H5 hW => ?_)
    · obtain ⟨L, x1, y1, rfl, s5, hL⟩ := hW
      rw [List.getElem?_map] at hx
      obtain ⟨bd, hb, rfl⟩ := Option.map_eq_some_iff.mp hx
      obtain ⟨q, q1, q2, q3, q4, q5, q6⟩ := run_step (f := at0 ks) en nd hin hb
      rw [← er] at q2 q3 q4 q5 q6
      have lt : ∀ x ∈ (play (at0 ks) (List.range ks.length) (r.take i)).1, x < ks.length := fun x hx => List.mem_range.mp (play_lt _ _ rfl x hx)
      have szl : (play (at0 ks) (List.range ks.length) (r.take i)).1.length ≤ 1000 := by
        have h1 : (r.take i).Nodup := List.Sublist.nodup (List.take_sublist ..) nd
        have := whole_len (f := at0 ks) en h1 fun x hx => hin x (List.mem_of_mem_take hx)
        rw [← er, inner_len] at this
        omega
      have q6t : tollOf ks (r.take (i + 1)) = tollOf ks (r.take i) + u (at0 ks ((play (at0 ks) (List.range ks.length) (r.take i)).1.getD (q - 1) 0)) (at0 ks ((play (at0 ks) (List.range ks.length) (r.take i)).1.getD (q + 1) 0)) := by
        unfold tollOf
        rw [q6]
        show _ + u _ _ = _
        rw [q5]
      have q6s : (play (at0 ks) (List.range ks.length) (r.take (i + 1))).1 = (play (at0 ks) (List.range ks.length) (r.take i)).1.eraseIdx q := by
        rw [q6]
        show List.eraseIdx _ _ = _
        rw [q5]
      generalize hst : (play (at0 ks) (List.range ks.length) (r.take i)).1 = st at hL q2 q3 q4 lt szl q6t q6s
      have hA5 := s5.seq hA
      refine ⟨_, rfl, .inl ⟨rfl, _, SqL.of hL⟩, _, rfl, L, _, _, q, _, rfl, rfl, SqL.of hL, rfl, flat_nV _, nV_get q3, by simp [eqV], first_of q4 q3, ?_⟩
      have z1 : (q : Int) - 1 = ((q - 1 : Nat) : Int) := by omega
      have z2 : (q : Int) + 1 = ((q + 1 : Nat) : Int) := by omega
      refine ⟨_, rfl, _, rfl, _, rfl, _, rfl, _, _, rfl, rfl, L, _, _, _, rfl, rfl, SqL.of hL, by rw [z1]; exact nV_at (by omega), a, _, _, _, rfl, rfl, hA5, atI_nat (at0_nat (st := st) (i := q - 1) (by omega) lt), ?_⟩
      refine ⟨_, rfl, _, rfl, _, rfl, _, _, rfl, rfl, L, _, _, _, rfl, rfl, SqL.of hL, by rw [z2]; exact nV_at (by omega), a, _, _, _, rfl, rfl, hA5, atI_nat (at0_nat (st := st) (i := q + 1) (by omega) lt), rfl, .inr ⟨_, rfl, _, _, rfl, rfl, ?_⟩⟩
      refine ⟨_, rfl, _, rfl, _, rfl, L, _, rfl, SqL.of hL, fun p np => ?_⟩
      refine ⟨_, rfl, _, rfl, _, _, rfl, rfl, _, rfl, L, _, rfl, SqL.of (same_upd np _ _ hL), fun q2_ nq => ?_⟩
      refine rd_cut hL (by omega) szl (fun H6 L6 s6 hL6 => ?_) p np q2_ nq
      refine ⟨L6, some (.int (bd : Nat)), some (.int (q : Nat)), ?_, s5.trans s6, ?_⟩
      · rw [q6t, ← deci]
        rfl
      · rw [q6s]
        exact hL6
    · obtain ⟨L, x1, y1, rfl, s5, hL⟩ := hW
      refine ⟨_, rfl, ?_⟩
      have : r.take (nV r).length = r := by rw [List.length_map, List.take_length]
      rw [this]
      exact k H5 s5
end
end Bm

namespace Bm
open PySem L2
theorem ixN_of {n j : Nat} (hj : j < n) : ixN n (j : Int) = some j := by
  unfold ixN
  rw [if_pos (by omega), if_pos (by omega)]
  simp
/-- row i of the table -/
def rowV (n : Nat) (g : Nat → Nat → Int) (i : Nat) : List V := (List.range n).map fun j => V.int (g i j)
theorem rowV_len (n : Nat) (g : Nat → Nat → Int) (i : Nat) : (rowV n g i).length = n := by simp [rowV]
theorem rowV_at {n : Nat} {g : Nat → Nat → Int} {i j : Nat} (h : j < n) : (rowV n g i)[j]? = some (.int (g i j)) := by
  unfold rowV
  rw [List.getElem?_map, List.getElem?_range h]
  rfl
theorem rowV_set {n : Nat} {g : Nat → Nat → Int} {i j : Nat} {v : Int} (h : j < n) : (rowV n g i).set j (.int v) = rowV n (fun a b => if a = i ∧ b = j then v else g a b) i := by
  refine List.ext_getElem? fun t => ?_
  by_cases ht : t < n
  · rw [rowV_at ht, List.getElem?_set]
    by_cases c : j = t
    · subst c
      rw [if_pos rfl, if_pos (by rw [rowV_len]; exact h), if_pos ⟨rfl, rfl⟩]
    · rw [if_neg c, rowV_at ht, if_neg (fun z => c z.2.symm)]
  · rw [List.getElem?_eq_none (by rw [List.length_set, rowV_len]; omega), List.getElem?_eq_none (by rw [rowV_len]; omega)]
theorem rowV_ne {n : Nat} {g : Nat → Nat → Int} {i j x : Nat} {v : Int} (h : x ≠ i) : rowV n (fun a b => if a = i ∧ b = j then v else g a b) x = rowV n g x := by
  unfold rowV
  refine List.map_congr_left fun t _ => ?_
  show V.int (if x = i ∧ t = j then v else g x t) = _
  rw [if_neg (fun z => h z.1)]
theorem rowV_congr {n : Nat} {g g' : Nat → Nat → Int} {i : Nat} (h : ∀ b, b < n → g i b = g' i b) : rowV n g i = rowV n g' i := by
  unfold rowV
  exact List.map_congr_left fun t ht => by rw [h t (List.mem_range.mp ht)]
theorem rep_flat (n : Nat) (x : V) : (List.replicate n [x]).flatten = List.replicate n x := by
  induction n with
  | zero => rfl
  | succ n ih => rw [List.replicate_succ, List.flatten_cons, ih]; rfl
theorem rowV_zero (n i : Nat) : List.replicate n (V.int 0) = rowV n (fun _ _ => 0) i := by
  unfold rowV
  refine List.ext_getElem? fun t => ?_
  by_cases h : t < n
  · rw [List.getElem?_replicate, if_pos h, List.getElem?_map, List.getElem?_range h]
    rfl
  · rw [List.getElem?_replicate, if_neg h, List.getElem?_eq_none (by simp; omega)]
/-- a table of rows -/
structure RT (H0 H : Hp) (p : Addr) (as : List Addr) (n : Nat) (g : Nat → Nat → Int) : Prop where
  sm : Same H0 H
  at_ : H p = some (.lst (as.map V.ref))
  len : as.length = n
  nd : as.Nodup
  np : p ∉ as
  fr : ∀ a ∈ as, H0 a = none
  el : ∀ i a, as[i]? = some a → H a = some (.lst (rowV n g i))
theorem RT.row {H0 H : Hp} {p : Addr} {as : List Addr} {n : Nat} {g : Nat → Nat → Int} (h : RT H0 H p as n g) {i : Nat} (hi : i < n) : ∃ a, (as.map V.ref)[i]? = some (.ref a) ∧ as[i]? = some a ∧ H a = some (.lst (rowV n g i)) := by
  have hl : i < as.length := by rw [h.len]; exact hi
  refine ⟨as[i], ?_, List.getElem?_eq_getElem hl, h.el i _ (List.getElem?_eq_getElem hl)⟩
  rw [List.getElem?_map, List.getElem?_eq_getElem hl]
  rfl
theorem RT.same {H0 H H' : Hp} {p : Addr} {as : List Addr} {n : Nat} {g : Nat → Nat → Int} (h : RT H0 H p as n g) (s : Same H H') : RT H0 H' p as n g :=
  ⟨h.sm.trans s, s _ _ h.at_, h.len, h.nd, h.np, h.fr, fun i a e => s _ _ (h.el i a e)⟩
theorem RT.congr {H0 H : Hp} {p : Addr} {as : List Addr} {n : Nat} {g g' : Nat → Nat → Int} (h : RT H0 H p as n g) (e : ∀ i j, i < n → j < n → g i j = g' i j) : RT H0 H p as n g' :=
  ⟨h.sm, h.at_, h.len, h.nd, h.np, h.fr, fun i a ea => by
    have hi : i < n := by
      by_cases c : i < n
      · exact c
      · rw [List.getElem?_eq_none (by rw [h.len]; omega)] at ea; cases ea
    rw [← rowV_congr fun b hb => e i b hi hb]
    exact h.el i a ea⟩
theorem RT.put {H0 H : Hp} {p : Addr} {as : List Addr} {n : Nat} {g : Nat → Nat → Int} (h : RT H0 H p as n g) {i j : Nat} {a : Addr} {v : Int} (ha : as[i]? = some a) (hj : j < n) :
    RT H0 (upd H a (.lst ((rowV n g i).set j (.int v)))) p as n (fun x y => if x = i ∧ y = j then v else g x y) := by
  have ma : a ∈ as := List.mem_of_getElem? ha
  refine ⟨fun y o e => ?_, ?_, h.len, h.nd, h.np, h.fr, fun x b eb => ?_⟩
  · rw [upd_ne (ne_of_none e (h.fr a ma))]
    exact h.sm _ _ e
  · rw [upd_ne (fun z => h.np (by rw [z]; exact ma))]
    exact h.at_
  · by_cases c : x = i
    · subst c
      rw [ha] at eb
      cases eb
      rw [upd_same, rowV_set hj]
    · have hne : b ≠ a := fun z => by
        subst z
        obtain ⟨h1, e1⟩ := List.getElem?_eq_some_iff.mp ha
        obtain ⟨h2, e2⟩ := List.getElem?_eq_some_iff.mp eb
        exact c ((List.getElem_inj h.nd).mp (e2.trans e1.symm))
      rw [upd_ne hne, rowV_ne c]
      exact h.el x b eb
/-- spans narrower than W are done, of those that wide the first l -/
def gT (f : Nat → Int) (W l a b : Nat) : Int := if a < b ∧ (b < a + W ∨ (b = a + W ∧ a < l)) then C f a b else 0
section
variable {P : Program} {w : World} {K : PySem.W.Frag} {mg : Str → Option Value} {base : Heap} {CP CS CR : Addr}
def spLLeast (K : PySem.W.Frag) : Sp := fun vs H Q _ => ∃ (a : Addr) (ks : List Int), vs = [.ref a] ∧ SqL K H a (iV ks) ∧ 2 ≤ ks.length ∧ ks.length ≤ 24 ∧ ∀ H' : Hp, Same H H' → Q (.int (least ks)) H'
theorem scLL : FnScope ["_law_kinds_here", "_law_size", "_law_table", "_law_width", "_law_low", "_law_high", "_law_sums", "_law_k"] ["_law_kinds_here"] (defScope sLLeast) := ⟨rfl, rfl, rfl, by decide +kernel, rfl, by decide +kernel, by decide +kernel⟩
theorem c_lleast (T : Txt K mg CP CS CR) : Cal P w K mg base 1 "_law_least" (spLLeast K) := cal_of T.dLLeast fun f fd F => by
  refine F.ok scLL (fun vs H Q E h => ?_) (fun cdv A outer s H vs Q E hr h => ?_)
  · obtain ⟨a, ks, rfl, _⟩ := h
    rfl
  · obtain ⟨a, ks, rfl, hA, lo, hi, k⟩ := h
    refine ⟨_, pss_cons (ps_set (i := 1) scLL.nd rfl (.inr rfl) (pe_callB call_len_seq (by rfl) (T.b "len") PySem.boot_len (pa_cons (pv 0) pa_nil)))
      (pss_cons (ps_set (i := 2) scLL.nd rfl (.inr rfl) (pe_lc (own := [("_law_k", 7)]) (g := gName 7) (by rfl) scLL.nd (pi_range1 (by rfl) (T.b "range") (pa_cons (pv 1) pa_nil)) (blkOk_by (own := [("_law_k", 7)]) (N := ["_law_kinds_here", "_law_size", "_law_table", "_law_width", "_law_low", "_law_high", "_law_sums", "_law_k"]) (sc := defScope sLLeast) (by decide +kernel))
        (fun _ _ _ _ _ => pg_name (i := 7) scLL.nd rfl (Or.inl rfl)) (fun _ _ _ _ _ => pts_nil) (fun _ _ _ _ _ => pe_op op_rep (pe_lst (pa_cons pe_int pa_nil)) (pv 1))))
      (pss_cons (ps_for PassesOwn.never rfl (pi_range2 (by rfl) (T.b "range") (pa_cons pe_int (pa_cons (pv 1) pa_nil))) (pg_name (i := 3) scLL.nd rfl (.inl rfl))
        (pss_one (ps_for PassesOwn.never rfl (pi_range1 (by rfl) (T.b "range") (pa_cons (pe_op op_sub (pv 1) (pv 3)) pa_nil)) (pg_name (i := 4) scLL.nd rfl (.inr rfl))
          (pss_cons (ps_set (i := 5) scLL.nd rfl (.inr rfl) (pe_op op_add (pv 4) (pv 3)))
          (pss_cons (ps_setLc (i := 6) (own := [("_law_k", 7)]) (g := gName 7) (by rfl) scLL.nd rfl rfl (sw_true rfl rfl rfl (by decide +kernel)) (pi_range2 (by rfl) (T.b "range") (pa_cons (pe_op op_add (pv 4) pe_int) (pa_cons (pv 5) pa_nil)))
            (blkOk_by (own := [("_law_k", 7)]) (N := ["_law_kinds_here", "_law_size", "_law_table", "_law_width", "_law_low", "_law_high", "_law_sums", "_law_k"]) (sc := defScope sLLeast) (by decide +kernel))
            (fun _ _ _ _ _ => pg_name (i := 7) scLL.nd rfl (Or.inl rfl)) (fun _ _ _ _ _ => pts_nil)
            (fun _ _ _ _ _ => pe_op op_add (pe_ix (r := rIxL K) ix_list (pe_ix (r := rIxL K) ix_list (pv 2) (pv 4) (fun _ _ => rfl)) (pv 7) (fun _ _ => rfl)) (pe_ix (r := rIxL K) ix_list (pe_ix (r := rIxL K) ix_list (pv 2) (pv 7) (fun _ _ => rfl)) (pv 5) (fun _ _ => rfl))))
          (pss_one (ps_asg (pe_op op_add (pe_callB (cr_min rfl) (by rfl) (T.b "min") (by decide +kernel) (pa_cons (pv 6) pa_nil)) (pe_callTy call_int1 (by rfl) (T.b "int") (by decide +kernel) (pa_cons (pe_cmpR op_ne (pe_ix ix_list (pv 0) (pv 4) (fun _ _ => rfl)) (pe_ix ix_list (pv 0) (pv 5) (fun _ _ => rfl)) (nomark _)) pa_nil)))
            (pg_sub (pe_ix ix_list (pv 2) (pv 4) (fun _ _ => rfl)) (pv 5) set_list))))))))
      (pss_one (ps_ret (pe_ix ix_list (pe_ix ix_list (pv 2) pe_int (fun _ _ => rfl)) (pe_op op_sub (pv 1) pe_int) (fun _ _ => rfl)))))), ?_⟩
    have e0 : ((iV ks).length : Int) = ks.length := by simp
    refine ⟨_, rfl, a, _, rfl, .inl hA, ?_⟩
    rw [e0]
    -- the table of zeros
    refine ⟨_, rfl, ks.length, rfl, by omega, by omega, fun D nD => ?_⟩
    refine lc_range (lo := 0) (n := (ks.length : Int).toNat) (fun i H2 => Same H H2 ∧ ∃ as : List Addr, as.length = i ∧ H2 D = some (.lst (as.map V.ref)) ∧ as.Nodup ∧ D ∉ as ∧ (∀ b ∈ as, H b = none) ∧ ∀ b ∈ as, H2 b = some (.lst (List.replicate ks.length (V.int 0))))
      ⟨same_upd nD, [], rfl, upd_same, List.nodup_nil, (by simp), (fun b hb => by cases hb), fun b hb => by cases hb⟩ (fun i H2 hi2 hW => ?_) (fun H2 hW => ?_)
    · obtain ⟨s2, as, l2, hD, nd, nD2, fr, el⟩ := hW
      refine ⟨rfl, yesT ?_⟩
      refine ⟨by show 1 ≤ sizeLine; decide, fun t nt => ?_⟩
      have s3 := same_upd (o := .lst [.int 0]) nt
      refine ⟨_, rfl, t, ks.length, [.int 0], rfl, rfl, upd_same, by omega, by omega, ?_, fun q nq => ?_⟩
      · show 1 * (ks.length : Int).toNat ≤ sizeLine
        exact Nat.le_of_lt (small1000 (by omega))
      · have s4 := s3.trans (same_upd (o := .lst (List.replicate (ks.length : Int).toNat [V.int 0]).flatten) nq)
        have hD4 := s4 _ _ hD
        have nq2 : q ≠ D := (ne_of_none (s3 _ _ hD) nq).symm
        refine ⟨as.map V.ref, hD4, by rw [List.length_map]; exact small1000 (by omega), fun c o e => ?_, as ++ [q], by rw [List.length_append, l2]; rfl, ?_, ?_, ?_, ?_, ?_⟩
        · rw [upd_ne (ne_of_none e nD)]
          exact s4 _ _ (s2 _ _ e)
        · rw [upd_same, List.map_append]
          rfl
        · refine List.nodup_append.mpr ⟨nd, by simp, fun x hx y hy => ?_⟩
          have : y = q := by simpa using hy
          subst this
          exact ne_of_none (s3 _ _ (el x hx)) nq
        · intro z
          rcases List.mem_append.mp z with h | h
          · exact nD2 h
          · have : D = q := by simpa using h
            exact nq2 this.symm
        · intro b hb
          rcases List.mem_append.mp hb with h | h
          · exact fr b h
          · have : b = q := by simpa using h
            rw [this]
            exact (s2.trans s3).free nq
        · intro b hb
          rcases List.mem_append.mp hb with h | h
          · rw [upd_ne (fun z => nD2 (by rw [← z]; exact h))]
            exact s4 _ _ (el b h)
          · have : b = q := by simpa using h
            rw [this, upd_ne nq2, upd_same, rep_flat]
            rfl
    obtain ⟨s2, as, l2, hD, nd, nD2, fr, el⟩ := hW
    have rt0 : RT H H2 D as ks.length (gT (at0 ks) 2 0) := by
      refine ⟨s2, hD, by omega, nd, nD2, fr, fun i b eb => ?_⟩
      rw [el b (List.mem_of_getElem? eb), rowV_zero _ i, rowV_congr (g' := gT (at0 ks) 2 0) fun y _ => ?_]
      unfold gT
      by_cases c : i < y ∧ (y < i + 2 ∨ (y = i + 2 ∧ i < 0))
      · rw [if_pos c, C_short (by omega)]
      · rw [if_neg c]
    clear s2 l2 hD nd nD2 fr el
    -- the widths
    refine ⟨_, rfl, _, _, rfl, ⟨by omega, by omega, by omega, by omega⟩, ?_⟩
    refine for_range (lo := 2) (n := ((ks.length : Int) - 2).toNat) (fun i σ5 H5 => (∃ x y z v, σ5 = [some (.ref a), some (.int ks.length), some (.ref D), x, y, z, v, none]) ∧ RT H H5 D as ks.length (gT (at0 ks) (2 + i) 0))
      ⟨⟨_, _, _, _, rfl⟩, rt0⟩ (fun i σ5 H5 hi5 hW => ?_) (fun σ5 H5 hW => ?_)
    · obtain ⟨⟨x, y, z, v, rfl⟩, rt5⟩ := hW
      obtain ⟨W, hW⟩ : ∃ W : Nat, W = 2 + i := ⟨_, rfl⟩
      have ez : (2 : Int) + (i : Int) = (W : Int) := by omega
      rw [ez]
      rw [← hW] at rt5
      refine ⟨_, rfl, _, rfl, _, _, rfl, rfl, (ks.length : Int) - (W : Int), rfl, by omega, by omega, ?_⟩
      refine for_range (lo := 0) (n := ((ks.length : Int) - (W : Int)).toNat) (fun l σ6 H6 => (∃ y z v, σ6 = [some (.ref a), some (.int ks.length), some (.ref D), some (.int W), y, z, v, none]) ∧ RT H H6 D as ks.length (gT (at0 ks) W l))
        ⟨⟨_, _, _, rfl⟩, rt5⟩ (fun l σ6 H6 hl6 hV => ?_) (fun σ6 H6 hV => ?_)
      · obtain ⟨⟨y6, z6, v6, rfl⟩, rt6⟩ := hV
        have el : (0 : Int) + (l : Int) = (l : Int) := by omega
        rw [el]
        obtain ⟨hg, hhg⟩ : ∃ hg : Nat, hg = l + W := ⟨_, rfl⟩
        have eh : (l : Int) + (W : Int) = (hg : Int) := by omega
        refine ⟨_, rfl, _, rfl, _, _, rfl, rfl, ?_⟩
        dsimp only
        rw [eh]
        -- the sums
        refine ⟨_, rfl, _, _, rfl, rfl, _, rfl, _, _, rfl, ⟨by omega, by omega, by omega, by omega⟩, fun D7 nD7 => ?_⟩
        refine lc_range (lo := (l : Int) + 1) (n := ((hg : Int) - ((l : Int) + 1)).toNat) (fun q H7 => Same H6 H7 ∧ H7 D7 = some (.lst (((List.range q).map fun t => C (at0 ks) l (l + 1 + t) + C (at0 ks) (l + 1 + t) hg).map V.int)))
          ⟨same_upd nD7, upd_same⟩ (fun q H7 hq hV => ?_) (fun H7 hV => ?_)
        · obtain ⟨s7, hD7⟩ := hV
          obtain ⟨kk, hkk⟩ : ∃ kk : Nat, kk = l + 1 + q := ⟨_, rfl⟩
          have ek : (l : Int) + 1 + (q : Int) = (kk : Int) := by omega
          rw [ek]
          have rt7 := rt6.same s7
          obtain ⟨rl, r1, _, r3⟩ := rt7.row (i := l) (by omega)
          obtain ⟨rk, k1, _, k3⟩ := rt7.row (i := kk) (by omega)
          refine ⟨rfl, yesT ?_⟩
          refine ⟨_, rfl, _, rfl, D, _, _, _, rfl, rfl, SqL.of rt7.at_, atI_nat r1, _, rfl, rl, _, _, _, rfl, rfl, SqL.of r3, atI_nat (rowV_at (by omega)), ?_⟩
          refine ⟨_, rfl, _, rfl, D, _, _, _, rfl, rfl, SqL.of rt7.at_, atI_nat k1, _, rfl, rk, _, _, _, rfl, rfl, SqL.of k3, atI_nat (rowV_at (by omega)), _, _, rfl, rfl, ?_⟩
          refine ⟨_, hD7, by rw [List.length_map, List.length_map, List.length_range]; exact small1000 (by omega), fun c o e => ?_, ?_⟩
          · rw [upd_ne (ne_of_none e nD7)]
            exact s7 _ _ e
          · have g1 : gT (at0 ks) W l l kk = C (at0 ks) l kk := if_pos ⟨by omega, .inl (by omega)⟩
            have g2 : gT (at0 ks) W l kk hg = C (at0 ks) kk hg := if_pos ⟨by omega, .inl (by omega)⟩
            rw [upd_same, List.range_succ, List.map_append, List.map_append, g1, g2, hkk]
            rfl
        · obtain ⟨s7, hD7⟩ := hV
          have rt7 := rt6.same s7
          have hA7 := rt7.sm.seq hA
          have eq7 : (((hg : Int) - ((l : Int) + 1)).toNat) = hg - l - 1 := by omega
          rw [eq7] at hD7
          -- the cell
          refine ⟨_, rfl, D7, sums (at0 ks) l hg, rfl, SqL.of hD7, ?_, fun mn h1 h2 => ?_⟩
          · show 0 < (List.map _ (List.range _)).length
            rw [List.length_map, List.length_range]
            omega
          have hm := minL_uniq h1 h2
          refine ⟨_, rfl, _, rfl, a, _, _, _, rfl, rfl, hA7, atI_nat (at_ks (by omega)), _, rfl, _, rfl, a, _, _, _, rfl, rfl, hA7, atI_nat (at_ks (by omega)), rfl, .inr ⟨_, rfl, _, _, rfl, rfl, ?_⟩⟩
          obtain ⟨rl, r1, r2, r3⟩ := rt7.row (i := l) (by omega)
          refine ⟨_, rfl, _, rfl, D, _, _, _, rfl, rfl, SqL.of rt7.at_, atI_nat r1, _, rfl, rl, _, _, hg, rfl, rfl, r3, ?_, ⟨_, _, _, rfl⟩, ?_⟩
          · rw [rowV_len]
            exact ixN_of (by omega)
          · have ev : mn + (if (!decide (V.int (at0 ks l) = V.int (at0 ks hg))) = true then (1 : Int) else 0) = C (at0 ks) l hg := by
              rw [deci, hm, ← C_rec (by omega)]
            have := rt7.put (v := mn + (if (!decide (V.int (at0 ks l) = V.int (at0 ks hg))) = true then (1 : Int) else 0)) r2 (show hg < ks.length by omega)
            refine RT.congr this fun x y hx hy => ?_
            rw [ev]
            show (if x = l ∧ y = hg then C (at0 ks) l hg else gT (at0 ks) W l x y) = gT (at0 ks) W (l + 1) x y
            unfold gT
            by_cases c : x = l ∧ y = hg
            · rw [if_pos c, if_pos ⟨by omega, .inr ⟨by omega, by omega⟩⟩, c.1, c.2]
            · rw [if_neg c]
              by_cases d : x < y ∧ (y < x + W ∨ (y = x + W ∧ x < l))
              · rw [if_pos d, if_pos (by omega)]
              · rw [if_neg d, if_neg (by omega)]
      · obtain ⟨⟨y6, z6, v6, rfl⟩, rt6⟩ := hV
        refine ⟨⟨_, _, _, _, rfl⟩, rt6.congr fun x y hx hy => ?_⟩
        unfold gT
        by_cases d : x < y ∧ (y < x + W ∨ (y = x + W ∧ x < ((ks.length : Int) - (W : Int)).toNat))
        · rw [if_pos d, if_pos (by omega)]
        · rw [if_neg d, if_neg (by omega)]
    · obtain ⟨⟨x, y, z, v, rfl⟩, rt5⟩ := hW
      obtain ⟨r0, r1, _, r3⟩ := rt5.row (i := 0) (by omega)
      have ez : (ks.length : Int) - 1 = ((ks.length - 1 : Nat) : Int) := by omega
      refine ⟨_, rfl, D, _, _, _, rfl, rfl, SqL.of rt5.at_, atI_nat (j := 0) r1, _, rfl, _, _, rfl, rfl, r0, _, _, _, rfl, rfl, SqL.of r3, by rw [ez]; exact atI_nat (rowV_at (by omega)), ?_⟩
      have e : gT (at0 ks) (2 + ((ks.length : Int) - 2).toNat) 0 0 (ks.length - 1) = least ks := if_pos ⟨by omega, .inl (by omega)⟩
      rw [e]
      exact k H5 rt5.sm
end
end Bm

namespace Bm
open PySem L2
section
variable {P : Program} {w : World} {K : PySem.W.Frag} {mg : Str → Option Value} {base : Heap} {CP CS CR : Addr}
def spFirst (K : PySem.W.Frag) : Sp := fun vs H Q _ => ∃ (a : Addr) (ks : List Int), vs = [.ref a] ∧ SqL K H a (iV ks) ∧ 2 ≤ ks.length ∧ ks.length ≤ 7 ∧ ∀ (H' : Hp) (o : Addr), Same H H' → H' o = some (.lst (nV (thrift ks))) → Q (.ref o) H'
theorem scFirst : FnScope ["_law_kinds_here", "_law_runs", "_law_tolls", "_law_run"] ["_law_kinds_here"] (defScope sFirst) := ⟨rfl, rfl, rfl, by decide +kernel, rfl, by decide +kernel, by decide +kernel⟩
theorem c_first (T : Txt K mg CP CS CR) : Cal P w K mg base 2 "_law_first_thrifty" (spFirst K) := cal_of T.dFirst fun f fd F => by
  refine F.ok scFirst (fun vs H Q E h => ?_) (fun cdv A outer s H vs Q E hr h => ?_)
  · obtain ⟨a, ks, rfl, _⟩ := h
    rfl
  · obtain ⟨a, ks, rfl, hA, lo, hi, k⟩ := h
    refine ⟨_, pss_cons (ps_set (i := 1) scFirst.nd rfl (.inl rfl) (pc (c_asc T) hr (by decide) (by rfl) (pa_cons (pe_listRg (by rfl) (by rfl) (T.b "list") (prg_2 (by rfl) (T.b "range") pe_int (pe_op op_sub (pe_callB call_len_seq (by rfl) (T.b "len") PySem.boot_len (pa_cons (pv 0) pa_nil)) pe_int))) pa_nil)))
      (pss_cons (ps_setLc (i := 2) (own := [("_law_run", 3)]) (g := gName 3) (by rfl) scFirst.nd rfl rfl (sw_true rfl rfl rfl (by decide +kernel)) (pi_list (pv 1))
            (blkOk_by (own := [("_law_run", 3)]) (N := ["_law_kinds_here", "_law_runs", "_law_tolls", "_law_run"]) (sc := defScope sFirst) (by decide +kernel))
            (fun _ _ _ _ _ => pg_name (i := 3) scFirst.nd rfl (Or.inl rfl)) (fun _ _ _ _ _ => pts_nil)
            (fun _ _ _ _ _ => pc (c_toll T) hr (by decide) (by rfl) (pa_cons (pv 0) (pa_cons (pv 3) pa_nil))))
      (pss_one (ps_ret (pe_ix ix_list (pv 1) (pe_bm PySem.F.plainAttrs_list PySem.F.slot_list_index PySem.F.type_list_index mt_index (pv 2) (pa_cons (pe_callB (cr_min rfl) (by rfl) (T.b "min") (by decide +kernel) (pa_cons (pv 2) pa_nil)) pa_nil)) (fun _ _ => rfl))))), ?_⟩
    have e0 : ((iV ks).length : Int) = ks.length := by simp
    refine ⟨_, rfl, a, _, rfl, .inl hA, _, _, rfl, rfl, ?_⟩
    dsimp only
    rw [e0]
    refine ⟨1, _, rfl, rfl, RgOk.of_le (by omega) (by omega) (by omega) (by omega), fun L nL => ?_⟩
    rw [rg_inner]
    have s1 := same_upd (o := .lst (nV (inner ks.length))) nL
    refine ⟨L, _, rfl, SqL.of upd_same, by rw [inner_len]; omega, fun H2 p as s2 ra => ?_⟩
    have s12 := s1.trans s2
    have al := ra.el.length
    have er := range_row (n := ks.length) lo
    have en := ends_row (n := ks.length) lo
    refine ⟨_, rfl, p, rfl, ⟨_, SqL.of ra.at_⟩, fun D nD => ?_⟩
    refine lc_list (K := K) (a := p) (xs := as.map V.ref) (fun i H4 => Same H2 H4 ∧ H4 D = some (.lst (iV (((asc (inner ks.length) (inner ks.length).length).take i).map (tollOf ks))))) ⟨same_upd nD, upd_same⟩ (fun i H4 _ hW => SqL.of (hW.1 _ _ ra.at_)) (fun i x H4 hx hW => ?_) (fun H4 hW => ?_)
    · obtain ⟨s4, hD⟩ := hW
      rw [List.getElem?_map] at hx
      obtain ⟨t, ht, rfl⟩ := Option.map_eq_some_iff.mp hx
      obtain ⟨r, hr1, hr2⟩ := pget ra.el ht
      obtain ⟨v1, v2, v3⟩ := asc_inv _ r (List.mem_of_getElem? hr1)
      refine ⟨rfl, yesT ?_⟩
      refine ⟨_, rfl, _, rfl, a, t, ks, r, rfl, (s12.trans s4).seq hA, SqL.of (s4 _ _ hr2), lo, by omega, v1, v2, fun H5 s5 => ?_⟩
      refine ⟨_, s5 _ _ hD, ?_, fun c o e => ?_, ?_⟩
      · rw [List.length_map, List.length_map, List.length_take]
        have := asc_small (items := inner ks.length) (by rw [inner_len]; omega) (s := (inner ks.length).length) (by rw [inner_len]; omega)
        exact small5 (by omega)
      · rw [upd_ne (ne_of_none e nD)]
        exact s5 _ _ (s4 _ _ e)
      · rw [upd_same, List.take_succ, hr1, List.map_append]
        simp [iV]
    · obtain ⟨s4, hD⟩ := hW
      rw [List.length_map, al, List.take_length] at hD
      obtain ⟨j, j1, j2, j3⟩ := first_thrifty (at0 ks) en
      have ef : (fun r => (play (at0 ks) (row (inner ks.length) 0 (ks.length - 1)) r).2) = tollOf ks := by
        funext r
        unfold tollOf
        rw [er]
      rw [ef] at j2 j3
      generalize hts : (asc (inner ks.length) (inner ks.length).length).map (tollOf ks) = ts at hD j2 j3
      have jl : j < ts.length := by
        by_cases c : j < ts.length
        · exact c
        · rw [List.getElem?_eq_none (by omega)] at j2; cases j2
      have hb : ∀ {m : Nat} {z : Int}, ts[m]? = some z → (iV ts)[m]? = some (.int z) := fun h => by
        rw [List.getElem?_map, h]
        rfl
      have hb2 : ∀ {m : Nat} {z' : V}, (iV ts)[m]? = some z' → ∃ z, ts[m]? = some z ∧ z' = .int z := fun h => by
        rw [List.getElem?_map] at h
        obtain ⟨z, e1, e2⟩ := Option.map_eq_some_iff.mp h
        exact ⟨z, e1, e2.symm⟩
      obtain ⟨t, ht, hHt⟩ : ∃ t, as[j]? = some t ∧ H2 t = some (.lst (nV (thrift ks))) := by
        have jl2 : j < as.length := by rw [al, ← List.length_map (f := tollOf ks), hts]; exact jl
        obtain ⟨r, hr1, hr2⟩ := pget ra.el (List.getElem?_eq_getElem jl2)
        refine ⟨_, List.getElem?_eq_getElem jl2, ?_⟩
        rw [hr2]
        rw [j1] at hr1
        have : gor (at0 ks) (row (inner ks.length) 0 (ks.length - 1)) (inner ks.length).length = r := Option.some.inj hr1
        rw [← this, ← er, inner_len]
        rfl
      refine ⟨_, rfl, _, rfl, .inl ⟨rfl, _, SqL.of hD⟩, _, rfl, D, ts, rfl, SqL.of hD, by omega, fun mn h1 h2 => ?_⟩
      have hm := minL_uniq h1 h2
      rw [← hm] at j2 j3
      refine ⟨D, _, _, j, _, rfl, rfl, SqL.of hD, rfl, flat_iV _, hb j2, by simp [eqV], fun m z' hlt hz => ?_, ?_⟩
      · obtain ⟨z, e1, rfl⟩ := hb2 hz
        have := j3 m z hlt e1
        show (z == mn) = false
        exact beq_eq_false_iff_ne.mpr this
      · refine ⟨p, _, _, _, rfl, rfl, SqL.of (s4 _ _ ra.at_), atI_nat ?_, k H4 t (s12.trans s4) (s4 _ _ hHt)⟩
        rw [List.getElem?_map, ht]
        rfl
end
end Bm

namespace Bm
open PySem L2
theorem thrift_run {ks : List Int} (h : 2 ≤ ks.length) : (thrift ks).Nodup ∧ (∀ x ∈ thrift ks, x ∈ inner ks.length) ∧ (thrift ks).length = ks.length - 2 := by
  have := gor_run (f := at0 ks) (ends_row (n := ks.length) h) (s := ks.length - 2) (by rw [inner_len]; exact Nat.le_refl _)
  rw [← range_row h] at this
  exact this
theorem thrift_toll {ks : List Int} (h : 2 ≤ ks.length) : tollOf ks (thrift ks) = least ks := by
  obtain ⟨a, b, c⟩ := thrift_run h
  have e := range_row (n := ks.length) h
  have p := pot_whole (f := at0 ks) (ends_row (n := ks.length) h) a b (by rw [c, inner_len])
  have q := (play_gor (f := at0 ks) (st := List.range ks.length) List.nodup_range (ks.length - 2) (by rw [List.length_range]; omega)).2
  rw [kinds_row] at q
  rw [← e] at p
  unfold tollOf
  rw [← p]
  exact q
theorem thrift_at {ks : List Int} {i b : Nat} (h : (thrift ks)[i]? = some b) : i < ks.length - 2 ∧ b = gb (at0 ks) (List.range ks.length) i := by
  unfold thrift gor at h
  rw [List.getElem?_map] at h
  obtain ⟨j, hj, e⟩ := Option.map_eq_some_iff.mp h
  have hi : i < ks.length - 2 := by
    by_cases c : i < ks.length - 2
    · exact c
    · rw [List.getElem?_eq_none (by rw [List.length_range]; omega)] at hj; cases hj
  rw [List.getElem?_range hi] at hj
  cases hj
  exact ⟨hi, e.symm⟩
theorem gs_mem {f : Nat → Int} {st : List Nat} : ∀ s x, x ∈ gs f st s → x ∈ st
  | 0, _, h => h
  | s + 1, x, h => gs_mem s x (List.mem_of_mem_eraseIdx h)
theorem iteB {b1 b2 : Bool} {A B : Prop} (e : b1 = b2) (h : B) : if (!decide (V.bl b1 = V.bl b2)) = true then A else B := by
  subst e
  rw [show decide (V.bl b1 = V.bl b1) = true from decide_eq_true rfl]
  exact iteF h
theorem dint {i j : Int} {p : Prop} [Decidable p] (h : i = j ↔ p) : decide (V.int i = V.int j) = decide p := decide_eq_decide.mpr (deq.trans h)
section
variable {P : Program} {w : World} {K : PySem.W.Frag} {mg : Str → Option Value} {base : Heap} {CP CS CR : Addr}
theorem rd_cutI {H : Hp} {L : Addr} {st : List Int} {a : Nat} {Q : VK} (hL : H L = some (.lst (iV st))) (ha : a < st.length) (hs : st.length ≤ 1000) (k : ∀ (H' : Hp) (q : Addr), Same H H' → H' q = some (.lst (iV (st.eraseIdx a))) → Q (.ref q) H') :
    ∀ p, H p = none → ∀ q, (upd H p (.lst (cutV (iV st) none (some (a : Int))))) q = none → rCat (.ref p) (.ref q) (upd (upd H p (.lst (cutV (iV st) none (some (a : Int))))) q (.lst (cutV (iV st) (some ((a : Int) + 1)) none))) Q := by
  intro p np q nq
  have hln : (iV st).length = st.length := List.length_map ..
  have sp := same_upd (o := .lst (cutV (iV st) none (some (a : Int)))) np
  have sq := same_upd (o := .lst (cutV (iV st) (some ((a : Int) + 1)) none)) nq
  have ez : (a : Int) + 1 = ((a + 1 : Nat) : Int) := by omega
  refine ⟨p, q, _, _, rfl, rfl, sq _ _ upd_same, upd_same, ?_, fun x nx => ?_⟩
  · rw [ez, cut_hi _ _ (by omega), cut_lo _ _ (by omega), List.length_take, List.length_drop]
    exact Nat.le_of_lt (small1000 (by omega))
  · refine k _ x ((sp.trans sq).trans (same_upd nx)) ?_
    rw [upd_same, ez, cut_hi _ _ (by omega), cut_lo _ _ (by omega), iV_erase]
def spIsThr (K : PySem.W.Frag) : Sp := fun vs H Q _ => ∃ (a b : Addr) (ks : List Int), vs = [.ref a, .ref b] ∧ SqL K H a (iV ks) ∧ H b = some (.lst (nV (thrift ks))) ∧ 2 ≤ ks.length ∧ ks.length ≤ 24 ∧ ∀ H' : Hp, Same H H' → Q (.bl true) H'
theorem scThr : FnScope ["_law_kinds_here", "_law_told", "_law_standing", "_law_bead", "_law_spot", "_law_rest", "_law_least_here", "_law_at", "_law_toll_here", "_law_loss", "_law_x"] ["_law_kinds_here", "_law_told"] (defScope sThrifty) := ⟨rfl, rfl, rfl, by decide +kernel, rfl, by decide +kernel, by decide +kernel⟩
theorem c_isthr (T : Txt K mg CP CS CR) : Cal P w K mg base 4 "_law_is_thrifty" (spIsThr K) := cal_of T.dThrifty fun f fd F => by
  refine F.ok scThr (fun vs H Q E h => ?_) (fun cdv A outer s H vs Q E hr h => ?_)
  · obtain ⟨a, b, ks, rfl, _⟩ := h
    rfl
  · obtain ⟨a, b, ks, rfl, hA, hB, lo, hi, k⟩ := h
    refine ⟨_, pss_cons (ps_if (PW.pt (pw_or (pt_not (pt_val (pc (c_isord T) hr (by decide) (by rfl) (pa_cons (pv 1) (pa_cons (pe_callB call_len_seq (by rfl) (T.b "len") PySem.boot_len (pa_cons (pv 0) pa_nil)) pa_nil))))) (pw_or1 (pt_cmpR op_ne (pc (c_toll T) hr (by decide) (by rfl) (pa_cons (pv 0) (pa_cons (pv 1) pa_nil))) (pc (c_lleast T) hr (by decide) (by rfl) (pa_cons (pv 0) pa_nil)) (nomark _))))) pss_never pss_nil)
      (pss_cons (ps_set (i := 2) scThr.nd rfl (.inl rfl) (pe_listRg (by rfl) (by rfl) (T.b "list") (prg_1 (by rfl) (T.b "range") (pe_callB call_len_seq (by rfl) (T.b "len") PySem.boot_len (pa_cons (pv 0) pa_nil)))))
      (pss_cons (ps_for PassesOwn.never rfl (pi_list (pv 1)) (pg_name (i := 3) scThr.nd rfl (.inl rfl))
        (pss_cons (ps_set (i := 4) scThr.nd rfl (.inl rfl) (pe_bm PySem.F.plainAttrs_list PySem.F.slot_list_index PySem.F.type_list_index mt_index (pv 2) (pa_cons (pv 3) pa_nil)))
        (pss_cons (ps_setLc (i := 5) (own := [("_law_x", 10)]) (g := gName 10) (by rfl) scThr.nd rfl rfl (sw_true rfl rfl rfl (by decide +kernel)) (pi_list (pv 2))
            (blkOk_by (own := [("_law_x", 10)]) (N := ["_law_kinds_here", "_law_told", "_law_standing", "_law_bead", "_law_spot", "_law_rest", "_law_least_here", "_law_at", "_law_toll_here", "_law_loss", "_law_x"]) (sc := defScope sThrifty) (by decide +kernel))
            (fun _ _ _ _ _ => pg_name (i := 10) scThr.nd rfl (Or.inl rfl)) (fun _ _ _ _ _ => pts_nil)
            (fun _ _ _ _ _ => pe_ix (r := rIxL K) ix_list (pv 0) (pv 10) (fun _ _ => rfl)))
        (pss_cons (ps_set (i := 6) scThr.nd rfl (.inl rfl) (pc (c_lleast T) hr (by decide) (by rfl) (pa_cons (pv 5) pa_nil)))
        (pss_cons (ps_for PassesOwn.never rfl (pi_range2 (by rfl) (T.b "range") (pa_cons pe_int (pa_cons (pe_op op_add (pv 4) pe_int) pa_nil))) (pg_name (i := 7) scThr.nd rfl (.inl rfl))
          (pss_cons (ps_set (i := 8) scThr.nd rfl (.inl rfl) (pe_callTy call_int1 (by rfl) (T.b "int") (by decide +kernel) (pa_cons (pe_cmpR op_ne (pe_ix ix_list (pv 5) (pe_op op_sub (pv 7) pe_int) (fun _ _ => rfl)) (pe_ix ix_list (pv 5) (pe_op op_add (pv 7) pe_int) (fun _ _ => rfl)) (nomark _)) pa_nil)))
          (pss_cons (ps_set (i := 9) scThr.nd rfl (.inl rfl) (pe_op op_sub (pe_op op_add (pv 8) (pc (c_lleast T) hr (by decide) (by rfl) (pa_cons (pe_op op_cat (pe_slice sl_list (pv 5) po_none (po_some (pv 7))) (pe_slice sl_list (pv 5) (po_some (pe_op op_add (pv 7) pe_int)) po_none)) pa_nil))) (pv 6)))
          (pss_one (ps_if (pt_cmpR op_ne (pe_cmpR op_eq (pv 9) pe_int (nomark _)) (pe_cmpR op_eq (pv 7) (pv 4) (nomark _)) (nomark _)) pss_never pss_nil)))))
        (pss_one (ps_set (i := 2) scThr.nd rfl (.inl rfl) (pe_op op_cat (pe_slice sl_list (pv 2) po_none (po_some (pv 4))) (pe_slice sl_list (pv 2) (po_some (pe_op op_add (pv 4) pe_int)) po_none)))))))))
      (pss_one (ps_ret pe_bl)))), ?_⟩
    obtain ⟨t1, t2, t3⟩ := thrift_run lo
    have e0 : ((iV ks).length : Int) = ks.length := by simp
    refine ⟨_, rfl, _, rfl, a, _, rfl, .inl hA, ?_⟩
    rw [e0]
    refine ⟨b, ks.length, thrift ks, rfl, hB, t1, fun x hx => ?_, by omega, by omega, fun H1 s1 => ?_⟩
    · have := mem_inner.mp (t2 x hx)
      omega
    refine ⟨true, rfl, iteF ?_⟩
    refine ⟨_, rfl, _, rfl, a, b, ks, thrift ks, rfl, s1.seq hA, SqL.of (s1 _ _ hB), lo, hi, t1, t2, fun H2 s2 => ?_⟩
    have s12 := s1.trans s2
    refine ⟨_, rfl, a, ks, rfl, s12.seq hA, lo, hi, fun H3 s3 => ?_⟩
    have s13 := s12.trans s3
    rw [thrift_toll lo]
    refine ⟨rfl, _, rfl, iteNS rfl ?_⟩
    refine ⟨_, rfl, a, _, rfl, .inl (s13.seq hA), ?_⟩
    rw [e0]
    refine ⟨ks.length, rfl, RgOk.of_le (by omega) (by omega) (by omega) (by omega), fun L nL => ?_⟩
    rw [rg_nV]
    have s14 := s13.trans (same_upd (o := .lst (nV (List.range ks.length))) nL)
    refine ⟨_, rfl, b, rfl, ⟨_, SqL.of (s14 _ _ hB)⟩, ?_⟩
    have hn : (List.range ks.length).Nodup := List.nodup_range
    have hlr : (List.range ks.length).length = ks.length := List.length_range
    refine for_list (K := K) (a := b) (xs := nV (thrift ks)) (fun i σ5 H5 => (∃ (L : Addr) (x3 x4 x5 x6 x7 x8 x9 : Option V), σ5 = [some (.ref a), some (.ref b), some (.ref L), x3, x4, x5, x6, x7, x8, x9, none] ∧ H5 L = some (.lst (nV (gs (at0 ks) (List.range ks.length) i)))) ∧ Same H H5)
      ⟨⟨L, none, none, none, none, none, none, none, rfl, upd_same⟩, s14⟩ (fun i σ5 H5 _ hW => SqL.of (hW.2 _ _ hB)) (fun i x σ5 H5 hx hW => ?_) (fun σ5 H5 hW => ?_)
    · obtain ⟨⟨L, x3, x4, x5, x6, x7, x8, x9, rfl, hL⟩, s5⟩ := hW
      rw [List.getElem?_map] at hx
      obtain ⟨bd, hb, rfl⟩ := Option.map_eq_some_iff.mp hx
      obtain ⟨il, rfl⟩ := thrift_at hb
      have hs2 : i + 2 < (List.range ks.length).length := by omega
      obtain ⟨a1, a2, a3, a4, a5⟩ := gs_spec (f := at0 ks) (st := List.range ks.length) (s := i) hs2
      have gl := gs_len (f := at0 ks) (st := List.range ks.length) i (by omega)
      rw [hlr] at gl
      have gnd : (gs (at0 ks) (List.range ks.length) i).Nodup := gs_nodup hn i
      have gm : ∀ x ∈ gs (at0 ks) (List.range ks.length) i, x < ks.length := fun x hx => List.mem_range.mp (gs_mem i x hx)
      have gsucc : gs (at0 ks) (List.range ks.length) (i + 1) = (gs (at0 ks) (List.range ks.length) i).eraseIdx (firstAt ((gs (at0 ks) (List.range ks.length) i).map (at0 ks))) := rfl
      rw [gsucc]
      clear gsucc
      generalize gs (at0 ks) (List.range ks.length) i = st at *
      generalize gb (at0 ks) (List.range ks.length) i = bd at *
      generalize hkr : st.map (at0 ks) = kr at *
      have kl : kr.length = ks.length - i := by rw [← hkr, List.length_map, gl]
      generalize hF : firstAt kr = F at *
      refine ⟨_, rfl, .inl ⟨rfl, _, SqL.of hL⟩, _, rfl, L, _, _, F, _, rfl, rfl, SqL.of hL, rfl, flat_nV _, nV_get a5, by simp [eqV], first_of gnd a5, ?_⟩
      -- the kinds that stand
      refine ⟨_, rfl, L, rfl, ⟨_, SqL.of hL⟩, fun D nD => ?_⟩
      refine lc_list (K := K) (a := L) (xs := nV st) (fun q H6 => Same H5 H6 ∧ H6 D = some (.lst (iV ((st.take q).map (at0 ks))))) ⟨same_upd nD, upd_same⟩ (fun q H6 _ hW => SqL.of (hW.1 _ _ hL)) (fun q x H6 hx hW => ?_) (fun H6 hW => ?_)
      · obtain ⟨s6, hD⟩ := hW
        rw [List.getElem?_map] at hx
        obtain ⟨y, hy, rfl⟩ := Option.map_eq_some_iff.mp hx
        refine ⟨rfl, yesT ?_⟩
        refine ⟨_, rfl, _, rfl, a, _, _, _, rfl, rfl, (s5.trans s6).seq hA, atI_nat (at_ks (gm y (List.mem_of_getElem? hy))), ?_⟩
        refine ⟨_, hD, by rw [List.length_map, List.length_map, List.length_take]; exact small1000 (by omega), fun c o e => ?_, ?_⟩
        · rw [upd_ne (ne_of_none e nD)]
          exact s6 _ _ e
        · rw [upd_same, List.take_succ, hy]
          simp [iV]
      · obtain ⟨s6, hD⟩ := hW
        rw [List.length_map, List.take_length, hkr] at hD
        have s56 := s5.trans s6
        refine ⟨_, rfl, D, kr, rfl, SqL.of hD, by omega, by omega, fun H7 s7 => ?_⟩
        have s57 := s56.trans s7
        refine ⟨_, rfl, _, _, rfl, rfl, _, _, rfl, ⟨by omega, by omega, by omega, by omega⟩, ?_⟩
        refine for_range (lo := 1) (n := ((F : Int) + 1 - 1).toNat) (fun q σ8 H8 => (∃ x7 x8 x9 : Option V, σ8 = [some (.ref a), some (.ref b), some (.ref L), some (.int (bd : Nat)), some (.int (F : Nat)), some (.ref D), some (.int (least kr)), x7, x8, x9, none]) ∧ Same H7 H8)
          ⟨⟨_, _, _, rfl⟩, Same.refl _⟩ (fun q σ8 H8 hq hW => ?_) (fun σ8 H8 hW => ?_)
        · obtain ⟨⟨x7, x8, x9, rfl⟩, s8⟩ := hW
          obtain ⟨t, ht⟩ : ∃ t : Nat, t = q + 1 := ⟨_, rfl⟩
          have ez : (1 : Int) + (q : Int) = (t : Int) := by omega
          rw [ez]
          have hD8 := (s7.trans s8) _ _ hD
          have z1 : (t : Int) - 1 = ((t - 1 : Nat) : Int) := by omega
          have z2 : (t : Int) + 1 = ((t + 1 : Nat) : Int) := by omega
          refine ⟨_, rfl, _, rfl, _, _, rfl, rfl, D, _, _, _, rfl, rfl, SqL.of hD8, by rw [z1]; exact atI_nat (at_ks (by omega)), ?_⟩
          refine ⟨_, rfl, _, rfl, _, _, rfl, rfl, D, _, _, _, rfl, rfl, SqL.of hD8, by rw [z2]; exact atI_nat (at_ks (by omega)), rfl, .inr ⟨_, rfl, ?_⟩⟩
          dsimp only
          rw [deci]
          refine ⟨_, rfl, _, rfl, _, rfl, _, rfl, D, _, rfl, SqL.of hD8, fun p np => ?_⟩
          refine ⟨_, rfl, _, rfl, _, _, rfl, rfl, _, rfl, D, _, rfl, SqL.of (same_upd np _ _ hD8), fun q2 nq => ?_⟩
          refine rd_cutI hD8 (by omega) (by omega) (fun H9 L9 s9 hL9 => ?_) p np q2 nq
          have le9 : (kr.eraseIdx t).length = kr.length - 1 := by rw [List.length_eraseIdx, if_pos (by omega)]
          refine ⟨L9, _, rfl, SqL.of hL9, by omega, by omega, fun H10 s10 => ?_⟩
          refine ⟨_, _, rfl, rfl, _, rfl, _, _, rfl, rfl, ?_⟩
          refine ⟨_, rfl, rfl, _, rfl, _, rfl, rfl, rfl, _, rfl, iteB ?_ ?_⟩
          · refine decide_eq_decide.mpr ⟨fun e => ?_, fun e => ?_⟩
            · have e1 := deq.mp e
              have z : loss kr t = 0 := e1
              by_cases c : t = F
              · rw [c]
              · exact absurd z (a4 t (by omega) (by omega))
            · have e1 := deq.mp e
              have e2 : t = F := by omega
              have z : loss kr t = 0 := by rw [e2]; exact a3
              exact deq.mpr z
          · exact ⟨⟨_, _, _, rfl⟩, (s8.trans s9).trans s10⟩
        · obtain ⟨⟨x7, x8, x9, rfl⟩, s8⟩ := hW
          have hL8 := (s6.trans (s7.trans s8)) _ _ hL
          refine ⟨_, rfl, _, rfl, _, rfl, L, _, rfl, SqL.of hL8, fun p np => ?_⟩
          refine ⟨_, rfl, _, rfl, _, _, rfl, rfl, _, rfl, L, _, rfl, SqL.of (same_upd np _ _ hL8), fun q2 nq => ?_⟩
          refine rd_cut hL8 (by omega) (by omega) (fun H9 L9 s9 hL9 => ?_) p np q2 nq
          exact ⟨⟨L9, _, _, _, _, _, _, _, rfl, hL9⟩, (s57.trans s8).trans s9⟩
    · exact k H5 hW.2
end
end Bm

namespace Bm
open PySem L2
section
variable {P : Program} {w : World} {K : PySem.W.Frag} {mg : Str → Option Value} {base : Heap} {CP CS CR : Addr}
theorem rd_strandA {H1 : Hp} {a : Addr} {ks : List Int} {Q : Addr → Hp → Prop} {E : XK} (ok : KOk ks) (hA : SqL K H1 a (iV ks) ∨ SqT K H1 a (iV ks)) (k : ∀ H' x, Same H1 H' → StAt K CS H' x ks → Q x H') :
    ∀ x dx, H1 x = none → H1 dx = none → dx ≠ x → spStI K CS (.ref x :: ([.ref a] ++ [])) (upd (upd H1 dx (.own x)) x (.ins CS dx [])) (fun v H2 => v = .non ∧ Q x H2) E := by
  intro x dx nx nd ne
  have sm : Same H1 (upd H1 dx (.own x)) := same_upd nd
  have nx2 : (upd H1 dx (.own x)) x = none := by rw [upd_ne ne.symm]; exact nx
  have sm2 := sm.trans (same_upd (o := .ins CS dx []) nx2)
  exact ⟨x, dx, a, ks, rfl, upd_same, ok, hA.elim (fun h => .inl (sm2.seq h)) (fun h => .inr (sT sm2 h)), fun H' hS hf => ⟨rfl, k H' x (Same.made nx nd hf) hS⟩⟩
theorem rd_row {H1 : Hp} {st : Addr} {ks : List Int} {Q : Addr → Hp → Prop} {E : XK} (hS : StAt K CS H1 st ks) (k : ∀ (H' : Hp) (R : RowP), Same H1 H' → (∀ x ∈ R.all, H1 x = none) → RowAt K CR H' R ks (List.range ks.length) 24 → Q R.p H') :
    ∀ x dx, H1 x = none → H1 dx = none → dx ≠ x → spRoI K CS CR (.ref x :: ([.ref st] ++ [])) (upd (upd H1 dx (.own x)) x (.ins CR dx [])) (fun v H2 => v = .non ∧ Q x H2) E := by
  intro x dx nx nd ne
  have sm : Same H1 (upd H1 dx (.own x)) := same_upd nd
  have nx2 : (upd H1 dx (.own x)) x = none := by rw [upd_ne ne.symm]; exact nx
  have sm2 := sm.trans (same_upd (o := .ins CR dx []) nx2)
  refine ⟨x, dx, st, ks, rfl, upd_same, hS.same sm2, fun H' R hp fa fb fc fd hR hf => ⟨rfl, ?_⟩⟩
  subst hp
  refine k H' R (Same.made nx nd hf) (fun y hy => ?_) hR
  unfold RowP.all at hy
  simp only [List.mem_cons, List.not_mem_nil, or_false] at hy
  rcases hy with rfl | rfl | rfl | rfl | rfl
  · exact nx
  · exact sm2.free fa
  · exact sm2.free fb
  · exact sm2.free fc
  · exact sm2.free fd
theorem RowAt.out {H : Hp} {R : RowP} {ks : List Int} {st : List Nat} {B : Nat} {q : Addr} (h : RowAt K CR H R ks st B) (nq : H q = none) : q ∉ R.all := by
  obtain ⟨dx, tk, sl, e1, _⟩ := h.ex
  obtain ⟨xa, a1, _⟩ := h.la
  obtain ⟨xb, b1, _⟩ := h.lb
  obtain ⟨xc, c1, _⟩ := h.lc
  obtain ⟨xd, d1, _⟩ := h.ld
  intro hy
  unfold RowP.all at hy
  simp only [List.mem_cons, List.not_mem_nil, or_false] at hy
  rcases hy with rfl | rfl | rfl | rfl | rfl
  · rw [e1] at nq; cases nq
  · rw [a1] at nq; cases nq
  · rw [b1] at nq; cases nq
  · rw [c1] at nq; cases nq
  · rw [d1] at nq; cases nq
theorem Away.same {R : RowP} {H H1 H2 : Hp} (s : Same H H1) (aw : Away R H1 H2) (fr : ∀ x ∈ R.all, H x = none) : Same H H2 := fun x o e => by
  refine aw x o (s x o e) fun m => ?_
  rw [fr x m] at e
  cases e
theorem KOk.take {ks : List Int} (ok : KOk ks) {c : Nat} (h1 : 2 ≤ c) (h2 : c ≤ ks.length) : KOk (ks.take c) := by
  have := ok.hi
  refine ⟨by rw [List.length_take]; omega, by rw [List.length_take]; omega, fun k hk => ok.rg k (List.mem_of_mem_take hk)⟩
def spAdds (K : PySem.W.Frag) : Sp := fun vs H Q _ => ∃ (a b : Addr) (ks : List Int) (r : List Nat) (c : Nat), vs = [.ref a, .ref b, .int c] ∧ SqL K H a (iV ks) ∧ KOk ks ∧ H b = some (.lst (nV r)) ∧ r.Nodup ∧ (∀ x ∈ r, x ∈ inner ks.length) ∧ r.length = ks.length - 2 ∧ 2 ≤ c ∧ c ≤ ks.length ∧ ∀ H' : Hp, Q (.bl true) H'
theorem scAdds : FnScope ["_law_kinds_here", "_law_order", "_law_begun", "_law_row", "_law_kind", "_law_lost", "_law_bead", "_law_told"] ["_law_kinds_here", "_law_order", "_law_begun"] (defScope sAdds) := ⟨rfl, rfl, rfl, by decide +kernel, rfl, by decide +kernel, by decide +kernel⟩
theorem c_adds (T : Txt K mg CP CS CR) : Cal P w K mg base 7 "_law_adds_up" (spAdds K) := cal_of T.dAdds fun f fd F => by
  refine F.ok scAdds (fun vs H Q E h => ?_) (fun cdv A outer s H vs Q E hr h => ?_)
  · obtain ⟨a, b, ks, r, c, rfl, _⟩ := h
    rfl
  · obtain ⟨a, b, ks, r, c, rfl, hA, ok, hB, nd, hin, hlen, c1, c2, k⟩ := h
    have hu := hu_of hr
    have lo := ok.lo
    have hi := ok.hi
    refine ⟨_, pss_cons (ps_set (i := 3) scAdds.nd rfl (.inl rfl) (pmk (mak_ro T) hr (by decide) (by rfl) (pa_cons (pmk (mak_st T) hr (by decide) (by rfl) (pa_cons (pe_slice sl_list (pv 0) po_none (po_some (pv 2))) pa_nil)) pa_nil)))
      (pss_cons (ps_for PassesOwn.never rfl (pi_list (pe_slice sl_list (pv 0) (po_some (pv 2)) po_none)) (pg_name (i := 4) scAdds.nd rfl (.inl rfl))
        (pss_one (ps_expr (pm (c_gr T) hr (by decide) (pv 3) (pa_cons (pv 4) pa_nil)))))
      (pss_cons (ps_set (i := 5) scAdds.nd rfl (.inl rfl) pe_int)
      (pss_cons (ps_for PassesOwn.never rfl (pi_list (pv 1)) (pg_name (i := 6) scAdds.nd rfl (.inl rfl))
        (pss_cons (ps_set (i := 7) scAdds.nd rfl (.inl rfl) (pc (c_loss T) hr (by decide) (by rfl) (pa_cons (pv 3) pa_nil)))
        (pss_cons (ps_if (PW.pt (pw_or (pt_not (pt_val (pe_callB call_isi (by rfl) (T.b "isinstance") (by decide +kernel) (pa_cons (pv 7) (pa_cons (pe_bltn (v := .ty "dict") (by rfl) (T.b "dict") (by decide +kernel) rfl) pa_nil))))) (pw_or1 (pt_not (pt_val (pc (c_isint T) hr (by decide) (by rfl) (pa_cons (pe_dget1 hu (pv 7) (pv 6) ⟨by rfl, by rfl, by rfl, by rfl⟩) pa_nil))))))) pss_never pss_nil)
        (pss_cons (ps_set (i := 5) scAdds.nd rfl (.inl rfl) (pe_op op_add (pv 5) (pe_dget1 hu (pv 7) (pv 6) ⟨by rfl, by rfl, by rfl, by rfl⟩)))
        (pss_one (ps_expr (pm (c_tk T) hr (by decide) (pv 3) (pa_cons (pv 6) pa_nil))))))))
      (pss_cons (ps_set (i := 7) scAdds.nd rfl (.inl rfl) (pc (c_loss T) hr (by decide) (by rfl) (pa_cons (pv 3) pa_nil)))
      (pss_cons (ps_if (PW.pt (pw_or (pt_not (pt_val (pe_callB call_isi (by rfl) (T.b "isinstance") (by decide +kernel) (pa_cons (pv 7) (pa_cons (pe_bltn (v := .ty "dict") (by rfl) (T.b "dict") (by decide +kernel) rfl) pa_nil))))) (pw_or1 (pt_cmpR op_ne (pe_callB call_lenD (by rfl) (T.b "len") PySem.boot_len (pa_cons (pv 7) pa_nil)) pe_int (nomark _))))) pss_never pss_nil)
      (pss_one (ps_ret (pe_cmpR op_eq (pv 5) (pe_op op_sub (pc (c_toll T) hr (by decide) (by rfl) (pa_cons (pv 0) (pa_cons (pv 1) pa_nil))) (pc (c_lleast T) hr (by decide) (by rfl) (pa_cons (pv 0) pa_nil))) (nomark _))))))))), ?_⟩
    have hl : (iV ks).length = ks.length := List.length_map ..
    -- the row
    refine ⟨_, rfl, _, rfl, _, rfl, a, _, rfl, hA, fun p np => ?_⟩
    have s0 := same_upd (o := .lst (cutV (iV ks) none (some (c : Int)))) np
    have e0 : (upd H p (.lst (cutV (iV ks) none (some (c : Int))))) p = some (.lst (iV (ks.take c))) := by
      rw [upd_same, cut_take]
      simp [iV, List.map_take]
    refine rd_strandA (K := K) (CS := CS) (ok.take c1 c2) (.inl (SqL.of e0)) fun H1 st s1 hS => ?_
    refine rd_row (K := K) (CS := CS) (CR := CR) hS fun H2 R s2 fr hR => ?_
    have lt : (ks.take c).length = c := by rw [List.length_take]; omega
    rw [lt] at hR
    have s01 := s0.trans s1
    have s02 := s01.trans s2
    have fr0 : ∀ x ∈ R.all, H x = none := fun x hx => s01.free (fr x hx)
    -- it grows
    refine ⟨_, rfl, _, rfl, _, rfl, a, _, rfl, s02.seq hA, fun q nq => ?_⟩
    have s3 := same_upd (o := .lst (cutV (iV ks) (some (c : Int)) none)) nq
    have nqR := hR.out nq
    have hR3 := hR.same s3
    have hq3 : (upd H2 q (.lst (cutV (iV ks) (some (c : Int)) none))) q = some (.lst (iV (ks.drop c))) := by
      rw [upd_same, cut_lo _ _ (by omega)]
      simp [iV, List.map_drop]
    have s03 := s02.trans s3
    generalize (upd H2 q (.lst (cutV (iV ks) (some (c : Int)) none))) = H3 at s3 hR3 hq3 s03
    refine ⟨q, rfl, ⟨_, SqL.of hq3⟩, ?_⟩
    refine for_list (K := K) (a := q) (xs := iV (ks.drop c)) (fun i σ5 H5 => (∃ x, σ5 = [some (.ref a), some (.ref b), some (.int c), some (.ref R.p), x, none, none, none]) ∧ RowAt K CR H5 R (ks.take (c + i)) (List.range (c + i)) (24 + 2 * i) ∧ Away R H3 H5)
      ⟨⟨_, rfl⟩, hR3, Away.of (Same.refl _)⟩ (fun i σ5 H5 _ hW => SqL.of (hW.2.2 _ _ hq3 nqR)) (fun i x σ5 H5 hx hW => ?_) (fun σ5 H5 hW => ?_)
    · obtain ⟨⟨x5, rfl⟩, hR5, aw5⟩ := hW
      rw [List.getElem?_map, List.getElem?_drop] at hx
      obtain ⟨kd, hkd, rfl⟩ := Option.map_eq_some_iff.mp hx
      have il : c + i < ks.length := by
        by_cases z : c + i < ks.length
        · exact z
        · rw [List.getElem?_eq_none (by omega)] at hkd; cases hkd
      have rg := ok.rg kd (List.mem_of_getElem? hkd)
      have l5 : (ks.take (c + i)).length = c + i := by rw [List.length_take]; omega
      obtain ⟨dx, tk, sl, e5, _⟩ := id hR5.ex
      refine ⟨_, rfl, R.p, dx, _, rfl, e5, rfl, _, rfl, R, _, _, _, kd, rfl, hR5, by omega, rg.1, rg.2, by omega, fun H6 v hR6 aw6 => ?_⟩
      refine ⟨⟨_, rfl⟩, ?_, aw5.trans aw6⟩
      rw [l5] at hR6
      have ek : ks.take (c + i) ++ [kd] = ks.take (c + (i + 1)) := by
        rw [← Nat.add_assoc, List.take_succ, hkd]
        rfl
      have er : List.range (c + i) ++ [c + i] = List.range (c + (i + 1)) := by
        rw [← Nat.add_assoc, List.range_succ]
      rw [ek, er] at hR6
      exact hR6
    obtain ⟨⟨x5, rfl⟩, hR5, aw5⟩ := hW
    have ed : c + (iV (ks.drop c)).length = ks.length := by rw [List.length_map, List.length_drop]; omega
    rw [ed, List.take_length] at hR5
    have B5 : 24 + 2 * (iV (ks.drop c)).length ≤ 72 := by omega
    generalize 24 + 2 * (iV (ks.drop c)).length = B at hR5 B5
    have s5 : Same H H5 := aw5.same s03 fr0
    -- the taking
    have er := range_row (n := ks.length) lo
    have en := ends_row (n := ks.length) lo
    refine ⟨_, rfl, b, rfl, ⟨_, SqL.of (s5 _ _ hB)⟩, ?_⟩
    refine for_list (K := K) (a := b) (xs := nV r) (fun i σ6 H6 => (∃ (lost : Int) (x4 x6 x7 : Option V), lost = pot (at0 ks) (play (at0 ks) (List.range ks.length) (r.take i)) - least ks ∧ σ6 = [some (.ref a), some (.ref b), some (.int c), some (.ref R.p), x4, some (.int lost), x6, x7]) ∧ RowAt K CR H6 R ks (play (at0 ks) (List.range ks.length) (r.take i)).1 (B + 4 * i) ∧ Away R H5 H6)
      ⟨⟨0, _, _, _, ?_, rfl⟩, hR5, Away.of (Same.refl _)⟩ (fun i σ6 H6 _ hW => SqL.of (hW.2.2.same s5 fr0 _ _ hB)) (fun i x σ6 H6 hx hW => ?_) (fun σ6 H6 hW => ?_)
    · rw [List.take_zero, pot_zero, kinds_row]
      omega
    · obtain ⟨⟨lost, x4, x6, x7, elost, rfl⟩, hR6, aw6⟩ := hW
      rw [List.getElem?_map] at hx
      obtain ⟨bd, hb, rfl⟩ := Option.map_eq_some_iff.mp hx
      obtain ⟨pq, q1, q2, q3, q4, q5, q6⟩ := run_step (f := at0 ks) en nd hin hb
      have ps := pot_step (f := at0 ks) en nd hin hb
      rw [← er] at q2 q3 q4 q5 q6 ps
      have il : i < r.length := by
        by_cases z : i < r.length
        · exact z
        · rw [List.getElem?_eq_none (by omega)] at hb; cases hb
      have q6s : (play (at0 ks) (List.range ks.length) (r.take (i + 1))).1 = (play (at0 ks) (List.range ks.length) (r.take i)).1.eraseIdx pq := by
        rw [q6]
        show List.eraseIdx _ _ = _
        rw [q5]
      rw [q5] at ps
      rw [q6s, ps]
      clear q6s ps q6
      generalize hst : (play (at0 ks) (List.range ks.length) (r.take i)).1 = stn at *
      generalize pot (at0 ks) (play (at0 ks) (List.range ks.length) (r.take i)) = pt at *
      have mi := mem_inner.mp (hin bd (List.mem_of_getElem? hb))
      refine ⟨_, rfl, R, ks, stn, _, rfl, hR6, by omega, q4, fun H7 d kvs s7 hd hdl hv => ?_⟩
      have hv7 := hv pq bd q3 q1 q2
      have g7 : DGet H7 d (.int (bd : Nat)) (some (.int (loss (stn.map (at0 ks)) pq))) := by
        have := DGet.k (k := Sum.inl (bd : Int)) hd
        rw [hv7] at this
        exact this
      refine ⟨_, rfl, _, _, _, _, true, rfl, .ty _, .base (.dK hd), kit_ty (by decide +kernel), true, rfl, iteF ?_⟩
      refine ⟨_, rfl, d, rfl, .inl ⟨_, .inl hd⟩, _, rfl, _, g7, _, rfl, true, rfl, iteF ?_⟩
      refine ⟨_, rfl, _, rfl, d, rfl, .inl ⟨_, .inl hd⟩, _, rfl, _, g7, _, _, rfl, rfl, ?_⟩
      have hR7 := hR6.same s7
      obtain ⟨dx, tk, sl, e7, _⟩ := id hR7.ex
      refine ⟨_, rfl, R.p, dx, _, rfl, e7, rfl, _, rfl, R, ks, stn, _, pq, bd, rfl, hR7, by omega, ⟨q4, q3, q1, q2, by omega, by omega⟩, fun H8 m hR8 aw8 => ?_⟩
      exact ⟨⟨_, _, _, _, by omega, rfl⟩, hR8, (aw6.trans (Away.of s7)).trans aw8⟩
    · obtain ⟨⟨lost, x4, x6, x7, elost, rfl⟩, hR6, aw6⟩ := hW
      have el : r.take (nV r).length = r := by rw [List.length_map, List.take_length]
      rw [el] at elost hR6
      have wl := whole_len (f := at0 ks) en nd hin
      have pw := pot_whole (f := at0 ks) en nd hin (by rw [hlen, inner_len])
      rw [← er, inner_len] at wl
      rw [← er] at pw
      have pn : (play (at0 ks) (List.range ks.length) r).1.Nodup := by
        have := play_row (f := at0 ks) en _ _ rfl nd hin
        rw [er, this, ← en.filter hin]
        exact List.Sublist.nodup List.filter_sublist en.nd
      have s6 : Same H H6 := aw6.same s5 fr0
      refine ⟨_, rfl, R, ks, _, _, rfl, hR6, by omega, pn, fun H7 d kvs s7 hd hdl hv => ?_⟩
      have s07 := s6.trans s7
      refine ⟨_, rfl, _, _, _, _, true, rfl, .ty _, .base (.dK hd), kit_ty (by decide +kernel), true, rfl, iteF ?_⟩
      refine ⟨_, rfl, d, kvs, rfl, hd, rfl, _, rfl, iteN (fun z => absurd ?_ z) fun _ => ?_⟩
      · omega
      refine ⟨_, rfl, _, rfl, _, rfl, a, b, ks, r, rfl, s07.seq hA, SqL.of (s07 _ _ hB), lo, hi, nd, hin, fun H8 s8 => ?_⟩
      refine ⟨_, rfl, a, ks, rfl, (s07.trans s8).seq hA, lo, hi, fun H9 s9 => ?_⟩
      refine ⟨_, _, rfl, rfl, rfl, ?_⟩
      have e : decide (V.int lost = V.int (tollOf ks r - least ks)) = true := decide_eq_true (by rw [elost, pw]; rfl)
      show Q (V.bl (decide (V.int lost = V.int (tollOf ks r - least ks)))) H9
      rw [e]
      exact k H9
end
end Bm

namespace Bm
open PySem L2
section
variable {P : Program} {w : World} {K : PySem.W.Frag} {mg : Str → Option Value} {base : Heap} {CP CS CR : Addr}
def spLaw (K : PySem.W.Frag) : Sp := fun vs H Q _ => ∃ (a : Addr) (ns : List Int), vs = [.ref a] ∧ SqL K H a (iV ns) ∧ ∀ H' : Hp, Q (.bl true) H'
theorem scLaw : FnScope ["_law_script", "_law_flags", "_law_kinds_here", "_law_due", "_law_made", "_law_told", "_law_wide", "_law_order", "_law_begun"] ["_law_script"] (defScope sLaw) := ⟨rfl, rfl, rfl, by decide +kernel, rfl, by decide +kernel, by decide +kernel⟩
theorem ok_law (T : Txt K mg CP CS CR) {f : Addr} {fd : FuncData} (F : Fun K "law" "law" sLaw f fd) : FnOk P w K mg base CX0 8 f fd ["_law_script"] (spLaw K) := by
  refine F.ok scLaw (fun vs H Q E h => ?_) (fun cdv A outer s H vs Q E hr h => ?_)
  · obtain ⟨a, ns, rfl, _⟩ := h
    rfl
  · obtain ⟨a, ns, rfl, hA, k⟩ := h
    obtain ⟨fT, fdT, FT, mT, bT⟩ := T.dThrift.ex
    refine ⟨_, pss_cons (ps_set (i := 1) scLaw.nd rfl (.inl rfl) (pc (c_draws T) hr (by decide) (by rfl) (pa_cons (pc (c_cell T) hr (by decide) (by rfl) (pa_cons (pv 0) (pa_cons pe_int pa_nil))) (pa_cons pe_int (pa_cons pe_int pa_nil)))))
      (pss_cons (ps_set (i := 2) scLaw.nd rfl (.inl rfl) (pc (c_beads T) hr (by decide) (by rfl) (pa_cons (pv 0) (pa_cons pe_int (pa_cons (pe_ix ix_list (pe_lst (pa_cons pe_int (pa_cons pe_int (pa_cons pe_int (pa_cons pe_int (pa_cons pe_int (pa_cons pe_int (pa_cons pe_int (pa_cons pe_int pa_nil))))))))) (pe_op op_mod (pe_callTy call_int1 (by rfl) (T.b "int") (by decide +kernel) (pa_cons (pe_ix ix_list (pv 1) pe_int (fun _ _ => rfl)) pa_nil)) pe_int) (fun _ _ => rfl)) pa_nil)))))
      (pss_cons (ps_set (i := 3) scLaw.nd rfl (.inl rfl) (pc (c_first T) hr (by decide) (by rfl) (pa_cons (pv 2) pa_nil)))
      (pss_cons (ps_set (i := 4) scLaw.nd rfl (.inl rfl) (pmk (mak_st T) hr (by decide) (by rfl) (pa_cons (pe_callTy call_list_of (by rfl) (T.b "list") (by decide +kernel) (pa_cons (pv 2) pa_nil)) pa_nil)))
      (pss_cons (ps_set (i := 5) scLaw.nd rfl (.inl rfl) (pc (c_thrift T) hr (by decide) (by rfl) (pa_cons (pv 4) pa_nil)))
      (pss_cons (ps_if (pt_not (pt_val (pc (c_same T) hr (by decide) (by rfl) (pa_cons (pv 5) (pa_cons (pv 3) pa_nil))))) pss_never pss_nil)
      (pss_cons (ps_expr (pe_bm PySem.F.plainAttrs_list PySem.F.slot_list_append PySem.F.type_list_append mt_append (pv 5) (pa_cons pe_int pa_nil)))
      (pss_cons (ps_if (pt_not (pt_val (pc (c_same T) hr (by decide) (by rfl) (pa_cons (pe_callN0 (ok_thrift T FT) (hr.mono (by decide)) (by rfl) mT FT.kp (kb_thrift FT) (pk_cons (pv 4) pk_nil)) (pa_cons (pv 3) pa_nil))))) pss_never pss_nil)
      (pss_cons (ps_set (i := 6) scLaw.nd rfl (.inl rfl) (pc (c_beads T) hr (by decide) (by rfl) (pa_cons (pv 0) (pa_cons pe_int (pa_cons (pe_ix ix_list (pe_lst (pa_cons pe_int (pa_cons pe_int (pa_cons pe_int (pa_cons pe_int (pa_cons pe_int (pa_cons pe_int (pa_cons pe_int (pa_cons pe_int pa_nil))))))))) (pe_op op_mod (pe_callTy call_int1 (by rfl) (T.b "int") (by decide +kernel) (pa_cons (pe_ix ix_list (pv 1) pe_int (fun _ _ => rfl)) pa_nil)) pe_int) (fun _ _ => rfl)) pa_nil)))))
      (pss_cons (ps_if (pt_not (pt_val (pc (c_isthr T) hr (by decide) (by rfl) (pa_cons (pv 6) (pa_cons (pc (c_thrift T) hr (by decide) (by rfl) (pa_cons (pmk (mak_st T) hr (by decide) (by rfl) (pa_cons (pe_callTy call_tuple_of (by rfl) (T.b "tuple") (by decide +kernel) (pa_cons (pv 6) pa_nil)) pa_nil)) pa_nil)) pa_nil))))) pss_never pss_nil)
      (pss_cons (ps_set (i := 7) scLaw.nd rfl (.inl rfl) (pc (c_shuf T) hr (by decide) (by rfl) (pa_cons (pc (c_cell T) hr (by decide) (by rfl) (pa_cons (pv 0) (pa_cons pe_int pa_nil))) (pa_cons (pe_listRg (by rfl) (by rfl) (T.b "list") (prg_2 (by rfl) (T.b "range") pe_int (pe_op op_sub (pe_callB call_len_seq (by rfl) (T.b "len") PySem.boot_len (pa_cons (pv 6) pa_nil)) pe_int))) pa_nil))))
      (pss_cons (ps_set (i := 8) scLaw.nd rfl (.inl rfl) (pe_callB call_len_seq (by rfl) (T.b "len") PySem.boot_len (pa_cons (pv 6) pa_nil)))
      (pss_cons (ps_if (pt_cmpR op_eq (pe_op op_mod (pe_callTy call_int1 (by rfl) (T.b "int") (by decide +kernel) (pa_cons (pe_ix ix_list (pv 1) pe_int (fun _ _ => rfl)) pa_nil)) pe_int) pe_int (nomark _))
        (pss_one (ps_set (i := 8) scLaw.nd rfl (.inl rfl) (pe_op op_add pe_int (pe_op op_mod (pe_callTy call_int1 (by rfl) (T.b "int") (by decide +kernel) (pa_cons (pe_ix ix_list (pv 1) pe_int (fun _ _ => rfl)) pa_nil)) (pe_op op_sub (pe_callB call_len_seq (by rfl) (T.b "len") PySem.boot_len (pa_cons (pv 6) pa_nil)) pe_int))))) pss_nil)
      (pss_one (ps_ret (pc (c_adds T) hr (by decide) (by rfl) (pa_cons (pv 6) (pa_cons (pv 7) (pa_cons (pv 8) pa_nil)))))))))))))))))), ?_⟩
    -- flags
    refine ⟨_, rfl, a, ns, 5, rfl, hA, fun c => ⟨c, 1000, 4, rfl, by decide, by decide, by decide, fun H1 l1 ds s1 hl1 len1 b1 => ?_⟩⟩
    obtain ⟨d0, _, e0⟩ := at_int (ks := ds) (i := 0) (by omega) (by omega)
    obtain ⟨d1, _, e1⟩ := at_int (ks := ds) (i := 1) (by omega) (by omega)
    obtain ⟨d2, _, e2⟩ := at_int (ks := ds) (i := 2) (by omega) (by omega)
    obtain ⟨d3, _, e3⟩ := at_int (ks := ds) (i := 3) (by omega) (by omega)
    -- the kinds of few beads
    refine ⟨_, rfl, by show 8 ≤ sizeLine; decide, fun l2 nl2 => ?_⟩
    have s2 := same_upd (o := .lst (iV [7, 6, 6, 6, 6, 6, 6, 6])) nl2
    obtain ⟨m1, hm1, em1⟩ := at_mod (ks := [7, 6, 6, 6, 6, 6, 6, 6]) (z := d0) (n := 8) rfl (by decide)
    have bm1 : 6 ≤ m1 ∧ m1 ≤ 7 := by
      simp only [List.mem_cons, List.not_mem_nil, or_false] at hm1
      omega
    obtain ⟨M1, rfl⟩ : ∃ M1 : Nat, m1 = M1 := ⟨m1.toNat, by omega⟩
    refine ⟨_, rfl, l1, _, _, _, rfl, rfl, SqL.of (s2 _ _ hl1), e0, .inl ⟨_, rfl, _, _, rfl, rfl, (by show (0 : Int) < 8; decide), l2, iV [7, 6, 6, 6, 6, 6, 6, 6], _, _, rfl, rfl, SqL.of upd_same, em1, ?_⟩⟩
    refine ⟨a, ns, 0, M1, rfl, (s1.trans s2).seq hA, by omega, by omega, fun H3 lk ks s3 hlk ok kl => ?_⟩
    have s03 := (s1.trans s2).trans s3
    have lo := ok.lo
    -- what is due
    refine ⟨_, rfl, lk, ks, rfl, SqL.of hlk, lo, by omega, fun H4 du s4 hdu => ?_⟩
    -- the strand
    refine ⟨_, rfl, lk, _, rfl, .inl (SqL.of (s4 _ _ hlk)), fun lc nlc => ?_⟩
    have s5 := same_upd (o := .lst (iV ks)) nlc
    refine rd_strandA (K := K) (CS := CS) ok (.inl (SqL.of upd_same)) fun H6 st s6 hS => ?_
    have s46 := s5.trans s6
    -- the order told
    refine ⟨_, rfl, st, ks, rfl, hS, fun H7 o1 s7 no1 ho1 => ?_⟩
    refine ⟨_, rfl, _, rfl, o1, du, thrift ks, rfl, ho1, s7 _ _ (s46 _ _ hdu), ?_, true, rfl, iteF ?_⟩
    · rw [(thrift_run lo).2.2]; omega
    refine ⟨_, rfl, .inl ⟨rfl, _, SqL.of ho1⟩, o1, _, _, rfl, rfl, ho1, ?_, ?_⟩
    · rw [List.length_map, (thrift_run lo).2.2]
      exact small1000 (by omega)
    have s68 : Same H6 (upd H7 o1 (.lst (nV (thrift ks) ++ [.int 0]))) := fun x o e => by
      rw [upd_ne (ne_of_none e no1)]
      exact s7 _ _ e
    generalize upd H7 o1 (.lst (nV (thrift ks) ++ [.int 0])) = H8 at s68
    -- again
    refine ⟨_, rfl, rfl, rfl, st, ks, rfl, hS.same s68, fun H9 o2 s9 no2 ho2 => ?_⟩
    refine ⟨_, rfl, o2, du, thrift ks, rfl, ho2, s9 _ _ (s68 _ _ (s46 _ _ hdu)), ?_, true, rfl, iteF ?_⟩
    · rw [(thrift_run lo).2.2]; omega
    have s39 : Same H4 H9 := (s46.trans s68).trans s9
    have s09 : Same H H9 := (s03.trans s4).trans s39
    have hl9 : H9 l1 = some (.lst (iV ds)) := s39 _ _ (s4 _ _ (s3 _ _ (s2 _ _ hl1)))
    -- the wider strand
    refine ⟨_, rfl, by show 8 ≤ sizeLine; decide, fun l10 nl10 => ?_⟩
    have s10 := same_upd (o := .lst (iV [10, 8, 8, 8, 8, 8, 8, 8])) nl10
    obtain ⟨m2, hm2, em2⟩ := at_mod (ks := [10, 8, 8, 8, 8, 8, 8, 8]) (z := d1) (n := 8) rfl (by decide)
    have bm2 : 6 ≤ m2 ∧ m2 ≤ 10 := by
      simp only [List.mem_cons, List.not_mem_nil, or_false] at hm2
      omega
    obtain ⟨M2, rfl⟩ : ∃ M2 : Nat, m2 = M2 := ⟨m2.toNat, by omega⟩
    refine ⟨_, rfl, l1, _, _, _, rfl, rfl, SqL.of (s10 _ _ hl9), e1, .inl ⟨_, rfl, _, _, rfl, rfl, (by show (0 : Int) < 8; decide), l10, iV [10, 8, 8, 8, 8, 8, 8, 8], _, _, rfl, rfl, SqL.of upd_same, em2, ?_⟩⟩
    refine ⟨a, ns, 2, M2, rfl, (s09.trans s10).seq hA, by omega, by omega, fun H11 lw kw s11 hlw okw kwl => ?_⟩
    have lo2 := okw.lo
    have hl11 := s11 _ _ (s10 _ _ hl9)
    -- it is thrifty
    refine ⟨_, rfl, _, rfl, lw, _, rfl, .inl ⟨SqL.of hlw, fun tw ntw => ?_⟩⟩
    have s12 := same_upd (o := .tup (iV kw)) ntw
    refine rd_strandA (K := K) (CS := CS) okw (.inr (SqT.of upd_same)) fun H13 sw s13 hSw => ?_
    have s1113 := s12.trans s13
    refine ⟨sw, kw, rfl, hSw, fun H14 ow s14 now how => ?_⟩
    have s1114 := s1113.trans s14
    refine ⟨lw, ow, kw, rfl, SqL.of (s1114 _ _ hlw), how, lo2, by omega, fun H15 s15 => ⟨true, rfl, iteF ?_⟩⟩
    have s1115 := s1114.trans s15
    have s015 : Same H H15 := ((s09.trans s10).trans s11).trans s1115
    -- any order
    have ew : ((iV kw).length : Int) = kw.length := by simp
    refine ⟨_, rfl, a, ns, 4, rfl, s015.seq hA, fun c4 => ⟨_, rfl, lw, _, rfl, .inl (SqL.of (s1115 _ _ hlw)), _, _, rfl, rfl, ?_⟩⟩
    dsimp only
    rw [ew]
    refine ⟨1, _, rfl, rfl, RgOk.of_le (by omega) (by omega) (by omega) (by omega), fun L nL => ?_⟩
    rw [rg_inner]
    have s16 := same_upd (o := .lst (nV (inner kw.length))) nL
    refine ⟨c4, L, inner kw.length, rfl, SqL.of upd_same, by rw [inner_len]; omega, fun H17 lo17 r s17 hr17 pr => ?_⟩
    have s1117 := (s1115.trans s16).trans s17
    have hw17 := s1117 _ _ hlw
    have hl17 := s1117 _ _ hl11
    have rnd : r.Nodup := pr.nodup_iff.mpr (ends_row (n := kw.length) lo2).ndi
    have rin : ∀ x ∈ r, x ∈ inner kw.length := fun x hx => pr.mem_iff.mp hx
    have rl : r.length = kw.length - 2 := by rw [pr.length_eq, inner_len]
    -- how many beads it begins with
    refine ⟨_, rfl, lw, _, rfl, .inl (SqL.of hw17), ?_⟩
    rw [ew]
    refine ⟨_, rfl, l1, _, _, _, rfl, rfl, SqL.of hl17, e2, .inl ⟨_, rfl, _, _, rfl, rfl, (by show (0 : Int) < 4; decide), rfl, _, rfl, ?_⟩⟩
    refine iteQ (fun _ => ?_) fun _ => ?_
    · have md := And.intro (Int.emod_nonneg d3 (show (kw.length : Int) - 1 ≠ 0 by omega)) (Int.emod_lt_of_pos d3 (show (0 : Int) < (kw.length : Int) - 1 by omega))
      obtain ⟨c, hc⟩ : ∃ c : Nat, 2 + d3 % ((kw.length : Int) - 1) = c := ⟨(2 + d3 % ((kw.length : Int) - 1)).toNat, by omega⟩
      refine ⟨_, rfl, l1, _, _, _, rfl, rfl, SqL.of hl17, e3, .inl ⟨_, rfl, _, rfl, lw, _, rfl, .inl (SqL.of hw17), _, _, rfl, rfl, _, _, rfl, rfl, ?_, _, _, rfl, rfl, ?_⟩⟩
      · show (0 : Int) < ((iV kw).length : Int) - 1
        rw [ew]
        omega
      · refine ⟨_, rfl, _, rfl, _, rfl, lw, lo17, kw, r, c, ?_, SqL.of hw17, okw, hr17, rnd, rin, rl, by omega, by omega, k⟩
        show [V.ref lw, V.ref lo17, V.int (2 + d3 % (((iV kw).length : Int) - 1))] = _
        rw [ew, hc]
    · exact ⟨_, rfl, _, rfl, _, rfl, lw, lo17, kw, r, kw.length, rfl, SqL.of hw17, okw, hr17, rnd, rin, rl, by omega, by omega, k⟩
end
end Bm

namespace Bm
open PySem L2
/-- the law's own head -/
theorem all_mk {l : PySem.W.OpenLaw} {w : World} {K : PySem.W.Frag} {h : Heap} {mg : Str → Option Value} {fa f2 : Addr} (X : K.In h) (G : h.Ns mainGlobals mg) (hfa : mg "law" = some (.ref fa)) (T : ∃ CP CS CR : Addr, Txt K mg CP CS CR)
    {od2 an2 : Option Addr} {sl2 : Array (Option Value)} {oc2 kV2 dc2 pm2 cd2 ct2 : Value}
    (a2 : PySem.W.nsIn K mainGlobals "law" = some (some (.ref f2))) (l2 : K.lookup f2 = some ⟨oc2, od2, .func (PySem.W.fnOf "law" "law" (defArgs sLaw) (defBody sLaw) (defScope sLaw) .none kV2 dc2 pm2 an2 cd2 ct2), sl2⟩) (c2 : PySem.W.codeIn K cd2 "law" = true) (k2 : PySem.W.keepIn K (.ref f2) = true) :
    ∃ fd : FuncData, (∀ (s : Shared) (v : Value), BindsTo s fd ⟨[v], []⟩ [("_law_script", v)]) ∧ ∀ base : Heap, K.In base → base.Ns mainGlobals mg → FnOk l.prog w K mg base CX0 8 fa fd ["_law_script"] (spLaw K) := by
  obtain ⟨CP, CS, CR, T⟩ := T
  have e := hfa.symm.trans (PySem.W.mg_of X G a2)
  cases e
  exact ⟨PySem.W.fnOf "law" "law" (defArgs sLaw) (defBody sLaw) (defScope sLaw) .none kV2 dc2 pm2 an2 cd2 ct2, fun s v => .of_eq rfl, fun base _ _ => ok_law T (fun_mk (st := sLaw) l2 c2 k2)⟩
end Bm

open PySem PySem.W PyProof.Rows
set_option maxHeartbeats 0 in
theorem PySem.Challenge.cw_beadmoot_k40_whole_thrift_holds : PySem.Challenge.rw_beadmoot_k40_whole_thrift.Holds := by
  w_on; o_law; k_head; (case hw => w_witness2)
  k_fill
  refine L2.walk_of (l := PySem.Challenge.rw_beadmoot_k40_whole_thrift) (n := 63) (k := 8) (x := "_law_script") (CX := fun _ => L2.CX0) (sp := fun w => Bm.spLaw _) rfl (by decide) rfl ⟨rfl, by decide, by decide⟩ (fun w h Y => PySem.W.kIn_of Y) ?F (fun _ _ a ns hl _ hS => ⟨a, ns, rfl, hS, fun _ => rfl⟩) (fun _ _ _ _ _ h => h)
  case F =>
    intro w mg fa h KX G hmg
    refine' Bm.all_mk KX G hmg ⟨_, _, _, Bm.txt_mk KX G ?aCP ?pgCP ?hdCP ?poCP ?saCP ?mkCP ?kcCP ?aCS ?pgCS ?hdCS ?poCS ?saCS ?mkCS ?kcCS ?aCR ?pgCR ?hdCR ?poCR ?saCR ?mkCR ?kcCR ?nCP0 ?nCP1 ?nCP2 ?nCP3 ?nCS0 ?nCS1 ?nCS2 ?nCS3 ?nCS4 ?nCR0 ?nCR1 ?nCR2 ?nCR3 ?nCR4 ?nCR5 ?api ?ipi ?lpi ?cpi ?kpi ?kw0 ?kw1 ?kw2 ?kw3 ?asi ?isi ?lsi ?csi ?ksi ?ari ?iri ?lri ?cri ?kri ?apc ?ipc ?jpc ?lpc ?cpc ?kpc ?ars ?grs ?trs ?rrs ?lrs ?crs ?krs ?rdS ?gaS ?moS ?toS ?aMk ?lMk ?aTop ?z0 ?z1 ?z2 ?z3 ?z4 ?z5 ?z6 ?z7 ?z8 ?z9 ?z10 ?z11 ?z12 ?am0 ?im0 ?lm0 ?cm0 ?km0 ?am1 ?im1 ?lm1 ?cm1 ?km1 ?am2 ?im2 ?lm2 ?cm2 ?km2 ?am3 ?im3 ?lm3 ?cm3 ?km3 ?am4 ?im4 ?lm4 ?cm4 ?km4 ?am5 ?im5 ?lm5 ?cm5 ?km5 ?am6 ?im6 ?lm6 ?cm6 ?km6 ?am7 ?im7 ?lm7 ?cm7 ?km7 ?ad0 ?ld0 ?cd0 ?kd0 ?ad1 ?ld1 ?cd1 ?kd1 ?ad2 ?ld2 ?cd2 ?kd2 ?ad3 ?ld3 ?cd3 ?kd3 ?ad4 ?ld4 ?cd4 ?kd4 ?ad5 ?ld5 ?cd5 ?kd5 ?ad6 ?ld6 ?cd6 ?kd6 ?ad7 ?ld7 ?cd7 ?kd7 ?ad8 ?ld8 ?cd8 ?kd8 ?ad9 ?ld9 ?cd9 ?kd9 ?ad10 ?ld10 ?cd10 ?kd10 ?ad11 ?ld11 ?cd11 ?kd11 ?ad12 ?ld12 ?cd12 ?kd12 ?ad13 ?ld13 ?cd13 ?kd13 ?ad14 ?ld14 ?cd14 ?kd14 ?ad15 ?ld15 ?cd15 ?kd15 ?ad16 ?ld16 ?cd16 ?kd16 ?ad17 ?ld17 ?cd17 ?kd17 ?ad18 ?ld18 ?cd18 ?kd18 ?ad19 ?ld19 ?cd19 ?kd19 ?ad20 ?ld20 ?cd20 ?kd20 ?ad21 ?ld21 ?cd21 ?kd21 ?ad22 ?ld22 ?cd22 ?kd22 ?ad23 ?ld23 ?cd23 ?kd23 ?ad24 ?ld24 ?cd24 ?kd24 ?ad25 ?ld25 ?cd25 ?kd25 ?ad26 ?ld26 ?cd26 ?kd26⟩ ?lwA ?lwL ?lwC ?lwK
    (case aCP => k_is)
    (case pgCP => k_is)
    (case hdCP => k_is)
    (case poCP => k_is)
    (case saCP => k_is)
    (case mkCP => k_is)
    (case kcCP => k_is)
    (case aCS => k_is)
    (case pgCS => k_is)
    (case hdCS => k_is)
    (case poCS => k_is)
    (case saCS => k_is)
    (case mkCS => k_is)
    (case kcCS => k_is)
    (case aCR => k_is)
    (case pgCR => k_is)
    (case hdCR => k_is)
    (case poCR => k_is)
    (case saCR => k_is)
    (case mkCR => k_is)
    (case kcCR => k_is)
    (case nCP0 => k_is)
    (case nCP1 => k_is)
    (case nCP2 => k_is)
    (case nCP3 => k_is)
    (case nCS0 => k_is)
    (case nCS1 => k_is)
    (case nCS2 => k_is)
    (case nCS3 => k_is)
    (case nCS4 => k_is)
    (case nCR0 => k_is)
    (case nCR1 => k_is)
    (case nCR2 => k_is)
    (case nCR3 => k_is)
    (case nCR4 => k_is)
    (case nCR5 => k_is)
    (case api => k_is)
    (case ipi => k_is)
    (case lpi => k_is)
    (case cpi => k_is)
    (case kpi => k_is)
    (case kw0 => k_is)
    (case kw1 => k_is)
    (case kw2 => k_is)
    (case kw3 => k_is)
    (case asi => k_is)
    (case isi => k_is)
    (case lsi => k_is)
    (case csi => k_is)
    (case ksi => k_is)
    (case ari => k_is)
    (case iri => k_is)
    (case lri => k_is)
    (case cri => k_is)
    (case kri => k_is)
    (case apc => k_is)
    (case ipc => k_is)
    (case jpc => k_is)
    (case lpc => k_is)
    (case cpc => k_is)
    (case kpc => k_is)
    (case ars => k_is)
    (case grs => k_is)
    (case trs => k_is)
    (case rrs => k_is)
    (case lrs => k_is)
    (case crs => k_is)
    (case krs => k_is)
    (case rdS => k_is)
    (case gaS => k_is)
    (case moS => k_is)
    (case toS => k_is)
    (case aMk => k_is)
    (case lMk => k_is)
    (case aTop => k_is)
    (case z0 => k_is)
    (case z1 => k_is)
    (case z2 => k_is)
    (case z3 => k_is)
    (case z4 => k_is)
    (case z5 => k_is)
    (case z6 => k_is)
    (case z7 => k_is)
    (case z8 => k_is)
    (case z9 => k_is)
    (case z10 => k_is)
    (case z11 => k_is)
    (case z12 => k_is)
    (case am0 => k_is)
    (case im0 => k_is)
    (case lm0 => k_is)
    (case cm0 => k_is)
    (case km0 => k_is)
    (case am1 => k_is)
    (case im1 => k_is)
    (case lm1 => k_is)
    (case cm1 => k_is)
    (case km1 => k_is)
    (case am2 => k_is)
    (case im2 => k_is)
    (case lm2 => k_is)
    (case cm2 => k_is)
    (case km2 => k_is)
    (case am3 => k_is)
    (case im3 => k_is)
    (case lm3 => k_is)
    (case cm3 => k_is)
    (case km3 => k_is)
    (case am4 => k_is)
    (case im4 => k_is)
    (case lm4 => k_is)
    (case cm4 => k_is)
    (case km4 => k_is)
    (case am5 => k_is)
    (case im5 => k_is)
    (case lm5 => k_is)
    (case cm5 => k_is)
    (case km5 => k_is)
    (case am6 => k_is)
    (case im6 => k_is)
    (case lm6 => k_is)
    (case cm6 => k_is)
    (case km6 => k_is)
    (case am7 => k_is)
    (case im7 => k_is)
    (case lm7 => k_is)
    (case cm7 => k_is)
    (case km7 => k_is)
    (case ad0 => k_is)
    (case ld0 => k_is)
    (case cd0 => k_is)
    (case kd0 => k_is)
    (case ad1 => k_is)
    (case ld1 => k_is)
    (case cd1 => k_is)
    (case kd1 => k_is)
    (case ad2 => k_is)
    (case ld2 => k_is)
    (case cd2 => k_is)
    (case kd2 => k_is)
    (case ad3 => k_is)
    (case ld3 => k_is)
    (case cd3 => k_is)
    (case kd3 => k_is)
    (case ad4 => k_is)
    (case ld4 => k_is)
    (case cd4 => k_is)
    (case kd4 => k_is)
    (case ad5 => k_is)
    (case ld5 => k_is)
    (case cd5 => k_is)
    (case kd5 => k_is)
    (case ad6 => k_is)
    (case ld6 => k_is)
    (case cd6 => k_is)
    (case kd6 => k_is)
    (case ad7 => k_is)
    (case ld7 => k_is)
    (case cd7 => k_is)
    (case kd7 => k_is)
    (case ad8 => k_is)
    (case ld8 => k_is)
    (case cd8 => k_is)
    (case kd8 => k_is)
    (case ad9 => k_is)
    (case ld9 => k_is)
    (case cd9 => k_is)
    (case kd9 => k_is)
    (case ad10 => k_is)
    (case ld10 => k_is)
    (case cd10 => k_is)
    (case kd10 => k_is)
    (case ad11 => k_is)
    (case ld11 => k_is)
    (case cd11 => k_is)
    (case kd11 => k_is)
    (case ad12 => k_is)
    (case ld12 => k_is)
    (case cd12 => k_is)
    (case kd12 => k_is)
    (case ad13 => k_is)
    (case ld13 => k_is)
    (case cd13 => k_is)
    (case kd13 => k_is)
    (case ad14 => k_is)
    (case ld14 => k_is)
    (case cd14 => k_is)
    (case kd14 => k_is)
    (case ad15 => k_is)
    (case ld15 => k_is)
    (case cd15 => k_is)
    (case kd15 => k_is)
    (case ad16 => k_is)
    (case ld16 => k_is)
    (case cd16 => k_is)
    (case kd16 => k_is)
    (case ad17 => k_is)
    (case ld17 => k_is)
    (case cd17 => k_is)
    (case kd17 => k_is)
    (case ad18 => k_is)
    (case ld18 => k_is)
    (case cd18 => k_is)
    (case kd18 => k_is)
    (case ad19 => k_is)
    (case ld19 => k_is)
    (case cd19 => k_is)
    (case kd19 => k_is)
    (case ad20 => k_is)
    (case ld20 => k_is)
    (case cd20 => k_is)
    (case kd20 => k_is)
    (case ad21 => k_is)
    (case ld21 => k_is)
    (case cd21 => k_is)
    (case kd21 => k_is)
    (case ad22 => k_is)
    (case ld22 => k_is)
    (case cd22 => k_is)
    (case kd22 => k_is)
    (case ad23 => k_is)
    (case ld23 => k_is)
    (case cd23 => k_is)
    (case kd23 => k_is)
    (case ad24 => k_is)
    (case ld24 => k_is)
    (case cd24 => k_is)
    (case kd24 => k_is)
    (case ad25 => k_is)
    (case ld25 => k_is)
    (case cd25 => k_is)
    (case kd25 => k_is)
    (case ad26 => k_is)
    (case ld26 => k_is)
    (case cd26 => k_is)
    (case kd26 => k_is)
    (case lwA => k_is)
    (case lwL => k_is)
    (case lwC => k_is)
    (case lwK => k_is)
